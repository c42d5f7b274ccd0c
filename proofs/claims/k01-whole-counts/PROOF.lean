import PyProof.Rows.All
import Wide.All
import OpenK.AllK
import Wide.FinOn
import KE.KStateDown
import HandS.ForMost
import HandS.Evl
import HandS.IsInst
import HandS.SortInts
import HandS.RevRange
import HandS.Style
import HandS.Wide
import HandS.WideBits
import HandS.Defaults
import HandS.WordsExc
import HandS.Head0
import HandS.Head1
import HandS.Head2
import HandS.HeadEnd
import HandS.HeadHook1
import HandS.HeadHook2
import PySem.Challenge.RW_towerstair_k01_whole_counts
set_option Elab.async false
set_option linter.all false
set_option maxRecDepth 100000
set_option maxHeartbeats 4000000
namespace TS
open PySem PySem.Spec PyProof.Rows L2 Evl
local macro_rules | `(tactic| walk_at "ev") => `(tactic| repeat' (first
  | exact ev_c
  | exact ev_var rfl
  | exact ea_nil
  | refine ea_cons ?_ ?_
  | refine ev_op ?_ ?_ rv_I0
  | refine ev_op ?_ ?_ (rv_I ?_)
  | refine ev_op ?_ ?_ (rv_ne rfl)
  | refine ev_op ?_ ?_ (rv_eq rfl)
  | refine ev_un ?_ ru_neg
  | refine et_test ?_
  | refine et_B ?_
  | refine et_not ?_
  | refine ev_notV ?_
  | refine ev_max2 ?_ ?_))
/-- the list f 0, .., f (n - 1) -/
def tab {α : Type} (n : Nat) (f : Nat → α) : List α := (List.range n).map f
theorem tab_len {α : Type} (n : Nat) (f : Nat → α) : (tab n f).length = n := by simp [tab]
theorem tab_get {α : Type} {n : Nat} {f : Nat → α} {i : Nat} (h : i < n) : (tab n f)[i]? = some (f i) := by
  simp [tab, h]
theorem tab_congr {α : Type} {n : Nat} {f g : Nat → α} (h : ∀ i, i < n → f i = g i) : tab n f = tab n g := by
  unfold tab
  exact List.map_congr_left fun i hi => h i (List.mem_range.mp hi)
theorem tab_set {α : Type} {n : Nat} {f : Nat → α} {k : Nat} {v : α} : (tab n f).set k v = tab n (fun j => if j = k then v else f j) := by
  apply List.ext_getElem?
  intro i
  by_cases hi : i < n
  · rw [tab_get hi, List.getElem?_set]
    by_cases e : k = i
    · subst e
      simp [tab_len, hi]
    · rw [if_neg e, tab_get hi, if_neg (fun q => e q.symm)]
  · rw [List.getElem?_eq_none (by simp [tab_len]; omega), List.getElem?_eq_none (by simp [tab_len]; omega)]
theorem tab_succ {α : Type} (n : Nat) (f : Nat → α) : tab (n + 1) f = tab n f ++ [f n] := by
  simp [tab, List.range_succ]
theorem tab_map {α β : Type} (n : Nat) (f : Nat → α) (g : α → β) : (tab n f).map g = tab n (fun i => g (f i)) := by
  simp [tab]
theorem tab_zero {α : Type} (f : Nat → α) : tab 0 f = [] := rfl
theorem tab_of {α : Type} {l : List α} {f : Nat → α} (h : ∀ i x, l[i]? = some x → f i = x) : l = tab l.length f := by
  apply List.ext_getElem?
  intro i
  by_cases hi : i < l.length
  · rw [tab_get hi, List.getElem?_eq_getElem hi, h i _ (List.getElem?_eq_getElem hi)]
  · rw [List.getElem?_eq_none (by omega), List.getElem?_eq_none (by simp [tab_len]; omega)]

/-! ### sums -/
def sumN : Nat → (Nat → Int) → Int
  | 0, _ => 0
  | n + 1, f => sumN n f + f n
theorem sumN_congr : ∀ {n : Nat} {f g : Nat → Int}, (∀ i, i < n → f i = g i) → sumN n f = sumN n g
  | 0, _, _, _ => rfl
  | n + 1, f, g, h => by
    show sumN n f + f n = sumN n g + g n
    rw [sumN_congr (fun i hi => h i (by omega)), h n (by omega)]
theorem sumN_add : ∀ (n : Nat) (f g : Nat → Int), sumN n (fun i => f i + g i) = sumN n f + sumN n g
  | 0, _, _ => rfl
  | n + 1, f, g => by
    show sumN n (fun i => f i + g i) + (f n + g n) = (sumN n f + f n) + (sumN n g + g n)
    rw [sumN_add n f g]; omega
theorem sumN_mul : ∀ (n : Nat) (c : Int) (f : Nat → Int), sumN n (fun i => c * f i) = c * sumN n f
  | 0, c, _ => by simp [sumN]
  | n + 1, c, f => by
    show sumN n (fun i => c * f i) + c * f n = c * (sumN n f + f n)
    rw [sumN_mul n c f, Int.mul_add]
theorem sumN_first : ∀ (n : Nat) (f : Nat → Int), sumN (n + 1) f = f 0 + sumN n (fun i => f (i + 1))
  | 0, f => by simp [sumN]
  | n + 1, f => by
    show sumN (n + 1) f + f (n + 1) = f 0 + (sumN n (fun i => f (i + 1)) + f (n + 1))
    rw [sumN_first n f]; omega
theorem sumN_zero : ∀ {n : Nat} {f : Nat → Int}, (∀ i, i < n → f i = 0) → sumN n f = 0
  | 0, _, _ => rfl
  | n + 1, f, h => by
    show sumN n f + f n = 0
    rw [sumN_zero (fun i hi => h i (by omega)), h n (by omega)]; rfl

/-! ### the counts -/
/-- columns from the last one on -/
def R : List Int → Nat → Int
  | [], 0 => 1
  | [], _ + 1 => 0
  | _ :: t, 0 => R t 0
  | h :: t, k + 1 => R t (k + 1) + max 0 (h - k) * R t k
/-- how many ways for k towers -/
def C (hs : List Int) (k : Nat) : Int := R hs.reverse k
theorem C_nil0 : C [] 0 = 1 := rfl
theorem C_nil (k : Nat) : C [] (k + 1) = 0 := rfl
theorem C_snoc0 (hs : List Int) (h : Int) : C (hs ++ [h]) 0 = C hs 0 := by
  simp [C, R]
theorem C_snoc (hs : List Int) (h : Int) (k : Nat) : C (hs ++ [h]) (k + 1) = C hs (k + 1) + max 0 (h - k) * C hs k := by
  simp [C, R]
theorem R_big : ∀ {l : List Int} {k : Nat}, l.length < k → R l k = 0
  | [], 0, h => absurd h (by decide)
  | [], _ + 1, _ => rfl
  | _ :: t, 0, h => absurd h (by omega)
  | a :: t, k + 1, h => by
    have h' : t.length < k := by simpa using h
    show R t (k + 1) + max 0 (a - k) * R t k = 0
    rw [R_big (by omega), R_big h']; simp
theorem C_big {hs : List Int} {k : Nat} (h : hs.length < k) : C hs k = 0 := R_big (by simpa using h)
theorem R_zero : ∀ l : List Int, R l 0 = 1
  | [] => rfl
  | _ :: t => R_zero t
theorem C_zero (hs : List Int) : C hs 0 = 1 := R_zero _
theorem R_nonneg : ∀ (l : List Int) (k : Nat), 0 ≤ R l k
  | [], 0 => by decide
  | [], _ + 1 => by simp [R]
  | _ :: t, 0 => R_nonneg t 0
  | a :: t, k + 1 => by
    show 0 ≤ R t (k + 1) + max 0 (a - k) * R t k
    have h1 := R_nonneg t (k + 1)
    have h2 := Int.mul_nonneg (Int.le_max_left 0 (a - k)) (R_nonneg t k)
    omega
theorem C_nonneg (hs : List Int) (k : Nat) : 0 ≤ C hs k := R_nonneg _ _
/-- no towers above the highest column -/
theorem R_high {M : Int} (hM : 0 ≤ M) : ∀ {l : List Int} {k : Nat}, (∀ h ∈ l, h ≤ M) → M < k → R l k = 0
  | [], 0, _, h => by omega
  | [], _ + 1, _, _ => rfl
  | _ :: t, 0, _, h => by omega
  | a :: t, k + 1, hl, h => by
    show R t (k + 1) + max 0 (a - k) * R t k = 0
    rw [R_high hM (fun x hx => hl x (List.mem_cons_of_mem _ hx)) h]
    have ha := hl a List.mem_cons_self
    rw [show max 0 (a - (k : Int)) = 0 by omega]; simp
theorem C_high {M : Int} (hM : 0 ≤ M) {hs : List Int} {k : Nat} (hl : ∀ h ∈ hs, h ≤ M) (h : M < k) : C hs k = 0 :=
  R_high hM (fun x hx => hl x (by simpa using hx)) h
/-- stairs -/
structure Stairs (hs : List Int) : Prop where
  pos : ∀ h ∈ hs, 0 ≤ h
  up : hs.Pairwise (· ≤ ·)
theorem Stairs.nil : Stairs [] := ⟨by simp, .nil⟩
theorem Stairs.front {hs : List Int} {h : Int} (s : Stairs (hs ++ [h])) : Stairs hs ∧ (∀ x ∈ hs, x ≤ h) ∧ 0 ≤ h := by
  have u := List.pairwise_append.mp s.up
  exact ⟨⟨fun x hx => s.pos x (by simp [hx]), u.1⟩, fun x hx => u.2.2 x hx h (by simp), s.pos h (by simp)⟩
theorem Stairs.snoc {hs : List Int} {h : Int} (s : Stairs hs) (h1 : ∀ x ∈ hs, x ≤ h) (h2 : 0 ≤ h) : Stairs (hs ++ [h]) := by
  refine ⟨fun x hx => ?_, List.pairwise_append.mpr ⟨s.up, by simp, fun a ha b hb => ?_⟩⟩
  · rcases List.mem_append.mp hx with hx | hx
    · exact s.pos x hx
    · have e : x = h := by simpa using hx
      omega
  · have e : b = h := by simpa using hb
    rw [e]; exact h1 a ha
theorem Stairs.take {hs : List Int} (s : Stairs hs) (n : Nat) : Stairs (hs.take n) :=
  ⟨fun x hx => s.pos x (List.mem_of_mem_take hx), s.up.sublist (List.take_sublist n hs)⟩
theorem Stairs.drop {hs : List Int} (s : Stairs hs) (n : Nat) : Stairs (hs.drop n) :=
  ⟨fun x hx => s.pos x (List.mem_of_mem_drop hx), s.up.sublist (List.drop_sublist n hs)⟩
/-- of sorted columns: without the max -/
theorem C_stairs {hs : List Int} {h : Int} (s : Stairs (hs ++ [h])) (k : Nat) : C (hs ++ [h]) (k + 1) = C hs (k + 1) + (h - k) * C hs k := by
  rw [C_snoc]
  obtain ⟨_, h1, h2⟩ := s.front
  by_cases c : (k : Int) ≤ h
  · rw [show max 0 (h - (k : Int)) = h - k by omega]
  · rw [C_high (M := h) h2 h1 (by omega : h < (k : Int)), Int.mul_zero, Int.mul_zero]

/-! ### the product -/
/-- x (x - 1) .. (x - n + 1) -/
def ff (x : Int) : Nat → Int
  | 0 => 1
  | n + 1 => ff x n * (x - n)
/-- the product of point 4; i: the first column's number -/
def prodFrom (x : Int) : Nat → List Int → Int
  | _, [] => 1
  | i, h :: t => (h + x - i) * prodFrom x (i + 1) t
def prodL (x : Int) (hs : List Int) : Int := prodFrom x 0 hs
theorem prodFrom_snoc (x : Int) : ∀ (l : List Int) (i : Nat) (h : Int), prodFrom x i (l ++ [h]) = prodFrom x i l * (h + x - ((i + l.length : Nat) : Int))
  | [], i, h => by simp [prodFrom]
  | a :: t, i, h => by
    show (a + x - i) * prodFrom x (i + 1) (t ++ [h]) = (a + x - i) * prodFrom x (i + 1) t * (h + x - _)
    rw [prodFrom_snoc x t (i + 1) h, Int.mul_assoc]
    rw [show ((i + 1 + t.length : Nat) : Int) = ((i + (a :: t).length : Nat) : Int) by simp; omega]
theorem prodL_snoc (x : Int) (l : List Int) (h : Int) : prodL x (l ++ [h]) = prodL x l * (h + x - l.length) := by
  unfold prodL
  rw [prodFrom_snoc, Nat.zero_add]
/-- the sum over all counts of the ways and how many ways the others stand in the rows more -/
def wholeS (hs : List Int) (x : Int) (n : Nat) : Int := sumN n fun l => C hs (hs.length - l) * ff x l
theorem snoc_ind {α : Type} {P : List α → Prop} (h0 : P []) (hs : ∀ l a, P l → P (l ++ [a])) (l : List α) : P l := by
  have h : ∀ r : List α, P r.reverse := fun r => by
    induction r with
    | nil => exact h0
    | cons a t ih => rw [List.reverse_cons]; exact hs _ _ ih
  have := h l.reverse
  rwa [List.reverse_reverse] at this
theorem whole_is (x : Int) (hs : List Int) : Stairs hs → wholeS hs x (hs.length + 1) = prodL x hs := by
  refine snoc_ind (P := fun hs => Stairs hs → wholeS hs x (hs.length + 1) = prodL x hs) (fun _ => ?_) (fun l h ih s => ?_) hs
  · simp [wholeS, sumN, ff, prodL, prodFrom, C_nil0]
  · have s' := s.front.1
    rw [prodL_snoc, ← ih s']
    have en : (l ++ [h]).length = l.length + 1 := by simp
    unfold wholeS
    rw [en]
    -- the terms: C' (n + 1 - i) ff i
    have e1 : sumN (l.length + 1 + 1) (fun i => C (l ++ [h]) (l.length + 1 - i) * ff x i) =
        sumN (l.length + 1 + 1) (fun i => C l (l.length + 1 - i) * ff x i) + sumN (l.length + 1) (fun i => (h - ((l.length - i : Nat) : Int)) * C l (l.length - i) * ff x i) := by
      show sumN (l.length + 1) (fun i => C (l ++ [h]) (l.length + 1 - i) * ff x i) + C (l ++ [h]) (l.length + 1 - (l.length + 1)) * ff x (l.length + 1) =
        (sumN (l.length + 1) (fun i => C l (l.length + 1 - i) * ff x i) + C l (l.length + 1 - (l.length + 1)) * ff x (l.length + 1)) + _
      rw [Nat.sub_self, C_snoc0]
      have e2 : sumN (l.length + 1) (fun i => C (l ++ [h]) (l.length + 1 - i) * ff x i) =
          sumN (l.length + 1) (fun i => C l (l.length + 1 - i) * ff x i + (h - ((l.length - i : Nat) : Int)) * C l (l.length - i) * ff x i) := by
        refine sumN_congr fun i hi => ?_
        rw [show l.length + 1 - i = (l.length - i) + 1 by omega, C_stairs s, Int.add_mul]
      rw [e2, sumN_add]
      omega
    rw [e1, sumN_first, Nat.sub_zero, C_big (by omega), Int.zero_mul, Int.zero_add, ← sumN_add, Int.mul_comm, ← sumN_mul]
    refine sumN_congr fun i hi => ?_
    have e3 : ((l.length - i : Nat) : Int) = (l.length : Int) - i := by omega
    rw [show l.length + 1 - (i + 1) = l.length - i by omega, e3]
    show C l (l.length - i) * (ff x i * (x - i)) + (h - ((l.length : Int) - i)) * C l (l.length - i) * ff x i = (h + x - l.length) * (C l (l.length - i) * ff x i)
    grind

end TS
namespace TS
open PySem PySem.Spec PyProof.Rows L2 Evl
local macro_rules | `(tactic| walk_at "ev") => `(tactic| repeat' (first
  | exact ev_c
  | exact ev_var rfl
  | exact ea_nil
  | refine ea_cons ?_ ?_
  | refine ev_op ?_ ?_ rv_I0
  | refine ev_op ?_ ?_ (rv_I ?_)
  | refine ev_op ?_ ?_ (rv_ne rfl)
  | refine ev_op ?_ ?_ (rv_eq rfl)
  | refine ev_un ?_ ru_neg
  | refine et_test ?_
  | refine et_B ?_
  | refine et_not ?_
  | refine ev_notV ?_
  | refine ev_max2 ?_ ?_))

/-! ### a def that is known by its name -/
structure FnAt (K : PySem.W.Frag) (mg : Str → Option Value) (x qual : Str) (st : Stmt) : Prop where
  ex : ∃ (f : Addr) (fd : FuncData), mg x = some (.ref f) ∧ FunD K x qual (defArgs st) (defBody st) (defScope st) [] [] f fd
structure Got (P : Program) (w : World) (K : PySem.W.Frag) (mg : Str → Option Value) (base : Heap) (CX : CXT) (k : Nat) (x : Str) (sp : Sp) : Prop where
  ex : ∃ (f : Addr) (fd : FuncData) (ps : List Str), mg x = some (.ref f) ∧ FnOk P w K mg base CX k f fd ps sp ∧ PySem.W.keepIn K (.ref f) = true ∧ Binds K fd ps []
section
variable {P : Program} {w : World} {K : PySem.W.Frag} {mg : Str → Option Value} {base : Heap}
theorem mk_ok {x : Str} {st : Stmt} {N ps : List Str} {k : Nat} {sp : Sp} {f : Addr} {fd : FuncData} (D : FunD K x x (defArgs st) (defBody st) (defScope st) [] [] f fd) (S : FnScope N ps (defScope st)) (len : ∀ vs H Q E, sp vs H Q E → vs.length = ps.length)
    (hbody : ∀ (f : Addr) (cdv : Value) (A : Around) (outer : List Env) (s : Shared) (H : Hp) (vs : List V) (Q : VK) (E : XK), Room k (A.deeper (envOfC x (defScope st) s.heap.objs.size f cdv)) → sp vs H Q E →
      ∃ t, PSs (cxOf CX0 P w K mg base N x (defScope st) f cdv A outer s H E).nox (defBody st) t ∧ t { nx := fun _ H' => Q .non H', rt := Q } (start N vs) H) : FnOk P w K mg base CX0 (k + 1) f fd ps sp := by
  refine D.ok S len fun cdv A outer s H vs Q E hr h => ?_
  obtain ⟨t, h1, h2⟩ := hbody f cdv A outer s H vs Q E hr h
  exact ⟨t, h1.nox, h2⟩
theorem mk_got {x : Str} {st : Stmt} {N ps : List Str} {k : Nat} {sp : Sp} (F : FnAt K mg x x st) (S : FnScope N ps (defScope st)) (len : ∀ vs H Q E, sp vs H Q E → vs.length = ps.length)
    (hb : ∀ (kV doc pm : Value) (an : Option Addr) (cdv ct : Value) (us : List Value), us.length = ps.length → bindArgs (PySem.W.fnOf x x (defArgs st) (defBody st) (defScope st) .none kV doc pm an cdv ct) ⟨us, []⟩ = pure (ps.zip us))
    (hbody : ∀ (f : Addr) (cdv : Value) (A : Around) (outer : List Env) (s : Shared) (H : Hp) (vs : List V) (Q : VK) (E : XK), Room k (A.deeper (envOfC x (defScope st) s.heap.objs.size f cdv)) → sp vs H Q E →
      ∃ t, PSs (cxOf CX0 P w K mg base N x (defScope st) f cdv A outer s H E).nox (defBody st) t ∧ t { nx := fun _ H' => Q .non H', rt := Q } (start N vs) H) : Got P w K mg base CX0 (k + 1) x sp := by
  obtain ⟨f, fd, hm, D⟩ := F.ex
  refine ⟨f, fd, ps, hm, D.ok S len fun cdv A outer s H vs Q E hr h => ?_, D.kp, D.bindsN hb⟩
  obtain ⟨t, h1, h2⟩ := hbody f cdv A outer s H vs Q E hr h
  exact ⟨t, h1.nox, h2⟩
/-- a def that may raise -/
theorem mk_gotX {CX : CXT} {x : Str} {st : Stmt} {N ps : List Str} {k : Nat} {sp : Sp} (F : FnAt K mg x x st) (S : FnScope N ps (defScope st)) (len : ∀ vs H Q E, sp vs H Q E → vs.length = ps.length)
    (hb : ∀ (kV doc pm : Value) (an : Option Addr) (cdv ct : Value) (us : List Value), us.length = ps.length → bindArgs (PySem.W.fnOf x x (defArgs st) (defBody st) (defScope st) .none kV doc pm an cdv ct) ⟨us, []⟩ = pure (ps.zip us))
    (hbody : ∀ (f : Addr) (cdv : Value) (A : Around) (outer : List Env) (s : Shared) (H : Hp) (vs : List V) (Q : VK) (E : XK), Room k (A.deeper (envOfC x (defScope st) s.heap.objs.size f cdv)) → sp vs H Q E →
      ∃ t, PSs (cxOf CX P w K mg base N x (defScope st) f cdv A outer s H E) (defBody st) t ∧ t { nx := fun _ H' => Q .non H', rt := Q } (start N vs) H) : Got P w K mg base CX (k + 1) x sp := by
  obtain ⟨f, fd, hm, D⟩ := F.ex
  exact ⟨f, fd, ps, hm, D.ok S len fun cdv A outer s H vs Q E hr h => hbody f cdv A outer s H vs Q E hr h, D.kp, D.bindsN hb⟩
theorem Got.imp {CX : CXT} {x : Str} {k : Nat} {sp sp' : Sp} (G : Got P w K mg base CX k x sp) (h : ∀ vs H Q E, sp' vs H Q E → sp vs H Q E) : Got P w K mg base CX k x sp' := by
  obtain ⟨f, fd, ps, hm, F, kp, b⟩ := G.ex
  exact ⟨f, fd, ps, hm, F.imp h, kp, b⟩
end
section
variable {X : Cx} {CX : CXT} {k : Nat} {x : Str} {sp : Sp} {E : XK} {e : Expr} {es : List Expr} {t : TA} {p pos : Pos}
theorem pe_got (G : Got X.prog X.w X.K X.mg X.base CX k x sp) (hr : Room k X.A) (hx : Passes CX X E) (ha : PA X (e :: es) t) (hg : Gl X x := by rfl)
    (hdb : (x == ("__debug__" : Str)) = false := by decide) (he : starEach (e :: es) X.env = (false, eval e X.env) :: starEach es X.env := by rfl) (hpl : (backTo pos (starEach es X.env)).any (·.1) = false := by rfl) :
    PE X (.Call (.Name x p) (e :: es) [] pos) (tCall sp [] E t) := by
  obtain ⟨f, fd, ps, hm, F, kp, b⟩ := G.ex
  exact pe_call F hr hg hm kp b .nil hx ha hdb he hpl
theorem pe_got0 (G : Got X.prog X.w X.K X.mg X.base CX k x sp) (hr : Room k X.A) (hx : Passes CX X E) (hg : Gl X x := by rfl) (hdb : (x == ("__debug__" : Str)) = false := by decide) :
    PE X (.Call (.Name x p) [] [] pos) (tCall sp [] E tNil) := by
  obtain ⟨f, fd, ps, hm, F, kp, b⟩ := G.ex
  exact pe_call0 F hr hg hm kp b .nil hx hdb
/-- xs[i], by values -/
theorem get_list : PGet X (rIxL X.K) := by
  intro pins s σ H x y v u Q I rx ry h
  obtain ⟨p, xs, i, z, rfl, rfl, hq, he, q⟩ := h
  cases rx
  obtain ⟨t, rfl⟩ := ry
  obtain ⟨its, r, pl, hz⟩ := I.list hq
  obtain ⟨j, h1, h2, h3, h4, h5⟩ := atI_get he
  obtain ⟨w, ew, rw'⟩ := r.get h2
  have hl := r.length
  have hn := line63
  have fin : EP X pins σ Q w s := ⟨z, H, I, rw', q⟩
  by_cases h0 : 0 ≤ i
  · have hj : i.toNat = j := by
      rw [seqIndex_of h0 h5] at h1
      exact Option.some.inj h1
    exact wpAny_getItem_list pl.isList h0 (by omega) (by rw [hj]; simpa using ew) fin
  · have hj : (i + (its.toArray.size : Int)).toNat = j := by
      rw [seqIndex_neg (by omega) h4] at h1
      rw [List.size_toArray, ← hl]
      exact Option.some.inj h1
    exact wpAny_getItem_list_neg pl.isList (by omega) (by rw [List.size_toArray] <;> omega) (by omega) (by rw [hj]; simpa using ew) fin
/-- *= of ints, together below a million bits -/
theorem iop_mulW : OpR X (inplaceOp .Mult) (rI CMulW fun i j => .int (i * j)) := opI fun _ _ _ _ _ _ _ hc q => imul_int q hc.ok
theorem ip_mulW : PIp X .Mult (rI CMulW fun i j => .int (i * j)) := iop_mulW
end

/-! ### what expressions give -/
section
variable {K : PySem.W.Frag} {σ : L2.St} {H H' : Hp} {ta tb te tx to ti : TE} {t u : TT} {x y z v : V} {r : R2} {D : Ends} {tu tw tz : TS}
theorem ev_isi {c : V} {tt uu : Value} {b : Bool} (ha : Ev ta σ H x) (k : ClsV c uu) (ty : ∀ H1, Ex H H1 → TyX K H1 x tt) (e : PySem.W.kitOne K tt uu = some b) : Ev (tCB (rIsi K) (tCons ta (tCons (tC c) tNil))) σ H (.bl b) := fun H1 e1 Q q =>
  ha H1 e1 _ fun H2 e2 => ⟨x, c, tt, uu, b, rfl, k, ty H2 (e1.trans e2), e, q H2 e2⟩
theorem tyx_int (i : Int) : TyX K H (.int i) (.type "int") := .base (.int i)
theorem tyx_bl (b : Bool) : TyX K H (.bl b) (.type "bool") := .base (.bl b)
theorem tyx_sqL {a : Addr} {xs : List V} (h : SqL K H a xs) : TyX K H (.ref a) (.type "list") := by
  rcases h with (h | ⟨o, h⟩) | ⟨o, its, n, h, hc, _⟩
  · exact .base (.lst h)
  · exact .base (.frz h)
  · exact .kList h hc
theorem tyx_sqT {a : Addr} {xs : List V} (h : SqT K H a xs) : TyX K H (.ref a) (.type "tuple") := by
  rcases h with (h | ⟨o, h⟩) | ⟨o, its, n, h, hc, _⟩
  · exact .base (.tup h)
  · exact .fTuple h
  · exact .kTuple h hc
/-- all(..), any(..) of a new list of truths -/
theorem ev_all {bs : List Bool} (ha : EvL ta σ H (bs.map V.bl)) : Ev (tCB (rAll K) (tCons ta tNil)) σ H (.bl (bs.all id)) := fun H1 e Q q =>
  ha H1 e _ fun p H2 _ e2 hp => ⟨p, bs, rfl, sq_of hp, q H2 e2⟩
theorem ev_any {bs : List Bool} (ha : EvL ta σ H (bs.map V.bl)) : Ev (tCB (rAny K) (tCons ta tNil)) σ H (.bl (bs.any id)) := fun H1 e Q q =>
  ha H1 e _ fun p H2 _ e2 hp => ⟨p, bs, rfl, sq_of hp, q H2 e2⟩
/-- the one sorted list of the same ints -/
theorem sorted_one : ∀ {xs ys : List Int}, xs.Perm ys → xs.Pairwise (· ≤ ·) → ys.Pairwise (· ≤ ·) → xs = ys := fun h h1 h2 =>
  List.Perm.eq_of_pairwise (fun a b _ _ p q => Int.le_antisymm p q) h1 h2 h
def srt (ns : List Int) : List Int := ns.mergeSort (fun a b => decide (a ≤ b))
theorem srt_up (ns : List Int) : (srt ns).Pairwise (· ≤ ·) := by
  have h := List.pairwise_mergeSort (le := fun a b : Int => decide (a ≤ b)) (by intro a b c; simp; omega) (by intro a b; simp; omega) ns
  exact h.imp fun q => of_decide_eq_true q
theorem srt_perm (ns : List Int) : (srt ns).Perm ns := List.mergeSort_perm _ _
theorem srt_len (ns : List Int) : (srt ns).length = ns.length := (srt_perm ns).length_eq
theorem srt_mem {ns : List Int} {x : Int} : x ∈ srt ns ↔ x ∈ ns := (srt_perm ns).mem_iff
theorem el_sorted {ns : List Int} (ha : EvL ta σ H (ns.map V.int)) : EvL (tCB (rSortedI K) (tCons ta tNil)) σ H ((srt ns).map V.int) := fun H1 e Q q =>
  ha H1 e _ fun p H2 _ e2 hp => ⟨p, ns, rfl, sq_of hp, fun ns' l pm up hl => by
    rw [sorted_one (pm.trans (srt_perm ns).symm) up (srt_up ns)]
    exact q l _ (fresh_back e2 hl) (e2.trans (Ex.new hl)) upd_same⟩
theorem el_sortedV {a : Addr} {ns : List Int} (ha : Ev ta σ H (.ref a)) (hx : SqL K H a (ns.map V.int)) : EvL (tCB (rSortedI K) (tCons ta tNil)) σ H ((srt ns).map V.int) := fun H1 e Q q =>
  ha H1 e _ fun H2 e2 => ⟨a, ns, rfl, ex_l (e.trans e2) hx, fun ns' l pm up hl => by
    rw [sorted_one (pm.trans (srt_perm ns).symm) up (srt_up ns)]
    exact q l _ (fresh_back e2 hl) (e2.trans (Ex.new hl)) upd_same⟩
/-- xs + ys, both new; the first one a known list; xs * k -/
theorem el_cat {xs ys : List V} (ha : EvL ta σ H xs) (hb : EvL tb σ H ys) (hz : xs.length + ys.length ≤ 100000) : EvL (tOp rCat ta tb) σ H (xs ++ ys) := fun H1 e Q q =>
  ha H1 e _ fun p H2 hp0 e2 hp => hb H2 (e.trans e2) _ fun p2 H3 hq0 e3 hq => ⟨p, p2, xs, ys, rfl, rfl, e3 p _ hp, hq, sz_of hz, fun l hl => q l _ (fresh_back (e2.trans e3) hl) ((e2.trans e3).trans (Ex.new hl)) upd_same⟩
theorem el_catV {a : Addr} {xs ys : List V} (ha : Ev ta σ H (.ref a)) (hx : H a = some (.lst xs)) (hb : EvL tb σ H ys) (hz : xs.length + ys.length ≤ 100000) : EvL (tOp rCat ta tb) σ H (xs ++ ys) := fun H1 e Q q =>
  ha H1 e _ fun H2 e2 => hb H2 (e.trans e2) _ fun p2 H3 hq0 e3 hq => ⟨a, p2, xs, ys, rfl, rfl, e3 a _ (e2 a _ (e a _ hx)), hq, sz_of hz, fun l hl => q l _ (fresh_back (e2.trans e3) hl) ((e2.trans e3).trans (Ex.new hl)) upd_same⟩
theorem el_rep {xs : List V} {k : Int} (ha : EvL ta σ H xs) (hb : Ev tb σ H (.int k)) (hk : 0 ≤ k ∧ k ≤ 100000) (hz : xs.length * k.toNat ≤ 100000) : EvL (tOp rRep ta tb) σ H (List.replicate k.toNat xs).flatten := fun H1 e Q q =>
  ha H1 e _ fun p H2 hp0 e2 hp => hb H2 (e.trans e2) _ fun H3 e3 => ⟨p, k, xs, rfl, rfl, e3 p _ hp, by omega, by omega, sz_of hz, fun l hl => q l _ (fresh_back (e2.trans e3) hl) ((e2.trans e3).trans (Ex.new hl)) upd_same⟩
theorem el_is {xs ys : List V} (h : EvL te σ H xs) (e : xs = ys) : EvL te σ H ys := e ▸ h
/-- ys in comprehensions that take each item -/
theorem given_all (n : Nat) (v : Nat → V) : given n (fun _ => true) v = (List.range n).map v := by
  unfold given
  rw [List.filter_eq_self.mpr (by simp)]
theorem et_yes : EvT tYes σ H true := fun H1 _ _ q => q H1 (Ex.refl H1)
theorem el_mapL {a : Addr} {xs : List V} {tl : TE} {j : Nat} {vs : List Nat} (w : Nat → V) (h : Ev tl σ H (.ref a)) (hx : SqL K H a xs) (hz : xs.length ≤ 40000) (hw : ∀ x, wipe ((wipe σ vs).set j (some x)) vs = wipe σ vs)
    (he : ∀ (i : Nat) (x : V) H1, Ex H H1 → xs[i]? = some x → Ev te ((wipe σ vs).set j (some x)) H1 (w i)) : EvL (tLc (iList K tl) (gName j) tYes te vs) σ H ((List.range xs.length).map w) := by
  rw [← given_all]
  exact el_lcL (fun _ => true) w h hx hz hw (fun _ _ _ _ _ => et_yes) fun i x H1 e1 hi _ => he i x H1 e1 hi
theorem el_mapNL {xs : List V} {tl : TE} {j : Nat} {vs : List Nat} (w : Nat → V) (h : EvL tl σ H xs) (hz : xs.length ≤ 40000) (hw : ∀ x, wipe ((wipe σ vs).set j (some x)) vs = wipe σ vs)
    (he : ∀ (i : Nat) (x : V) H1, Ex H H1 → xs[i]? = some x → Ev te ((wipe σ vs).set j (some x)) H1 (w i)) : EvL (tLc (iList K tl) (gName j) tYes te vs) σ H ((List.range xs.length).map w) := by
  rw [← given_all]
  exact el_lcNL (fun _ => true) w h hz hw (fun _ _ _ _ _ => et_yes) fun i x H1 e1 hi _ => he i x H1 e1 hi
theorem el_mapR {ta : TA} {j : Nat} {vs : List Nat} {n : Int} (w : Nat → V) (h : EvA ta σ H [.int n]) (hn : 0 ≤ n ∧ n ≤ 40000) (hw : ∀ x, wipe ((wipe σ vs).set j (some x)) vs = wipe σ vs)
    (he : ∀ (i : Nat) H1, Ex H H1 → (i : Int) < n → Ev te ((wipe σ vs).set j (some (.int (i : Int)))) H1 (w i)) : EvL (tLc (iRng1 ta) (gName j) tYes te vs) σ H ((List.range n.toNat).map w) := by
  rw [← given_all]
  exact el_lcR1 (fun _ => true) w h hn hw (fun _ _ _ _ => et_yes) fun i H1 e1 hi _ => he i H1 e1 hi
/-- over a list of ints -/
theorem map_ints {ns : List Int} (f : Int → V) : (List.range (ns.map V.int).length).map (fun i => f (ns.getD i 0)) = ns.map f := by
  apply List.ext_getElem?
  intro i
  by_cases hi : i < ns.length
  · simp [hi]
  · simp [Nat.not_lt.mp hi]
theorem int_at {ns : List Int} {i : Nat} {x : V} (h : (ns.map V.int)[i]? = some x) : ∃ n, ns[i]? = some n ∧ x = .int n ∧ ns.getD i 0 = n ∧ i < ns.length := by
  rw [List.getElem?_map] at h
  cases e : ns[i]? with
  | none => rw [e] at h; cases h
  | some n =>
    rw [e] at h
    exact ⟨n, rfl, (Option.some.inj h).symm, by simp [e], (List.getElem?_eq_some_iff.mp e).1⟩
theorem el_ints {a : Addr} {ns : List Int} {tl : TE} {j : Nat} {vs : List Nat} (f : Int → V) (h : Ev tl σ H (.ref a)) (hx : SqL K H a (ns.map V.int)) (hz : ns.length ≤ 40000) (hw : ∀ x, wipe ((wipe σ vs).set j (some x)) vs = wipe σ vs)
    (he : ∀ (i : Nat) (n : Int) H1, Ex H H1 → ns[i]? = some n → Ev te ((wipe σ vs).set j (some (.int n))) H1 (f n)) : EvL (tLc (iList K tl) (gName j) tYes te vs) σ H (ns.map f) := by
  rw [← map_ints f]
  refine el_mapL _ h hx (by simpa using hz) hw fun i x H1 e1 hi => ?_
  obtain ⟨n, hn, rfl, hg, _⟩ := int_at hi
  show Ev te _ H1 (f (ns.getD i 0))
  rw [hg]
  exact he i n H1 e1 hn
theorem el_intsN {ns : List Int} {tl : TE} {j : Nat} {vs : List Nat} (f : Int → V) (h : EvL tl σ H (ns.map V.int)) (hz : ns.length ≤ 40000) (hw : ∀ x, wipe ((wipe σ vs).set j (some x)) vs = wipe σ vs)
    (he : ∀ (i : Nat) (n : Int) H1, Ex H H1 → ns[i]? = some n → Ev te ((wipe σ vs).set j (some (.int n))) H1 (f n)) : EvL (tLc (iList K tl) (gName j) tYes te vs) σ H (ns.map f) := by
  rw [← map_ints f]
  refine el_mapNL _ h (by simpa using hz) hw fun i x H1 e1 hi => ?_
  obtain ⟨n, hn, rfl, hg, _⟩ := int_at hi
  show Ev te _ H1 (f (ns.getD i 0))
  rw [hg]
  exact he i n H1 e1 hn
/-- xs[i] op= e -/
theorem s_augL {l : Addr} {xs : List V} {j : Nat} {tip : TIp} (hl : H l = some (.lst xs)) (ho : Ev to σ H (.ref l)) (hi : Ev ti σ H (.int (j : Int))) (hx : xs[j]? = some x) (h : Ev te σ H y) (hz : ∀ H1 (Q : VK), Q z H1 → tip x y H1 Q)
    (k : ∀ H1, Ex H H1 → D.nx σ (upd H1 l (.lst (xs.set j z)))) : tAugS to ti te (rIxL K) tip rSetL D σ H := ho H (Ex.refl H) _ fun H1 e1 => hi H1 e1 _ fun H2 e2 =>
  ⟨l, xs, (j : Int), x, rfl, rfl, sq_of ((e1.trans e2) l _ hl), atI_nat hx, h H2 (e1.trans e2) _ fun H3 e3 => hz H3 _
    ⟨l, xs, (j : Int), j, rfl, rfl, ((e1.trans e2).trans e3) l _ hl, ixN_nat (List.getElem?_eq_some_iff.mp hx).1, k H3 ((e1.trans e2).trans e3)⟩⟩
theorem q_augL {l : Addr} {xs : List V} {j : Nat} {tip : TIp} (hl : H l = some (.lst xs)) (ho : Ev to σ H (.ref l)) (hi : Ev ti σ H (.int (j : Int))) (hx : xs[j]? = some x) (h : Ev te σ H y) (hz : ∀ H1 (Q : VK), Q z H1 → tip x y H1 Q)
    (k : ∀ H1, Ex H H1 → tz D σ (upd H1 l (.lst (xs.set j z)))) : tSeq (tAugS to ti te (rIxL K) tip rSetL) tz D σ H := s_augL (D := { D with nx := tz D }) hl ho hi hx h hz k
/-- for i in reversed(range(a, b)) -/
theorem s_forRev {tr : L2.St → Hp → (Int → Int → Hp → Prop) → Prop} {j : Nat} {a b : Int} (h : ∀ Q : Int → Int → Hp → Prop, (∀ H1, Ex H H1 → Q a b H1) → tr σ H Q) (hn : 0 ≤ a ∧ a ≤ b ∧ b ≤ 100000) (Pv : Nat → L2.St → Hp → Prop) (h0 : ∀ H1, Ex H H1 → Pv 0 σ H1)
    (hs : ∀ (i : Nat) σ' H', a + (i : Int) < b → Pv i σ' H' → tu { D with nx := Pv (i + 1), ct := Pv (i + 1), bk := D.nx } (σ'.set j (some (.int (b - 1 - (i : Int))))) H') (hd : ∀ σ' H', Pv (b - a).toNat σ' H' → D.nx σ' H') :
    tFor (iRevR tr) (gName j) tu D σ H := h _ fun H1 e => ⟨by omega, by omega, by omega, by omega, for_rangeC (lo := a + (((b - a).toNat : Nat) : Int) - 1) (c := -1) (n := (b - a).toNat) Pv (h0 H1 e) (fun i σ' H' hi p => by
    have e0 : a + (((b - a).toNat : Nat) : Int) - 1 + (i : Int) * (-1) = b - 1 - (i : Int) := by omega
    show tu { D with nx := Pv (i + 1), ct := Pv (i + 1), bk := D.nx } (σ'.set j (some (.int (a + (((b - a).toNat : Nat) : Int) - 1 + (i : Int) * (-1))))) H'
    rw [e0]
    exact hs i σ' H' (by omega) p) hd⟩
theorem q_forRev {tr : L2.St → Hp → (Int → Int → Hp → Prop) → Prop} {j : Nat} {a b : Int} (h : ∀ Q : Int → Int → Hp → Prop, (∀ H1, Ex H H1 → Q a b H1) → tr σ H Q) (hn : 0 ≤ a ∧ a ≤ b ∧ b ≤ 100000) (Pv : Nat → L2.St → Hp → Prop) (h0 : ∀ H1, Ex H H1 → Pv 0 σ H1)
    (hs : ∀ (i : Nat) σ' H', a + (i : Int) < b → Pv i σ' H' → tu { D with nx := Pv (i + 1), ct := Pv (i + 1), bk := tz D } (σ'.set j (some (.int (b - 1 - (i : Int))))) H') (hd : ∀ σ' H', Pv (b - a).toNat σ' H' → tz D σ' H') :
    tSeq (tFor (iRevR tr) (gName j) tu) tz D σ H := s_forRev (D := { D with nx := tz D }) h hn Pv h0 hs hd
theorem rg1 {n : Int} (ha : Ev ta σ H (.int n)) : ∀ Q : Int → Int → Hp → Prop, (∀ H1, Ex H H1 → Q 0 n H1) → tRg1 ta σ H Q := fun Q q => ha H (Ex.refl H) _ fun H1 e => ⟨n, rfl, q H1 e⟩
theorem rg2 {a b : Int} (ha : Ev ta σ H (.int a)) (hb : Ev tb σ H (.int b)) : ∀ Q : Int → Int → Hp → Prop, (∀ H1, Ex H H1 → Q a b H1) → tRg2 ta tb σ H Q := fun Q q => ha H (Ex.refl H) _ fun H1 e => hb H1 e _ fun H2 e2 => ⟨a, b, rfl, rfl, q H2 (e.trans e2)⟩
/-- for i, x in enumerate(xs) -/
theorem for_enum {a : Addr} {xs : List V} {g : TG} {tb : TS} (Pv : Nat → L2.St → Hp → Prop) (h0 : Pv 0 σ H) (hl : ∀ i σ H, i ≤ xs.length → Pv i σ H → SqL K H a xs)
    (hs : ∀ (i : Nat) x σ H T, xs[i]? = some x → Pv i σ H → H T = none → g (.ref T) σ (upd H T (.tup [.int (i : Int), x])) fun σ2 H2 => tb { D with nx := Pv (i + 1), ct := Pv (i + 1), bk := D.nx } σ2 H2) (hd : ∀ σ H, Pv xs.length σ H → D.nx σ H) :
    ∃ W : Nat → Nat → L2.St → Hp → Prop, (∃ m, W 0 m σ H) ∧ ∀ i m σ H, W i m σ H →
      ((Ite K a).stop i H ∧ D.nx σ H) ∨ ((Ite K a).go i H ∧ ∃ N : L2.St → Hp → Prop, (∀ σ' H', N σ' H' → ∃ m', m' < m ∧ W (i + 1) m' σ' H') ∧ ∀ x H', (Ite K a).yld i H x H' → g x σ H' fun σ2 H2 => tb { D with nx := N, ct := N, bk := D.nx } σ2 H2) := by
  refine ⟨fun i m σ H => m = xs.length - i ∧ i ≤ xs.length ∧ Pv i σ H, ⟨xs.length, by simp, Nat.zero_le _, h0⟩, ?_⟩
  rintro i m σ H ⟨rfl, hi, p⟩
  have q := hl i σ H hi p
  by_cases hlt : i < xs.length
  · refine .inr ⟨⟨xs, xs[i], q, by simp [hlt]⟩, Pv (i + 1), fun σ' H' p' => ⟨xs.length - (i + 1), by omega, rfl, hlt, p'⟩, fun x H' y => ?_⟩
    obtain ⟨T, x2, rfl, hT, rfl, f⟩ := y
    exact hs i x2 σ H T (f xs q) p hT
  · have e : i = xs.length := by omega
    subst e
    exact .inl ⟨⟨xs, q, Nat.le_refl _⟩, hd σ H p⟩
theorem s_forE {ta : TA} {a : Addr} {xs : List V} {j1 j2 : Nat} (h : EvA ta σ H [.ref a]) (hx : SqL K H a xs) (Pv : Nat → L2.St → Hp → Prop) (h0 : ∀ H1, Ex H H1 → Pv 0 σ H1) (hl : ∀ i σ' H', i ≤ xs.length → Pv i σ' H' → SqL K H' a xs)
    (hs : ∀ (i : Nat) x σ' H' H1, xs[i]? = some x → Pv i σ' H' → Ex H' H1 → tu { D with nx := Pv (i + 1), ct := Pv (i + 1), bk := D.nx } ((σ'.set j1 (some (.int (i : Int)))).set j2 (some x)) H1) (hd : ∀ σ' H', Pv xs.length σ' H' → D.nx σ' H') :
    tFor (iEnum K ta) (gTup K 2 (gCons (gName j1) (gCons (gName j2) gNil))) tu D σ H := h H (Ex.refl H) _ fun H1 e => ⟨a, xs, rfl, ex_l e hx, for_enum Pv (h0 H1 e) hl
    (fun i x σ' H' T hi p hT => ⟨T, [.int (i : Int), x], rfl, st_of upd_same, rfl, .int (i : Int), [x], rfl, x, [], rfl, rfl, hs i x σ' H' _ hi p (Ex.new hT)⟩) hd⟩
theorem q_forE {ta : TA} {a : Addr} {xs : List V} {j1 j2 : Nat} (h : EvA ta σ H [.ref a]) (hx : SqL K H a xs) (Pv : Nat → L2.St → Hp → Prop) (h0 : ∀ H1, Ex H H1 → Pv 0 σ H1) (hl : ∀ i σ' H', i ≤ xs.length → Pv i σ' H' → SqL K H' a xs)
    (hs : ∀ (i : Nat) x σ' H' H1, xs[i]? = some x → Pv i σ' H' → Ex H' H1 → tu { D with nx := Pv (i + 1), ct := Pv (i + 1), bk := tz D } ((σ'.set j1 (some (.int (i : Int)))).set j2 (some x)) H1) (hd : ∀ σ' H', Pv xs.length σ' H' → tz D σ' H') :
    tSeq (tFor (iEnum K ta) (gTup K 2 (gCons (gName j1) (gCons (gName j2) gNil))) tu) tz D σ H := s_forE (D := { D with nx := tz D }) h hx Pv h0 hl hs hd
/-- x op= e with any operator -/
theorem s_augV {i : Nat} {ti : TIp} (hx : σ[i]? = some (some x)) (h : Ev te σ H y) (hz : ∀ H1 (Q : VK), Q z H1 → ti x y H1 Q) (k : ∀ H1, Ex H H1 → D.nx (σ.set i (some z)) H1) : tAug i te ti D σ H :=
  ⟨x, hx, h H (Ex.refl H) _ fun H1 e => hz H1 _ (k H1 e)⟩
theorem q_augV {i : Nat} {ti : TIp} (hx : σ[i]? = some (some x)) (h : Ev te σ H y) (hz : ∀ H1 (Q : VK), Q z H1 → ti x y H1 Q) (k : ∀ H1, Ex H H1 → tz D (σ.set i (some z)) H1) : tSeq (tAug i te ti) tz D σ H := s_augV (D := { D with nx := tz D }) hx h hz k
/-- a, b = e1, e2 -/
theorem q_par {ta : TA} {i j : Nat} (h : EvA ta σ H [x, y]) (k : ∀ H1, Ex H H1 → tz D ((σ.set i (some x)).set j (some y)) H1) : tSeq (tPar i j ta) tz D σ H := h H (Ex.refl H) _ fun H1 e => ⟨x, y, rfl, k H1 e⟩
theorem s_par {ta : TA} {i j : Nat} (h : EvA ta σ H [x, y]) (k : ∀ H1, Ex H H1 → D.nx ((σ.set i (some x)).set j (some y)) H1) : tPar i j ta D σ H := h H (Ex.refl H) _ fun H1 e => ⟨x, y, rfl, k H1 e⟩
/-- the first operand a new tuple -/
theorem ev_opU1 {xs : List V} (ha : EvU ta σ H xs) (hb : ∀ H1, Ex H H1 → Ev tb σ H1 y) (hr : ∀ p H1, H1 p = some (.tup xs) → Ex H H1 → RV r (.ref p) y H1 z) : Ev (tOp r ta tb) σ H z := fun H1 e Q q =>
  ha H1 e _ fun p H2 _ e2 hp => hb H2 (e.trans e2) H2 (Ex.refl H2) _ fun H3 e3 => hr p H3 (e3 p _ hp) ((e.trans e2).trans e3) H3 (Ex.refl H3) Q fun H4 e4 => q H4 ((e2.trans e3).trans e4)
/-- == of lists of ints -/
theorem dpAll_ints : ∀ ns : List Int, DpAll K H (ns.map V.int) (ns.map PyData.int)
  | [] => .nil
  | n :: r => .cons (.int n) (dpAll_ints r)
theorem eqvAll_ints : ∀ ns ms : List Int, PyData.eqvAll (ns.map PyData.int) (ms.map PyData.int) = decide (ns = ms)
  | [], [] => by simp [PyData.eqvAll]
  | [], _ :: _ => by simp [PyData.eqvAll]
  | _ :: _, [] => by simp [PyData.eqvAll]
  | n :: r, m :: q => by
    show PyData.eqvAll (PyData.int n :: r.map PyData.int) (PyData.int m :: q.map PyData.int) = _
    unfold PyData.eqvAll
    rw [eqvAll_ints r q]
    by_cases e : n = m <;> simp [PyData.eqv, e]
theorem shaped_ints (ns : List Int) : SeqAt.shaped (.list (ns.map PyData.int)) = true := by
  unfold SeqAt.shaped
  have h1 : ∀ ns : List Int, PyData.canLayAll0 (ns.map PyData.int) = true := fun ns => by
    induction ns with
    | nil => simp [PyData.canLayAll0]
    | cons n r ih => simp [PyData.canLayAll0, PyData.canLay0, ih]
  have h2 : ∀ ns : List Int, PyData.depthAll (ns.map PyData.int) ≤ 1 := fun ns => by
    induction ns with
    | nil => simp [PyData.depthAll]
    | cons n r ih => simp [PyData.depthAll, PyData.depth]; simpa using ih
  have h3 : PyData.depth (.list (ns.map PyData.int)) ≤ 64 := by
    have := h2 ns
    simp only [PyData.depth]
    omega
  simp only [PyData.canLay0, h1, Bool.and_eq_true, decide_eq_true_eq]
  exact ⟨trivial, h3⟩
theorem rv_neI {p q : Addr} {ns ms : List Int} (h1 : SqL K H p (ns.map V.int)) (h2 : SqL K H q (ms.map V.int)) : RV (rNeD K) (.ref p) (.ref q) H (.bl (!decide (ns = ms))) := fun H1 e _ k =>
  ⟨.list (ns.map PyData.int), .list (ms.map PyData.int), .lst (ex_l e h1) (dpAll_ints ns), .lst (ex_l e h2) (dpAll_ints ms), shaped_ints ns, shaped_ints ms, by
    show _
    rw [show PyData.eqv (.list (ns.map PyData.int)) (.list (ms.map PyData.int)) = decide (ns = ms) by simp only [PyData.eqv]; exact eqvAll_ints ns ms]
    exact k H1 (Ex.refl H1)⟩
theorem rv_eqI {p q : Addr} {ns ms : List Int} (h1 : SqL K H p (ns.map V.int)) (h2 : SqL K H q (ms.map V.int)) : RV (rEqD K) (.ref p) (.ref q) H (.bl (decide (ns = ms))) := fun H1 e _ k =>
  ⟨.list (ns.map PyData.int), .list (ms.map PyData.int), .lst (ex_l e h1) (dpAll_ints ns), .lst (ex_l e h2) (dpAll_ints ms), shaped_ints ns, shaped_ints ms, by
    show _
    rw [show PyData.eqv (.list (ns.map PyData.int)) (.list (ms.map PyData.int)) = decide (ns = ms) by simp only [PyData.eqv]; exact eqvAll_ints ns ms]
    exact k H1 (Ex.refl H1)⟩
end

end TS
namespace TS
open PySem PySem.Spec PyProof.Rows L2 Evl
local macro_rules | `(tactic| walk_at "ev") => `(tactic| repeat' (first
  | exact ev_c
  | exact ev_var rfl
  | exact ea_nil
  | refine ea_cons ?_ ?_
  | refine ev_op ?_ ?_ rv_I0
  | refine ev_op ?_ ?_ (rv_I ?_)
  | refine ev_op ?_ ?_ (rv_ne rfl)
  | refine ev_op ?_ ?_ (rv_eq rfl)
  | refine ev_un ?_ ru_neg
  | refine et_test ?_
  | refine et_B ?_
  | refine et_not ?_
  | refine ev_notV ?_
  | refine ev_max2 ?_ ?_))
/-! ### the same rules where the written part is told by its name (a comprehension's block) -/
section
variable {X : Cx} {K : PySem.W.Frag}
theorem ix_listK (h : X.K = K := by rfl) : IxR X (rIxL K) := h ▸ ix_list
theorem ix_tupK (h : X.K = K := by rfl) : IxR X (rIxT K) := h ▸ ix_tup
theorem sl_listK (h : X.K = K := by rfl) : SlR X (rSlL K) := h ▸ sl_list
theorem pg_tupK {es : List Expr} {k : Nat} {t : TGs} {n : Nat} {pos : Pos} (hc : X.calm = true) (h : PGs X es t) (hK : X.K = K := by rfl)
    (hn : (assignEach es X.env).length = n := by rfl) (hst : (assignEach es X.env).findIdx? (·.1) = none := by rfl) : PG X (.Tuple es k pos) (gTup K n t) := hK ▸ pg_tup hc h hn hst
theorem op_in_seqK (h : X.K = K := by rfl) : OpR X (compareOp .In) (rIn K false) := h ▸ op_in_seq
theorem op_notIn_seqK (h : X.K = K := by rfl) : OpR X (compareOp .NotIn) (rIn K true) := h ▸ op_notIn_seq
theorem call_isiK' (h : X.K = K := by rfl) : CallR X (.builtin "isinstance") (rIsi K) := h ▸ call_isi
theorem call_len_seqK (h : X.K = K := by rfl) : CallR X (.builtin "len") (rLenS K) := h ▸ call_len_seq
theorem cr_allK (hc : X.calm = true) (h : X.K = K := by rfl) : CallR X (.builtin "all") (rAll K) := h ▸ cr_all hc
theorem cr_sortedIK (h : X.K = K := by rfl) : CallR X (.builtin "sorted") (rSortedI K) := h ▸ cr_sortedI
theorem op_eqDK (hu : X.A.units + 64 < cLine) (h : X.K = K := by rfl) : OpR X (compareOp .Eq) (rEqD K) := h ▸ op_eqD hu
theorem op_neDK (hu : X.A.units + 64 < cLine) (h : X.K = K := by rfl) : OpR X (compareOp .NotEq) (rNeD K) := h ▸ op_neD hu
end
/-! ### comprehensions over enumerate -/
section
variable {K : PySem.W.Frag} {σ : L2.St} {H H' : Hp} {ta tb te tx to ti : TE} {t u : TT} {x y z v : V} {r : R2} {D : Ends} {tu tw tz : TS}
theorem lc_enum {a : Addr} {xs : List V} {g : TG} {tt : TT} {vs : List Nat} {H1 : Hp} {Dl : Addr} {Qd : Hp → Prop} (Pv : Nat → Hp → Prop) (h0 : Pv 0 (upd H1 Dl (.lst []))) (hl : ∀ i H, i ≤ xs.length → Pv i H → SqL K H a xs)
    (hs : ∀ (i : Nat) x H T, xs[i]? = some x → Pv i H → H T = none → g (.ref T) (wipe σ vs) (upd H T (.tup [.int (i : Int), x])) fun σ2 H2 => wipe σ2 vs = wipe σ vs ∧ tt σ2 H2 fun b H3 =>
      if b = true then te σ2 H3 fun y H4 => ∃ acc, H4 Dl = some (.lst acc) ∧ acc.length < sizeLine ∧ Pv (i + 1) (upd H4 Dl (.lst (acc ++ [y]))) else Pv (i + 1) H3) (hd : ∀ H, Pv xs.length H → Qd H) :
    ∃ W : Nat → Nat → Hp → Prop, (∃ m, W 0 m (upd H1 Dl (.lst []))) ∧ ∀ i m H, W i m H →
      ((Ite K a).stop i H ∧ Qd H) ∨ ((Ite K a).go i H ∧ ∃ Nx : Hp → Prop, (∀ H', Nx H' → ∃ m', m' < m ∧ W (i + 1) m' H') ∧ ∀ x H', (Ite K a).yld i H x H' → g x (wipe σ vs) H' fun σ2 H2 => wipe σ2 vs = wipe σ vs ∧ tt σ2 H2 fun b H3 =>
        if b = true then te σ2 H3 fun y H4 => ∃ acc, H4 Dl = some (.lst acc) ∧ acc.length < sizeLine ∧ Nx (upd H4 Dl (.lst (acc ++ [y]))) else Nx H3) := by
  refine ⟨fun i m H => m = xs.length - i ∧ i ≤ xs.length ∧ Pv i H, ⟨xs.length, by simp, Nat.zero_le _, h0⟩, ?_⟩
  rintro i m H ⟨rfl, hi, p⟩
  have q := hl i H hi p
  by_cases hlt : i < xs.length
  · refine .inr ⟨⟨xs, xs[i], q, by simp [hlt]⟩, Pv (i + 1), fun H' p' => ⟨xs.length - (i + 1), by omega, rfl, hlt, p'⟩, fun x H' y => ?_⟩
    obtain ⟨T, x2, rfl, hT, rfl, f⟩ := y
    exact hs i x2 H T (f xs q) p hT
  · have e : i = xs.length := by omega
    subst e
    exact .inl ⟨⟨xs, q, Nat.le_refl _⟩, hd H p⟩
theorem el_mapE {ta : TA} {a : Addr} {xs : List V} {j1 j2 : Nat} {vs : List Nat} (w : Nat → V) (h : EvA ta σ H [.ref a]) (hx : SqL K H a xs) (hz : xs.length ≤ 40000)
    (hw : ∀ x y, wipe (((wipe σ vs).set j1 (some x)).set j2 (some y)) vs = wipe σ vs)
    (he : ∀ (i : Nat) (x : V) H1, Ex H H1 → xs[i]? = some x → Ev te (((wipe σ vs).set j1 (some (.int (i : Int)))).set j2 (some x)) H1 (w i)) :
    EvL (tLc (iEnum K ta) (gTup K 2 (gCons (gName j1) (gCons (gName j2) gNil))) tYes te vs) σ H ((List.range xs.length).map w) := fun H0 e Q q => h H0 e _ fun H1 e1 => ⟨a, xs, rfl, ex_l (e.trans e1) hx, fun Dl hD =>
  lc_enum (xs := xs) (fun i H' => Cw H1 (fun _ => true) w Dl i H') ⟨hD, Ex.new hD, upd_same⟩ (fun i H' _ p => ex_l ((e.trans e1).trans p.2.1) hx) (fun i x H' T hi p hT => by
    have p' : Cw H1 (fun _ => true) w Dl i (upd H' T (.tup [.int (i : Int), x])) := ⟨p.1, p.2.1.trans (Ex.new hT), by rw [upd_ne (ne_of_none p.2.2 hT)]; exact p.2.2⟩
    exact ⟨T, [.int (i : Int), x], rfl, st_of upd_same, rfl, .int (i : Int), [x], rfl, x, [], rfl, rfl, hw _ _, cw_turn (f := fun _ => true) p' (by have := (List.getElem?_eq_some_iff.mp hi).1; omega) et_yes fun _ => he i x H1 (e.trans e1) hi⟩)
    (fun H' p => by
      have g := p.2.2
      rw [given_all] at g
      exact q Dl H' (fresh_back e1 p.1) (e1.trans p.2.1) g)⟩
/-! ### what stands behind values, kept by every extension -/
def Kept {α : Type} (R : Hp → V → α → Prop) : Prop := ∀ H H' v a, Ex H H' → R H v a → R H' v a
theorem Paired.ex {α : Type} {R : Hp → V → α → Prop} (k : Kept R) (e : Ex H H') {xs : List V} {as : List α} (p : Paired (R H) xs as) : Paired (R H') xs as := Paired.mapP p fun _ _ q => k _ _ _ _ e q
theorem Paired.app {α β : Type} {F : α → β → Prop} : ∀ {xs ys : List α} {as bs : List β}, Paired F xs as → Paired F ys bs → Paired F (xs ++ ys) (as ++ bs)
  | _, _, _, _, .nil, s => s
  | _, _, _, _, .cons r t, s => .cons r (Paired.app t s)
theorem Paired.at {α β : Type} {F : α → β → Prop} : ∀ {xs : List α} {as : List β} {i : Nat} {x : α}, Paired F xs as → xs[i]? = some x → ∃ a, as[i]? = some a ∧ F x a
  | _, _, 0, x, .cons r _, h => ⟨_, rfl, by rw [← Option.some.inj h]; exact r⟩
  | _, _, i + 1, x, .cons _ t, h => Paired.at (i := i) t h
theorem Paired.at2 {α β : Type} {F : α → β → Prop} : ∀ {xs : List α} {as : List β} {i : Nat} {a : β}, Paired F xs as → as[i]? = some a → ∃ x, xs[i]? = some x ∧ F x a
  | _, _, 0, x, .cons r _, h => ⟨_, rfl, by rw [← Option.some.inj h]; exact r⟩
  | _, _, i + 1, x, .cons _ t, h => Paired.at2 (i := i) t h
theorem Paired.len {α β : Type} {F : α → β → Prop} : ∀ {xs : List α} {as : List β}, Paired F xs as → xs.length = as.length
  | _, _, .nil => rfl
  | _, _, .cons _ t => congrArg (· + 1) (Paired.len t)
theorem Paired.mk {α β : Type} {F : α → β → Prop} : ∀ {xs : List α} {as : List β}, xs.length = as.length → (∀ (i : Nat) (x : α) (a : β), xs[i]? = some x → as[i]? = some a → F x a) → Paired F xs as
  | [], [], _, _ => .nil
  | [], _ :: _, h, _ => by simp at h
  | _ :: _, [], h, _ => by simp at h
  | x :: xs, a :: as, h, f => .cons (f 0 x a rfl rfl) (Paired.mk (by simpa using h) fun i y b h1 h2 => f (i + 1) y b h1 h2)
theorem Paired.take {α β : Type} {F : α → β → Prop} : ∀ {xs : List α} {as : List β} (n : Nat), Paired F xs as → Paired F (xs.take n) (as.take n)
  | _, _, 0, _ => .nil
  | _, _, n + 1, .nil => .nil
  | _, _, n + 1, .cons r t => .cons r (Paired.take n t)
theorem Paired.drop {α β : Type} {F : α → β → Prop} : ∀ {xs : List α} {as : List β} (n : Nat), Paired F xs as → Paired F (xs.drop n) (as.drop n)
  | _, _, 0, p => p
  | _, _, n + 1, .nil => .nil
  | _, _, n + 1, .cons _ t => Paired.drop n t
/-- at v stands the object of a -/
def ObR {α : Type} (o : α → HO) (H : Hp) (v : V) (a : α) : Prop := ∃ p, v = .ref p ∧ H p = some (o a)
theorem ObR.kept {α : Type} (o : α → HO) : Kept (ObR o) := fun _ _ _ _ e ⟨p, h, q⟩ => ⟨p, h, e _ _ q⟩
/-- an expression that gives an object, known ahead or new -/
def EvO (te : TE) (σ : L2.St) (H : Hp) (o : HO) : Prop := ∀ H1, Ex H H1 → ∀ Q : VK, (∀ p H2, (H p ≠ none ∨ H1 p = none) → Ex H1 H2 → H2 p = some o → Q (.ref p) H2) → te σ H1 Q
theorem EvL.o {xs : List V} (h : EvL te σ H xs) : EvO te σ H (.lst xs) := fun H1 e Q q => h H1 e _ fun p H2 hp e2 h2 => q p H2 (.inr hp) e2 h2
theorem EvU.o {xs : List V} (h : EvU te σ H xs) : EvO te σ H (.tup xs) := fun H1 e Q q => h H1 e _ fun p H2 hp e2 h2 => q p H2 (.inr hp) e2 h2
theorem Ev.o {p : Addr} {o : HO} (h : Ev te σ H (.ref p)) (ho : H p = some o) : EvO te σ H o := fun H1 e Q q => h H1 e _ fun H2 e2 => q p H2 (.inl (by rw [ho]; simp)) e2 (e2 p _ (e p _ ho))
/-- .. a new list of new objects -/
def EvLN {α : Type} (te : TE) (σ : L2.St) (H : Hp) (o : α → HO) (as : List α) : Prop := ∀ H1, Ex H H1 → ∀ Q : VK, (∀ p xs H2, H1 p = none → Ex H1 H2 → H2 p = some (.lst xs) → Paired (fun v a => ∃ q, v = .ref q ∧ H1 q = none ∧ q ≠ p ∧ H2 q = some (o a)) xs as → Q (.ref p) H2) → te σ H1 Q
/-- those of as at which f, by g -/
def picked {α : Type} (n : Nat) (f : Nat → Bool) (g : Nat → α) : List α := ((List.range n).filter f).map g
theorem picked_yes {α : Type} {n : Nat} {f : Nat → Bool} {g : Nat → α} (h : f n = true) : picked (n + 1) f g = picked n f g ++ [g n] := by
  unfold picked
  rw [List.range_succ, List.filter_append, List.map_append, List.filter_cons, if_pos h] <;> rfl
theorem picked_no {α : Type} {n : Nat} {f : Nat → Bool} {g : Nat → α} (h : f n = false) : picked (n + 1) f g = picked n f g := by
  unfold picked
  rw [List.range_succ, List.filter_append, List.map_append, List.filter_cons, if_neg (by rw [h]; decide)]
  show _ ++ [] = _
  rw [List.append_nil]
theorem picked_len {α : Type} (n : Nat) (f : Nat → Bool) (g : Nat → α) : (picked n f g).length ≤ n := by
  unfold picked
  rw [List.length_map]
  have h := List.length_filter_le f (List.range n)
  rwa [List.length_range] at h
theorem picked_all {α : Type} (n : Nat) (g : Nat → α) : picked n (fun _ => true) g = (List.range n).map g := by
  unfold picked
  rw [List.filter_eq_self.mpr (by simp)]
def Cp {α : Type} (o : α → HO) (H : Hp) (f : Nat → Bool) (g : Nat → α) (Dl : Addr) (i : Nat) (H' : Hp) : Prop := H Dl = none ∧ Ex H H' ∧ ∃ xs, H' Dl = some (.lst xs) ∧ Paired (fun v a => ∃ p, v = .ref p ∧ H p = none ∧ p ≠ Dl ∧ H' p = some (o a)) xs (picked i f g)
/-- an expression that gives a new object -/
def EvN (te : TE) (σ : L2.St) (H : Hp) (o : HO) : Prop := ∀ H1, Ex H H1 → ∀ Q : VK, (∀ p H2, H1 p = none → Ex H1 H2 → H2 p = some o → Q (.ref p) H2) → te σ H1 Q
theorem EvL.n {xs : List V} (h : EvL te σ H xs) : EvN te σ H (.lst xs) := h
theorem EvU.n {xs : List V} (h : EvU te σ H xs) : EvN te σ H (.tup xs) := h
theorem cp_turn {α : Type} {o : α → HO} {f : Nat → Bool} {g : Nat → α} {Dl : Addr} {i : Nat} {σ2 : L2.St} (p : Cp o H f g Dl i H') (hi : i < 50000) (ht : EvT t σ2 H (f i)) (he : f i = true → EvN te σ2 H (o (g i))) :
    t σ2 H' fun b H3 => if b = true then te σ2 H3 fun y H4 => ∃ acc, H4 Dl = some (.lst acc) ∧ acc.length < sizeLine ∧ Cp o H f g Dl (i + 1) (upd H4 Dl (.lst (acc ++ [y]))) else Cp o H f g Dl (i + 1) H3 := by
  obtain ⟨p1, p2, xs, p3, p4⟩ := p
  refine ht H' p2 _ fun H3 e3 => ?_
  cases hf : f i with
  | true =>
    show te σ2 H3 _
    refine he hf H3 (p2.trans e3) _ fun q H4 hq e4 hy => ⟨xs, e4 Dl _ (e3 Dl _ p3), sz_lt (by have := picked_len i f g; have := Paired.len p4; omega), p1, Ex.mut ((p2.trans e3).trans e4) p1, _, upd_same, ?_⟩
    rw [picked_yes hf]
    have nq : q ≠ Dl := fun z => by
      rw [z, e3 Dl _ p3] at hq
      cases hq
    refine Paired.app (Paired.mapP p4 fun v a ⟨p, e, n0, n, h⟩ => ⟨p, e, n0, n, ?_⟩) (.cons ⟨q, rfl, fresh_back (p2.trans e3) hq, nq, ?_⟩ .nil)
    · rw [upd_ne n]
      exact e4 _ _ (e3 _ _ h)
    · rw [upd_ne nq]
      exact hy
  | false =>
    show Cp o H f g Dl (i + 1) H3
    refine ⟨p1, p2.trans e3, xs, e3 Dl _ p3, ?_⟩
    rw [picked_no hf]
    exact Paired.mapP p4 fun v a ⟨p, e, n0, n, h⟩ => ⟨p, e, n0, n, e3 _ _ h⟩
theorem eln_lcR {α : Type} {o : α → HO} {ta : TA} {j : Nat} {vs : List Nat} {n : Int} (f : Nat → Bool) (g : Nat → α) (h : EvA ta σ H [.int n]) (hn : 0 ≤ n ∧ n ≤ 40000) (hw : ∀ x, wipe ((wipe σ vs).set j (some x)) vs = wipe σ vs)
    (ht : ∀ (i : Nat) H1, Ex H H1 → (i : Int) < n → EvT t ((wipe σ vs).set j (some (.int (i : Int)))) H1 (f i)) (he : ∀ (i : Nat) H1, Ex H H1 → (i : Int) < n → f i = true → EvN te ((wipe σ vs).set j (some (.int (i : Int)))) H1 (o (g i))) :
    EvLN (tLc (iRng1 ta) (gName j) t te vs) σ H o (picked n.toNat f g) := fun H0 e Q q => h H0 e _ fun H1 e1 => ⟨n, rfl, by omega, by omega, fun Dl hD =>
  lc_range (lo := 0) (n := n.toNat) (fun i H' => Cp o H1 f g Dl i H') ⟨hD, Ex.new hD, [], upd_same, .nil⟩ (fun i H' hi p => by
    have e0 : (0 : Int) + (i : Int) = (i : Int) := Int.zero_add _
    show wipe ((wipe σ vs).set j (some (.int ((0 : Int) + (i : Int))))) vs = wipe σ vs ∧ t ((wipe σ vs).set j (some (.int ((0 : Int) + (i : Int))))) H' fun b H3 => if b = true then te ((wipe σ vs).set j (some (.int ((0 : Int) + (i : Int))))) H3 fun y H4 => ∃ acc, H4 Dl = some (.lst acc) ∧ acc.length < sizeLine ∧ Cp o H1 f g Dl (i + 1) (upd H4 Dl (.lst (acc ++ [y]))) else Cp o H1 f g Dl (i + 1) H3
    rw [e0]
    exact ⟨hw _, cp_turn p (by omega) (ht i H1 (e.trans e1) (by omega)) (fun hf => he i H1 (e.trans e1) (by omega) hf)⟩)
    (fun H' ⟨p1, p2, xs, p3, p4⟩ => q Dl xs H' (fresh_back e1 p1) (e1.trans p2) p3 (Paired.mapP p4 fun v a ⟨p, e, n0, n1, h⟩ => ⟨p, e, fresh_back e1 n0, n1, h⟩))⟩
/-- a list of ints -/
def oRow (r : List Int) : HO := .lst (r.map V.int)
/-- x in, not in a list of ints -/
theorem inV_ints (n : Int) (ns : List Int) : inV (.int n) (ns.map V.int) = decide (n ∈ ns) := by
  unfold inV
  induction ns with
  | nil => simp
  | cons m r ih =>
    rw [List.map_cons, List.any_cons, ih]
    show ((m == n) || decide (n ∈ r)) = decide (n ∈ m :: r)
    by_cases e : m = n
    · simp [e]
    · have e2 : ¬ n = m := fun z => e z.symm
      simp [e, e2]
theorem flat_ints (ns : List Int) : (ns.map V.int).all flatV = true := by
  rw [List.all_eq_true]
  intro x hx
  obtain ⟨n, _, rfl⟩ := List.mem_map.mp hx
  rfl
theorem rv_niI {p : Addr} {ns : List Int} {n : Int} (h : SqL K H p (ns.map V.int)) : RV (rIn K true) (.int n) (.ref p) H (.bl (!decide (n ∈ ns))) := by
  rw [← inV_ints]
  exact rv_niL h rfl (flat_ints ns)
theorem rv_isI {p : Addr} {ns : List Int} {n : Int} (h : SqL K H p (ns.map V.int)) : RV (rIn K false) (.int n) (.ref p) H (.bl (decide (n ∈ ns))) := by
  rw [← inV_ints]
  exact rv_isL h rfl (flat_ints ns)
end

end TS
namespace TS
open PySem PySem.Spec PyProof.Rows L2 Evl
local macro_rules | `(tactic| walk_at "ev") => `(tactic| repeat' (first
  | exact ev_c
  | exact ev_var rfl
  | exact ea_nil
  | refine ea_cons ?_ ?_
  | refine ev_op ?_ ?_ rv_I0
  | refine ev_op ?_ ?_ (rv_I ?_)
  | refine ev_op ?_ ?_ (rv_ne rfl)
  | refine ev_op ?_ ?_ (rv_eq rfl)
  | refine ev_un ?_ ru_neg
  | refine et_test ?_
  | refine et_B ?_
  | refine et_not ?_
  | refine ev_notV ?_
  | refine ev_max2 ?_ ?_))
section
variable {K : PySem.W.Frag} {σ : L2.St} {H H' : Hp} {ta tb tc te tx to ti : TE} {t u : TT} {x y z v : V} {r : R2} {D : Ends} {tu tw tz : TS}
theorem q_par3LVL {i j l : Nat} {xs zs : List V} (h1 : EvL ta σ H xs) (h2 : Ev tb σ H v) (h3 : EvL tc σ H zs)
    (k : ∀ p q H1, H p = none → H q = none → p ≠ q → Ex H H1 → H1 p = some (.lst xs) → H1 q = some (.lst zs) → tz D (((σ.set i (some (.ref p))).set j (some v)).set l (some (.ref q))) H1) :
    tSeq (tPar3 i j l (tCons ta (tCons tb (tCons tc tNil)))) tz D σ H := h1 H (Ex.refl H) _ fun p H1 hp e1 w1 => h2 H1 e1 _ fun H2 e2 => h3 H2 (e1.trans e2) _ fun q H3 hq e3 w3 =>
  ⟨.ref p, v, .ref q, rfl, k p q H3 hp (fresh_back (e1.trans e2) hq) (fun z => by rw [← z, e2 _ _ w1] at hq; cases hq) ((e1.trans e2).trans e3) (e3 _ _ (e2 _ _ w1)) w3⟩
/-- an if, then what follows once: from J -/
theorem q_ifK {b : Bool} (J : L2.St → Hp → Prop) (h : EvT t σ H b) (h1 : b = true → ∀ H1, Ex H H1 → ∀ N : L2.St → Hp → Prop, (∀ σ2 H2, J σ2 H2 → N σ2 H2) → tu { D with nx := N } σ H1)
    (h2 : b = false → ∀ H1, Ex H H1 → ∀ N : L2.St → Hp → Prop, (∀ σ2 H2, J σ2 H2 → N σ2 H2) → tw { D with nx := N } σ H1) (k : ∀ σ2 H2, J σ2 H2 → tz D σ2 H2) : tSeq (tIfS t tu tw) tz D σ H :=
  q_if h (fun hb H1 e => h1 hb H1 e _ k) fun hb H1 e => h2 hb H1 e _ k
theorem q_whenK {b : Bool} (J : L2.St → Hp → Prop) (h : EvT t σ H b) (h1 : b = true → ∀ H1, Ex H H1 → ∀ N : L2.St → Hp → Prop, (∀ σ2 H2, J σ2 H2 → N σ2 H2) → tu { D with nx := N } σ H1)
    (h2 : b = false → ∀ H1, Ex H H1 → J σ H1) (k : ∀ σ2 H2, J σ2 H2 → tz D σ2 H2) : tSeq (tIfS t tu tNext) tz D σ H :=
  q_when h (fun hb H1 e => h1 hb H1 e _ k) fun hb H1 e => k σ H1 (h2 hb H1 e)
/-- a, b = a new pair -/
theorem q_tup2 {i j : Nat} {ta : TA} (h : EvA ta σ H [x, y]) (k : ∀ H1, Ex H H1 → tz D ((σ.set i (some x)).set j (some y)) H1) : tSeq (tAsg (tTup ta) (gTup K 2 (gCons (gName i) (gCons (gName j) gNil)))) tz D σ H := h H (Ex.refl H) _ fun H1 e1 =>
  ⟨by show 2 ≤ sizeLine; decide, fun p hp => ⟨p, [x, y], rfl, st_of upd_same, rfl, x, [y], rfl, y, [], rfl, rfl, k _ (e1.trans (Ex.new hp))⟩⟩
/-- over a new tuple -/
theorem s_forNT {xs : List V} {tl : TE} {g : TG} (h : EvU tl σ H xs) (Pv : Nat → L2.St → Hp → Prop) (h0 : ∀ H1, Ex H H1 → Pv 0 σ H1) (hk : ∀ i σ' H', Pv i σ' H' → Ex H H') (hs : ∀ i x σ' H', xs[i]? = some x → Pv i σ' H' → ∀ N : L2.St → Hp → Prop, (∀ σ2 H2, Pv (i + 1) σ2 H2 → Ex H' H2 → N σ2 H2) → g x σ' H' fun σ2 H2 => tu { D with nx := N, ct := N, bk := D.nx } σ2 H2)
    (hd : ∀ σ' H', Pv xs.length σ' H' → D.nx σ' H') : tFor (iTup K tl) g tu D σ H :=
  h H (Ex.refl H) _ fun p H1 hp e h1 => ⟨p, rfl, ⟨xs, st_of h1⟩, for_tup (fun i σ' H' => Pv i σ' H' ∧ Ex H1 H') ⟨h0 H1 e, Ex.refl H1⟩ (fun i σ' H' _ q => st_of (q.2 _ _ h1)) (fun i x σ' H' hi q => hs i x σ' H' hi q.1 _ fun σ2 H2 a b => ⟨a, q.2.trans b⟩) fun σ' H' q => hd σ' H' q.1⟩
theorem q_forNT {xs : List V} {tl : TE} {g : TG} (h : EvU tl σ H xs) (Pv : Nat → L2.St → Hp → Prop) (h0 : ∀ H1, Ex H H1 → Pv 0 σ H1) (hk : ∀ i σ' H', Pv i σ' H' → Ex H H') (hs : ∀ i x σ' H', xs[i]? = some x → Pv i σ' H' → ∀ N : L2.St → Hp → Prop, (∀ σ2 H2, Pv (i + 1) σ2 H2 → Ex H' H2 → N σ2 H2) → g x σ' H' fun σ2 H2 => tu { D with nx := N, ct := N, bk := tz D } σ2 H2)
    (hd : ∀ σ' H', Pv xs.length σ' H' → tz D σ' H') : tSeq (tFor (iTup K tl) g tu) tz D σ H := s_forNT (D := { D with nx := tz D }) h Pv h0 hk hs hd
/-- a call whose one argument is a new list; whose first of two is one -/
theorem el_callL {sp : Sp} {E : XK} {xs ys : List V} (h : EvL te σ H xs) (hs : ∀ p H1, H1 p = some (.lst xs) → Ex H H1 → SpL sp [.ref p] H1 ys) : EvL (tCall sp [] E (tCons te tNil)) σ H ys := fun H1 e Q q =>
  h H1 e _ fun p H2 hp e2 w => hs p H2 w (e.trans e2) H2 (Ex.refl H2) Q (fun p3 H3 h3 e3 w3 => q p3 H3 (fresh_back e2 h3) (e2.trans e3) w3) E
theorem ev_callL2 {sp : Sp} {E : XK} {xs : List V} (h : EvL te σ H xs) (h2 : Ev ta σ H y) (hs : ∀ p H1, H1 p = some (.lst xs) → Ex H H1 → SpV sp [.ref p, y] H1 z) : Ev (tCall sp [] E (tCons te (tCons ta tNil))) σ H z := fun H1 e Q q =>
  h H1 e _ fun p H2 hp e2 w => h2 H2 (e.trans e2) _ fun H3 e3 => hs p H3 (e3 _ _ w) ((e.trans e2).trans e3) H3 (Ex.refl H3) Q (fun H4 e4 => q H4 ((e2.trans e3).trans e4)) E
theorem ev_callL {sp : Sp} {E : XK} {xs : List V} (h : EvL te σ H xs) (hs : ∀ p H1, H1 p = some (.lst xs) → Ex H H1 → SpV sp [.ref p] H1 z) : Ev (tCall sp [] E (tCons te tNil)) σ H z := fun H1 e Q q =>
  h H1 e _ fun p H2 hp e2 w => hs p H2 w (e.trans e2) H2 (Ex.refl H2) Q (fun H4 e4 => q H4 (e2.trans e4)) E
/-- xs.pop() -/
theorem s_pop {l : Addr} {xs : List V} (hl : H l = some (.lst xs)) (ha : Ev ta σ H (.ref l)) (hx : xs[xs.length - 1]? = some x) (k : ∀ H1, Ex H H1 → D.nx σ (upd H1 l (.lst xs.dropLast))) : tDrop (tBM0 K "list" rPop ta) D σ H := ha H (Ex.refl H) _ fun H1 e1 =>
  ⟨Or.inl ⟨rfl, xs, sq_of (e1 l _ hl)⟩, l, xs, x, rfl, rfl, e1 l _ hl, hx, k H1 e1⟩
theorem cutV_but1 (xs : List V) : cutV xs none (some (-1)) = xs.dropLast := by
  unfold cutV
  rw [HT.sIx_none, Nat.sub_zero, List.drop_zero, List.dropLast_eq_take]
  congr 1
  unfold HT.sIx
  simp
  try omega
end

end TS
namespace TS
open PySem PySem.Spec PyProof.Rows L2 Evl
local macro_rules | `(tactic| walk_at "ev") => `(tactic| repeat' (first
  | exact ev_c
  | exact ev_var rfl
  | exact ea_nil
  | refine ea_cons ?_ ?_
  | refine ev_op ?_ ?_ rv_I0
  | refine ev_op ?_ ?_ (rv_I ?_)
  | refine ev_op ?_ ?_ (rv_ne rfl)
  | refine ev_op ?_ ?_ (rv_eq rfl)
  | refine ev_un ?_ ru_neg
  | refine et_test ?_
  | refine et_B ?_
  | refine et_not ?_
  | refine ev_notV ?_
  | refine ev_max2 ?_ ?_))
def top (i : Nat) : Stmt := PySem.Challenge.pw_towerstair_k01_whole_counts.main.body.getD i (.Pass ⟨0, 0, 0, 0⟩)
abbrev s_is_whole : Stmt := top 5
theorem sc_is_whole : FnScope ["thing"] ["thing"] (defScope s_is_whole) := ⟨rfl, rfl, rfl, by decide +kernel, rfl, by decide +kernel, by decide +kernel⟩
abbrev s_check_stairs : Stmt := top 6
theorem sc_check_stairs : FnScope ["stairs", "last", "height"] ["stairs"] (defScope s_check_stairs) := ⟨rfl, rfl, rfl, by decide +kernel, rfl, by decide +kernel, by decide +kernel⟩
abbrev s_check_count : Stmt := top 7
theorem sc_check_count : FnScope ["number", "most"] ["number", "most"] (defScope s_check_count) := ⟨rfl, rfl, rfl, by decide +kernel, rfl, by decide +kernel, by decide +kernel⟩
abbrev s_counts_of : Stmt := top 8
theorem sc_counts_of : FnScope ["stairs", "found", "height", "many"] ["stairs"] (defScope s_counts_of) := ⟨rfl, rfl, rfl, by decide +kernel, rfl, by decide +kernel, by decide +kernel⟩
abbrev s_counts : Stmt := top 9
theorem sc_counts : FnScope ["stairs"] ["stairs"] (defScope s_counts) := ⟨rfl, rfl, rfl, by decide +kernel, rfl, by decide +kernel, by decide +kernel⟩
abbrev s_filled : Stmt := top 10
theorem sc_filled : FnScope ["stairs", "more", "found", "column", "height"] ["stairs", "more"] (defScope s_filled) := ⟨rfl, rfl, rfl, by decide +kernel, rfl, by decide +kernel, by decide +kernel⟩
abbrev s_l_cell_at : Stmt := top 12
theorem sc_l_cell_at : FnScope ["_law_script", "_law_k"] ["_law_script", "_law_k"] (defScope s_l_cell_at) := ⟨rfl, rfl, rfl, by decide +kernel, rfl, by decide +kernel, by decide +kernel⟩
abbrev s_l_draw : Stmt := top 13
theorem sc_l_draw : FnScope ["_law_cell", "_law_k", "_law_many", "_law_primes"] ["_law_cell", "_law_k", "_law_many"] (defScope s_l_draw) := ⟨rfl, rfl, rfl, by decide +kernel, rfl, by decide +kernel, by decide +kernel⟩
abbrev s_l_stairs : Stmt := top 14
theorem sc_l_stairs : FnScope ["_law_script", "_law_kind", "_law_many", "_law_most", "_law_found", "_law_cell", "_law_k", "_law_height"] ["_law_script"] (defScope s_l_stairs) := ⟨rfl, rfl, rfl, by decide +kernel, rfl, by decide +kernel, by decide +kernel⟩
abbrev s_l_counts : Stmt := top 15
theorem sc_l_counts : FnScope ["_law_stairs_here", "_law_found", "_law_column", "_law_height", "_law_many", "_law_ways"] ["_law_stairs_here"] (defScope s_l_counts) := ⟨rfl, rfl, rfl, by decide +kernel, rfl, by decide +kernel, by decide +kernel⟩
abbrev s_l_towers : Stmt := top 16
theorem sc_l_towers : FnScope ["_law_stairs_here", "_law_found", "_law_columns", "_law_rows", "_law_column", "_law_row", "_law_cell"] ["_law_stairs_here", "_law_found"] (defScope s_l_towers) := ⟨rfl, rfl, rfl, by decide +kernel, rfl, by decide +kernel, by decide +kernel⟩
abbrev s_l_far : Stmt := top 17
theorem sc_l_far : FnScope ["_law_script", "_law_by", "_law_most", "_law_found", "_law_k"] ["_law_script", "_law_by", "_law_most"] (defScope s_l_far) := ⟨rfl, rfl, rfl, by decide +kernel, rfl, by decide +kernel, by decide +kernel⟩
abbrev s_l_whole : Stmt := top 18
theorem sc_l_whole : FnScope ["_law_number"] ["_law_number"] (defScope s_l_whole) := ⟨rfl, rfl, rfl, by decide +kernel, rfl, by decide +kernel, by decide +kernel⟩
abbrev s_l_tried : Stmt := top 19
theorem sc_l_tried : FnScope ["_law_stairs_here", "_law_ways", "_law_found", "_law_height", "_law_more", "_law_rows", "_law_row"] ["_law_stairs_here"] (defScope s_l_tried) := ⟨rfl, rfl, rfl, by decide +kernel, rfl, by decide +kernel, by decide +kernel⟩
abbrev s_law : Stmt := top 20
theorem sc_law : FnScope ["_law_script", "_law_stairs_here", "_law_due", "_law_many", "_law_handed", "_law_again", "_law_found", "_law_drawn", "_law_more", "_law_whole_here", "_law_rest", "_law_left", "_law_told", "_law_few", "_law_one", "_law_height"] ["_law_script"] (defScope s_law) := ⟨rfl, rfl, rfl, by decide +kernel, rfl, by decide +kernel, by decide +kernel⟩
end TS
namespace TS
open PySem PySem.Spec PyProof.Rows L2 Evl
local macro_rules | `(tactic| walk_at "ev") => `(tactic| repeat' (first
  | exact ev_c
  | exact ev_var rfl
  | exact ea_nil
  | refine ea_cons ?_ ?_
  | refine ev_op ?_ ?_ rv_I0
  | refine ev_op ?_ ?_ (rv_I ?_)
  | refine ev_op ?_ ?_ (rv_ne rfl)
  | refine ev_op ?_ ?_ (rv_eq rfl)
  | refine ev_un ?_ ru_neg
  | refine et_test ?_
  | refine et_B ?_
  | refine et_not ?_
  | refine ev_notV ?_
  | refine ev_max2 ?_ ?_))
section
variable {P : Program} {w : World} {K : PySem.W.Frag} {mg : Str → Option Value} {base : Heap}
/-! ### is_whole -/
def WholeIs (K : PySem.W.Frag) (H : Hp) (v : V) (b : Bool) : Prop := ∃ (t : Value) (b1 b2 : Bool), TyX K H v t ∧ PySem.W.kitOne K t (.type "int") = some b1 ∧ PySem.W.kitOne K t (.type "bool") = some b2 ∧ b = (b1 && !b2)
theorem TyX.mono {H H' : Hp} {v : V} {t : Value} (e : Ex H H') (h : TyX K H v t) : TyX K H' v t := by
  cases h with
  | base h =>
    cases h with
    | non => exact .base .non
    | bl b => exact .base (.bl b)
    | int i => exact .base (.int i)
    | str x => exact .base (.str x)
    | flt x => exact .base (.flt x)
    | lst h => exact .base (.lst (e _ _ h))
    | frz h => exact .base (.frz (e _ _ h))
    | tup h => exact .base (.tup (e _ _ h))
    | dK h => exact .base (.dK (e _ _ h))
    | dT h => exact .base (.dT (e _ _ h))
    | ins h a b c d f => exact .base (.ins (e _ _ h) a b c d f)
  | byt b => exact .byt b
  | set h => exact .set (e _ _ h)
  | kList h c => exact .kList h c
  | kTuple h c => exact .kTuple h c
  | kDict h c => exact .kDict h c
  | fTuple h => exact .fTuple (e _ _ h)
  | fDict h => exact .fDict (e _ _ h)
theorem wholeIs_int {H : Hp} (i : Int) : WholeIs K H (.int i) true := ⟨_, true, false, tyx_int i, kit_ty (by decide +kernel), kit_ty (by decide +kernel), rfl⟩
def spWhole (K : PySem.W.Frag) : Sp := fun vs H Q _ => ∃ v b, vs = [v] ∧ WholeIs K H v b ∧ RetV (.bl b) H Q
theorem got_is_whole (F : FnAt K mg "is_whole" "is_whole" s_is_whole) (m_isinstance : mg "isinstance" = none) (m_int : mg "int" = none) (m_bool : mg "bool" = none) : Got P w K mg base CX0 1 "is_whole" (spWhole K) := by
  refine mk_got F sc_is_whole (fun vs H Q E h => ?_) (fun _ _ _ _ _ _ us hl => match us, hl with | [_], _ => rfl) (fun f cdv A outer s H vs Q E hr h => ?_)
  · obtain ⟨v, b, rfl, _⟩ := h
    rfl
  · obtain ⟨v, b, rfl, ⟨t, b1, b2, ty, k1, k2, rfl⟩, q⟩ := h
    refine ⟨_, (pss_one (ps_ret (pe_and (pe_callB call_isi (by rfl) m_isinstance (by decide +kernel) (pa_cons (pv 0) (pa_cons (pe_bltn (v := .ty "int") (by rfl) m_int (by decide +kernel) rfl) pa_nil))) (pe_one (pe_not (pe_callB call_isi (by rfl) m_isinstance (by decide +kernel) (pa_cons (pv 0) (pa_cons (pe_bltn (v := .ty "bool") (by rfl) m_bool (by decide +kernel) rfl) pa_nil)))))))), ?_⟩
    refine s_ret (v := .bl (b1 && !b2)) (ev_andV (ev_isi (ev_var rfl) (.ty _) (fun H1 e => TyX.mono e ty) k1) fun _ => ev_notV (ev_isi (ev_var rfl) (.ty _) (fun H1 e => TyX.mono e ty) k2)) q
theorem sv_whole_int {H : Hp} (i : Int) : SpV (spWhole K) [.int i] H (.bl true) := fun H1 e Q q E => ⟨_, _, rfl, wholeIs_int i, q⟩
/-! ### check_stairs: of stairs -/
def spCheck (K : PySem.W.Frag) : Sp := fun vs H Q _ => ∃ (a : Addr) (hs : List Int), vs = [.ref a] ∧ SqL K H a (hs.map V.int) ∧ Stairs hs ∧ hs.length ≤ 40000 ∧ RetV .non H Q
theorem got_check_stairs (F : FnAt K mg "check_stairs" "check_stairs" s_check_stairs) (G_is_whole : Got P w K mg base CX0 1 "is_whole" (spWhole K)) (m_isinstance : mg "isinstance" = none) (m_list : mg "list" = none) (m_all : mg "all" = none) : Got P w K mg base CX0 2 "check_stairs" (spCheck K) := by
  refine mk_got F sc_check_stairs (fun vs H Q E h => ?_) (fun _ _ _ _ _ _ us hl => match us, hl with | [_], _ => rfl) (fun f cdv A outer s H vs Q E hr h => ?_)
  · obtain ⟨v, b, rfl, _⟩ := h
    rfl
  · obtain ⟨a, hs, rfl, hS, hst, hz, q⟩ := h
    refine ⟨_, (pss_cons (ps_if (PW.pt (pw_or (pt_not (pt_val (pe_callB call_isi (by rfl) m_isinstance (by decide +kernel) (pa_cons (pv 0) (pa_cons (pe_bltn (v := .ty "list") (by rfl) m_list (by decide +kernel) rfl) pa_nil))))) (pw_or1 (pt_not (pt_val (pe_callB (cr_all rfl) (by rfl) m_all (by decide +kernel) (pa_cons (pe_lc (own := [("height", 2)]) rfl sc_check_stairs.nd (pi_list (pv 0)) (blkOk_by (N := ["stairs", "last", "height"]) (sc := defScope s_check_stairs) (by decide +kernel)) (fun _ _ _ _ _ => (pg_name (i := 2) sc_check_stairs.nd rfl (Or.inl rfl))) (fun _ _ _ _ _ => pts_nil) (fun _ _ _ _ _ => (pe_got G_is_whole (hr.mono (by decide)) pass0 (pa_cons (pv 2) pa_nil)))) pa_nil)))))))
pss_never
pss_nil)
(pss_cons (ps_set (i := 1) sc_check_stairs.nd rfl (.inl rfl) pe_int)
(pss_one (ps_for PassesOwn.never rfl (pi_list (pv 0)) (pg_name (i := 2) sc_check_stairs.nd rfl (.inl rfl))
(pss_cons (ps_if (pt_cmpR op_lt (pv 2) (pv 1) (nomark _))
pss_never
pss_nil)
(pss_one (ps_set (i := 1) sc_check_stairs.nd rfl (.inl rfl) (pv 2)))))))), ?_⟩
    refine q_when (b := false) ?_ (fun z => nomatch z) fun _ H1 e1 => ?_
    · refine et_is (et_or (et_not (et_B (ev_isi (ev_var rfl) (.ty _) (fun H1 e => tyx_sqL (ex_l e hS)) (kit_ty (b := "list") (r := true) (by decide +kernel))))) fun _ => et_not (et_B (ev_all (bs := hs.map fun _ => true) ?_))) ?_
      · rw [List.map_map]
        exact el_ints (fun _ => .bl true) (ev_var rfl) hS hz (fun _ => rfl) fun i n H1 e1 _ => ev_call (ea_cons (ev_var rfl) ea_nil) (sv_whole_int n)
      · simp
    · refine q_asg ev_c fun H2 e2 => ?_
      refine s_forLn (ev_var rfl) (ex_l (e1.trans e2) hS) (fun i σ H' => ∃ l y, σ = [some (.ref a), some (.int l), y] ∧ Ex H H' ∧ ∀ x ∈ hs.drop i, l ≤ x) (fun H3 e3 => ⟨0, none, rfl, (e1.trans e2).trans e3, fun x hx => hst.pos x hx⟩) (fun i σ' H' _ ⟨_, _, _, e, _⟩ => ex_l e hS) ?_ ?_
      · rintro i x σ' H' hi ⟨l, y, rfl, e, hl⟩
        obtain ⟨n, hn, rfl, _, hlt⟩ := int_at hi
        have hd : hs.drop i = n :: hs.drop (i + 1) := by
          rw [List.drop_eq_getElem_cons hlt]
          rw [List.getElem?_eq_getElem hlt] at hn
          rw [Option.some.inj hn]
        refine q_when (b := decide (n < l)) (et_test (ev_op (ev_var rfl) (ev_var rfl) rv_I0)) (fun z => ?_) fun _ H3 e3 => ?_
        · have := hl n (by rw [hd]; simp)
          have := of_decide_eq_true z
          omega
        · refine s_asg (ev_var rfl) fun H4 e4 => ⟨n, some (.int n), rfl, (e.trans e3).trans e4, fun x hx => ?_⟩
          have up := (hst.drop i).up
          rw [hd] at up
          exact List.rel_of_pairwise_cons up hx
      · rintro σ' H' ⟨l, y, rfl, e, hl⟩
        exact q H' e

/-! ### check_count: of a count -/
/-- a most: None, or an int that the number does not pass -/
def MostIs (n : Int) : V → Prop
  | .non => True
  | .int m => n ≤ m
  | _ => False
def spCount : Sp := fun vs H Q _ => ∃ (n : Int) (m : V), vs = [.int n, m] ∧ 0 ≤ n ∧ MostIs n m ∧ RetV .non H Q
theorem got_check_count (F : FnAt K mg "check_count" "check_count" s_check_count) (G_is_whole : Got P w K mg base CX0 1 "is_whole" (spWhole K)) : Got P w K mg base CX0 2 "check_count" spCount := by
  refine mk_got F sc_check_count (fun vs H Q E h => ?_) (fun _ _ _ _ _ _ us hl => match us, hl with | [_, _], _ => rfl) (fun f cdv A outer s H vs Q E hr h => ?_)
  · obtain ⟨v, b, rfl, _⟩ := h
    rfl
  · obtain ⟨n, m, rfl, h0, hm, q⟩ := h
    refine ⟨_, (pss_one (ps_if (PW.pt (pw_or (pt_not (pt_val (pe_got G_is_whole (hr.mono (by decide)) pass0 (pa_cons (pv 0) pa_nil)))) (pw_or (pt_cmpR op_lt (pv 0) pe_int (nomark _)) (pw_or1 (PW.pt (pw_and (pt_cmpR op_notN (pv 1) pe_non (nomark _)) (pw_and1 (pt_cmpR op_gt (pv 0) (pv 1) (nomark _)))))))))
pss_never
pss_nil)), ?_⟩
    have ht : EvT (tTest (tOp (rI0 fun i j => V.bl (decide (i < j))) (tVar 0) (tC (.int 0)))) (L2.start ["number", "most"] [.int n, m]) H false := et_is (et_test (ev_op (ev_var rfl) ev_c rv_I0)) (decide_eq_false (by omega))
    refine s_when (b := false) (et_is (et_or (et_not (et_B (ev_call (ea_cons (ev_var rfl) ea_nil) (sv_whole_int n)))) fun _ => et_or ht fun _ => et_and (b := false) (et_test (ev_op (ev_var rfl) ev_c (rv_val (z := .bl (!decide (m = .non))) fun H1 _ Q q => ⟨rfl, q⟩))) (fun hb => ?_)) ?_) (fun z => nomatch z) fun _ H1 e1 => q H1 e1
    · cases m with
      | non => simp at hb
      | int m => exact et_is (et_test (ev_op (ev_var rfl) (ev_var rfl) rv_I0)) (decide_eq_false (Int.not_lt.mpr hm))
      | bl b => exact (show False from hm).elim
      | str x => exact (show False from hm).elim
      | byt x => exact (show False from hm).elim
      | flt x => exact (show False from hm).elim
      | ref x => exact (show False from hm).elim
      | ty x => exact (show False from hm).elim
    · simp
/-! ### counts_of -/
/-- stairs as they come in the laws: of at most 70 columns, below 2 ^ 200 -/
structure Fine (hs : List Int) : Prop where
  st : Stairs hs
  lt : ∀ h ∈ hs, h < 2 ^ 200
  len : hs.length ≤ 70
theorem Fine.z {hs : List Int} (f : Fine hs) : hs.length ≤ 40000 := Nat.le_trans f.len (by decide)
/-- the counts as a list -/
def cl (hs : List Int) : List Int := tab (hs.length + 1) (C hs)
def ivs (ns : List Int) : List V := ns.map V.int
theorem nat_lt_pow {a b : Nat} {x : Int} (h : x.natAbs < 2 ^ a) (hab : a ≤ b) : x.natAbs < 2 ^ b := Nat.lt_of_lt_of_le h (Nat.pow_le_pow_right (by decide) hab)
theorem R_lt : ∀ {l : List Int} {k : Nat}, (∀ h ∈ l, h < 2 ^ 200) → R l k < 2 ^ (201 * l.length + 1)
  | [], 0, _ => by simp [R]
  | [], _ + 1, _ => by simp [R]
  | a :: t, 0, h => by
    have ih := R_lt (l := t) (k := 0) (fun x hx => h x (List.mem_cons_of_mem _ hx))
    have : (2 : Int) ^ (201 * t.length + 1) ≤ 2 ^ (201 * (a :: t).length + 1) := by
      rw [List.length_cons]
      exact_mod_cast Nat.pow_le_pow_right (n := 2) (by decide) (by omega)
    exact Int.lt_of_lt_of_le ih this
  | a :: t, k + 1, h => by
    have i1 := R_lt (l := t) (k := k + 1) (fun x hx => h x (List.mem_cons_of_mem _ hx))
    have i2 := R_lt (l := t) (k := k) (fun x hx => h x (List.mem_cons_of_mem _ hx))
    have n2 := R_nonneg t k
    have ha := h a List.mem_cons_self
    show R t (k + 1) + max 0 (a - k) * R t k < _
    have e : (2 : Int) ^ (201 * (a :: t).length + 1) = 2 ^ 201 * 2 ^ (201 * t.length + 1) := by
      rw [List.length_cons, ← Int.pow_add]
      congr 1
      omega
    rw [e]
    have m1 : max 0 (a - (k : Int)) ≤ 2 ^ 200 := by omega
    have m2 : max 0 (a - (k : Int)) * R t k ≤ 2 ^ 200 * R t k := Int.mul_le_mul_of_nonneg_right m1 n2
    have m3 : (2 : Int) ^ 200 * R t k ≤ 2 ^ 200 * 2 ^ (201 * t.length + 1) := Int.mul_le_mul_of_nonneg_left (by omega) (by decide)
    generalize (2 : Int) ^ (201 * t.length + 1) = B at *
    generalize R t k = r at *
    generalize max 0 (a - (k : Int)) * r = y at *
    have e2 : (2 : Int) ^ 201 = 2 * 2 ^ 200 := by decide +kernel
    rw [e2]
    have : (1 : Int) ≤ 2 ^ 200 := by decide +kernel
    generalize (2 : Int) ^ 200 = T at *
    have : B ≤ T * B := by
      have := Int.mul_le_mul_of_nonneg_right this (show 0 ≤ B by omega)
      omega
    have : 2 * T * B = T * B + T * B := by rw [Int.mul_assoc]; omega
    omega
theorem C_bits {hs : List Int} (f : ∀ h ∈ hs, h < 2 ^ 200) (hl : hs.length ≤ 70) (k : Nat) : (C hs k).natAbs < 2 ^ 15000 := by
  have h1 : C hs k < 2 ^ (201 * hs.reverse.length + 1) := R_lt (l := hs.reverse) fun h hh => f h (by simpa using hh)
  have h2 := C_nonneg hs k
  have h3 : (C hs k).natAbs < 2 ^ (201 * hs.reverse.length + 1) := by
    have e : ((2 ^ (201 * hs.reverse.length + 1) : Nat) : Int) = 2 ^ (201 * hs.reverse.length + 1) := by norm_cast
    omega
  exact nat_lt_pow h3 (by rw [List.length_reverse]; omega)
theorem int_bits {x : Int} {a : Nat} (h1 : -(2 ^ a) < x) (h2 : x < 2 ^ a) : x.natAbs < 2 ^ a := by
  have e : ((2 ^ a : Nat) : Int) = 2 ^ a := by norm_cast
  omega
theorem take_snoc {hs : List Int} {i : Nat} {n : Int} (h : hs[i]? = some n) : hs.take (i + 1) = hs.take i ++ [n] := by
  rw [List.take_add_one, h]; rfl
theorem take_len {hs : List Int} {i : Nat} {n : Int} (h : hs[i]? = some n) : (hs.take i).length = i := by
  rw [List.length_take]
  have := (List.getElem?_eq_some_iff.mp h).1
  omega
def spCountsOf (K : PySem.W.Frag) : Sp := fun vs H Q _ => ∃ (a : Addr) (hs : List Int), vs = [.ref a] ∧ SqL K H a (ivs hs) ∧ Fine hs ∧ RetL (ivs (cl hs)) H Q
theorem got_counts_of (F : FnAt K mg "counts_of" "counts_of" s_counts_of) (m_len : mg "len" = none) (m_max : mg "max" = none) (m_range : mg "range" = none) (m_reversed : mg "reversed" = none) : Got P w K mg base CX0 1 "counts_of" (spCountsOf K) := by
  refine mk_got F sc_counts_of (fun vs H Q E h => ?_) (fun _ _ _ _ _ _ us hl => match us, hl with | [_], _ => rfl) (fun f cdv A outer s H vs Q E hr h => ?_)
  · obtain ⟨v, b, rfl, _⟩ := h
    rfl
  · obtain ⟨a, hs, rfl, hS, fi, q⟩ := h
    refine ⟨_, (pss_cons (ps_set (i := 1) sc_counts_of.nd rfl (.inl rfl) (pe_lst (pa_cons pe_int pa_nil)))
(pss_cons (ps_for PassesOwn.never rfl (pi_list (pv 0)) (pg_name (i := 2) sc_counts_of.nd rfl (.inl rfl))
(pss_cons (ps_expr (pe_bm PySem.F.plainAttrs_list PySem.F.slot_list_append PySem.F.type_list_append mt_append (pv 1) (pa_cons pe_int pa_nil)))
(pss_one (ps_for PassesOwn.never rfl (pi_revR (by rfl) m_reversed (prg_2 (by rfl) m_range pe_int (pe_callB call_len_seq (by rfl) m_len (by decide +kernel) (pa_cons (pv 1) pa_nil)))) (pg_name (i := 3) sc_counts_of.nd rfl (.inl rfl))
(pss_one (ps_augS (pv 1) (pv 3) get_list (pe_op op_mulW (pe_callB (call_max2 rfl) (by rfl) m_max (by decide +kernel) (pa_cons pe_int (pa_cons (pe_op op_add (pe_op op_sub (pv 2) (pv 3)) pe_int) pa_nil))) (pe_ix ix_list (pv 1) (pe_op op_sub (pv 3) pe_int) (fun _ _ => rfl))) ip_add set_list))))))
(pss_one (ps_ret (pv 1))))), ?_⟩
    refine q_asgL (xs := ivs [1]) (el_lst (ea_cons ev_c ea_nil) (by decide)) fun p H1 hp e1 h1 => ?_
    refine q_forLn (ev_var rfl) (ex_l e1 hS) (fun i σ H' => ∃ y2 y3, σ = [some (.ref a), some (.ref p), y2, y3] ∧ Ex H H' ∧ H' p = some (.lst (ivs (tab (i + 1) (C (hs.take i)))))) (fun H2 e2 => ⟨none, none, rfl, e1.trans e2, e2 _ _ h1⟩) (fun i σ' H' _ ⟨_, _, _, e, _⟩ => ex_l e hS) ?_ ?_
    · rintro i x σ' H' hi ⟨y2, y3, rfl, e, h2⟩
      obtain ⟨n, hn, rfl, _, hlt⟩ := int_at hi
      have hi70 := fi.len
      have tl := take_len hn
      have fb : ∀ h ∈ hs.take i, h < 2 ^ 200 := fun h hh => fi.lt h (List.mem_of_mem_take hh)
      have hn0 : 0 ≤ n := fi.st.pos n (List.mem_of_getElem? hn)
      have hn2 : n < 2 ^ 200 := fi.lt n (List.mem_of_getElem? hn)
      refine q_app h2 (ev_var rfl) ev_c (by simp [ivs, tab_len]; omega) fun H3 e3 => ?_
      have ne : Ex H (upd H3 p (.lst (ivs (tab (i + 1) (C (hs.take i))) ++ [.int 0]))) := (e.trans e3).mut hp
      have e0 : ivs (tab (i + 1) (C (hs.take i))) ++ [V.int 0] = ivs (tab (i + 2) (C (hs.take i))) := by
        rw [tab_succ (i + 1)]
        unfold ivs
        rw [List.map_append, C_big (by omega)]
        rfl
      rw [e0] at ne ⊢
      refine s_forRev (a := 1) (b := ((i + 2 : Nat) : Int)) (rg2 ev_c (ev_is (ev_len (ev_var rfl) (sq_of upd_same)) (by simp [ivs, tab_len]))) (by omega)
        (fun m σ H'' => ∃ y3, σ = [some (.ref a), some (.ref p), some (.int n), y3] ∧ Ex H H'' ∧ H'' p = some (.lst (ivs (tab (i + 2) (fun j => if i + 1 - m < j then C (hs.take i ++ [n]) j else C (hs.take i) j)))))
        (fun H4 e4 => ⟨y3, rfl, ne.trans e4, ?_⟩) ?_ ?_
      · rw [e4 _ _ upd_same]
        congr 3
        exact tab_congr fun j hj => by rw [if_neg (by omega)]
      · rintro m σ' H' hm ⟨y3, rfl, e4, h4⟩
        have hk : ((i + 2 : Nat) : Int) - 1 - (m : Int) = ((i + 1 - m : Nat) : Int) := by omega
        rw [hk]
        obtain ⟨k, hk2⟩ : ∃ k, i + 1 - m = k + 1 := ⟨i - m, by omega⟩
        rw [hk2] at h4 ⊢
        have hki : k + 1 < i + 2 := by omega
        refine s_augL (j := k + 1) (x := .int (C (hs.take i) (k + 1))) (y := .int (max 0 (n - k) * C (hs.take i) k)) (z := .int (C (hs.take i ++ [n]) (k + 1))) h4 (ev_var rfl) (ev_var rfl) ?_ ?_ ?_ ?_
        · unfold ivs
          rw [List.getElem?_map, tab_get hki, if_neg (by omega)]
          rfl
        · refine ev_is (ev_op (ev_max2 ev_c (ev_op (ev_op (ev_var rfl) (ev_var rfl) rv_I0) ev_c rv_I0)) (ev_op (ev_var rfl) (ev_op (ev_var rfl) ev_c rv_I0) (rv_ixL (v := .int (C (hs.take i) k)) (sq_of h4) ?_)) (rv_I ?_)) ?_
          · rw [show ((k + 1 : Nat) : Int) - 1 = (k : Int) by omega]
            refine atI_nat ?_
            unfold ivs
            rw [List.getElem?_map, tab_get (by omega), if_neg (by omega)]
            rfl
          · refine wide_mul (a := 202) (b := 15000) (int_bits ?_ ?_) (C_bits fb (by omega) k) (by decide) (by decide) (by decide)
            · split <;> omega
            · have : (2 : Int) ^ 200 + 1 < 2 ^ 202 := by decide +kernel
              split <;> omega
          · congr 2
            split <;> omega
        · intro H1 Q q
          rw [C_snoc] at q
          exact ⟨_, _, rfl, rfl, q⟩
        · intro H5 e5
          refine ⟨_, rfl, (e4.trans e5).mut hp, ?_⟩
          rw [upd_same]
          unfold ivs
          rw [← List.map_set, tab_set]
          congr 3
          refine tab_congr fun j hj => ?_
          by_cases hj1 : j = k + 1
          · rw [if_pos hj1, if_pos (by omega), hj1]
          · rw [if_neg hj1]
            by_cases hj2 : k + 1 < j
            · rw [if_pos hj2, if_pos (by omega)]
            · rw [if_neg hj2, if_neg (by omega)]
      · rintro σ' H' ⟨y3, rfl, e4, h4⟩
        refine ⟨_, _, rfl, e4, ?_⟩
        rw [h4, take_snoc hn]
        congr 3
        refine tab_congr fun j hj => ?_
        by_cases hj0 : j = 0
        · rw [hj0, if_neg (by omega), C_snoc0]
        · rw [if_pos (by omega)]
    · rintro σ' H' ⟨y2, y3, rfl, e, h2⟩
      refine s_ret (ev_var rfl) fun H3 e3 => q p H3 hp (e.trans e3) ?_
      rw [e3 _ _ h2]
      simp [ivs, cl]
/-! ### counts, filled -/
theorem got_counts (F : FnAt K mg "counts" "counts" s_counts) (G_check_stairs : Got P w K mg base CX0 2 "check_stairs" (spCheck K)) (G_counts_of : Got P w K mg base CX0 1 "counts_of" (spCountsOf K)) : Got P w K mg base CX0 3 "counts" (spCountsOf K) := by
  refine mk_got F sc_counts (fun vs H Q E h => ?_) (fun _ _ _ _ _ _ us hl => match us, hl with | [_], _ => rfl) (fun f cdv A outer s H vs Q E hr h => ?_)
  · obtain ⟨v, b, rfl, _⟩ := h
    rfl
  · obtain ⟨a, hs, rfl, hS, fi, q⟩ := h
    refine ⟨_, (pss_cons (ps_expr (pe_got G_check_stairs (hr.mono (by decide)) pass0 (pa_cons (pv 0) pa_nil)))
(pss_one (ps_ret (pe_got G_counts_of (hr.mono (by decide)) pass0 (pa_cons (pv 0) pa_nil))))), ?_⟩
    refine q_drop (ev_call (z := .non) (ea_cons (ev_var rfl) ea_nil) fun H1 e1 Q1 q1 E => ⟨a, hs, rfl, ex_l e1 hS, fi.st, fi.z, q1⟩) fun H1 e1 => ?_
    exact s_retL (el_call (xs := ivs (cl hs)) (ea_cons (ev_var rfl) ea_nil) fun H2 e2 Q1 q1 E => ⟨a, hs, rfl, ex_l (e1.trans e2) hS, fi, q1⟩) fun p H2 hp e2 h2 => q p H2 (fresh_back e1 hp) (e1.trans e2) h2
def spFilled (K : PySem.W.Frag) : Sp := fun vs H Q _ => ∃ (a : Addr) (hs : List Int) (x : Int), vs = [.ref a, .int x] ∧ SqL K H a (ivs hs) ∧ Fine hs ∧ 0 ≤ x ∧ x < 2 ^ 200 ∧ RetV (.int (prodL x hs)) H Q
theorem prodL_bits {x : Int} (h0 : 0 ≤ x) (h1 : x < 2 ^ 200) : ∀ (hs : List Int), (∀ h ∈ hs, 0 ≤ h ∧ h < 2 ^ 200) → hs.length ≤ 100 → (prodL x hs).natAbs < 2 ^ (202 * hs.length + 1) := by
  refine snoc_ind (P := fun hs => (∀ h ∈ hs, 0 ≤ h ∧ h < 2 ^ 200) → hs.length ≤ 100 → (prodL x hs).natAbs < 2 ^ (202 * hs.length + 1)) (fun _ _ => by simp [prodL, prodFrom]) fun l a ih h hl => ?_
  have hl' : l.length ≤ 100 := by simp at hl; omega
  have i1 := ih (fun y hy => h y (by simp [hy])) hl'
  obtain ⟨a1, a2⟩ := h a (by simp)
  rw [prodL_snoc]
  have b : (a + x - (l.length : Int)).natAbs < 2 ^ 202 := int_bits (by omega) (by omega)
  have := wide_lt i1 b
  rw [List.length_append]
  rw [show 202 * (l.length + [a].length) + 1 = 202 * l.length + 1 + 202 by simp; omega]
  exact this
theorem got_filled (F : FnAt K mg "filled" "filled" s_filled) (G_check_stairs : Got P w K mg base CX0 2 "check_stairs" (spCheck K)) (G_check_count : Got P w K mg base CX0 2 "check_count" spCount) (m_enumerate : mg "enumerate" = none) : Got P w K mg base CX0 3 "filled" (spFilled K) := by
  refine mk_got F sc_filled (fun vs H Q E h => ?_) (fun _ _ _ _ _ _ us hl => match us, hl with | [_, _], _ => rfl) (fun f cdv A outer s H vs Q E hr h => ?_)
  · obtain ⟨v, b, x, rfl, _⟩ := h
    rfl
  · obtain ⟨a, hs, x, rfl, hS, fi, x0, x1, q⟩ := h
    refine ⟨_, (pss_cons (ps_expr (pe_got G_check_stairs (hr.mono (by decide)) pass0 (pa_cons (pv 0) pa_nil)))
(pss_cons (ps_expr (pe_got G_check_count (hr.mono (by decide)) pass0 (pa_cons (pv 1) (pa_cons pe_non pa_nil))))
(pss_cons (ps_set (i := 2) sc_filled.nd rfl (.inl rfl) pe_int)
(pss_cons (ps_for PassesOwn.never rfl (pi_enum (by rfl) m_enumerate (pa_cons (pv 0) pa_nil)) (pg_tup rfl (pgs_cons (pg_name (i := 3) sc_filled.nd rfl (.inl rfl)) (pgs_cons (pg_name (i := 4) sc_filled.nd rfl (.inl rfl)) pgs_nil)))
(pss_one (ps_aug (i := 2) sc_filled.nd rfl (.inl rfl) (pe_op op_sub (pe_op op_add (pv 4) (pv 1)) (pv 3)) ip_mulW)))
(pss_one (ps_ret (pv 2))))))), ?_⟩
    refine q_drop (ev_call (z := .non) (ea_cons (ev_var rfl) ea_nil) fun H1 e1 Q1 q1 E => ⟨a, hs, rfl, ex_l e1 hS, fi.st, fi.z, q1⟩) fun H1 e1 => ?_
    refine q_drop (ev_call (z := .non) (ea_cons (ev_var rfl) (ea_cons ev_c ea_nil)) fun H2 e2 Q1 q1 E => ⟨x, .non, rfl, x0, trivial, q1⟩) fun H2 e2 => ?_
    refine q_asg ev_c fun H3 e3 => ?_
    have e03 := (e1.trans e2).trans e3
    refine q_forE (ea_cons (ev_var rfl) ea_nil) (ex_l e03 hS) (fun i σ H' => ∃ y3 y4, σ = [some (.ref a), some (.int x), some (.int (prodL x (hs.take i))), y3, y4] ∧ Ex H H') (fun H4 e4 => ⟨none, none, rfl, e03.trans e4⟩) (fun i σ' H' _ ⟨_, _, _, e⟩ => ex_l e hS) ?_ ?_
    · rintro i y σ' H' H4 hi ⟨y3, y4, rfl, e⟩ e4
      obtain ⟨n, hn, rfl, _, hlt⟩ := int_at hi
      have hi70 := fi.len
      have tl := take_len hn
      have hn0 : 0 ≤ n := fi.st.pos n (List.mem_of_getElem? hn)
      have hn2 : n < 2 ^ 200 := fi.lt n (List.mem_of_getElem? hn)
      refine s_augV (x := .int (prodL x (hs.take i))) (y := .int (n + x - (i : Int))) (z := .int (prodL x (hs.take (i + 1)))) rfl (ev_op (ev_op (ev_var rfl) (ev_var rfl) rv_I0) (ev_var rfl) rv_I0) (fun H1 Q q => ⟨_, _, rfl, rfl, ?_, ?_⟩) fun H5 e5 => ⟨_, _, rfl, (e.trans e4).trans e5⟩
      · refine wide_mul (a := 15000) (b := 202) (nat_lt_pow (prodL_bits x0 x1 _ (fun h hh => ⟨fi.st.pos h (List.mem_of_mem_take hh), fi.lt h (List.mem_of_mem_take hh)⟩) (by omega)) (by omega)) (int_bits (by omega) (by omega)) (by decide) (by decide) (by decide)
      · rw [take_snoc hn, prodL_snoc, tl] at q
        exact q
    · rintro σ' H' ⟨y3, y4, rfl, e⟩
      refine s_ret (ev_var rfl) fun H4 e4 => ?_
      have := q H4 (e.trans e4)
      simpa [ivs] using this
end

end TS
namespace TS
open PySem PySem.Spec PyProof.Rows L2 Evl
local macro_rules | `(tactic| walk_at "ev") => `(tactic| repeat' (first
  | exact ev_c
  | exact ev_var rfl
  | exact ea_nil
  | refine ea_cons ?_ ?_
  | refine ev_op ?_ ?_ rv_I0
  | refine ev_op ?_ ?_ (rv_I ?_)
  | refine ev_op ?_ ?_ (rv_ne rfl)
  | refine ev_op ?_ ?_ (rv_eq rfl)
  | refine ev_un ?_ ru_neg
  | refine et_test ?_
  | refine et_B ?_
  | refine et_not ?_
  | refine ev_notV ?_
  | refine ev_max2 ?_ ?_))
section
variable {P : Program} {w : World} {K : PySem.W.Frag} {mg : Str → Option Value} {base : Heap}
/-! ### _law_cell_at -/
def cellAt (ns : List Int) (k : Nat) : Int := ns.getD k 0
def spCellAt (K : PySem.W.Frag) : Sp := fun vs H Q _ => ∃ (a : Addr) (ns : List Int) (k : Nat), vs = [.ref a, .int (k : Int)] ∧ SqL K H a (ivs ns) ∧ RetV (.int (cellAt ns k)) H Q
theorem got_l_cell_at (F : FnAt K mg "_law_cell_at" "_law_cell_at" s_l_cell_at) (m_len : mg "len" = none) : Got P w K mg base CX0 1 "_law_cell_at" (spCellAt K) := by
  refine mk_got F sc_l_cell_at (fun vs H Q E h => ?_) (fun _ _ _ _ _ _ us hl => match us, hl with | [_, _], _ => rfl) (fun f cdv A outer s H vs Q E hr h => ?_)
  · obtain ⟨a, ns, k, rfl, _⟩ := h
    rfl
  · obtain ⟨a, ns, k, rfl, hS, q⟩ := h
    refine ⟨_, (pss_cons (ps_if (pt_cmpR op_lt (pv 1) (pe_callB call_len_seq (by rfl) m_len (by decide +kernel) (pa_cons (pv 0) pa_nil)) (nomark _))
(pss_one (ps_ret (pe_ix ix_list (pv 0) (pv 1) (fun _ _ => rfl))))
pss_nil)
(pss_one (ps_ret pe_int))), ?_⟩
    refine q_when (et_test (ev_op (ev_var rfl) (ev_len (ev_var rfl) hS) rv_I0)) (fun hb H1 e1 => ?_) fun hb H1 e1 => ?_
    · have hk : k < ns.length := by
        have := of_decide_eq_true hb
        simp [ivs] at this
        omega
      refine s_ret (v := .int (cellAt ns k)) (ev_op (ev_var rfl) (ev_var rfl) (rv_ixL (ex_l e1 hS) (atI_nat ?_))) fun H2 e2 => q H2 (e1.trans e2)
      unfold ivs cellAt
      rw [List.getElem?_map, List.getElem?_eq_getElem hk, List.getD_eq_getElem?_getD, List.getElem?_eq_getElem hk]
      rfl
    · have hk : ¬ k < ns.length := by
        have := of_decide_eq_false hb
        simp [ivs] at this
        omega
      refine s_ret (v := .int (cellAt ns k)) ?_ fun H2 e2 => q H2 (e1.trans e2)
      rw [show cellAt ns k = 0 by unfold cellAt; rw [List.getD_eq_getElem?_getD, List.getElem?_eq_none (by omega)]; rfl]
      exact ev_c
/-! ### _law_draw -/
def primes : List Int := [1000003, 1000033, 1000037, 1000039, 1000081, 1000099, 1000117, 1000121, 1000133, 1000151, 1000159, 1000171, 1000183, 1000187, 1000193, 1000199]
def drawN (c k m : Int) : Int := (c * 48271 + k * 69621) % primes.getD (k % 16).toNat 1 % m
theorem drawN_ge {c k m : Int} (hm : 0 < m) : 0 ≤ drawN c k m := Int.emod_nonneg _ (by omega)
theorem drawN_lt {c k m : Int} (hm : 0 < m) : drawN c k m < m := Int.emod_lt_of_pos _ hm
def spDraw : Sp := fun vs H Q _ => ∃ (c k m : Int), vs = [.int c, .int k, .int m] ∧ 0 < m ∧ RetV (.int (drawN c k m)) H Q
theorem primes_pos : ∀ p ∈ primes, 0 < p := by decide +kernel
theorem got_l_draw (F : FnAt K mg "_law_draw" "_law_draw" s_l_draw) : Got P w K mg base CX0 1 "_law_draw" spDraw := by
  refine mk_got F sc_l_draw (fun vs H Q E h => ?_) (fun _ _ _ _ _ _ us hl => match us, hl with | [_, _, _], _ => rfl) (fun f cdv A outer s H vs Q E hr h => ?_)
  · obtain ⟨c, k, m, rfl, _⟩ := h
    rfl
  · obtain ⟨c, k, m, rfl, hm, q⟩ := h
    refine ⟨_, (pss_cons (ps_set (i := 3) sc_l_draw.nd rfl (.inl rfl) (pe_tup (pa_cons pe_int (pa_cons pe_int (pa_cons pe_int (pa_cons pe_int (pa_cons pe_int (pa_cons pe_int (pa_cons pe_int (pa_cons pe_int (pa_cons pe_int (pa_cons pe_int (pa_cons pe_int (pa_cons pe_int (pa_cons pe_int (pa_cons pe_int (pa_cons pe_int (pa_cons pe_int pa_nil))))))))))))))))))
(pss_one (ps_ret (pe_op op_mod (pe_op op_mod (pe_op op_add (pe_op op_mul (pv 0) pe_int) (pe_op op_mul (pv 1) pe_int)) (pe_ix ix_tup (pv 3) (pe_op op_mod (pv 1) pe_int) (fun _ _ => rfl))) (pv 2))))), ?_⟩
    refine q_asgU (xs := ivs primes) (eu_tup (by walk_at "ev") (by decide)) fun p H1 hp e1 h1 => ?_
    have k0 : 0 ≤ k % 16 := Int.emod_nonneg _ (by decide)
    have k1 : k % 16 < 16 := Int.emod_lt_of_pos _ (by decide)
    have hlt : (k % 16).toNat < primes.length := by
      show (k % 16).toNat < 16
      omega
    have hpos : 0 < primes.getD (k % 16).toNat 1 := by
      rw [List.getD_eq_getElem?_getD, List.getElem?_eq_getElem hlt]
      exact primes_pos _ (List.getElem_mem _)
    refine s_ret (v := .int (drawN c k m)) (ev_op (ev_op (ev_op (ev_op (ev_var rfl) ev_c (rv_I (.inr (by decide)))) (ev_op (ev_var rfl) ev_c (rv_I (.inr (by decide)))) rv_I0) (ev_op (ev_var rfl) (ev_op (ev_var rfl) ev_c (rv_I (by decide))) (rv_ixT (v := .int (primes.getD (k % 16).toNat 1)) (st_of h1) (at_of (j := (k % 16).toNat) (by omega) ?_))) (rv_I hpos)) (ev_var rfl) (rv_I hm)) fun H2 e2 => q H2 (e1.trans e2)
    unfold ivs
    rw [List.getElem?_map, List.getD_eq_getElem?_getD, List.getElem?_eq_getElem hlt]
    rfl
/-! ### _law_whole -/
theorem got_l_whole (F : FnAt K mg "_law_whole" "_law_whole" s_l_whole) (m_isinstance : mg "isinstance" = none) (m_int : mg "int" = none) (m_bool : mg "bool" = none) : Got P w K mg base CX0 1 "_law_whole" (spWhole K) := by
  refine mk_got F sc_l_whole (fun vs H Q E h => ?_) (fun _ _ _ _ _ _ us hl => match us, hl with | [_], _ => rfl) (fun f cdv A outer s H vs Q E hr h => ?_)
  · obtain ⟨v, b, rfl, _⟩ := h
    rfl
  · obtain ⟨v, b, rfl, ⟨t, b1, b2, ty, k1, k2, rfl⟩, q⟩ := h
    refine ⟨_, (pss_one (ps_ret (pe_and (pe_callB call_isi (by rfl) m_isinstance (by decide +kernel) (pa_cons (pv 0) (pa_cons (pe_bltn (v := .ty "int") (by rfl) m_int (by decide +kernel) rfl) pa_nil))) (pe_one (pe_not (pe_callB call_isi (by rfl) m_isinstance (by decide +kernel) (pa_cons (pv 0) (pa_cons (pe_bltn (v := .ty "bool") (by rfl) m_bool (by decide +kernel) rfl) pa_nil)))))))), ?_⟩
    refine s_ret (v := .bl (b1 && !b2)) (ev_andV (ev_isi (ev_var rfl) (.ty _) (fun H1 e => TyX.mono e ty) k1) fun _ => ev_notV (ev_isi (ev_var rfl) (.ty _) (fun H1 e => TyX.mono e ty) k2)) q
/-! ### _law_stairs: some stairs, as many columns as there are numbers -/
structure Fine0 (hs : List Int) : Prop where
  st : Stairs hs
  lt : ∀ h ∈ hs, h < 10 ^ 59
theorem Fine0.fine {hs : List Int} (f : Fine0 hs) (hl : hs.length ≤ 70) : Fine hs := ⟨f.st, fun h hh => Int.lt_trans (f.lt h hh) (by decide +kernel), hl⟩
def spStairs (K : PySem.W.Frag) : Sp := fun vs H Q _ => ∃ (a : Addr) (ns : List Int), vs = [.ref a] ∧ SqL K H a (ivs ns) ∧ ns.length ≤ 63 ∧ ∀ hs, Fine0 hs → hs.length = ns.length → RetL (ivs hs) H Q
theorem cutV_to (xs : List V) (n : Nat) : cutV xs none (some (n : Int)) = xs.take n := by
  unfold cutV
  rw [HT.sIx_none, HT.sIx_nat, Nat.sub_zero, List.drop_zero]
  by_cases h : n ≤ xs.length
  · rw [Nat.min_eq_left h]
  · rw [Nat.min_eq_right (by omega), List.take_length, List.take_of_length_le (by omega)]
theorem cutV_from (xs : List V) (n : Nat) : cutV xs (some (n : Int)) none = xs.drop n := by
  unfold cutV
  rw [HT.sIx_none, HT.sIx_nat]
  by_cases h : n ≤ xs.length
  · rw [Nat.min_eq_left h, List.take_of_length_le (by simp)]
  · rw [Nat.min_eq_right (by omega), List.drop_length, List.drop_of_length_le (by omega), List.take_nil]
theorem fine0_srt {ns : List Int} (h : ∀ n ∈ ns, 0 ≤ n ∧ n < 10 ^ 59) : Fine0 (srt ns) := ⟨⟨fun x hx => (h x (srt_mem.mp hx)).1, srt_up ns⟩, fun x hx => (h x (srt_mem.mp hx)).2⟩
theorem got_l_stairs (F : FnAt K mg "_law_stairs" "_law_stairs" s_l_stairs) (G_l_cell_at : Got P w K mg base CX0 1 "_law_cell_at" (spCellAt K)) (G_l_draw : Got P w K mg base CX0 1 "_law_draw" spDraw) (m_len : mg "len" = none) (m_sorted : mg "sorted" = none) (m_range : mg "range" = none) (m_enumerate : mg "enumerate" = none) :
    Got P w K mg base CX0 2 "_law_stairs" (spStairs K) := by
  refine mk_got F sc_l_stairs (fun vs H Q E h => ?_) (fun _ _ _ _ _ _ us hl => match us, hl with | [_], _ => rfl) (fun f cdv A outer s H vs Q E hr h => ?_)
  · obtain ⟨a, ns, rfl, _⟩ := h
    rfl
  · obtain ⟨a, ns, rfl, hS, hl, q⟩ := h
    refine ⟨_, (pss_cons (ps_set (i := 0) sc_l_stairs.nd rfl (.inr rfl) (pe_slice sl_list (pv 0) po_none (po_some pe_int)))
(pss_cons (ps_par (i := 1) (j := 2) rfl sc_l_stairs.nd rfl rfl (by decide) rfl rfl (pa_cons (pe_got G_l_draw (hr.mono (by decide)) pass0 (pa_cons (pe_got G_l_cell_at (hr.mono (by decide)) pass0 (pa_cons (pv 0) (pa_cons pe_int pa_nil))) (pa_cons pe_int (pa_cons pe_int pa_nil)))) (pa_cons (pe_callB call_len_seq (by rfl) m_len (by decide +kernel) (pa_cons (pv 0) pa_nil)) pa_nil)) (by rfl))
(pss_cons (ps_if (pt_cmpR op_eq (pv 1) pe_int (nomark _))
(pss_one (ps_ret (pe_callB cr_sortedI (by rfl) m_sorted (by decide +kernel) (pa_cons (pe_lc (own := [("_law_cell", 5)]) rfl sc_l_stairs.nd (pi_list (pv 0)) (blkOk_by (N := ["_law_script", "_law_kind", "_law_many", "_law_most", "_law_found", "_law_cell", "_law_k", "_law_height"]) (sc := defScope s_l_stairs) (by decide +kernel)) (fun _ _ _ _ _ => (pg_name (i := 5) sc_l_stairs.nd rfl (Or.inl rfl))) (fun _ _ _ _ _ => pts_nil) (fun _ _ _ _ _ => (pe_op op_mod (pe_op op_fdiv (pv 5) pe_int) (pe_op op_pow pe_int pe_int)))) pa_nil))))
pss_nil)
(pss_cons (ps_set (i := 3) sc_l_stairs.nd rfl (.inr rfl) (pe_ix ix_tup (pe_tup (pa_cons pe_int (pa_cons (pe_op op_add (pv 2) pe_int) (pa_cons pe_int (pa_cons (pe_op op_add (pe_op op_mul pe_int (pv 2)) pe_int) (pa_cons (pe_op op_add (pe_op op_fdiv (pv 2) pe_int) pe_int) pa_nil)))))) (pv 1) (fun _ _ => rfl)))
(pss_cons (ps_set (i := 4) sc_l_stairs.nd rfl (.inl rfl) (pe_callB cr_sortedI (by rfl) m_sorted (by decide +kernel) (pa_cons (pe_lc (own := [("_law_k", 6)]) rfl sc_l_stairs.nd (pi_range1 (by rfl) m_range (pa_cons (pv 2) pa_nil)) (blkOk_by (N := ["_law_script", "_law_kind", "_law_many", "_law_most", "_law_found", "_law_cell", "_law_k", "_law_height"]) (sc := defScope s_l_stairs) (by decide +kernel)) (fun _ _ _ _ _ => (pg_name (i := 6) sc_l_stairs.nd rfl (Or.inl rfl))) (fun _ _ _ _ _ => pts_nil) (fun _ _ _ _ _ => (pe_got G_l_draw (hr.mono (by decide)) pass0 (pa_cons (pe_ix (ix_listK (K := K)) (pv 0) (pv 6) (fun _ _ => rfl)) (pa_cons (pe_op op_add (pe_op op_mod (pv 6) pe_int) pe_int) (pa_cons (pv 3) pa_nil)))))) pa_nil)))
(pss_cons (ps_if (pt_cmpR op_eq (pv 1) pe_int (nomark _))
(pss_one (ps_setLc (own := [("_law_k", 6), ("_law_height", 7)]) (i := 4) rfl sc_l_stairs.nd rfl rfl (sw_true rfl rfl rfl (by decide +kernel)) (pi_enum (by rfl) m_enumerate (pa_cons (pv 4) pa_nil)) (blkOk_by (N := ["_law_script", "_law_kind", "_law_many", "_law_most", "_law_found", "_law_cell", "_law_k", "_law_height"]) (sc := defScope s_l_stairs) (by decide +kernel)) (fun _ _ _ _ _ => (pg_tupK rfl (pgs_cons (pg_name (i := 6) sc_l_stairs.nd rfl (Or.inl rfl)) (pgs_cons (pg_name (i := 7) sc_l_stairs.nd rfl (Or.inl rfl)) pgs_nil)) (K := K) (n := 2))) (fun _ _ _ _ _ => pts_nil) (fun _ _ _ _ _ => (pe_op op_add (pv 7) (pv 6)))))
pss_nil)
(pss_one (ps_ret (pv 4))))))))), ?_⟩
    refine q_asgL (xs := ivs ns) (el_is (el_sl (ev_var rfl) eo_none (eo_some ev_c) hS) ?_) fun p H1 hp e1 h1 => ?_
    · exact (cutV_to (ivs ns) 63).trans (List.take_of_length_le (by simpa [ivs] using hl))
    have sp : SqL K H1 p (ivs ns) := sq_of h1
    have hn : ((ivs ns).length : Int) = (ns.length : Int) := by simp [ivs]
    refine q_par (x := .int (drawN (cellAt ns 0) 6 5)) (y := .int ns.length) (ea_cons (ev_call (ea_cons (ev_call (z := .int (cellAt ns 0)) (ea_cons (ev_var rfl) (ea_cons ev_c ea_nil)) fun H2 e2 Q2 q2 E => ⟨p, ns, 0, rfl, ex_l e2 sp, q2⟩) (ea_cons ev_c (ea_cons ev_c ea_nil))) fun H2 e2 Q2 q2 E => ⟨_, _, _, rfl, by decide, q2⟩) (ea_cons (ev_is (ev_len (ev_var rfl) sp) (by rw [hn])) ea_nil)) fun H2 e2 => ?_
    have kd0 := drawN_ge (c := cellAt ns 0) (k := 6) (m := 5) (by decide)
    have kd1 := drawN_lt (c := cellAt ns 0) (k := 6) (m := 5) (by decide)
    generalize drawN (cellAt ns 0) 6 5 = kd at kd0 kd1 ⊢
    have h59 : (0 : Int) < 10 ^ 59 := by decide +kernel
    refine q_when (et_test (ev_op (ev_var rfl) ev_c (rv_eq rfl))) (fun hb H3 e3 => ?_) fun hb H3 e3 => ?_
    · -- the numbers themselves
      have s3 := ex_l (e2.trans e3) sp
      refine s_retL (xs := ivs (srt (ns.map fun c => c / 5 % 10 ^ 59))) (el_sorted ?_) fun p2 H4 hp2 e4 h4 => ?_
      · rw [List.map_map]
        refine el_ints (fun c => .int (c / 5 % 10 ^ 59)) (ev_var rfl) s3 (by omega) (fun _ => rfl) fun i n H5 e5 _ => ?_
        exact ev_op (ev_op (ev_var rfl) ev_c (rv_I ⟨by decide, by decide⟩)) (ev_op ev_c ev_c (rv_I ⟨by decide, by decide, by decide⟩)) (rv_I h59)
      · refine q _ (fine0_srt fun n hn => ?_) (by rw [srt_len, List.length_map]) p2 H4 (fresh_back ((e1.trans e2).trans e3) hp2) (((e1.trans e2).trans e3).trans e4) h4
        obtain ⟨c, _, rfl⟩ := List.mem_map.mp hn
        exact ⟨Int.emod_nonneg _ (by omega), Int.emod_lt_of_pos _ h59⟩
    · have kd2 : kd ≠ 0 := fun z => by
        have := of_decide_eq_false hb
        exact this (by rw [z])
      -- the greatest height
      let L : List Int := [1, ns.length + 3, 4, 3 * ns.length + 2, ns.length / 2 + 2]
      obtain ⟨most, hmost, m1, m2⟩ : ∃ most, L[kd.toNat]? = some most ∧ 1 ≤ most ∧ most ≤ 300 := by
        have : kd = 1 ∨ kd = 2 ∨ kd = 3 ∨ kd = 4 := by omega
        rcases this with z | z | z | z <;> subst z
        · exact ⟨(ns.length : Int) + 3, rfl, by omega, by omega⟩
        · exact ⟨4, rfl, by omega, by omega⟩
        · exact ⟨3 * (ns.length : Int) + 2, rfl, by omega, by omega⟩
        · exact ⟨(ns.length : Int) / 2 + 2, rfl, by omega, by omega⟩
      refine q_asg (v := .int most) (ev_opU1 (xs := ivs L) (eu_tup (by walk_at "ev" <;> first | exact .inl (by decide) | exact ⟨by decide, by decide⟩) (by show 5 ≤ 100000; decide)) (fun H4 e4 => ev_var rfl) fun p2 H4 hp2 e4 => rv_ixT (st_of hp2) (at_of (j := kd.toNat) (by omega) ?_)) fun H4 e4 => ?_
      · unfold ivs
        rw [List.getElem?_map, hmost]
        rfl
      have s4 := ex_l ((e2.trans e3).trans e4) sp
      let fs : List Int := (List.range ns.length).map fun k => drawN (cellAt ns k) ((k : Int) % 5 + 1) most
      refine q_asgL (xs := ivs (srt fs)) (el_sorted (el_is (el_mapR (n := (ns.length : Int)) (fun k => .int (drawN (cellAt ns k) ((k : Int) % 5 + 1) most)) (ea_cons (ev_var rfl) ea_nil) (by omega) (fun _ => rfl) fun i H5 e5 hi => ?_) ?_)) fun p3 H5 hp3 e5 h5 => ?_
      · refine ev_call (ea_cons (ev_op (ev_var rfl) (ev_var rfl) (rv_ixL (v := .int (cellAt ns i)) (ex_l e5 s4) (atI_nat ?_))) (ea_cons (ev_op (ev_op (ev_var rfl) ev_c (rv_I (by decide))) ev_c rv_I0) (ea_cons (ev_var rfl) ea_nil))) fun H6 e6 Q6 q6 E => ⟨_, _, _, rfl, by omega, q6⟩
        have hk : i < ns.length := by omega
        unfold ivs cellAt
        rw [List.getElem?_map, List.getElem?_eq_getElem hk, List.getD_eq_getElem?_getD, List.getElem?_eq_getElem hk]
        rfl
      · simp [fs]
      have e05 := (((e1.trans e2).trans e3).trans e4).trans e5
      have fb : ∀ x ∈ srt fs, 0 ≤ x ∧ x < 300 := fun x hx => by
        obtain ⟨k, _, rfl⟩ := List.mem_map.mp (srt_mem.mp hx)
        have a1 := drawN_ge (c := cellAt ns k) (k := (k : Int) % 5 + 1) (m := most) (by omega)
        have a2 := drawN_lt (c := cellAt ns k) (k := (k : Int) % 5 + 1) (m := most) (by omega)
        omega
      have fl : (srt fs).length = ns.length := by simp [srt_len, fs]
      have up := srt_up fs
      generalize srt fs = g at fb fl up h5 ⊢
      have f0 : Fine0 g := ⟨⟨fun x hx => (fb x hx).1, up⟩, fun x hx => Int.lt_trans (fb x hx).2 (by decide +kernel)⟩
      refine q_if (et_test (ev_op (ev_var rfl) ev_c (rv_eq rfl))) (fun hb H6 e6 => ?_) fun hb H6 e6 => ?_
      · let g2 : List Int := (List.range g.length).map fun k => g.getD k 0 + (k : Int)
        refine s_asgL (xs := ivs g2) (el_is (el_mapE (xs := ivs g) (fun i => .int (g.getD i 0 + (i : Int))) (ea_cons (ev_var rfl) ea_nil) (ex_l e6 (sq_of h5)) (by simp [ivs]; omega) (fun _ _ => rfl) fun i x H7 e7 hi => ?_) ?_) fun p4 H7 hp4 e7 h7 => ?_
        · obtain ⟨n, hn, rfl, hg, _⟩ := int_at hi
          rw [hg]
          exact ev_op (ev_var rfl) (ev_var rfl) rv_I0
        · simp [g2, ivs]
        · refine s_ret (ev_var rfl) fun H8 e8 => q g2 ?_ (by simp [g2, fl]) p4 H8 (fresh_back (e05.trans e6) hp4) ((((e05.trans e6)).trans e7).trans e8) (e8 _ _ h7)
          refine ⟨⟨fun x hx => ?_, ?_⟩, fun x hx => ?_⟩
          · obtain ⟨k, hk, rfl⟩ := List.mem_map.mp hx
            have hk' := List.mem_range.mp hk
            have := (fb _ (List.getElem_mem hk')).1
            rw [List.getD_eq_getElem?_getD, List.getElem?_eq_getElem hk']
            show 0 ≤ g[k] + (k : Int)
            omega
          · rw [List.pairwise_map]
            refine List.Pairwise.imp_of_mem (R := (· < ·)) (fun {i j} hi hj hij => ?_) List.pairwise_lt_range
            have hi' := List.mem_range.mp hi
            have hj' := List.mem_range.mp hj
            have := List.pairwise_iff_getElem.mp up i j hi' hj' hij
            rw [List.getD_eq_getElem?_getD, List.getElem?_eq_getElem hi', List.getD_eq_getElem?_getD, List.getElem?_eq_getElem hj']
            show g[i] + (i : Int) ≤ g[j] + (j : Int)
            omega
          · obtain ⟨k, hk, rfl⟩ := List.mem_map.mp hx
            have hk' := List.mem_range.mp hk
            have := (fb _ (List.getElem_mem hk')).2
            rw [List.getD_eq_getElem?_getD, List.getElem?_eq_getElem hk']
            have h2 : (400 : Int) < 10 ^ 59 := by decide +kernel
            show g[k] + (k : Int) < 10 ^ 59
            omega
      · refine s_ret (ev_var rfl) fun H8 e8 => q g f0 fl p3 H8 (fresh_back (((e1.trans e2).trans e3).trans e4) hp3) ((e05.trans e6).trans e8) (e8 _ _ (e6 _ _ h5))
end

end TS
namespace TS
open PySem PySem.Spec PyProof.Rows L2 Evl
local macro_rules | `(tactic| walk_at "ev") => `(tactic| repeat' (first
  | exact ev_c
  | exact ev_var rfl
  | exact ea_nil
  | refine ea_cons ?_ ?_
  | refine ev_op ?_ ?_ rv_I0
  | refine ev_op ?_ ?_ (rv_I ?_)
  | refine ev_op ?_ ?_ (rv_ne rfl)
  | refine ev_op ?_ ?_ (rv_eq rfl)
  | refine ev_un ?_ ru_neg
  | refine et_test ?_
  | refine et_B ?_
  | refine et_not ?_
  | refine ev_notV ?_
  | refine ev_max2 ?_ ?_))
section
variable {P : Program} {w : World} {K : PySem.W.Frag} {mg : Str → Option Value} {base : Heap}
/-! ### _law_counts -/
theorem tab_const {α : Type} (n : Nat) (x : α) : tab n (fun _ => x) = List.replicate n x := by
  unfold tab
  rw [List.map_const', List.length_range]
theorem flat_rep1 {α : Type} (n : Nat) (x : α) : (List.replicate n [x]).flatten = List.replicate n x := by
  induction n with
  | zero => rfl
  | succ n ih => rw [List.replicate_succ, List.flatten_cons, ih]; rfl
theorem tab_C0 (n : Nat) : tab (n + 1) (C []) = 1 :: List.replicate n 0 := by
  apply List.ext_getElem?
  intro i
  by_cases hi : i < n + 1
  · rw [tab_get hi]
    cases i with
    | zero => rfl
    | succ i =>
      rw [List.getElem?_cons_succ, List.getElem?_replicate, if_pos (by omega)]
      rfl
  · rw [List.getElem?_eq_none (by rw [tab_len]; omega), List.getElem?_eq_none (by simp; omega)]
theorem got_l_counts (F : FnAt K mg "_law_counts" "_law_counts" s_l_counts) (m_len : mg "len" = none) (m_range : mg "range" = none) (m_reversed : mg "reversed" = none) (m_enumerate : mg "enumerate" = none) : Got P w K mg base CX0 1 "_law_counts" (spCountsOf K) := by
  refine mk_got F sc_l_counts (fun vs H Q E h => ?_) (fun _ _ _ _ _ _ us hl => match us, hl with | [_], _ => rfl) (fun f cdv A outer s H vs Q E hr h => ?_)
  · obtain ⟨v, b, rfl, _⟩ := h
    rfl
  · obtain ⟨a, hs, rfl, hS, fi, q⟩ := h
    refine ⟨_, (pss_cons (ps_set (i := 1) sc_l_counts.nd rfl (.inl rfl) (pe_op op_cat (pe_lst (pa_cons pe_int pa_nil)) (pe_op op_rep (pe_lst (pa_cons pe_int pa_nil)) (pe_callB call_len_seq (by rfl) m_len (by decide +kernel) (pa_cons (pv 0) pa_nil)))))
(pss_cons (ps_for PassesOwn.never rfl (pi_enum (by rfl) m_enumerate (pa_cons (pv 0) pa_nil)) (pg_tup rfl (pgs_cons (pg_name (i := 2) sc_l_counts.nd rfl (.inl rfl)) (pgs_cons (pg_name (i := 3) sc_l_counts.nd rfl (.inl rfl)) pgs_nil)))
(pss_one (ps_for PassesOwn.never rfl (pi_revR (by rfl) m_reversed (prg_1 (by rfl) m_range (pe_op op_add (pv 2) pe_int))) (pg_name (i := 4) sc_l_counts.nd rfl (.inl rfl))
(pss_one (ps_if (pt_cmpR op_gt (pv 3) (pv 4) (nomark _))
(pss_cons (ps_set (i := 5) sc_l_counts.nd rfl (.inl rfl) (pe_op op_mulW (pe_ix ix_list (pv 1) (pv 4) (fun _ _ => rfl)) (pe_op op_sub (pv 3) (pv 4))))
(pss_one (ps_asg (pe_op op_add (pe_ix ix_list (pv 1) (pe_op op_add (pv 4) pe_int) (fun _ _ => rfl)) (pv 5)) (pg_sub (pv 1) (pe_op op_add (pv 4) pe_int) set_list))))
pss_nil)))))
(pss_one (ps_ret (pv 1))))), ?_⟩
    have hi70 := fi.len
    have hlen : (ivs hs).length = hs.length := by simp [ivs]
    refine q_asgL (xs := ivs (tab (hs.length + 1) (C []))) (el_is (el_cat (xs := ivs [1]) (el_lst (ea_cons ev_c ea_nil) (by decide)) (el_rep (xs := ivs [0]) (k := (hs.length : Int)) (el_lst (ea_cons ev_c ea_nil) (by decide)) (ev_is (ev_len (ev_var rfl) hS) (by rw [hlen])) (by omega) (by simp [ivs]; omega)) (by simp [ivs]; omega)) ?_) fun p H1 hp e1 h1 => ?_
    · rw [tab_C0]
      simp [ivs, flat_rep1]
    refine q_forE (ea_cons (ev_var rfl) ea_nil) (ex_l e1 hS) (fun i σ H' => ∃ y2 y3 y4 y5, σ = [some (.ref a), some (.ref p), y2, y3, y4, y5] ∧ Ex H H' ∧ H' p = some (.lst (ivs (tab (hs.length + 1) (C (hs.take i))))))
      (fun H2 e2 => ⟨none, none, none, none, rfl, e1.trans e2, e2 _ _ h1⟩) (fun i σ' H' _ ⟨_, _, _, _, _, e, _⟩ => ex_l e hS) ?_ ?_
    · rintro i x σ' H' H2 hi ⟨y2, y3, y4, y5, rfl, e, h2⟩ e2
      obtain ⟨n, hn, rfl, _, hlt⟩ := int_at hi
      have tl := take_len hn
      have fb : ∀ h ∈ hs.take i, h < 2 ^ 200 := fun h hh => fi.lt h (List.mem_of_mem_take hh)
      have hn0 : 0 ≤ n := fi.st.pos n (List.mem_of_getElem? hn)
      have hn2 : n < 2 ^ 200 := fi.lt n (List.mem_of_getElem? hn)
      refine s_forRev (a := 0) (b := ((i + 1 : Nat) : Int)) (rg1 (ev_is (ev_op (ev_var rfl) ev_c rv_I0) (by congr 1))) (by omega)
        (fun m σ H'' => ∃ y4 y5, σ = [some (.ref a), some (.ref p), some (.int (i : Int)), some (.int n), y4, y5] ∧ Ex H H'' ∧ H'' p = some (.lst (ivs (tab (hs.length + 1) (fun j => if i + 1 - m < j then C (hs.take i ++ [n]) j else C (hs.take i) j)))))
        (fun H4 e4 => ⟨y4, y5, rfl, (e.trans e2).trans e4, ?_⟩) ?_ ?_
      · rw [e4 _ _ (e2 _ _ h2)]
        congr 3
        refine tab_congr fun j hj => ?_
        by_cases hj1 : i + 1 - 0 < j
        · rw [if_pos hj1, C_big (by omega), C_big (by simp; omega)]
        · rw [if_neg hj1]
      · rintro m σ' H' hm ⟨y4, y5, rfl, e4, h4⟩
        have hk : ((i + 1 : Nat) : Int) - 1 - (m : Int) = ((i - m : Nat) : Int) := by omega
        rw [hk]
        obtain ⟨k, hk2⟩ : ∃ k, i - m = k := ⟨_, rfl⟩
        have hk3 : i + 1 - m = k + 1 := by omega
        have hk4 : i + 1 - (m + 1) = k := by omega
        rw [hk2]
        rw [hk3] at h4
        have hki : k + 1 < hs.length + 1 := by omega
        have fin : (tab (hs.length + 1) (fun j => if k + 1 < j then C (hs.take i ++ [n]) j else C (hs.take i) j)).set (k + 1) (C (hs.take i ++ [n]) (k + 1)) = tab (hs.length + 1) (fun j => if i + 1 - (m + 1) < j then C (hs.take i ++ [n]) j else C (hs.take i) j) := by
          rw [tab_set, hk4]
          refine tab_congr fun j hj => ?_
          by_cases hj1 : j = k + 1
          · rw [if_pos hj1, if_pos (by omega), hj1]
          · rw [if_neg hj1]
            by_cases hj2 : k + 1 < j
            · rw [if_pos hj2, if_pos (by omega)]
            · rw [if_neg hj2, if_neg (by omega)]
        have at1 : (ivs (tab (hs.length + 1) (fun j => if k + 1 < j then C (hs.take i ++ [n]) j else C (hs.take i) j)))[k + 1]? = some (.int (C (hs.take i) (k + 1))) := by
          unfold ivs
          rw [List.getElem?_map, tab_get hki, if_neg (by omega)]
          rfl
        have at0 : (ivs (tab (hs.length + 1) (fun j => if k + 1 < j then C (hs.take i ++ [n]) j else C (hs.take i) j)))[k]? = some (.int (C (hs.take i) k)) := by
          unfold ivs
          rw [List.getElem?_map, tab_get (by omega), if_neg (by omega)]
          rfl
        refine s_when (et_test (ev_op (ev_var rfl) (ev_var rfl) rv_I0)) (fun hb H5 e5 => ?_) fun hb H5 e5 => ?_
        · have hgt := of_decide_eq_true hb
          have h5 := e5 _ _ h4
          refine q_asg (v := .int (C (hs.take i) k * (n - k))) (ev_op (ev_op (ev_var rfl) (ev_var rfl) (rv_ixL (sq_of h5) (atI_nat at0))) (ev_op (ev_var rfl) (ev_var rfl) rv_I0) (rv_I ?_)) fun H6 e6 => ?_
          · exact wide_mul (a := 15000) (b := 202) (C_bits fb (by omega) k) (int_bits (by omega) (by omega)) (by decide) (by decide) (by decide)
          have h6 := e6 _ _ h5
          refine s_setL (v := .int (C (hs.take i ++ [n]) (k + 1))) (j := k + 1) h6 (ev_is (ev_op (ev_op (ev_var rfl) (ev_op (ev_var rfl) ev_c rv_I0) (rv_ixL (v := .int (C (hs.take i) (k + 1))) (sq_of h6) (at_of (j := k + 1) (by omega) at1))) (ev_var rfl) rv_I0) ?_) (ev_var rfl) (ev_is (ev_op (ev_var rfl) ev_c rv_I0) (by congr 1)) (List.getElem?_eq_some_iff.mp at1).1 fun H7 e7 => ?_
          · rw [C_snoc, show max 0 (n - (k : Int)) = n - k by omega, Int.mul_comm]
          · refine ⟨_, _, rfl, ((e4.trans e5).trans (e6.trans e7)).mut hp, ?_⟩
            rw [upd_same]
            unfold ivs
            rw [← List.map_set, fin]
        · have hgt := of_decide_eq_false hb
          refine ⟨_, _, rfl, e4.trans e5, ?_⟩
          rw [e5 _ _ h4, ← fin]
          congr 3
          rw [tab_set]
          refine tab_congr fun j hj => ?_
          by_cases hj1 : j = k + 1
          · rw [if_pos hj1, if_neg (by omega), hj1, C_snoc, show max 0 (n - (k : Int)) = 0 by omega]
            omega
          · rw [if_neg hj1]
      · rintro σ' H' ⟨y4, y5, rfl, e4, h4⟩
        refine ⟨_, _, _, _, rfl, e4, ?_⟩
        rw [h4, take_snoc hn]
        congr 3
        refine tab_congr fun j hj => ?_
        have : i + 1 - (((i + 1 : Nat) : Int) - 0).toNat = 0 := by omega
        rw [this]
        by_cases hj0 : j = 0
        · rw [hj0, if_neg (by omega), C_snoc0]
        · rw [if_pos (by omega)]
    · rintro σ' H' ⟨y2, y3, y4, y5, rfl, e, h2⟩
      refine s_ret (ev_var rfl) fun H3 e3 => q p H3 hp (e.trans e3) ?_
      rw [e3 _ _ h2]
      simp [ivs, cl]
end

end TS
namespace TS
open PySem PySem.Spec PyProof.Rows L2 Evl
local macro_rules | `(tactic| walk_at "ev") => `(tactic| repeat' (first
  | exact ev_c
  | exact ev_var rfl
  | exact ea_nil
  | refine ea_cons ?_ ?_
  | refine ev_op ?_ ?_ rv_I0
  | refine ev_op ?_ ?_ (rv_I ?_)
  | refine ev_op ?_ ?_ (rv_ne rfl)
  | refine ev_op ?_ ?_ (rv_eq rfl)
  | refine ev_un ?_ ru_neg
  | refine et_test ?_
  | refine et_B ?_
  | refine et_not ?_
  | refine ev_notV ?_
  | refine ev_max2 ?_ ?_))
section
variable {P : Program} {w : World} {K : PySem.W.Frag} {mg : Str → Option Value} {base : Heap}
/-! ### _law_tried: of a few low columns -/
def rowNew (h : Int) (r : List Int) : List (List Int) := picked h.toNat (fun i => !decide ((i : Int) ∈ r)) (fun i => r ++ [(i : Int)]) ++ [r]
def rowsStep (rs : List (List Int)) (h : Int) : List (List Int) := rs.flatMap (rowNew h)
def rowsOf (hs : List Int) : List (List Int) := hs.foldl rowsStep [[]]
def cntLen (k : Nat) (rs : List (List Int)) : Int := ((rs.filter fun r => decide (r.length = k)).length : Int)
def triedL (hs : List Int) : List Int := tab (hs.length + 1) fun k => cntLen k (rowsOf hs)
theorem rowsOf_snoc (hs : List Int) (h : Int) : rowsOf (hs ++ [h]) = (rowsOf hs).flatMap (rowNew h) := by
  unfold rowsOf
  rw [List.foldl_append]
  rfl
theorem rowNew_len {h : Int} (h4 : h < 4) (r : List Int) : (rowNew h r).length ≤ 4 := by
  unfold rowNew
  have := picked_len h.toNat (fun i => !decide ((i : Int) ∈ r)) (fun i => r ++ [(i : Int)])
  rw [List.length_append]
  show _ + 1 ≤ 4
  omega
theorem flat_len {h : Int} (h4 : h < 4) : ∀ rs : List (List Int), (rs.flatMap (rowNew h)).length ≤ 4 * rs.length
  | [] => by simp
  | r :: rs => by
    rw [List.flatMap_cons, List.length_append, List.length_cons]
    have := rowNew_len h4 r
    have := flat_len h4 rs
    omega
theorem rowsOf_size : ∀ hs : List Int, (∀ h ∈ hs, h < 4) → (rowsOf hs).length ≤ 4 ^ hs.length := by
  refine snoc_ind (P := fun hs => (∀ h ∈ hs, h < 4) → (rowsOf hs).length ≤ 4 ^ hs.length) (fun _ => by decide) fun l a ih h => ?_
  rw [rowsOf_snoc, List.length_append, Nat.pow_add]
  have := flat_len (h a (by simp)) (rowsOf l)
  have := ih fun x hx => h x (by simp [hx])
  show _ ≤ 4 ^ l.length * 4
  omega
theorem rowsOf_short : ∀ hs : List Int, ∀ r ∈ rowsOf hs, r.length ≤ hs.length := by
  refine snoc_ind (P := fun hs => ∀ r ∈ rowsOf hs, r.length ≤ hs.length) (fun r hr => by
    have : r = [] := by simpa [rowsOf] using hr
    simp [this]) fun l a ih r hr => ?_
  rw [rowsOf_snoc] at hr
  obtain ⟨r0, h0, h1⟩ := List.mem_flatMap.mp hr
  have := ih r0 h0
  unfold rowNew at h1
  rw [List.length_append]
  show _ ≤ l.length + 1
  rcases List.mem_append.mp h1 with h1 | h1
  · unfold picked at h1
    obtain ⟨i, _, rfl⟩ := List.mem_map.mp h1
    rw [List.length_append]
    show _ + 1 ≤ _
    omega
  · have : r = r0 := by simpa using h1
    rw [this]
    omega
theorem take_snocA {α : Type} {l : List α} {i : Nat} {n : α} (h : l[i]? = some n) : l.take (i + 1) = l.take i ++ [n] := by
  rw [List.take_add_one, h]; rfl
theorem cntLen_snoc (k : Nat) (rs : List (List Int)) (r : List Int) : cntLen k (rs ++ [r]) = cntLen k rs + (if r.length = k then 1 else 0) := by
  unfold cntLen
  rw [List.filter_append, List.length_append]
  by_cases e : r.length = k
  · simp [e]
  · simp [e]
def spTried (K : PySem.W.Frag) : Sp := fun vs H Q _ => ∃ (a : Addr) (hs : List Int), vs = [.ref a] ∧ SqL K H a (ivs hs) ∧ hs.length ≤ 3 ∧ (∀ h ∈ hs, 0 ≤ h ∧ h < 4) ∧ RetL (ivs (triedL hs)) H Q
theorem got_l_tried (F : FnAt K mg "_law_tried" "_law_tried" s_l_tried) (m_len : mg "len" = none) (m_range : mg "range" = none) : Got P w K mg base CX0 1 "_law_tried" (spTried K) := by
  refine mk_got F sc_l_tried (fun vs H Q E h => ?_) (fun _ _ _ _ _ _ us hl => match us, hl with | [_], _ => rfl) (fun f cdv A outer s H vs Q E hr h => ?_)
  · obtain ⟨v, b, rfl, _⟩ := h
    rfl
  · obtain ⟨a, hs, rfl, hS, hl, hb, q⟩ := h
    refine ⟨_, (pss_cons (ps_par (i := 1) (j := 2) rfl sc_l_tried.nd rfl rfl (by decide) rfl rfl (pa_cons (pe_lst (pa_cons (pe_lst pa_nil) pa_nil)) (pa_cons (pe_op op_rep (pe_lst (pa_cons pe_int pa_nil)) (pe_op op_add (pe_callB call_len_seq (by rfl) m_len (by decide +kernel) (pa_cons (pv 0) pa_nil)) pe_int)) pa_nil)) (by rfl))
(pss_cons (ps_for PassesOwn.never rfl (pi_list (pv 0)) (pg_name (i := 3) sc_l_tried.nd rfl (.inl rfl))
(pss_cons (ps_set (i := 4) sc_l_tried.nd rfl (.inl rfl) (pe_lst pa_nil))
(pss_cons (ps_for PassesOwn.never rfl (pi_list (pv 1)) (pg_name (i := 5) sc_l_tried.nd rfl (.inr rfl))
(pss_cons (ps_set (i := 4) sc_l_tried.nd rfl (.inl rfl) (pe_op op_cat (pv 4) (pe_lc (own := [("_law_row", 6)]) rfl sc_l_tried.nd (pi_range1 (by rfl) m_range (pa_cons (pv 3) pa_nil)) (blkOk_by (N := ["_law_stairs_here", "_law_ways", "_law_found", "_law_height", "_law_more", "_law_rows", "_law_row"]) (sc := defScope s_l_tried) (by decide +kernel)) (fun _ _ _ _ _ => (pg_name (i := 6) sc_l_tried.nd rfl (Or.inl rfl))) (fun _ _ _ _ _ => (pts_one (pt_cmpR (op_notIn_seqK (K := K)) (pv 6) (pv 5) (by rfl)))) (fun _ _ _ _ _ => (pe_op op_cat (pv 5) (pe_lst (pa_cons (pv 6) pa_nil)))))))
(pss_one (ps_expr (pe_bm PySem.F.plainAttrs_list PySem.F.slot_list_append PySem.F.type_list_append mt_append (pv 4) (pa_cons (pv 5) pa_nil))))))
(pss_one (ps_set (i := 1) sc_l_tried.nd rfl (.inl rfl) (pv 4))))))
(pss_cons (ps_for PassesOwn.never rfl (pi_list (pv 1)) (pg_name (i := 5) sc_l_tried.nd rfl (.inr rfl))
(pss_one (ps_asg (pe_op op_add (pe_ix ix_list (pv 2) (pe_callB call_len_seq (by rfl) m_len (by decide +kernel) (pa_cons (pv 5) pa_nil)) (fun _ _ => rfl)) pe_int) (pg_sub (pv 2) (pe_callB call_len_seq (by rfl) m_len (by decide +kernel) (pa_cons (pv 5) pa_nil)) set_list))))
(pss_one (ps_ret (pv 2)))))), ?_⟩
    have hlen : (ivs hs).length = hs.length := by simp [ivs]
    -- ways, found = [[]], [0] * (len + 1)
    refine ⟨Nat.zero_le _, fun p0 n0 => ⟨by show 1 ≤ sizeLine; decide, fun pw nw => ?_⟩⟩
    have e1 : Ex H (upd (upd H p0 (.lst [])) pw (.lst [.ref p0])) := (Ex.new n0).trans (Ex.new nw)
    have ne0 : p0 ≠ pw := fun z => by
      rw [← z, upd_same] at nw
      cases nw
    have w0 : (upd (upd H p0 (.lst [])) pw (.lst [.ref p0])) p0 = some (.lst []) := by rw [upd_ne ne0, upd_same]
    have w1 : (upd (upd H p0 (.lst [])) pw (.lst [.ref p0])) pw = some (.lst [.ref p0]) := upd_same
    generalize upd (upd H p0 (.lst [])) pw (.lst [.ref p0]) = H1 at e1 w0 w1 ⊢
    refine el_rep (xs := ivs [0]) (k := ((hs.length + 1 : Nat) : Int)) (σ := [some (.ref a), none, none, none, none, none, none]) (el_lst (ea_cons ev_c ea_nil) (by decide)) (ev_is (ev_op (ev_len (ev_var rfl) (ex_l e1 hS)) ev_c rv_I0) (by rw [hlen]; rfl)) (by omega) (by simp [ivs]; omega) H1 (Ex.refl H1) _ fun pf H2 nf e2 h2 => ?_
    refine ⟨.ref pw, .ref pf, rfl, ?_⟩
    have e02 := e1.trans e2
    have hz : (List.replicate ((hs.length + 1 : Nat) : Int).toNat (ivs [0])).flatten = ivs (tab (hs.length + 1) fun _ => (0 : Int)) := by
      rw [tab_const]
      show (List.replicate (hs.length + 1) [V.int 0]).flatten = (List.replicate (hs.length + 1) (0 : Int)).map V.int
      rw [flat_rep1, List.map_replicate]
    rw [hz] at h2
    have pf0 : p0 ≠ pf := fun z => by rw [← z, w0] at nf; cases nf
    -- the columns
    refine q_forLn (ev_var rfl) (ex_l e02 hS) (fun i σ H' => ∃ pw refs y3 y4 y5 y6, σ = [some (.ref a), some (.ref pw), some (.ref pf), y3, y4, y5, y6] ∧ Ex H H' ∧ H' pf = some (.lst (ivs (tab (hs.length + 1) fun _ => (0 : Int)))) ∧ H' pw = some (.lst refs) ∧
      Paired (fun v r => ∃ p, v = .ref p ∧ p ≠ pf ∧ H' p = some (oRow r)) refs (rowsOf (hs.take i)))
      (fun H3 e3 => ⟨pw, [.ref p0], none, none, none, none, rfl, e02.trans e3, e3 _ _ h2, e3 _ _ (e2 _ _ w1), .cons ⟨p0, rfl, pf0, e3 _ _ (e2 _ _ w0)⟩ .nil⟩) (fun i σ' H' _ ⟨_, _, _, _, _, _, _, e, _⟩ => ex_l e hS) ?_ ?_
    · rintro i x σ' H' hi ⟨pw, refs, y3, y4, y5, y6, rfl, e, hf, hw, hp⟩
      obtain ⟨n, hn, rfl, _, hlt⟩ := int_at hi
      have hn4 := hb n (List.mem_of_getElem? hn)
      have hsz : (rowsOf (hs.take i)).length ≤ 64 := by
        have h1 := rowsOf_size (hs.take i) fun h hh => (hb h (List.mem_of_mem_take hh)).2
        have h2 : 4 ^ (hs.take i).length ≤ 4 ^ 3 := Nat.pow_le_pow_right (by decide) (by rw [List.length_take]; omega)
        exact Nat.le_trans h1 h2
      have hrl : refs.length = (rowsOf (hs.take i)).length := Paired.len hp
      generalize hR : rowsOf (hs.take i) = rows at hp hsz hrl
      refine q_asgL (xs := []) (el_lst ea_nil (by decide)) fun pm H3 nm e3 h3 => ?_
      refine q_forLn (ev_var rfl) (sq_of (e3 _ _ hw)) (fun j σ H'' => ∃ pm mr y5 y6, σ = [some (.ref a), some (.ref pw), some (.ref pf), some (.int n), some (.ref pm), y5, y6] ∧ Ex H' H'' ∧ H' pm = none ∧ H'' pm = some (.lst mr) ∧
        Paired (fun v r => ∃ p, v = .ref p ∧ p ≠ pf ∧ p ≠ pm ∧ H'' p = some (oRow r)) mr ((rows.take j).flatMap (rowNew n)))
        (fun H4 e4 => ⟨pm, [], y5, y6, rfl, e3.trans e4, nm, e4 _ _ h3, .nil⟩) (fun j σ' H'' _ ⟨_, _, _, _, _, e, _⟩ => sq_of (e _ _ hw)) ?_ ?_
      · rintro j x σ' H'' hj ⟨pm, mr, y5, y6, rfl, e4, nm, hm, hmp⟩
        obtain ⟨row, hrow, pr, rfl, pr1, pr2⟩ := Paired.at hp hj
        have hlr : mr.length ≤ 4 * 64 := by
          rw [Paired.len hmp]
          refine Nat.le_trans (flat_len hn4.2 _) ?_
          have : (rows.take j).length ≤ rows.length := by rw [List.length_take]; omega
          omega
        -- more = more + [..]
        refine ⟨.ref pm, rfl, eln_lcR (o := oRow) (j := 6) (vs := [6]) (n := n) (fun i => !decide ((i : Int) ∈ row)) (fun i => row ++ [(i : Int)]) (σ := [some (.ref a), some (.ref pw), some (.ref pf), some (.int n), some (.ref pm), some (.ref pr), y6])
          (ea_cons (ev_var rfl) ea_nil) (by omega) (fun _ => rfl) (fun i H5 e5 hi => et_test (ev_op (ev_var rfl) (ev_var rfl) (rv_niI (sq_of ((e4.trans e5) _ _ pr2))))) (fun i5 H5 e5 hi _ => ?_) H'' (Ex.refl H'') _ fun q ys H5 hq e5 h5 hys => ?_⟩
        · refine EvL.n (el_is (el_catV (ev_var rfl) ((e4.trans e5) _ _ pr2) (el_lst (ea_cons (ev_var rfl) ea_nil) (by show 1 ≤ 100000; decide)) ?_) (by rw [List.map_append]; rfl))
          rw [List.length_map]
          have h1 := rowsOf_short (hs.take i) row (by rw [hR]; exact List.mem_of_getElem? hrow)
          have h2 : (hs.take i).length ≤ hs.length := by rw [List.length_take]; omega
          show _ + 1 ≤ _
          omega
        have hyl : ys.length ≤ 4 := by
          rw [Paired.len hys]
          have := picked_len n.toNat (fun i => !decide ((i : Int) ∈ row)) (fun i => row ++ [(i : Int)])
          omega
        refine ⟨pm, q, mr, ys, rfl, rfl, e5 _ _ hm, h5, sz_of (by omega), fun l nl => ?_⟩
        -- more.append(rows)
        have l1 : Ex H'' (upd H5 l (.lst (mr ++ ys))) := e5.trans (Ex.new nl)
        refine s_app (K := K) (v := .ref pr) (xs := mr ++ ys) (l := l) upd_same (ev_var rfl) (ev_var rfl) (by rw [List.length_append]; omega) fun H6 e6 => ?_
        have nl' : H' l = none := fresh_back (e4.trans e5) nl
        have nlpf : l ≠ pf := fun z => by rw [z, hf] at nl'; cases nl'
        have ne : ∀ p o, H5 p = some o → p ≠ l := fun p o h z => by rw [z, nl] at h; cases h
        have keep : ∀ p o, H5 p = some o → (upd H6 l (.lst (mr ++ ys ++ [.ref pr]))) p = some o := fun p o h => by
          rw [upd_ne (ne p o h)]
          exact e6 _ _ (by rw [upd_ne (ne p o h)]; exact h)
        refine ⟨l, _, _, _, rfl, ((e4.trans l1).trans e6).mut nl', nl', upd_same, ?_⟩
        rw [take_snocA hrow, List.flatMap_append]
        have er : ∀ A : List (List Int), A ++ [row].flatMap (rowNew n) = (A ++ picked n.toNat (fun i => !decide ((i : Int) ∈ row)) (fun i => row ++ [(i : Int)])) ++ [row] := fun A => by simp [rowNew]
        rw [er]
        refine Paired.app (Paired.app ?_ ?_) ?_
        · exact Paired.mapP hmp fun v r ⟨p, e, a1, a2, h⟩ => ⟨p, e, a1, ne p _ (e5 _ _ h), keep p _ (e5 _ _ h)⟩
        · refine Paired.mapP hys fun v r ⟨p, e, a1, a2, h⟩ => ⟨p, e, fun z => ?_, ne p _ h, keep p _ h⟩
          rw [z, e4 _ _ hf] at a1
          cases a1
        · have h5r := e5 _ _ (e4 _ _ pr2)
          exact .cons ⟨pr, rfl, pr1, ne pr _ h5r, keep pr _ h5r⟩ .nil
      · rintro σ' H'' ⟨pm, mr, y5, y6, rfl, e4, nm, hm, hmp⟩
        refine s_asg (ev_var rfl) fun H5 e5 => ⟨pm, mr, _, _, _, _, rfl, (e.trans e4).trans e5, e5 _ _ (e4 _ _ hf), e5 _ _ hm, ?_⟩
        rw [take_snoc hn, rowsOf_snoc, hR]
        rw [hrl, List.take_length] at hmp
        exact Paired.mapP hmp fun v r ⟨p, e, a1, a2, h⟩ => ⟨p, e, a1, e5 _ _ h⟩
    · rintro σ' H' ⟨pw, refs, y3, y4, y5, y6, rfl, e, hf, hw, hp⟩
      rw [hlen, List.take_length] at hp
      have hsz : (rowsOf hs).length ≤ 64 := by
        have h1 := rowsOf_size hs fun h hh => (hb h hh).2
        exact Nat.le_trans h1 (Nat.pow_le_pow_right (n := 4) (by decide) hl)
      have hrl : refs.length = (rowsOf hs).length := Paired.len hp
      have npw : pw ≠ pf ∨ refs = [] := by
        by_cases z : pw = pf
        · right
          rw [z, hf] at hw
          have e0 : ivs (tab (hs.length + 1) fun _ => (0 : Int)) = refs := HO.lst.inj (Option.some.inj hw)
          cases refs with
          | nil => rfl
          | cons v t =>
            obtain ⟨_, _, p, rfl, _⟩ := Paired.at (i := 0) hp rfl
            rw [tab_const] at e0
            cases e0
        · exact .inl z
      have npw' : pw ≠ pf := by
        rcases npw with h | h
        · exact h
        · intro z
          rw [z, hf, h, tab_const] at hw
          cases hw
      refine q_forLn (ev_var rfl) (sq_of hw) (fun j σ H'' => ∃ y5, σ = [some (.ref a), some (.ref pw), some (.ref pf), y3, y4, y5, y6] ∧ Ex H H'' ∧ (∀ p o, p ≠ pf → H' p = some o → H'' p = some o) ∧ H'' pf = some (.lst (ivs (tab (hs.length + 1) fun k => cntLen k ((rowsOf hs).take j)))))
        (fun H3 e3 => ⟨y5, rfl, e.trans e3, fun p o _ h => e3 _ _ h, e3 _ _ hf⟩) (fun j σ' H'' _ ⟨_, _, _, k, _⟩ => sq_of (k _ _ npw' hw)) ?_ ?_
      · rintro j x σ' H'' hj ⟨y5, rfl, e4, k4, h4⟩
        obtain ⟨row, hrow, pr, rfl, pr1, pr2⟩ := Paired.at hp hj
        have hr4 := k4 _ _ pr1 pr2
        have hshort := rowsOf_short hs row (List.mem_of_getElem? hrow)
        have hat : (ivs (tab (hs.length + 1) fun k => cntLen k ((rowsOf hs).take j)))[row.length]? = some (.int (cntLen row.length ((rowsOf hs).take j))) := by
          unfold ivs
          rw [List.getElem?_map, tab_get (by omega)]
          rfl
        have hln : ∀ {σ : L2.St}, σ[5]? = some (some (V.ref pr)) → Ev (tCB (rLenS K) (tCons (tVar 5) tNil)) σ H'' (.int (row.length : Int)) := fun h5 => ev_is (ev_len (ev_var h5) (sq_of hr4)) (by simp)
        refine s_setL (v := .int (cntLen row.length ((rowsOf hs).take j) + 1)) (j := row.length) h4 (ev_op (ev_op (ev_var rfl) (hln rfl) (rv_ixL (sq_of h4) (atI_nat hat))) ev_c rv_I0) (ev_var rfl) (hln rfl) (List.getElem?_eq_some_iff.mp hat).1 fun H5 e5 => ?_
        refine ⟨_, rfl, (e4.trans e5).mut (fresh_back e1 nf), fun p o np h => ?_, ?_⟩
        · rw [upd_ne np]
          exact e5 _ _ (k4 _ _ np h)
        · rw [upd_same]
          unfold ivs
          rw [← List.map_set, tab_set, take_snocA hrow]
          congr 3
          refine tab_congr fun k hk => ?_
          rw [cntLen_snoc]
          by_cases z : k = row.length
          · rw [if_pos z, if_pos z.symm, z]
          · rw [if_neg z, if_neg fun q => z q.symm]
            omega
      · rintro σ' H'' ⟨y5, rfl, e4, k4, h4⟩
        refine s_ret (ev_var rfl) fun H5 e5 => q pf H5 (fresh_back e1 nf) (e4.trans e5) ?_
        rw [e5 _ _ h4, hrl, List.take_length]
        rfl
/-- by trying: as many -/
theorem tried3 : ∀ a b c : Fin 4, a ≤ b → b ≤ c → triedL [(a : Int), b, c] = cl [(a : Int), b, c] := by decide +kernel
theorem tried2 : ∀ a b : Fin 4, a ≤ b → triedL [(a : Int), b] = cl [(a : Int), b] := by decide +kernel
theorem tried1 : ∀ a : Fin 4, triedL [(a : Int)] = cl [(a : Int)] := by decide +kernel
theorem fin4 {h : Int} (h0 : 0 ≤ h) (h1 : h < 4) : ∃ a : Fin 4, (a : Int) = h := ⟨⟨h.toNat, by omega⟩, by simp; omega⟩
theorem tried_is : ∀ {hs : List Int}, hs.length ≤ 3 → (∀ h ∈ hs, 0 ≤ h ∧ h < 4) → hs.Pairwise (· ≤ ·) → triedL hs = cl hs
  | [], _, _, _ => by decide +kernel
  | [a], _, h, _ => by
    obtain ⟨a', rfl⟩ := fin4 (h a (by simp)).1 (h a (by simp)).2
    exact tried1 a'
  | [a, b], _, h, up => by
    obtain ⟨a', rfl⟩ := fin4 (h a (by simp)).1 (h a (by simp)).2
    obtain ⟨b', rfl⟩ := fin4 (h b (by simp)).1 (h b (by simp)).2
    have u1 : (a' : Int) ≤ b' := by
      have := List.rel_of_pairwise_cons up (a' := (b' : Int)) (by simp)
      exact this
    exact tried2 a' b' (by show a'.1 ≤ b'.1; omega)
  | [a, b, c], _, h, up => by
    obtain ⟨a', rfl⟩ := fin4 (h a (by simp)).1 (h a (by simp)).2
    obtain ⟨b', rfl⟩ := fin4 (h b (by simp)).1 (h b (by simp)).2
    obtain ⟨c', rfl⟩ := fin4 (h c (by simp)).1 (h c (by simp)).2
    have u1 : (a' : Int) ≤ b' := List.rel_of_pairwise_cons up (a' := (b' : Int)) (by simp)
    have up2 := List.Pairwise.of_cons up
    have u2 : (b' : Int) ≤ c' := List.rel_of_pairwise_cons up2 (a' := (c' : Int)) (by simp)
    exact tried3 a' b' c' (by show a'.1 ≤ b'.1; omega) (by show b'.1 ≤ c'.1; omega)
  | _ :: _ :: _ :: _ :: _, h, _, _ => absurd h (by simp)
end

end TS
namespace TS
open PySem PySem.Spec PyProof.Rows L2 Evl
local macro_rules | `(tactic| walk_at "ev") => `(tactic| repeat' (first
  | exact ev_c
  | exact ev_var rfl
  | exact ea_nil
  | refine ea_cons ?_ ?_
  | refine ev_op ?_ ?_ rv_I0
  | refine ev_op ?_ ?_ (rv_I ?_)
  | refine ev_op ?_ ?_ (rv_ne rfl)
  | refine ev_op ?_ ?_ (rv_eq rfl)
  | refine ev_un ?_ ru_neg
  | refine et_test ?_
  | refine et_B ?_
  | refine et_not ?_
  | refine ev_notV ?_
  | refine ev_max2 ?_ ?_))
section
variable {P : Program} {w : World} {K : PySem.W.Frag} {mg : Str → Option Value} {base : Heap}
/-! ### the law -/
theorem ff_bits {x : Int} (h0 : 0 ≤ x) (h1 : x < 2 ^ 200) : ∀ n : Nat, n ≤ 100 → (ff x n).natAbs < 2 ^ (201 * n + 1)
  | 0, _ => by simp [ff]
  | n + 1, hn => by
    have i1 := ff_bits h0 h1 n (by omega)
    have b : (x - (n : Int)).natAbs < 2 ^ 201 := int_bits (by omega) (by omega)
    have := wide_lt i1 b
    rw [show 201 * (n + 1) + 1 = 201 * n + 1 + 201 by omega]
    exact this
theorem ff_small {x : Int} (h0 : 0 ≤ x) (h1 : x < 2 ^ 200) {n : Nat} (hn : n ≤ 70) : (ff x n).natAbs < 2 ^ 15000 := nat_lt_pow (ff_bits h0 h1 n (by omega)) (by omega)
theorem Fine.dropLast {hs : List Int} (f : Fine hs) : Fine hs.dropLast := by
  rw [List.dropLast_eq_take]
  exact ⟨f.st.take _, fun h hh => f.lt h (List.mem_of_mem_take hh), by rw [List.length_take]; have := f.len; omega⟩
theorem ivs_dropLast (hs : List Int) : (ivs hs).dropLast = ivs hs.dropLast := by
  unfold ivs
  rw [List.map_dropLast]
def spLaw (K : PySem.W.Frag) : Sp := fun vs H Q _ => ∃ (a : Addr) (ns : List Int), vs = [.ref a] ∧ SqL K H a (ivs ns) ∧ ns.length ≤ 63 ∧ ∀ H', Q (.bl true) H'
theorem ok_law {f : Addr} {fd : FuncData} (D : FunD K "law" "law" (defArgs s_law) (defBody s_law) (defScope s_law) [] [] f fd) (G_l_stairs : Got P w K mg base CX0 2 "_law_stairs" (spStairs K)) (G_l_counts : Got P w K mg base CX0 1 "_law_counts" (spCountsOf K)) (G_counts : Got P w K mg base CX0 3 "counts" (spCountsOf K)) (G_filled : Got P w K mg base CX0 3 "filled" (spFilled K))
    (G_l_whole : Got P w K mg base CX0 1 "_law_whole" (spWhole K)) (G_l_cell_at : Got P w K mg base CX0 1 "_law_cell_at" (spCellAt K)) (G_l_draw : Got P w K mg base CX0 1 "_law_draw" spDraw) (G_l_tried : Got P w K mg base CX0 1 "_law_tried" (spTried K))
    (m_len : mg "len" = none) (m_list : mg "list" = none) (m_range : mg "range" = none) (m_isinstance : mg "isinstance" = none) (m_all : mg "all" = none) (m_sorted : mg "sorted" = none) : FnOk P w K mg base CX0 4 f fd ["_law_script"] (spLaw K) := by
  refine mk_ok D sc_law (fun vs H Q E h => ?_) (fun f cdv A outer s H vs Q E hr h => ?_)
  · obtain ⟨v, b, rfl, _⟩ := h
    rfl
  · obtain ⟨a, ns, rfl, hS, hl63, q⟩ := h
    refine ⟨_, (pss_cons (ps_set (i := 1) sc_law.nd rfl (.inl rfl) (pe_got G_l_stairs (hr.mono (by decide)) pass0 (pa_cons (pv 0) pa_nil)))
(pss_cons (ps_par3 (i := 2) (j := 3) (l := 4) rfl sc_law.nd rfl rfl rfl (by decide) (by decide) (by decide) rfl rfl rfl (pa_cons (pe_got G_l_counts (hr.mono (by decide)) pass0 (pa_cons (pv 1) pa_nil)) (pa_cons (pe_callB call_len_seq (by rfl) m_len (by decide +kernel) (pa_cons (pv 1) pa_nil)) (pa_cons (pe_callTy call_list_of (by rfl) m_list (by decide +kernel) (pa_cons (pv 1) pa_nil)) pa_nil))) (by rfl))
(pss_cons (ps_for PassesOwn.never rfl (pi_range1 (by rfl) m_range (pa_cons pe_int pa_nil)) (pg_name (i := 5) sc_law.nd rfl (.inl rfl))
(pss_cons (ps_set (i := 6) sc_law.nd rfl (.inl rfl) (pe_got G_counts (hr.mono (by decide)) pass0 (pa_cons (pv 4) pa_nil)))
(pss_cons (ps_if (PW.pt (pw_or (pt_not (pt_val (pe_callB call_isi (by rfl) m_isinstance (by decide +kernel) (pa_cons (pv 6) (pa_cons (pe_bltn (v := .ty "list") (by rfl) m_list (by decide +kernel) rfl) pa_nil))))) (pw_or (pt_cmpR (op_neD hr.units) (pv 6) (pv 2) (nomark _)) (pw_or1 (pt_not (pt_val (pe_callB (cr_all rfl) (by rfl) m_all (by decide +kernel) (pa_cons (pe_lc (own := [("_law_one", 14)]) rfl sc_law.nd (pi_list (pv 6)) (blkOk_by (N := ["_law_script", "_law_stairs_here", "_law_due", "_law_many", "_law_handed", "_law_again", "_law_found", "_law_drawn", "_law_more", "_law_whole_here", "_law_rest", "_law_left", "_law_told", "_law_few", "_law_one", "_law_height"]) (sc := defScope s_law) (by decide +kernel)) (fun _ _ _ _ _ => (pg_name (i := 14) sc_law.nd rfl (Or.inl rfl))) (fun _ _ _ _ _ => pts_nil) (fun _ _ _ _ _ => (pe_got G_l_whole (hr.mono (by decide)) pass0 (pa_cons (pv 14) pa_nil)))) pa_nil))))))))
(pss_one (ps_ret pe_bl))
pss_nil)
(pss_one (ps_expr (pe_bm PySem.F.plainAttrs_list PySem.F.slot_list_append PySem.F.type_list_append mt_append (pv 6) (pa_cons pe_int pa_nil)))))))
(pss_cons (ps_set (i := 7) sc_law.nd rfl (.inl rfl) (pe_got G_l_draw (hr.mono (by decide)) pass0 (pa_cons (pe_got G_l_cell_at (hr.mono (by decide)) pass0 (pa_cons (pv 0) (pa_cons pe_int pa_nil))) (pa_cons pe_int (pa_cons (pe_op op_add (pe_op op_mulW pe_int (pv 3)) pe_int) pa_nil)))))
(pss_cons (ps_for PassesOwn.never rfl (pi_tup (pe_tup (pa_cons pe_int (pa_cons pe_int (pa_cons pe_int (pa_cons (pv 3) (pa_cons (pv 7) (pa_cons (pe_op op_mod (pe_got G_l_cell_at (hr.mono (by decide)) pass0 (pa_cons (pv 0) (pa_cons pe_int pa_nil))) (pe_op op_pow pe_int pe_int)) pa_nil)))))))) (pg_name (i := 8) sc_law.nd rfl (.inl rfl))
(pss_cons (ps_asg (pe_tup (pa_cons pe_int (pa_cons pe_int pa_nil))) (pg_tup rfl (pgs_cons (pg_name (i := 9) sc_law.nd rfl (.inl rfl)) (pgs_cons (pg_name (i := 10) sc_law.nd rfl (.inl rfl)) pgs_nil))))
(pss_cons (ps_for PassesOwn.never rfl (pi_range1 (by rfl) m_range (pa_cons (pe_op op_add (pv 3) pe_int) pa_nil)) (pg_name (i := 11) sc_law.nd rfl (.inl rfl))
(pss_cons (ps_set (i := 9) sc_law.nd rfl (.inl rfl) (pe_op op_add (pv 9) (pe_op op_mulW (pe_ix ix_list (pv 2) (pe_op op_sub (pv 3) (pv 11)) (fun _ _ => rfl)) (pv 10))))
(pss_one (ps_set (i := 10) sc_law.nd rfl (.inl rfl) (pe_op op_mulW (pv 10) (pe_op op_sub (pv 8) (pv 11)))))))
(pss_cons (ps_set (i := 12) sc_law.nd rfl (.inl rfl) (pe_got G_filled (hr.mono (by decide)) pass0 (pa_cons (pv 4) (pa_cons (pv 8) pa_nil))))
(pss_one (ps_if (PW.pt (pw_or (pt_not (pt_val (pe_got G_l_whole (hr.mono (by decide)) pass0 (pa_cons (pv 12) pa_nil)))) (pw_or (pt_cmpR op_ne (pv 12) (pv 9) (nomark _)) (pw_or1 (pt_cmpR (op_neD hr.units) (pv 4) (pv 1) (nomark _))))))
(pss_one (ps_ret pe_bl))
pss_nil))))))
(pss_cons (ps_if (pt_cmpR (op_neD hr.units) (pv 4) (pe_lst pa_nil) (nomark _))
(pss_one (ps_expr (pe_bm0 PySem.F.plainAttrs_list PySem.F.slot_list_pop PySem.F.type_list_pop mt_pop (pv 4))))
pss_nil)
(pss_cons (ps_if (pt_cmpR (op_neD hr.units) (pe_got G_counts (hr.mono (by decide)) pass0 (pa_cons (pv 4) pa_nil)) (pe_got G_l_counts (hr.mono (by decide)) pass0 (pa_cons (pe_slice sl_list (pv 1) po_none (po_some (pe_un un_neg pe_int))) pa_nil)) (nomark _))
(pss_one (ps_ret pe_bl))
pss_nil)
(pss_cons (ps_set (i := 13) sc_law.nd rfl (.inl rfl) (pe_callB cr_sortedI (by rfl) m_sorted (by decide +kernel) (pa_cons (pe_lc (own := [("_law_height", 15)]) rfl sc_law.nd (pi_list (pe_slice sl_list (pv 1) po_none (po_some pe_int))) (blkOk_by (N := ["_law_script", "_law_stairs_here", "_law_due", "_law_many", "_law_handed", "_law_again", "_law_found", "_law_drawn", "_law_more", "_law_whole_here", "_law_rest", "_law_left", "_law_told", "_law_few", "_law_one", "_law_height"]) (sc := defScope s_law) (by decide +kernel)) (fun _ _ _ _ _ => (pg_name (i := 15) sc_law.nd rfl (Or.inl rfl))) (fun _ _ _ _ _ => pts_nil) (fun _ _ _ _ _ => (pe_op op_mod (pv 15) pe_int))) pa_nil)))
(pss_cons (ps_if (pt_cmpR (op_neD hr.units) (pe_got G_counts (hr.mono (by decide)) pass0 (pa_cons (pv 13) pa_nil)) (pe_got G_l_tried (hr.mono (by decide)) pass0 (pa_cons (pv 13) pa_nil)) (nomark _))
(pss_one (ps_ret pe_bl))
pss_nil)
(pss_one (ps_ret (pe_and (pe_cmpR (op_eqD hr.units) (pe_got G_counts (hr.mono (by decide)) pass0 (pa_cons (pe_lst pa_nil) pa_nil)) (pe_lst (pa_cons pe_int pa_nil)) (nomark _)) (pe_one (pe_cmpR op_eq (pe_got G_filled (hr.mono (by decide)) pass0 (pa_cons (pe_lst pa_nil) (pa_cons pe_int pa_nil))) pe_int (nomark _))))))))))))))), ?_⟩
    -- the stairs
    refine (fun (k : ∀ hs, Fine0 hs → hs.length = ns.length → ∀ p H1, H p = none → Ex H H1 → H1 p = some (.lst (ivs hs)) → _) => ⟨_, rfl, a, ns, rfl, hS, hl63, fun hs f0 hl p H1 hp e1 h1 => k hs f0 hl p H1 hp e1 h1⟩) ?_
    intro hs f0 hl p H1 hp e1 h1
    have fi : Fine hs := f0.fine (by omega)
    have hlen : (ivs hs).length = hs.length := by simp [ivs]
    have hS1 := sq_of (K := K) h1
    refine q_par3LVL (xs := ivs (cl hs)) (v := .int (hs.length : Int)) (zs := ivs hs) (el_call (ea_cons (ev_var rfl) ea_nil) fun H2 e2 Q2 q2 E => ⟨p, hs, rfl, ex_l e2 hS1, fi, q2⟩) (ev_is (ev_len (ev_var rfl) hS1) (by rw [hlen])) (el_list (ev_var rfl) hS1) fun pd ph H2 nd nh ndh e2 h2 h2' => ?_
    have npd : p ≠ ph := fun z => by rw [z, nh] at h1; cases h1
    -- twice the same
    refine q_forR1 (n := 2) (ea_cons ev_c ea_nil) (by decide) (fun i σ H' => ∃ y5 y6, σ = [some (.ref a), some (.ref p), some (.ref pd), some (.int (hs.length : Int)), some (.ref ph), y5, y6, none, none, none, none, none, none, none, none, none] ∧ Ex H2 H') (fun H3 e3 => ⟨none, none, rfl, e3⟩) ?_ ?_
    · rintro i σ' H' hi ⟨y5, y6, rfl, e⟩
      refine q_asgL (xs := ivs (cl hs)) (el_call (ea_cons (ev_var rfl) ea_nil) fun H3 e3 Q3 q3 E => ⟨ph, hs, rfl, sq_of (e3 _ _ (e _ _ h2')), fi, q3⟩) fun pf H3 nf e3 h3 => ?_
      have h3d := e3 _ _ (e _ _ h2)
      refine q_when (b := false) (et_is (et_or (et_not (et_B (ev_isi (b := true) (ev_var rfl) (.ty _) (fun H4 e4 => tyx_sqL (ex_l e4 (sq_of h3))) (kit_ty (by decide +kernel))))) fun _ => et_or (et_test (ev_op (ev_var rfl) (ev_var rfl) (rv_neI (sq_of h3) (sq_of h3d)))) fun _ => et_not (et_B (ev_all (bs := (cl hs).map fun _ => true) ?_))) ?_) (fun z => nomatch z) fun _ H4 e4 => ?_
      · rw [List.map_map]
        refine el_ints (fun _ => .bl true) (ev_var rfl) (sq_of h3) (by simp [cl, tab_len]; have := fi.len; omega) (fun _ => rfl) fun i n H5 e5 _ => ev_call (ea_cons (ev_var rfl) ea_nil) (sv_whole_int n)
      · simp
      · refine s_app (e4 _ _ h3) (ev_var rfl) ev_c (by simp [ivs, cl, tab_len]; have := fi.len; omega) fun H5 e5 => ⟨_, _, rfl, ((e.trans e3).trans (e4.trans e5)).mut (fresh_back e nf)⟩
    rintro σ' H3 ⟨y5, y6, rfl, e3⟩
    -- the rows more
    have e03 := (e1.trans e2).trans e3
    have h3 := e3 _ _ (e2 _ _ h1)
    have h3d := e3 _ _ h2
    have h3h := e3 _ _ h2'
    have hS3 := ex_l e03 hS
    have hi70 := fi.len
    refine q_asg (v := .int (drawN (cellAt ns 1) 3 (2 * (hs.length : Int) + 3))) (ev_call (ea_cons (ev_call (z := .int (cellAt ns 1)) (ea_cons (ev_var rfl) (ea_cons ev_c ea_nil)) fun H4 e4 Q4 q4 E => ⟨a, ns, 1, rfl, ex_l e4 hS3, q4⟩) (ea_cons ev_c (ea_cons (ev_op (ev_op ev_c (ev_var rfl) (rv_I (wide_mul (a := 10) (b := 200) (by decide) (int_bits (by omega) (by omega)) (by decide) (by decide) (by decide)))) ev_c rv_I0) ea_nil))) fun H4 e4 Q4 q4 E => ⟨_, _, _, rfl, by omega, q4⟩) fun H4 e4 => ?_
    have d0 := drawN_ge (c := cellAt ns 1) (k := 3) (m := 2 * (hs.length : Int) + 3) (by omega)
    have d1 := drawN_lt (c := cellAt ns 1) (k := 3) (m := 2 * (hs.length : Int) + 3) (by omega)
    generalize drawN (cellAt ns 1) 3 (2 * (hs.length : Int) + 3) = dr at d0 d1 ⊢
    have h40 : (0 : Int) < 10 ^ 40 := by decide +kernel
    let xs : List Int := [0, 1, 2, hs.length, dr, cellAt ns 2 % 10 ^ 40]
    have hxs : ∀ x ∈ xs, 0 ≤ x ∧ x < 2 ^ 200 := by
      have a0 : 0 ≤ cellAt ns 2 % 10 ^ 40 := Int.emod_nonneg _ (by omega)
      have a1 : cellAt ns 2 % 10 ^ 40 < 10 ^ 40 := Int.emod_lt_of_pos _ h40
      have a2 : (10 : Int) ^ 40 < 2 ^ 200 := by decide +kernel
      have a3 : (1000 : Int) < 2 ^ 200 := by decide +kernel
      intro x hx
      have : x = 0 ∨ x = 1 ∨ x = 2 ∨ x = hs.length ∨ x = dr ∨ x = cellAt ns 2 % 10 ^ 40 := by simpa [xs] using hx
      omega
    have hS4 := ex_l e4 hS3
    refine q_forNT (xs := ivs xs) (eu_tup (ea_cons ev_c (ea_cons ev_c (ea_cons ev_c (ea_cons (ev_var rfl) (ea_cons (ev_var rfl) (ea_cons (ev_op (ev_call (z := .int (cellAt ns 2)) (ea_cons (ev_var rfl) (ea_cons ev_c ea_nil)) fun H5 e5 Q5 q5 E => ⟨a, ns, 2, rfl, ex_l e5 hS4, q5⟩) (ev_op ev_c ev_c (rv_I ⟨by decide, by decide, by decide⟩)) (rv_I h40)) ea_nil)))))) (by show 6 ≤ 100000; decide))
      (fun i σ H' => ∃ y5 y6 y8 y9 y10 y11 y12, σ = [some (.ref a), some (.ref p), some (.ref pd), some (.int (hs.length : Int)), some (.ref ph), y5, y6, some (.int dr), y8, y9, y10, y11, y12, none, none, none] ∧ Ex H4 H')
      (fun H5 e5 => ⟨_, _, _, _, _, _, _, rfl, e5⟩) (fun i σ' H' ⟨_, _, _, _, _, _, _, _, e⟩ => e) ?_ ?_
    · rintro i x σ' H' hi ⟨y5, y6, y8, y9, y10, y11, y12, rfl, e⟩ N hN
      obtain ⟨m, hm, rfl, _, _⟩ := int_at hi
      obtain ⟨x0, x1⟩ := hxs m (List.mem_of_getElem? hm)
      have h4d := e _ _ (e4 _ _ h3d)
      have h4h := e _ _ (e4 _ _ h3h)
      have h4 := e _ _ (e4 _ _ h3)
      refine q_tup2 (x := .int 0) (y := .int 1) (ea_cons ev_c (ea_cons ev_c ea_nil)) fun H5 e5 => ?_
      refine q_forR1 (n := ((hs.length + 1 : Nat) : Int)) (ea_cons (ev_is (ev_op (ev_var rfl) ev_c rv_I0) (by rfl)) ea_nil) (by omega)
        (fun l σ H'' => ∃ y11, σ = [some (.ref a), some (.ref p), some (.ref pd), some (.int (hs.length : Int)), some (.ref ph), y5, y6, some (.int dr), some (.int m), some (.int (wholeS hs m l)), some (.int (ff m l)), y11, y12, none, none, none] ∧ Ex H' H'')
        (fun H6 e6 => ⟨_, rfl, e5.trans e6⟩) ?_ ?_
      · rintro l σ' H'' hlt ⟨y11, rfl, e6⟩
        have hat : (ivs (cl hs))[hs.length - l]? = some (.int (C hs (hs.length - l))) := by
          unfold ivs cl
          rw [List.getElem?_map, tab_get (by omega)]
          rfl
        have ffs := ff_small x0 x1 (n := l) (by omega)
        refine q_asg (v := .int (wholeS hs m (l + 1))) (ev_op (ev_var rfl) (ev_op (ev_op (ev_var rfl) (ev_op (ev_var rfl) (ev_var rfl) rv_I0) (rv_ixL (v := .int (C hs (hs.length - l))) (sq_of (e6 _ _ h4d)) (at_of (j := hs.length - l) (by omega) hat))) (ev_var rfl) (rv_I (wide_mul (C_bits fi.lt fi.len _) ffs (by decide) (by decide) (by decide)))) rv_I0) fun H7 e7 => ?_
        refine s_asg (v := .int (ff m (l + 1))) (ev_op (ev_var rfl) (ev_op (ev_var rfl) (ev_var rfl) rv_I0) (rv_I (wide_mul ffs (int_bits (a := 201) (by omega) (by omega)) (by decide) (by decide) (by decide)))) fun H8 e8 => ?_
        exact ⟨_, rfl, e6.trans (e7.trans e8)⟩
      · rintro σ' H'' ⟨y11, rfl, e6⟩
        have hw : wholeS hs m ((((hs.length + 1 : Nat) : Int)).toNat) = prodL m hs := whole_is m hs fi.st
        rw [hw]
        refine q_asg (v := .int (prodL m hs)) (ev_call (ea_cons (ev_var rfl) (ea_cons (ev_var rfl) ea_nil)) fun H7 e7 Q7 q7 E => ⟨ph, hs, m, rfl, sq_of (e7 _ _ (e6 _ _ h4h)), fi, x0, x1, q7⟩) fun H7 e7 => ?_
        have e07 := e6.trans e7
        refine s_when (b := false) (et_is (et_or (et_not (et_B (ev_call (ea_cons (ev_var rfl) ea_nil) (sv_whole_int _)))) fun _ => et_or (et_test (ev_op (ev_var rfl) (ev_var rfl) (rv_ne rfl))) fun _ => et_test (ev_op (ev_var rfl) (ev_var rfl) (rv_neI (sq_of (e07 _ _ h4h)) (sq_of (e07 _ _ h4))))) ?_) (fun z => nomatch z) fun _ H8 e8 => ?_
        · simp
        · exact hN _ _ ⟨_, _, _, _, _, _, _, rfl, (e.trans e07).trans e8⟩ (e07.trans e8)
    · rintro σ' H5 ⟨y5, y6, y8, y9, y10, y11, y12, rfl, e5⟩
      have h5h := e5 _ _ (e4 _ _ h3h)
      have h5 := e5 _ _ (e4 _ _ h3)
      -- without the last column
      refine q_whenK (b := !decide (hs = [])) (fun σ H6 => σ = [some (.ref a), some (.ref p), some (.ref pd), some (.int (hs.length : Int)), some (.ref ph), y5, y6, some (.int dr), y8, y9, y10, y11, y12, none, none, none] ∧ (∀ p o, p ≠ ph → H5 p = some o → H6 p = some o) ∧ H6 ph = some (.lst (ivs hs.dropLast)))
        (et_test (ev_opL (ev_var rfl) (el_lst (vs := ivs []) ea_nil (by decide)) fun p6 H6 h6 e6 => rv_neI (sq_of (e6 _ _ h5h)) (sq_of h6))) (fun hb H6 e6 N hN => s_pop (x := .int (hs.getLastD 0)) (e6 _ _ h5h) (ev_var rfl) ?hx fun H7 e7 => hN _ _ ⟨rfl, ?h1, ?h2⟩) (fun hb H6 e6 => ⟨rfl, fun p o np h => e6 _ _ h, ?h3⟩) ?key
      case hx =>
        have hne : hs ≠ [] := by simpa using hb
        unfold ivs
        rw [List.length_map, List.getElem?_map, ← List.getLast?_eq_getElem?, List.getLast?_eq_some_getLast hne]
        show some (V.int _) = some (V.int _)
        rw [List.getLastD_eq_getLast?, List.getLast?_eq_some_getLast hne]
        rfl
      case h1 =>
        intro p o np h
        rw [upd_ne np]
        exact e7 _ _ (e6 _ _ h)
      case h2 => rw [upd_same, ivs_dropLast]
      case h3 =>
        have hne : hs = [] := by simpa using hb
        rw [e6 _ _ h5h, hne]
        rfl
      case key =>
        rintro σ' H6 ⟨rfl, k6, h6h⟩
        have h6 := k6 _ _ npd h5
        have cS := sq_of (K := K) h6
        refine q_when (b := false) (et_is (et_test (ev_opLL (xs := ivs (cl hs.dropLast)) (ys := ivs (cl hs.dropLast)) (el_call (ea_cons (ev_var rfl) ea_nil) fun H7 e7 Q7 q7 E => ⟨ph, _, rfl, sq_of (e7 _ _ h6h), fi.dropLast, q7⟩)
          (el_callL (xs := ivs hs.dropLast) (el_is (el_sl (ev_var rfl) eo_none (eo_some (ev_un ev_c ru_neg)) cS) (by rw [← ivs_dropLast]; exact cutV_but1 _)) fun p7 H7 h7 e7 H8 e8 Q8 q8 E => ⟨p7, _, rfl, sq_of (e8 _ _ h7), fi.dropLast, q8⟩)
          fun p7 q7 H7 h7 h7' e7 => rv_neI (sq_of h7) (sq_of h7'))) (by simp)) (fun z => nomatch z) fun _ H7 e7 => ?_
        -- a few low ones
        have f7 := ex_l e7 cS
        let fs : List Int := srt ((hs.take 3).map fun h => h % 4)
        have fsl : fs.length ≤ 3 := by simp [fs, srt_len]; omega
        have fsb : ∀ h ∈ fs, 0 ≤ h ∧ h < 4 := fun h hh => by
          obtain ⟨c, _, rfl⟩ := List.mem_map.mp (srt_mem.mp hh)
          exact ⟨Int.emod_nonneg _ (by decide), Int.emod_lt_of_pos _ (by decide)⟩
        have fup : fs.Pairwise (· ≤ ·) := srt_up _
        refine q_asgL (xs := ivs fs) (el_sorted ?_) fun p8 H8 n8 e8 h8 => ?_
        · rw [List.map_map]
          refine el_intsN (fun h => .int (h % 4)) (el_is (el_sl (ev_var rfl) eo_none (eo_some ev_c) f7) ?_) (by rw [List.length_take]; omega) (fun _ => rfl) fun i n H8 e8 _ => ev_op (ev_var rfl) ev_c (rv_I (by decide))
          exact (cutV_to (ivs hs) 3).trans (by simp [ivs, List.map_take])
        have ft := tried_is fsl fsb fup
        have ffi : Fine fs := ⟨⟨fun h hh => (fsb h hh).1, fup⟩, fun h hh => Int.lt_trans (fsb h hh).2 (by decide +kernel), by omega⟩
        generalize fs = g at fsl fsb ft ffi h8 ⊢
        refine q_when (b := false) (et_is (et_test (ev_opLL (xs := ivs (cl g)) (ys := ivs (triedL g)) (el_call (ea_cons (ev_var rfl) ea_nil) fun H9 e9 Q9 q9 E => ⟨p8, g, rfl, sq_of (e9 _ _ h8), ffi, q9⟩)
          (el_call (ea_cons (ev_var rfl) ea_nil) fun H9 e9 Q9 q9 E => ⟨p8, g, rfl, sq_of (e9 _ _ h8), fsl, fsb, q9⟩) fun p9 q9 H9 h9 h9' e9 => rv_neI (sq_of h9) (sq_of h9'))) (by simp [ft])) (fun z => nomatch z) fun _ H9 e9 => ?_
        have fnil : Fine [] := ⟨.nil, by simp, by decide⟩
        refine s_ret (v := .bl true) (ev_is (ev_andV (ev_opLL (xs := ivs (cl [])) (ys := ivs [1]) (el_callL (xs := ivs []) (el_lst ea_nil (by decide)) fun p7 H7 h7 e7 H8 e8 Q8 q8 E => ⟨p7, [], rfl, sq_of (e8 _ _ h7), fnil, q8⟩) (el_lst (ea_cons ev_c ea_nil) (by decide)) fun p9 q9 H9 h9 h9' e9 => rv_eqI (sq_of h9) (sq_of h9'))
          fun _ => ev_op (ev_callL2 (xs := ivs []) (z := .int 1) (el_lst ea_nil (by decide)) ev_c fun p7 H7 h7 e7 H8 e8 Q8 q8 E => ⟨p7, [], 5, rfl, sq_of (e8 _ _ h7), fnil, by decide, by decide, q8⟩) ev_c (rv_eq rfl)) (by decide +kernel)) fun H10 e10 => q H10
end

end TS
namespace TS
open PySem PySem.Spec PyProof.Rows L2 Evl
local macro_rules | `(tactic| walk_at "ev") => `(tactic| repeat' (first
  | exact ev_c
  | exact ev_var rfl
  | exact ea_nil
  | refine ea_cons ?_ ?_
  | refine ev_op ?_ ?_ rv_I0
  | refine ev_op ?_ ?_ (rv_I ?_)
  | refine ev_op ?_ ?_ (rv_ne rfl)
  | refine ev_op ?_ ?_ (rv_eq rfl)
  | refine ev_un ?_ ru_neg
  | refine et_test ?_
  | refine et_B ?_
  | refine et_not ?_
  | refine ev_notV ?_
  | refine ev_max2 ?_ ?_))
set_option maxHeartbeats 0
def dD (x : Str) (st : Stmt) : He.DefD := ⟨(x, none), x, x, defArgs st, defBody st, defScope st, [], []⟩
def fnL : List He.DefD := [dD "is_whole" s_is_whole, dD "check_stairs" s_check_stairs, dD "check_count" s_check_count, dD "counts_of" s_counts_of, dD "counts" s_counts, dD "filled" s_filled, dD "_law_cell_at" s_l_cell_at, dD "_law_draw" s_l_draw, dD "_law_stairs" s_l_stairs, dD "_law_counts" s_l_counts, dD "_law_whole" s_l_whole, dD "_law_tried" s_l_tried, dD "law" s_law]
def faL : List He.Fa := [.glo "is_whole", .glo "check_stairs", .glo "check_count", .glo "counts_of", .glo "counts", .glo "filled", .glo "_law_cell_at", .glo "_law_draw", .glo "_law_stairs", .glo "_law_counts", .glo "_law_whole", .glo "_law_tried", .glo "law", .free "all", .free "bool", .free "enumerate", .free "int", .free "isinstance", .free "len", .free "list", .free "max", .free "range", .free "reversed", .free "sorted"]
abbrev RR : PySem.W.OpenRow := PySem.W.OpenLaw.row PySem.Challenge.rw_towerstair_k01_whole_counts
abbrev hkL : PySem.W.Hook := He.hookD 4 faL fnL
def obL (s : PySem.W.SharedT) : He.AlD := He.obsDG 4 faL fnL (HandSHeadRun.getT s)
theorem obL_eq (s : PySem.W.SharedT) : obL s = hkL.obs s.abs := He.obsDG_eq (HandSHeadRun.getT_eq s)
def namesL : List PySem.Str := (["StairError", "BadStairs", "BadCount", "is_whole", "check_stairs", "check_count", "counts_of", "counts", "filled", "_law_cell_at", "_law_draw", "_law_stairs", "_law_counts", "_law_towers", "_law_far", "_law_whole", "_law_tried"] : List PySem.Str)
theorem runL (w : World) : HandSHeadRun.RunEq RR (PySem.W.view RR.prog [20]) hkL obL 2000 namesL w := by
  intro os
  kernel_rfl
theorem factsL {P : Program} {w : World} {K : PySem.W.Frag} {h : Heap} {mg : Str → Option Value} {f : Addr} (X : K.In h) (G : h.Ns mainGlobals mg) (hfa : mg ("law" : Str) = some (.ref f)) (c : He.SaysD faL fnL K) :
    ∃ fd : FuncData, (∀ (s : Shared) (v : Value), BindsTo s fd ⟨[v], []⟩ [("_law_script", v)]) ∧ ∀ base : Heap, K.In base → base.Ns mainGlobals mg → FnOk P w K mg base CX0 4 f fd ["_law_script"] (spLaw K) := by
  obtain ⟨fd_is_whole, D_is_whole⟩ := c.def_ 0 (d := dD "is_whole" s_is_whole) rfl
  obtain ⟨fd_check_stairs, D_check_stairs⟩ := c.def_ 1 (d := dD "check_stairs" s_check_stairs) rfl
  obtain ⟨fd_check_count, D_check_count⟩ := c.def_ 2 (d := dD "check_count" s_check_count) rfl
  obtain ⟨fd_counts_of, D_counts_of⟩ := c.def_ 3 (d := dD "counts_of" s_counts_of) rfl
  obtain ⟨fd_counts, D_counts⟩ := c.def_ 4 (d := dD "counts" s_counts) rfl
  obtain ⟨fd_filled, D_filled⟩ := c.def_ 5 (d := dD "filled" s_filled) rfl
  obtain ⟨fd_l_cell_at, D_l_cell_at⟩ := c.def_ 6 (d := dD "_law_cell_at" s_l_cell_at) rfl
  obtain ⟨fd_l_draw, D_l_draw⟩ := c.def_ 7 (d := dD "_law_draw" s_l_draw) rfl
  obtain ⟨fd_l_stairs, D_l_stairs⟩ := c.def_ 8 (d := dD "_law_stairs" s_l_stairs) rfl
  obtain ⟨fd_l_counts, D_l_counts⟩ := c.def_ 9 (d := dD "_law_counts" s_l_counts) rfl
  obtain ⟨fd_l_whole, D_l_whole⟩ := c.def_ 10 (d := dD "_law_whole" s_l_whole) rfl
  obtain ⟨fd_l_tried, D_l_tried⟩ := c.def_ 11 (d := dD "_law_tried" s_l_tried) rfl
  obtain ⟨fd_law, D_law⟩ := c.def_ 12 (d := dD "law" s_law) rfl
  have F_is_whole : FnAt K mg "is_whole" "is_whole" s_is_whole := ⟨_, _, He.glo_ok X G (c.fact 0 (f := .glo "is_whole") rfl), D_is_whole⟩
  have F_check_stairs : FnAt K mg "check_stairs" "check_stairs" s_check_stairs := ⟨_, _, He.glo_ok X G (c.fact 1 (f := .glo "check_stairs") rfl), D_check_stairs⟩
  have F_check_count : FnAt K mg "check_count" "check_count" s_check_count := ⟨_, _, He.glo_ok X G (c.fact 2 (f := .glo "check_count") rfl), D_check_count⟩
  have F_counts_of : FnAt K mg "counts_of" "counts_of" s_counts_of := ⟨_, _, He.glo_ok X G (c.fact 3 (f := .glo "counts_of") rfl), D_counts_of⟩
  have F_counts : FnAt K mg "counts" "counts" s_counts := ⟨_, _, He.glo_ok X G (c.fact 4 (f := .glo "counts") rfl), D_counts⟩
  have F_filled : FnAt K mg "filled" "filled" s_filled := ⟨_, _, He.glo_ok X G (c.fact 5 (f := .glo "filled") rfl), D_filled⟩
  have F_l_cell_at : FnAt K mg "_law_cell_at" "_law_cell_at" s_l_cell_at := ⟨_, _, He.glo_ok X G (c.fact 6 (f := .glo "_law_cell_at") rfl), D_l_cell_at⟩
  have F_l_draw : FnAt K mg "_law_draw" "_law_draw" s_l_draw := ⟨_, _, He.glo_ok X G (c.fact 7 (f := .glo "_law_draw") rfl), D_l_draw⟩
  have F_l_stairs : FnAt K mg "_law_stairs" "_law_stairs" s_l_stairs := ⟨_, _, He.glo_ok X G (c.fact 8 (f := .glo "_law_stairs") rfl), D_l_stairs⟩
  have F_l_counts : FnAt K mg "_law_counts" "_law_counts" s_l_counts := ⟨_, _, He.glo_ok X G (c.fact 9 (f := .glo "_law_counts") rfl), D_l_counts⟩
  have F_l_whole : FnAt K mg "_law_whole" "_law_whole" s_l_whole := ⟨_, _, He.glo_ok X G (c.fact 10 (f := .glo "_law_whole") rfl), D_l_whole⟩
  have F_l_tried : FnAt K mg "_law_tried" "_law_tried" s_l_tried := ⟨_, _, He.glo_ok X G (c.fact 11 (f := .glo "_law_tried") rfl), D_l_tried⟩
  have e := hfa.symm.trans (He.glo_ok X G (c.fact 12 (f := .glo "law") rfl))
  cases e
  have m_all : mg "all" = none := He.free_ok X G (c.fact 13 (f := .free "all") rfl)
  have m_bool : mg "bool" = none := He.free_ok X G (c.fact 14 (f := .free "bool") rfl)
  have m_enumerate : mg "enumerate" = none := He.free_ok X G (c.fact 15 (f := .free "enumerate") rfl)
  have m_int : mg "int" = none := He.free_ok X G (c.fact 16 (f := .free "int") rfl)
  have m_isinstance : mg "isinstance" = none := He.free_ok X G (c.fact 17 (f := .free "isinstance") rfl)
  have m_len : mg "len" = none := He.free_ok X G (c.fact 18 (f := .free "len") rfl)
  have m_list : mg "list" = none := He.free_ok X G (c.fact 19 (f := .free "list") rfl)
  have m_max : mg "max" = none := He.free_ok X G (c.fact 20 (f := .free "max") rfl)
  have m_range : mg "range" = none := He.free_ok X G (c.fact 21 (f := .free "range") rfl)
  have m_reversed : mg "reversed" = none := He.free_ok X G (c.fact 22 (f := .free "reversed") rfl)
  have m_sorted : mg "sorted" = none := He.free_ok X G (c.fact 23 (f := .free "sorted") rfl)
  refine ⟨fd_law, fun s v => FunD.bindsA (ps := ["_law_script"]) D_law (fun _ _ _ _ _ _ us hl => match us, hl with | [_], _ => rfl) s [v] rfl, fun base KB GB => ?_⟩
  have G_is_whole := got_is_whole (P := P) (w := w) (base := base) F_is_whole m_isinstance m_int m_bool
  have G_check_stairs := got_check_stairs (P := P) (w := w) (base := base) F_check_stairs G_is_whole m_isinstance m_list m_all
  have G_check_count := got_check_count (P := P) (w := w) (base := base) F_check_count G_is_whole
  have G_counts_of := got_counts_of (P := P) (w := w) (base := base) F_counts_of m_len m_max m_range m_reversed
  have G_counts := got_counts (P := P) (w := w) (base := base) F_counts G_check_stairs G_counts_of
  have G_filled := got_filled (P := P) (w := w) (base := base) F_filled G_check_stairs G_check_count m_enumerate
  have G_l_cell_at := got_l_cell_at (P := P) (w := w) (base := base) F_l_cell_at m_len
  have G_l_draw := got_l_draw (P := P) (w := w) (base := base) F_l_draw
  have G_l_whole := got_l_whole (P := P) (w := w) (base := base) F_l_whole m_isinstance m_int m_bool
  have G_l_stairs := got_l_stairs (P := P) (w := w) (base := base) F_l_stairs G_l_cell_at G_l_draw m_len m_sorted m_range m_enumerate
  have G_l_counts := got_l_counts (P := P) (w := w) (base := base) F_l_counts m_len m_range m_reversed m_enumerate
  have G_l_tried := got_l_tried (P := P) (w := w) (base := base) F_l_tried m_len m_range
  exact ok_law D_law G_l_stairs G_l_counts G_counts G_filled G_l_whole G_l_cell_at G_l_draw G_l_tried m_len m_list m_range m_isinstance m_all m_sorted
end TS
open PySem PySem.W PySem.Calls PyProof.Rows
set_option maxHeartbeats 0 in
theorem PySem.Challenge.cw_towerstair_k01_whole_counts_holds : PySem.Challenge.rw_towerstair_k01_whole_counts.Holds := by
  w_on; o_law
  refine HandSHeadRun.head_any (r := OpenLaw.row PySem.Challenge.rw_towerstair_k01_whole_counts) (q := view (OpenLaw.row PySem.Challenge.rw_towerstair_k01_whole_counts).prog [20]) (H := TS.hkL) (ob := TS.obL) (M := 2000) (loose := TS.namesL) (d := HandSHeadRun.topDef (OpenLaw.row PySem.Challenge.rw_towerstair_k01_whole_counts).prog 20) (kwd := []) TS.obL_eq
    (by kernel_rfl) (fun s => by kernel_rfl) TS.runL (by kernel_rfl) (by kernel_rfl) (by kernel_rfl) (by rfl) (by first | assumption | decide +kernel) (by decide +kernel) ⟨rfl, rfl, rfl, rfl, rfl, by decide +kernel⟩ ?hw ?hc
  case hw => w_witness2
  case hc =>
    refine L2.walk_ofE (l := PySem.Challenge.rw_towerstair_k01_whole_counts) (n := 63) (k := 4) (x := "_law_script") (CX := L2.CX0) rfl (by decide) (by kernel_rfl) ⟨rfl, by decide, by decide⟩ ?F (fun _ _ _ _ z => z)
    intro w mg fa h Y G hmg0
    obtain ⟨K, KX, c⟩ := Y
    have hmg : mg ("law" : PySem.Str) = some (.ref fa) := by
      have e : (HandSHeadRun.topDef (OpenLaw.row PySem.Challenge.rw_towerstair_k01_whole_counts).prog 20).name = ("law" : PySem.Str) := by kernel_rfl
      rw [← e]
      exact hmg0
    obtain ⟨fd, hb, hF⟩ := TS.factsL (P := (PySem.Challenge.rw_towerstair_k01_whole_counts).prog) (w := w) KX G hmg c
    exact ⟨K, fd, TS.spLaw K, KX, hb, fun H a ns hl _ hS => ⟨a, ns, rfl, hS, hl, fun _ => rfl⟩, hF⟩

