import PyProof.Rows.All
import Wide.All
import OpenK.AllK
import Wide.FinOn
import KE.KSuper
import KE.RegKSuper
import KE.GoesEnum
import HandS.ForMost
import HandS.More
import HandS.Star
import HandS.MethStar
import HandS.Property
import HandS.ClsMeth
import HandS.IsInst
import HandS.Strs
import HandS.SetFor
import HandS.Wide
import HandS.Conv
import HandS.Walk
import HandS.Defaults
import HandS.Nested
import HandS.Flow
import PySem.Challenge.RW_nearswap_k81_whole_sorters_and_benches
set_option Elab.async false
set_option linter.all false
set_option maxRecDepth 100000
set_option maxHeartbeats 4000000
namespace NS

/-! ### steps on lists of ints -/
def stepAt (v : List Int) (i : Nat) : List Int :=
  if v.getD i 0 ≤ v.getD (i + 1) 0 then v else (v.set i (v.getD (i + 1) 0)).set (i + 1) (v.getD i 0)
def stepL (v : List Int) (s : Int) : List Int := stepAt v (s.toNat - 1)
/-- does the step exchange -/
def swp (v : List Int) (s : Int) : Bool := !decide (v.getD (s.toNat - 1) 0 ≤ v.getD (s.toNat - 1 + 1) 0)
def runL (steps v : List Int) : List Int := steps.foldl stepL v
def exN : List Int → List Int → Nat
  | [], _ => 0
  | s :: r, v => (if swp v s = true then 1 else 0) + exN r (stepL v s)
/-- all steps are steps for the width n -/
def StepsOk (n : Int) (steps : List Int) : Prop := ∀ s ∈ steps, 1 ≤ s ∧ s ≤ n - 1

theorem stepAt_len (v : List Int) (i : Nat) : (stepAt v i).length = v.length := by
  unfold stepAt
  split
  · rfl
  · rw [List.length_set, List.length_set]
theorem stepL_len (v : List Int) (s : Int) : (stepL v s).length = v.length := stepAt_len _ _
theorem runL_len (steps : List Int) : ∀ v : List Int, (runL steps v).length = v.length := by
  induction steps with
  | nil => intro v; rfl
  | cons s r ih => intro v; show (runL r (stepL v s)).length = _; rw [ih, stepL_len]
theorem runL_nil (v : List Int) : runL [] v = v := rfl
theorem runL_cons (s : Int) (r v : List Int) : runL (s :: r) v = runL r (stepL v s) := rfl
theorem runL_snoc (l : List Int) (s : Int) (v : List Int) : runL (l ++ [s]) v = stepL (runL l v) s := by
  unfold runL
  rw [List.foldl_append]
  rfl
theorem exN_snoc : ∀ (l : List Int) (s : Int) (v : List Int), exN (l ++ [s]) v = exN l v + (if swp (runL l v) s = true then 1 else 0)
  | [], s, v => by
    show (if swp v s = true then 1 else 0) + 0 = 0 + _
    rw [runL_nil]
    omega
  | a :: r, s, v => by
    show (if swp v a = true then 1 else 0) + exN (r ++ [s]) (stepL v a) = ((if swp v a = true then 1 else 0) + exN r (stepL v a)) + _
    rw [exN_snoc r s (stepL v a), runL_cons]
    omega
theorem exN_le : ∀ (l v : List Int), exN l v ≤ l.length
  | [], _ => Nat.le_refl _
  | a :: r, v => by
    have ih := exN_le r (stepL v a)
    show (if swp v a = true then 1 else 0) + exN r (stepL v a) ≤ r.length + 1
    split <;> omega
theorem take_snoc {l : List Int} {i : Nat} {s : Int} (h : l[i]? = some s) : l.take (i + 1) = l.take i ++ [s] := by
  rw [List.take_add_one, h]
  rfl
theorem StepsOk.nil {n : Int} : StepsOk n [] := fun s h => by cases h
theorem StepsOk.app {n : Int} {a b : List Int} (ha : StepsOk n a) (hb : StepsOk n b) : StepsOk n (a ++ b) := fun s h => by
  rcases List.mem_append.mp h with h | h
  · exact ha s h
  · exact hb s h
theorem StepsOk.one {n s : Int} (h1 : 1 ≤ s) (h2 : s ≤ n - 1) : StepsOk n [s] := fun t h => by
  rw [List.mem_singleton] at h
  subst h
  exact ⟨h1, h2⟩
theorem StepsOk.take {n : Int} {a : List Int} (ha : StepsOk n a) (k : Nat) : StepsOk n (a.take k) := fun s h => ha s (List.mem_of_mem_take h)
theorem StepsOk.drop {n : Int} {a : List Int} (ha : StepsOk n a) (k : Nat) : StepsOk n (a.drop k) := fun s h => ha s (List.mem_of_mem_drop h)

/-! ### domination -/
def cnt (v : List Int) (t : Int) (p : Nat) : Nat := ((v.take p).filter fun x => decide (x ≤ t)).length
theorem split2 {v : List Int} {i : Nat} (h : i + 1 < v.length) : ∃ a x y b, v = a ++ x :: y :: b ∧ a.length = i ∧ stepAt v i = if x ≤ y then v else a ++ y :: x :: b := by
  refine ⟨v.take i, v[i], v[i + 1], v.drop (i + 2), ?_, ?_, ?_⟩
  · have e1 : v.drop i = v[i] :: v.drop (i + 1) := List.drop_eq_getElem_cons (by omega)
    have e2 : v.drop (i + 1) = v[i + 1] :: v.drop (i + 1 + 1) := List.drop_eq_getElem_cons h
    rw [← e2, ← e1, List.take_append_drop]
  · rw [List.length_take]; omega
  · unfold stepAt
    have g1 : v.getD i 0 = v[i] := by rw [List.getD_eq_getElem?_getD, List.getElem?_eq_getElem (by omega)]; rfl
    have g2 : v.getD (i + 1) 0 = v[i + 1] := by rw [List.getD_eq_getElem?_getD, List.getElem?_eq_getElem h]; rfl
    rw [g1, g2]
    split
    · rfl
    · apply List.ext_getElem?
      intro j
      by_cases hj : j < i
      · rw [List.getElem?_set_ne (by omega), List.getElem?_set_ne (by omega), List.getElem?_append_left (by rw [List.length_take]; omega), List.getElem?_take_of_lt hj]
      · have hl : (v.take i).length = i := by rw [List.length_take]; omega
        rw [List.getElem?_append_right (by omega), hl]
        by_cases h0 : j = i
        · subst h0
          rw [List.getElem?_set_ne (by omega), List.getElem?_set_self (by omega), Nat.sub_self]
          rfl
        · by_cases h1 : j = i + 1
          · subst h1
            rw [List.getElem?_set_self (by rw [List.length_set]; omega), show i + 1 - i = 1 by omega]
            rfl
          · rw [List.getElem?_set_ne (by omega), List.getElem?_set_ne (by omega)]
            obtain ⟨k, rfl⟩ : ∃ k, j = i + 2 + k := ⟨j - (i + 2), by omega⟩
            rw [show i + 2 + k - i = k + 1 + 1 by omega, List.getElem?_cons_succ, List.getElem?_cons_succ, List.getElem?_drop]
def c1 (x t : Int) : Nat := if x ≤ t then 1 else 0
theorem cnt_app_le {a : List Int} (c : List Int) (t : Int) {p : Nat} (h : p ≤ a.length) : cnt (a ++ c) t p = cnt a t p := by
  unfold cnt
  rw [List.take_append_of_le_length h]
theorem cnt_app_add (a c : List Int) (t : Int) (k : Nat) : cnt (a ++ c) t (a.length + k) = cnt a t a.length + cnt c t k := by
  unfold cnt
  rw [List.take_length_add_append, List.filter_append, List.length_append, List.take_length]
theorem cnt_cons (x : Int) (c : List Int) (t : Int) (k : Nat) : cnt (x :: c) t (k + 1) = c1 x t + cnt c t k := by
  unfold cnt c1
  rw [List.take_succ_cons, List.filter_cons]
  by_cases h : x ≤ t
  · rw [if_pos (decide_eq_true h), if_pos h, List.length_cons]; omega
  · rw [if_neg (by simpa using h), if_neg h]; omega
theorem cnt_zero (c : List Int) (t : Int) : cnt c t 0 = 0 := by
  unfold cnt
  rw [List.take_zero]
  rfl
/-- a step changes the count at its own place alone -/
theorem cnt_step {v : List Int} {i : Nat} (h : i + 1 < v.length) (t : Int) (p : Nat) :
    cnt (stepAt v i) t p = if p = i + 1 then min (cnt v t i + 1) (cnt v t (i + 2)) else cnt v t p := by
  obtain ⟨a, x, y, b, e, hl, es⟩ := split2 h
  have e0 : cnt v t i = cnt a t a.length := by
    rw [e, ← hl, cnt_app_le _ _ (Nat.le_refl _)]
  have e1 : cnt v t (i + 1) = cnt a t a.length + c1 x t := by
    rw [e, ← hl, cnt_app_add, cnt_cons, cnt_zero]; omega
  have e2 : cnt v t (i + 2) = cnt a t a.length + (c1 x t + c1 y t) := by
    rw [e, ← hl, cnt_app_add, cnt_cons, cnt_cons, cnt_zero]; omega
  by_cases hp : p = i + 1
  · rw [if_pos hp, hp, e0, e2, es]
    by_cases hxy : x ≤ y
    · rw [if_pos hxy, e1]
      unfold c1
      split <;> split <;> omega
    · rw [if_neg hxy, ← hl, cnt_app_add, cnt_cons, cnt_zero]
      unfold c1
      split <;> split <;> omega
  · rw [if_neg hp, es]
    by_cases hxy : x ≤ y
    · rw [if_pos hxy]
    · rw [if_neg hxy, e]
      by_cases hle : p ≤ a.length
      · rw [cnt_app_le _ _ hle, cnt_app_le _ _ hle]
      · obtain ⟨k, rfl⟩ : ∃ k, p = a.length + (k + 2) := ⟨p - a.length - 2, by omega⟩
        rw [cnt_app_add, cnt_app_add, show k + 2 = k + 1 + 1 from rfl, cnt_cons, cnt_cons, cnt_cons, cnt_cons]
        omega
theorem cnt_succ_le (v : List Int) (t : Int) (p : Nat) : cnt v t (p + 1) ≤ cnt v t p + 1 := by
  unfold cnt
  rw [List.take_add_one, List.filter_append, List.length_append]
  have : ((v[p]?.toList).filter fun x => decide (x ≤ t)).length ≤ 1 := by
    refine Nat.le_trans (List.length_filter_le _ _) ?_
    cases v[p]? <;> simp
  omega
theorem cnt_le_succ (v : List Int) (t : Int) (p : Nat) : cnt v t p ≤ cnt v t (p + 1) := by
  unfold cnt
  rw [List.take_add_one, List.filter_append, List.length_append]
  omega
def Dom (v w : List Int) : Prop := ∀ t p, cnt w t p ≤ cnt v t p
theorem dom_refl (v : List Int) : Dom v v := fun _ _ => Nat.le_refl _
theorem dom_step {v w : List Int} {i : Nat} (d : Dom v w) (hv : i + 1 < v.length) (hw : i + 1 < w.length) : Dom (stepAt v i) (stepAt w i) := fun t p => by
  rw [cnt_step hv, cnt_step hw]
  have h1 := d t i
  have h2 := d t (i + 2)
  have h3 := d t p
  split <;> omega
theorem dom_skip {v w : List Int} {i : Nat} (d : Dom v w) (hv : i + 1 < v.length) : Dom (stepAt v i) w := fun t p => by
  rw [cnt_step hv]
  have h1 := d t i
  have h3 := d t p
  have h4 := cnt_succ_le w t i
  have h5 := d t (i + 2)
  have h6 := cnt_le_succ w t (i + 1)
  split
  · rename_i e
    subst e
    have h7 : cnt w t (i + 1 + 1) = cnt w t (i + 2) := rfl
    omega
  · exact h3

/-! ### leaving steps out -/
def keepFrom (F : Int → Bool) : Nat → List Int → List Int
  | _, [] => []
  | k, s :: r => if F (k : Int) = true then keepFrom F (k + 1) r else s :: keepFrom F (k + 1) r
def keep (fs steps : List Int) : List Int := keepFrom (fun k => decide (k ∈ fs)) 0 steps
theorem keepFrom_snoc (F : Int → Bool) : ∀ (l : List Int) (k : Nat) (s : Int), keepFrom F k (l ++ [s]) = keepFrom F k l ++ (if F ((k + l.length : Nat) : Int) = true then [] else [s])
  | [], k, s => by
    show (if F (k : Int) = true then keepFrom F (k + 1) [] else s :: keepFrom F (k + 1) []) = _
    rfl
  | a :: r, k, s => by
    show (if F (k : Int) = true then keepFrom F (k + 1) (r ++ [s]) else a :: keepFrom F (k + 1) (r ++ [s])) = (if F (k : Int) = true then keepFrom F (k + 1) r else a :: keepFrom F (k + 1) r) ++ _
    have e : k + (a :: r).length = k + 1 + r.length := by rw [List.length_cons]; omega
    rw [e, keepFrom_snoc F r (k + 1) s]
    by_cases h : F (k : Int) = true
    · rw [if_pos h, if_pos h]
    · rw [if_neg h, if_neg h, List.cons_append]
theorem keep_snoc (fs : List Int) {l : List Int} {i : Nat} {s : Int} (h : l[i]? = some s) : keep fs (l.take (i + 1)) = keep fs (l.take i) ++ (if decide ((i : Int) ∈ fs) = true then [] else [s]) := by
  unfold keep
  rw [take_snoc h, keepFrom_snoc]
  have e : (l.take i).length = i := by
    have := (List.getElem?_eq_some_iff.mp h).1
    rw [List.length_take]; omega
  rw [e, Nat.zero_add]
theorem keepFrom_mem (F : Int → Bool) : ∀ (l : List Int) (k : Nat) (s : Int), s ∈ keepFrom F k l → s ∈ l
  | [], _, _, h => by cases h
  | a :: r, k, s, h => by
    unfold keepFrom at h
    by_cases hf : F (k : Int) = true
    · rw [if_pos hf] at h
      exact List.mem_cons_of_mem _ (keepFrom_mem F r (k + 1) s h)
    · rw [if_neg hf] at h
      rcases List.mem_cons.mp h with h | h
      · rw [h]; exact List.mem_cons_self
      · exact List.mem_cons_of_mem _ (keepFrom_mem F r (k + 1) s h)
theorem keepFrom_len (F : Int → Bool) : ∀ (l : List Int) (k : Nat), (keepFrom F k l).length ≤ l.length
  | [], _ => Nat.le_refl _
  | a :: r, k => by
    have ih := keepFrom_len F r (k + 1)
    unfold keepFrom
    by_cases hf : F (k : Int) = true
    · rw [if_pos hf, List.length_cons]; omega
    · rw [if_neg hf, List.length_cons, List.length_cons]; omega
theorem keep_ok {n : Int} {steps : List Int} (fs : List Int) (h : StepsOk n steps) : StepsOk n (keep fs steps) := fun s hs => h s (keepFrom_mem _ _ _ _ hs)
theorem keep_len (fs steps : List Int) : (keep fs steps).length ≤ steps.length := keepFrom_len _ _ _
theorem keepFrom_none (F : Int → Bool) (hF : ∀ k, F k = false) : ∀ (l : List Int) (k : Nat), keepFrom F k l = l
  | [], _ => rfl
  | a :: r, k => by
    unfold keepFrom
    rw [if_neg (by rw [hF]; decide), keepFrom_none F hF r (k + 1)]
theorem keep_nil (steps : List Int) : keep [] steps = steps := keepFrom_none _ (fun k => by simp) _ _
theorem dom_run (F : Int → Bool) (n : Nat) : ∀ (steps : List Int) (k : Nat) (v w : List Int), StepsOk (n : Int) steps → v.length = n → w.length = n → Dom v w → Dom (runL steps v) (runL (keepFrom F k steps) w)
  | [], _, v, w, _, _, _, d => d
  | s :: r, k, v, w, h, hv, hw, d => by
    have hs := h s List.mem_cons_self
    have hr : StepsOk (n : Int) r := fun t ht => h t (List.mem_cons_of_mem _ ht)
    have i1 : s.toNat - 1 + 1 < v.length := by omega
    have i2 : s.toNat - 1 + 1 < w.length := by omega
    unfold keepFrom
    by_cases hf : F (k : Int) = true
    · rw [if_pos hf, runL_cons]
      exact dom_run F n r (k + 1) _ _ hr (by rw [stepL_len]; exact hv) hw (dom_skip d i1)
    · rw [if_neg hf, runL_cons, runL_cons]
      exact dom_run F n r (k + 1) _ _ hr (by rw [stepL_len]; exact hv) (by rw [stepL_len]; exact hw) (dom_step d i1 i2)
theorem dom_keep (fs : List Int) {n : Nat} {steps v : List Int} (h : StepsOk (n : Int) steps) (hv : v.length = n) : Dom (runL steps v) (runL (keep fs steps) v) :=
  dom_run _ n steps 0 v v h hv hv (dom_refl v)

/-! ### strictly ascending lists with the same members -/
theorem asc_eq : ∀ {a b : List Int}, a.Pairwise (· < ·) → b.Pairwise (· < ·) → (∀ k, k ∈ a ↔ k ∈ b) → a = b
  | [], [], _, _, _ => rfl
  | [], y :: b, _, _, h => by
    have := (h y).mpr List.mem_cons_self
    cases this
  | x :: a, [], _, _, h => by
    have := (h x).mp List.mem_cons_self
    cases this
  | x :: a, y :: b, ha, hb, h => by
    have ha' := List.pairwise_cons.mp ha
    have hb' := List.pairwise_cons.mp hb
    have e : x = y := by
      have h1 := (h x).mp List.mem_cons_self
      have h2 := (h y).mpr List.mem_cons_self
      rcases List.mem_cons.mp h1 with h1 | h1
      · exact h1
      · rcases List.mem_cons.mp h2 with h2 | h2
        · exact h2.symm
        · have q1 := ha'.1 y h2
          have q2 := hb'.1 x h1
          omega
    subst e
    have e2 : a = b := asc_eq ha'.2 hb'.2 fun k => by
      constructor
      · intro hk
        have q := ha'.1 k hk
        rcases List.mem_cons.mp ((h k).mp (List.mem_cons_of_mem _ hk)) with z | z
        · omega
        · exact z
      · intro hk
        have q := hb'.1 k hk
        rcases List.mem_cons.mp ((h k).mpr (List.mem_cons_of_mem _ hk)) with z | z
        · omega
        · exact z
    rw [e2]

/-! ### changes of a bench -/
inductive Ch where
  | add (l : List Int) | place (i : Nat) (s : Int) | drop (i : Nat)
def Ch.ok (n : Int) (steps : List Int) : Ch → Prop
  | .add l => l.length ≤ 2 ∧ StepsOk n l
  | .place i s => i ≤ steps.length ∧ 1 ≤ s ∧ s ≤ n - 1
  | .drop i => i < steps.length
def Ch.new (steps : List Int) : Ch → List Int
  | .add l => steps ++ l
  | .place i s => steps.take i ++ [s] ++ steps.drop i
  | .drop i => steps.take i ++ steps.drop (i + 1)
theorem Ch.new_ok {n : Int} {steps : List Int} (h : StepsOk n steps) : ∀ {c : Ch}, c.ok n steps → StepsOk n (c.new steps)
  | .add _, k => h.app k.2
  | .place i _, k => ((h.take i).app (.one k.2.1 k.2.2)).app (h.drop i)
  | .drop i, _ => (h.take i).app (h.drop (i + 1))
theorem Ch.new_len {n : Int} {steps : List Int} : ∀ {c : Ch}, c.ok n steps → (c.new steps).length ≤ steps.length + 2
  | .add _, k => by
    show (steps ++ _).length ≤ _
    rw [List.length_append]
    have := k.1
    omega
  | .place i s, k => by
    show (steps.take i ++ [s] ++ steps.drop i).length ≤ _
    rw [List.length_append, List.length_append, List.length_take, List.length_drop, List.length_singleton]
    omega
  | .drop i, k => by
    show (steps.take i ++ steps.drop (i + 1)).length ≤ _
    rw [List.length_append, List.length_take, List.length_drop]
    omega
end NS
namespace NS
open PySem PySem.Spec PyProof.Rows L2

/-! ### a def, a method, a class, a property by a positional promise -/
section
variable (P : Program) (w : World) (K : PySem.W.Frag) (mg : Str → Option Value) (base : Heap)
structure DefOk (k : Nat) (x : Str) (sp : Sp) : Prop where
  ex : ∃ f, mg x = some (.ref f) ∧ PySem.W.keepIn K (.ref f) = true ∧ FnR P w K mg base CX0 k f sp
structure MetOk (k : Nat) (C : Addr) (m : Str) (sp : Sp) : Prop where
  cl : Cls K C
  ex : ∃ f, Meth K C m f ∧ FnR P w K mg base CX0 k f sp
structure MakOk (k : Nat) (x : Str) (C : Addr) (sp : Sp) : Prop where
  nm : mg x = some (.ref C)
  ex : ∃ f, Mk K C f ∧ FnR P w K mg base CX0 k f sp
structure PrpOk (k : Nat) (C : Addr) (f : Str) (sp : Sp) : Prop where
  cl : Cls K C
  ex : ∃ p g, PropOf K C f p g ∧ FnR P w K mg base CX0 k g sp
end
theorem FnOk.r {P : Program} {w : World} {K : PySem.W.Frag} {mg : Str → Option Value} {base : Heap} {k : Nat} {f : Addr} {fd : FuncData} {ps : List Str} {sp : Sp} (F : FnOk P w K mg base CX0 k f fd ps sp) (hb : Binds K fd ps []) :
    FnR P w K mg base CX0 k f sp :=
  (F.raw hb (dvs := []) .nil).imp fun vs H Q E h => by rw [List.append_nil]; exact h

section
variable {X : Cx} {k j : Nat} {C : Addr} {x m : Str} {sp : Sp} {p pos apos : Pos} {e o : Expr} {es : List Expr} {ta : TE} {t : TA}
def tCallD (sp : Sp) (t : TA) : TE := fun σ H Q => t σ H fun vs H1 => sp vs H1 Q E0
theorem pe_d (c : DefOk X.prog X.w X.K X.mg X.base k x sp) (hr : Room j X.A) (hk : k ≤ j) (hg : Gl X x) (ha : PA X (e :: es) t)
    (hdb : (x == ("__debug__" : Str)) = false := by decide) (he : starEach (e :: es) X.env = (false, eval e X.env) :: starEach es X.env := by rfl) (hpl : (backTo pos (starEach es X.env)).any (·.1) = false := by rfl) :
    PE X (.Call (.Name x p) (e :: es) [] pos) (tCallD sp t) := by
  obtain ⟨f, hm, kp, F⟩ := c.ex
  refine ⟨fun pins s σ H Q I h => ?_⟩
  refine wpAny_Call_Name_kw (ld_glob I hg hm ?_ hdb)
  refine PySem.W.callWith_K (h₀ := X.base) I.ok.mod.kin kp (thn (ha.run pos pins s σ H _ I h) fun us s1 ⟨vs, H1, I1, r, q⟩ => ⟨I1.kIn, ?_⟩) he hpl
  exact wpAny_call (run_fnR F (hr.mono hk) pass0 I1 r q)
def tMetD (C : Addr) (m : Str) (sp : Sp) (ta : TE) (t : TA) : TE := fun σ H Q => ta σ H fun x H1 => ∃ a dx fs, x = .ref a ∧ H1 a = some (.ins C dx fs) ∧ fs.lookup m = none ∧
  t σ H1 fun vs H2 => sp (x :: vs) H2 Q E0
theorem pe_m {pl : Sem Bool} (c : MetOk X.prog X.w X.K X.mg X.base k C m sp) (hr : Room j X.A) (hk : k ≤ j) (he : PE X o ta) (ha : PA X (e :: es) t)
    (hst : starEach (e :: es) X.env = (false, eval e X.env) :: starEach es X.env := by rfl) (hpl : (backTo pos (starEach es X.env)).any (·.1) = false := by rfl)
    (ht : eval (.Call (.Attribute o m apos) (e :: es) [] pos) X.env = (do
      let ov ← eval o X.env
      standAt apos.atName
      let (f, first) ← holding [ov] (getMethod ov m pl)
      callWith pos f first (backTo pos (starEach (e :: es) X.env)) (backToKw pos (keywordEach [] X.env))) := by rfl) :
    PE X (.Call (.Attribute o m apos) (e :: es) [] pos) (tMetD C m sp ta t) := by
  obtain ⟨f, hm, F⟩ := c.ex
  refine ⟨fun pins s σ H Q I h => ?_⟩
  refine PySem.W.methodCall_KW (pl := pl) (thn (he.run pins s σ H _ I h) fun u s1 ⟨x, H1, I1, rx, a, dx, fs, ex, ea, l, q⟩ => ?_) ht
  subst ex
  obtain rfl : u = Value.ref a := rx
  refine getmeth_ok I1 ea c.cl hm l ?_
  refine PySem.W.callWith_K (first := [.ref a]) (h₀ := X.base) I.ok.mod.kin hm.kp (thn (ha.run pos pins s1 σ H1 _ I1 q) fun us s2 ⟨vs, H2, I2, r, q2⟩ => ⟨I2.kIn, ?_⟩) hst hpl
  exact wpAny_call (run_fnR (us := .ref a :: us) (vs := .ref a :: vs) F (hr.mono hk) pass0 I2 (.cons rfl r) q2)
theorem pe_m0 {pl : Sem Bool} (c : MetOk X.prog X.w X.K X.mg X.base k C m sp) (hr : Room j X.A) (hk : k ≤ j) (he : PE X o ta)
    (ht : eval (.Call (.Attribute o m apos) [] [] pos) X.env = (do
      let ov ← eval o X.env
      standAt apos.atName
      let (f, first) ← holding [ov] (getMethod ov m pl)
      callWith pos f first (backTo pos (starEach [] X.env)) (backToKw pos (keywordEach [] X.env))) := by rfl) :
    PE X (.Call (.Attribute o m apos) [] [] pos) (tMetD C m sp ta tNil) := by
  obtain ⟨f, hm, F⟩ := c.ex
  refine ⟨fun pins s σ H Q I h => ?_⟩
  refine PySem.W.methodCall_KW (pl := pl) (thn (he.run pins s σ H _ I h) fun u s1 ⟨x, H1, I1, rx, a, dx, fs, ex, ea, l, q⟩ => ?_) ht
  subst ex
  obtain rfl : u = Value.ref a := rx
  refine getmeth_ok I1 ea c.cl hm l ?_
  exact PySem.W.callWith_K0 (first := [.ref a]) I1.kIn hm.kp (wpAny_call (run_fnR (us := [.ref a]) (vs := [.ref a]) F (hr.mono hk) pass0 I1 (.cons rfl .nil) q))
def tMakD (C : Addr) (sp : Sp) (t : TA) : TE := fun σ H Q => t σ H fun vs H1 => ∀ x dx, H1 x = Option.none → H1 dx = Option.none → dx ≠ x →
  sp (V.ref x :: vs) (upd (upd H1 dx (.own x)) x (.ins C dx [])) (fun v H2 => v = .non ∧ Q (.ref x) H2) E0
theorem pe_k (c : MakOk X.prog X.w X.K X.mg X.base k x C sp) (hr : Room j X.A) (hk : k + 1 ≤ j) (hg : Gl X x) (ha : PA X (e :: es) t) (hdb : (x == ("__debug__" : Str)) = false := by decide)
    (he : starEach (e :: es) X.env = (false, eval e X.env) :: starEach es X.env := by rfl) (hpl : (backTo pos (starEach es X.env)).any (·.1) = false := by rfl) : PE X (.Call (.Name x p) (e :: es) [] pos) (tMakD C sp t) := by
  obtain ⟨f, M, F⟩ := c.ex
  exact StX.pe_makeR M F (hr.mono hk) hg c.nm pass0 ha hdb he hpl
/-- x(e, ..), x a local name that holds the class at C -/
def tMakL (i : Nat) (C : Addr) (sp : Sp) (t : TA) : TE := fun σ H Q => σ[i]? = some (some (.ref C)) ∧ tMakD C sp t σ H Q
theorem pe_kL {y : Str} {i : Nat} (c : MakOk X.prog X.w X.K X.mg X.base k y C sp) (hr : Room j X.A) (hk : k + 1 ≤ j) (hN : X.N[i]? = some x) (hv : Vis X.env.scope x) (ha : PA X (e :: es) t) (hd : (x == ("__debug__" : Str)) = false := by decide) (hcd : (x == ("__classdict__" : Str)) = false := by decide)
    (he : starEach (e :: es) X.env = (false, eval e X.env) :: starEach es X.env := by rfl) (hpl : (backTo pos (starEach es X.env)).any (·.1) = false := by rfl) : PE X (.Call (.Name x p) (e :: es) [] pos) (tMakL i C sp t) := by
  obtain ⟨f, M, F⟩ := c.ex
  refine ⟨fun pins s σ H Q I h => ?_⟩
  obtain ⟨hs, h⟩ := h
  refine wpAny_Call_Name_kw (thn ((pe_var (pos := p) hN hv hd hcd).run pins s σ H (fun v H1 => v = .ref C ∧ H1 = H) I ⟨.ref C, hs, rfl, rfl⟩) fun u s1 ⟨v, H1, I1, r1, q1⟩ => ?_)
  obtain ⟨rfl, rfl⟩ := q1
  cases r1
  refine PySem.W.callWith_K (h₀ := X.base) I.ok.mod.kin M.kp (thn (ha.run pos pins s1 σ _ _ I1 h) fun us s2 ⟨vs, H2, I2, r, q⟩ => ⟨I2.kIn, ?_⟩) he hpl
  exact StX.run_makeR M F (hr.mono hk) pass0 I2 r q
/-- e.f, a property -/
def tPrpD (C : Addr) (sp : Sp) (ta : TE) : TE := fun σ H Q => ta σ H fun x H1 => ∃ a dx fs, x = .ref a ∧ H1 a = some (.ins C dx fs) ∧ sp [.ref a] H1 Q E0
theorem pe_p {f : Str} (c : PrpOk X.prog X.w X.K X.mg X.base k C f sp) (hr : Room j X.A) (hk : k + 1 ≤ j) (he : PE X e ta)
    (hab : attributeBase e f X.env (eval e X.env) = eval e X.env := by rfl) : PE X (.Attribute e f pos) (tPrpD C sp ta) := by
  obtain ⟨p, g, hp, F⟩ := c.ex
  refine ⟨fun pins s σ H Q I h => ?_⟩
  refine attr_of hab (thn (he.run pins s σ H _ I h) fun u s1 ⟨x, H1, I1, rx, a, dx, fs, ex, ea, q⟩ => ?_)
  subst ex
  obtain rfl : u = Value.ref a := rx
  obtain ⟨mA, O, _, _, _, _⟩ := ins_get I1.hok ea
  obtain ⟨od, J, _⟩ := O.look
  obtain ⟨rest, hrec⟩ := hp.rec_
  have I2 := I1.tok (s1.toks + 1)
  have hc : (PySem.W.clsIn X.K C).isSome = true := by
    obtain ⟨cd, hc, _⟩ := PySem.W.any_some c.cl.hd
    rw [hc]
    rfl
  refine PySem.W.get_bind I1.kIn J (PySem.W.plainGet_of (c.cl.get f)).1 (PySem.W.findObj_data hc hp.at_ hp.get hp.tak) (PySem.W.plainGet_of (c.cl.get f)).2 (wpAny_call (PySem.W.prop_get (s := { s1 with toks := s1.toks + 1 }) I1.kIn hrec ?_))
  refine codeAny_mono (F X.A.in1 X.stack { s1 with toks := s1.toks + 1 } H1 [.ref a] [.ref a] Q E0 (hr.mono hk).in1 I2.env0.in1 (.cons rfl .nil) q) fun r s' hq => ?_
  cases r with
  | error er => exact False.elim hq
  | ok fl =>
    cases fl with
    | ret u =>
      obtain ⟨v, H', I3, rv, q3⟩ := I2.after hq
      show wpAny _ _ (handedOut u) _ _ _
      rw [PySem.W.handedOut_of (handed_of rv)]
      exact wpAny_pure ⟨v, H', I3, rv, q3⟩
    | next => exact False.elim hq
    | brk => exact False.elim hq
    | cont => exact False.elim hq
/-- len(o), o an instance whose class has __len__ -/
def rLenO (C : Addr) (sp : Sp) : List V → Hp → VK → Prop := fun xs H Q => ∃ a dx fs, xs = [.ref a] ∧ H a = some (.ins C dx fs) ∧ sp [.ref a] H (fun v H' => ∃ n : Int, v = .int n ∧ 0 ≤ n ∧ n < 2 ^ 63 ∧ Q (.int n) H') E0
theorem call_lenO (c : MetOk X.prog X.w X.K X.mg X.base k C "__len__" sp) (hr : Room j X.A) (hk : k + 1 ≤ j) : CallR X (.builtin "len") (rLenO C sp) := by
  obtain ⟨f, hm, F⟩ := c.ex
  intro pins s σ H xs us Q I r h
  obtain ⟨a, dx, fs, rfl, ha, q⟩ := h
  obtain ⟨u, rfl, ru⟩ := vals1 r
  cases ru
  obtain ⟨mA, O, _, _, _, _⟩ := ins_get I.hok ha
  obtain ⟨od, J, _⟩ := O.look
  obtain ⟨m, hf⟩ := I.fr
  refine PySem.W.len_K (L := X.env.locals) hf I.mod.kin J hm.at_ hm.fn ?_
  refine wpAny_call (codeAny_mono (F X.A.in1 X.stack s H [.ref a] [.ref a] _ E0 (hr.mono hk).in1 I.env0.in1 (.cons rfl .nil) q) fun r s' hq => ?_)
  cases r with
  | error er => exact False.elim hq
  | ok fl =>
    cases fl with
    | ret u =>
      obtain ⟨v, H', I3, rv, n, ev, h0, h1, q3⟩ := I.after hq
      subst ev
      obtain ⟨t, rfl⟩ := rv
      exact ⟨⟨h0, h1⟩, .int n, H', I3.tok _, ⟨_, rfl⟩, q3⟩
    | next => exact False.elim hq
    | brk => exact False.elim hq
    | cont => exact False.elim hq
/-- o.f as a target -/
def gFld (K : PySem.W.Frag) (ta : TE) (f : Str) : TG := fun v σ H Q => ta σ H fun x H1 => ∃ a C dx fs, x = .ref a ∧ H1 a = some (.ins C dx fs) ∧ Cls K C ∧ NoAttr K C f ∧ fs.length < 1000 ∧ Q σ (upd H1 a (.ins C dx (putF f v fs)))
theorem pg_fld {f : Str} (ho : PE X o ta)
    (ha : ∀ v, assign (.Attribute o f pos) X.env v = (do
      let ov ← holding [v] (eval o X.env)
      standAt pos.atName
      holding [v, ov] (setAttr ov f v)
      release [v, ov] []) := by intro _; rfl) : PG X (.Attribute o f pos) (gFld X.K ta f) := by
  refine ⟨fun pins s σ H v u Q I r h => ?_⟩
  rw [ha]
  refine wpAny_bind (wpAny_holding (thn (ho.run pins s σ H _ I h) fun ov s1 ⟨x, H1, I1, r1, a, C, dx, fs, ex, ea, c, n, l, q⟩ => ?_))
  subst ex
  obtain rfl : ov = Value.ref a := r1
  refine wpAny_bind (wpAny_standAt (wpAny_bind (wpAny_holding (setattr_ok I1 ea c n l r fun s2 I2 => ?_))))
  exact wpAny_release ⟨σ, _, I2, q⟩
/-- set(t) of a tuple of ints -/
def rSetT (K : PySem.W.Frag) (w : World) : List V → Hp → VK → Prop := fun xs H Q => ∃ (p : Addr) (ns : List Int), xs = [.ref p] ∧ SqT K H p (ns.map V.int) ∧ ns.length ≤ 60 ∧
  ∀ (q : Addr) (c : Nat), H q = none → c ≤ ns.length → Q (.ref q) (upd H q (SetO w q (fun j => decide (j ∈ ns)) c))
theorem call_setT (hc : X.calm = true) : CallR X (.type "set") (rSetT X.K X.w) := by
  intro pins s σ H xs us Q I r h
  obtain ⟨p, ns, rfl, hs, hl, q⟩ := h
  obtain ⟨u, rfl, ru⟩ := vals1 r
  cases ru
  obtain ⟨its, rv, ht, hz⟩ := I.tuple hs
  have hi := ints_of_vals rv
  refine call_set_tupI ns (I.ok.hd hc) ht (by simpa using hi) (by unfold scanBound; omega) fun h' tk c R hcn hk => ?_
  have I2 : Inv X pins σ (upd H s.heap.objs.size (SetO X.w s.heap.objs.size (fun j => decide (j ∈ ns)) c)) { s with heap := h', toks := tk } :=
    I.laid (t' := tk) hk (Nat.le_refl _) (setO_new R)
  exact ⟨.ref _, _, I2, rfl, q _ c (I.hok.fresh (Nat.le_refl _)) hcn⟩
end
end NS
namespace NS
open PySem PySem.Spec PyProof.Rows L2

/-! ### enumerate(tuple) -/
theorem meets_enumerate_new1 {v : Value} {o : Obj} {H : Heap → Prop} (B : Begins v o H) :
    Meets (Builtin.«enumerate.__new__» ⟨[.type "enumerate", v], []⟩) (fun _ R s => H s.heap ∧
      R (.ok (.ret (.ref (s.heap.push o).objs.size))) { s with heap := (s.heap.push o).push { cls := .type "enumerate", data := .fields #[.none, .bool false, .ref s.heap.objs.size, rawInt 0, .none, .none] } }) :=
  .of_wp fun prog w A R s h => by
    obtain ⟨hp, g, d, tk, os⟩ := s; obtain ⟨h1, h⟩ := h
    have hsub := sub_enumerate
    have q1 : ∀ {A' : Around} {E : Value → Shared → Prop} {Q : Value → Shared → Prop}, Q (.ref hp.objs.size) ⟨hp.push o, g, d, tk, os⟩ → wpAny (model prog w) A' (pyIter v) Q E ⟨hp, g, d, tk, os⟩ :=
      fun q => B.iter prog w _ _ ⟨hp, g, d, tk, os⟩ _ h1 q
    wp_walk using q1
    refine wpAny_stack_any fun st => wpAny_pure ?_
    split
    · rename_i c _ _ _ _ _
      cases (c == Value.type "enumerate")
      · wp_walk using q1
        exact ⟨_, rfl, h⟩
      · wp_walk using q1
        exact ⟨_, rfl, h⟩
    · wp_walk using q1
      exact ⟨_, rfl, h⟩
theorem enum_begins1 {prog : Program} {w : World} {A : Around} {E : Value → Shared → Prop} {s : Shared} {v : Value} {o : Obj} {H : Heap → Prop} {Q : Value → Shared → Prop} (B : Begins v o H) (h1 : H s.heap)
    (h : ∀ h', IsEnum h' (s.heap.objs.size + 1) s.heap.objs.size 0 .none → h'.get? s.heap.objs.size = some o → h'.objs.size = s.heap.objs.size + 2 →
      (∀ b o, s.heap.get? b = some o → h'.get? b = some o) → Q (.ref (s.heap.objs.size + 1)) { s with heap := h' }) :
    wpAny (model prog w) A (call (.type "enumerate") [v]) Q E s := by
  refine callType_new PySem.F.called_enumerate (by decide) (PySem.F.typeCall_enumerate_1 _) (PySem.F.newCall_enumerate_1 _) (fun obj => PySem.F.args_object_init_2 obj _) PySem.F.entry_enumerate_new
    (meets_enumerate_new1 B) ⟨h1, ?_⟩
  have hz : (s.heap.push o).objs.size = s.heap.objs.size + 1 := Heap.size_push ..
  show _ ∧ _
  rw [hz]
  have he : IsEnum ((s.heap.push o).push { cls := .type "enumerate", data := .fields #[.none, .bool false, .ref s.heap.objs.size, rawInt 0, .none, .none] }) (s.heap.objs.size + 1) s.heap.objs.size 0 .none := by
    have := Heap.get?_push_size (s.heap.push o) (o := { cls := .type "enumerate", data := .fields #[.none, .bool false, .ref s.heap.objs.size, rawInt 0, .none, .none] }) rfl
    rw [hz] at this; exact this
  refine ⟨⟨_, he, rfl⟩, h _ he (Heap.get?_push_of_some _ (Heap.get?_push_size _ B.free)) (by rw [Heap.size_push, hz]) fun b o x => Heap.get?_push_of_some _ (Heap.get?_push_of_some _ x)⟩

/-- the tuple at a, each item in a new pair -/
def IteT (K : PySem.W.Frag) (a : Addr) : It :=
  ⟨fun i H => ∃ (xs : List V) (x : V), SqT K H a xs ∧ xs[i]? = some x, fun i H v H' => ∃ T x, v = .ref T ∧ H T = none ∧ H' = upd H T (.tup [.int (i : Nat), x]) ∧ ∀ xs, SqT K H a xs → xs[i]? = some x, fun i H => ∃ xs : List V, SqT K H a xs ∧ xs.length = i⟩
theorem tup_of {h : Heap} {a : Addr} {xs : Array Value} (p : IsTup h a xs) : h.IsTuple a xs := p
theorem enum_ne_tup {h : Heap} {e it a : Addr} {c : Int} {old : Value} {xs : Array Value} (he : IsEnum h e it c old) (p : IsTup h a xs) : e ≠ a := by
  rintro rfl
  obtain ⟨o, ho, hc, _⟩ := p
  have he' : h.get? e = some _ := he
  rw [he'] at ho
  cases ho
  exact absurd hc (by simp)
theorem iter_ne_tup {h : Heap} {it a : Addr} {i : Nat} {xs : Array Value} (he : h.IsTupleIter it a i) (p : IsTup h a xs) : a ≠ it := by
  rintro rfl
  obtain ⟨o, ho, hc, _⟩ := p
  obtain ⟨o', ho', hc', _⟩ := he
  rw [ho] at ho'
  cases ho'
  rw [hc] at hc'
  exact absurd hc' (by simp)
theorem turn_enumT {P : Program} {w : World} {K : PySem.W.Frag} {elts : List Expr} {kk : Nat} {tpos : Pos} (a e it : Addr) :
    Turn P w K (.Tuple elts kk tpos) (IteT K a) [e, it] e (fun i h => (∃ old, IsEnum h e it ((i : Nat) : Int) old) ∧ h.IsTupleIter it a i ∧ e ≠ it) where
  mem := by simp
  obj := fun i h st b hb => by
    obtain ⟨⟨old, he⟩, ⟨o, ho, hc, hd⟩, _⟩ := st
    have e' : b = e ∨ b = it := by simpa using hb
    rcases e' with z | z
    · rw [z]; exact ⟨_, he, fun v q => nomatch q⟩
    · rw [z]; exact ⟨o, ho, fun v q => by rw [hd] at q; cases q⟩
  keep := fun i h h' st k => let ⟨⟨old, he⟩, hi, hne⟩ := st; ⟨⟨old, k e (by simp) _ he⟩, hi.at fun o q => k it (by simp) o q, hne⟩
  item := by
    intro X hP hw hK hc i pins s σ H E I hf st hg
    subst hP hw hK
    obtain ⟨⟨old, he⟩, hit, hne⟩ := st
    obtain ⟨xs, x, hq, hx⟩ := hg
    obtain ⟨its, rv, p, hz⟩ := I.tuple hq
    obtain ⟨u, hu, ru⟩ := rv.get hx
    have hel : e < s.heap.objs.size := Heap.lt_size he
    have hil : it < s.heap.objs.size := by obtain ⟨_, q, _⟩ := hit; exact Heap.lt_size q
    have hai : a ≠ it := iter_ne_tup hit p
    have hea : e ≠ a := enum_ne_tup he p
    have hin : i < its.toArray.size := by
      rw [List.size_toArray]
      exact (List.getElem?_eq_some_iff.mp hu).1
    refine wpAny_pyNext_enum_itemD (Draws.tuple (by simp [I.ok.hd hc]) it a hai its.toArray) he ⟨hit, p⟩ hin hne (by simp [hne, hea]) fun y h' tk hPy ho hst' hT hsz hk => ?_
    have hyu : y = u := by
      have hPy' : its.toArray[i]? = some y := hPy
      rw [List.getElem?_toArray, hu] at hPy'
      exact (Option.some.inj hPy').symm
    subst hyu
    refine ⟨_, rfl, wpAny_letOwnedTupleGo_enum (s := { s with heap := h', toks := tk + 1 }) ho fun h'' he' sb => ?_⟩
    have hT2 : h''.get? s.heap.objs.size = some { cls := .type "tuple", data := .seq #[.int i tk, y] } := (sb.2 _ (Nat.ne_of_gt hel)).trans hT
    have new : ObjOk X.prog X.w (upd H s.heap.objs.size (.tup [.int (i : Nat), x])) h'' s.heap.objs.size (.tup [.int (i : Nat), x]) :=
      ⟨by show 2 ≤ sizeLine; decide, [.int i tk, y], .cons ⟨_, rfl⟩ (.cons ru .nil), ⟨_, hT2, rfl, _, rfl⟩⟩
    have I1 : Inv X pins σ (upd H s.heap.objs.size (.tup [.int (i : Nat), x])) { s with heap := h'', toks := tk + 1 } :=
      I.turnedNew (t' := tk + 1) (ch := [e, it]) (fun b ob hb q => (sb.2 b (fun z => hb (by simp [z]))).trans (hk b ob (fun z => hb (by simp [z])) (fun z => hb (by simp [z])) q)) hf (Nat.le_refl _) new
    refine ⟨.ref s.heap.objs.size, _, I1, rfl, ⟨_, x, rfl, I.hok.fresh (Nat.le_refl _), rfl, fun ys hy => by rw [I.tuple_inj hy hq]; exact hx⟩, ⟨⟨y, ?_⟩, hst'.1.at fun o q => (sb.2 it (Ne.symm hne)).trans q, hne⟩, fun b hb => ?_⟩
    · have e1 : ((i + 1 : Nat) : Int) = (i : Int) + 1 := by omega
      rw [e1]; exact he'
    · have hb' : b < s.heap.objs.size := by
        have e' : b = e ∨ b = it := by simpa using hb
        rcases e' with z | z
        · rw [z]; exact hel
        · rw [z]; exact hil
      rw [upd_ne (Nat.ne_of_lt hb')]
      exact (hf b hb).1
  done := by
    intro X hP hw hK hc i pins s σ H E I hf st hg
    subst hP hw hK
    obtain ⟨⟨old, he⟩, hit, hne⟩ := st
    obtain ⟨xs, hq, hx⟩ := hg
    obtain ⟨its, rv, p, hz⟩ := I.tuple hq
    obtain ⟨f0, f1, f2, f3, f4, f5⟩ := hf it (by simp)
    have hl := rv.length
    have hai : a ≠ it := iter_ne_tup hit p
    have e1 : i = its.toArray.size := by rw [List.size_toArray]; omega
    exact wpAny_pyNext_enum_endD (Draws.tuple (by simp [I.ok.hd hc]) it a hai its.toArray) he (by rw [← e1]; exact ⟨hit, p⟩) fun h' eb => ⟨rfl, I.turned (t' := s.toks) (fun b o hb q => eb b o hb q) f0 f1 f3 f4 f5⟩
  self := fun A i s Q E st h => let ⟨⟨_, he⟩, _⟩ := st; wpAny_pyIter_enum he h
def iEnumT (K : PySem.W.Frag) (ta : TA) : TI := fun σ H R => ta σ H fun vs H1 => ∃ a xs, vs = [.ref a] ∧ SqT K H1 a xs ∧ R (IteT K a) H1
theorem pi_enumT {X : Cx} {e : Expr} {ta : TA} {p pos tpos : Pos} {elts : List Expr} {kk : Nat} (hg : Gl X "enumerate") (hm : X.mg "enumerate" = none) (ha : PA X [e] ta) (hs : starEach [e] X.env = [(false, eval e X.env)] := by rfl) :
    PI X (.Tuple elts kk tpos) (.Call (.Name "enumerate" p) [e] [] pos) (iEnumT X.K ta) := by
  refine ⟨fun pins s σ H R I h => ?_⟩
  refine Call_ (ld_blt I hg hm boot_enumerate (PyProof.Rows.callWith_type1 (thn (ha.run pos pins s σ H _ I h) fun us s1 ⟨vs, H1, I1, r1, q1⟩ => ?_) hs rfl))
  obtain ⟨a, xs, ex, hq, q⟩ := q1
  subst ex
  cases r1 with
  | cons r rr =>
    cases rr
    cases r
    obtain ⟨its, rv, p', hz⟩ := I1.tuple hq
    refine enum_begins1 (begins_tuple a its.toArray) p' fun h' he hit hsz hk => wpAny_pyIter_enum he ?_
    have I2 : Inv X pins σ H1 { s1 with heap := h' } := I1.kept (t' := s1.toks) hk
    refine ⟨s1.heap.objs.size + 1, [s1.heap.objs.size + 1, s1.heap.objs.size], _, _, H1, rfl, I2, turn_enumT a (s1.heap.objs.size + 1) s1.heap.objs.size, ⟨⟨.none, he⟩, ⟨_, hit, rfl, rfl⟩, Nat.succ_ne_self _⟩, fun b hb => ?_, q⟩
    have e' : b = s1.heap.objs.size + 1 ∨ b = s1.heap.objs.size := by simpa using hb
    have hle : s1.heap.objs.size ≤ b := by
      rcases e' with z | z
      · rw [z]; exact Nat.le_add_right _ _
      · rw [z]; exact Nat.le_refl _
    exact I1.fpOk hle (I1.hok.fresh hle)
theorem walk_enumT {K : PySem.W.Frag} {a : Addr} {xs : List V} : Walk (IteT K a) xs.length (fun H => SqT K H a xs) (YPair (fun i => some (.int (i : Nat))) (fun i => xs[i]?)) := by
  refine ⟨fun i _ hi q => ⟨xs, xs[i], q, by simp [hi]⟩, fun _ q => ⟨xs, q, rfl⟩, fun i H v H' _ q y => ?_⟩
  obtain ⟨T, x, h1, h2, h3, h4⟩ := y
  exact ⟨T, .int (i : Nat), x, h1, h2, h3, rfl, h4 xs q⟩

/-! ### super().m(e), at the body's own activation -/
def PSsAt (X : Cx) (B sts : List Stmt) (t : TS) : Prop := ∀ (pins : List (Addr × Obj)) (s : Shared) (σ : L2.St) (H : Hp) (D : Ends), Inv X pins σ H s → t D σ H →
  _root_.PySem.wpAt (model X.prog X.w) X.A (.func B X.env) (execs sts X.env) (SP X pins D) X.xe s
def PEAt (X : Cx) (B : List Stmt) (e : Expr) (t : TE) : Prop := ∀ (pins : List (Addr × Obj)) (s : Shared) (σ : L2.St) (H : Hp) (Q : VK), Inv X pins σ H s → t σ H Q →
  _root_.PySem.wpAt (model X.prog X.w) X.A (.func B X.env) (eval e X.env) (EP X pins σ Q) X.xe s
section
variable {X : Cx} {B rest : List Stmt} {e : Expr} {te : TE} {u : TS} {pos pos' : Pos}
theorem pat_any {sts : List Stmt} {t : TS} (h : PSs X sts t) : PSsAt X B sts t := fun pins s σ H D I q => _root_.PySem.wpAt_of_wpAny (h.run pins s σ H D I q)
theorem pat_expr (he : PEAt X B e te) (hr : PSs X rest u) (hi : interactive X.env = false := by rfl) (hs : swapsWith e none pos.line X.env = pure false := by rfl) : PSsAt X B (.Expr e pos :: rest) (tSeq (tDrop te) u) := by
  intro pins s σ H D I q
  refine PySem.ks_wpAt_execs_cons (PySem.ks_wpAt_Expr_any (PySem.ks_wpAt_mono (he pins s σ H _ I q) (fun v s1 h1 => ?_) fun _ _ x => x) hi hs)
  obtain ⟨y, H1, I1, _, q1⟩ := h1
  exact _root_.PySem.wpAt_of_wpAny (hr.run pins s1 σ H1 D I1 q1)
theorem pat_set {i : Nat} {x : Str} (hN : X.N.Nodup) (hi : X.N[i]? = some x) (hx : Loc X.env.scope x) (he : PEAt X B e te) (hr : PSs X rest u) (hs : swapsWith e (some (.Name x pos')) pos.line X.env = pure false := by rfl)
    (hf : X.fn x = true ∨ X.env.scope.names.lookup x = some .local := by first | exact .inl rfl | exact .inr rfl | assumption) : PSsAt X B (.Assign [.Name x pos'] e pos :: rest) (tSeq (tAsg te (gName i)) u) := by
  intro pins s σ H D I q
  refine PySem.ks_wpAt_execs_cons (PySem.ks_wpAt_Assign_Name (PySem.ks_wpAt_mono (he pins s σ H _ I q) (fun v s1 h1 => ?_) fun _ _ x => x) hs)
  obtain ⟨y, H1, I1, r1, q1⟩ := h1
  exact store_ok I1 hN hi hx r1 (fun s2 I2 => _root_.PySem.wpAt_of_wpAny (hr.run pins s2 _ H1 D I2 q1)) hf
theorem pat_ret (he : PEAt X B e te) : PSsAt X B [.Return (some e) pos] (tRet te) := by
  intro pins s σ H D I q
  refine PySem.ks_wpAt_execs_cons (PySem.ks_wpAt_Return_some (PySem.ks_wpAt_mono (he pins s σ H _ I q) (fun v s1 h1 => ?_) fun _ _ x => x))
  obtain ⟨y, H1, I1, r1, q1⟩ := h1
  exact ⟨y, σ, H1, I1, r1, q1⟩
end
/-- what the text knows of a method that says super(): the def at f, its class at D by the cell at cc, its code object at cda -/
structure SupDef (prog : Program) (K : PySem.W.Frag) (x qual : Str) (st : Stmt) (f cc D cda : Addr) : Prop where
  fn : ∃ (oc : Value) (od : Option Addr) (kV doc pm : Value) (an : Option Addr) (ct : Value) (osl : Array (Option Value)),
    K.lookup f = some ⟨oc, od, .func (PySem.W.fnX x qual (defArgs st) (defBody st) (defScope st) [("__class__", cc)] .none kV doc pm an (.ref cda) ct), osl⟩
  code : PySem.W.codeIn K (.ref cda) qual = true
  cell : ∃ (cl : Value) (cld : Option Addr) (csl : Array (Option Value)), K.lookup cc = some ⟨cl, cld, .cell (some (.ref D)), csl⟩
  cls : (PySem.W.clsIn K D).isSome = true
  file : ∃ (ccl : Value) (cdd : Option Addr) (vs : Array Value) (ccs : Array (Option Value)) (file : Str) (tf : Tok), K.lookup cda = some ⟨ccl, cdd, .fields vs, ccs⟩ ∧ vs[2]? = some (.str file tf) ∧ ((prog.main.file : Str) == file) = true
/-- super() in the class at D finds m at g for an instance of the class at C -/
structure SupOk (K : PySem.W.Frag) (C D : Addr) (m : Str) (g : Addr) : Prop where
  find : PySem.W.ks_superIn K C D m = some (some (.ref g))
  ty : PySem.W.typeIn K (.ref g) = some (.type "function")
  sub : PySem.W.mroIn K C (.ref D) = some true
  fi : PySem.W.fnIn K g = true
  any : PySem.W.nsIn K cStatics "thirdparty.any" = some none
def tSup (C : Addr) (sp : Sp) (t : TA) : TE := fun σ H Q => ∃ a dx fs, σ[0]? = some (some (.ref a)) ∧ H a = some (.ins C dx fs) ∧ t σ H fun vs H1 => sp (.ref a :: vs) H1 Q E0
section
variable {X : Cx} {B : List Stmt} {C D g f cc cda : Addr} {m x qual : Str} {st : Stmt} {sp : Sp} {k j : Nat} {e : Expr} {es : List Expr} {t : TA} {p0 p1 apos pos : Pos} {ar : Arg} {pl : Sem Bool}
theorem pea_super (D0 : SupDef X.prog X.K x qual st f cc D cda) (so : SupOk X.K C D m g) (F : FnR X.prog X.w X.K X.mg X.base CX0 k g sp) (hr : Room j X.A) (hk : k ≤ j) (ha : PA X (e :: es) t) (hm : X.mg "super" = none)
    (htop : (X.prog.main.scope.names.lookup ("super" : Str)).isSome = false)
    (hfu : X.env.func = some f) (hco : X.env.code = .ref cda) (hce : X.env.cells.lookup ("__class__" : Str) = some cc)
    (hs : X.env.kindOf "super" = some .globalImplicit) (hcl : X.env.kindOf "__class__" = some .free)
    (hp : ((defArgs st).posonlyargs ++ (defArgs st).args).head? = some ar) (hN : X.N[0]? = some ar.arg) (hv : X.env.kindOf ar.arg = some .local)
    (hat : (m == ("__class__" : Str)) = false)
    (hst : starEach (e :: es) X.env = (false, eval e X.env) :: starEach es X.env := by rfl) (hpl : (backTo pos (starEach es X.env)).any (·.1) = false := by rfl)
    (he : eval (.Call (.Attribute (.Call (.Name "super" p0) [] [] p1) m apos) (e :: es) [] pos) X.env = (do
      let ov ← attributeBase (.Call (.Name "super" p0) [] [] p1) m X.env (eval (.Call (.Name "super" p0) [] [] p1) X.env)
      standAt apos.atName
      let (f, first) ← holding [ov] (getMethod ov m pl)
      callWith pos f first (backTo pos (starEach (e :: es) X.env)) []) := by rfl) :
    PEAt X B (.Call (.Attribute (.Call (.Name "super" p0) [] [] p1) m apos) (e :: es) [] pos) (tSup C sp t) := by
  intro pins s σ H Q I h
  obtain ⟨a, dx, fs, hσ, hH, hq⟩ := h
  refine PySem.ks_wpAt_MethodCall (pl := pl) ?_ he
  obtain ⟨oc, od, kV, doc, pm, an, ct, osl, lk⟩ := D0.fn
  obtain ⟨cl, cld, csl, lcell⟩ := D0.cell
  obtain ⟨ccl, cdd, vs, ccs, file, tf, lcode, hvs, hfile⟩ := D0.file
  obtain ⟨mA, O, _, _, _, _⟩ := ins_get I.hok hH
  obtain ⟨odd, J, _⟩ := O.look
  have KX := I.kIn
  obtain ⟨cdD, hcdD⟩ := Option.isSome_iff_exists.mp D0.cls
  obtain ⟨oD, hD1, hD2⟩ : ∃ oD, s.heap.get? D = some oD ∧ oD.data = .cls cdD := by
    unfold PySem.W.clsIn at hcdD
    split at hcdD
    · rename_i c d cd' sl ho
      cases hcdD
      exact ⟨_, KX _ _ ho, rfl⟩
    · cases hcdD
  refine PySem.ks_wpAt_super_base hs hcl hat hfu (KX _ _ lk) rfl hp hco (KX _ _ lcode) rfl hvs hfile htop ?_
  obtain ⟨mb, hb1, hb2⟩ := I.mod.blt
  refine PySem.W.ks_loadName_global I.ok.kind hs (Calls.loadGlobal_builtin (by rw [I.ok.glob]; exact I.mod.glob.keeps I.bk) hm (by rw [I.ok.blt]; exact hb1.keeps I.bk) ((hb2 _ (by decide +kernel)).trans (by decide +kernel : bootBuiltins "super" = some (.type "super"))) ⟨rfl, ?_⟩)
  refine wpAny_loadName_free I.ok.kind hcl hce ⟨_, KX _ _ lcell, rfl⟩ ?_
  obtain ⟨mm, hn, hl⟩ := I.loc
  obtain ⟨uu, ru, lo⟩ := hl 0 ar.arg (.ref a) hN hσ (.inl hv)
  obtain rfl : uu = Value.ref a := ru
  have hmm : mm ar.arg = some (.ref a) := by
    rcases lo with ⟨_, z⟩ | ⟨z, _⟩
    · exact z
    · rw [hv] at z
      rcases z with z | z <;> cases z
  refine wpAny_loadName_local I.ok.kind hv hn hmm ?_
  refine PySem.ks_wpAny_isType_cls hD1 hD2 ⟨rfl, ?_⟩
  refine PySem.ks_wpAny_call_super hD1 hD2 J.at_ J.cls (fun c ec => ?_) (PySem.W.looks_mroIn KX so.sub) (fun h' e1 k1 => ?_)
  · have := J.no
    unfold PySem.W.notCls at this
    rw [ec] at this
    exact Bool.noConfusion this
  · have I2 : Inv X pins σ H { s with heap := h' } := I.kept (t' := s.toks) k1
    have KX2 := I2.kIn
    obtain ⟨of, hof, hofc⟩ : ∃ of, h'.get? g = some of ∧ of.cls = .type "function" := by
      have ht' : (X.K.lookup g).map (·.cls) = some (.type "function") := so.ty
      cases z : X.K.lookup g with
      | none => rw [z] at ht'; cases ht'
      | some of => rw [z] at ht'; exact ⟨of, KX2 _ _ z, Option.some.inj ht'⟩
    cases hc : PySem.W.clsIn X.K C with
    | none =>
      have hf := so.find
      unfold PySem.W.ks_superIn at hf
      rw [hc] at hf
      cases hf
    | some cd =>
      have hf := so.find
      unfold PySem.W.ks_superIn at hf
      rw [hc] at hf
      have hne : a ≠ C := PySem.W.ks_ne KX J hc
      refine PySem.ks_wpAny_getMethod_super (K := X.K) (f := g) e1 (PySem.W.looks_opaque KX2 so.any) (l₀ := cd.mro) ?_ rfl KX2 hf hof hofc hne hat ?_
      · exact fun A Q E s k q => wpAny_bind ((PySem.W.looks_clsIn KX2 hc) A _ E s k (wpAny_pure q))
      · have I3 : Inv X ((h'.objs.size, PySem.W.methodObj (.ref g) (.ref a)) :: pins) σ H { s with heap := h'.push (PySem.W.methodObj (.ref g) (.ref a)), toks := s.toks + 1 } := ClX.met_new (s := { s with heap := h' }) I2
        refine ClX.callwith_cm I3 (ClX.base_none I2 (Nat.le_refl _)) so.fi (thn (ha.run pos _ _ σ H _ I3 hq) fun us s3 ⟨vs, H2, I4, rv, q2⟩ => ⟨⟨ClX.pin_at I4, I4.kIn⟩, ?_⟩) hst hpl
        exact ClX.run_cm F (hr.mono hk) pass0 I4 rv q2
end
/-! ### a method that says super(), by its body -/
abbrev nfS (x qual : Str) (st : Stmt) (cc cda : Addr) : NdefX.NF := ⟨x, qual, defArgs st, defBody st, defScope st, [("__class__", cc)], cda⟩
section
variable {P : Program} {w : World} {K : PySem.W.Frag} {mg : Str → Option Value} {base : Heap} {k : Nat} {x qual : Str} {st : Stmt} {f cc D cda : Addr} {N ps : List Str} {sp : Sp}
theorem cells_sup {s : Shared} {H : Hp} {A : Around} {outer : List Env} (D0 : SupDef P K x qual st f cc D cda) (e0 : Env0 P w K mg base A outer s H) : NdefX.CellsAt [(("__class__" : Str), cc)] ["__class__"] [none] s.heap H := by
  obtain ⟨cl, cld, csl, lcell⟩ := D0.cell
  have KX : K.In s.heap := e0.mod.kin.keeps fun b o e => (e0.bs b o e).1
  have hn : H cc = none := (e0.bs cc _ (e0.mod.kin _ _ lcell)).2
  have hc : s.heap.IsCell cc (some (.ref D)) := ⟨_, KX _ _ lcell, rfl⟩
  refine ⟨rfl, fun y c e => ?_, fun y z c e1 e2 => ?_, fun i y hi => ?_⟩
  · have e2 : c = cc := by
      simp only [List.lookup] at e
      split at e
      · exact (Option.some.inj e).symm
      · cases e
    subst e2
    exact ⟨hn, _, hc⟩
  · simp only [List.lookup] at e1 e2
    split at e1
    · rename_i h1
      split at e2
      · rename_i h2
        rw [beq_iff_eq.mp h1, beq_iff_eq.mp h2]
      · cases e2
    · cases e1
  · match i, hi with
    | 0, hi =>
      have e2 : ("__class__" : Str) = y := Option.some.inj hi
      subst e2
      exact ⟨cc, by simp [List.lookup], fun v hv => by cases hv⟩
    | i + 1, hi => simp at hi
theorem fnR_sup (D0 : SupDef P K x qual st f cc D cda) (S : NdefX.NScope N ps ["__class__"] (defScope st))
    (hb : ∀ (kV doc pm ct : Value) (an : Option Addr) (us : List Value), us.length = ps.length → bindArgs (PySem.W.fnX x qual (defArgs st) (defBody st) (defScope st) [("__class__", cc)] .none kV doc pm an (.ref cda) ct) ⟨us, []⟩ = pure (ps.zip us))
    (len : ∀ vs H Q E, sp vs H Q E → vs.length = ps.length)
    (hbody : ∀ (A : Around) (outer : List Env) (s : Shared) (H : Hp) (vs : List V) (Q : VK) (E : XK), Room k (A.deeper (NdefX.envF (nfS x qual st cc cda) f s.heap.objs.size)) → sp vs H Q E →
      ∃ t, PSsAt (NdefX.ncx CX0 P w K mg base N (nfS x qual st cc cda) f A outer s H E).nox (defBody st) (defBody st) t ∧ t { nx := fun _ H' => Q .non H', rt := Q } (NdefX.startF N vs [none]) H) :
    FnR P w K mg base CX0 (k + 1) f sp := by
  intro A outer s H us vs Q E hr e0 r hsp
  have hl := len _ _ _ _ hsp
  have KX : K.In s.heap := e0.mod.kin.keeps fun b o e => (e0.bs b o e).1
  have lim : s.heap.NoLimit := e0.mod.nolimit.keeps fun b o e => (e0.bs b o e).1
  obtain ⟨oc, od, kV, doc, pm, an, ct, osl, lk⟩ := D0.fn
  have C := cells_sup D0 e0
  refine codeAny_call_function hr.depth (KX _ _ lk) rfl S.co S.gen rfl (PySem.W.codeRec_of KX D0.code) ?_
  rw [hb kV doc pm ct an us (by rw [← r.length]; exact hl)]
  refine wpAny_pure (wpAny_newFunctionEnv S.nocell (fun ⟨n, _⟩ hy => S.par n (List.of_mem_zip hy).1) (fun h₁ hns hsb => ⟨lim.fresh _ hsb, ?_⟩) S.kind)
  show codeAny _ _ (.func (defBody st) (NdefX.envF (nfS x qual st cc cda) f s.heap.objs.size)) _ _
  refine PySem.ks_codeAny_funcAt ?_
  have kp : ∀ b o, s.heap.get? b = some o → h₁.get? b = some o := fun b o e => hsb.extBut b o (Nat.ne_of_lt (Heap.lt_size e)) (Heap.get?_push_of_some _ e)
  obtain ⟨t, ht, hq⟩ := hbody A outer s H vs Q E (hr.deeper _) hsp
  have I : Inv (NdefX.ncx CX0 P w K mg base N (nfS x qual st cc cda) f A outer s H E) [] (NdefX.startF N vs [none]) H { s with heap := h₁, toks := s.toks + (ps.zip us).length } := NdefX.inv_startN (F := nfS x qual st cc cda) S hr.hd e0 hl r C hns kp
  refine PySem.ks_wpAt_mono (ht [] _ (NdefX.startF N vs [none]) H _ (I.wish _) hq) (fun fl s' hs => ?_) fun e s' hs => hs.elim
  have fin : ∀ {σ' : L2.St} {H' : Hp} {v : V} {u : Value}, Inv (NdefX.ncx CX0 P w K mg base N (nfS x qual st cc cda) f A outer s H E).nox [] σ' H' s' → L2.RelV v u → Q v H' → CE outer P w H s Q u s' :=
    fun {σ' H' v u} J rv q => ⟨v, H', J.os, J.bare, J.base, J.hok, rv, q⟩
  cases fl with
  | ret u =>
    obtain ⟨v, σ', H', J, rv, q⟩ := hs
    exact fin J rv q
  | next =>
    obtain ⟨σ', H', J, q⟩ := hs
    exact fin (v := V.non) (u := Value.none) J rfl q
  | brk =>
    obtain ⟨_, _, _, q⟩ := hs
    exact False.elim q
  | cont =>
    obtain ⟨_, _, _, q⟩ := hs
    exact False.elim q
end
end NS
namespace NS
open PySem PySem.Spec PyProof.Rows L2

/-! ### the text by places -/
def top (i : Nat) : Stmt := PySem.Challenge.pw_nearswap_k81_whole_sorters_and_benches.main.body.getD i (.Pass ⟨0, 0, 0, 0⟩)
abbrev sIsInt : Stmt := top 12
abbrev sIsAny : Stmt := top 13
abbrev sCkInts : Stmt := top 15
abbrev sCkVals : Stmt := top 16
abbrev sStepOn : Stmt := top 17
abbrev sResultOf : Stmt := top 18
abbrev sRun : Stmt := top 19
abbrev sExch : Stmt := top 21
abbrev sSrInit : Stmt := inClass (top 23) 0
abbrev sSrRuns : Stmt := inClass (top 23) 2
abbrev sSrWorking : Stmt := inClass (top 23) 3
abbrev sSrRun : Stmt := inClass (top 23) 4
abbrev sCsInit : Stmt := inClass (top 24) 0
abbrev sCsComp : Stmt := inClass (top 24) 1
abbrev sCsSwaps : Stmt := inClass (top 24) 2
abbrev sCsRun : Stmt := inClass (top 24) 3
abbrev sFsInit : Stmt := inClass (top 25) 0
abbrev sFsFaults : Stmt := inClass (top 25) 1
abbrev sFsFail : Stmt := inClass (top 25) 2
abbrev sFsChecked : Stmt := inClass (top 25) 3
abbrev sFsWorking : Stmt := inClass (top 25) 4
abbrev sFsRun : Stmt := inClass (top 25) 5
abbrev sCkWidth : Stmt := top 27
abbrev sCkSteps : Stmt := top 28
abbrev sCkCount : Stmt := top 29
abbrev sCkWidths : Stmt := top 30
abbrev sNtInit : Stmt := inClass (top 31) 2
abbrev sNtWidth : Stmt := inClass (top 31) 3
abbrev sNtSteps : Stmt := inClass (top 31) 4
abbrev sNtEmpty : Stmt := inClass (top 31) 5
abbrev sNtWithout : Stmt := inClass (top 31) 12
abbrev sNtLen : Stmt := inClass (top 31) 14
abbrev sBnInit : Stmt := inClass (top 36) 0
abbrev sBnNet : Stmt := inClass (top 36) 1
abbrev sBnKeep : Stmt := inClass (top 36) 3
abbrev sBnCkStep : Stmt := inClass (top 36) 4
abbrev sBnAdd : Stmt := inClass (top 36) 5
abbrev sBnAddAll : Stmt := inClass (top 36) 6
abbrev sBnPlace : Stmt := inClass (top 36) 7
abbrev sBnDrop : Stmt := inClass (top 36) 8
abbrev sBnUndo : Stmt := inClass (top 36) 9
abbrev sDesc : Stmt := top 38
abbrev sProfile : Stmt := top 39
abbrev sAtMost : Stmt := top 40
abbrev sCountSmall : Stmt := top 42
abbrev sIsGap : Stmt := top 43
abbrev sFirstGap : Stmt := top 44
abbrev sDominates : Stmt := top 45
abbrev sSource : Stmt := top 47
abbrev sDraw : Stmt := top 48
abbrev sSteps : Stmt := top 49
abbrev sValues : Stmt := top 50
abbrev sNewSteps : Stmt := top 51
abbrev sChange : Stmt := top 52
abbrev sPerform : Stmt := top 53
abbrev sHolds : Stmt := top 56
abbrev sLaw : Stmt := top 57

/-! ### what a heap may change -/
/-- all but the object at s is as it was -/
def Same1 (s : Addr) (H H' : Hp) : Prop := ∀ b o, b ≠ s → H b = some o → H' b = some o
def Same2 (s t : Addr) (H H' : Hp) : Prop := ∀ b o, b ≠ s → b ≠ t → H b = some o → H' b = some o
theorem _root_.L2.Same.one {H H' : Hp} {s : Addr} (e : Same H H') : Same1 s H H' := fun b o _ h => e b o h
theorem Same1.two {H H' : Hp} {s t : Addr} (e : Same1 s H H') : Same2 s t H H' := fun b o h1 _ h => e b o h1 h
theorem Same1.two' {H H' : Hp} {s t : Addr} (e : Same1 t H H') : Same2 s t H H' := fun b o _ h2 h => e b o h2 h
theorem Same1.trans {s : Addr} {H H1 H2 : Hp} (a : Same1 s H H1) (b : Same1 s H1 H2) : Same1 s H H2 := fun c o n h => b c o n (a c o n h)
theorem Same2.trans {s t : Addr} {H H1 H2 : Hp} (a : Same2 s t H H1) (b : Same2 s t H1 H2) : Same2 s t H H2 := fun c o n m h => b c o n m (a c o n m h)
theorem _root_.L2.Same.new {H : Hp} {p : Addr} {o : HO} (h : H p = none) : Same H (upd H p o) := fun b u e => by rw [upd_ne (ne_of_none e h)]; exact e
theorem Same1.upd {H : Hp} {p : Addr} {o : HO} : Same1 p H (L2.upd H p o) := fun b u n e => by rw [upd_ne n]; exact e
theorem _root_.L2.Same.at {H H' : Hp} (e : Same H H') {a : Addr} {o : HO} (h : H a = some o) : H' a = some o := e a o h
/-- nothing that was known has changed, if the changed object was new -/
theorem Same1.fresh {s : Addr} {H0 H H' : Hp} (a : Same H0 H) (n : H0 s = none) (e : Same1 s H H') : Same H0 H' := fun b o h => e b o (ne_of_none h n) (a b o h)
theorem Same1.free {s p : Addr} {H H' : Hp} (e : Same1 s H H') (n : p ≠ s) (h : H' p = none) : H p = none := by
  cases q : H p with
  | none => rfl
  | some o => rw [e p o n q] at h; cases h
theorem Same2.free {s t p : Addr} {H H' : Hp} (e : Same2 s t H H') (n : p ≠ s) (m : p ≠ t) (h : H' p = none) : H p = none := by
  cases q : H p with
  | none => rfl
  | some o => rw [e p o n m q] at h; cases h
theorem _root_.L2.Same.seqT {K : PySem.W.Frag} {H H' : Hp} {a : Addr} {xs : List V} (e : Same H H') (h : SqT K H a xs) : SqT K H' a xs := by
  rcases h with (h | ⟨o, h⟩) | h
  · exact .inl (.inl (e _ _ h))
  · exact .inl (.inr ⟨o, e _ _ h⟩)
  · exact .inr h
theorem ne_some {H : Hp} {a : Addr} {o : HO} (h : H a = some o) (h' : H a = none) : False := by rw [h] at h'; cases h'

/-! ### networks -/
abbrev iv (xs : List Int) : List V := xs.map V.int
def nf (w : Int) (t : Addr) : List (Str × V) := [("own_width", .int w), ("own_steps", .ref t)]
def NetAt (N : Addr) (H : Hp) (p : Addr) (w : Int) (st : List Int) : Prop := ∃ dx t, H p = some (.ins N dx (nf w t)) ∧ H t = some (.tup (iv st))
theorem NetAt.same {N : Addr} {H H' : Hp} {p : Addr} {w : Int} {st : List Int} (h : NetAt N H p w st) (e : Same H H') : NetAt N H' p w st :=
  let ⟨dx, t, h1, h2⟩ := h
  ⟨dx, t, e _ _ h1, e _ _ h2⟩
/-- what is no network and no tuple may change -/
theorem NetAt.same1 {N s : Addr} {H H' : Hp} {p : Addr} {w : Int} {st : List Int} (h : NetAt N H p w st) (e : Same1 s H H') (h1 : ∀ dx fs, H s ≠ some (.ins N dx fs)) (h2 : ∀ xs, H s ≠ some (.tup xs)) : NetAt N H' p w st := by
  obtain ⟨dx, t, a, b⟩ := h
  exact ⟨dx, t, e _ _ (fun z => h1 _ _ (z ▸ a)) a, e _ _ (fun z => h2 _ (z ▸ b)) b⟩
theorem NetAt.same2 {N s u : Addr} {H H' : Hp} {p : Addr} {w : Int} {st : List Int} (h : NetAt N H p w st) (e : Same2 s u H H') (h1 : ∀ dx fs, H s ≠ some (.ins N dx fs)) (h2 : ∀ xs, H s ≠ some (.tup xs))
    (h3 : ∀ dx fs, H u ≠ some (.ins N dx fs)) (h4 : ∀ xs, H u ≠ some (.tup xs)) : NetAt N H' p w st := by
  obtain ⟨dx, t, a, b⟩ := h
  exact ⟨dx, t, e _ _ (fun z => h1 _ _ (z ▸ a)) (fun z => h3 _ _ (z ▸ a)) a, e _ _ (fun z => h2 _ (z ▸ b)) (fun z => h4 _ (z ▸ b)) b⟩
theorem nf_put1 (w : Int) : putF "own_width" (V.int w) [] = ([("own_width", V.int w)] : List (Str × V)) := rfl
theorem nf_put2 (w : Int) (t : Addr) : putF "own_steps" (V.ref t) ([("own_width", V.int w)] : List (Str × V)) = nf w t := by kernel_rfl
theorem nf_w (w : Int) (t : Addr) : (nf w t).lookup ("own_width" : Str) = some (.int w) := by kernel_rfl
theorem nf_s (w : Int) (t : Addr) : (nf w t).lookup ("own_steps" : Str) = some (.ref t) := by kernel_rfl
theorem nf_without (w : Int) (t : Addr) : (nf w t).lookup ("without" : Str) = none := by kernel_rfl

/-! ### sorters -/
def cf (n : Addr) (r c s : Int) : List (Str × V) := [("own_network", .ref n), ("own_runs", .int r), ("own_comparisons", .int c), ("own_swaps", .int s)]
def ff (n : Addr) (r c s : Int) (t : Addr) : List (Str × V) := [("own_network", .ref n), ("own_runs", .int r), ("own_comparisons", .int c), ("own_swaps", .int s), ("own_faults", .ref t)]

/-! ### benches -/
def bf (n h : Addr) : List (Str × V) := [("own_network", .ref n), ("own_history", .ref h)]
structure BenchAt (B N : Addr) (H : Hp) (b h : Addr) (w : Int) (st : List Int) (hs : List Addr) : Prop where
  ob : ∃ dx n, H b = some (.ins B dx (bf n h)) ∧ NetAt N H n w st
  li : H h = some (.lst (hs.map V.ref))
  it : ∀ t ∈ hs, ∃ z n, H t = some (.tup [.str z, .ref n])

def descL (w : Int) : List Int := (List.range w.toNat).map (fun i : Nat => w + (i : Int) * -1)
theorem descL_len (w : Int) : (descL w).length = w.toNat := by unfold descL; rw [List.length_map, List.length_range]
/-! ### promises of the program's defs -/
section
variable (K : PySem.W.Frag) (N B : Addr)
def spIsInt : Sp := fun vs H Q _ => ∃ n lo hi : Int, vs = [.int n, .int lo, .int hi] ∧ lo ≤ n ∧ n ≤ hi ∧ Q (.bl true) H
def spIsAny : Sp := fun vs H Q _ => ∃ n : Int, vs = [.int n] ∧ Q (.bl true) H
def spCkInts : Sp := fun vs H Q _ => ∃ (a : Addr) (xs : List Int), vs = [.ref a] ∧ SqL K H a (iv xs) ∧ ∀ H', Same H H' → Q .non H'
def spCkVals : Sp := fun vs H Q _ => ∃ (w : Int) (a : Addr) (xs : List Int), vs = [.int w, .ref a] ∧ H a = some (.lst (iv xs)) ∧ (xs.length : Int) = w ∧ ∀ H', Same H H' → Q .non H'
def spStepOn : Sp := fun vs H Q _ => ∃ (a : Addr) (v : List Int) (s : Int), vs = [.ref a, .int s] ∧ H a = some (.lst (iv v)) ∧ 1 ≤ s ∧ s ≤ (v.length : Int) - 1 ∧ v.length ≤ 100 ∧
  ∀ H', Same1 a H H' → H' a = some (.lst (iv (stepL v s))) → Q (.bl (swp v s)) H'
def spResultOf : Sp := fun vs H Q _ => ∃ (t a : Addr) (st v : List Int), vs = [.ref t, .ref a] ∧ SqT K H t (iv st) ∧ SqL K H a (iv v) ∧ StepsOk (v.length : Int) st ∧ v.length ≤ 100 ∧
  ∀ H' p, Same H H' → H p = none → H' p = some (.lst (iv (runL st v))) → Q (.ref p) H'
def spRun : Sp := fun vs H Q _ => ∃ (n a : Addr) (w : Int) (st v : List Int), vs = [.ref n, .ref a] ∧ NetAt N H n w st ∧ H a = some (.lst (iv v)) ∧ (v.length : Int) = w ∧ StepsOk w st ∧ v.length ≤ 100 ∧
  ∀ H' p, Same H H' → H p = none → H' p = some (.lst (iv (runL st v))) → Q (.ref p) H'
def spExch : Sp := fun vs H Q _ => ∃ (n a : Addr) (w : Int) (st v : List Int), vs = [.ref n, .ref a] ∧ NetAt N H n w st ∧ H a = some (.lst (iv v)) ∧ (v.length : Int) = w ∧ StepsOk w st ∧ v.length ≤ 100 ∧ st.length ≤ 1000 ∧
  ∀ H' p zs, Same H H' → H p = none → H' p = some (.lst zs) → zs.length = exN st v → Q (.ref p) H'
def spCkWidth : Sp := fun vs H Q _ => ∃ w : Int, vs = [.int w] ∧ 1 ≤ w ∧ w ≤ 40 ∧ Q .non H
def spCkSteps : Sp := fun vs H Q _ => ∃ (w : Int) (l : Addr) (st : List Int), vs = [.int w, .ref l] ∧ H l = some (.lst (iv st)) ∧ StepsOk w st ∧ st.length ≤ 1000 ∧ ∀ H', Same H H' → Q .non H'
def spCkCount : Sp := fun vs H Q _ => ∃ c : Int, vs = [.int c] ∧ c ≤ 1000 ∧ Q .non H
def spCkWidths : Sp := fun vs H Q _ => ∃ (n m : Addr) (w : Int) (st su : List Int), vs = [.ref n, .ref m] ∧ NetAt N H n w st ∧ NetAt N H m w su ∧ Q .non H
def spNtInit : Sp := fun vs H Q _ => ∃ (p dx : Addr) (w : Int) (l : Addr) (st : List Int), vs = [.ref p, .int w, .ref l] ∧ H p = some (.ins N dx []) ∧ H l = some (.lst (iv st)) ∧ 1 ≤ w ∧ w ≤ 40 ∧ StepsOk w st ∧ st.length ≤ 1000 ∧
  ∀ H', Same1 p H H' → NetAt N H' p w st → Q .non H'
def spNtWidth : Sp := fun vs H Q _ => ∃ (n dx t : Addr) (w : Int), vs = [.ref n] ∧ H n = some (.ins N dx (nf w t)) ∧ Q (.int w) H
def spNtSteps : Sp := fun vs H Q _ => ∃ (n dx t : Addr) (w : Int), vs = [.ref n] ∧ H n = some (.ins N dx (nf w t)) ∧ Q (.ref t) H
def spNtLen : Sp := fun vs H Q _ => ∃ (n : Addr) (w : Int) (st : List Int), vs = [.ref n] ∧ NetAt N H n w st ∧ Q (.int (st.length : Int)) H
def spNtEmpty : Sp := fun vs H Q _ => ∃ w : Int, vs = [.ref N, .int w] ∧ 1 ≤ w ∧ w ≤ 40 ∧ ∀ H' p, Same H H' → H p = none → NetAt N H' p w [] → Q (.ref p) H'
def spNtWithout : Sp := fun vs H Q _ => ∃ (n : Addr) (w : Int) (st fs : List Int), vs = .ref n :: iv fs ∧ fs.length ≤ 10 ∧ NetAt N H n w st ∧ 1 ≤ w ∧ w ≤ 40 ∧ StepsOk w st ∧ st.length ≤ 1000 ∧ (∀ k ∈ fs, 0 ≤ k ∧ k < (st.length : Int)) ∧
  ∀ H' p, Same H H' → H p = none → NetAt N H' p w (keep fs st) → Q (.ref p) H'
def spDesc : Sp := fun vs H Q _ => ∃ w : Int, vs = [.int w] ∧ 1 ≤ w ∧ w ≤ 40 ∧ ∀ H' p, Same H H' → H p = none → H' p = some (.lst (iv (descL w))) → Q (.ref p) H'
def spProfile : Sp := fun vs H Q _ => ∃ (n : Addr) (w : Int) (st : List Int), vs = [.ref n] ∧ NetAt N H n w st ∧ 1 ≤ w ∧ w ≤ 40 ∧ StepsOk w st ∧ ∀ H' p, Same H H' → H p = none → H' p = some (.lst (iv (runL st (descL w)))) → Q (.ref p) H'
def spAtMost : Sp := fun vs H Q _ => ∃ (a : Addr) (xs : List Int) (b : Int), vs = [.ref a, .int b] ∧ SqL K H a (iv xs) ∧ xs.length ≤ 1000 ∧ ∀ H' p, Same H H' → H p = none → H' p = some (.lst (xs.map fun x => V.bl (decide (x ≤ b)))) → Q (.ref p) H'
def spCountSmall : Sp := fun vs H Q _ => ∃ (a : Addr) (xs : List Int) (b z : Int), vs = [.ref a, .int b, .int z] ∧ 0 ≤ z ∧ SqL K H a (iv xs) ∧ xs.length ≤ 1000 ∧ ∀ H', Same H H' → Q (.int (cnt xs b z.toNat : Nat)) H'
def spIsGap : Sp := fun vs H Q _ => ∃ (a c : Addr) (xs ys : List Int) (b z : Int), vs = [.ref a, .ref c, .int b, .int z] ∧ 0 ≤ z ∧ SqL K H a (iv xs) ∧ SqL K H c (iv ys) ∧ xs.length ≤ 1000 ∧ ys.length ≤ 1000 ∧
  ∀ H', Same H H' → Q (.bl (decide (cnt xs b z.toNat < cnt ys b z.toNat))) H'
def spFirstGap : Sp := fun vs H Q _ => ∃ (a c : Addr) (xs ys : List Int), vs = [.ref a, .ref c] ∧ SqL K H a (iv xs) ∧ SqL K H c (iv ys) ∧ xs.length ≤ 1000 ∧ ys.length ≤ 1000 ∧ Dom xs ys ∧ ∀ H', Same H H' → Q .non H'
def spDominates : Sp := fun vs H Q _ => ∃ (n m : Addr) (w : Int) (st fs : List Int), vs = [.ref n, .ref m] ∧ NetAt N H n w st ∧ NetAt N H m w (keep fs st) ∧ 1 ≤ w ∧ w ≤ 40 ∧ StepsOk w st ∧ ∀ H', Same H H' → Q (.bl true) H'

/-! ### sorters: any class C whose instances bear the fields -/
def spSrInit (C : Addr) : Sp := fun vs H Q _ => ∃ (p n dx : Addr), vs = [.ref p, .ref n] ∧ H p = some (.ins C dx []) ∧ ∀ H', Same1 p H H' → H' p = some (.ins C dx [("own_network", .ref n), ("own_runs", .int 0)]) → Q .non H'
def spCsInit (C : Addr) : Sp := fun vs H Q _ => ∃ (p n dx : Addr), vs = [.ref p, .ref n] ∧ H p = some (.ins C dx []) ∧ ∀ H', Same1 p H H' → H' p = some (.ins C dx (cf n 0 0 0)) → Q .non H'
/-- what working gives -/
structure Wk (C N : Addr) (W : Hp → List (Str × V) → Int → List Int → Prop) : Prop where
  same : ∀ H H' fs w st, Same H H' → W H fs w st → W H' fs w st
  one : ∀ H H' a dx fs0 fs w st, H a = some (.ins C dx fs0) → Same1 a H H' → W H fs w st → W H' fs w st
  put : ∀ H fs w st (f : Str) v, f ≠ "own_network" → f ≠ "own_faults" → W H fs w st → W H (putF f v fs) w st
def spWorking (C : Addr) (W : Hp → List (Str × V) → Int → List Int → Prop) : Sp := fun vs H Q _ => ∃ (a dx : Addr) (fs : List (Str × V)) (w : Int) (st : List Int), vs = [.ref a] ∧ H a = some (.ins C dx fs) ∧ W H fs w st ∧
  ∀ H' n, Same H H' → NetAt N H' n w st → Q (.ref n) H'
structure FsOk (fs : List (Str × V)) : Prop where
  len : fs.length < 100
  w : fs.lookup ("working" : Str) = none
def spSrRun (C : Addr) (W : Hp → List (Str × V) → Int → List Int → Prop) : Sp := fun vs H Q _ => ∃ (a dx l : Addr) (fs : List (Str × V)) (w r : Int) (st v : List Int), vs = [.ref a, .ref l] ∧ H a = some (.ins C dx fs) ∧ W H fs w st ∧ FsOk fs ∧
  fs.lookup ("own_runs" : Str) = some (.int r) ∧ H l = some (.lst (iv v)) ∧ (v.length : Int) = w ∧ StepsOk w st ∧ v.length ≤ 100 ∧
  ∀ H' p, Same1 a H H' → H p = none → H' p = some (.lst (iv (runL st v))) → H' a = some (.ins C dx (putF "own_runs" (.int (r + 1)) fs)) → Q (.ref p) H'
def spCsRun (C : Addr) (W : Hp → List (Str × V) → Int → List Int → Prop) : Sp := fun vs H Q _ => ∃ (a dx l : Addr) (fs : List (Str × V)) (w r c s : Int) (st v : List Int), vs = [.ref a, .ref l] ∧ H a = some (.ins C dx fs) ∧ W H fs w st ∧ FsOk fs ∧ fs.length < 50 ∧
  fs.lookup ("own_runs" : Str) = some (.int r) ∧ fs.lookup ("own_comparisons" : Str) = some (.int c) ∧ fs.lookup ("own_swaps" : Str) = some (.int s) ∧ H l = some (.lst (iv v)) ∧ (v.length : Int) = w ∧ StepsOk w st ∧ v.length ≤ 100 ∧ st.length ≤ 1000 ∧
  ∀ H' p, Same1 a H H' → H p = none → H' p = some (.lst (iv (runL st v))) →
    H' a = some (.ins C dx (putF "own_swaps" (.int (s + (exN st v : Nat))) (putF "own_comparisons" (.int (c + (st.length : Nat))) (putF "own_runs" (.int (r + 1)) fs)))) → Q (.ref p) H'
/-- a field read by a property -/
def spFld (C : Addr) (f : Str) : Sp := fun vs H Q _ => ∃ (a dx : Addr) (fs : List (Str × V)) (v : V), vs = [.ref a] ∧ H a = some (.ins C dx fs) ∧ fs.lookup f = some v ∧ Q v H
end
end NS
namespace NS
open PySem PySem.Spec PyProof.Rows L2

/-! ### defs as they stand behind the top -/
structure DefAt (K : PySem.W.Frag) (mg : Str → Option Value) (x y : Str) (st : Stmt) (ps : List Str) : Prop where
  ex : ∃ f fd, Fun K y y st f fd ∧ mg x = some (.ref f) ∧ Binds K fd ps []
structure MethAt (K : PySem.W.Frag) (C : Addr) (m qual : Str) (st : Stmt) (ps : List Str) : Prop where
  cl : Cls K C
  ex : ∃ f fd, Meth K C m f ∧ Fun K m qual st f fd ∧ Binds K fd ps []
structure PropAt (K : PySem.W.Frag) (C : Addr) (m qual : Str) (st : Stmt) : Prop where
  cl : Cls K C
  ex : ∃ p g fd, PropOf K C m p g ∧ Fun K m qual st g fd ∧ Binds K fd ["self"] []
structure InitAt (K : PySem.W.Frag) (mg : Str → Option Value) (x : Str) (C : Addr) (qual : Str) (st : Stmt) (ps : List Str) : Prop where
  nm : mg x = some (.ref C)
  ex : ∃ f fd, Mk K C f ∧ Fun K "__init__" qual st f fd ∧ Binds K fd ps []
structure Bi (mg : Str → Option Value) : Prop where
  isinstance : mg "isinstance" = none
  int : mg "int" = none
  bool : mg "bool" = none
  list : mg "list" = none
  tuple : mg "tuple" = none
  len : mg "len" = none
  enumerate : mg "enumerate" = none
  range : mg "range" = none
  super : mg "super" = none
  sorted : mg "sorted" = none
  set : mg "set" = none
  sum : mg "sum" = none
  max : mg "max" = none
  min : mg "min" = none
  abs : mg "abs" = none
section
variable {P : Program} {w : World} {K : PySem.W.Frag} {mg : Str → Option Value} {base : Heap} {k : Nat} {x y m qual : Str} {C : Addr} {st : Stmt} {N ps : List Str} {sp : Sp}
theorem DefAt.ok (D : DefAt K mg x y st ps) (S : FnScope N ps (defScope st)) (len : ∀ vs H Q E, sp vs H Q E → vs.length = ps.length)
    (hbody : ∀ (f : Addr) (cdv : Value) (A : Around) (outer : List Env) (s : Shared) (H : Hp) (vs : List V) (Q : VK) (E : XK), Room k (A.deeper (envOfC y (defScope st) s.heap.objs.size f cdv)) → sp vs H Q E →
      ∃ t, PSs (cxOf CX0 P w K mg base N y (defScope st) f cdv A outer s H E).nox (defBody st) t ∧ t { nx := fun _ H' => Q .non H', rt := Q } (start N vs) H) : DefOk P w K mg base (k + 1) x sp := by
  obtain ⟨f, fd, F, hm, b⟩ := D.ex
  exact ⟨f, hm, F.kp, FnOk.r (F.ok S len (hbody f)) b⟩
theorem MethAt.ok (D : MethAt K C m qual st ps) (S : FnScope N ps (defScope st)) (len : ∀ vs H Q E, sp vs H Q E → vs.length = ps.length)
    (hbody : ∀ (f : Addr) (cdv : Value) (A : Around) (outer : List Env) (s : Shared) (H : Hp) (vs : List V) (Q : VK) (E : XK), Room k (A.deeper (envOfC qual (defScope st) s.heap.objs.size f cdv)) → sp vs H Q E →
      ∃ t, PSs (cxOf CX0 P w K mg base N qual (defScope st) f cdv A outer s H E).nox (defBody st) t ∧ t { nx := fun _ H' => Q .non H', rt := Q } (start N vs) H) : MetOk P w K mg base (k + 1) C m sp := by
  obtain ⟨f, fd, me, F, b⟩ := D.ex
  exact ⟨D.cl, f, me, FnOk.r (F.ok S len (hbody f)) b⟩
theorem PropAt.ok (D : PropAt K C m qual st) (S : FnScope N ["self"] (defScope st)) (len : ∀ vs H Q E, sp vs H Q E → vs.length = ["self"].length)
    (hbody : ∀ (f : Addr) (cdv : Value) (A : Around) (outer : List Env) (s : Shared) (H : Hp) (vs : List V) (Q : VK) (E : XK), Room k (A.deeper (envOfC qual (defScope st) s.heap.objs.size f cdv)) → sp vs H Q E →
      ∃ t, PSs (cxOf CX0 P w K mg base N qual (defScope st) f cdv A outer s H E).nox (defBody st) t ∧ t { nx := fun _ H' => Q .non H', rt := Q } (start N vs) H) : PrpOk P w K mg base (k + 1) C m sp := by
  obtain ⟨p, g, fd, pr, F, b⟩ := D.ex
  exact ⟨D.cl, p, g, pr, FnOk.r (F.ok S len (hbody g)) b⟩
theorem InitAt.ok (D : InitAt K mg x C qual st ps) (S : FnScope N ps (defScope st)) (len : ∀ vs H Q E, sp vs H Q E → vs.length = ps.length)
    (hbody : ∀ (f : Addr) (cdv : Value) (A : Around) (outer : List Env) (s : Shared) (H : Hp) (vs : List V) (Q : VK) (E : XK), Room k (A.deeper (envOfC qual (defScope st) s.heap.objs.size f cdv)) → sp vs H Q E →
      ∃ t, PSs (cxOf CX0 P w K mg base N qual (defScope st) f cdv A outer s H E).nox (defBody st) t ∧ t { nx := fun _ H' => Q .non H', rt := Q } (start N vs) H) : MakOk P w K mg base (k + 1) x C sp := by
  obtain ⟨f, fd, M, F, b⟩ := D.ex
  exact ⟨D.nm, f, M, FnOk.r (F.ok S len (hbody f)) b⟩

/-! ### is_integer, is_any_integer -/
theorem scIsInt : FnScope ["value", "low", "high"] ["value", "low", "high"] (defScope sIsInt) := ⟨rfl, rfl, rfl, by decide +kernel, rfl, by decide +kernel, by decide +kernel⟩
theorem ok_isInt (D : DefAt K mg "is_integer" "is_integer" sIsInt ["value", "low", "high"]) (T : Bi mg) : DefOk P w K mg base 1 "is_integer" spIsInt := by
  refine D.ok scIsInt (fun vs H Q E h => ?_) (fun f cdv A outer s H vs Q E hr h => ?_)
  · obtain ⟨n, lo, hi, rfl, _⟩ := h
    rfl
  · obtain ⟨n, lo, hi, rfl, h1, h2, k⟩ := h
    refine ⟨_, pss_one (ps_ret (pe_and (pe_callB call_isi (by rfl) T.isinstance (by decide +kernel) (pa_cons (pv 0) (pa_cons (pe_bltn (v := .ty "int") (by rfl) T.int (by decide +kernel) rfl) pa_nil)))
      (pe_and (pe_not (pe_callB call_isi (by rfl) T.isinstance (by decide +kernel) (pa_cons (pv 0) (pa_cons (pe_bltn (v := .ty "bool") (by rfl) T.bool (by decide +kernel) rfl) pa_nil))))
        (pe_one (pe_chain op_le op_le (pv 1) (pv 0) (pv 2)))))), ?_⟩
    refine ⟨_, rfl, .int n, .ty "int", .type "int", .type "int", true, rfl, .ty _, .base (.int n), kit_ty (by decide +kernel), true, rfl, iteT ?_⟩
    refine ⟨_, rfl, .int n, .ty "bool", .type "int", .type "bool", false, rfl, .ty _, .base (.int n), kit_ty (by decide +kernel), false, rfl, true, rfl, iteT ?_⟩
    refine ⟨_, rfl, _, rfl, _, _, rfl, rfl, true, congrArg V.bl (decide_eq_true h1), iteT ?_⟩
    refine ⟨_, rfl, _, _, rfl, rfl, ?_⟩
    show Q (.bl (decide (n ≤ hi))) H
    rw [decide_eq_true h2]
    exact k
theorem scIsAny : FnScope ["value"] ["value"] (defScope sIsAny) := ⟨rfl, rfl, rfl, by decide +kernel, rfl, by decide +kernel, by decide +kernel⟩
theorem ok_isAny (D : DefAt K mg "is_any_integer" "is_any_integer" sIsAny ["value"]) (T : Bi mg) : DefOk P w K mg base 1 "is_any_integer" spIsAny := by
  refine D.ok scIsAny (fun vs H Q E h => ?_) (fun f cdv A outer s H vs Q E hr h => ?_)
  · obtain ⟨n, rfl, _⟩ := h
    rfl
  · obtain ⟨n, rfl, k⟩ := h
    refine ⟨_, pss_one (ps_ret (pe_and (pe_callB call_isi (by rfl) T.isinstance (by decide +kernel) (pa_cons (pv 0) (pa_cons (pe_bltn (v := .ty "int") (by rfl) T.int (by decide +kernel) rfl) pa_nil)))
      (pe_one (pe_not (pe_callB call_isi (by rfl) T.isinstance (by decide +kernel) (pa_cons (pv 0) (pa_cons (pe_bltn (v := .ty "bool") (by rfl) T.bool (by decide +kernel) rfl) pa_nil))))))), ?_⟩
    refine ⟨_, rfl, .int n, .ty "int", .type "int", .type "int", true, rfl, .ty _, .base (.int n), kit_ty (by decide +kernel), true, rfl, iteT ?_⟩
    exact ⟨_, rfl, .int n, .ty "bool", .type "int", .type "bool", false, rfl, .ty _, .base (.int n), kit_ty (by decide +kernel), false, rfl, k⟩

/-! ### check_integers, check_values -/
theorem iv_get {xs : List Int} {i : Nat} {y : V} (h : (iv xs)[i]? = some y) : ∃ n, xs[i]? = some n ∧ y = .int n := by
  rw [List.getElem?_map] at h
  cases e : xs[i]? with
  | none => rw [e] at h; cases h
  | some n => rw [e] at h; exact ⟨n, rfl, (Option.some.inj h).symm⟩
theorem scCkInts : FnScope ["values", "index", "value"] ["values"] (defScope sCkInts) := ⟨rfl, rfl, rfl, by decide +kernel, rfl, by decide +kernel, by decide +kernel⟩
theorem ok_ckInts (D : DefAt K mg "check_integers" "check_integers" sCkInts ["values"]) (T : Bi mg) (dAny : DefOk P w K mg base 1 "is_any_integer" spIsAny) : DefOk P w K mg base 2 "check_integers" (spCkInts K) := by
  refine D.ok scCkInts (fun vs H Q E h => ?_) (fun f cdv A outer s H vs Q E hr h => ?_)
  · obtain ⟨a, xs, rfl, _⟩ := h
    rfl
  · obtain ⟨a, xs, rfl, hS, k⟩ := h
    refine ⟨_, pss_one (ps_for PassesOwn.never rfl (pi_enum (by rfl) T.enumerate (pa_cons (pv 0) pa_nil))
      (pg_tup rfl (pgs_cons (pg_name (i := 1) scCkInts.nd rfl (.inl rfl)) (pgs_cons (pg_name (i := 2) scCkInts.nd rfl (.inl rfl)) pgs_nil)))
      (pss_one (ps_if (pt_not (pt_val (pe_d dAny hr (by decide) (by rfl) (pa_cons (pv 2) pa_nil)))) (pss_one ps_never) pss_nil))), ?_⟩
    refine ⟨_, rfl, a, _, rfl, hS, for_it walk_enum (fun i σ H' => ∃ v1 v2, σ = [some (.ref a), v1, v2] ∧ Same H H') ⟨none, none, rfl, Same.refl _⟩ (fun i σ H' _ ⟨_, _, _, e⟩ => e.seq hS) ?_ ?_⟩
    · rintro i y σ H1 H2 hi ⟨v1, v2, rfl, e⟩ ⟨p, x, z, rfl, hn, rfl, hx, hz⟩
      obtain ⟨n, _, rfl⟩ := iv_get hz
      have hx' : x = .int (i : Nat) := (Option.some.inj hx).symm
      subst hx'
      refine ⟨p, _, rfl, SqT.of upd_same, rfl, _, _, rfl, _, _, rfl, rfl, ?_⟩
      refine ⟨_, rfl, n, rfl, true, rfl, iteF ?_⟩
      exact ⟨_, _, rfl, e.trans (Same.new hn)⟩
    · rintro σ H1 ⟨v1, v2, rfl, e⟩
      exact k _ e
end
end NS
namespace NS
open PySem PySem.Spec PyProof.Rows L2
section
variable {P : Program} {w : World} {K : PySem.W.Frag} {mg : Str → Option Value} {base : Heap} {N : Addr}
theorem scCkVals : FnScope ["width", "values"] ["width", "values"] (defScope sCkVals) := ⟨rfl, rfl, rfl, by decide +kernel, rfl, by decide +kernel, by decide +kernel⟩
theorem ok_ckVals (D : DefAt K mg "check_values" "check_values" sCkVals ["width", "values"]) (T : Bi mg) (dInts : DefOk P w K mg base 2 "check_integers" (spCkInts K)) : DefOk P w K mg base 3 "check_values" (spCkVals) := by
  refine D.ok scCkVals (fun vs H Q E h => ?_) (fun f cdv A outer s H vs Q E hr h => ?_)
  · obtain ⟨n, a, xs, rfl, _⟩ := h
    rfl
  · obtain ⟨n, a, xs, rfl, hA, hn, k⟩ := h
    refine ⟨_, pss_cons (ps_if (PW.pt (pw_or (pt_not (pt_val (pe_callB call_isi (by rfl) T.isinstance (by decide +kernel) (pa_cons (pv 1) (pa_cons (pe_bltn (v := .ty "list") (by rfl) T.list (by decide +kernel) rfl) pa_nil)))))
        (pw_or1 (pt_cmpR op_ne (pe_callB call_len_seq (by rfl) T.len PySem.boot_len (pa_cons (pv 1) pa_nil)) (pv 0) (nomark _))))) (pss_one ps_never) pss_nil)
      (pss_one (ps_expr (pe_d dInts hr (by decide) (by rfl) (pa_cons (pv 1) pa_nil)))), ?_⟩
    refine ⟨_, rfl, .ref a, .ty "list", .type "list", .type "list", true, rfl, .ty _, .base (.lst hA), kit_ty (by decide +kernel), true, rfl, iteF ?_⟩
    refine ⟨_, rfl, a, _, rfl, .inl (SqL.of hA), _, rfl, rfl, _, rfl, iteNS (by rw [List.length_map, hn]) ?_⟩
    exact ⟨_, rfl, a, xs, rfl, SqL.of hA, fun H' e => k H' e⟩

theorem ixN_nat {n j : Nat} (h : j < n) : ixN n (j : Int) = some j := by
  unfold ixN
  rw [if_pos (by omega), if_pos (by omega)]
  simp
theorem ixN_of {n j : Nat} {z : Int} (e : z = (j : Int)) (h : j < n) : ixN n z = some j := by rw [e]; exact ixN_nat h
theorem iv_at {v : List Int} {i : Nat} (h : i < v.length) : (iv v)[i]? = some (V.int (v.getD i 0)) := by
  rw [List.getElem?_map, List.getElem?_eq_getElem h, List.getD_eq_getElem?_getD, List.getElem?_eq_getElem h]
  rfl
theorem scStepOn : FnScope ["values", "step", "left", "right"] ["values", "step"] (defScope sStepOn) := ⟨rfl, rfl, rfl, by decide +kernel, rfl, by decide +kernel, by decide +kernel⟩
theorem ok_stepOn (D : DefAt K mg "step_on" "step_on" sStepOn ["values", "step"]) : DefOk P w K mg base 1 "step_on" (spStepOn) := by
  refine D.ok scStepOn (fun vs H Q E h => ?_) (fun f cdv A outer s H vs Q E hr h => ?_)
  · obtain ⟨a, v, t, rfl, _⟩ := h
    rfl
  · obtain ⟨a, v, t, rfl, hA, h1, h2, hl, k⟩ := h
    obtain ⟨i, rfl⟩ : ∃ i : Nat, t = (i : Int) + 1 := ⟨(t - 1).toNat, by omega⟩
    have hi : i + 1 < v.length := by omega
    have ei : ((i : Int) + 1).toNat - 1 = i := by omega
    have eS : stepL v ((i : Int) + 1) = stepAt v i := by unfold stepL; rw [ei]
    have eW : swp v ((i : Int) + 1) = !decide (v.getD i 0 ≤ v.getD (i + 1) 0) := by unfold swp; rw [ei]
    rw [eS, eW] at k
    refine ⟨_, pss_cons (ps_par (by rfl) scStepOn.nd (i := 2) (j := 3) rfl rfl (by decide) rfl rfl
        (pa_cons (pe_ix ix_list (pv 0) (pe_op op_sub (pv 1) pe_int) (fun _ _ => rfl)) (pa_cons (pe_ix ix_list (pv 0) (pv 1) (fun _ _ => rfl)) pa_nil)) (by rfl))
      (pss_cons (ps_if (pt_cmpR op_le (pv 2) (pv 3) (nomark _)) (pss_one (ps_ret pe_bl)) pss_nil)
      (pss_cons (ps_asg (pe_tup (pa_cons (pv 3) (pa_cons (pv 2) pa_nil))) (pg_tup rfl (pgs_cons (pg_sub (pv 0) (pe_op op_sub (pv 1) pe_int) set_list) (pgs_cons (pg_sub (pv 0) (pv 1) set_list) pgs_nil))))
      (pss_one (ps_ret pe_bl)))), ?_⟩
    refine ⟨_, rfl, _, rfl, _, _, rfl, rfl, a, _, _, _, rfl, rfl, SqL.of hA, at_of (j := i) (by omega) (iv_at (by omega)), ?_⟩
    refine ⟨_, rfl, _, rfl, a, _, _, _, rfl, rfl, SqL.of hA, at_of (j := i + 1) (by omega) (iv_at hi), _, _, rfl, ?_⟩
    refine ⟨_, rfl, _, rfl, _, _, rfl, rfl, _, rfl, ?_⟩
    refine ite2 (fun hc => ?_) (fun hc => ?_)
    · have hle := of_decide_eq_true hc
      have e1 : stepAt v i = v := by unfold stepAt; rw [if_pos hle]
      have e2 : (!decide (v.getD i 0 ≤ v.getD (i + 1) 0)) = false := by rw [hc]; rfl
      rw [e1, e2] at k
      exact k H (fun _ _ _ h => h) hA
    · have hnle : ¬ v.getD i 0 ≤ v.getD (i + 1) 0 := fun z => hc (decide_eq_true z)
      have e1 : stepAt v i = (v.set i (v.getD (i + 1) 0)).set (i + 1) (v.getD i 0) := by unfold stepAt; rw [if_neg hnle]
      have e2 : (!decide (v.getD i 0 ≤ v.getD (i + 1) 0)) = true := by rw [decide_eq_false hnle]; rfl
      rw [e1, e2] at k
      refine ⟨_, rfl, _, rfl, by show 2 ≤ sizeLine; decide, fun p hp => ?_⟩
      have nap : a ≠ p := ne_of_none hA hp
      refine ⟨p, _, rfl, SqT.of upd_same, rfl, _, _, rfl, _, rfl, _, rfl, _, _, rfl, rfl, a, _, _, i, rfl, rfl, (upd_ne nap).trans hA, ixN_of (by omega) (by rw [List.length_map]; omega), ?_⟩
      refine ⟨_, _, rfl, _, rfl, _, rfl, a, _, _, i + 1, rfl, rfl, upd_same, ixN_of (by omega) (by rw [List.length_set, List.length_map]; omega), rfl, ?_⟩
      refine k _ (fun b o n e => ?_) ?_
      · rw [upd_ne n, upd_ne n, upd_ne (ne_of_none e hp)]
        exact e
      · rw [upd_same, iv, iv, List.map_set, List.map_set]

theorem scResultOf : FnScope ["steps", "values", "result", "step"] ["steps", "values"] (defScope sResultOf) := ⟨rfl, rfl, rfl, by decide +kernel, rfl, by decide +kernel, by decide +kernel⟩
theorem ok_resultOf (D : DefAt K mg "result_of" "result_of" sResultOf ["steps", "values"]) (T : Bi mg) (dStep : DefOk P w K mg base 1 "step_on" spStepOn) : DefOk P w K mg base 2 "result_of" (spResultOf K) := by
  refine D.ok scResultOf (fun vs H Q E h => ?_) (fun f cdv A outer s H vs Q E hr h => ?_)
  · obtain ⟨t, a, st, v, rfl, _⟩ := h
    rfl
  · obtain ⟨t, a, st, v, rfl, hT, hA, hok, hl, k⟩ := h
    refine ⟨_, pss_cons (ps_set (i := 2) scResultOf.nd rfl (.inl rfl) (pe_callTy call_list_of (by rfl) T.list (by decide +kernel) (pa_cons (pv 1) pa_nil)))
      (pss_cons (ps_for PassesOwn.never rfl (pi_tup (pv 0)) (pg_name (i := 3) scResultOf.nd rfl (.inl rfl)) (pss_one (ps_expr (pe_d dStep hr (by decide) (by rfl) (pa_cons (pv 2) (pa_cons (pv 3) pa_nil))))))
      (pss_one (ps_ret (pv 2)))), ?_⟩
    refine ⟨_, rfl, a, _, rfl, .inl hA, fun p hp => ?_⟩
    refine ⟨_, rfl, t, rfl, ⟨_, (Same.new hp).seqT hT⟩, for_tup (K := K) (a := t) (xs := iv st) (fun i σ H' => ∃ v3, σ = [some (.ref t), some (.ref a), some (.ref p), v3] ∧ Same H H' ∧ H' p = some (.lst (iv (runL (st.take i) v))))
      ⟨none, rfl, Same.new hp, upd_same⟩ (fun i σ H' _ ⟨_, _, e, _⟩ => e.seqT hT) ?_ ?_⟩
    · rintro i y σ H1 hi ⟨v3, rfl, e, hp1⟩
      obtain ⟨n, hn, rfl⟩ := iv_get hi
      have hs := hok n (List.mem_of_getElem? hn)
      have hlen : (runL (st.take i) v).length = v.length := runL_len _ _
      refine ⟨_, rfl, _, rfl, p, _, n, rfl, hp1, hs.1, by rw [hlen]; exact hs.2, by rw [hlen]; exact hl, fun H2 e2 hp2 => ?_⟩
      exact ⟨_, rfl, Same1.fresh e hp e2, by rw [take_snoc hn, runL_snoc]; exact hp2⟩
    · rintro σ H1 ⟨v3, rfl, e, hp1⟩
      rw [List.length_map, List.take_length] at hp1
      exact ⟨_, rfl, k H1 p e hp hp1⟩

theorem scRun : FnScope ["network", "values"] ["network", "values"] (defScope sRun) := ⟨rfl, rfl, rfl, by decide +kernel, rfl, by decide +kernel, by decide +kernel⟩
theorem ok_run {x : Str} (D : DefAt K mg x "run" sRun ["network", "values"]) (dVals : DefOk P w K mg base 3 "check_values" spCkVals) (dRes : DefOk P w K mg base 2 "result_of" (spResultOf K))
    (pW : PrpOk P w K mg base 1 N "width" (spNtWidth N)) (pS : PrpOk P w K mg base 1 N "steps" (spNtSteps N)) : DefOk P w K mg base 4 x (spRun N) := by
  refine D.ok scRun (fun vs H Q E h => ?_) (fun f cdv A outer s H vs Q E hr h => ?_)
  · obtain ⟨n, a, w, st, v, rfl, _⟩ := h
    rfl
  · obtain ⟨n, a, wd, st, v, rfl, hN, hA, hw, hok, hl, k⟩ := h
    obtain ⟨dx, t, hn, ht⟩ := id hN
    refine ⟨_, pss_cons (ps_expr (pe_d dVals hr (by decide) (by rfl) (pa_cons (pe_p pW hr (by decide) (pv 0)) (pa_cons (pv 1) pa_nil))))
      (pss_one (ps_ret (pe_d dRes hr (by decide) (by rfl) (pa_cons (pe_p pS hr (by decide) (pv 0)) (pa_cons (pv 1) pa_nil))))), ?_⟩
    refine ⟨_, rfl, n, dx, _, rfl, hn, n, dx, t, wd, rfl, hn, _, rfl, wd, a, v, rfl, hA, hw, fun H1 e1 => ?_⟩
    refine ⟨_, rfl, n, dx, _, rfl, e1 _ _ hn, n, dx, t, wd, rfl, e1 _ _ hn, _, rfl, t, a, st, v, rfl, SqT.of (e1 _ _ ht), SqL.of (e1 _ _ hA), by rw [hw]; exact hok, hl, fun H2 p e2 hp hp2 => ?_⟩
    exact k H2 p (e1.trans e2) (e1.free hp) hp2

theorem scExch : FnScope ["network", "values", "current", "result", "index", "step"] ["network", "values"] (defScope sExch) := ⟨rfl, rfl, rfl, by decide +kernel, rfl, by decide +kernel, by decide +kernel⟩
theorem ok_exch (D : DefAt K mg "exchanges" "exchanges" sExch ["network", "values"]) (T : Bi mg) (dVals : DefOk P w K mg base 3 "check_values" spCkVals) (dStep : DefOk P w K mg base 1 "step_on" spStepOn)
    (pW : PrpOk P w K mg base 1 N "width" (spNtWidth N)) (pS : PrpOk P w K mg base 1 N "steps" (spNtSteps N)) : DefOk P w K mg base 4 "exchanges" (spExch N) := by
  refine D.ok scExch (fun vs H Q E h => ?_) (fun f cdv A outer s H vs Q E hr h => ?_)
  · obtain ⟨n, a, w, st, v, rfl, _⟩ := h
    rfl
  · obtain ⟨n, a, wd, st, v, rfl, hN, hA, hw, hok, hl, hsl, k⟩ := h
    obtain ⟨dx, t, hn, ht⟩ := id hN
    refine ⟨_, pss_cons (ps_expr (pe_d dVals hr (by decide) (by rfl) (pa_cons (pe_p pW hr (by decide) (pv 0)) (pa_cons (pv 1) pa_nil))))
      (pss_cons (ps_set (i := 2) scExch.nd rfl (.inl rfl) (pe_callTy call_list_of (by rfl) T.list (by decide +kernel) (pa_cons (pv 1) pa_nil)))
      (pss_cons (ps_set (i := 3) scExch.nd rfl (.inl rfl) (pe_lst pa_nil))
      (pss_cons (ps_for PassesOwn.never rfl (pi_enumT (by rfl) T.enumerate (pa_cons (pe_p pS hr (by decide) (pv 0)) pa_nil))
        (pg_tup rfl (pgs_cons (pg_name (i := 4) scExch.nd rfl (.inl rfl)) (pgs_cons (pg_name (i := 5) scExch.nd rfl (.inl rfl)) pgs_nil)))
        (pss_one (ps_if (pt_val (pe_d dStep hr (by decide) (by rfl) (pa_cons (pv 2) (pa_cons (pv 5) pa_nil))))
          (pss_one (ps_expr (pe_bm PySem.F.plainAttrs_list PySem.F.slot_list_append PySem.F.type_list_append mt_append (pv 3) (pa_cons (pv 4) pa_nil)))) pss_nil)))
      (pss_one (ps_ret (pv 3)))))), ?_⟩
    refine ⟨_, rfl, n, dx, _, rfl, hn, n, dx, t, wd, rfl, hn, _, rfl, wd, a, v, rfl, hA, hw, fun H1 e1 => ?_⟩
    refine ⟨_, rfl, a, _, rfl, .inl (SqL.of (e1 _ _ hA)), fun c hc => ?_⟩
    refine ⟨Nat.zero_le _, fun r hr0 => ?_⟩
    have e2 : Same H (upd (upd H1 c (.lst (iv v))) r (.lst [])) := (e1.trans (Same.new hc)).trans (Same.new hr0)
    have ncr : c ≠ r := ne_of_none upd_same hr0
    refine ⟨_, rfl, n, dx, _, rfl, e2 _ _ hn, n, dx, t, wd, rfl, e2 _ _ hn, t, _, rfl, SqT.of (e2 _ _ ht),
      for_it walk_enumT (fun i σ H' => ∃ v4 v5 zs, σ = [some (.ref n), some (.ref a), some (.ref c), some (.ref r), v4, v5] ∧ Same H H' ∧ H' c = some (.lst (iv (runL (st.take i) v))) ∧ H' r = some (.lst zs) ∧ zs.length = exN (st.take i) v)
      ⟨none, none, [], rfl, e2, (upd_ne ncr).trans upd_same, upd_same, rfl⟩ (fun i σ H' _ ⟨_, _, _, _, e, _⟩ => SqT.of (e _ _ ht)) ?_ ?_⟩
    · rintro i y σ H2 H3 hi ⟨v4, v5, zs, rfl, e, hc2, hr2, hz⟩ ⟨p, x, z, rfl, hpn, rfl, hx, hzz⟩
      obtain ⟨m, hm, rfl⟩ := iv_get hzz
      have hx' : x = .int (i : Nat) := (Option.some.inj hx).symm
      subst hx'
      have hs := hok m (List.mem_of_getElem? hm)
      have hlen : (runL (st.take i) v).length = v.length := runL_len _ _
      have hi' : i < st.length := (List.getElem?_eq_some_iff.mp hm).1
      have e3 : Same H2 (upd H2 p (.tup [.int (i : Nat), .int m])) := Same.new hpn
      refine ⟨p, _, rfl, SqT.of upd_same, rfl, _, _, rfl, _, _, rfl, rfl, ?_⟩
      refine ⟨_, rfl, _, rfl, c, _, m, rfl, e3 _ _ hc2, hs.1, by rw [hlen, hw]; exact hs.2, by rw [hlen]; exact hl, fun H4 e4 hc4 => ?_⟩
      have hc' : ∀ o, H o = none → True := fun _ _ => trivial
      have hr4 : H4 r = some (.lst zs) := e4 _ _ ncr.symm (e3 _ _ hr2)
      have hcn : H c = none := e1.free hc
      have hrn : H r = none := (e1.trans (Same.new hc)).free hr0
      have e5 : Same H H4 := Same1.fresh (e.trans e3) hcn e4
      refine ⟨_, rfl, ite2 (fun hb => ?_) (fun hb => ?_)⟩
      · refine ⟨_, rfl, .inl ⟨rfl, _, SqL.of hr4⟩, _, rfl, r, _, _, rfl, rfl, hr4, ?_, ?_⟩
        · rw [hz]
          have : exN (st.take i) v ≤ (st.take i).length := exN_le _ _
          rw [List.length_take] at this
          exact Nat.lt_of_le_of_lt this (Nat.lt_of_le_of_lt (Nat.min_le_left _ _) (Nat.lt_of_lt_of_le hi' (Nat.le_trans hsl (by decide))))
        · refine ⟨_, _, _, rfl, Same1.fresh e5 hrn Same1.upd, (upd_ne ncr).trans (by rw [take_snoc hm, runL_snoc]; exact hc4), upd_same, ?_⟩
          rw [List.length_append, List.length_singleton, hz, take_snoc hm, exN_snoc, if_pos hb]
      · refine ⟨_, _, _, rfl, e5, by rw [take_snoc hm, runL_snoc]; exact hc4, hr4, ?_⟩
        rw [hz, take_snoc hm, exN_snoc, if_neg hb]
        omega
    · rintro σ H2 ⟨v4, v5, zs, rfl, e, hc2, hr2, hz⟩
      have hrn : H r = none := (e1.trans (Same.new hc)).free hr0
      rw [List.length_map, List.take_length] at hz
      exact ⟨_, rfl, k H2 r zs e hrn hr2 hz⟩
end
end NS
namespace NS
open PySem PySem.Spec PyProof.Rows L2
/-! ### the class Network as a value -/
structure NetCls (K : PySem.W.Frag) (mg : Str → Option Value) (N : Addr) : Prop where
  nm : mg "Network" = some (.ref N)
  cl : Cls K N
  nW : NoAttr K N "own_width"
  nS : NoAttr K N "own_steps"
  rd : ∃ mc, ClX.CRead K N mc ∧ (∃ u, ClX.CVal K N mc "MAX_WIDTH" (.int 40) u) ∧ ∃ u, ClX.CVal K N mc "MAX_STEPS" (.int 1000) u
structure CmAt (K : PySem.W.Frag) (C : Addr) (m qual : Str) (st : Stmt) (ps : List Str) : Prop where
  ex : ∃ mc p g fd, ClX.CRead K C mc ∧ ClX.CMet K C mc m p g ∧ Fun K m qual st g fd ∧ Binds K fd ps []
structure CmOk (P : Program) (w : World) (K : PySem.W.Frag) (mg : Str → Option Value) (base : Heap) (k : Nat) (C : Addr) (m : Str) (sp : Sp) : Prop where
  ex : ∃ mc p g, ClX.CRead K C mc ∧ ClX.CMet K C mc m p g ∧ FnR P w K mg base CX0 k g sp
section
variable {X : Cx} {k j : Nat} {C : Addr} {m : Str} {sp : Sp} {o e : Expr} {es : List Expr} {pos apos : Pos} {ta : TE} {t : TA} {pl : Sem Bool}
theorem pe_cm (c : CmOk X.prog X.w X.K X.mg X.base k C m sp) (hr : Room j X.A) (hk : k ≤ j) (he : PE X o ta) (ha : PA X (e :: es) t)
    (hst : starEach (e :: es) X.env = (false, eval e X.env) :: starEach es X.env := by rfl) (hpl : (backTo pos (starEach es X.env)).any (·.1) = false := by rfl)
    (ht : eval (.Call (.Attribute o m apos) (e :: es) [] pos) X.env = (do
      let ov ← eval o X.env
      standAt apos.atName
      let (f, first) ← holding [ov] (getMethod ov m pl)
      callWith pos f first (backTo pos (starEach (e :: es) X.env)) (backToKw pos (keywordEach [] X.env))) := by rfl) :
    PE X (.Call (.Attribute o m apos) (e :: es) [] pos) (ClX.tCMeth C sp E0 ta t) := by
  obtain ⟨mc, p, g, r, cm, F⟩ := c.ex
  exact ClX.pe_cmeth (pl := pl) he r cm F (hr.mono hk) pass0 ha hst hpl ht
end
theorem cxnew0 : CXNew CX0 := by
  intro outer s H h2 p rest E e s1 a b c d
  first
  | exact d.elim
  | exact False.elim d
/-- m( *e) of a method that takes any number of arguments -/
structure VarAt (K : PySem.W.Frag) (C : Addr) (m qual : Str) (st : Stmt) (pa pv : Str) : Prop where
  cl : Cls K C
  ex : ∃ f fd, BMeth K C m f ∧ Fun K m qual st f fd ∧ ∀ (u : Value) (rest : List Value), bindArgs fd ⟨u :: rest, []⟩ = (newTuple rest >>= fun t => pure [(pa, u), (pv, t)])
structure VarOk (P : Program) (w : World) (K : PySem.W.Frag) (mg : Str → Option Value) (base : Heap) (k : Nat) (C : Addr) (m : Str) (sp : Sp) : Prop where
  cl : Cls K C
  ex : ∃ f, BMeth K C m f ∧ FnR P w K mg base CX0 k f sp
section
variable {P : Program} {w : World} {K : PySem.W.Frag} {mg : Str → Option Value} {base : Heap} {N C : Addr} {k : Nat} {m qual : Str} {st : Stmt} {Ns : List Str} {pa pv : Str} {sp : Sp}
theorem VarAt.ok (D : VarAt K C m qual st pa pv) (S : FnScope Ns [pa, pv] (defScope st))
    (hbody : ∀ (f : Addr) (cdv : Value) (A : Around) (outer : List Env) (s : Shared) (H : Hp) (vs : List V) (Q : VK) (E : XK), Room k (A.deeper (envOfC qual (defScope st) s.heap.objs.size f cdv)) → sp vs H Q E →
      ∃ t, PSs (cxOf CX0 P w K mg base Ns qual (defScope st) f cdv A outer s H E).nox (defBody st) t ∧ t { nx := fun _ H' => Q .non H', rt := Q } (start Ns vs) H) :
    VarOk P w K mg base (k + 1) C m (fun vs H Q E => ∃ v rest, vs = v :: rest ∧ rest.length ≤ 100 ∧ ∀ p, H p = none → sp [v, .ref p] (upd H p (.tup rest)) Q E) := by
  obtain ⟨f, fd, me, F, hb⟩ := D.ex
  obtain ⟨oc, od, kV, doc, pm, an, cdv, ct, osl, rfl, lk, hcd⟩ := F.ex
  refine ⟨D.cl, f, me, fn_ofV lk hcd S (nmax := 100) (by decide) (fun u rest _ => hb u rest) cxnew0 fun A outer s H vs Q E hr hsp => ?_⟩
  obtain ⟨t, h, q⟩ := hbody f cdv A outer s H vs Q E hr hsp
  exact ⟨t, h.nox, q⟩
theorem VarOk.imp {sp' : Sp} (c : VarOk P w K mg base k C m sp) (h : ∀ vs H Q E, sp' vs H Q E → sp vs H Q E) : VarOk P w K mg base k C m sp' :=
  let ⟨f, b, F⟩ := c.ex
  ⟨c.cl, f, b, F.imp h⟩
theorem VarOk.met (c : VarOk P w K mg base k C m sp) : MetOk P w K mg base k C m sp :=
  let ⟨f, b, F⟩ := c.ex
  ⟨c.cl, f, b.mt, F⟩
end
section
variable {P : Program} {w : World} {K : PySem.W.Frag} {mg : Str → Option Value} {base : Heap} {N : Addr}
theorem scCkWidth : FnScope ["width"] ["width"] (defScope sCkWidth) := ⟨rfl, rfl, rfl, by decide +kernel, rfl, by decide +kernel, by decide +kernel⟩
theorem ok_ckWidth (D : DefAt K mg "check_width" "check_width" sCkWidth ["width"]) (T : NetCls K mg N) (dInt : DefOk P w K mg base 1 "is_integer" spIsInt) : DefOk P w K mg base 2 "check_width" spCkWidth := by
  refine D.ok scCkWidth (fun vs H Q E h => ?_) (fun f cdv A outer s H vs Q E hr h => ?_)
  · obtain ⟨n, rfl, _⟩ := h
    rfl
  · obtain ⟨n, rfl, h1, h2, k⟩ := h
    obtain ⟨mc, rd, ⟨u, cw⟩, _⟩ := T.rd
    refine ⟨_, pss_one (ps_if (pt_not (pt_val (pe_d dInt hr (by decide) (by rfl) (pa_cons (pv 0) (pa_cons pe_int (pa_cons (ClX.pe_cval (pe_glob (v := .ref N) (by rfl) T.nm rfl)) pa_nil)))))) (pss_one ps_never) pss_nil), ?_⟩
    exact ⟨_, rfl, N, mc, .int 40, u, rfl, rd, cw, n, 1, 40, rfl, h1, h2, true, rfl, iteF k⟩
theorem scCkSteps : FnScope ["width", "steps", "index", "step"] ["width", "steps"] (defScope sCkSteps) := ⟨rfl, rfl, rfl, by decide +kernel, rfl, by decide +kernel, by decide +kernel⟩
theorem kit_lt : PySem.W.kitAny K (.type "list") [.type "list", .type "tuple"] = some true := kitAny_cons (b := true) (kit_ty (by decide +kernel)) (fun h => nomatch h) fun _ => rfl
theorem ok_ckSteps (D : DefAt K mg "check_steps" "check_steps" sCkSteps ["width", "steps"]) (B : Bi mg) (T : NetCls K mg N) (dInt : DefOk P w K mg base 1 "is_integer" spIsInt) : DefOk P w K mg base 2 "check_steps" spCkSteps := by
  refine D.ok scCkSteps (fun vs H Q E h => ?_) (fun f cdv A outer s H vs Q E hr h => ?_)
  · obtain ⟨n, l, st, rfl, _⟩ := h
    rfl
  · obtain ⟨n, l, st, rfl, hl, hok, hz, k⟩ := h
    obtain ⟨mc, rd, _, ⟨u, cw⟩⟩ := T.rd
    refine ⟨_, pss_cons (ps_if (PW.pt (pw_or (pt_not (pt_val (pe_callB call_isiT (by rfl) B.isinstance (by decide +kernel) (pa_cons (pv 1) (pa_cons (pe_tup (pa_cons (pe_bltn (v := .ty "list") (by rfl) B.list (by decide +kernel) rfl) (pa_cons (pe_bltn (v := .ty "tuple") (by rfl) B.tuple (by decide +kernel) rfl) pa_nil))) pa_nil)))))
        (pw_or1 (pt_cmpR op_gt (pe_callB call_len_seq (by rfl) B.len PySem.boot_len (pa_cons (pv 1) pa_nil)) (ClX.pe_cval (pe_glob (v := .ref N) (by rfl) T.nm rfl)) (nomark _))))) (pss_one ps_never) pss_nil)
      (pss_one (ps_for PassesOwn.never rfl (pi_enum (by rfl) B.enumerate (pa_cons (pv 1) pa_nil))
        (pg_tup rfl (pgs_cons (pg_name (i := 2) scCkSteps.nd rfl (.inl rfl)) (pgs_cons (pg_name (i := 3) scCkSteps.nd rfl (.inl rfl)) pgs_nil)))
        (pss_one (ps_if (pt_not (pt_val (pe_d dInt hr (by decide) (by rfl) (pa_cons (pv 3) (pa_cons pe_int (pa_cons (pe_op op_sub (pv 0) pe_int) pa_nil)))))) (pss_one ps_never) pss_nil)))), ?_⟩
    refine ⟨_, rfl, by show 2 ≤ sizeLine; decide, fun tp htp => ?_⟩
    have e1 : Same H (upd H tp (.tup [.ty "list", .ty "tuple"])) := Same.new htp
    refine ⟨.ref l, tp, _, .type "list", [.type "list", .type "tuple"], true, rfl, upd_same, .cons (.ty _) (.cons (.ty _) .nil), .base (.lst (e1 _ _ hl)), kit_lt, true, rfl, iteF ?_⟩
    refine ⟨_, rfl, l, _, rfl, .inl (SqL.of (e1 _ _ hl)), N, mc, .int 1000, u, rfl, rd, cw, _, _, rfl, rfl, _, rfl, ite2 (fun hc => ?_) (fun hc => ?_)⟩
    · have := of_decide_eq_true hc
      rw [List.length_map] at this
      omega
    · refine ⟨_, rfl, l, _, rfl, SqL.of (e1 _ _ hl), for_it walk_enum (fun i σ H' => ∃ v2 v3, σ = [some (.int n), some (.ref l), v2, v3] ∧ Same H H') ⟨none, none, rfl, e1⟩ (fun i σ H' _ ⟨_, _, _, e⟩ => SqL.of (e _ _ hl)) ?_ ?_⟩
      · rintro i y σ H1 H2 hi ⟨v1, v2, rfl, e⟩ ⟨p, x, z, rfl, hn, rfl, hx, hzz⟩
        obtain ⟨m, hm, rfl⟩ := iv_get hzz
        have hx' : x = .int (i : Nat) := (Option.some.inj hx).symm
        subst hx'
        have hs := hok m (List.mem_of_getElem? hm)
        refine ⟨p, _, rfl, SqT.of upd_same, rfl, _, _, rfl, _, _, rfl, rfl, ?_⟩
        refine ⟨_, rfl, _, rfl, _, _, rfl, rfl, m, 1, n - 1, rfl, hs.1, hs.2, true, rfl, iteF ?_⟩
        exact ⟨_, _, rfl, e.trans (Same.new hn)⟩
      · rintro σ H1 ⟨v1, v2, rfl, e⟩
        exact k _ e
theorem scCkCount : FnScope ["count"] ["count"] (defScope sCkCount) := ⟨rfl, rfl, rfl, by decide +kernel, rfl, by decide +kernel, by decide +kernel⟩
theorem ok_ckCount (D : DefAt K mg "check_count" "check_count" sCkCount ["count"]) (T : NetCls K mg N) : DefOk P w K mg base 1 "check_count" spCkCount := by
  refine D.ok scCkCount (fun vs H Q E h => ?_) (fun f cdv A outer s H vs Q E hr h => ?_)
  · obtain ⟨n, rfl, _⟩ := h
    rfl
  · obtain ⟨n, rfl, h1, k⟩ := h
    obtain ⟨mc, rd, _, ⟨u, cw⟩⟩ := T.rd
    refine ⟨_, pss_one (ps_if (pt_cmpR op_gt (pv 0) (ClX.pe_cval (pe_glob (v := .ref N) (by rfl) T.nm rfl)) (nomark _)) (pss_one ps_never) pss_nil), ?_⟩
    refine ⟨_, rfl, N, mc, .int 1000, u, rfl, rd, cw, _, _, rfl, rfl, _, rfl, ite2 (fun hc => ?_) (fun _ => k)⟩
    have := of_decide_eq_true hc
    omega
theorem scCkWidths : FnScope ["first", "second"] ["first", "second"] (defScope sCkWidths) := ⟨rfl, rfl, rfl, by decide +kernel, rfl, by decide +kernel, by decide +kernel⟩
theorem ok_ckWidths (D : DefAt K mg "check_widths" "check_widths" sCkWidths ["first", "second"]) (pW : PrpOk P w K mg base 1 N "width" (spNtWidth N)) : DefOk P w K mg base 3 "check_widths" (spCkWidths N) := by
  refine D.ok scCkWidths (fun vs H Q E h => ?_) (fun f cdv A outer s H vs Q E hr h => ?_)
  · obtain ⟨n, m, wd, st, su, rfl, _⟩ := h
    rfl
  · obtain ⟨n, m, wd, st, su, rfl, ⟨dx, t, h1, h2⟩, ⟨dy, u, h3, h4⟩, k⟩ := h
    refine ⟨_, pss_one (ps_if (pt_cmpR op_ne (pe_p pW hr (by decide) (pv 0)) (pe_p pW hr (by decide) (pv 1)) (nomark _)) (pss_one ps_never) pss_nil), ?_⟩
    exact ⟨_, rfl, n, dx, _, rfl, h1, n, dx, t, wd, rfl, h1, _, rfl, m, dy, _, rfl, h3, m, dy, u, wd, rfl, h3, rfl, _, rfl, iteNS rfl k⟩
/-! ### Network's own methods -/
theorem scNtInit : FnScope ["self", "width", "steps"] ["self", "width", "steps"] (defScope sNtInit) := ⟨rfl, rfl, rfl, by decide +kernel, rfl, by decide +kernel, by decide +kernel⟩
theorem ok_ntInit (D : InitAt K mg "Network" N "Network.__init__" sNtInit ["self", "width", "steps"]) (B : Bi mg) (T : NetCls K mg N) (dW : DefOk P w K mg base 2 "check_width" spCkWidth) (dS : DefOk P w K mg base 2 "check_steps" spCkSteps) : MakOk P w K mg base 3 "Network" N (spNtInit N) := by
  refine D.ok scNtInit (fun vs H Q E h => ?_) (fun f cdv A outer s H vs Q E hr h => ?_)
  · obtain ⟨p, dx, wd, l, st, rfl, _⟩ := h
    rfl
  · obtain ⟨p, dx, wd, l, st, rfl, hp, hl, h1, h2, hok, hz, k⟩ := h
    refine ⟨_, pss_cons (ps_expr (pe_d dW hr (by decide) (by rfl) (pa_cons (pv 1) pa_nil))) (pss_cons (ps_expr (pe_d dS hr (by decide) (by rfl) (pa_cons (pv 1) (pa_cons (pv 2) pa_nil))))
      (pss_cons (ps_fld (pv 0) (pv 1) rfl) (pss_one (ps_fld (pv 0) (pe_callTy call_tuple_of (by rfl) B.tuple (by decide +kernel) (pa_cons (pv 2) pa_nil)) rfl)))), ?_⟩
    refine ⟨_, rfl, wd, rfl, h1, h2, ?_⟩
    refine ⟨_, rfl, _, rfl, wd, l, st, rfl, hl, hok, hz, fun H1 e1 => ?_⟩
    have hp1 := e1 _ _ hp
    refine ⟨_, rfl, _, rfl, p, N, dx, _, rfl, hp1, T.cl, T.nW, (by show 0 < 1000; decide), ?_⟩
    have npl : l ≠ p := ne_of hl hp (by intro z; cases z)
    refine ⟨_, rfl, l, _, rfl, .inl ⟨SqL.of ((upd_ne npl).trans (e1 _ _ hl)), fun t ht => ?_⟩⟩
    have npt : p ≠ t := ne_of_none upd_same ht
    refine ⟨_, rfl, p, N, dx, _, rfl, (upd_ne npt).trans upd_same, T.cl, T.nS, (by rw [nf_put1]; show 1 < 1000; decide), ?_⟩
    refine k _ (fun b o n e => ?_) ⟨dx, t, ?_, ?_⟩
    · have hbt : b ≠ t := ne_of_none (show upd H1 p _ b = some o from (upd_ne n).trans (e1 _ _ e)) ht
      rw [upd_ne n, upd_ne hbt, upd_ne n]
      exact e1 _ _ e
    · rw [upd_same, nf_put1, nf_put2]
    · rw [upd_ne npt.symm, upd_same]
theorem mkNet {H1 : Hp} {Q : VK} {E : XK} {wd : Int} {l : Addr} {st : List Int} (hl : H1 l = some (.lst (iv st))) (h1 : 1 ≤ wd) (h2 : wd ≤ 40) (hok : StepsOk wd st) (hz : st.length ≤ 1000)
    (k : ∀ H' p, Same H1 H' → H1 p = none → NetAt N H' p wd st → Q (.ref p) H') (x dx : Addr) (nx : H1 x = none) (nd : H1 dx = none) (_ : dx ≠ x) :
    spNtInit N [V.ref x, .int wd, .ref l] (upd (upd H1 dx (.own x)) x (.ins N dx [])) (fun v H2 => v = .non ∧ Q (.ref x) H2) E :=
  ⟨x, dx, wd, l, st, rfl, upd_same, (upd_ne (ne_of_none hl nx)).trans ((upd_ne (ne_of_none hl nd)).trans hl), h1, h2, hok, hz, fun H' e hN =>
    ⟨rfl, k H' x (fun b o h => e b o (ne_of_none h nx) (by rw [upd_ne (ne_of_none h nx), upd_ne (ne_of_none h nd)]; exact h)) nx hN⟩⟩
theorem scNtWidth : FnScope ["self"] ["self"] (defScope sNtWidth) := ⟨rfl, rfl, rfl, by decide +kernel, rfl, by decide +kernel, by decide +kernel⟩
theorem ok_ntWidth (D : PropAt K N "width" "Network.width" sNtWidth) (T : NetCls K mg N) : PrpOk P w K mg base 1 N "width" (spNtWidth N) := by
  refine D.ok scNtWidth (fun vs H Q E h => ?_) (fun f cdv A outer s H vs Q E hr h => ?_)
  · obtain ⟨n, dx, t, wd, rfl, _⟩ := h
    rfl
  · obtain ⟨n, dx, t, wd, rfl, h1, k⟩ := h
    exact ⟨_, pss_one (ps_ret (pe_fld (pv 0) rfl)), _, rfl, n, N, dx, _, _, rfl, h1, T.cl, T.nW, nf_w _ _, k⟩
theorem scNtSteps : FnScope ["self"] ["self"] (defScope sNtSteps) := ⟨rfl, rfl, rfl, by decide +kernel, rfl, by decide +kernel, by decide +kernel⟩
theorem ok_ntSteps (D : PropAt K N "steps" "Network.steps" sNtSteps) (T : NetCls K mg N) : PrpOk P w K mg base 1 N "steps" (spNtSteps N) := by
  refine D.ok scNtSteps (fun vs H Q E h => ?_) (fun f cdv A outer s H vs Q E hr h => ?_)
  · obtain ⟨n, dx, t, wd, rfl, _⟩ := h
    rfl
  · obtain ⟨n, dx, t, wd, rfl, h1, k⟩ := h
    exact ⟨_, pss_one (ps_ret (pe_fld (pv 0) rfl)), _, rfl, n, N, dx, _, _, rfl, h1, T.cl, T.nS, nf_s _ _, k⟩
theorem scNtLen : FnScope ["self"] ["self"] (defScope sNtLen) := ⟨rfl, rfl, rfl, by decide +kernel, rfl, by decide +kernel, by decide +kernel⟩
theorem ok_ntLen (D : MethAt K N "__len__" "Network.__len__" sNtLen ["self"]) (B : Bi mg) (T : NetCls K mg N) : MetOk P w K mg base 1 N "__len__" (spNtLen N) := by
  refine D.ok scNtLen (fun vs H Q E h => ?_) (fun f cdv A outer s H vs Q E hr h => ?_)
  · obtain ⟨n, wd, st, rfl, _⟩ := h
    rfl
  · obtain ⟨n, wd, st, rfl, ⟨dx, t, h1, h2⟩, k⟩ := h
    refine ⟨_, pss_one (ps_ret (pe_callB call_len_seq (by rfl) B.len PySem.boot_len (pa_cons (pe_fld (pv 0) rfl) pa_nil))), _, rfl, n, N, dx, _, _, rfl, h1, T.cl, T.nS, nf_s _ _, t, _, rfl, .inr (SqT.of h2), ?_⟩
    rw [List.length_map]
    exact k
theorem scNtEmpty : FnScope ["cls", "width"] ["cls", "width"] (defScope sNtEmpty) := ⟨rfl, rfl, rfl, by decide +kernel, rfl, by decide +kernel, by decide +kernel⟩
theorem ok_ntEmpty (D : CmAt K N "empty" "Network.empty" sNtEmpty ["cls", "width"]) (mN : MakOk P w K mg base 3 "Network" N (spNtInit N)) : CmOk P w K mg base 5 N "empty" (spNtEmpty N) := by
  obtain ⟨mc, p, g, fd, r, cm, F, b⟩ := D.ex
  refine ⟨mc, p, g, r, cm, FnOk.r (F.ok scNtEmpty (fun vs H Q E h => ?_) (fun cdv A outer s H vs Q E hr h => ?_)) b⟩
  · obtain ⟨wd, rfl, _⟩ := h
    rfl
  · obtain ⟨wd, rfl, h1, h2, k⟩ := h
    refine ⟨_, pss_one (ps_ret (pe_kL (i := 0) mN hr (by decide) rfl (.inl rfl) (pa_cons (pv 1) (pa_cons (pe_lst pa_nil) pa_nil)))), ?_⟩
    refine ⟨rfl, _, rfl, Nat.zero_le _, fun l hl => ?_⟩
    exact mkNet (st := []) upd_same h1 h2 StepsOk.nil (Nat.zero_le _) fun H' q e hq hN => k H' q ((Same.new hl).trans e) ((Same.new hl).free hq) hN
theorem scNtWithout : FnScope ["self", "indices", "index", "step"] ["self", "indices"] (defScope sNtWithout) := ⟨rfl, rfl, rfl, by decide +kernel, rfl, by decide +kernel, by decide +kernel⟩
theorem iv_snoc (a : List Int) (m : Int) : iv (a ++ [m]) = iv a ++ [V.int m] := by
  show List.map V.int (a ++ [m]) = _
  rw [List.map_append]
  rfl
theorem inV_int (i : Int) (fs : List Int) : inV (.int i) (iv fs) = decide (i ∈ fs) := by
  induction fs with
  | nil => rfl
  | cons a r ih =>
    show (eqV (V.int a) (.int i) || inV (.int i) (iv r)) = _
    rw [ih]
    have e : eqV (V.int a) (.int i) = decide (a = i) := by
      first
      | rfl
      | (unfold eqV; rfl)
      | (unfold eqV; exact Bool.beq_eq_decide_eq _ _)
    rw [e]
    by_cases h : a = i
    · subst h
      simp
    · have h' : ¬ i = a := fun z => h z.symm
      simp [h, h']
theorem flat_iv (fs : List Int) : (iv fs).all flatV = true := by
  rw [List.all_map, List.all_eq_true]
  intro x _
  rfl
theorem ok_ntWithout (D : VarAt K N "without" "Network.without" sNtWithout "self" "indices") (B : Bi mg) (T : NetCls K mg N) (dInt : DefOk P w K mg base 1 "is_integer" spIsInt) (mN : MakOk P w K mg base 3 "Network" N (spNtInit N)) : VarOk P w K mg base 5 N "without" (spNtWithout N) := by
  refine (D.ok (sp := fun vs H Q E => ∃ (n p : Addr) (wd : Int) (st fs : List Int), vs = [.ref n, .ref p] ∧ H p = some (.tup (iv fs)) ∧ NetAt N H n wd st ∧ 1 ≤ wd ∧ wd ≤ 40 ∧ StepsOk wd st ∧ st.length ≤ 1000 ∧ (∀ k ∈ fs, 0 ≤ k ∧ k < (st.length : Int)) ∧
    ∀ H' p, Same H H' → H p = none → NetAt N H' p wd (keep fs st) → Q (.ref p) H') scNtWithout (fun f cdv A outer s H vs Q E hr h => ?_)).imp fun vs H Q E h => ?_
  · obtain ⟨n, p, wd, st, fs, rfl, hp, ⟨dx, t, hn, ht⟩, h1, h2, hok, hz, hfs, k⟩ := h
    refine ⟨_, pss_cons (ps_for PassesOwn.never rfl (pi_tup (pv 1)) (pg_name (i := 2) scNtWithout.nd rfl (.inl rfl))
        (pss_one (ps_if (pt_not (pt_val (pe_d dInt hr (by decide) (by rfl) (pa_cons (pv 2) (pa_cons pe_int (pa_cons (pe_op op_sub (pe_callB call_len_seq (by rfl) B.len PySem.boot_len (pa_cons (pe_fld (pv 0) rfl) pa_nil)) pe_int) pa_nil)))))) (pss_one ps_never) pss_nil)))
      (pss_one (ps_ret (pe_k mN hr (by decide) (by rfl) (pa_cons (pe_fld (pv 0) rfl) (pa_cons (pe_lc (own := [("index", 2), ("step", 3)]) (g := gTup K 2 (gCons (gName 2) (gCons (gName 3) gNil))) (by rfl) scNtWithout.nd (pi_enumT (by rfl) B.enumerate (pa_cons (pe_fld (pv 0) rfl) pa_nil)) (blkOk_by (N := ["self", "indices", "index", "step"]) (sc := defScope sNtWithout) (by decide +kernel))
        (fun _ _ _ _ _ => pg_tup rfl (pgs_cons (pg_name (i := 2) scNtWithout.nd rfl (.inl rfl)) (pgs_cons (pg_name (i := 3) scNtWithout.nd rfl (.inl rfl)) pgs_nil)))
        (fun _ _ _ _ _ => pts_one (pt_cmpR (r := rIn K true) op_notIn_seq (pv 2) (pv 1) (by rfl))) (fun _ _ _ _ _ => pv 3)) pa_nil))))), ?_⟩
    refine ⟨_, rfl, p, rfl, ⟨_, SqT.of hp⟩, for_tup (K := K) (a := p) (xs := iv fs) (fun i σ H' => ∃ v2, σ = [some (.ref n), some (.ref p), v2, none] ∧ H' = H) ⟨none, rfl, rfl⟩ (fun i σ H' _ ⟨_, _, e⟩ => by rw [e]; exact SqT.of hp) ?_ ?_⟩
    · rintro i y σ H1 hi ⟨v2, rfl, rfl⟩
      obtain ⟨m, hm, rfl⟩ := iv_get hi
      have hmf := hfs m (List.mem_of_getElem? hm)
      refine ⟨_, rfl, _, rfl, n, N, dx, _, _, rfl, hn, T.cl, T.nS, nf_s _ _, t, _, rfl, .inr (SqT.of ht), _, _, rfl, rfl, m, 0, _, rfl, hmf.1, by rw [List.length_map]; omega, true, rfl, iteF ?_⟩
      exact ⟨_, rfl, rfl⟩
    · rintro σ H1 ⟨v2, rfl, rfl⟩
      refine ⟨_, rfl, n, N, dx, _, _, rfl, hn, T.cl, T.nW, nf_w _ _, ?_⟩
      refine ⟨_, rfl, n, N, dx, _, _, rfl, hn, T.cl, T.nS, nf_s _ _, t, _, rfl, SqT.of ht, fun D hD => ?_⟩
      refine lc_it walk_enumT (fun i H' => Same H1 H' ∧ H' D = some (.lst (iv (keep fs (st.take i))))) ⟨Same.new hD, upd_same⟩ (fun i H' _ e => SqT.of (e.1 _ _ ht)) ?_ ?_
      · rintro i y H2 H3 hi ⟨e, hd⟩ ⟨q, x, z, rfl, hq, rfl, hx, hzz⟩
        obtain ⟨m, hm, rfl⟩ := iv_get hzz
        have hx' : x = .int (i : Nat) := (Option.some.inj hx).symm
        subst hx'
        have e3 : Same H1 (upd H2 q (.tup [.int (i : Nat), .int m])) := e.trans (Same.new hq)
        have hd3 : upd H2 q (.tup [.int (i : Nat), .int m]) D = some (.lst (iv (keep fs (st.take i)))) := (Same.new hq) _ _ hd
        refine ⟨q, _, rfl, SqT.of upd_same, rfl, _, _, rfl, _, _, rfl, rfl, rfl, ?_⟩
        refine ⟨_, rfl, _, rfl, p, _, rfl, .inr (SqT.of (e3 _ _ hp)), rfl, flat_iv _, _, rfl, ?_⟩
        show if (!inV (.int (i : Nat)) (iv fs)) = true then _ else _
        rw [inV_int]
        by_cases hf : ((i : Nat) : Int) ∈ fs
        · rw [decide_eq_true hf]
          refine iteF ⟨e3, ?_⟩
          rw [keep_snoc fs hm, if_pos (decide_eq_true hf), List.append_nil]
          exact hd3
        · rw [decide_eq_false hf]
          refine iteT ⟨_, rfl, _, hd3, ?_, ?_, ?_⟩
          · rw [List.length_map]
            exact Nat.lt_of_le_of_lt (keep_len _ _) (Nat.lt_of_le_of_lt (by rw [List.length_take]; exact Nat.min_le_right _ _) (Nat.lt_of_le_of_lt hz (by decide)))
          · exact Same1.fresh e3 hD Same1.upd
          · rw [upd_same, keep_snoc fs hm, if_neg (by simp [hf]), iv_snoc]
      · rintro H2 ⟨e, hd⟩
        rw [List.length_map, List.take_length] at hd
        exact mkNet hd h1 h2 (keep_ok fs hok) (Nat.le_trans (keep_len _ _) hz) fun H' q e2 hq hN => k H' q (e.trans e2) (e.free hq) hN
  · obtain ⟨n, wd, st, fs, rfl, hl, hN, h1, h2, hok, hz, hfs, k⟩ := h
    refine ⟨_, _, rfl, by rw [List.length_map]; omega, fun p hp => ⟨n, p, wd, st, fs, rfl, upd_same, hN.same (Same.new hp), h1, h2, hok, hz, hfs, fun H' q e hq hN' => ?_⟩⟩
    exact k H' q ((Same.new hp).trans e) ((Same.new hp).free hq) hN'
end
end NS
namespace NS
open PySem PySem.Spec PyProof.Rows L2
theorem tyes {A B : Hp → Prop} {σ : L2.St} {H : Hp} (h : A H) : tYes σ H (fun b H3 => if b = true then A H3 else B H3) := by
  show if true = true then A H else B H
  rw [if_pos rfl]
  exact h
/-! ### list(range(a, b, c)) -/
theorem vals_rg3 {a c : Int} {n : Nat} {acc : Array Value} (h : ItemsOf (fun i v => ∃ t, v = .int (a + i * c) t) acc n) : Vals ((List.range n).map fun i : Nat => V.int (a + (i : Int) * c)) acc.toList := by
  have e : acc.toList.length = n := by rw [Array.length_toList]; exact h.1
  rw [← e]
  refine vals_of_get acc.toList _ fun j u hj => ?_
  obtain ⟨t, rfl⟩ := h.2 j u (by rw [← hj, Array.getElem?_toList])
  exact ⟨t, rfl⟩
def tLstRg3 (ta : TA) : TE := fun σ H Q => ta σ H fun vs H1 => ∃ (i j c : Int) (n : Nat), vs = [.int i, .int j, .int c] ∧ RgC i j c n ∧ n ≤ 2 ^ 24 ∧ ∀ q, H1 q = none → Q (.ref q) (upd H1 q (.lst ((List.range n).map fun m : Nat => V.int (i + (m : Int) * c))))
section
variable {X : Cx}
theorem pe_listRg3 {a b c : Expr} {ta : TA} {p p2 pos pos2 : Pos} (hc : X.calm = true) (hg : Gl X "list") (hm : X.mg "list" = none) (hg2 : Gl X "range") (hm2 : X.mg "range" = none) (ha : PA X [a, b, c] ta)
    (na : starEach [Expr.Call (.Name "range" p2) [a, b, c] [] pos2] X.env = (false, eval (.Call (.Name "range" p2) [a, b, c] [] pos2) X.env) :: starEach [] X.env := by rfl)
    (hs : starEach [a, b, c] X.env = (false, eval a X.env) :: starEach [b, c] X.env := by rfl) (hpl : (backTo pos2 (starEach [b, c] X.env)).any (·.1) = false := by rfl) :
    PE X (.Call (.Name "list" p) [.Call (.Name "range" p2) [a, b, c] [] pos2] [] pos) (tLstRg3 ta) := by
  refine ⟨fun pins s σ H Q I h => ?_⟩
  refine Call_ (ld_blt I hg hm boot_list (PyProof.Rows.callWith_type1 (args_cons (Call_ (ld_blt I hg2 hm2 boot_range (PyProof.Rows.callWith_type1 (thn (ha.run pos2 pins s σ H _ I h) fun us s1 ⟨vs, H1, I1, r1, q1⟩ => ?_) hs hpl))) na) na))
  obtain ⟨i, j, k, n, e, ⟨c0, c1, c2, c3⟩, hn, q⟩ := q1
  subst e
  cases r1 with
  | cons r rr =>
    cases rr with
    | cons r' rr =>
      cases rr with
      | cons r'' rr =>
        cases rr
        obtain ⟨t, rfl⟩ := r
        obtain ⟨t', rfl⟩ := r'
        obtain ⟨t'', rfl⟩ := r''
        refine call_range_3 c0 ?_ (.inl (PyProof.noPylong_small c1))
        refine args_nil ?_
        have I2 : Inv X pins σ H1 { s1 with heap := s1.heap.push { cls := .type "range", data := .fields #[.int i t, .int j t', .int k t''] } } := I1.kept (t' := s1.toks) fun b o e => Heap.get?_push_of_some _ e
        refine call_list_range (s := { s1 with heap := s1.heap.push { cls := .type "range", data := .fields #[.int i t, .int j t', .int k t''] } }) (n := n) (I1.ok.hd hc) (IsRange.new ..) c2 c3 hn fun h' tk acc c' hk e' hi => ?_
        refine ⟨.ref _, upd H1 (s1.heap.push { cls := .type "range", data := .fields #[.int i t, .int j t', .int k t''] }).objs.size (.lst ((List.range n).map fun m : Nat => V.int (i + (m : Int) * k))), I2.laid hk (Nat.le_refl _) (show ObjOk X.prog X.w _ _ _ (.lst _) from ⟨?_, acc.toList, c', vals_rg3 hi, ?_⟩), rfl, q _ (I2.hok.fresh (Nat.le_refl _))⟩
        · rw [List.length_map, List.length_range, sizeLine_eq]; omega
        · rw [Array.toArray_toList]; exact e'
end
section
variable {P : Program} {w : World} {K : PySem.W.Frag} {mg : Str → Option Value} {base : Heap} {N : Addr}
/-! ### effects -/
theorem scDesc : FnScope ["width"] ["width"] (defScope sDesc) := ⟨rfl, rfl, rfl, by decide +kernel, rfl, by decide +kernel, by decide +kernel⟩
theorem ok_desc (D : DefAt K mg "descending" "descending" sDesc ["width"]) (B : Bi mg) : DefOk P w K mg base 1 "descending" spDesc := by
  refine D.ok scDesc (fun vs H Q E h => ?_) (fun f cdv A outer s H vs Q E hr h => ?_)
  · obtain ⟨n, rfl, _⟩ := h
    rfl
  · obtain ⟨n, rfl, h1, h2, k⟩ := h
    refine ⟨_, pss_one (ps_ret (pe_listRg3 (by rfl) (by rfl) B.list (by rfl) B.range (pa_cons (pv 0) (pa_cons pe_int (pa_cons (pe_un un_neg pe_int) pa_nil))))), ?_⟩
    refine ⟨_, rfl, 1, rfl, n, 0, -1, (n - 0).toNat, rfl, RgC.neg (by omega) (by omega) (by omega) (by omega), by omega, fun q hq => ?_⟩
    refine k _ q (Same.new hq) hq ?_
    rw [upd_same, Int.sub_zero]
    unfold descL
    rw [iv, List.map_map]
    rfl
theorem scProfile : FnScope ["network"] ["network"] (defScope sProfile) := ⟨rfl, rfl, rfl, by decide +kernel, rfl, by decide +kernel, by decide +kernel⟩
theorem ok_profile (D : DefAt K mg "profile" "profile" sProfile ["network"]) (dRes : DefOk P w K mg base 2 "result_of" (spResultOf K)) (dDesc : DefOk P w K mg base 1 "descending" spDesc)
    (pW : PrpOk P w K mg base 1 N "width" (spNtWidth N)) (pS : PrpOk P w K mg base 1 N "steps" (spNtSteps N)) : DefOk P w K mg base 3 "profile" (spProfile N) := by
  refine D.ok scProfile (fun vs H Q E h => ?_) (fun f cdv A outer s H vs Q E hr h => ?_)
  · obtain ⟨n, wd, st, rfl, _⟩ := h
    rfl
  · obtain ⟨n, wd, st, rfl, ⟨dx, t, hn, ht⟩, h1, h2, hok, k⟩ := h
    refine ⟨_, pss_one (ps_ret (pe_d dRes hr (by decide) (by rfl) (pa_cons (pe_p pS hr (by decide) (pv 0)) (pa_cons (pe_d dDesc hr (by decide) (by rfl) (pa_cons (pe_p pW hr (by decide) (pv 0)) pa_nil)) pa_nil)))), ?_⟩
    refine ⟨_, rfl, n, dx, _, rfl, hn, n, dx, t, wd, rfl, hn, _, rfl, n, dx, _, rfl, hn, n, dx, t, wd, rfl, hn, wd, rfl, h1, h2, fun H1 p e1 hp hp1 => ?_⟩
    have hl : ((descL wd).length : Int) = wd := by rw [descL_len]; omega
    exact ⟨t, p, st, _, rfl, SqT.of (e1 _ _ ht), SqL.of hp1, by rw [hl]; exact hok, by omega, fun H2 q e2 hq hq2 => k H2 q (e1.trans e2) (e1.free hq) hq2⟩
theorem scAtMost : FnScope ["numbers", "bound", "number"] ["numbers", "bound"] (defScope sAtMost) := ⟨rfl, rfl, rfl, by decide +kernel, rfl, by decide +kernel, by decide +kernel⟩
theorem ok_atMost (D : DefAt K mg "at_most" "at_most" sAtMost ["numbers", "bound"]) : DefOk P w K mg base 1 "at_most" (spAtMost K) := by
  refine D.ok scAtMost (fun vs H Q E h => ?_) (fun f cdv A outer s H vs Q E hr h => ?_)
  · obtain ⟨a, xs, b, rfl, _⟩ := h
    rfl
  · obtain ⟨a, xs, b, rfl, hS, hl, k⟩ := h
    refine ⟨_, pss_one (ps_ret (pe_lc (own := [("number", 2)]) (g := gName 2) (tt := tYes) (by rfl) scAtMost.nd (pi_list (pv 0)) (blkOk_by (N := ["numbers", "bound", "number"]) (sc := defScope sAtMost) (by decide +kernel))
        (fun _ _ _ _ _ => pg_name (i := 2) scAtMost.nd rfl (Or.inl rfl)) (fun _ _ _ _ _ => pts_nil) (fun _ _ _ _ _ => pe_cmp (pc_le (pv 2) (pv 1)) rfl))), ?_⟩
    refine ⟨_, rfl, a, rfl, ⟨_, hS⟩, fun D hD => lc_list (K := K) (a := a) (xs := iv xs) (fun i H' => Same H H' ∧ H' D = some (.lst ((xs.take i).map fun x => V.bl (decide (x ≤ b))))) ⟨Same.new hD, upd_same⟩ (fun i H' _ e => e.1.seq hS) ?_ ?_⟩
    · rintro i y H2 hi ⟨e, hd⟩
      obtain ⟨m, hm, rfl⟩ := iv_get hi
      refine ⟨rfl, ?_⟩
      refine tyes ⟨_, rfl, _, rfl, m, b, rfl, rfl, _, hd, ?_, ?_, ?_⟩
      · rw [List.length_map, List.length_take]
        exact Nat.lt_of_le_of_lt (Nat.min_le_right _ _) (Nat.lt_of_le_of_lt hl (by decide))
      · exact Same1.fresh e hD Same1.upd
      · rw [upd_same, take_snoc hm, List.map_append]
        rfl
    · rintro H2 ⟨e, hd⟩
      rw [List.length_map, List.take_length] at hd
      exact k H2 D e hD hd
/-! ### domination -/
theorem cutV_take (xs : List V) (p : Nat) : cutV xs none (some (p : Int)) = xs.take p := by
  unfold cutV
  rw [HT.sIx_none, HT.sIx_nat, List.drop_zero, Nat.sub_zero, ← List.take_eq_take_min]
theorem scCountSmall : FnScope ["numbers", "bound", "place", "small"] ["numbers", "bound", "place"] (defScope sCountSmall) := ⟨rfl, rfl, rfl, by decide +kernel, rfl, by decide +kernel, by decide +kernel⟩
theorem ok_countSmall (D : DefAt K mg "count_small" "count_small" sCountSmall ["numbers", "bound", "place"]) (B : Bi mg) (dAt : DefOk P w K mg base 1 "at_most" (spAtMost K)) : DefOk P w K mg base 2 "count_small" (spCountSmall K) := by
  refine D.ok scCountSmall (fun vs H Q E h => ?_) (fun f cdv A outer s H vs Q E hr h => ?_)
  · obtain ⟨a, xs, b, z, rfl, _⟩ := h
    rfl
  · obtain ⟨a, xs, b, z, rfl, hz, hS, hl, k⟩ := h
    obtain ⟨p, rfl⟩ : ∃ p : Nat, z = (p : Int) := ⟨z.toNat, by omega⟩
    rw [Int.toNat_natCast] at k
    refine ⟨_, pss_one (ps_ret (pe_callB (cr_sum rfl) (by rfl) B.sum (by decide +kernel) (pa_cons (pe_lc (own := [("small", 3)]) (g := gName 3) (tt := tB (tVar 3)) (by rfl) scCountSmall.nd
        (pi_list (pe_d dAt hr (by decide) (by rfl) (pa_cons (pe_slice sl_list (pv 0) po_none (po_some (pv 2))) (pa_cons (pv 1) pa_nil)))) (blkOk_by (N := ["numbers", "bound", "place", "small"]) (sc := defScope sCountSmall) (by decide +kernel))
        (fun _ _ _ _ _ => pg_name (i := 3) scCountSmall.nd rfl (Or.inl rfl)) (fun _ _ _ _ _ => pts_one (pt_val (pv 3))) (fun _ _ _ _ _ => pe_int)) pa_nil))), ?_⟩
    refine ⟨_, rfl, _, rfl, (p : Int), rfl, a, _, rfl, hS, fun q hq => ?_⟩
    rw [cutV_take]
    have eT : (iv xs).take p = iv (xs.take p) := (List.map_take).symm
    rw [eT]
    refine ⟨_, rfl, q, xs.take p, b, rfl, SqL.of upd_same, by rw [List.length_take]; omega, fun H1 r e1 hr0 hr1 => ?_⟩
    refine ⟨r, rfl, ⟨_, SqL.of hr1⟩, fun D hD => lc_list (K := K) (a := r) (xs := (xs.take p).map fun x => V.bl (decide (x ≤ b))) (fun i H' => Same H1 H' ∧ ∃ ns : List Int, H' D = some (.lst (iv ns)) ∧ ns.length ≤ i ∧ ns.sum = (((xs.take p).take i).filter fun x => decide (x ≤ b)).length)
      ⟨Same.new hD, [], upd_same, Nat.le_refl _, rfl⟩ (fun i H' _ e => SqL.of (e.1 _ _ hr1)) ?_ ?_⟩
    · rintro i y H2 hi ⟨e, ns, hd, hln, hsum⟩
      obtain ⟨m, hm, rfl⟩ : ∃ m, (xs.take p)[i]? = some m ∧ y = V.bl (decide (m ≤ b)) := by
        rw [List.getElem?_map] at hi
        cases em : (xs.take p)[i]? with
        | none => rw [em] at hi; cases hi
        | some m => rw [em] at hi; exact ⟨m, rfl, (Option.some.inj hi).symm⟩
      have hip : i < (xs.take p).length := (List.getElem?_eq_some_iff.mp hm).1
      refine ⟨rfl, _, rfl, _, rfl, ?_⟩
      by_cases hmb : m ≤ b
      · rw [decide_eq_true hmb]
        refine iteT ⟨_, hd, ?_, ?_, ns ++ [1], ?_, ?_, ?_⟩
        · rw [List.length_map]
          rw [List.length_take] at hip
          exact Nat.lt_of_le_of_lt hln (Nat.lt_of_lt_of_le (Nat.lt_of_lt_of_le hip (Nat.min_le_right _ _)) (Nat.le_trans hl (by decide)))
        · exact Same1.fresh e hD Same1.upd
        · rw [upd_same, iv_snoc]
        · rw [List.length_append]; exact Nat.succ_le_succ hln
        · rw [List.sum_append, hsum, take_snoc hm, List.filter_append, List.length_append]
          simp [hmb]
      · rw [decide_eq_false hmb]
        refine iteF ⟨e, ns, hd, by omega, ?_⟩
        rw [hsum, take_snoc hm, List.filter_append, List.length_append]
        simp [hmb]
    · rintro H2 ⟨e, ns, hd, hln, hsum⟩
      refine ⟨D, ns, rfl, SqL.of hd, ?_⟩
      rw [hsum, List.length_map, List.take_length]
      exact k H2 (((Same.new hq).trans e1).trans e)
theorem scIsGap : FnScope ["one", "two", "bound", "place"] ["one", "two", "bound", "place"] (defScope sIsGap) := ⟨rfl, rfl, rfl, by decide +kernel, rfl, by decide +kernel, by decide +kernel⟩
theorem ok_isGap (D : DefAt K mg "is_gap" "is_gap" sIsGap ["one", "two", "bound", "place"]) (dC : DefOk P w K mg base 2 "count_small" (spCountSmall K)) : DefOk P w K mg base 3 "is_gap" (spIsGap K) := by
  refine D.ok scIsGap (fun vs H Q E h => ?_) (fun f cdv A outer s H vs Q E hr h => ?_)
  · obtain ⟨a, c, xs, ys, b, z, rfl, _⟩ := h
    rfl
  · obtain ⟨a, c, xs, ys, b, z, rfl, hz, hS, hS2, hl, hl2, k⟩ := h
    refine ⟨_, pss_one (ps_ret (pe_cmp (pc_lt (pe_d dC hr (by decide) (by rfl) (pa_cons (pv 0) (pa_cons (pv 2) (pa_cons (pv 3) pa_nil)))) (pe_d dC hr (by decide) (by rfl) (pa_cons (pv 1) (pa_cons (pv 2) (pa_cons (pv 3) pa_nil))))) rfl)), ?_⟩
    refine ⟨_, rfl, _, rfl, _, rfl, a, xs, b, z, rfl, hz, hS, hl, fun H1 e1 => ?_⟩
    refine ⟨_, rfl, _, rfl, _, rfl, c, ys, b, z, rfl, hz, e1.seq hS2, hl2, fun H2 e2 => ?_⟩
    refine ⟨_, _, rfl, rfl, ?_⟩
    have e : decide (((cnt xs b z.toNat : Nat) : Int) < ((cnt ys b z.toNat : Nat) : Int)) = decide (cnt xs b z.toNat < cnt ys b z.toNat) := by
      by_cases h : cnt xs b z.toNat < cnt ys b z.toNat
      · rw [decide_eq_true h, decide_eq_true (by omega)]
      · rw [decide_eq_false h, decide_eq_false (by omega)]
    show Q (.bl (decide (((cnt xs b z.toNat : Nat) : Int) < ((cnt ys b z.toNat : Nat) : Int)))) H2
    rw [e]
    exact k H2 (e1.trans e2)
theorem scFirstGap : FnScope ["one", "two", "bound", "place"] ["one", "two"] (defScope sFirstGap) := ⟨rfl, rfl, rfl, by decide +kernel, rfl, by decide +kernel, by decide +kernel⟩
theorem ok_firstGap (D : DefAt K mg "first_gap" "first_gap" sFirstGap ["one", "two"]) (B : Bi mg) (dG : DefOk P w K mg base 3 "is_gap" (spIsGap K)) : DefOk P w K mg base 4 "first_gap" (spFirstGap K) := by
  refine D.ok scFirstGap (fun vs H Q E h => ?_) (fun f cdv A outer s H vs Q E hr h => ?_)
  · obtain ⟨a, c, xs, ys, rfl, _⟩ := h
    rfl
  · obtain ⟨a, c, xs, ys, rfl, hS, hS2, hl, hl2, hd, k⟩ := h
    refine ⟨_, pss_cons (ps_for PassesOwn.never rfl (pi_range2 (by rfl) B.range (pa_cons pe_int (pa_cons (pe_callB call_len_seq (by rfl) B.len PySem.boot_len (pa_cons (pv 0) pa_nil)) pa_nil))) (pg_name (i := 2) scFirstGap.nd rfl (.inl rfl))
        (pss_one (ps_for PassesOwn.never rfl (pi_range2 (by rfl) B.range (pa_cons pe_int (pa_cons (pe_callB call_len_seq (by rfl) B.len PySem.boot_len (pa_cons (pv 0) pa_nil)) pa_nil))) (pg_name (i := 3) scFirstGap.nd rfl (.inl rfl))
          (pss_one (ps_if (pt_val (pe_d dG hr (by decide) (by rfl) (pa_cons (pv 0) (pa_cons (pv 1) (pa_cons (pv 2) (pa_cons (pv 3) pa_nil)))))) (pss_one ps_never) pss_nil)))))
      (pss_one (ps_ret pe_non)), ?_⟩
    have hlen : ((iv xs).length : Int) < 2 ^ 62 := by rw [List.length_map]; omega
    have hlen0 : (0 : Int) ≤ ((iv xs).length : Int) := Int.natCast_nonneg _
    refine ⟨_, rfl, a, _, rfl, .inl hS, 1, _, rfl, ⟨by decide, by decide, by omega, hlen⟩, for_range (lo := 1) (n := (((iv xs).length : Int) - 1).toNat) (fun i σ H' => ∃ v2 v3, σ = [some (.ref a), some (.ref c), v2, v3] ∧ Same H H') ⟨none, none, rfl, Same.refl _⟩ ?_ ?_⟩
    · rintro i σ H1 hi ⟨v2, v3, rfl, e1⟩
      refine ⟨_, rfl, a, _, rfl, .inl (e1.seq hS), 1, _, rfl, ⟨by decide, by decide, by omega, hlen⟩, for_range (lo := 1) (n := (((iv xs).length : Int) - 1).toNat) (fun j σ H' => ∃ v3, σ = [some (.ref a), some (.ref c), some (.int (1 + (i : Int))), v3] ∧ Same H H') ⟨v3, rfl, e1⟩ ?_ ?_⟩
      · rintro j σ H2 hj ⟨v3, rfl, e2⟩
        refine ⟨_, rfl, _, rfl, _, rfl, _, rfl, a, c, xs, ys, _, _, rfl, by omega, e2.seq hS, e2.seq hS2, hl, hl2, fun H3 e3 => ?_⟩
        refine ⟨_, rfl, ite2 (fun hc => ?_) (fun _ => ⟨_, rfl, e2.trans e3⟩)⟩
        have h1 := of_decide_eq_true hc
        have h2 := hd (1 + (i : Int)) (1 + (j : Int)).toNat
        omega
      · rintro σ H2 ⟨v3, rfl, e2⟩
        exact ⟨_, _, rfl, e2⟩
    · rintro σ H1 ⟨v2, v3, rfl, e1⟩
      exact k H1 e1
theorem scDominates : FnScope ["first", "second"] ["first", "second"] (defScope sDominates) := ⟨rfl, rfl, rfl, by decide +kernel, rfl, by decide +kernel, by decide +kernel⟩
theorem ok_dominates (D : DefAt K mg "dominates" "dominates" sDominates ["first", "second"]) (dW : DefOk P w K mg base 3 "check_widths" (spCkWidths N)) (dP : DefOk P w K mg base 3 "profile" (spProfile N)) (dG : DefOk P w K mg base 4 "first_gap" (spFirstGap K)) :
    DefOk P w K mg base 5 "dominates" (spDominates N) := by
  refine D.ok scDominates (fun vs H Q E h => ?_) (fun f cdv A outer s H vs Q E hr h => ?_)
  · obtain ⟨n, m, wd, st, fs, rfl, _⟩ := h
    rfl
  · obtain ⟨n, m, wd, st, fs, rfl, hn, hm, h1, h2, hok, k⟩ := h
    refine ⟨_, pss_cons (ps_expr (pe_d dW hr (by decide) (by rfl) (pa_cons (pv 0) (pa_cons (pv 1) pa_nil))))
      (pss_one (ps_ret (pe_cmpR op_isN (pe_d dG hr (by decide) (by rfl) (pa_cons (pe_d dP hr (by decide) (by rfl) (pa_cons (pv 0) pa_nil)) (pa_cons (pe_d dP hr (by decide) (by rfl) (pa_cons (pv 1) pa_nil)) pa_nil))) pe_non (nomark _)))), ?_⟩
    refine ⟨_, rfl, _, rfl, n, m, wd, st, _, rfl, hn, hm, ?_⟩
    refine ⟨_, rfl, n, wd, st, rfl, hn, h1, h2, hok, fun H1 p e1 hp hp1 => ?_⟩
    refine ⟨_, rfl, m, wd, _, rfl, hm.same e1, h1, h2, keep_ok fs hok, fun H2 q e2 hq hq2 => ?_⟩
    have hlen : ∀ st', (runL st' (descL wd)).length ≤ 1000 := fun st' => by rw [runL_len, descL_len]; omega
    refine ⟨p, q, _, _, rfl, SqL.of (e2 _ _ hp1), SqL.of hq2, hlen _, hlen _, ?_, fun H3 e3 => ⟨rfl, k H3 ((e1.trans e2).trans e3)⟩⟩
    have hw : ((wd.toNat : Nat) : Int) = wd := by omega
    exact dom_keep (n := wd.toNat) fs (by rw [hw]; exact hok) (descL_len wd)
end
end NS
namespace NS
open PySem PySem.Spec PyProof.Rows L2
/-! ### a function found by super() -/
structure FnAt (K : PySem.W.Frag) (m qual : Str) (st : Stmt) (ps : List Str) (f : Addr) : Prop where
  ex : ∃ fd, Fun K m qual st f fd ∧ Binds K fd ps []
structure SoCls (K : PySem.W.Frag) (C : Addr) : Prop where
  cl : Cls K C
  nN : NoAttr K C "own_network"
  nR : NoAttr K C "own_runs"
  nC : NoAttr K C "own_comparisons"
  nS : NoAttr K C "own_swaps"
  nF : NoAttr K C "own_faults"
section
variable {P : Program} {w : World} {K : PySem.W.Frag} {mg : Str → Option Value} {base : Heap} {N C : Addr} {k : Nat} {f : Addr} {m qual : Str} {st : Stmt} {Ns ps : List Str} {sp : Sp}
theorem FnAt.ok (D : FnAt K m qual st ps f) (S : FnScope Ns ps (defScope st)) (len : ∀ vs H Q E, sp vs H Q E → vs.length = ps.length)
    (hbody : ∀ (cdv : Value) (A : Around) (outer : List Env) (s : Shared) (H : Hp) (vs : List V) (Q : VK) (E : XK), Room k (A.deeper (envOfC qual (defScope st) s.heap.objs.size f cdv)) → sp vs H Q E →
      ∃ t, PSs (cxOf CX0 P w K mg base Ns qual (defScope st) f cdv A outer s H E).nox (defBody st) t ∧ t { nx := fun _ H' => Q .non H', rt := Q } (start Ns vs) H) : FnR P w K mg base CX0 (k + 1) f sp := by
  obtain ⟨fd, F, b⟩ := D.ex
  exact FnOk.r (F.ok S len hbody) b
theorem MetOk.mono {j : Nat} (c : MetOk P w K mg base k C m sp) (h : k ≤ j) : MetOk P w K mg base j C m sp :=
  let ⟨f, me, F⟩ := c.ex
  ⟨c.cl, f, me, F.mono h⟩
end
/-! ### field names -/
theorem ne_nr : ¬ (("own_network" : Str) = "own_runs") := by decide +kernel
theorem ne_rn : ¬ (("own_runs" : Str) = "own_network") := by decide +kernel
theorem ne_cn : ¬ (("own_comparisons" : Str) = "own_network") := by decide +kernel
theorem ne_sn : ¬ (("own_swaps" : Str) = "own_network") := by decide +kernel
theorem ne_rf : ¬ (("own_runs" : Str) = "own_faults") := by decide +kernel
theorem ne_cf : ¬ (("own_comparisons" : Str) = "own_faults") := by decide +kernel
theorem ne_sf : ¬ (("own_swaps" : Str) = "own_faults") := by decide +kernel
theorem ne_cr : ¬ (("own_comparisons" : Str) = "own_runs") := by decide +kernel
theorem ne_sr : ¬ (("own_swaps" : Str) = "own_runs") := by decide +kernel
theorem ne_sc : ¬ (("own_swaps" : Str) = "own_comparisons") := by decide +kernel
theorem ne_wr : ¬ (("working" : Str) = "own_runs") := by decide +kernel
theorem ne_wc : ¬ (("working" : Str) = "own_comparisons") := by decide +kernel
theorem ne_ws : ¬ (("working" : Str) = "own_swaps") := by decide +kernel
theorem look_put {fs : List (Str × V)} {f g : Str} {v : V} (h : ¬ g = f) : (putF f v fs).lookup g = fs.lookup g := by rw [lookup_putF, if_neg h]
theorem look_self {fs : List (Str × V)} {f : Str} {v : V} : (putF f v fs).lookup f = some v := by rw [lookup_putF, if_pos rfl]
theorem so_put1 (n : Addr) : putF "own_network" (V.ref n) [] = ([("own_network", V.ref n)] : List (Str × V)) := rfl
theorem so_put2 (n : Addr) : putF "own_runs" (V.int 0) ([("own_network", V.ref n)] : List (Str × V)) = ([("own_network", V.ref n), ("own_runs", V.int 0)] : List (Str × V)) := by kernel_rfl
theorem so_put3 (n : Addr) : putF "own_comparisons" (V.int 0) ([("own_network", V.ref n), ("own_runs", V.int 0)] : List (Str × V)) = ([("own_network", V.ref n), ("own_runs", V.int 0), ("own_comparisons", V.int 0)] : List (Str × V)) := by kernel_rfl
theorem so_put4 (n : Addr) : putF "own_swaps" (V.int 0) ([("own_network", V.ref n), ("own_runs", V.int 0), ("own_comparisons", V.int 0)] : List (Str × V)) = cf n 0 0 0 := by kernel_rfl
theorem FsOk.put {fs : List (Str × V)} {f : Str} {v : V} (h : FsOk fs) (hl : fs.length < 99) (hw : ¬ ("working" : Str) = f) : FsOk (putF f v fs) :=
  ⟨Nat.lt_of_le_of_lt (length_putF f v fs) (by omega), by rw [look_put hw]; exact h.w⟩
section
variable {P : Program} {w : World} {K : PySem.W.Frag} {mg : Str → Option Value} {base : Heap} {N C : Addr} {W : Hp → List (Str × V) → Int → List Int → Prop}
/-! ### Sorter -/
theorem scSrInit : FnScope ["self", "network"] ["self", "network"] (defScope sSrInit) := ⟨rfl, rfl, rfl, by decide +kernel, rfl, by decide +kernel, by decide +kernel⟩
theorem ok_srInit {f : Addr} (D : FnAt K "__init__" "Sorter.__init__" sSrInit ["self", "network"] f) (T : SoCls K C) : FnR P w K mg base CX0 1 f (spSrInit C) := by
  refine D.ok scSrInit (fun vs H Q E h => ?_) (fun cdv A outer s H vs Q E hr h => ?_)
  · obtain ⟨p, n, dx, rfl, _⟩ := h
    rfl
  · obtain ⟨p, n, dx, rfl, hp, k⟩ := h
    refine ⟨_, pss_cons (ps_fld (pv 0) (pv 1) rfl) (pss_one (ps_fld (pv 0) pe_int rfl)), ?_⟩
    refine ⟨_, rfl, _, rfl, p, C, dx, _, rfl, hp, T.cl, T.nN, (by show 0 < 1000; decide), ?_⟩
    refine ⟨_, rfl, p, C, dx, _, rfl, upd_same, T.cl, T.nR, (by rw [so_put1]; show 1 < 1000; decide), ?_⟩
    refine k _ (fun b o n e => by rw [upd_ne n, upd_ne n]; exact e) ?_
    rw [upd_same, so_put1, so_put2]
theorem scSrWorking : FnScope ["self"] ["self"] (defScope sSrWorking) := ⟨rfl, rfl, rfl, by decide +kernel, rfl, by decide +kernel, by decide +kernel⟩
/-- the network of a plain sorter -/
def WC (N : Addr) (H : Hp) (fs : List (Str × V)) (wd : Int) (st : List Int) : Prop := ∃ n, fs.lookup ("own_network" : Str) = some (.ref n) ∧ NetAt N H n wd st
theorem wk_c (h : C ≠ N) : Wk C N (WC N) where
  same := fun H H' fs wd st e ⟨n, h1, h2⟩ => ⟨n, h1, h2.same e⟩
  one := fun H H' a dx fs0 fs wd st ha e ⟨n, h1, h2⟩ => ⟨n, h1, h2.same1 e (fun dy gs z => by rw [ha] at z; cases z; exact h rfl) (fun xs z => by rw [ha] at z; cases z)⟩
  put := fun H fs wd st f v h1 h2 ⟨n, h3, h4⟩ => ⟨n, by rw [look_put (fun z => h1 z.symm)]; exact h3, h4⟩
theorem ok_srWorking (D : MethAt K C "working" "Sorter.working" sSrWorking ["self"]) (T : SoCls K C) : MetOk P w K mg base 1 C "working" (spWorking N C (WC N)) := by
  refine D.ok scSrWorking (fun vs H Q E h => ?_) (fun f cdv A outer s H vs Q E hr h => ?_)
  · obtain ⟨a, dx, fs, wd, st, rfl, _⟩ := h
    rfl
  · obtain ⟨a, dx, fs, wd, st, rfl, ha, ⟨n, h1, h2⟩, k⟩ := h
    exact ⟨_, pss_one (ps_ret (pe_fld (pv 0) rfl)), _, rfl, a, C, dx, _, _, rfl, ha, T.cl, T.nN, h1, k H n (Same.refl _) h2⟩
theorem scSrRun : FnScope ["self", "values", "result"] ["self", "values"] (defScope sSrRun) := ⟨rfl, rfl, rfl, by decide +kernel, rfl, by decide +kernel, by decide +kernel⟩
theorem ok_srRun {f : Addr} (D : FnAt K "run" "Sorter.run" sSrRun ["self", "values"] f) (T : SoCls K C) (Z : Wk C N W) (mW : MetOk P w K mg base 6 C "working" (spWorking N C W)) (dR : DefOk P w K mg base 4 "run_running" (spRun N)) : FnR P w K mg base CX0 7 f (spSrRun C W) := by
  refine D.ok scSrRun (fun vs H Q E h => ?_) (fun cdv A outer s H vs Q E hr h => ?_)
  · obtain ⟨a, dx, l, fs, wd, r, st, v, rfl, _⟩ := h
    rfl
  · obtain ⟨a, dx, l, fs, wd, r, st, v, rfl, ha, hW, hfs, hru, hl, hw, hok, hlen, k⟩ := h
    refine ⟨_, pss_cons (ps_set (i := 2) scSrRun.nd rfl (.inl rfl) (pe_d dR hr (by decide) (by rfl) (pa_cons (pe_m0 mW hr (by decide) (pv 0)) (pa_cons (pv 1) pa_nil))))
      (pss_cons (ps_fldaug (pv 0) pe_int in_add) (pss_one (ps_ret (pv 2)))), ?_⟩
    refine ⟨_, rfl, a, dx, fs, rfl, ha, hfs.w, a, dx, fs, wd, st, rfl, ha, hW, fun H1 n e1 hn => ?_⟩
    refine ⟨_, rfl, n, l, wd, st, v, rfl, hn, e1 _ _ hl, hw, hok, hlen, fun H2 p e2 hp hp2 => ?_⟩
    have ha2 := e2 _ _ (e1 _ _ ha)
    have hp0 : H p = none := e1.free hp
    refine ⟨_, rfl, a, C, dx, fs, _, rfl, ha2, T.cl, T.nR, hru, r, 1, rfl, rfl, dx, fs, ha2, Nat.lt_trans hfs.len (by decide), ?_⟩
    refine ⟨_, rfl, k _ p ((e1.trans e2).one.trans Same1.upd) hp0 ?_ upd_same⟩
    rw [upd_ne (ne_of_none ha hp0).symm]
    exact hp2
theorem scSrRuns : FnScope ["self"] ["self"] (defScope sSrRuns) := ⟨rfl, rfl, rfl, by decide +kernel, rfl, by decide +kernel, by decide +kernel⟩
theorem ok_srRuns (D : PropAt K C "runs" "Sorter.runs" sSrRuns) (T : SoCls K C) : PrpOk P w K mg base 1 C "runs" (spFld C "own_runs") := by
  refine D.ok scSrRuns (fun vs H Q E h => ?_) (fun f cdv A outer s H vs Q E hr h => ?_)
  · obtain ⟨a, dx, fs, v, rfl, _⟩ := h
    rfl
  · obtain ⟨a, dx, fs, v, rfl, ha, hv, k⟩ := h
    exact ⟨_, pss_one (ps_ret (pe_fld (pv 0) rfl)), _, rfl, a, C, dx, _, _, rfl, ha, T.cl, T.nR, hv, k⟩
theorem scCsComp : FnScope ["self"] ["self"] (defScope sCsComp) := ⟨rfl, rfl, rfl, by decide +kernel, rfl, by decide +kernel, by decide +kernel⟩
theorem ok_csComp (D : PropAt K C "comparisons" "CountingSorter.comparisons" sCsComp) (T : SoCls K C) : PrpOk P w K mg base 1 C "comparisons" (spFld C "own_comparisons") := by
  refine D.ok scCsComp (fun vs H Q E h => ?_) (fun f cdv A outer s H vs Q E hr h => ?_)
  · obtain ⟨a, dx, fs, v, rfl, _⟩ := h
    rfl
  · obtain ⟨a, dx, fs, v, rfl, ha, hv, k⟩ := h
    exact ⟨_, pss_one (ps_ret (pe_fld (pv 0) rfl)), _, rfl, a, C, dx, _, _, rfl, ha, T.cl, T.nC, hv, k⟩
theorem scCsSwaps : FnScope ["self"] ["self"] (defScope sCsSwaps) := ⟨rfl, rfl, rfl, by decide +kernel, rfl, by decide +kernel, by decide +kernel⟩
theorem ok_csSwaps (D : PropAt K C "swaps" "CountingSorter.swaps" sCsSwaps) (T : SoCls K C) : PrpOk P w K mg base 1 C "swaps" (spFld C "own_swaps") := by
  refine D.ok scCsSwaps (fun vs H Q E h => ?_) (fun f cdv A outer s H vs Q E hr h => ?_)
  · obtain ⟨a, dx, fs, v, rfl, _⟩ := h
    rfl
  · obtain ⟨a, dx, fs, v, rfl, ha, hv, k⟩ := h
    exact ⟨_, pss_one (ps_ret (pe_fld (pv 0) rfl)), _, rfl, a, C, dx, _, _, rfl, ha, T.cl, T.nS, hv, k⟩
theorem scFsFaults : FnScope ["self"] ["self"] (defScope sFsFaults) := ⟨rfl, rfl, rfl, by decide +kernel, rfl, by decide +kernel, by decide +kernel⟩
theorem ok_fsFaults (D : PropAt K C "faults" "FaultySorter.faults" sFsFaults) (T : SoCls K C) : PrpOk P w K mg base 1 C "faults" (spFld C "own_faults") := by
  refine D.ok scFsFaults (fun vs H Q E h => ?_) (fun f cdv A outer s H vs Q E hr h => ?_)
  · obtain ⟨a, dx, fs, v, rfl, _⟩ := h
    rfl
  · obtain ⟨a, dx, fs, v, rfl, ha, hv, k⟩ := h
    exact ⟨_, pss_one (ps_ret (pe_fld (pv 0) rfl)), _, rfl, a, C, dx, _, _, rfl, ha, T.cl, T.nF, hv, k⟩
/-! ### CountingSorter -/
theorem nsCsInit : NdefX.NScope ["self", "network", "__class__"] ["self", "network"] ["__class__"] (defScope sCsInit) := NdefX.nscope_by (by decide +kernel)
theorem ok_csInit {f cc D cda g : Addr} (D0 : SupDef P K "__init__" "CountingSorter.__init__" sCsInit f cc D cda) (so : SupOk K C D "__init__" g) (F : FnR P w K mg base CX0 1 g (spSrInit C)) (T : SoCls K C) (B : Bi mg)
    (htop : (P.main.scope.names.lookup ("super" : Str)).isSome = false) : FnR P w K mg base CX0 2 f (spCsInit C) := by
  refine fnR_sup D0 nsCsInit (fun kV doc pm ct an us hl => match us, hl with | [_, _], _ => rfl) (fun vs H Q E h => ?_) (fun A outer s H vs Q E hr h => ?_)
  · obtain ⟨p, n, dx, rfl, _⟩ := h
    rfl
  · obtain ⟨p, n, dx, rfl, hp, k⟩ := h
    refine ⟨_, pat_expr (pea_super D0 so F hr (by decide) (pa_cons (pv 1) pa_nil) B.super htop rfl rfl rfl rfl rfl rfl rfl rfl (by decide +kernel)) (pss_cons (ps_fld (pv 0) pe_int rfl) (pss_one (ps_fld (pv 0) pe_int rfl))), ?_⟩
    refine ⟨p, dx, _, rfl, hp, _, rfl, p, n, dx, rfl, hp, fun H1 e1 hp1 => ?_⟩
    refine ⟨_, rfl, p, C, dx, _, rfl, hp1, T.cl, T.nC, (by show 2 < 1000; decide), ?_⟩
    refine ⟨_, rfl, p, C, dx, _, rfl, upd_same, T.cl, T.nS, (by rw [so_put3]; show 3 < 1000; decide), ?_⟩
    refine k _ (fun b o n e => by rw [upd_ne n, upd_ne n]; exact e1 _ _ n e) ?_
    rw [upd_same, so_put3, so_put4]
theorem nsCsRun : NdefX.NScope ["self", "values", "__class__", "result"] ["self", "values"] ["__class__"] (defScope sCsRun) := NdefX.nscope_by (by decide +kernel)
theorem ok_csRun {f cc D cda g : Addr} (D0 : SupDef P K "run" "CountingSorter.run" sCsRun f cc D cda) (so : SupOk K C D "run" g) (F : FnR P w K mg base CX0 7 g (spSrRun C W)) (T : SoCls K C) (B : Bi mg) (Z : Wk C N W)
    (mW : MetOk P w K mg base 6 C "working" (spWorking N C W)) (mL : MetOk P w K mg base 1 N "__len__" (spNtLen N)) (dE : DefOk P w K mg base 4 "exchanges" (spExch N))
    (htop : (P.main.scope.names.lookup ("super" : Str)).isSome = false) : FnR P w K mg base CX0 8 f (spCsRun C W) := by
  refine fnR_sup D0 nsCsRun (fun kV doc pm ct an us hl => match us, hl with | [_, _], _ => rfl) (fun vs H Q E h => ?_) (fun A outer s H vs Q E hr h => ?_)
  · obtain ⟨a, dx, l, fs, wd, r, c, s', st, v, rfl, _⟩ := h
    rfl
  · obtain ⟨a, dx, l, fs, wd, r, c, s', st, v, rfl, ha, hW, hfs, hf50, hfr, hfc, hfw, hl, hw, hok, hlen, hz, k⟩ := h
    refine ⟨_, pat_set (i := 3) nsCsRun.nd rfl (.inl rfl) (pea_super D0 so F hr (by decide) (pa_cons (pv 1) pa_nil) B.super htop rfl rfl rfl rfl rfl rfl rfl rfl (by decide +kernel))
      (pss_cons (ps_fldaug (pv 0) (pe_callB (call_lenO mL hr (by decide)) (by rfl) B.len PySem.boot_len (pa_cons (pe_m0 mW hr (by decide) (pv 0)) pa_nil)) in_add)
      (pss_cons (ps_fldaug (pv 0) (pe_callB call_len_seq (by rfl) B.len PySem.boot_len (pa_cons (pe_d dE hr (by decide) (by rfl) (pa_cons (pe_m0 mW hr (by decide) (pv 0)) (pa_cons (pv 1) pa_nil))) pa_nil)) in_add)
      (pss_one (ps_ret (pv 3))))), ?_⟩
    refine ⟨a, dx, fs, rfl, ha, _, rfl, a, dx, l, fs, wd, r, st, v, rfl, ha, hW, hfs, hfr, hl, hw, hok, hlen, fun H1 p e1 hp0 hp1 ha1 => ?_⟩
    have fs1 : FsOk (putF "own_runs" (V.int (r + 1)) fs) := ⟨Nat.lt_of_le_of_lt (length_putF _ _ _) (by omega), by rw [look_put ne_wr]; exact hfs.w⟩
    have W1 : W H1 (putF "own_runs" (V.int (r + 1)) fs) wd st := Z.put _ _ _ _ _ _ (fun z => ne_rn z) (fun z => ne_rf z) (Z.one _ _ _ _ _ _ _ _ ha e1 hW)
    have npa : p ≠ a := (ne_of_none ha hp0).symm
    have nla : l ≠ a := ne_of hl ha (by intro z; cases z)
    -- own_comparisons += len(self.working())
    refine ⟨_, rfl, a, C, dx, _, _, rfl, ha1, T.cl, T.nC, by rw [look_put ne_cr]; exact hfc, ?_⟩
    refine ⟨_, rfl, a, dx, _, rfl, ha1, fs1.w, a, dx, _, wd, st, rfl, ha1, W1, fun H2 n e2 hn => ?_⟩
    obtain ⟨dn, tn, hn1, hn2⟩ := id hn
    refine ⟨n, dn, _, rfl, hn1, n, wd, st, rfl, hn, _, rfl, Int.natCast_nonneg _, by omega, ?_⟩
    have ha2 := e2 _ _ ha1
    refine ⟨c, _, rfl, rfl, dx, _, ha2, Nat.lt_trans fs1.len (by decide), ?_⟩
    -- own_swaps += len(exchanges(self.working(), values))
    have W2 : W H2 (putF "own_runs" (V.int (r + 1)) fs) wd st := Z.same _ _ _ _ _ e2 W1
    have W3 : W (upd H2 a (.ins C dx (putF "own_comparisons" (V.int (c + (st.length : Nat))) (putF "own_runs" (V.int (r + 1)) fs)))) (putF "own_comparisons" (V.int (c + (st.length : Nat))) (putF "own_runs" (V.int (r + 1)) fs)) wd st :=
      Z.put _ _ _ _ _ _ (fun z => ne_cn z) (fun z => ne_cf z) (Z.one _ _ _ _ _ _ _ _ ha2 Same1.upd W2)
    refine ⟨_, rfl, a, C, dx, _, _, rfl, upd_same, T.cl, T.nS, by rw [look_put ne_sc, look_put ne_sr]; exact hfw, ?_⟩
    refine ⟨_, rfl, a, dx, _, rfl, upd_same, by rw [look_put ne_wc]; exact fs1.w, a, dx, _, wd, st, rfl, upd_same, W3, fun H3 n2 e3 hn3 => ?_⟩
    have hl3 : H3 l = some (.lst (iv v)) := e3 _ _ ((upd_ne nla).trans (e2 _ _ (e1 _ _ nla hl)))
    refine ⟨_, rfl, n2, l, wd, st, v, rfl, hn3, hl3, hw, hok, hlen, hz, fun H4 q zs e4 hq hq4 hzs => ?_⟩
    have ha4 := e4 _ _ (e3 _ _ (upd_same (H := H2) (a := a)))
    refine ⟨q, _, rfl, .inl (SqL.of hq4), s', _, rfl, rfl, dx, _, ha4, ?_, ?_⟩
    · have q1 := length_putF ("own_comparisons" : Str) (V.int (c + (st.length : Nat))) (putF "own_runs" (V.int (r + 1)) fs)
      have q2 := fs1.len
      omega
    · have eH : Same1 a H (upd H4 a (.ins C dx (putF "own_swaps" (V.int (s' + (zs.length : Nat))) (putF "own_comparisons" (V.int (c + (st.length : Nat))) (putF "own_runs" (V.int (r + 1)) fs))))) := fun b o nb eb => by
        rw [upd_ne nb]
        exact e4 _ _ (e3 _ _ ((upd_ne nb).trans (e2 _ _ (e1 _ _ nb eb))))
      refine ⟨_, rfl, k _ p eH hp0 ?_ ?_⟩
      · rw [upd_ne npa]
        exact e4 _ _ (e3 _ _ ((upd_ne npa).trans (e2 _ _ hp1)))
      · rw [upd_same, hzs]
/-! ### FaultySorter -/
def fsFs (n : Addr) (r c s : Int) (t : Addr) : List (Str × V) := putF "own_faults" (V.ref t) (cf n r c s)
/-- the network of a faulty sorter: without its failing steps -/
def WF (N : Addr) (H : Hp) (fs : List (Str × V)) (wd : Int) (st : List Int) : Prop := ∃ (n t : Addr) (s0 ks : List Int), fs.lookup ("own_network" : Str) = some (.ref n) ∧ fs.lookup ("own_faults" : Str) = some (.ref t) ∧ NetAt N H n wd s0 ∧ H t = some (.tup (iv ks)) ∧
  ks.length ≤ 10 ∧ (∀ k ∈ ks, 0 ≤ k ∧ k < (s0.length : Int)) ∧ 1 ≤ wd ∧ wd ≤ 40 ∧ StepsOk wd s0 ∧ s0.length ≤ 1000 ∧ st = keep ks s0
theorem wk_f (h : C ≠ N) : Wk C N (WF N) where
  same := fun H H' fs wd st e ⟨n, t, s0, ks, h1, h2, h3, h4, h5⟩ => ⟨n, t, s0, ks, h1, h2, h3.same e, e _ _ h4, h5⟩
  one := fun H H' a dx fs0 fs wd st ha e ⟨n, t, s0, ks, h1, h2, h3, h4, h5⟩ => ⟨n, t, s0, ks, h1, h2, h3.same1 e (fun dy gs z => by rw [ha] at z; cases z; exact h rfl) (fun xs z => by rw [ha] at z; cases z),
    e _ _ (ne_of h4 ha (by intro z; cases z)) h4, h5⟩
  put := fun H fs wd st f v g1 g2 ⟨n, t, s0, ks, h1, h2, h5⟩ => ⟨n, t, s0, ks, by rw [look_put (fun z => g1 z.symm)]; exact h1, by rw [look_put (fun z => g2 z.symm)]; exact h2, h5⟩
theorem scFsWorking : FnScope ["self"] ["self"] (defScope sFsWorking) := ⟨rfl, rfl, rfl, by decide +kernel, rfl, by decide +kernel, by decide +kernel⟩
theorem nf_none (wd : Int) (t : Addr) : (nf wd t).lookup ("without" : Str) = none := nf_without wd t
theorem ok_fsWorking (D : MethAt K C "working" "FaultySorter.working" sFsWorking ["self"]) (T : SoCls K C) (vW : VarOk P w K mg base 5 N "without" (spNtWithout N)) : MetOk P w K mg base 6 C "working" (spWorking N C (WF N)) := by
  refine D.ok scFsWorking (fun vs H Q E h => ?_) (fun f cdv A outer s H vs Q E hr h => ?_)
  · obtain ⟨a, dx, fs, wd, st, rfl, _⟩ := h
    rfl
  · obtain ⟨a, dx, fs, wd, st, rfl, ha, ⟨n, t, s0, ks, h1, h2, hn, ht, hk, hks, hw1, hw2, hok, hz, rfl⟩, k⟩ := h
    obtain ⟨dn, tn, hn1, hn2⟩ := id hn
    obtain ⟨g, b, F⟩ := vW.ex
    refine ⟨_, pss_one (ps_ret (pe_methS (pe_fld (pv 0) rfl) vW.cl b F hr pass0 (pe_fld (pv 0) rfl) rfl)), ?_⟩
    refine ⟨_, rfl, a, C, dx, _, _, rfl, ha, T.cl, T.nN, h1, n, dn, _, rfl, hn1, nf_none _ _, fun q hq => ?_⟩
    have e1 : Same H (upd H q (.met g n)) := Same.new hq
    refine ⟨_, rfl, a, C, dx, _, _, rfl, e1 _ _ ha, T.cl, T.nF, h2, t, _, rfl, SqT.of (e1 _ _ ht), upd_same, ?_⟩
    exact ⟨n, wd, s0, ks, rfl, hk, hn.same e1, hw1, hw2, hok, hz, hks, fun H' p e2 hp hN => k H' p (e1.trans e2) hN⟩
def spChecked (C : Addr) : Sp := fun vs H Q _ => ∃ (a dx n p : Addr) (fs : List (Str × V)) (wd : Int) (st ks : List Int), vs = [.ref a, .ref p] ∧ H a = some (.ins C dx fs) ∧ fs.lookup ("own_network" : Str) = some (.ref n) ∧ NetAt N H n wd st ∧ H p = some (.tup (iv ks)) ∧ ks.length ≤ 10 ∧
  (∀ k ∈ ks, 0 ≤ k ∧ k < (st.length : Int)) ∧ st.length ≤ 1000 ∧ ∀ H' q ns, Same H H' → H' q = some (.tup (iv ns)) → ns.Pairwise (· < ·) → (∀ k, k ∈ ns ↔ k ∈ ks) → ns.length ≤ 10 → Q (.ref q) H'
end
end NS
namespace NS
open PySem PySem.Spec PyProof.Rows L2
/-! ### a method that says super() and takes any number of further arguments, called with none of them -/
section
variable {P : Program} {w : World} {K : PySem.W.Frag} {mg : Str → Option Value} {base : Heap} {k : Nat} {x qual : Str} {st : Stmt} {f cc D cda : Addr} {N : List Str} {sp : Sp} {p1 p2 pv3 : Str}
theorem fnR_supV (D0 : SupDef P K x qual st f cc D cda) (S : NdefX.NScope N [p1, p2, pv3] ["__class__"] (defScope st))
    (hb : ∀ (kV doc pm ct : Value) (an : Option Addr) (a b : Value), bindArgs (PySem.W.fnX x qual (defArgs st) (defBody st) (defScope st) [("__class__", cc)] .none kV doc pm an (.ref cda) ct) ⟨[a, b], []⟩ = (newTuple [] >>= fun t => pure [(p1, a), (p2, b), (pv3, t)]))
    (hbody : ∀ (A : Around) (outer : List Env) (s : Shared) (H : Hp) (vs : List V) (Q : VK) (E : XK), Room k (A.deeper (NdefX.envF (nfS x qual st cc cda) f s.heap.objs.size)) → sp vs H Q E →
      ∃ t, PSsAt (NdefX.ncx CX0 P w K mg base N (nfS x qual st cc cda) f A outer s H E).nox (defBody st) (defBody st) t ∧ t { nx := fun _ H' => Q .non H', rt := Q } (NdefX.startF N vs [none]) H) :
    FnR P w K mg base CX0 (k + 1) f (fun vs H Q E => ∃ v1 v2, vs = [v1, v2] ∧ ∀ p, H p = none → sp [v1, v2, .ref p] (upd H p (.tup [])) Q E) := by
  intro A outer s H us vs Q E hr e0 r hsp
  obtain ⟨v1, v2, rfl, hq⟩ := hsp
  obtain ⟨u1, u2, rfl, r1, r2⟩ : ∃ u1 u2, us = [u1, u2] ∧ RelV v1 u1 ∧ RelV v2 u2 := by
    cases r with
    | cons a b =>
      cases b with
      | cons c d =>
        cases d
        exact ⟨_, _, rfl, a, c⟩
  have KX : K.In s.heap := e0.mod.kin.keeps fun b o e => (e0.bs b o e).1
  have hn : H s.heap.objs.size = none := e0.hok.fresh (Nat.le_refl _)
  have hp := hq s.heap.objs.size hn
  have kp : ∀ b o, s.heap.get? b = some o → (s.heap.push ({ cls := .type "tuple", data := .seq ([] : List Value).toArray } : Obj)).get? b = some o := fun b o e => Heap.get?_push_of_some _ e
  have new : ObjOk P w (upd H s.heap.objs.size (.tup [])) (s.heap.push ({ cls := .type "tuple", data := .seq ([] : List Value).toArray } : Obj)) s.heap.objs.size (.tup []) :=
    ⟨Nat.zero_le _, [], .nil, ⟨_, Heap.get?_push_size _ rfl, rfl, _, rfl⟩⟩
  have hok2 := e0.hok.laid kp (Nat.le_refl _) new
  have un : Un (frs outer) [] H (upd H s.heap.objs.size (.tup [])) s.heap (s.heap.push ({ cls := .type "tuple", data := .seq ([] : List Value).toArray } : Obj)) := Un.laid kp (Nat.le_refl _) hn
  have e2 : Env0 P w K mg base A outer { s with heap := s.heap.push ({ cls := .type "tuple", data := .seq ([] : List Value).toArray } : Obj) } (upd H s.heap.objs.size (.tup [])) := by
    refine ⟨e0.frames, e0.mod, fun b o e => ⟨kp b o (e0.bs b o e).1, ?_⟩, ?_, Heap.FunFrames.of_keeps (fun b o e _ => ⟨o, kp b o e, rfl⟩) e0.funs, fun b hb' => ?_, hok2, e0.bare⟩
    · rw [upd_ne (Nat.ne_of_lt (Heap.lt_size (e0.bs b o e).1))]
      exact (e0.bs b o e).2
    · show base.objs.size ≤ (s.heap.push _).objs.size
      rw [Heap.size_push]
      exact Nat.le_succ_of_le e0.bsz
    · obtain ⟨_, o, ho, _⟩ := e0.funs.mem hb'
      rw [upd_ne (Nat.ne_of_lt (Heap.lt_size ho))]
      exact e0.frf b hb'
  have lim : (s.heap.push ({ cls := .type "tuple", data := .seq ([] : List Value).toArray } : Obj)).NoLimit := e0.mod.nolimit.keeps fun b o e => (e2.bs b o e).1
  obtain ⟨oc, od, kV, doc, pm, an, ct, osl, lk⟩ := D0.fn
  have C := cells_sup D0 e2
  refine codeAny_call_function hr.depth (KX _ _ lk) rfl S.co S.gen rfl (PySem.W.codeRec_of KX D0.code) ?_
  rw [hb kV doc pm ct an u1 u2]
  refine wpAny_bind (wpAny_newTuple (wpAny_pure ?_) (Nat.zero_le _))
  refine wpAny_newFunctionEnv (s := { s with heap := s.heap.push ({ cls := .type "tuple", data := .seq ([] : List Value).toArray } : Obj) }) S.nocell (fun ⟨n, _⟩ hy => S.par n (List.of_mem_zip (l₁ := [p1, p2, pv3]) (l₂ := [u1, u2, Value.ref s.heap.objs.size]) hy).1) (fun h₁ hns hsb => ⟨lim.fresh _ hsb, ?_⟩) S.kind
  show codeAny _ _ (.func (defBody st) (NdefX.envF (nfS x qual st cc cda) f (s.heap.push ({ cls := .type "tuple", data := .seq ([] : List Value).toArray } : Obj)).objs.size)) _ _
  refine PySem.ks_codeAny_funcAt ?_
  have kp2 : ∀ b o, (s.heap.push ({ cls := .type "tuple", data := .seq ([] : List Value).toArray } : Obj)).get? b = some o → h₁.get? b = some o := fun b o e => hsb.extBut b o (Nat.ne_of_lt (Heap.lt_size e)) (Heap.get?_push_of_some _ e)
  obtain ⟨t, ht, hq'⟩ := hbody A outer { s with heap := s.heap.push ({ cls := .type "tuple", data := .seq ([] : List Value).toArray } : Obj) } (upd H s.heap.objs.size (.tup [])) [v1, v2, .ref s.heap.objs.size] Q E (hr.deeper _) hp
  have r3 : Vals [v1, v2, V.ref s.heap.objs.size] [u1, u2, Value.ref s.heap.objs.size] := .cons r1 (.cons r2 (.cons rfl .nil))
  have I := NdefX.inv_startN (CX := CX0) (E := E) (A := A) (f := f) (F := nfS x qual st cc cda) (tk := s.toks + ([p1, p2, pv3].zip [u1, u2, Value.ref s.heap.objs.size]).length) S hr.hd e2 rfl r3 C hns kp2
  refine PySem.ks_wpAt_mono (ht [] _ (NdefX.startF N [v1, v2, .ref s.heap.objs.size] [none]) _ _ (I.wish _) hq') (fun fl s' hs => ?_) fun e s' hs => hs.elim
  have fin : ∀ {σ' : L2.St} {H' : Hp} {v : V} {u : Value}, Inv (NdefX.ncx CX0 P w K mg base N (nfS x qual st cc cda) f A outer { s with heap := s.heap.push ({ cls := .type "tuple", data := .seq ([] : List Value).toArray } : Obj) } (upd H s.heap.objs.size (.tup [])) E).nox [] σ' H' s' → L2.RelV v u → Q v H' → CE outer P w H s Q u s' :=
    fun {σ' H' v u} J rv q => ⟨v, H', J.os, J.bare, un.trans J.base, J.hok, rv, q⟩
  cases fl with
  | ret u =>
    obtain ⟨v, σ', H', J, rv, q⟩ := hs
    exact fin J rv q
  | next =>
    obtain ⟨σ', H', J, q⟩ := hs
    exact fin (v := V.non) (u := Value.none) J rfl q
  | brk =>
    obtain ⟨_, _, _, q⟩ := hs
    exact False.elim q
  | cont =>
    obtain ⟨_, _, _, q⟩ := hs
    exact False.elim q
end
theorem ff_put (n : Addr) (r c s : Int) (t : Addr) : putF "own_faults" (V.ref t) (cf n r c s) = ff n r c s t := by kernel_rfl
theorem ff_again (n : Addr) (r c s : Int) (t u : Addr) : putF "own_faults" (V.ref u) (ff n r c s t) = ff n r c s u := by kernel_rfl
theorem ff_run (n : Addr) (r c s r' c' s' : Int) (t : Addr) : putF "own_swaps" (V.int s') (putF "own_comparisons" (V.int c') (putF "own_runs" (V.int r') (ff n r c s t))) = ff n r' c' s' t := by kernel_rfl
theorem cf_run (n : Addr) (r c s r' c' s' : Int) : putF "own_swaps" (V.int s') (putF "own_comparisons" (V.int c') (putF "own_runs" (V.int r') (cf n r c s))) = cf n r' c' s' := by kernel_rfl
theorem cf_n (n : Addr) (r c s : Int) : (cf n r c s).lookup ("own_network" : Str) = some (.ref n) := by kernel_rfl
theorem cf_r (n : Addr) (r c s : Int) : (cf n r c s).lookup ("own_runs" : Str) = some (.int r) := by kernel_rfl
theorem cf_c (n : Addr) (r c s : Int) : (cf n r c s).lookup ("own_comparisons" : Str) = some (.int c) := by kernel_rfl
theorem cf_s (n : Addr) (r c s : Int) : (cf n r c s).lookup ("own_swaps" : Str) = some (.int s) := by kernel_rfl
theorem cf_run0 (n : Addr) (r c s : Int) : (cf n r c s).lookup ("run" : Str) = none := by kernel_rfl
theorem cf_w (n : Addr) (r c s : Int) : (cf n r c s).lookup ("working" : Str) = none := by kernel_rfl
theorem cf_ch (n : Addr) (r c s : Int) : (cf n r c s).lookup ("checked_faults" : Str) = none := by kernel_rfl
theorem ff_n (n : Addr) (r c s : Int) (t : Addr) : (ff n r c s t).lookup ("own_network" : Str) = some (.ref n) := by kernel_rfl
theorem ff_r (n : Addr) (r c s : Int) (t : Addr) : (ff n r c s t).lookup ("own_runs" : Str) = some (.int r) := by kernel_rfl
theorem ff_c (n : Addr) (r c s : Int) (t : Addr) : (ff n r c s t).lookup ("own_comparisons" : Str) = some (.int c) := by kernel_rfl
theorem ff_s (n : Addr) (r c s : Int) (t : Addr) : (ff n r c s t).lookup ("own_swaps" : Str) = some (.int s) := by kernel_rfl
theorem ff_f (n : Addr) (r c s : Int) (t : Addr) : (ff n r c s t).lookup ("own_faults" : Str) = some (.ref t) := by kernel_rfl
theorem ff_run0 (n : Addr) (r c s : Int) (t : Addr) : (ff n r c s t).lookup ("run" : Str) = none := by kernel_rfl
theorem ff_w (n : Addr) (r c s : Int) (t : Addr) : (ff n r c s t).lookup ("working" : Str) = none := by kernel_rfl
theorem ff_ch (n : Addr) (r c s : Int) (t : Addr) : (ff n r c s t).lookup ("checked_faults" : Str) = none := by kernel_rfl
theorem ff_fail (n : Addr) (r c s : Int) (t : Addr) : (ff n r c s t).lookup ("fail" : Str) = none := by kernel_rfl
theorem cf_ok (n : Addr) (r c s : Int) : FsOk (cf n r c s) := ⟨by show 4 < 100; decide, cf_w _ _ _ _⟩
theorem ff_ok (n : Addr) (r c s : Int) (t : Addr) : FsOk (ff n r c s t) := ⟨by show 5 < 100; decide, ff_w _ _ _ _ _⟩
section
variable {P : Program} {w : World} {K : PySem.W.Frag} {mg : Str → Option Value} {base : Heap} {N C : Addr} {W : Hp → List (Str × V) → Int → List Int → Prop}
def spFsInit (N C : Addr) : Sp := fun vs H Q _ => ∃ (p n dx : Addr) (wd : Int) (st : List Int), vs = [.ref p, .ref n] ∧ H p = some (.ins C dx []) ∧ NetAt N H n wd st ∧ st.length ≤ 1000 ∧ ∀ H' t, Same1 p H H' → H' t = some (.tup []) → H' p = some (.ins C dx (ff n 0 0 0 t)) → Q .non H'
theorem nsFsInit : NdefX.NScope ["self", "network", "faults", "__class__"] ["self", "network", "faults"] ["__class__"] (defScope sFsInit) := NdefX.nscope_by (by decide +kernel)
theorem nsFsRun : NdefX.NScope ["self", "values", "__class__"] ["self", "values"] ["__class__"] (defScope sFsRun) := NdefX.nscope_by (by decide +kernel)
theorem ok_fsRun {f cc D cda g : Addr} (D0 : SupDef P K "run" "FaultySorter.run" sFsRun f cc D cda) (so : SupOk K C D "run" g) (F : FnR P w K mg base CX0 8 g (spCsRun C W)) (B : Bi mg)
    (htop : (P.main.scope.names.lookup ("super" : Str)).isSome = false) : FnR P w K mg base CX0 9 f (spCsRun C W) := by
  refine fnR_sup D0 nsFsRun (fun kV doc pm ct an us hl => match us, hl with | [_, _], _ => rfl) (fun vs H Q E h => ?_) (fun A outer s H vs Q E hr h => ?_)
  · obtain ⟨a, dx, l, fs, wd, r, c, s', st, v, rfl, _⟩ := h
    rfl
  · obtain ⟨a, dx, l, fs, wd, r, c, s', st, v, rfl, ha, h⟩ := h
    refine ⟨_, pat_ret (pea_super D0 so F hr (by decide) (pa_cons (pv 1) pa_nil) B.super htop rfl rfl rfl rfl rfl rfl rfl rfl (by decide +kernel)), ?_⟩
    exact ⟨a, dx, fs, rfl, ha, _, rfl, a, dx, l, fs, wd, r, c, s', st, v, rfl, ha, h⟩
theorem scFsChecked : FnScope ["self", "indices", "index"] ["self", "indices"] (defScope sFsChecked) := ⟨rfl, rfl, rfl, by decide +kernel, rfl, by decide +kernel, by decide +kernel⟩
theorem ok_fsChecked (D : MethAt K C "checked_faults" "FaultySorter.checked_faults" sFsChecked ["self", "indices"]) (T : SoCls K C) (B : Bi mg) (dInt : DefOk P w K mg base 1 "is_integer" spIsInt) (mL : MetOk P w K mg base 1 N "__len__" (spNtLen N)) :
    MetOk P w K mg base 3 C "checked_faults" (spChecked (N := N) C) := by
  refine D.ok scFsChecked (fun vs H Q E h => ?_) (fun f cdv A outer s H vs Q E hr h => ?_)
  · obtain ⟨a, dx, n, p, fs, wd, st, ks, rfl, _⟩ := h
    rfl
  · obtain ⟨a, dx, n, p, fs, wd, st, ks, rfl, ha, hn, hN, hp, hl, hks, hz, k⟩ := h
    obtain ⟨dn, tn, hn1, hn2⟩ := id hN
    refine ⟨_, pss_cons (ps_for PassesOwn.never rfl (pi_tup (pv 1)) (pg_name (i := 2) scFsChecked.nd rfl (.inl rfl))
        (pss_one (ps_if (pt_not (pt_val (pe_d dInt hr (by decide) (by rfl) (pa_cons (pv 2) (pa_cons pe_int (pa_cons (pe_op op_sub (pe_callB (call_lenO mL hr (by decide)) (by rfl) B.len PySem.boot_len (pa_cons (pe_fld (pv 0) rfl) pa_nil)) pe_int) pa_nil)))))) (pss_one ps_never) pss_nil)))
      (pss_one (ps_ret (pe_callTy call_tuple_of (by rfl) B.tuple (by decide +kernel) (pa_cons (pe_callB (cr_sortedSet rfl) (by rfl) B.sorted (by decide +kernel) (pa_cons (pe_callTy (call_setT rfl) (by rfl) B.set (by decide +kernel) (pa_cons (pv 1) pa_nil)) pa_nil)) pa_nil)))), ?_⟩
    refine ⟨_, rfl, p, rfl, ⟨_, SqT.of hp⟩, for_tup (K := K) (a := p) (xs := iv ks) (fun i σ H' => ∃ v2, σ = [some (.ref a), some (.ref p), v2] ∧ H' = H) ⟨none, rfl, rfl⟩ (fun i σ H' _ ⟨_, _, e⟩ => by rw [e]; exact SqT.of hp) ?_ ?_⟩
    · rintro i y σ H1 hi ⟨v2, rfl, rfl⟩
      obtain ⟨m, hm, rfl⟩ := iv_get hi
      have hmf := hks m (List.mem_of_getElem? hm)
      refine ⟨_, rfl, _, rfl, a, C, dx, _, _, rfl, ha, T.cl, T.nN, hn, ?_⟩
      refine ⟨n, dn, _, rfl, hn1, n, wd, st, rfl, hN, _, rfl, Int.natCast_nonneg _, by omega, ?_⟩
      refine ⟨_, _, rfl, rfl, m, 0, _, rfl, hmf.1, by omega, true, rfl, iteF ?_⟩
      exact ⟨_, rfl, rfl⟩
    · rintro σ H1 ⟨v2, rfl, rfl⟩
      refine ⟨_, rfl, p, ks, rfl, SqT.of hp, by omega, fun q c hq hc => ?_⟩
      refine ⟨q, _, c, rfl, upd_same, by omega, fun ns r hsort hmem hlen hr2 => ?_⟩
      refine ⟨r, _, rfl, .inl ⟨SqL.of upd_same, fun t ht => ?_⟩⟩
      have e1 : Same H1 (upd (upd (upd H1 q (SetO w q (fun j => decide (j ∈ ks)) c)) r (.lst (iv ns))) t (.tup (iv ns))) := ((Same.new hq).trans (Same.new hr2)).trans (Same.new ht)
      exact k _ t ns e1 upd_same hsort (fun j => by rw [hmem j]; simp) (by omega)
theorem scFsFail : FnScope ["self", "faults"] ["self", "faults"] (defScope sFsFail) := ⟨rfl, rfl, rfl, by decide +kernel, rfl, by decide +kernel, by decide +kernel⟩
def spFail (N C : Addr) : Sp := fun vs H Q _ => ∃ (a dx n : Addr) (fs : List (Str × V)) (wd : Int) (st ks : List Int), vs = .ref a :: iv ks ∧ H a = some (.ins C dx fs) ∧ fs.lookup ("own_network" : Str) = some (.ref n) ∧ fs.lookup ("checked_faults" : Str) = none ∧ fs.length < 100 ∧ NetAt N H n wd st ∧ ks.length ≤ 10 ∧
  (∀ k ∈ ks, 0 ≤ k ∧ k < (st.length : Int)) ∧ st.length ≤ 1000 ∧ ∀ H' q ns, Same1 a H H' → H' q = some (.tup (iv ns)) → ns.Pairwise (· < ·) → (∀ k, k ∈ ns ↔ k ∈ ks) → ns.length ≤ 10 → H' a = some (.ins C dx (putF "own_faults" (.ref q) fs)) → Q .non H'
theorem ok_fsFail (D : VarAt K C "fail" "FaultySorter.fail" sFsFail "self" "faults") (T : SoCls K C) (mCh : MetOk P w K mg base 3 C "checked_faults" (spChecked (N := N) C)) : VarOk P w K mg base 4 C "fail" (spFail N C) := by
  refine (D.ok (sp := fun vs H Q E => ∃ (a p dx n : Addr) (fs : List (Str × V)) (wd : Int) (st ks : List Int), vs = [.ref a, .ref p] ∧ H p = some (.tup (iv ks)) ∧ H a = some (.ins C dx fs) ∧ fs.lookup ("own_network" : Str) = some (.ref n) ∧ fs.lookup ("checked_faults" : Str) = none ∧ fs.length < 100 ∧ NetAt N H n wd st ∧ ks.length ≤ 10 ∧
    (∀ k ∈ ks, 0 ≤ k ∧ k < (st.length : Int)) ∧ st.length ≤ 1000 ∧ ∀ H' q ns, Same1 a H H' → H' q = some (.tup (iv ns)) → ns.Pairwise (· < ·) → (∀ k, k ∈ ns ↔ k ∈ ks) → ns.length ≤ 10 → H' a = some (.ins C dx (putF "own_faults" (.ref q) fs)) → Q .non H') scFsFail (fun f cdv A outer s H vs Q E hr h => ?_)).imp fun vs H Q E h => ?_
  · obtain ⟨a, p, dx, n, fs, wd, st, ks, rfl, hp, ha, hn, hc, hf, hN, hl, hks, hz, k⟩ := h
    refine ⟨_, pss_one (ps_fld (pv 0) (pe_m mCh hr (by decide) (pv 0) (pa_cons (pv 1) pa_nil)) rfl), ?_⟩
    refine ⟨_, rfl, a, dx, fs, rfl, ha, hc, _, rfl, a, dx, n, p, fs, wd, st, ks, rfl, ha, hn, hN, hp, hl, hks, hz, fun H1 q ns e1 hq hs hm hlen => ?_⟩
    refine ⟨_, rfl, a, C, dx, fs, rfl, e1 _ _ ha, T.cl, T.nF, by omega, ?_⟩
    exact k _ q ns (e1.one.trans Same1.upd) ((upd_ne (ne_of hq (e1 _ _ ha) (by intro z; cases z))).trans hq) hs hm hlen upd_same
  · obtain ⟨a, dx, n, fs, wd, st, ks, rfl, ha, hn, hc, hf, hN, hl, hks, hz, k⟩ := h
    refine ⟨_, _, rfl, by rw [List.length_map]; omega, fun p hp => ⟨a, p, dx, n, fs, wd, st, ks, rfl, upd_same, Same.new hp _ _ ha, hn, hc, hf, hN.same (Same.new hp), hl, hks, hz, fun H' q ns e => ?_⟩⟩
    exact k H' q ns ((Same.new hp).one.trans e)
theorem ok_fsInit {f cc D cda g : Addr} (D0 : SupDef P K "__init__" "FaultySorter.__init__" sFsInit f cc D cda) (so : SupOk K C D "__init__" g) (F : FnR P w K mg base CX0 2 g (spCsInit C)) (T : SoCls K C) (B : Bi mg) (hCN : C ≠ N)
    (hb : ∀ (kV doc pm ct : Value) (an : Option Addr) (a b : Value), bindArgs (PySem.W.fnX "__init__" "FaultySorter.__init__" (defArgs sFsInit) (defBody sFsInit) (defScope sFsInit) [("__class__", cc)] .none kV doc pm an (.ref cda) ct) ⟨[a, b], []⟩ = (newTuple [] >>= fun t => pure [(("self" : Str), a), (("network" : Str), b), (("faults" : Str), t)]))
    (mCh : MetOk P w K mg base 3 C "checked_faults" (spChecked (N := N) C))
    (htop : (P.main.scope.names.lookup ("super" : Str)).isSome = false) : FnR P w K mg base CX0 4 f (spFsInit N C) := by
  refine (fnR_supV (sp := fun vs H Q E => ∃ (p n dx t0 : Addr) (wd : Int) (st : List Int), vs = [.ref p, .ref n, .ref t0] ∧ H p = some (.ins C dx []) ∧ NetAt N H n wd st ∧ H t0 = some (.tup (iv [])) ∧ st.length ≤ 1000 ∧
    ∀ H' t, Same1 p H H' → H' t = some (.tup []) → H' p = some (.ins C dx (ff n 0 0 0 t)) → Q .non H') D0 nsFsInit hb (fun A outer s H vs Q E hr h => ?_)).imp fun vs H Q E h => ?_
  · obtain ⟨p, n, dx, t0, wd, st, rfl, hp, hN, ht0, hz, k⟩ := h
    refine ⟨_, pat_expr (pea_super D0 so F hr (by decide) (pa_cons (pv 1) pa_nil) B.super htop rfl rfl rfl rfl rfl rfl rfl rfl (by decide +kernel)) (pss_one (ps_fld (pv 0) (pe_m mCh hr (by decide) (pv 0) (pa_cons (pv 2) pa_nil)) rfl)), ?_⟩
    refine ⟨p, dx, _, rfl, hp, _, rfl, p, n, dx, rfl, hp, fun H1 e1 hp1 => ?_⟩
    have hN1 : NetAt N H1 n wd st := hN.same1 e1 (fun dy gs z => by rw [hp] at z; cases z; exact hCN rfl) (fun xs z => by rw [hp] at z; cases z)
    have ht1 : H1 t0 = some (.tup (iv [])) := e1 _ _ (ne_of ht0 hp (by intro z; cases z)) ht0
    refine ⟨_, rfl, p, dx, _, rfl, hp1, cf_ch _ _ _ _, _, rfl, p, dx, n, t0, _, wd, st, [], rfl, hp1, cf_n _ _ _ _, hN1, ht1, Nat.zero_le _, (fun k hk => by cases hk), hz, fun H2 q ns e2 hq hs hm hlen => ?_⟩
    refine ⟨_, rfl, p, C, dx, _, rfl, e2 _ _ hp1, T.cl, T.nF, (by show 4 < 1000; decide), ?_⟩
    have hns : ns = [] := by
      cases ns with
      | nil => rfl
      | cons a b => exact absurd ((hm a).mp List.mem_cons_self) (by simp)
    subst hns
    refine k _ q (fun b o n e => by rw [upd_ne n]; exact e2 _ _ (e1 _ _ n e)) ((upd_ne (ne_of hq (e2 _ _ hp1) (by intro z; cases z))).trans hq) ?_
    rw [upd_same, ff_put]
  · obtain ⟨p, n, dx, wd, st, rfl, hp, hN, hz, k⟩ := h
    refine ⟨_, _, rfl, fun t0 ht0 => ⟨p, n, dx, t0, wd, st, rfl, Same.new ht0 _ _ hp, hN.same (Same.new ht0), upd_same, hz, fun H' t e ht hp' => ?_⟩⟩
    exact k H' t ((Same.new ht0).one.trans e) ht hp'
/-! ### sorters as the law sees them -/
def SoAt (C N : Addr) (H : Hp) (p n : Addr) (wd : Int) (st : List Int) (r c s : Int) : Prop := NetAt N H n wd st ∧ ∃ dx, H p = some (.ins C dx (cf n r c s))
end
end NS
namespace NS
open PySem PySem.Spec PyProof.Rows L2
/-! ### Bench -/
structure BnCls (K : PySem.W.Frag) (mg : Str → Option Value) (B : Addr) : Prop where
  cl : Cls K B
  nN : NoAttr K B "own_network"
  nH : NoAttr K B "own_history"
  add : ∃ u, mg "ADD" = some u ∧ RelV (.str "add") u
  place : ∃ u, mg "PLACE" = some u ∧ RelV (.str "place") u
  drop : ∃ u, mg "DROP" = some u ∧ RelV (.str "drop") u
theorem bf_put1 (n : Addr) : putF "own_network" (V.ref n) [] = ([("own_network", V.ref n)] : List (Str × V)) := rfl
theorem bf_put2 (n h : Addr) : putF "own_history" (V.ref h) ([("own_network", V.ref n)] : List (Str × V)) = bf n h := by kernel_rfl
theorem bf_net (n m h : Addr) : putF "own_network" (V.ref m) (bf n h) = bf m h := by kernel_rfl
theorem bf_n (n h : Addr) : (bf n h).lookup ("own_network" : Str) = some (.ref n) := by kernel_rfl
theorem bf_h (n h : Addr) : (bf n h).lookup ("own_history" : Str) = some (.ref h) := by kernel_rfl
theorem bf_keep (n h : Addr) : (bf n h).lookup ("keep" : Str) = none := by kernel_rfl
theorem bf_check (n h : Addr) : (bf n h).lookup ("check_step" : Str) = none := by kernel_rfl
theorem bf_addall (n h : Addr) : (bf n h).lookup ("add_all" : Str) = none := by kernel_rfl
theorem bf_add (n h : Addr) : (bf n h).lookup ("add" : Str) = none := by kernel_rfl
theorem bf_place (n h : Addr) : (bf n h).lookup ("place" : Str) = none := by kernel_rfl
theorem bf_drop (n h : Addr) : (bf n h).lookup ("drop" : Str) = none := by kernel_rfl
theorem bf_undo (n h : Addr) : (bf n h).lookup ("undo" : Str) = none := by kernel_rfl
theorem BenchAt.same {B N : Addr} {H H' : Hp} {b h : Addr} {w : Int} {st : List Int} {hs : List Addr} (k : BenchAt B N H b h w st hs) (e : Same H H') : BenchAt B N H' b h w st hs where
  ob := let ⟨dx, n, h1, h2⟩ := k.ob; ⟨dx, n, e _ _ h1, h2.same e⟩
  li := e _ _ k.li
  it := fun t ht => let ⟨z, n, q⟩ := k.it t ht; ⟨z, n, e _ _ q⟩
/-- what is not the bench's own may change where it is no network and no tuple -/
theorem BenchAt.same1 {B N : Addr} {H H' : Hp} {b h s : Addr} {w : Int} {st : List Int} {hs : List Addr} (k : BenchAt B N H b h w st hs) (e : Same1 s H H') (h1 : ∀ dx fs, H s ≠ some (.ins N dx fs)) (h2 : ∀ xs, H s ≠ some (.tup xs)) (nb : b ≠ s) (nh : h ≠ s) : BenchAt B N H' b h w st hs where
  ob := let ⟨dx, n, k1, k2⟩ := k.ob; ⟨dx, n, e _ _ nb k1, k2.same1 e h1 h2⟩
  li := e _ _ nh k.li
  it := fun t ht => let ⟨z, n, q⟩ := k.it t ht; ⟨z, n, e _ _ (fun y => h2 _ (y ▸ q)) q⟩
theorem BenchAt.ne {B N : Addr} {H : Hp} {b h : Addr} {w : Int} {st : List Int} {hs : List Addr} (k : BenchAt B N H b h w st hs) : h ≠ b := by
  obtain ⟨dx, n, h1, _⟩ := k.ob
  exact ne_of k.li h1 (by intro z; cases z)
section
variable (K : PySem.W.Frag) (N B : Addr)
def spBnInit : Sp := fun vs H Q _ => ∃ (b dx : Addr) (w : Int), vs = [.ref b, .int w] ∧ H b = some (.ins B dx []) ∧ 1 ≤ w ∧ w ≤ 40 ∧ ∀ H' h, Same1 b H H' → H h = none → BenchAt B N H' b h w [] [] → Q .non H'
def spBnNet : Sp := fun vs H Q _ => ∃ (b dx n h : Addr), vs = [.ref b] ∧ H b = some (.ins B dx (bf n h)) ∧ Q (.ref n) H
def spBnKeep : Sp := fun vs H Q _ => ∃ (b h l : Addr) (z : Str) (w : Int) (st su : List Int) (hs : List Addr), vs = [.ref b, .str z, .ref l] ∧ BenchAt B N H b h w st hs ∧ H l = some (.lst (iv su)) ∧ l ≠ h ∧ 1 ≤ w ∧ w ≤ 40 ∧ StepsOk w su ∧ su.length ≤ 1000 ∧ hs.length ≤ 100 ∧
  ∀ H' t, Same2 b h H H' → BenchAt B N H' b h w su (hs ++ [t]) → Q (.int (su.length : Nat)) H'
def spCkStep : Sp := fun vs H Q _ => ∃ (b h : Addr) (s w : Int) (x : V) (st : List Int) (hs : List Addr), vs = [.ref b, .int s, x] ∧ BenchAt B N H b h w st hs ∧ 1 ≤ s ∧ s ≤ w - 1 ∧ Q .non H
def spAddAll : Sp := fun vs H Q _ => ∃ (b h p : Addr) (w : Int) (st l : List Int) (hs : List Addr), vs = [.ref b, .ref p] ∧ BenchAt B N H b h w st hs ∧ H p = some (.tup (iv l)) ∧ 1 ≤ w ∧ w ≤ 40 ∧ StepsOk w st ∧ StepsOk w l ∧ st.length ≤ 500 ∧ l.length ≤ 100 ∧ hs.length ≤ 100 ∧
  ∀ H' t z, Same2 b h H H' → BenchAt B N H' b h w (st ++ l) (hs ++ [t]) → Q (.int z) H'
def spAdd : Sp := fun vs H Q _ => ∃ (b h : Addr) (w : Int) (st l : List Int) (hs : List Addr), vs = .ref b :: iv l ∧ BenchAt B N H b h w st hs ∧ 1 ≤ w ∧ w ≤ 40 ∧ StepsOk w st ∧ StepsOk w l ∧ st.length ≤ 500 ∧ l.length ≤ 100 ∧ hs.length ≤ 100 ∧
  ∀ H' t z, Same2 b h H H' → BenchAt B N H' b h w (st ++ l) (hs ++ [t]) → Q (.int z) H'
def spPlace : Sp := fun vs H Q _ => ∃ (b h : Addr) (i : Nat) (s w : Int) (st : List Int) (hs : List Addr), vs = [.ref b, .int (i : Nat), .int s] ∧ BenchAt B N H b h w st hs ∧ 1 ≤ w ∧ w ≤ 40 ∧ StepsOk w st ∧ i ≤ st.length ∧ 1 ≤ s ∧ s ≤ w - 1 ∧ st.length ≤ 500 ∧ hs.length ≤ 100 ∧
  ∀ H' t z, Same2 b h H H' → BenchAt B N H' b h w (st.take i ++ [s] ++ st.drop i) (hs ++ [t]) → Q (.int z) H'
def spDrop : Sp := fun vs H Q _ => ∃ (b h : Addr) (i : Nat) (w : Int) (st : List Int) (hs : List Addr), vs = [.ref b, .int (i : Nat)] ∧ BenchAt B N H b h w st hs ∧ 1 ≤ w ∧ w ≤ 40 ∧ StepsOk w st ∧ i < st.length ∧ st.length ≤ 500 ∧ hs.length ≤ 100 ∧
  ∀ H' t z, Same2 b h H H' → BenchAt B N H' b h w (st.take i ++ st.drop (i + 1)) (hs ++ [t]) → Q (.int z) H'
def spUndo : Sp := fun vs H Q _ => ∃ (b h : Addr) (w : Int) (st : List Int) (hs : List Addr), vs = [.ref b, .int (hs.length : Nat)] ∧ BenchAt B N H b h w st hs ∧ hs.length ≤ 100 ∧ ∀ H' p, Same2 b h H H' → Q (.ref p) H'
end
section
variable {P : Program} {w : World} {K : PySem.W.Frag} {mg : Str → Option Value} {base : Heap} {N B : Addr}
theorem mkNet2 {H1 : Hp} {R : Addr → Hp → Prop} {E : XK} {wd : Int} {l : Addr} {st : List Int} (hl : H1 l = some (.lst (iv st))) (h1 : 1 ≤ wd) (h2 : wd ≤ 40) (hok : StepsOk wd st) (hz : st.length ≤ 1000)
    (k : ∀ H' p, Same H1 H' → H1 p = none → NetAt N H' p wd st → R p H') (x dx : Addr) (nx : H1 x = none) (nd : H1 dx = none) (_ : dx ≠ x) :
    spNtInit N [V.ref x, .int wd, .ref l] (upd (upd H1 dx (.own x)) x (.ins N dx [])) (fun v H2 => v = .non ∧ R x H2) E :=
  ⟨x, dx, wd, l, st, rfl, upd_same, (upd_ne (ne_of_none hl nx)).trans ((upd_ne (ne_of_none hl nd)).trans hl), h1, h2, hok, hz, fun H' e hN =>
    ⟨rfl, k H' x (fun b o h => e b o (ne_of_none h nx) (by rw [upd_ne (ne_of_none h nx), upd_ne (ne_of_none h nd)]; exact h)) nx hN⟩⟩
theorem scBnInit : FnScope ["self", "width"] ["self", "width"] (defScope sBnInit) := ⟨rfl, rfl, rfl, by decide +kernel, rfl, by decide +kernel, by decide +kernel⟩
theorem ok_bnInit (D : InitAt K mg "Bench" B "Bench.__init__" sBnInit ["self", "width"]) (T : BnCls K mg B) (TN : NetCls K mg N) (hBN : B ≠ N) (cE : CmOk P w K mg base 5 N "empty" (spNtEmpty N)) : MakOk P w K mg base 6 "Bench" B (spBnInit N B) := by
  refine D.ok scBnInit (fun vs H Q E h => ?_) (fun f cdv A outer s H vs Q E hr h => ?_)
  · obtain ⟨b, dx, wd, rfl, _⟩ := h
    rfl
  · obtain ⟨b, dx, wd, rfl, hb, h1, h2, k⟩ := h
    refine ⟨_, pss_cons (ps_fld (pv 0) (pe_cm cE hr (by decide) (pe_glob (v := .ref N) (by rfl) TN.nm rfl) (pa_cons (pv 1) pa_nil)) rfl) (pss_one (ps_fld (pv 0) (pe_lst pa_nil) rfl)), ?_⟩
    refine ⟨rfl, _, rfl, wd, rfl, h1, h2, fun H1 n e1 hn0 hN => ?_⟩
    have hb1 := e1 _ _ hb
    refine ⟨_, rfl, b, B, dx, _, rfl, hb1, T.cl, T.nN, (by show 0 < 1000; decide), ?_⟩
    refine ⟨Nat.zero_le _, fun h hh => ?_⟩
    have nbh : b ≠ h := ne_of_none upd_same hh
    refine ⟨_, rfl, b, B, dx, _, rfl, (upd_ne nbh).trans upd_same, T.cl, T.nH, (by rw [bf_put1]; show 1 < 1000; decide), ?_⟩
    have hh1 : H1 h = none := by rw [upd_ne nbh.symm] at hh; exact hh
    have eF : Same1 b H1 (upd (upd (upd H1 b (.ins B dx (putF "own_network" (.ref n) []))) h (.lst [])) b (.ins B dx (putF "own_history" (.ref h) (putF "own_network" (.ref n) [])))) := fun c o nc e => by
      rw [upd_ne nc, upd_ne (ne_of_none e hh1), upd_ne nc]
      exact e
    refine k _ h (e1.one.trans eF) (e1.free hh1) ⟨⟨dx, n, ?_, ?_⟩, ?_, fun t ht => by cases ht⟩
    · rw [upd_same, bf_put1, bf_put2]
    · exact hN.same1 eF (fun dy gs z => by rw [hb1] at z; cases z; exact hBN rfl) (fun xs z => by rw [hb1] at z; cases z)
    · rw [upd_ne nbh.symm, upd_same]
      rfl
theorem scBnNet : FnScope ["self"] ["self"] (defScope sBnNet) := ⟨rfl, rfl, rfl, by decide +kernel, rfl, by decide +kernel, by decide +kernel⟩
theorem ok_bnNet (D : PropAt K B "network" "Bench.network" sBnNet) (T : BnCls K mg B) : PrpOk P w K mg base 1 B "network" (spBnNet B) := by
  refine D.ok scBnNet (fun vs H Q E h => ?_) (fun f cdv A outer s H vs Q E hr h => ?_)
  · obtain ⟨b, dx, n, h, rfl, _⟩ := h
    rfl
  · obtain ⟨b, dx, n, h, rfl, hb, k⟩ := h
    exact ⟨_, pss_one (ps_ret (pe_fld (pv 0) rfl)), _, rfl, b, B, dx, _, _, rfl, hb, T.cl, T.nN, bf_n _ _, k⟩
theorem scBnKeep : FnScope ["self", "word", "steps"] ["self", "word", "steps"] (defScope sBnKeep) := ⟨rfl, rfl, rfl, by decide +kernel, rfl, by decide +kernel, by decide +kernel⟩
theorem ok_bnKeep (D : MethAt K B "keep" "Bench.keep" sBnKeep ["self", "word", "steps"]) (T : BnCls K mg B) (Bu : Bi mg) (hBN : B ≠ N) (mN : MakOk P w K mg base 3 "Network" N (spNtInit N)) (pW : PrpOk P w K mg base 1 N "width" (spNtWidth N)) : MetOk P w K mg base 5 B "keep" (spBnKeep N B) := by
  refine D.ok scBnKeep (fun vs H Q E h => ?_) (fun f cdv A outer s H vs Q E hr h => ?_)
  · obtain ⟨b, h, l, z, wd, st, su, hs, rfl, _⟩ := h
    rfl
  · obtain ⟨b, h, l, z, wd, st, su, hs, rfl, hB, hl, nlh, h1, h2, hok, hz, hhs, k⟩ := h
    obtain ⟨dx, n, hb, hN⟩ := hB.ob
    obtain ⟨dn, tn, hn1, hn2⟩ := id hN
    have nhb := hB.ne
    refine ⟨_, pss_cons (ps_expr (pe_bm PySem.F.plainAttrs_list PySem.F.slot_list_append PySem.F.type_list_append mt_append (pe_fld (pv 0) rfl) (pa_cons (pe_tup (pa_cons (pv 1) (pa_cons (pe_fld (pv 0) rfl) pa_nil))) pa_nil)))
      (pss_cons (ps_fld (pv 0) (pe_k mN hr (by decide) (by rfl) (pa_cons (pe_p pW hr (by decide) (pe_fld (pv 0) rfl)) (pa_cons (pv 2) pa_nil))) rfl)
      (pss_one (ps_ret (pe_callB call_len_seq (by rfl) Bu.len PySem.boot_len (pa_cons (pv 2) pa_nil))))), ?_⟩
    refine ⟨_, rfl, b, B, dx, _, _, rfl, hb, T.cl, T.nH, bf_h _ _, .inl ⟨rfl, _, SqL.of hB.li⟩, ?_⟩
    refine ⟨_, rfl, _, rfl, b, B, dx, _, _, rfl, hb, T.cl, T.nN, bf_n _ _, by show 2 ≤ sizeLine; decide, fun t ht => ?_⟩
    have e1 : Same H (upd H t (.tup [.str z, .ref n])) := Same.new ht
    refine ⟨h, _, _, rfl, rfl, e1 _ _ hB.li, ?_, ?_⟩
    · rw [List.length_map]
      exact Nat.lt_of_le_of_lt hhs (by decide)
    have nht : h ≠ t := ne_of_none hB.li ht
    have e2 : Same1 h H (upd (upd H t (.tup [.str z, .ref n])) h (.lst (hs.map V.ref ++ [.ref t]))) := fun c o nc e => by
      rw [upd_ne nc]
      exact e1 _ _ e
    have hb2 := e2 _ _ nhb.symm hb
    have hN2 := hN.same1 e2 (fun dy gs z => by rw [hB.li] at z; cases z) (fun xs z => by rw [hB.li] at z; cases z)
    obtain ⟨dn2, tn2, hn3, hn4⟩ := id hN2
    refine ⟨_, rfl, b, B, dx, _, _, rfl, hb2, T.cl, T.nN, bf_n _ _, n, dn2, _, rfl, hn3, n, dn2, tn2, wd, rfl, hn3, _, rfl, ?_⟩
    refine mkNet2 (e2 _ _ nlh hl) h1 h2 hok hz fun H3 m e3 hm hM => ?_
    have hb3 := e3 _ _ hb2
    refine ⟨_, rfl, b, B, dx, _, rfl, hb3, T.cl, T.nN, (by show 2 < 1000; decide), ?_⟩
    have nlb : l ≠ b := ne_of hl hb (by intro z; cases z)
    have ntb : t ≠ b := (ne_of_none hb ht).symm
    have e4 : Same1 b H3 (upd H3 b (.ins B dx (putF "own_network" (.ref m) (bf n h)))) := Same1.upd
    refine ⟨_, rfl, l, _, rfl, .inl (SqL.of (e4 _ _ nlb (e3 _ _ (e2 _ _ nlh hl)))), ?_⟩
    rw [List.length_map]
    have nb1 : ∀ dx fs, H3 b ≠ some (.ins N dx fs) := fun dy gs z => by rw [hb3] at z; cases z; exact hBN rfl
    have nb2 : ∀ xs, H3 b ≠ some (.tup xs) := fun xs z => by rw [hb3] at z; cases z
    refine k _ t (fun c o c1 c2 e => e4 _ _ c1 (e3 _ _ (e2 _ _ c2 e))) ⟨⟨dx, m, ?_, hM.same1 e4 nb1 nb2⟩, ?_, fun u hu => ?_⟩
    · rw [upd_same, bf_net]
    · refine e4 _ _ nhb (e3 _ _ ?_)
      rw [upd_same, List.map_append]
      rfl
    · rcases List.mem_append.mp hu with hu | hu
      · obtain ⟨y, m', q⟩ := hB.it u hu
        exact ⟨y, m', e4 _ _ (ne_of q hb (by intro z; cases z)) (e3 _ _ (e2 _ _ (ne_of q hB.li (by intro z; cases z)) q))⟩
      · rw [List.mem_singleton] at hu
        subst hu
        exact ⟨z, n, e4 _ _ ntb (e3 _ _ ((upd_ne nht.symm).trans upd_same))⟩
theorem scBnCkStep : FnScope ["self", "step", "index"] ["self", "step", "index"] (defScope sBnCkStep) := ⟨rfl, rfl, rfl, by decide +kernel, rfl, by decide +kernel, by decide +kernel⟩
theorem ok_bnCkStep (D : MethAt K B "check_step" "Bench.check_step" sBnCkStep ["self", "step", "index"]) (T : BnCls K mg B) (dInt : DefOk P w K mg base 1 "is_integer" spIsInt) (pW : PrpOk P w K mg base 1 N "width" (spNtWidth N)) : MetOk P w K mg base 3 B "check_step" (spCkStep N B) := by
  refine D.ok scBnCkStep (fun vs H Q E h => ?_) (fun f cdv A outer s H vs Q E hr h => ?_)
  · obtain ⟨b, h, s', wd, x, st, hs, rfl, _⟩ := h
    rfl
  · obtain ⟨b, h, s', wd, x, st, hs, rfl, hB, h1, h2, k⟩ := h
    obtain ⟨dx, n, hb, hN⟩ := hB.ob
    obtain ⟨dn, tn, hn1, hn2⟩ := id hN
    refine ⟨_, pss_one (ps_if (pt_not (pt_val (pe_d dInt hr (by decide) (by rfl) (pa_cons (pv 1) (pa_cons pe_int (pa_cons (pe_op op_sub (pe_p pW hr (by decide) (pe_fld (pv 0) rfl)) pe_int) pa_nil)))))) (pss_one ps_never) pss_nil), ?_⟩
    exact ⟨_, rfl, _, rfl, b, B, dx, _, _, rfl, hb, T.cl, T.nN, bf_n _ _, n, dn, _, rfl, hn1, n, dn, tn, wd, rfl, hn1, _, _, rfl, rfl, s', 1, _, rfl, h1, h2, true, rfl, iteF k⟩
theorem scBnAddAll : FnScope ["self", "steps", "index", "step"] ["self", "steps"] (defScope sBnAddAll) := ⟨rfl, rfl, rfl, by decide +kernel, rfl, by decide +kernel, by decide +kernel⟩
theorem ok_bnAddAll (D : MethAt K B "add_all" "Bench.add_all" sBnAddAll ["self", "steps"]) (T : BnCls K mg B) (Bu : Bi mg) (mL : MetOk P w K mg base 1 N "__len__" (spNtLen N)) (pS : PrpOk P w K mg base 1 N "steps" (spNtSteps N)) (dCnt : DefOk P w K mg base 1 "check_count" spCkCount)
    (mC : MetOk P w K mg base 3 B "check_step" (spCkStep N B)) (mK : MetOk P w K mg base 5 B "keep" (spBnKeep N B)) : MetOk P w K mg base 6 B "add_all" (spAddAll N B) := by
  refine D.ok scBnAddAll (fun vs H Q E h => ?_) (fun f cdv A outer s H vs Q E hr h => ?_)
  · obtain ⟨b, h, p, wd, st, l, hs, rfl, _⟩ := h
    rfl
  · obtain ⟨b, h, p, wd, st, l, hs, rfl, hB, hp, h1, h2, hok, hokl, hz, hzl, hhs, k⟩ := h
    obtain ⟨ua, ha1, ha2⟩ := T.add
    refine ⟨_, pss_cons (ps_for PassesOwn.never rfl (pi_enumT (by rfl) Bu.enumerate (pa_cons (pv 1) pa_nil))
        (pg_tup rfl (pgs_cons (pg_name (i := 2) scBnAddAll.nd rfl (.inl rfl)) (pgs_cons (pg_name (i := 3) scBnAddAll.nd rfl (.inl rfl)) pgs_nil)))
        (pss_one (ps_expr (pe_m mC hr (by decide) (pv 0) (pa_cons (pv 3) (pa_cons (pv 2) pa_nil))))))
      (pss_cons (ps_expr (pe_d dCnt hr (by decide) (by rfl) (pa_cons (pe_op op_add (pe_callB (call_lenO mL hr (by decide)) (by rfl) Bu.len PySem.boot_len (pa_cons (pe_fld (pv 0) rfl) pa_nil)) (pe_callB call_len_seq (by rfl) Bu.len PySem.boot_len (pa_cons (pv 1) pa_nil))) pa_nil)))
      (pss_one (ps_ret (pe_m mK hr (by decide) (pv 0) (pa_cons (pe_glob (v := .str "add") (by rfl) ha1 ha2) (pa_cons (pe_lst (StX.pa_star (pe_p pS hr (by decide) (pe_fld (pv 0) rfl)) (StX.pa_star (pv 1) pa_nil))) pa_nil)))))), ?_⟩
    refine ⟨_, rfl, p, _, rfl, SqT.of hp, for_it walk_enumT (fun i σ H' => ∃ v2 v3, σ = [some (.ref b), some (.ref p), v2, v3] ∧ Same H H') ⟨none, none, rfl, Same.refl _⟩ (fun i σ H' _ ⟨_, _, _, e⟩ => SqT.of (e _ _ hp)) ?_ ?_⟩
    · rintro i y σ H1 H2 hi ⟨v2, v3, rfl, e⟩ ⟨q, x, z, rfl, hq, rfl, hx, hzz⟩
      obtain ⟨m, hm, rfl⟩ := iv_get hzz
      have hx' : x = .int (i : Nat) := (Option.some.inj hx).symm
      subst hx'
      have e2 : Same H (upd H1 q (.tup [.int (i : Nat), .int m])) := e.trans (Same.new hq)
      have hB2 := hB.same e2
      obtain ⟨dx, n, hb, hN⟩ := hB2.ob
      have hm2 := hokl m (List.mem_of_getElem? hm)
      refine ⟨q, _, rfl, SqT.of upd_same, rfl, _, _, rfl, _, _, rfl, rfl, ?_⟩
      refine ⟨_, rfl, b, dx, _, rfl, hb, bf_check _ _, _, rfl, _, rfl, b, h, m, wd, _, st, hs, rfl, hB2, hm2.1, hm2.2, ?_⟩
      exact ⟨_, _, rfl, e2⟩
    · rintro σ H1 ⟨v2, v3, rfl, e⟩
      have hB2 := hB.same e
      obtain ⟨dx, n, hb, hN⟩ := hB2.ob
      obtain ⟨dn, tn, hn1, hn2⟩ := id hN
      have hp1 := e _ _ hp
      refine ⟨_, rfl, b, B, dx, _, _, rfl, hb, T.cl, T.nN, bf_n _ _, n, dn, _, rfl, hn1, n, wd, st, rfl, hN, _, rfl, Int.natCast_nonneg _, by omega, ?_⟩
      refine ⟨_, rfl, p, _, rfl, .inr (SqT.of hp1), _, _, rfl, rfl, _, rfl, by rw [List.length_map]; omega, ?_⟩
      refine ⟨_, rfl, b, dx, _, rfl, hb, bf_keep _ _, ?_⟩
      refine ⟨_, rfl, b, B, dx, _, _, rfl, hb, T.cl, T.nN, bf_n _ _, n, dn, _, rfl, hn1, n, dn, tn, wd, rfl, hn1, tn, _, rfl, .inl (SqT.of hn2), ?_⟩
      refine ⟨_, rfl, p, _, rfl, .inl (SqT.of hp1), ?_⟩
      have hlen : (st ++ l).length ≤ 1000 := by rw [List.length_append]; omega
      refine ⟨?_, fun c hc => ?_⟩
      · simp only [List.length_append, List.length_map, List.append_nil]
        exact Nat.le_trans (by omega : st.length + l.length ≤ 1000) (by decide)
      have e2 : Same H1 (upd H1 c (.lst (iv st ++ (iv l ++ [])))) := Same.new hc
      have nch : c ≠ h := (ne_of_none hB2.li hc).symm
      refine ⟨b, h, c, _, wd, st, st ++ l, hs, rfl, hB2.same e2, ?_, nch, h1, h2, hok.app hokl, hlen, hhs, fun H3 t e3 hB3 => k H3 t _ ((e.trans e2).one.two.trans e3) hB3⟩
      rw [upd_same, List.append_nil, iv, iv, iv, List.map_append]
theorem scBnAdd : FnScope ["self", "steps"] ["self", "steps"] (defScope sBnAdd) := ⟨rfl, rfl, rfl, by decide +kernel, rfl, by decide +kernel, by decide +kernel⟩
theorem ok_bnAdd (D : VarAt K B "add" "Bench.add" sBnAdd "self" "steps") (mA : MetOk P w K mg base 6 B "add_all" (spAddAll N B)) : VarOk P w K mg base 7 B "add" (spAdd N B) := by
  refine (D.ok (sp := spAddAll N B) scBnAdd (fun f cdv A outer s H vs Q E hr h => ?_)).imp fun vs H Q E h => ?_
  · obtain ⟨b, h, p, wd, st, l, hs, rfl, hB, hrest⟩ := h
    obtain ⟨dx, n, hb, hN⟩ := hB.ob
    refine ⟨_, pss_one (ps_ret (pe_m mA hr (by decide) (pv 0) (pa_cons (pv 1) pa_nil))), ?_⟩
    exact ⟨_, rfl, b, dx, _, rfl, hb, bf_addall _ _, _, rfl, b, h, p, wd, st, l, hs, rfl, hB, hrest⟩
  · obtain ⟨b, h, wd, st, l, hs, rfl, hB, h1, h2, hok, hokl, hz, hzl, hhs, k⟩ := h
    refine ⟨_, _, rfl, by rw [List.length_map]; omega, fun p hp => ⟨b, h, p, wd, st, l, hs, rfl, hB.same (Same.new hp), upd_same, h1, h2, hok, hokl, hz, hzl, hhs, fun H' t z e hB' => ?_⟩⟩
    exact k H' t z ((Same.new hp).one.two.trans e) hB'
end
end NS
namespace NS
open PySem PySem.Spec PyProof.Rows L2
theorem cutV_drop (xs : List V) (p : Nat) : cutV xs (some (p : Int)) none = xs.drop p := by
  unfold cutV
  rw [HT.sIx_none, HT.sIx_nat]
  by_cases h : p ≤ xs.length
  · rw [Nat.min_eq_left h, List.take_of_length_le (by rw [List.length_drop]; exact Nat.le_refl _)]
  · rw [Nat.min_eq_right (by omega), Nat.sub_self, List.take_zero, List.drop_eq_nil_of_le (by omega)]
theorem iv_take (xs : List Int) (p : Nat) : (iv xs).take p = iv (xs.take p) := (List.map_take).symm
theorem iv_drop (xs : List Int) (p : Nat) : (iv xs).drop p = iv (xs.drop p) := (List.map_drop).symm
theorem iv_app (a b : List Int) : iv a ++ iv b = iv (a ++ b) := (List.map_append).symm
/-- the def undo(self, times=1), called with a number -/
structure UndoAt (K : PySem.W.Frag) (B : Addr) : Prop where
  cl : Cls K B
  ex : ∃ f fd, Meth K B "undo" f ∧ FunD K "undo" "Bench.undo" (defArgs sBnUndo) (defBody sBnUndo) (defScope sBnUndo) [.int 1] [] f fd
section
variable {P : Program} {w : World} {K : PySem.W.Frag} {mg : Str → Option Value} {base : Heap} {N B : Addr}
theorem scBnPlace : FnScope ["self", "index", "step", "steps"] ["self", "index", "step"] (defScope sBnPlace) := ⟨rfl, rfl, rfl, by decide +kernel, rfl, by decide +kernel, by decide +kernel⟩
theorem ok_bnPlace (D : MethAt K B "place" "Bench.place" sBnPlace ["self", "index", "step"]) (T : BnCls K mg B) (Bu : Bi mg) (pS : PrpOk P w K mg base 1 N "steps" (spNtSteps N)) (dInt : DefOk P w K mg base 1 "is_integer" spIsInt) (dCnt : DefOk P w K mg base 1 "check_count" spCkCount)
    (mC : MetOk P w K mg base 3 B "check_step" (spCkStep N B)) (mK : MetOk P w K mg base 5 B "keep" (spBnKeep N B)) : MetOk P w K mg base 6 B "place" (spPlace N B) := by
  refine D.ok scBnPlace (fun vs H Q E h => ?_) (fun f cdv A outer s H vs Q E hr h => ?_)
  · obtain ⟨b, h, i, s', wd, st, hs, rfl, _⟩ := h
    rfl
  · obtain ⟨b, h, i, s', wd, st, hs, rfl, hB, h1, h2, hok, hi, hs1, hs2, hz, hhs, k⟩ := h
    obtain ⟨dx, n, hb, hN⟩ := hB.ob
    obtain ⟨dn, tn, hn1, hn2⟩ := id hN
    obtain ⟨ua, ha1, ha2⟩ := T.place
    refine ⟨_, pss_cons (ps_set (i := 3) scBnPlace.nd rfl (.inl rfl) (pe_callTy call_list_of (by rfl) Bu.list (by decide +kernel) (pa_cons (pe_p pS hr (by decide) (pe_fld (pv 0) rfl)) pa_nil)))
      (pss_cons (ps_if (pt_not (pt_val (pe_d dInt hr (by decide) (by rfl) (pa_cons (pv 1) (pa_cons pe_int (pa_cons (pe_callB call_len_seq (by rfl) Bu.len PySem.boot_len (pa_cons (pv 3) pa_nil)) pa_nil)))))) (pss_one ps_never) pss_nil)
      (pss_cons (ps_expr (pe_m mC hr (by decide) (pv 0) (pa_cons (pv 2) (pa_cons pe_non pa_nil))))
      (pss_cons (ps_expr (pe_d dCnt hr (by decide) (by rfl) (pa_cons (pe_op op_add (pe_callB call_len_seq (by rfl) Bu.len PySem.boot_len (pa_cons (pv 3) pa_nil)) pe_int) pa_nil)))
      (pss_one (ps_ret (pe_m mK hr (by decide) (pv 0) (pa_cons (pe_glob (v := .str "place") (by rfl) ha1 ha2) (pa_cons (pe_op op_cat (pe_op op_cat (pe_slice sl_list (pv 3) po_none (po_some (pv 1))) (pe_lst (pa_cons (pv 2) pa_nil))) (pe_slice sl_list (pv 3) (po_some (pv 1)) po_none)) pa_nil)))))))), ?_⟩
    refine ⟨_, rfl, b, B, dx, _, _, rfl, hb, T.cl, T.nN, bf_n _ _, n, dn, _, rfl, hn1, n, dn, tn, wd, rfl, hn1, tn, _, rfl, .inr (SqT.of hn2), fun c hc => ?_⟩
    have e1 : Same H (upd H c (.lst (iv st))) := Same.new hc
    refine ⟨_, rfl, _, rfl, c, _, rfl, .inl (SqL.of upd_same), i, 0, _, rfl, Int.natCast_nonneg _, by rw [List.length_map]; omega, true, rfl, iteF ?_⟩
    have hB1 := hB.same e1
    refine ⟨_, rfl, b, dx, _, rfl, e1 _ _ hb, bf_check _ _, _, rfl, b, h, s', wd, _, st, hs, rfl, hB1, hs1, hs2, ?_⟩
    refine ⟨_, rfl, c, _, rfl, .inl (SqL.of upd_same), _, _, rfl, rfl, _, rfl, by rw [List.length_map]; omega, ?_⟩
    refine ⟨_, rfl, b, dx, _, rfl, e1 _ _ hb, bf_keep _ _, ?_⟩
    refine ⟨_, rfl, _, rfl, (i : Int), rfl, c, _, rfl, SqL.of upd_same, fun c1 hc1 => ?_⟩
    rw [cutV_take, iv_take]
    have f1 := Same.new (o := .lst (iv (st.take i))) hc1
    refine ⟨_, rfl, (by show 1 ≤ sizeLine; decide), fun c2 hc2 => ?_⟩
    have f2 := Same.new (o := .lst [.int s']) hc2
    refine ⟨c1, c2, _, _, rfl, rfl, f2 _ _ upd_same, upd_same, ?_, fun c3 hc3 => ?_⟩
    · rw [List.length_map, List.length_take]
      exact Nat.le_trans (by show min i st.length + 1 ≤ 1000; omega) (by decide)
    have f3 := Same.new (o := .lst (iv (st.take i) ++ [.int s'])) hc3
    refine ⟨_, rfl, _, rfl, (i : Int), rfl, c, _, rfl, SqL.of (f3 _ _ (f2 _ _ (f1 _ _ upd_same))), fun c4 hc4 => ?_⟩
    rw [cutV_drop, iv_drop]
    have f4 := Same.new (o := .lst (iv (st.drop i))) hc4
    refine ⟨c3, c4, _, _, rfl, rfl, f4 _ _ upd_same, upd_same, ?_, fun c5 hc5 => ?_⟩
    · rw [List.length_append, List.length_map, List.length_map, List.length_take, List.length_drop]
      exact Nat.le_trans (by show min i st.length + 1 + (st.length - i) ≤ 1000; omega) (by decide)
    have f5 := Same.new (o := .lst (iv (st.take i) ++ [.int s'] ++ iv (st.drop i))) hc5
    have eA := (((e1.trans f1).trans (f2.trans f3)).trans f4).trans f5
    have nch : c5 ≠ h := (ne_of_none ((((((e1.trans f1).trans (f2.trans f3)).trans f4)) _ _ hB.li)) hc5).symm
    have hok' : StepsOk wd (st.take i ++ [s'] ++ st.drop i) := ((hok.take i).app (.one hs1 hs2)).app (hok.drop i)
    have hlen' : (st.take i ++ [s'] ++ st.drop i).length ≤ 1000 := by
      rw [List.length_append, List.length_append, List.length_take, List.length_drop, List.length_singleton]
      omega
    refine ⟨b, h, c5, _, wd, st, st.take i ++ [s'] ++ st.drop i, hs, rfl, hB.same eA, ?_, nch, h1, h2, hok', hlen', hhs, fun H3 t e3 hB3 => k H3 t _ (eA.one.two.trans e3) hB3⟩
    rw [upd_same, iv, iv, iv, List.map_append, List.map_append]
    rfl
theorem scBnDrop : FnScope ["self", "index", "steps"] ["self", "index"] (defScope sBnDrop) := ⟨rfl, rfl, rfl, by decide +kernel, rfl, by decide +kernel, by decide +kernel⟩
theorem ok_bnDrop (D : MethAt K B "drop" "Bench.drop" sBnDrop ["self", "index"]) (T : BnCls K mg B) (Bu : Bi mg) (pS : PrpOk P w K mg base 1 N "steps" (spNtSteps N)) (dInt : DefOk P w K mg base 1 "is_integer" spIsInt)
    (mK : MetOk P w K mg base 5 B "keep" (spBnKeep N B)) : MetOk P w K mg base 6 B "drop" (spDrop N B) := by
  refine D.ok scBnDrop (fun vs H Q E h => ?_) (fun f cdv A outer s H vs Q E hr h => ?_)
  · obtain ⟨b, h, i, wd, st, hs, rfl, _⟩ := h
    rfl
  · obtain ⟨b, h, i, wd, st, hs, rfl, hB, h1, h2, hok, hi, hz, hhs, k⟩ := h
    obtain ⟨dx, n, hb, hN⟩ := hB.ob
    obtain ⟨dn, tn, hn1, hn2⟩ := id hN
    obtain ⟨ua, ha1, ha2⟩ := T.drop
    refine ⟨_, pss_cons (ps_set (i := 2) scBnDrop.nd rfl (.inl rfl) (pe_callTy call_list_of (by rfl) Bu.list (by decide +kernel) (pa_cons (pe_p pS hr (by decide) (pe_fld (pv 0) rfl)) pa_nil)))
      (pss_cons (ps_if (pt_not (pt_val (pe_d dInt hr (by decide) (by rfl) (pa_cons (pv 1) (pa_cons pe_int (pa_cons (pe_op op_sub (pe_callB call_len_seq (by rfl) Bu.len PySem.boot_len (pa_cons (pv 2) pa_nil)) pe_int) pa_nil)))))) (pss_one ps_never) pss_nil)
      (pss_cons (ps_expr (pe_m mK hr (by decide) (pv 0) (pa_cons (pe_glob (v := .str "drop") (by rfl) ha1 ha2) (pa_cons (pe_op op_cat (pe_slice sl_list (pv 2) po_none (po_some (pv 1))) (pe_slice sl_list (pv 2) (po_some (pe_op op_add (pv 1) pe_int)) po_none)) pa_nil))))
      (pss_one (ps_ret (pe_ix ix_list (pv 2) (pv 1) (fun _ _ => rfl)))))), ?_⟩
    refine ⟨_, rfl, b, B, dx, _, _, rfl, hb, T.cl, T.nN, bf_n _ _, n, dn, _, rfl, hn1, n, dn, tn, wd, rfl, hn1, tn, _, rfl, .inr (SqT.of hn2), fun c hc => ?_⟩
    have e1 : Same H (upd H c (.lst (iv st))) := Same.new hc
    refine ⟨_, rfl, _, rfl, c, _, rfl, .inl (SqL.of upd_same), _, _, rfl, rfl, i, 0, _, rfl, Int.natCast_nonneg _, by rw [List.length_map]; omega, true, rfl, iteF ?_⟩
    have hB1 := hB.same e1
    refine ⟨_, rfl, b, dx, _, rfl, e1 _ _ hb, bf_keep _ _, ?_⟩
    refine ⟨_, rfl, _, rfl, (i : Int), rfl, c, _, rfl, SqL.of upd_same, fun c1 hc1 => ?_⟩
    rw [cutV_take, iv_take]
    have f1 := Same.new (o := .lst (iv (st.take i))) hc1
    refine ⟨_, rfl, _, rfl, _, _, rfl, rfl, ((i : Int) + 1), rfl, c, _, rfl, SqL.of (f1 _ _ upd_same), fun c4 hc4 => ?_⟩
    have ei : ((i : Int) + 1) = ((i + 1 : Nat) : Int) := by omega
    rw [ei, cutV_drop, iv_drop]
    have f4 := Same.new (o := .lst (iv (st.drop (i + 1)))) hc4
    refine ⟨c1, c4, _, _, rfl, rfl, f4 _ _ upd_same, upd_same, ?_, fun c5 hc5 => ?_⟩
    · rw [List.length_map, List.length_map, List.length_take, List.length_drop]
      exact Nat.le_trans (by omega : min i st.length + (st.length - (i + 1)) ≤ 1000) (by decide)
    have f5 := Same.new (o := .lst (iv (st.take i) ++ iv (st.drop (i + 1)))) hc5
    have eB := (e1.trans f1).trans f4
    have eA := eB.trans f5
    have nch : c5 ≠ h := (ne_of_none (eB _ _ hB.li) hc5).symm
    have hok' : StepsOk wd (st.take i ++ st.drop (i + 1)) := (hok.take i).app (hok.drop (i + 1))
    have hlen' : (st.take i ++ st.drop (i + 1)).length ≤ 1000 := by
      rw [List.length_append, List.length_take, List.length_drop]
      omega
    have hc0 : H c = none := hc
    have ncb : c ≠ b := (ne_of_none hb hc0).symm
    have nchh : c ≠ h := (ne_of_none hB.li hc0).symm
    refine ⟨b, h, c5, _, wd, st, st.take i ++ st.drop (i + 1), hs, rfl, hB.same eA, ?_, nch, h1, h2, hok', hlen', hhs, fun H3 t e3 hB3 => ?_⟩
    · rw [upd_same, iv, iv, iv, List.map_append]
    · have hc3 : H3 c = some (.lst (iv st)) := e3 _ _ ncb nchh (f5 _ _ (f4 _ _ (f1 _ _ upd_same)))
      exact ⟨_, rfl, _, rfl, c, _, _, _, rfl, rfl, SqL.of hc3, at_of (j := i) rfl (iv_at hi), k H3 t _ (eA.one.two.trans e3) hB3⟩
theorem scBnUndo : FnScope ["self", "times", "result", "turn", "word"] ["self", "times"] (defScope sBnUndo) := ⟨rfl, rfl, rfl, by decide +kernel, rfl, by decide +kernel, by decide +kernel⟩
theorem undo_binds {f : Addr} {fd : FuncData} (F : FunD K "undo" "Bench.undo" (defArgs sBnUndo) (defBody sBnUndo) (defScope sBnUndo) [.int 1] [] f fd) : Binds K fd ["self", "times"] [] := by
  obtain ⟨ds, hv, hb⟩ := F.binds1 (ps := ["self", "times"]) 2 1 (by intro z; cases z) rfl fun T kV doc pm an cdv ct us its h1 h2 => by
    match us, its, h1, h2 with
    | [a, b], [c], _, _ => exact ⟨_, rfl, rfl⟩
  cases hv
  exact hb
theorem ok_bnUndo (D : UndoAt K B) (T : BnCls K mg B) (Bu : Bi mg) (dAny : DefOk P w K mg base 1 "is_any_integer" spIsAny) : MetOk P w K mg base 2 B "undo" (spUndo N B) := by
  obtain ⟨f, fd, me, F⟩ := D.ex
  refine ⟨D.cl, f, me, FnOk.r (ps := ["self", "times"]) (F.ok scBnUndo (fun vs H Q E h => ?_) (fun cdv A outer s H vs Q E hr h => ?_)) (undo_binds F)⟩
  · obtain ⟨b, h, wd, st, hs, rfl, _⟩ := h
    rfl
  · obtain ⟨b, h, wd, st, hs, rfl, hB, hhs, k⟩ := h
    obtain ⟨dx, n, hb, hN⟩ := hB.ob
    have nhb := hB.ne
    suffices hh : ∃ t, PSs (cxOf CX0 P w K mg base ["self", "times", "result", "turn", "word"] "Bench.undo" (defScope sBnUndo) f cdv A outer s H E).nox (defBody sBnUndo) t ∧ t { nx := fun _ H' => Q .non H', rt := Q } (start ["self", "times", "result", "turn", "word"] [.ref b, .int (hs.length : Nat)]) H from
      let ⟨t, h1, h2⟩ := hh
      ⟨t, h1.nox, h2⟩
    refine ⟨_, pss_cons (ps_if (PW.pt (pw_or (pt_not (pt_val (pe_d dAny hr (by decide) (by rfl) (pa_cons (pv 1) pa_nil)))) (pw_or1 (pt_cmpR op_lt (pv 1) pe_int (nomark _))))) (pss_one ps_never) pss_nil)
      (pss_cons (ps_if (pt_cmpR op_gt (pv 1) (pe_callB call_len_seq (by rfl) Bu.len PySem.boot_len (pa_cons (pe_fld (pv 0) rfl) pa_nil)) (nomark _)) (pss_one ps_never) pss_nil)
      (pss_cons (ps_set (i := 2) scBnUndo.nd rfl (.inl rfl) (pe_lst pa_nil))
      (pss_cons (ps_for PassesOwn.never rfl (pi_range1 (by rfl) Bu.range (pa_cons (pv 1) pa_nil)) (pg_name (i := 3) scBnUndo.nd rfl (.inl rfl))
        (pss_cons (ps_asg (pe_bm0 PySem.F.plainAttrs_list PySem.F.slot_list_pop PySem.F.type_list_pop mt_pop (pe_fld (pv 0) rfl)) (pg_tup rfl (pgs_cons (pg_name (i := 4) scBnUndo.nd rfl (.inl rfl)) (pgs_cons (pg_fld (pv 0)) pgs_nil))))
        (pss_one (ps_expr (pe_bm PySem.F.plainAttrs_list PySem.F.slot_list_append PySem.F.type_list_append mt_append (pv 2) (pa_cons (pv 4) pa_nil))))))
      (pss_one (ps_ret (pv 2)))))), ?_⟩
    refine ⟨_, rfl, _, rfl, true, rfl, iteF ⟨_, rfl, _, _, rfl, rfl, _, rfl, ite2 (fun hc => absurd (of_decide_eq_true hc) (by omega)) fun _ => ?_⟩⟩
    refine ⟨_, rfl, _, rfl, b, B, dx, _, _, rfl, hb, T.cl, T.nH, bf_h _ _, h, _, rfl, .inl (SqL.of hB.li), _, _, rfl, rfl, _, rfl, ite2 (fun hc => absurd (of_decide_eq_true hc) (by rw [List.length_map]; omega)) fun _ => ?_⟩
    refine ⟨Nat.zero_le _, fun r hr0 => ?_⟩
    have nrb : r ≠ b := (ne_of_none hb hr0).symm
    have nrh : r ≠ h := (ne_of_none hB.li hr0).symm
    have e1 : Same H (upd H r (.lst [])) := Same.new hr0
    refine ⟨_, rfl, _, rfl, by omega, by omega, for_range (lo := 0) (n := ((hs.length : Nat) : Int).toNat) (fun i σ H' => ∃ v3 v4, σ = [some (.ref b), some (.int (hs.length : Nat)), some (.ref r), v3, v4] ∧ Same2 b h H H' ∧ (∃ m, H' b = some (.ins B dx (bf m h))) ∧
      H' h = some (.lst ((hs.take (hs.length - i)).map V.ref)) ∧ ∃ zs, H' r = some (.lst zs) ∧ zs.length ≤ i) ⟨none, none, rfl, e1.one.two, ⟨n, e1 _ _ hb⟩, by rw [Nat.sub_zero, List.take_length]; exact e1 _ _ hB.li, [], upd_same, Nat.le_refl _⟩ ?_ ?_⟩
    · rintro i σ H1 hi ⟨v3, v4, rfl, e, ⟨m, hb1⟩, hh1, zs, hr1, hzs⟩
      rw [Int.toNat_natCast] at hi
      obtain ⟨j, hj⟩ : ∃ j, hs.length - i = j + 1 := ⟨hs.length - i - 1, by omega⟩
      have hj2 : hs.length - (i + 1) = j := by omega
      have hjl : j < hs.length := by omega
      rw [hj] at hh1
      have etk : hs.take (j + 1) = hs.take j ++ [hs[j]] := by
        rw [List.take_add_one, List.getElem?_eq_getElem hjl]
        rfl
      rw [etk, List.map_append] at hh1
      obtain ⟨z, nn, hit⟩ := hB.it hs[j] (List.getElem_mem hjl)
      have ntb : hs[j] ≠ b := ne_of hit hb (by intro z; cases z)
      have nth : hs[j] ≠ h := ne_of hit hB.li (by intro z; cases z)
      have hit1 := e _ _ ntb nth hit
      refine ⟨_, rfl, b, B, dx, _, _, rfl, hb1, T.cl, T.nH, bf_h _ _, .inl ⟨rfl, _, SqL.of hh1⟩, h, _, .ref hs[j], rfl, rfl, hh1, ?_, ?_⟩
      · rw [List.length_append, List.length_map, List.length_map, List.length_take]
        show (List.map V.ref (hs.take j) ++ [V.ref hs[j]])[min j hs.length + 1 - 1]? = _
        rw [List.getElem?_append_right (by rw [List.length_map, List.length_take]; omega), List.length_map, List.length_take, Nat.add_sub_cancel, Nat.sub_self]
        rfl
      have eD : (List.map V.ref (hs.take j) ++ List.map V.ref [hs[j]]).dropLast = (hs.take j).map V.ref := by
        show (List.map V.ref (hs.take j) ++ [V.ref hs[j]]).dropLast = _
        rw [List.dropLast_concat]
      rw [eD]
      have hb2 : upd H1 h (.lst ((hs.take j).map V.ref)) b = some (.ins B dx (bf m h)) := (upd_ne nhb.symm).trans hb1
      refine ⟨hs[j], _, rfl, SqT.of ((upd_ne nth).trans hit1), rfl, _, _, rfl, _, _, rfl, _, rfl, b, B, dx, _, rfl, hb2, T.cl, T.nN, (by show 2 < 1000; decide), rfl, ?_⟩
      rw [bf_net]
      have hr2 : upd (upd H1 h (.lst ((hs.take j).map V.ref))) b (.ins B dx (bf nn h)) r = some (.lst zs) := (upd_ne nrb).trans ((upd_ne nrh).trans hr1)
      refine ⟨_, rfl, .inl ⟨rfl, _, SqL.of hr2⟩, _, rfl, r, _, _, rfl, rfl, hr2, Nat.lt_of_le_of_lt hzs (Nat.lt_of_lt_of_le hi (Nat.le_trans hhs (by decide))), ?_⟩
      refine ⟨_, _, rfl, fun c o c1 c2 q => ?_, ⟨nn, ?_⟩, ?_, _, upd_same, ?_⟩
      · rw [upd_ne (ne_of_none q hr0), upd_ne c1, upd_ne c2]
        exact e _ _ c1 c2 q
      · rw [upd_ne nrb.symm, upd_same]
      · rw [upd_ne nrh.symm, upd_ne nhb, upd_same, hj2]
      · rw [List.length_append, List.length_singleton]
        omega
    · rintro σ H1 ⟨v3, v4, rfl, e, _, _, _, _⟩
      exact ⟨_, rfl, k H1 r e⟩
end
end NS
namespace NS
open PySem PySem.Spec PyProof.Rows L2
/-! ### plain data compared -/
abbrev di (xs : List Int) : List PyData := xs.map PyData.int
theorem dpAll_iv {K : PySem.W.Frag} {H : Hp} : ∀ xs : List Int, DpAll K H (iv xs) (di xs)
  | [] => .nil
  | x :: r => .cons (.int x) (dpAll_iv r)
theorem dp_lst {K : PySem.W.Frag} {H : Hp} {a : Addr} {xs : List Int} (h : H a = some (.lst (iv xs))) : Dp K H (.ref a) (.list (di xs)) := .lst (SqL.of h) (dpAll_iv xs)
theorem dp_tup {K : PySem.W.Frag} {H : Hp} {a : Addr} {xs : List Int} (h : H a = some (.tup (iv xs))) : Dp K H (.ref a) (.tuple (di xs)) := .tup (SqT.of h) (dpAll_iv xs)
theorem canLayAll_di : ∀ xs : List Int, PyData.canLayAll0 (di xs) = true
  | [] => by simp only [di, List.map_nil, PyData.canLayAll0]
  | x :: r => by
    have ih := canLayAll_di r
    simp only [di, List.map_cons, PyData.canLayAll0, PyData.canLay0, Bool.true_and] at ih ⊢
    exact ih
theorem depthAll_di : ∀ xs : List Int, PyData.depthAll (di xs) ≤ 1
  | [] => by simp only [di, List.map_nil, PyData.depthAll]; omega
  | x :: r => by
    have ih := depthAll_di r
    simp only [di, List.map_cons, PyData.depthAll, PyData.depth] at ih ⊢
    omega
theorem canLay_di (xs : List Int) : PyData.canLay0 (.list (di xs)) = true := by
  simp only [PyData.canLay0]
  exact canLayAll_di xs
theorem shaped_di (xs : List Int) : SeqAt.shaped (.list (di xs)) = true := by
  unfold SeqAt.shaped
  rw [canLay_di, Bool.true_and]
  have h := depthAll_di xs
  simp only [PyData.depth]
  exact decide_eq_true (by omega)
theorem canLay_dt (xs : List Int) : PyData.canLay0 (.tuple (di xs)) = true := by
  simp only [PyData.canLay0]
  exact canLayAll_di xs
theorem shaped_dt (xs : List Int) : SeqAt.shaped (.tuple (di xs)) = true := by
  unfold SeqAt.shaped
  rw [canLay_dt, Bool.true_and]
  have h := depthAll_di xs
  simp only [PyData.depth]
  exact decide_eq_true (by omega)
/-- lists of lists -/
abbrev dl (xs : List (List Int)) : List PyData := xs.map fun x => PyData.list (di x)
theorem canLayAll_dl : ∀ xs : List (List Int), PyData.canLayAll0 (dl xs) = true
  | [] => by simp only [dl, List.map_nil, PyData.canLayAll0]
  | x :: r => by
    have ih := canLayAll_dl r
    have h := canLay_di x
    simp only [dl, List.map_cons, PyData.canLayAll0] at ih ⊢
    rw [h, Bool.true_and]
    exact ih
theorem depthAll_dl : ∀ xs : List (List Int), PyData.depthAll (dl xs) ≤ 2
  | [] => by simp only [dl, List.map_nil, PyData.depthAll]; omega
  | x :: r => by
    have ih := depthAll_dl r
    have h := depthAll_di x
    simp only [dl, List.map_cons, PyData.depthAll, PyData.depth] at ih ⊢
    omega
theorem canLay_dl (xs : List (List Int)) : PyData.canLay0 (.list (dl xs)) = true := by
  simp only [PyData.canLay0]
  exact canLayAll_dl xs
theorem shaped_dl (xs : List (List Int)) : SeqAt.shaped (.list (dl xs)) = true := by
  unfold SeqAt.shaped
  rw [canLay_dl, Bool.true_and]
  have h := depthAll_dl xs
  simp only [PyData.depth]
  exact decide_eq_true (by omega)
theorem eqv_di (xs : List Int) : PyData.eqv (.list (di xs)) (.list (di xs)) = true := SeqAt.eqv_refl _ (canLay_di xs)
theorem eqv_nil (xs : List Int) : PyData.eqv (.list (di xs)) (.list []) = decide (xs = []) := by
  cases xs with
  | nil => simp only [PyData.eqv, di, List.map_nil, PyData.eqvAll]; rfl
  | cons a r => simp only [PyData.eqv, di, List.map_cons, PyData.eqvAll]; rfl
/-! ### the law's choices -/
/-- the list the choices are drawn from -/
def Src (H : Hp) (a : Addr) : Prop := ∃ x y : Int, H a = some (.lst [.int x, .int y]) ∧ 0 ≤ x ∧ 0 ≤ y ∧ y < 2147483647
theorem Src.same {H H' : Hp} {a : Addr} (h : Src H a) (e : Same H H') : Src H' a := let ⟨x, y, q, r⟩ := h; ⟨x, y, e _ _ q, r⟩
theorem Src.same1 {H H' : Hp} {a s : Addr} (h : Src H a) (e : Same1 s H H') (n : a ≠ s) : Src H' a := let ⟨x, y, q, r⟩ := h; ⟨x, y, e _ _ n q, r⟩
theorem Src.same2 {H H' : Hp} {a s t : Addr} (h : Src H a) (e : Same2 s t H H') (n : a ≠ s) (m : a ≠ t) : Src H' a := let ⟨x, y, q, r⟩ := h; ⟨x, y, e _ _ n m q, r⟩
theorem Src.ne_none {H : Hp} {a p : Addr} (h : Src H a) (hp : H p = none) : a ≠ p := let ⟨_, _, q, _⟩ := h; ne_of_none q hp
def spSource (K : PySem.W.Frag) : Sp := fun vs H Q _ => ∃ (s : Addr) (ns : List Int) (k : Nat), vs = [.ref s, .int (k : Nat)] ∧ SqL K H s (iv ns) ∧ k ≤ 10 ∧ ns.length ≤ 63 ∧ ∀ H' p, Same H H' → H p = none → Src H' p → Q (.ref p) H'
def spDraw : Sp := fun vs H Q _ => ∃ (a : Addr) (m : Int), vs = [.ref a, .int m] ∧ Src H a ∧ 0 < m ∧ m < 2 ^ 70 ∧ ∀ H' r, Same1 a H H' → Src H' a → 0 ≤ r → r < m → Q (.int r) H'
section
variable {P : Program} {w : World} {K : PySem.W.Frag} {mg : Str → Option Value} {base : Heap}
theorem pos1 : (0 : Int) < 2147483647 := by decide
theorem pos2 : (0 : Int) < 2147483629 := by decide
theorem scDraw : FnScope ["_law_source_here", "_law_many", "_law_result"] ["_law_source_here", "_law_many"] (defScope sDraw) := ⟨rfl, rfl, rfl, by decide +kernel, rfl, by decide +kernel, by decide +kernel⟩
theorem ok_draw (D : DefAt K mg "_law_draw" "_law_draw" sDraw ["_law_source_here", "_law_many"]) : DefOk P w K mg base 1 "_law_draw" spDraw := by
  refine D.ok scDraw (fun vs H Q E h => ?_) (fun f cdv A outer s H vs Q E hr h => ?_)
  · obtain ⟨a, m, rfl, _⟩ := h
    rfl
  · obtain ⟨a, m, rfl, ⟨x, y, ha, h0, h1, h2⟩, hm, hm2, k⟩ := h
    refine ⟨_, pss_cons (ps_if (pt_cmpR op_gt (pe_ix ix_list (pv 0) pe_int (fun _ _ => rfl)) pe_int (nomark _))
        (pss_cons (ps_set (i := 2) scDraw.nd rfl (.inl rfl) (pe_op op_mod (pe_ix ix_list (pv 0) pe_int (fun _ _ => rfl)) (pv 1)))
        (pss_cons (ps_asg (pe_op op_fdivW (pe_ix ix_list (pv 0) pe_int (fun _ _ => rfl)) (pv 1)) (pg_sub (pv 0) pe_int set_list))
        (pss_one (ps_ret (pv 2))))) pss_nil)
      (pss_cons (ps_asg (pe_op op_mod (pe_op op_add (pe_op op_mul (pe_ix ix_list (pv 0) pe_int (fun _ _ => rfl)) pe_int) pe_int) pe_int) (pg_sub (pv 0) pe_int set_list))
      (pss_one (ps_ret (pe_op op_mod (pe_op op_fdivW (pe_op op_mod (pe_op op_mul (pe_ix ix_list (pv 0) pe_int (fun _ _ => rfl)) (pe_ix ix_list (pv 0) pe_int (fun _ _ => rfl))) pe_int) pe_int) (pv 1))))), ?_⟩
    have wd : CDivW x m := wide_div (b := 70) hm (by omega) (by decide) (by decide)
    refine ⟨_, rfl, a, _, 0, _, rfl, rfl, SqL.of ha, rfl, _, _, rfl, rfl, _, rfl, ite2 (fun hc => ?_) (fun hc => ?_)⟩
    · refine ⟨_, rfl, a, _, 0, _, rfl, rfl, SqL.of ha, rfl, _, rfl, _, _, rfl, rfl, hm, ?_⟩
      refine ⟨_, rfl, a, _, 0, _, rfl, rfl, SqL.of ha, rfl, _, rfl, _, _, rfl, rfl, wd, ?_⟩
      refine ⟨_, rfl, a, _, _, 0, rfl, rfl, ha, rfl, ?_⟩
      exact ⟨_, rfl, k _ _ Same1.upd ⟨_, y, upd_same, Int.ediv_nonneg h0 (by omega), h1, h2⟩ (Int.emod_nonneg x (by omega)) (Int.emod_lt_of_pos x hm)⟩
    · refine ⟨_, rfl, a, _, 1, _, rfl, rfl, SqL.of ha, rfl, _, _, rfl, rfl, .inl (by constructor <;> omega), _, _, rfl, rfl, _, _, rfl, rfl, pos1, ?_⟩
      refine ⟨_, rfl, a, _, _, 1, rfl, rfl, ha, rfl, ?_⟩
      have q1 : 0 ≤ (y * 48271 + 11) % 2147483647 := Int.emod_nonneg _ (by decide)
      have q2 : (y * 48271 + 11) % 2147483647 < 2147483647 := Int.emod_lt_of_pos _ (by decide)
      refine ⟨_, rfl, a, _, 1, _, rfl, rfl, SqL.of upd_same, rfl, _, rfl, a, _, 1, _, rfl, rfl, SqL.of upd_same, rfl, _, _, rfl, rfl, .inl (by constructor <;> omega), _, _, rfl, rfl, pos2, _, _, rfl, rfl, wide_div (b := 5) (by decide) (by decide) (by decide) (by decide), _, rfl, _, _, rfl, rfl, hm, ?_⟩
      exact k _ _ Same1.upd ⟨x, _, upd_same, h0, q1, q2⟩ (Int.emod_nonneg _ (by omega)) (Int.emod_lt_of_pos _ hm)
end
end NS
namespace NS
open PySem PySem.Spec PyProof.Rows L2
def spSteps : Sp := fun vs H Q _ => ∃ (a : Addr) (wd m : Int), vs = [.ref a, .int wd, .int m] ∧ Src H a ∧ 1 ≤ wd ∧ wd ≤ 40 ∧ 0 ≤ m ∧ m ≤ 20 ∧ ∀ H' p l, Same1 a H H' → Src H' a → H p = none → H' p = some (.lst (iv l)) → StepsOk wd l → (l.length : Int) ≤ m → Q (.ref p) H'
def spValues : Sp := fun vs H Q _ => ∃ (a : Addr) (wd : Int), vs = [.ref a, .int wd] ∧ Src H a ∧ 1 ≤ wd ∧ wd ≤ 40 ∧ ∀ H' p v, Same1 a H H' → Src H' a → H p = none → H' p = some (.lst (iv v)) → (v.length : Int) = wd → Q (.ref p) H'
theorem Same1.fr {a D : Addr} {H H1 H2 : Hp} (e : Same1 a H H1) (n : H D = none) (f : Same1 D H1 H2) : Same1 a H H2 := fun b o nb h => f b o (ne_of_none h n) (e b o nb h)
theorem Same2.fr {a c D : Addr} {H H1 H2 : Hp} (e : Same2 a c H H1) (n : H D = none) (f : Same1 D H1 H2) : Same2 a c H H2 := fun b o nb nc h => f b o (ne_of_none h n) (e b o nb nc h)
theorem b01 (b : Bool) : (-(2 ^ 64) : Int) < (if b = true then 1 else 0) ∧ (if b = true then (1 : Int) else 0) < 2 ^ 64 := by cases b <;> decide
theorem b01n (b : Bool) : (0 : Int) ≤ (if b = true then 1 else 0) := by cases b <;> decide
theorem Same1.trans' {s : Addr} {H H1 H2 : Hp} (a : Same H H1) (b : Same1 s H1 H2) : Same1 s H H2 := a.one.trans b
section
variable {P : Program} {w : World} {K : PySem.W.Frag} {mg : Str → Option Value} {base : Heap}
theorem scSource : FnScope ["_law_script", "_law_k", "_law_cell", "_law_size", "_law_mixed"] ["_law_script", "_law_k"] (defScope sSource) := ⟨rfl, rfl, rfl, by decide +kernel, rfl, by decide +kernel, by decide +kernel⟩
theorem ok_source (D : DefAt K mg "_law_source" "_law_source" sSource ["_law_script", "_law_k"]) (B : Bi mg) : DefOk P w K mg base 1 "_law_source" (spSource K) := by
  refine D.ok scSource (fun vs H Q E h => ?_) (fun f cdv A outer s H vs Q E hr h => ?_)
  · obtain ⟨s, ns, j, rfl, _⟩ := h
    rfl
  · obtain ⟨c, ns, j, rfl, hS, hj, hn, k⟩ := h
    refine ⟨_, pss_cons (ps_set (i := 2) scSource.nd rfl (.inl rfl) (pe_op op_add (pe_op op_mul pe_int (pe_callB (cr_sum rfl) (by rfl) B.sum (by decide +kernel) (pa_cons (pe_slice sl_list (pv 0) po_none (po_some pe_int)) pa_nil))) (pv 1)))
      (pss_cons (ps_if (pt_cmpR op_lt (pv 1) (pe_callB call_len_seq (by rfl) B.len PySem.boot_len (pa_cons (pv 0) pa_nil)) (nomark _)) (pss_one (ps_set (i := 2) scSource.nd rfl (.inl rfl) (pe_ix ix_list (pv 0) (pv 1) (fun _ _ => rfl)))) pss_nil)
      (pss_cons (ps_set (i := 3) scSource.nd rfl (.inl rfl) (pe_callB call_abs (by rfl) B.abs (by decide +kernel) (pa_cons (pv 2) pa_nil)))
      (pss_cons (ps_set (i := 4) scSource.nd rfl (.inl rfl) (pe_op op_mod (pe_op op_mul (pe_op op_add (pe_op op_add (pe_op op_add (pe_op op_mod (pv 3) pe_int) (pe_op op_mul (pe_op op_mul pe_int (pv 1)) (pv 1))) (pe_op op_mul pe_int (pv 1))) pe_int) pe_int) pe_int))
      (pss_one (ps_ret (pe_lst (pa_cons (pe_op op_mul (pv 3) (pe_callTy call_int1 (by rfl) B.int (by decide +kernel) (pa_cons (pe_cmpR op_ge (pv 3) (pe_op op_pow pe_int pe_int) (nomark _)) pa_nil))) (pa_cons (pe_op op_mod (pe_op op_mul (pv 4) (pv 4)) pe_int) pa_nil)))))))), ?_⟩
    refine ⟨_, rfl, 63, rfl, c, _, rfl, hS, fun q hq => ?_⟩
    have e0 : cutV (iv ns) none (some (63 : Int)) = iv (ns.take 63) := (cutV_take (iv ns) 63).trans (iv_take ns 63)
    rw [e0]
    refine ⟨q, _, rfl, SqL.of upd_same, _, _, rfl, rfl, .inl (by constructor <;> decide), _, rfl, _, _, rfl, rfl, ?_⟩
    have e1 : Same H (upd H q (.lst (iv (ns.take 63)))) := Same.new hq
    have b7 : (-(2 ^ 64) : Int) < 7919 * (j : Int) ∧ 7919 * (j : Int) < 2 ^ 64 := by constructor <;> omega
    refine ⟨_, rfl, _, rfl, c, _, rfl, .inl (e1.seq hS), _, _, rfl, rfl, _, rfl, ite2 (fun hc => ⟨_, rfl, _, rfl, c, _, _, _, rfl, rfl, e1.seq hS, at_of (j := j) rfl (iv_at ?_), ?_⟩) (fun hc => ?_)⟩
    · have := of_decide_eq_true hc
      rw [List.length_map] at this
      omega
    all_goals
      refine ⟨_, rfl, _, rfl, ?_⟩
      refine ⟨_, rfl, _, _, rfl, rfl, pos2, _, rfl, _, _, rfl, rfl, .inl (by constructor <;> decide), _, rfl, _, _, rfl, rfl, .inl b7, _, _, rfl, rfl, _, rfl, _, _, rfl, rfl, .inl (by constructor <;> decide), _, _, rfl, rfl, _, _, rfl, rfl, _, _, rfl, rfl, .inr (by constructor <;> decide), _, _, rfl, rfl, pos1, ?_⟩
      refine ⟨_, rfl, _, rfl, _, _, rfl, rfl, ⟨by decide, by decide, by decide⟩, _, _, rfl, rfl, .inr ⟨_, rfl, _, _, rfl, rfl, .inr (b01 _), ?_⟩⟩
      refine ⟨_, rfl, _, rfl, _, _, rfl, rfl, .inl ⟨Int.lt_of_lt_of_le (by decide) (Int.emod_nonneg _ (by decide)), Int.lt_trans (Int.emod_lt_of_pos _ pos1) (by decide)⟩, _, _, rfl, rfl, pos2, by show 2 ≤ sizeLine; decide, fun p hp => ?_⟩
      exact k _ p (e1.trans (Same.new hp)) (e1.free hp) ⟨_, _, upd_same, Int.mul_nonneg (by split <;> omega) (b01n _), Int.emod_nonneg _ (by decide), Int.lt_trans (Int.emod_lt_of_pos _ pos2) (by decide)⟩
theorem scSteps : FnScope ["_law_source_here", "_law_width", "_law_many", "_law_k"] ["_law_source_here", "_law_width", "_law_many"] (defScope sSteps) := ⟨rfl, rfl, rfl, by decide +kernel, rfl, by decide +kernel, by decide +kernel⟩
theorem ok_steps (D : DefAt K mg "_law_steps" "_law_steps" sSteps ["_law_source_here", "_law_width", "_law_many"]) (B : Bi mg) (dD : DefOk P w K mg base 1 "_law_draw" spDraw) : DefOk P w K mg base 2 "_law_steps" spSteps := by
  refine D.ok scSteps (fun vs H Q E h => ?_) (fun f cdv A outer s H vs Q E hr h => ?_)
  · obtain ⟨a, wd, m, rfl, _⟩ := h
    rfl
  · obtain ⟨a, wd, m, rfl, ha, h1, h2, h3, h4, k⟩ := h
    refine ⟨_, pss_one (ps_ret (pe_lc (own := [("_law_k", 3)]) (g := gName 3) (tt := tYes) (by rfl) scSteps.nd
        (pi_range1 (by rfl) B.range (pa_cons (pe_op op_mul (pv 2) (pe_callTy call_int1 (by rfl) B.int (by decide +kernel) (pa_cons (pe_cmpR op_gt (pv 1) pe_int (nomark _)) pa_nil))) pa_nil))
        (blkOk_by (N := ["_law_source_here", "_law_width", "_law_many", "_law_k"]) (sc := defScope sSteps) (by decide +kernel))
        (fun _ _ _ _ _ => pg_name (i := 3) scSteps.nd rfl (Or.inl rfl)) (fun _ _ _ _ _ => pts_nil)
        (fun _ _ _ _ _ => pe_op op_add pe_int (pe_d dD hr (by decide) (by rfl) (pa_cons (pv 0) (pa_cons (pe_op op_sub (pv 1) pe_int) pa_nil)))))), ?_⟩
    have hb : (decide (1 < wd) = true ∧ 1 < wd) ∨ (decide (1 < wd) = false ∧ wd = 1) := by
      by_cases h : 1 < wd
      · exact .inl ⟨decide_eq_true h, h⟩
      · exact .inr ⟨decide_eq_false h, by omega⟩
    have hn : 0 ≤ m * (if decide (1 < wd) = true then 1 else 0) ∧ m * (if decide (1 < wd) = true then 1 else 0) ≤ m ∧ (0 < m * (if decide (1 < wd) = true then 1 else 0) → 1 < wd) := by
      rcases hb with ⟨eb, hw⟩ | ⟨eb, hw⟩
      · rw [eb, if_pos rfl]; omega
      · rw [eb, if_neg (by decide)]; omega
    refine ⟨_, rfl, _, rfl, _, _, rfl, rfl, .inr ⟨_, rfl, _, _, rfl, rfl, .inl (by constructor <;> omega), _, rfl, by omega, by omega, fun D hD => ?_⟩⟩
    refine lc_range (lo := 0) (n := (m * (if decide (1 < wd) = true then 1 else 0)).toNat) (fun i H' => Same1 a H H' ∧ Src H' a ∧ ∃ l, H' D = some (.lst (iv l)) ∧ StepsOk wd l ∧ l.length ≤ i) ⟨(Same.new hD).one, ha.same (Same.new hD), [], upd_same, StepsOk.nil, Nat.le_refl _⟩ ?_ ?_
    · rintro i H1 hi ⟨e, hs, l, hl, hok, hln⟩
      have hw : 1 < wd := hn.2.2 (by omega)
      have naD : a ≠ D := ha.ne_none hD
      refine ⟨rfl, tyes ⟨_, rfl, _, rfl, _, _, rfl, rfl, a, wd - 1, rfl, hs, by omega, by omega, fun H2 r e2 hs2 r0 r1 => ?_⟩⟩
      refine ⟨_, _, rfl, rfl, _, e2 _ _ naD.symm hl, ?_, (e.trans e2).fr hD Same1.upd, hs2.same1 Same1.upd naD, l ++ [1 + r], ?_, ?_, ?_⟩
      · rw [List.length_map]
        exact Nat.lt_of_lt_of_le (by omega : l.length < 100) (by decide)
      · rw [upd_same, iv_snoc]
      · exact hok.app (.one (by omega) (by omega))
      · rw [List.length_append, List.length_singleton]
        omega
    · rintro H1 ⟨e, hs, l, hl, hok, hln⟩
      exact k H1 D l e hs hD hl hok (by omega)
/-! ### the values that are sorted -/
theorem scValues : FnScope ["_law_source_here", "_law_width", "_law_size", "_law_k"] ["_law_source_here", "_law_width"] (defScope sValues) := ⟨rfl, rfl, rfl, by decide +kernel, rfl, by decide +kernel, by decide +kernel⟩
theorem ok_values (D : DefAt K mg "_law_values" "_law_values" sValues ["_law_source_here", "_law_width"]) (B : Bi mg) (dD : DefOk P w K mg base 1 "_law_draw" spDraw) : DefOk P w K mg base 2 "_law_values" spValues := by
  refine D.ok scValues (fun vs H Q E h => ?_) (fun f cdv A outer s H vs Q E hr h => ?_)
  · obtain ⟨a, wd, rfl, _⟩ := h
    rfl
  · obtain ⟨a, wd, rfl, ha, h1, h2, k⟩ := h
    refine ⟨_, pss_cons (ps_set (i := 2) scValues.nd rfl (.inr rfl) (pe_ix ix_list (pe_lst (pa_cons pe_int (pa_cons pe_int (pa_cons pe_int (pa_cons (pe_op op_pow pe_int pe_int) pa_nil))))) (pe_d dD hr (by decide) (by rfl) (pa_cons (pv 0) (pa_cons pe_int pa_nil))) (fun _ _ => rfl)))
      (pss_one (ps_ret (pe_lc (own := [("_law_k", 3)]) (g := gName 3) (tt := tYes) (by rfl) scValues.nd
        (pi_range1 (by rfl) B.range (pa_cons (pv 1) pa_nil))
        (blkOk_by (N := ["_law_source_here", "_law_width", "_law_size", "_law_k"]) (sc := defScope sValues) (by decide +kernel))
        (fun _ _ _ _ _ => pg_name (i := 3) scValues.nd rfl (Or.inl rfl)) (fun _ _ _ _ _ => pts_nil)
        (fun _ _ _ _ _ => pe_op op_sub (pe_d dD hr (by decide) (by rfl) (pa_cons (pv 0) (pa_cons (pv 2) pa_nil))) (pe_op op_fdivW (pv 2) pe_int))))), ?_⟩
    refine ⟨_, _, rfl, rfl, ⟨by decide, by decide, by decide⟩, by show 4 ≤ sizeLine; decide, fun p hp => ?_⟩
    have e1 := Same.new (o := .lst [.int 2, .int 3, .int 9, .int (10 ^ (20 : Int).toNat)]) hp
    refine ⟨_, rfl, a, 4, rfl, ha.same e1, by decide, by decide, fun H1 r e2 hs2 r0 r1 => ?_⟩
    have npa : p ≠ a := (ha.ne_none hp).symm
    have hp1 := e2 _ _ npa (upd_same (H := H) (a := p) (o := .lst [.int 2, .int 3, .int 9, .int (10 ^ (20 : Int).toNat)]))
    obtain ⟨z, hz, z0, z1⟩ : ∃ z : Int, atI [V.int 2, .int 3, .int 9, .int (10 ^ (20 : Int).toNat)] r = some (.int z) ∧ 0 < z ∧ z < 2 ^ 70 := by
      have hr' : r = 0 ∨ r = 1 ∨ r = 2 ∨ r = 3 := by omega
      rcases hr' with h | h | h | h
      · subst h; exact ⟨2, rfl, by decide, by decide⟩
      · subst h; exact ⟨3, rfl, by decide, by decide⟩
      · subst h; exact ⟨9, rfl, by decide, by decide⟩
      · subst h; exact ⟨_, rfl, by decide, by decide⟩
    have e3 : Same1 a H H1 := e1.one.trans e2
    refine ⟨p, _, r, _, rfl, rfl, SqL.of hp1, hz, ?_⟩
    refine ⟨_, rfl, _, rfl, by omega, by omega, fun D hD => ?_⟩
    have hD0 : H D = none := by
      cases q : H D with
      | none => rfl
      | some o =>
        by_cases n : D = a
        · subst n
          exact absurd (hs2.ne_none hD) (fun z => z rfl)
        · rw [e3 D o n q] at hD; cases hD
    refine lc_range (lo := 0) (n := wd.toNat) (fun i H' => Same1 a H H' ∧ Src H' a ∧ ∃ l, H' D = some (.lst (iv l)) ∧ l.length = i) ⟨e3.trans (Same.new hD).one, hs2.same (Same.new hD), [], upd_same, rfl⟩ ?_ ?_
    · rintro i H2 hi ⟨e, hs, l, hl, hln⟩
      have naD : a ≠ D := ha.ne_none hD0
      refine ⟨rfl, tyes ⟨_, rfl, _, rfl, a, z, rfl, hs, z0, z1, fun H3 r e2 hs2 r0 r1 => ?_⟩⟩
      refine ⟨_, rfl, _, _, rfl, rfl, wide_div (b := 3) (by decide) (by decide) (by decide) (by decide), _, _, rfl, rfl, _, e2 _ _ naD.symm hl, ?_, (e.trans e2).fr hD0 Same1.upd, hs2.same1 Same1.upd naD, l ++ [r - z / 2], ?_, ?_⟩
      · rw [List.length_map]
        exact Nat.lt_of_lt_of_le (by omega : l.length < 100) (by decide)
      · exact (upd_same).trans (by rw [iv_snoc])
      · rw [List.length_append, List.length_singleton]
        omega
    · rintro H2 ⟨e, hs, l, hl, hln⟩
      exact k H2 D l e hs hD0 hl (by omega)
end
end NS
namespace NS
open PySem PySem.Spec PyProof.Rows L2
/-- a change as the law writes it; H0: where its list was not yet -/
def ChAt (H0 H : Hp) (c : Addr) : Ch → Prop
  | .add l => ∃ p, H0 p = none ∧ H c = some (.tup [.str "add", .ref p]) ∧ H p = some (.lst (iv l))
  | .place i s => H c = some (.tup [.str "place", .int (i : Nat), .int s])
  | .drop i => H c = some (.tup [.str "drop", .int (i : Nat)])
theorem ChAt.two {H0 H H' : Hp} {c s t : Addr} {u2 : List V} {dx C : Addr} {fs : List (Str × V)} (e : Same2 s t H H') (hs : H s = some (.ins C dx fs)) (ht : H t = some (.lst u2)) (nt : H0 t ≠ none) : ∀ {ch : Ch}, ChAt H0 H c ch → ChAt H0 H' c ch
  | .add l, ⟨p, h0, h1, h2⟩ => ⟨p, h0, e _ _ (ne_of h1 hs (by intro z; cases z)) (ne_of h1 ht (by intro z; cases z)) h1, e _ _ (ne_of h2 hs (by intro z; cases z)) (fun z => nt (z ▸ h0)) h2⟩
  | .place i s, h => e _ _ (ne_of h hs (by intro z; cases z)) (ne_of h ht (by intro z; cases z)) h
  | .drop i, h => e _ _ (ne_of h hs (by intro z; cases z)) (ne_of h ht (by intro z; cases z)) h
theorem ne_pa : ¬ (("place" : Str) = "add") := by decide +kernel
theorem ne_da : ¬ (("drop" : Str) = "add") := by decide +kernel
theorem ne_dp : ¬ (("drop" : Str) = "place") := by decide +kernel
theorem ne_pd : ¬ (("place" : Str) = "drop") := by decide +kernel
theorem ne_ad : ¬ (("add" : Str) = "drop") := by decide +kernel
theorem ne_ap : ¬ (("add" : Str) = "place") := by decide +kernel
theorem sEq {z y : Str} (h : z = y) : decide (V.str z = V.str y) = true := decide_eq_true (congrArg V.str h)
theorem sNe {z y : Str} (h : ¬ z = y) : decide (V.str z = V.str y) = false := decide_eq_false (fun q => h (V.str.inj q))
theorem iNe {a b : Int} (h : ¬ a = b) : decide (V.int a = V.int b) = false := decide_eq_false (fun z => h (V.int.inj z))
theorem n10 : ¬ ((1 : Nat) : Int) = 0 := by decide
theorem n20 : ¬ ((2 : Nat) : Int) = 0 := by decide
theorem n21 : ¬ ((2 : Nat) : Int) = 1 := by decide
def spNewSteps : Sp := fun vs H Q _ => ∃ (H0 : Hp) (t c : Addr) (wd : Int) (st : List Int) (ch : Ch), vs = [.int wd, .ref t, .ref c] ∧ H t = some (.lst (iv st)) ∧ ChAt H0 H c ch ∧ ch.ok wd st ∧ st.length ≤ 500 ∧ ∀ H' p, Same H H' → H p = none → H' p = some (.lst (iv (ch.new st))) → Q (.ref p) H'
def spChange : Sp := fun vs H Q _ => ∃ (a t : Addr) (wd : Int) (st : List Int), vs = [.ref a, .int wd, .ref t] ∧ Src H a ∧ H t = some (.lst (iv st)) ∧ t ≠ a ∧ 1 ≤ wd ∧ wd ≤ 40 ∧ st.length ≤ 500 ∧ ∀ H' c ch, Same1 a H H' → Src H' a → ChAt H H' c ch → ch.ok wd st → Q (.ref c) H'
def spPerform (N B : Addr) : Sp := fun vs H Q _ => ∃ (H0 : Hp) (b h c : Addr) (wd : Int) (st : List Int) (hs : List Addr) (ch : Ch), vs = [.ref b, .ref c] ∧ BenchAt B N H b h wd st hs ∧ ChAt H0 H c ch ∧ ch.ok wd st ∧ 1 ≤ wd ∧ wd ≤ 40 ∧ StepsOk wd st ∧ st.length ≤ 500 ∧ hs.length ≤ 100 ∧
  ∀ H' t z, Same2 b h H H' → BenchAt B N H' b h wd (ch.new st) (hs ++ [t]) → Q (.int z) H'
section
variable {P : Program} {w : World} {K : PySem.W.Frag} {mg : Str → Option Value} {base : Heap} {N B : Addr}
theorem scNewSteps : FnScope ["_law_width", "_law_steps_here", "_law_change_here", "_law_word"] ["_law_width", "_law_steps_here", "_law_change_here"] (defScope sNewSteps) := ⟨rfl, rfl, rfl, by decide +kernel, rfl, by decide +kernel, by decide +kernel⟩
theorem ok_newSteps (D : DefAt K mg "_law_new_steps" "_law_new_steps" sNewSteps ["_law_width", "_law_steps_here", "_law_change_here"]) (Bu : Bi mg) : DefOk P w K mg base 1 "_law_new_steps" spNewSteps := by
  refine D.ok scNewSteps (fun vs H Q E h => ?_) (fun f cdv A outer s H vs Q E hr h => ?_)
  · obtain ⟨H0, t, c, wd, st, ch, rfl, _⟩ := h
    rfl
  · obtain ⟨H0, t, c, wd, st, ch, rfl, ht, hc, hok, hz, k⟩ := h
    refine ⟨_, pss_cons (ps_set (i := 3) scNewSteps.nd rfl (.inl rfl) (pe_ix ix_tup (pv 2) pe_int (fun _ _ => rfl)))
      (pss_cons (ps_if (pt_cmpR op_eq (pv 3) pe_str (nomark _)) (pss_one (ps_ret (pe_op op_cat (pv 1) (pe_callTy call_list_of (by rfl) Bu.list (by decide +kernel) (pa_cons (pe_ix ix_tup (pv 2) pe_int (fun _ _ => rfl)) pa_nil))))) pss_nil)
      (pss_cons (ps_if (pt_cmpR op_eq (pv 3) pe_str (nomark _)) (pss_one (ps_ret (pe_op op_cat (pe_op op_cat (pe_slice sl_list (pv 1) po_none (po_some (pe_ix ix_tup (pv 2) pe_int (fun _ _ => rfl)))) (pe_lst (pa_cons (pe_ix ix_tup (pv 2) pe_int (fun _ _ => rfl)) pa_nil))) (pe_slice sl_list (pv 1) (po_some (pe_ix ix_tup (pv 2) pe_int (fun _ _ => rfl))) po_none)))) pss_nil)
      (pss_one (ps_ret (pe_op op_cat (pe_slice sl_list (pv 1) po_none (po_some (pe_ix ix_tup (pv 2) pe_int (fun _ _ => rfl)))) (pe_slice sl_list (pv 1) (po_some (pe_op op_add (pe_ix ix_tup (pv 2) pe_int (fun _ _ => rfl)) pe_int)) po_none)))))), ?_⟩
    cases ch with
    | add l =>
      obtain ⟨p, h0, h1, h2⟩ := hc
      refine ⟨_, rfl, c, _, 0, _, rfl, rfl, SqT.of h1, rfl, ?_⟩
      refine ⟨_, rfl, rfl, true, congrArg V.bl (sEq rfl), iteT ?_⟩
      refine ⟨_, rfl, _, rfl, c, _, 1, _, rfl, rfl, SqT.of h1, rfl, p, _, rfl, .inl (SqL.of h2), fun q hq => ?_⟩
      have e1 := Same.new (o := .lst (iv l)) hq
      refine ⟨t, q, _, _, rfl, rfl, e1 _ _ ht, upd_same, ?_, fun r hr0 => ?_⟩
      · rw [List.length_map, List.length_map]
        exact Nat.le_trans (by have := hok.1; omega : st.length + l.length ≤ 1000) (by decide)
      · have e2 := Same.new (o := .lst (iv st ++ iv l)) hr0
        exact k _ r (e1.trans e2) (e1.free hr0) (by rw [upd_same, iv_app]; rfl)
    | place i s' =>
      have h1 : H c = some (.tup [.str "place", .int (i : Nat), .int s']) := hc
      refine ⟨_, rfl, c, _, 0, _, rfl, rfl, SqT.of h1, rfl, ?_⟩
      refine ⟨_, rfl, rfl, false, congrArg V.bl (sNe ne_pa), iteF ?_⟩
      refine ⟨_, rfl, rfl, true, congrArg V.bl (sEq rfl), iteT ?_⟩
      refine ⟨_, rfl, _, rfl, c, _, 1, _, rfl, rfl, SqT.of h1, rfl, (i : Int), rfl, t, _, rfl, SqL.of ht, fun c1 hc1 => ?_⟩
      rw [cutV_take, iv_take]
      have f1 := Same.new (o := .lst (iv (st.take i))) hc1
      refine ⟨_, rfl, c, _, 2, _, rfl, rfl, SqT.of (f1 _ _ h1), rfl, by show 1 ≤ sizeLine; decide, fun c2 hc2 => ?_⟩
      have f2 := Same.new (o := .lst [.int s']) hc2
      refine ⟨c1, c2, _, _, rfl, rfl, f2 _ _ upd_same, upd_same, ?_, fun c3 hc3 => ?_⟩
      · rw [List.length_map, List.length_take]
        exact Nat.le_trans (by show min i st.length + 1 ≤ 1000; omega) (by decide)
      have f3 := Same.new (o := .lst (iv (st.take i) ++ [.int s'])) hc3
      have f123 := (f1.trans f2).trans f3
      refine ⟨_, rfl, _, rfl, c, _, 1, _, rfl, rfl, SqT.of (f123 _ _ h1), rfl, (i : Int), rfl, t, _, rfl, SqL.of (f123 _ _ ht), fun c4 hc4 => ?_⟩
      rw [cutV_drop, iv_drop]
      have f4 := Same.new (o := .lst (iv (st.drop i))) hc4
      refine ⟨c3, c4, _, _, rfl, rfl, f4 _ _ upd_same, upd_same, ?_, fun c5 hc5 => ?_⟩
      · rw [List.length_append, List.length_map, List.length_map, List.length_take, List.length_drop]
        exact Nat.le_trans (by show min i st.length + 1 + (st.length - i) ≤ 1000; omega) (by decide)
      have f5 := Same.new (o := .lst (iv (st.take i) ++ [.int s'] ++ iv (st.drop i))) hc5
      have f := f123.trans f4
      refine k _ c5 (f.trans f5) (f.free hc5) ?_
      rw [upd_same]
      show some (HO.lst (iv (st.take i) ++ iv [s'] ++ iv (st.drop i))) = _
      rw [iv_app, iv_app]
      rfl
    | drop i =>
      have h1 : H c = some (.tup [.str "drop", .int (i : Nat)]) := hc
      refine ⟨_, rfl, c, _, 0, _, rfl, rfl, SqT.of h1, rfl, ?_⟩
      refine ⟨_, rfl, rfl, false, congrArg V.bl (sNe ne_da), iteF ?_⟩
      refine ⟨_, rfl, rfl, false, congrArg V.bl (sNe ne_dp), iteF ?_⟩
      refine ⟨_, rfl, _, rfl, c, _, 1, _, rfl, rfl, SqT.of h1, rfl, (i : Int), rfl, t, _, rfl, SqL.of ht, fun c1 hc1 => ?_⟩
      rw [cutV_take, iv_take]
      have f1 := Same.new (o := .lst (iv (st.take i))) hc1
      refine ⟨_, rfl, _, rfl, c, _, 1, _, rfl, rfl, SqT.of (f1 _ _ h1), rfl, _, _, rfl, rfl, ((i : Int) + 1), rfl, t, _, rfl, SqL.of (f1 _ _ ht), fun c4 hc4 => ?_⟩
      have ei : ((i : Int) + 1) = ((i + 1 : Nat) : Int) := by omega
      rw [ei, cutV_drop, iv_drop]
      have f4 := Same.new (o := .lst (iv (st.drop (i + 1)))) hc4
      refine ⟨c1, c4, _, _, rfl, rfl, f4 _ _ upd_same, upd_same, ?_, fun c5 hc5 => ?_⟩
      · rw [List.length_map, List.length_map, List.length_take, List.length_drop]
        exact Nat.le_trans (by omega : min i st.length + (st.length - (i + 1)) ≤ 1000) (by decide)
      have f5 := Same.new (o := .lst (iv (st.take i) ++ iv (st.drop (i + 1)))) hc5
      have f := f1.trans f4
      refine k _ c5 (f.trans f5) (f.free hc5) ?_
      rw [upd_same, iv_app]
      rfl
theorem scChange : FnScope ["_law_source_here", "_law_width", "_law_steps_here", "_law_way"] ["_law_source_here", "_law_width", "_law_steps_here"] (defScope sChange) := ⟨rfl, rfl, rfl, by decide +kernel, rfl, by decide +kernel, by decide +kernel⟩
theorem ok_change (D : DefAt K mg "_law_change" "_law_change" sChange ["_law_source_here", "_law_width", "_law_steps_here"]) (Bu : Bi mg) (dD : DefOk P w K mg base 1 "_law_draw" spDraw) (dS : DefOk P w K mg base 2 "_law_steps" spSteps) : DefOk P w K mg base 3 "_law_change" spChange := by
  refine D.ok scChange (fun vs H Q E h => ?_) (fun f cdv A outer s H vs Q E hr h => ?_)
  · obtain ⟨a, t, wd, st, rfl, _⟩ := h
    rfl
  · obtain ⟨a, t, wd, st, rfl, ha, ht, nta, h1, h2, hz, k⟩ := h
    obtain ⟨u, hu1, hu2⟩ : ∃ u, PSs (cxOf CX0 P w K mg base ["_law_source_here", "_law_width", "_law_steps_here", "_law_way"] "_law_change" (defScope sChange) f cdv A outer s H E).nox ((defBody sChange).drop 2) u ∧
        ∀ (r : Int) (H1 : Hp), Same1 a H H1 → Src H1 a → u { nx := fun _ H' => Q .non H', rt := Q } [some (.ref a), some (.int wd), some (.ref t), some (.int r)] H1 := by
      refine ⟨_, (pss_cons (ps_if (PW.pt (pw_and (pt_cmpR op_eq (pv 3) pe_int (nomark _)) (pw_and1 (pt_cmpR op_gt (pv 1) pe_int (nomark _)))))
        (pss_one (ps_ret (pe_tup (pa_cons pe_str (pa_cons (pe_d dD hr (by decide) (by rfl) (pa_cons (pv 0) (pa_cons (pe_op op_add (pe_callB call_len_seq (by rfl) Bu.len PySem.boot_len (pa_cons (pv 2) pa_nil)) pe_int) pa_nil)))
          (pa_cons (pe_op op_add pe_int (pe_d dD hr (by decide) (by rfl) (pa_cons (pv 0) (pa_cons (pe_op op_sub (pv 1) pe_int) pa_nil)))) pa_nil)))))) pss_nil)
      (pss_one (ps_ret (pe_tup (pa_cons pe_str (pa_cons (pe_d dS hr (by decide) (by rfl) (pa_cons (pv 0) (pa_cons (pv 1) (pa_cons (pe_d dD hr (by decide) (by rfl) (pa_cons (pv 0) (pa_cons pe_int pa_nil))) pa_nil)))) pa_nil)))))), ?_⟩
      intro r H1 e1 hs1
      have ht1 := e1 _ _ nta ht
      by_cases h : r = 1
      · subst h
        by_cases hw : 1 < wd
        · refine ⟨_, rfl, rfl, true, congrArg V.bl (decide_eq_true rfl), iteT ⟨_, rfl, _, _, rfl, rfl, true, congrArg V.bl (decide_eq_true hw), iteT ?_⟩⟩
          refine ⟨_, rfl, _, rfl, t, _, rfl, .inl (SqL.of ht1), _, _, rfl, rfl, a, _, rfl, hs1, by omega, by rw [List.length_map]; omega, fun H2 i e2 hs2 i0 i1 => ?_⟩
          rw [List.length_map] at i1
          refine ⟨_, rfl, _, rfl, _, _, rfl, rfl, a, wd - 1, rfl, hs2, by omega, by omega, fun H3 z e3 hs3 z0 z1 => ?_⟩
          refine ⟨_, _, rfl, rfl, by show 3 ≤ sizeLine; decide, fun c hc => ?_⟩
          obtain ⟨j, rfl⟩ : ∃ j : Nat, i = (j : Int) := ⟨i.toNat, by omega⟩
          have e4 := Same.new (o := .tup [.str "place", .int (j : Int), .int (1 + z)]) hc
          exact k _ c (.place j (1 + z)) (((e1.trans e2).trans e3).trans e4.one) (hs3.same e4) upd_same (by show j ≤ st.length ∧ 1 ≤ 1 + z ∧ 1 + z ≤ wd - 1; omega)
        refine ⟨_, rfl, rfl, true, congrArg V.bl (decide_eq_true rfl), iteT ⟨_, rfl, _, _, rfl, rfl, false, congrArg V.bl (decide_eq_false hw), iteF ?_⟩⟩
        refine ⟨_, rfl, _, rfl, _, rfl, a, 3, rfl, hs1, by decide, by decide, fun H2 m e2 hs2 m0 m1 => ?_⟩
        refine ⟨a, wd, m, rfl, hs2, h1, h2, m0, by omega, fun H3 p l e3 hs3 hp hl hok hln => ?_⟩
        refine ⟨by show 2 ≤ sizeLine; decide, fun c hc => ?_⟩
        have e4 := Same.new (o := .tup [.str "add", .ref p]) hc
        exact k _ c (.add l) (((e1.trans e2).trans e3).trans e4.one) (hs3.same e4) ⟨p, (e1.trans e2).free (hs2.ne_none hp).symm hp, upd_same, e4 _ _ hl⟩ ⟨by omega, hok⟩
      · refine ⟨_, rfl, rfl, false, congrArg V.bl (decide_eq_false (fun z => h (V.int.inj z))), iteF (iteF ?_)⟩
        refine ⟨_, rfl, _, rfl, _, rfl, a, 3, rfl, hs1, by decide, by decide, fun H2 m e2 hs2 m0 m1 => ?_⟩
        refine ⟨a, wd, m, rfl, hs2, h1, h2, m0, by omega, fun H3 p l e3 hs3 hp hl hok hln => ?_⟩
        refine ⟨by show 2 ≤ sizeLine; decide, fun c hc => ?_⟩
        have e4 := Same.new (o := .tup [.str "add", .ref p]) hc
        exact k _ c (.add l) (((e1.trans e2).trans e3).trans e4.one) (hs3.same e4) ⟨p, (e1.trans e2).free (hs2.ne_none hp).symm hp, upd_same, e4 _ _ hl⟩ ⟨by omega, hok⟩
    refine ⟨_, pss_cons (ps_set (i := 3) scChange.nd rfl (.inl rfl) (pe_d dD hr (by decide) (by rfl) (pa_cons (pv 0) (pa_cons pe_int pa_nil))))
      (pss_cons (ps_if (PW.pt (pw_and (pt_cmpR op_eq (pv 3) pe_int (nomark _)) (pw_and1 (pt_cmpR (op_neD hr.units) (pv 2) (pe_lst pa_nil) (nomark _)))))
        (pss_one (ps_ret (pe_tup (pa_cons pe_str (pa_cons (pe_d dD hr (by decide) (by rfl) (pa_cons (pv 0) (pa_cons (pe_callB call_len_seq (by rfl) Bu.len PySem.boot_len (pa_cons (pv 2) pa_nil)) pa_nil))) pa_nil))))) pss_nil) hu1), ?_⟩
    refine ⟨_, rfl, a, 4, rfl, ha, by decide, by decide, fun H1 r e1 hs1 r0 r1 => ?_⟩
    have ht1 := e1 _ _ nta ht
    by_cases hr0 : r = 0
    · subst hr0
      refine ⟨_, rfl, rfl, true, congrArg V.bl (decide_eq_true rfl), iteT ⟨_, rfl, Nat.zero_le _, fun q hq => ?_⟩⟩
      have e2 := Same.new (o := .lst []) hq
      refine ⟨_, .list [], dp_lst (e2 _ _ ht1), .lst (SqL.of upd_same) .nil, shaped_di _, by decide, _, congrArg V.bl (congrArg not (eqv_nil st)), ?_⟩
      by_cases hst : st = []
      · rw [decide_eq_true hst]
        exact iteF (hu2 0 _ (e1.trans e2.one) (hs1.same e2))
      · rw [decide_eq_false hst]
        have hl : 0 < st.length := List.length_pos_iff.mpr hst
        refine iteT ⟨_, rfl, _, rfl, t, _, rfl, .inl (SqL.of (e2 _ _ ht1)), a, _, rfl, hs1.same e2, ?_, ?_, fun H3 i e3 hs3 i0 i1 => ?_⟩
        · rw [List.length_map]; omega
        · rw [List.length_map]; omega
        rw [List.length_map] at i1
        refine ⟨by show 2 ≤ sizeLine; decide, fun c hc => ?_⟩
        obtain ⟨j, rfl⟩ : ∃ j : Nat, i = (j : Int) := ⟨i.toNat, by omega⟩
        have e4 := Same.new (o := .tup [.str "drop", .int (j : Int)]) hc
        exact k _ c (.drop j) (((e1.trans e2.one).trans e3).trans e4.one) (hs3.same e4) upd_same (by show j < st.length; omega)
    · exact ⟨_, rfl, rfl, false, congrArg V.bl (decide_eq_false (fun z => hr0 (V.int.inj z))), iteF (iteF (hu2 r H1 e1 hs1))⟩
theorem scPerform : FnScope ["_law_bench", "_law_change_here"] ["_law_bench", "_law_change_here"] (defScope sPerform) := ⟨rfl, rfl, rfl, by decide +kernel, rfl, by decide +kernel, by decide +kernel⟩
theorem ok_perform (D : DefAt K mg "_law_perform" "_law_perform" sPerform ["_law_bench", "_law_change_here"]) (Bu : Bi mg) (mA : VarOk P w K mg base 7 B "add" (spAdd N B)) (mP : MetOk P w K mg base 6 B "place" (spPlace N B)) (mDr : MetOk P w K mg base 6 B "drop" (spDrop N B)) :
    DefOk P w K mg base 8 "_law_perform" (spPerform N B) := by
  refine D.ok scPerform (fun vs H Q E h => ?_) (fun f cdv A outer s H vs Q E hr h => ?_)
  · obtain ⟨H0, b, h, c, wd, st, hs, ch, rfl, _⟩ := h
    rfl
  · obtain ⟨H0, b, h, c, wd, st, hs, ch, rfl, hB, hc, hok, h1, h2, hst, hz, hhs, k⟩ := h
    obtain ⟨dx, n, hb, hN⟩ := hB.ob
    refine ⟨_, pss_cons (ps_if (pt_cmpR op_eq (pe_ix ix_tup (pv 1) pe_int (fun _ _ => rfl)) pe_str (nomark _)) (pss_one (ps_ret (pe_m mDr hr (by decide) (pv 0) (pa_cons (pe_ix ix_tup (pv 1) pe_int (fun _ _ => rfl)) pa_nil)))) pss_nil)
      (pss_cons (ps_if (pt_cmpR op_eq (pe_ix ix_tup (pv 1) pe_int (fun _ _ => rfl)) pe_str (nomark _)) (pss_one (ps_ret (pe_m mP hr (by decide) (pv 0) (pa_cons (pe_ix ix_tup (pv 1) pe_int (fun _ _ => rfl)) (pa_cons (pe_ix ix_tup (pv 1) pe_int (fun _ _ => rfl)) pa_nil))))) pss_nil)
      (pss_cons (ps_if (pt_cmpR op_eq (pe_callB call_len_seq (by rfl) Bu.len PySem.boot_len (pa_cons (pe_ix ix_tup (pv 1) pe_int (fun _ _ => rfl)) pa_nil)) pe_int (nomark _)) (pss_one (ps_ret (pe_m0 mA.met hr (by decide) (pv 0)))) pss_nil)
      (pss_one (ps_ret (pe_ifExp (pt_cmpR op_eq (pe_callB call_len_seq (by rfl) Bu.len PySem.boot_len (pa_cons (pe_ix ix_tup (pv 1) pe_int (fun _ _ => rfl)) pa_nil)) pe_int (nomark _))
        (pe_m mA.met hr (by decide) (pv 0) (pa_cons (pe_ix ix_list (pe_ix ix_tup (pv 1) pe_int (fun _ _ => rfl)) pe_int (fun _ _ => rfl)) pa_nil))
        (pe_m mA.met hr (by decide) (pv 0) (pa_cons (pe_ix ix_list (pe_ix ix_tup (pv 1) pe_int (fun _ _ => rfl)) pe_int (fun _ _ => rfl)) (pa_cons (pe_ix ix_list (pe_ix ix_tup (pv 1) pe_int (fun _ _ => rfl)) pe_int (fun _ _ => rfl)) pa_nil)))))))), ?_⟩
    cases ch with
    | drop i =>
      have hc1 : H c = some (.tup [.str "drop", .int (i : Nat)]) := hc
      refine ⟨_, rfl, c, _, 0, _, rfl, rfl, SqT.of hc1, rfl, rfl, true, congrArg V.bl (sEq rfl), iteT ?_⟩
      exact ⟨_, rfl, b, dx, _, rfl, hb, bf_drop _ _, _, rfl, c, _, 1, _, rfl, rfl, SqT.of hc1, rfl, b, h, i, wd, st, hs, rfl, hB, h1, h2, hst, hok, hz, hhs, k⟩
    | place i z =>
      have hc1 : H c = some (.tup [.str "place", .int (i : Nat), .int z]) := hc
      refine ⟨_, rfl, c, _, 0, _, rfl, rfl, SqT.of hc1, rfl, rfl, false, congrArg V.bl (sNe ne_pd), iteF ?_⟩
      refine ⟨_, rfl, c, _, 0, _, rfl, rfl, SqT.of hc1, rfl, rfl, true, congrArg V.bl (sEq rfl), iteT ?_⟩
      exact ⟨_, rfl, b, dx, _, rfl, hb, bf_place _ _, _, rfl, c, _, 1, _, rfl, rfl, SqT.of hc1, rfl, _, rfl, c, _, 2, _, rfl, rfl, SqT.of hc1, rfl, b, h, i, z, wd, st, hs, rfl, hB, h1, h2, hst, hok.1, hok.2.1, hok.2.2, hz, hhs, k⟩
    | add l =>
      obtain ⟨p, _, hc1, hp⟩ := hc
      refine ⟨_, rfl, c, _, 0, _, rfl, rfl, SqT.of hc1, rfl, rfl, false, congrArg V.bl (sNe ne_ad), iteF ?_⟩
      refine ⟨_, rfl, c, _, 0, _, rfl, rfl, SqT.of hc1, rfl, rfl, false, congrArg V.bl (sNe ne_ap), iteF ?_⟩
      refine ⟨_, rfl, c, _, 1, _, rfl, rfl, SqT.of hc1, rfl, p, _, rfl, .inl (SqL.of hp), rfl, ?_⟩
      match l, hok, hp, k with
      | [], hok, hp, k =>
        refine ⟨true, congrArg V.bl (decide_eq_true rfl), iteT ?_⟩
        exact ⟨_, rfl, b, dx, _, rfl, hb, bf_add _ _, b, h, wd, st, [], hs, rfl, hB, h1, h2, hst, hok.2, hz, by decide, hhs, k⟩
      | [x], hok, hp, k =>
        refine ⟨false, congrArg V.bl (iNe n10), iteF ?_⟩
        refine ⟨_, rfl, c, _, 1, _, rfl, rfl, SqT.of hc1, rfl, p, _, rfl, .inl (SqL.of hp), rfl, true, congrArg V.bl (decide_eq_true rfl), iteT ?_⟩
        exact ⟨_, rfl, b, dx, _, rfl, hb, bf_add _ _, _, rfl, c, _, 1, _, rfl, rfl, SqT.of hc1, rfl, p, _, 0, _, rfl, rfl, SqL.of hp, rfl, b, h, wd, st, [x], hs, rfl, hB, h1, h2, hst, hok.2, hz, by show 1 ≤ 100; decide, hhs, k⟩
      | [x, y], hok, hp, k =>
        refine ⟨false, congrArg V.bl (iNe n20), iteF ?_⟩
        refine ⟨_, rfl, c, _, 1, _, rfl, rfl, SqT.of hc1, rfl, p, _, rfl, .inl (SqL.of hp), rfl, false, congrArg V.bl (iNe n21), iteF ?_⟩
        exact ⟨_, rfl, b, dx, _, rfl, hb, bf_add _ _, _, rfl, c, _, 1, _, rfl, rfl, SqT.of hc1, rfl, p, _, 0, _, rfl, rfl, SqL.of hp, rfl, _, rfl, c, _, 1, _, rfl, rfl, SqT.of hc1, rfl, p, _, 1, _, rfl, rfl, SqL.of hp, rfl, b, h, wd, st, [x, y], hs, rfl, hB, h1, h2, hst, hok.2, hz, by show 2 ≤ 100; decide, hhs, k⟩
      | x :: y :: z :: r, hok, hp, k => exact absurd hok.1 (by simp only [List.length_cons]; omega)
end
end NS
namespace NS
open PySem PySem.Spec PyProof.Rows L2
theorem eqv_dt (xs : List Int) : PyData.eqv (.tuple (di xs)) (.tuple (di xs)) = true := SeqAt.eqv_refl _ (canLay_dt xs)
/-- a counting sorter and a faulty one at work -/
structure HS (Cc Cf : Addr) (H0 H : Hp) (a n s o t q : Addr) (ks : List Int) (r1 c1 x1 r2 c2 x2 : Int) : Prop where
  fr : Same1 a H0 H
  src : Src H a
  so : ∃ dx, H s = some (.ins Cc dx (cf n r1 c1 x1))
  ot : ∃ dx, H o = some (.ins Cf dx (ff n r2 c2 x2 t))
  fa : H t = some (.tup (iv ks))
  ind : H q = some (.lst (iv ks))
section
variable {Cc Cf : Addr} {H0 H H' : Hp} {a n s o t q : Addr} {ks : List Int} {r1 c1 x1 r2 c2 x2 r' c' x' : Int}
theorem HS.same (k : HS Cc Cf H0 H a n s o t q ks r1 c1 x1 r2 c2 x2) (e : Same H H') : HS Cc Cf H0 H' a n s o t q ks r1 c1 x1 r2 c2 x2 where
  fr := k.fr.trans e.one
  src := k.src.same e
  so := let ⟨dx, h⟩ := k.so; ⟨dx, e _ _ h⟩
  ot := let ⟨dx, h⟩ := k.ot; ⟨dx, e _ _ h⟩
  fa := e _ _ k.fa
  ind := e _ _ k.ind
theorem HS.atA (k : HS Cc Cf H0 H a n s o t q ks r1 c1 x1 r2 c2 x2) (e : Same1 a H H') (h : Src H' a) (nq : q ≠ a) : HS Cc Cf H0 H' a n s o t q ks r1 c1 x1 r2 c2 x2 where
  fr := k.fr.trans e
  src := h
  so := let ⟨dx, h⟩ := k.so; ⟨dx, e _ _ (by obtain ⟨x, y, z, _⟩ := k.src; exact ne_of h z (by intro w; cases w)) h⟩
  ot := let ⟨dx, h⟩ := k.ot; ⟨dx, e _ _ (by obtain ⟨x, y, z, _⟩ := k.src; exact ne_of h z (by intro w; cases w)) h⟩
  fa := e _ _ (by obtain ⟨x, y, z, _⟩ := k.src; exact ne_of k.fa z (by intro w; cases w)) k.fa
  ind := e _ _ nq k.ind
theorem HS.atS (k : HS Cc Cf H0 H a n s o t q ks r1 c1 x1 r2 c2 x2) (e : Same1 s H H') (h0 : H0 s = none) (hcf : Cc ≠ Cf) (h : ∃ dx, H' s = some (.ins Cc dx (cf n r' c' x'))) : HS Cc Cf H0 H' a n s o t q ks r' c' x' r2 c2 x2 := by
  obtain ⟨dx, h1⟩ := k.so
  obtain ⟨dy, h2⟩ := k.ot
  obtain ⟨x, y, z, hz⟩ := k.src
  exact ⟨k.fr.fr h0 e, ⟨x, y, e _ _ (ne_of z h1 (by intro w; cases w)) z, hz⟩, h, ⟨dy, e _ _ (ne_of h2 h1 (by intro w; cases w)) h2⟩, e _ _ (ne_of k.fa h1 (by intro w; cases w)) k.fa, e _ _ (ne_of k.ind h1 (by intro w; cases w)) k.ind⟩
theorem HS.atO (k : HS Cc Cf H0 H a n s o t q ks r1 c1 x1 r2 c2 x2) (e : Same1 o H H') (h0 : H0 o = none) (hcf : Cc ≠ Cf) (h : ∃ dx, H' o = some (.ins Cf dx (ff n r' c' x' t))) : HS Cc Cf H0 H' a n s o t q ks r1 c1 x1 r' c' x' := by
  obtain ⟨dx, h1⟩ := k.so
  obtain ⟨dy, h2⟩ := k.ot
  obtain ⟨x, y, z, hz⟩ := k.src
  exact ⟨k.fr.fr h0 e, ⟨x, y, e _ _ (ne_of z h2 (by intro w; cases w)) z, hz⟩, ⟨dx, e _ _ (ne_of h1 h2 (by intro w; cases w)) h1⟩, h, e _ _ (ne_of k.fa h2 (by intro w; cases w)) k.fa, e _ _ (ne_of k.ind h2 (by intro w; cases w)) k.ind⟩
end
def spHolds (N : Addr) : Sp := fun vs H Q _ => ∃ (a n : Addr) (wd : Int) (st : List Int), vs = [.ref a, .ref n] ∧ Src H a ∧ NetAt N H n wd st ∧ 1 ≤ wd ∧ wd ≤ 40 ∧ StepsOk wd st ∧ st.length ≤ 100 ∧ ∀ H', Same1 a H H' → Src H' a → Q (.bl true) H'
abbrev nHolds : List Str := ["_law_source_here", "_law_network", "_law_indices", "_law_sorter", "_law_other", "_law_kept", "_law_swaps", "_law_lost", "_law_turn", "_law_values_here", "_law_at", "_law_step"]
theorem scHolds : FnScope nHolds ["_law_source_here", "_law_network"] (defScope sHolds) := ⟨rfl, rfl, rfl, by decide +kernel, rfl, by decide +kernel, by decide +kernel⟩
/-- what _law_holds calls -/
structure HD (P : Program) (w : World) (K : PySem.W.Frag) (mg : Str → Option Value) (base : Heap) (N Cc Cf : Addr) : Prop where
  bi : Bi mg
  cn : Cc ≠ N
  fn : Cf ≠ N
  cf : Cc ≠ Cf
  draw : DefOk P w K mg base 1 "_law_draw" spDraw
  values : DefOk P w K mg base 2 "_law_values" spValues
  run : DefOk P w K mg base 4 "run_running" (spRun N)
  exch : DefOk P w K mg base 4 "exchanges" (spExch N)
  dom : DefOk P w K mg base 5 "dominates" (spDominates N)
  len : MetOk P w K mg base 1 N "__len__" (spNtLen N)
  width : PrpOk P w K mg base 1 N "width" (spNtWidth N)
  steps : PrpOk P w K mg base 1 N "steps" (spNtSteps N)
  net : MakOk P w K mg base 3 "Network" N (spNtInit N)
  mkC : MakOk P w K mg base 2 "CountingSorter" Cc (spCsInit Cc)
  mkF : MakOk P w K mg base 4 "FaultySorter" Cf (spFsInit N Cf)
  fail : VarOk P w K mg base 4 Cf "fail" (spFail N Cf)
  runC : MetOk P w K mg base 8 Cc "run" (spCsRun Cc (WC N))
  runF : MetOk P w K mg base 9 Cf "run" (spCsRun Cf (WF N))
  compC : PrpOk P w K mg base 1 Cc "comparisons" (spFld Cc "own_comparisons")
  compF : PrpOk P w K mg base 1 Cf "comparisons" (spFld Cf "own_comparisons")
  swapC : PrpOk P w K mg base 1 Cc "swaps" (spFld Cc "own_swaps")
  swapF : PrpOk P w K mg base 1 Cf "swaps" (spFld Cf "own_swaps")
  runsC : PrpOk P w K mg base 1 Cc "runs" (spFld Cc "own_runs")
  runsF : PrpOk P w K mg base 1 Cf "runs" (spFld Cf "own_runs")
  faults : PrpOk P w K mg base 1 Cf "faults" (spFld Cf "own_faults")
section
variable {P : Program} {w : World} {K : PySem.W.Frag} {mg : Str → Option Value} {base : Heap} {N Cc Cf : Addr}
/-- the end: kept, the three turns, the counts -/
theorem holds_tail (T : HD P w K mg base N Cc Cf) {f : Addr} {cdv : Value} {A : Around} {outer : List Env} {s0 : Shared} {H : Hp} {E : XK} {Q : VK} {a n : Addr} {wd : Int} {st : List Int}
    (hr : Room 9 (A.deeper (envOfC "_law_holds" (defScope sHolds) s0.heap.objs.size f cdv))) (ha : Src H a) (hN : NetAt N H n wd st) (h1 : 1 ≤ wd) (h2 : wd ≤ 40) (hok : StepsOk wd st) (hz : st.length ≤ 100) (k : ∀ H', Same1 a H H' → Src H' a → Q (.bl true) H') :
    ∃ u, PSs (cxOf CX0 P w K mg base nHolds "_law_holds" (defScope sHolds) f cdv A outer s0 H E).nox ((defBody sHolds).drop 4) u ∧
      ∀ (H1 : Hp) (s o t q : Addr) (ks : List Int), HS Cc Cf H H1 a n s o t q ks 0 0 0 0 0 0 → H s = none → H o = none → q ≠ a → ks.length ≤ 10 → (∀ i ∈ ks, 0 ≤ i ∧ i < (st.length : Int)) →
        u { nx := fun _ H' => Q .non H', rt := Q } [some (.ref a), some (.ref n), some (.ref q), some (.ref s), some (.ref o), none, none, none, none, none, none, none] H1 := by
  have B := T.bi
  refine ⟨_, pss_cons (ps_set (i := 5) scHolds.nd rfl (.inl rfl) (pe_k T.net hr (by decide) (by rfl) (pa_cons (pe_p T.width hr (by decide) (pv 1)) (pa_cons (pe_lc (own := [("_law_at", 10), ("_law_step", 11)]) (g := gTup K 2 (gCons (gName 10) (gCons (gName 11) gNil))) (by rfl) scHolds.nd (pi_enumT (by rfl) B.enumerate (pa_cons (pe_p T.steps hr (by decide) (pv 1)) pa_nil)) (blkOk_by (N := nHolds) (sc := defScope sHolds) (by decide +kernel))
        (fun _ _ _ _ _ => pg_tup rfl (pgs_cons (pg_name (i := 10) scHolds.nd rfl (.inl rfl)) (pgs_cons (pg_name (i := 11) scHolds.nd rfl (.inl rfl)) pgs_nil)))
        (fun _ _ _ _ _ => pts_one (pt_cmpR (r := rIn K true) op_notIn_seq (pv 10) (pv 2) (by rfl))) (fun _ _ _ _ _ => pv 11)) pa_nil))))
    (pss_cons (ps_asg (pe_tup (pa_cons pe_int (pa_cons pe_int pa_nil))) (pg_tup rfl (pgs_cons (pg_name (i := 6) scHolds.nd rfl (.inl rfl)) (pgs_cons (pg_name (i := 7) scHolds.nd rfl (.inl rfl)) pgs_nil))))
    (pss_cons (ps_for PassesOwn.never rfl (pi_range1 (by rfl) B.range (pa_cons pe_int pa_nil)) (pg_name (i := 8) scHolds.nd rfl (.inl rfl))
      (pss_cons (ps_set (i := 9) scHolds.nd rfl (.inl rfl) (pe_d T.values hr (by decide) (by rfl) (pa_cons (pv 0) (pa_cons (pe_p T.width hr (by decide) (pv 1)) pa_nil))))
      (pss_cons (ps_if (PW.pt (pw_or (pt_cmpR (op_neD hr.units) (pe_m T.runC hr (by decide) (pv 3) (pa_cons (pv 9) pa_nil)) (pe_d T.run hr (by decide) (by rfl) (pa_cons (pv 1) (pa_cons (pv 9) pa_nil))) (nomark _))
          (pw_or1 (pt_cmpR (op_neD hr.units) (pe_m T.runF hr (by decide) (pv 4) (pa_cons (pv 9) pa_nil)) (pe_d T.run hr (by decide) (by rfl) (pa_cons (pv 5) (pa_cons (pv 9) pa_nil))) (nomark _))))) (pss_one (ps_ret pe_bl)) pss_nil)
      (pss_one (ps_par (by rfl) scHolds.nd (i := 6) (j := 7) rfl rfl (by decide) rfl rfl
        (pa_cons (pe_op op_add (pv 6) (pe_callB call_len_seq (by rfl) B.len PySem.boot_len (pa_cons (pe_d T.exch hr (by decide) (by rfl) (pa_cons (pv 1) (pa_cons (pv 9) pa_nil))) pa_nil)))
        (pa_cons (pe_op op_add (pv 7) (pe_callB call_len_seq (by rfl) B.len PySem.boot_len (pa_cons (pe_d T.exch hr (by decide) (by rfl) (pa_cons (pv 5) (pa_cons (pv 9) pa_nil))) pa_nil))) pa_nil)) (by rfl))))))
    (pss_cons (ps_if (pt_cmpR (op_neD hr.units) (pe_lst (pa_cons (pe_p T.compC hr (by decide) (pv 3)) (pa_cons (pe_p T.swapC hr (by decide) (pv 3)) (pa_cons (pe_p T.runsC hr (by decide) (pv 3)) pa_nil))))
        (pe_lst (pa_cons (pe_op op_mul pe_int (pe_callB (call_lenO T.len hr (by decide)) (by rfl) B.len PySem.boot_len (pa_cons (pv 1) pa_nil))) (pa_cons (pv 6) (pa_cons pe_int pa_nil)))) (nomark _)) (pss_one (ps_ret pe_bl)) pss_nil)
    (pss_cons (ps_if (pt_cmpR (op_neD hr.units) (pe_lst (pa_cons (pe_p T.compF hr (by decide) (pv 4)) (pa_cons (pe_p T.swapF hr (by decide) (pv 4)) (pa_cons (pe_p T.runsF hr (by decide) (pv 4)) pa_nil))))
        (pe_lst (pa_cons (pe_op op_mul pe_int (pe_callB (call_lenO T.len hr (by decide)) (by rfl) B.len PySem.boot_len (pa_cons (pv 5) pa_nil))) (pa_cons (pv 7) (pa_cons pe_int pa_nil)))) (nomark _)) (pss_one (ps_ret pe_bl)) pss_nil)
    (pss_one (ps_ret (pe_and (pe_d T.dom hr (by decide) (by rfl) (pa_cons (pv 1) (pa_cons (pv 5) pa_nil)))
      (pe_one (pe_cmpR (op_eqD hr.units) (pe_p T.faults hr (by decide) (pv 4)) (pe_callTy call_tuple_of (by rfl) B.tuple (by decide +kernel) (pa_cons (pv 2) pa_nil)) (nomark _)))))))))), ?_⟩
  intro H1 s o t q ks hS hs0 ho0 nq hkl hks
  have hnet : ∀ H', Same1 a H H' → NetAt N H' n wd st := fun H' e => hN.same1 e (fun dx fs z => by obtain ⟨x, y, w, _⟩ := ha; rw [w] at z; cases z) (fun xs z => by obtain ⟨x, y, w, _⟩ := ha; rw [w] at z; cases z)
  have hkz : (keep ks st).length ≤ st.length := keep_len ks st
  obtain ⟨dn, tn, hn1, hn2⟩ := hnet H1 hS.fr
  refine ⟨_, rfl, n, dn, _, rfl, hn1, n, dn, tn, wd, rfl, hn1, ?_⟩
  refine ⟨_, rfl, n, dn, _, rfl, hn1, n, dn, tn, wd, rfl, hn1, tn, _, rfl, SqT.of hn2, fun D hD => ?_⟩
  refine lc_it walk_enumT (fun i H' => Same H1 H' ∧ H' D = some (.lst (iv (keep ks (st.take i))))) ⟨Same.new hD, upd_same⟩ (fun i H' _ e => SqT.of (e.1 _ _ hn2)) ?_ ?_
  · rintro i y H2 H3 hi ⟨e, hd⟩ ⟨p, x, z, rfl, hq, rfl, hx, hzz⟩
    obtain ⟨m, hm, rfl⟩ := iv_get hzz
    have hx' : x = .int (i : Nat) := (Option.some.inj hx).symm
    subst hx'
    have e3 : Same H1 (upd H2 p (.tup [.int (i : Nat), .int m])) := e.trans (Same.new hq)
    have hd3 : upd H2 p (.tup [.int (i : Nat), .int m]) D = some (.lst (iv (keep ks (st.take i)))) := (Same.new hq) _ _ hd
    refine ⟨p, _, rfl, SqT.of upd_same, rfl, _, _, rfl, _, _, rfl, rfl, rfl, ?_⟩
    refine ⟨_, rfl, _, rfl, q, _, rfl, .inl (SqL.of (e3 _ _ hS.ind)), rfl, flat_iv _, _, rfl, ?_⟩
    show if (!inV (.int (i : Nat)) (iv ks)) = true then _ else _
    rw [inV_int]
    by_cases hf : ((i : Nat) : Int) ∈ ks
    · rw [decide_eq_true hf]
      refine iteF ⟨e3, ?_⟩
      rw [keep_snoc ks hm, if_pos (decide_eq_true hf), List.append_nil]
      exact hd3
    · rw [decide_eq_false hf]
      refine iteT ⟨_, rfl, _, hd3, ?_, ?_, ?_⟩
      · rw [List.length_map]
        exact Nat.lt_of_le_of_lt (keep_len _ _) (Nat.lt_of_le_of_lt (by rw [List.length_take]; exact Nat.min_le_right _ _) (Nat.lt_of_le_of_lt hz (by decide)))
      · exact Same1.fresh e3 hD Same1.upd
      · rw [upd_same, keep_snoc ks hm, if_neg (by simp [hf]), iv_snoc]
  rintro H2 ⟨e2, hd⟩
  rw [List.length_map, List.take_length] at hd
  refine mkNet2 hd h1 h2 (keep_ok ks hok) (by omega) (fun H3 m e3 hm hM => ?_)
  refine ⟨by show 2 ≤ sizeLine; decide, fun p hp => ⟨p, _, rfl, SqT.of upd_same, rfl, _, _, rfl, _, _, rfl, rfl, ?_⟩⟩
  have e4 := Same.new (o := .tup [.int 0, .int 0]) hp
  have hS4 := ((hS.same e2).same e3).same e4
  have hM4 := hM.same e4
  have z1 : (st.length : Int) * ((0 : Nat) : Int) = 0 := Int.mul_zero _
  have z2 : ((keep ks st).length : Int) * ((0 : Nat) : Int) = 0 := Int.mul_zero _
  refine ⟨3, rfl, by decide, by decide, for_range (lo := 0) (n := (3 : Int).toNat) (fun i σ H' => ∃ v8 v9, ∃ X Y : Int, σ = [some (.ref a), some (.ref n), some (.ref q), some (.ref s), some (.ref o), some (.ref m), some (.int X), some (.int Y), v8, v9, none, none] ∧
    HS Cc Cf H H' a n s o t q ks (i : Nat) ((st.length : Int) * (i : Nat)) X (i : Nat) (((keep ks st).length : Int) * (i : Nat)) Y ∧ NetAt N H' m wd (keep ks st)) ⟨none, none, 0, 0, rfl, by rw [z1, z2]; exact hS4, hM4⟩ ?_ ?_⟩
  · rintro i σ H4 hi ⟨v8, v9, X, Y, rfl, hS4, hM4⟩
    obtain ⟨dn4, tn4, hn41, hn42⟩ := hnet H4 hS4.fr
    refine ⟨_, rfl, _, rfl, n, dn4, _, rfl, hn41, n, dn4, tn4, wd, rfl, hn41, a, wd, rfl, hS4.src, h1, h2, fun H5 l v e5 hs5 hl0 hl hlv => ?_⟩
    have hS5 := hS4.atA e5 hs5 nq
    have hM5 := hM4.same1 e5 (fun dx fs z => by obtain ⟨x, y, w, _⟩ := hS4.src; rw [w] at z; cases z) (fun xs z => by obtain ⟨x, y, w, _⟩ := hS4.src; rw [w] at z; cases z)
    obtain ⟨dx, so5⟩ := hS5.so
    refine ⟨_, rfl, s, dx, _, rfl, so5, cf_run0 _ _ _ _, _, rfl, s, dx, l, _, wd, _, _, _, st, v, rfl, so5, ⟨n, cf_n _ _ _ _, hnet H5 hS5.fr⟩, cf_ok _ _ _ _, by show 4 < 50; decide, cf_r _ _ _ _, cf_c _ _ _ _, cf_s _ _ _ _, hl, hlv, hok, by omega, by omega, fun H6 p e6 hp0 hp hs6 => ?_⟩
    rw [cf_run] at hs6
    have hS6 := hS5.atS e6 hs0 T.cf ⟨dx, hs6⟩
    have hl6 := e6 _ _ (ne_of hl so5 (by intro z; cases z)) hl
    have hM6 := hM5.same1 e6 (fun dy fs z => by rw [so5] at z; cases z; exact T.cn rfl) (fun xs z => by rw [so5] at z; cases z)
    refine ⟨_, rfl, _, rfl, n, l, wd, st, v, rfl, hnet H6 hS6.fr, hl6, hlv, hok, by omega, fun H7 p2 e7 hp20 hp2 => ?_⟩
    refine ⟨_, _, dp_lst (e7 _ _ hp), dp_lst hp2, shaped_di _, shaped_di _, false, congrArg V.bl (congrArg not (eqv_di _)), iteF ?_⟩
    have hS7 := hS6.same e7
    have hM7 := hM6.same e7
    have hl7 := e7 _ _ hl6
    obtain ⟨dy, ot7⟩ := hS7.ot
    refine ⟨_, rfl, o, dy, _, rfl, ot7, ff_run0 _ _ _ _ _, _, rfl, o, dy, l, _, wd, _, _, _, keep ks st, v, rfl, ot7, ⟨n, t, st, ks, ff_n _ _ _ _ _, ff_f _ _ _ _ _, hnet H7 hS7.fr, hS7.fa, hkl, hks, h1, h2, hok, by omega, rfl⟩, ff_ok _ _ _ _ _, by show 5 < 50; decide, ff_r _ _ _ _ _, ff_c _ _ _ _ _, ff_s _ _ _ _ _, hl7, hlv, keep_ok ks hok, by omega, by omega, fun H8 p3 e8 hp30 hp3 ho8 => ?_⟩
    rw [ff_run] at ho8
    have hS8 := hS7.atO e8 ho0 T.cf ⟨dy, ho8⟩
    have hl8 := e8 _ _ (ne_of hl7 ot7 (by intro z; cases z)) hl7
    have hM8 := hM7.same1 e8 (fun dz fs z => by rw [ot7] at z; cases z; exact T.fn rfl) (fun xs z => by rw [ot7] at z; cases z)
    refine ⟨_, rfl, _, rfl, m, l, wd, keep ks st, v, rfl, hM8, hl8, hlv, keep_ok ks hok, by omega, fun H9 p4 e9 hp40 hp4 => ?_⟩
    refine ⟨_, _, dp_lst (e9 _ _ hp3), dp_lst hp4, shaped_di _, shaped_di _, false, congrArg V.bl (congrArg not (eqv_di _)), iteF ?_⟩
    have hS9 := hS8.same e9
    have hM9 := hM8.same e9
    have hl9 := e9 _ _ hl8
    refine ⟨_, rfl, _, rfl, _, rfl, n, l, wd, st, v, rfl, hnet H9 hS9.fr, hl9, hlv, hok, by omega, by omega, fun H10 p5 zs e10 hp50 hp5 hzs => ?_⟩
    have hS10 := hS9.same e10
    have hM10 := hM9.same e10
    have hl10 := e10 _ _ hl9
    refine ⟨p5, _, rfl, .inl (SqL.of hp5), _, _, rfl, rfl, _, rfl, _, rfl, _, rfl, m, l, wd, keep ks st, v, rfl, hM10, hl10, hlv, keep_ok ks hok, by omega, by omega, fun H11 p6 zs2 e11 hp60 hp6 hzs2 => ?_⟩
    refine ⟨p6, _, rfl, .inl (SqL.of hp6), _, _, rfl, rfl, _, _, rfl, ?_⟩
    have hS11 := hS10.same e11
    have hM11 := hM10.same e11
    have q1 : ((i : Nat) : Int) + 1 = ((i + 1 : Nat) : Int) := by omega
    have q2 : (st.length : Int) * ((i : Nat) : Int) + (st.length : Nat) = (st.length : Int) * ((i + 1 : Nat) : Int) := by rw [← q1, Int.mul_add, Int.mul_one]
    have q3 : ((keep ks st).length : Int) * ((i : Nat) : Int) + ((keep ks st).length : Nat) = ((keep ks st).length : Int) * ((i + 1 : Nat) : Int) := by rw [← q1, Int.mul_add, Int.mul_one]
    rw [q1, q2, q3] at hS11
    refine ⟨_, _, X + (zs.length : Nat), Y + (zs2.length : Nat), rfl, ?_, hM11⟩
    rw [hzs, hzs2]
    exact hS11
  · rintro σ H4 ⟨v8, v9, X, Y, rfl, hS4, hM4⟩
    have q0 : (((3 : Int).toNat : Nat) : Int) = 3 := rfl
    rw [q0] at hS4
    obtain ⟨dx, so4⟩ := hS4.so
    refine ⟨_, rfl, s, dx, _, rfl, so4, s, dx, _, _, rfl, so4, cf_c _ _ _ _, _, rfl, s, dx, _, rfl, so4, s, dx, _, _, rfl, so4, cf_s _ _ _ _, _, rfl, s, dx, _, rfl, so4, s, dx, _, _, rfl, so4, cf_r _ _ _ _, by show 3 ≤ sizeLine; decide, fun p hp => ?_⟩
    have f1 := Same.new (o := .lst (iv [(st.length : Int) * 3, X, 3])) hp
    have hS5 := hS4.same f1
    obtain ⟨dn5, tn5, hn51, hn52⟩ := hnet _ hS5.fr
    refine ⟨_, rfl, n, dn5, _, rfl, hn51, n, wd, st, rfl, hnet _ hS5.fr, _, rfl, Int.natCast_nonneg _, by omega, _, _, rfl, rfl, .inl (by constructor <;> decide), _, rfl, by show 3 ≤ sizeLine; decide, fun p2 hp2 => ?_⟩
    have f2 := Same.new (o := .lst (iv [3 * (st.length : Int), X, 3])) hp2
    refine ⟨_, _, dp_lst (xs := [(st.length : Int) * 3, X, 3]) (f2 _ _ upd_same), dp_lst (xs := [3 * (st.length : Int), X, 3]) upd_same, shaped_di _, shaped_di _, false, congrArg V.bl ?_, iteF ?_⟩
    · rw [Int.mul_comm 3 (st.length : Int)]
      exact congrArg not (eqv_di _)
    have hS6 := hS5.same f2
    have hM6 := (hM4.same f1).same f2
    obtain ⟨dy, ot6⟩ := hS6.ot
    refine ⟨_, rfl, o, dy, _, rfl, ot6, o, dy, _, _, rfl, ot6, ff_c _ _ _ _ _, _, rfl, o, dy, _, rfl, ot6, o, dy, _, _, rfl, ot6, ff_s _ _ _ _ _, _, rfl, o, dy, _, rfl, ot6, o, dy, _, _, rfl, ot6, ff_r _ _ _ _ _, by show 3 ≤ sizeLine; decide, fun p3 hp3 => ?_⟩
    have f3 := Same.new (o := .lst (iv [((keep ks st).length : Int) * 3, Y, 3])) hp3
    have hM7 := hM6.same f3
    obtain ⟨dm7, tm7, hm71, hm72⟩ := id hM7
    refine ⟨_, rfl, m, dm7, _, rfl, hm71, m, wd, keep ks st, rfl, hM7, _, rfl, Int.natCast_nonneg _, by omega, _, _, rfl, rfl, .inl (by constructor <;> decide), _, rfl, by show 3 ≤ sizeLine; decide, fun p4 hp4 => ?_⟩
    have f4 := Same.new (o := .lst (iv [3 * ((keep ks st).length : Int), Y, 3])) hp4
    refine ⟨_, _, dp_lst (xs := [((keep ks st).length : Int) * 3, Y, 3]) (f4 _ _ upd_same), dp_lst (xs := [3 * ((keep ks st).length : Int), Y, 3]) upd_same, shaped_di _, shaped_di _, false, congrArg V.bl ?_, iteF ?_⟩
    · rw [Int.mul_comm 3 ((keep ks st).length : Int)]
      exact congrArg not (eqv_di _)
    have hS8 := (hS6.same f3).same f4
    have hM8 := hM7.same f4
    refine ⟨_, rfl, _, rfl, n, m, wd, st, ks, rfl, hnet _ hS8.fr, hM8, h1, h2, hok, fun H9 e9 => ?_⟩
    have hS9 := hS8.same e9
    obtain ⟨dz, ot9⟩ := hS9.ot
    refine ⟨true, rfl, iteT ?_⟩
    refine ⟨_, rfl, o, dz, _, rfl, ot9, o, dz, _, .ref t, rfl, ot9, ff_f _ _ _ _ _, _, rfl, q, _, rfl, .inl ⟨SqL.of hS9.ind, fun t2 ht2 => ?_⟩⟩
    have f5 := Same.new (o := .tup (iv ks)) ht2
    have hS10 := hS9.same f5
    refine ⟨_, _, dp_tup hS10.fa, dp_tup upd_same, shaped_dt _, shaped_dt _, ?_⟩
    show Q (.bl (PyData.eqv (.tuple (di ks)) (.tuple (di ks)))) _
    rw [eqv_dt]
    exact k _ hS10.fr hS10.src
end
end NS
namespace NS
open PySem PySem.Spec PyProof.Rows L2
theorem n02 : ¬ ((0 : Nat) : Int) = 2 := by decide
theorem n01 : ¬ ((0 : Nat) : Int) = 1 := by decide
theorem n12 : ¬ ((1 : Nat) : Int) = 2 := by decide
theorem sameMk {H H' : Hp} {x dx : Addr} {o1 o2 : HO} (nx : H x = none) (nd : H dx = none) (e : Same1 x (upd (upd H dx o1) x o2) H') : Same H H' := fun b o h =>
  e b o (ne_of_none h nx) (by rw [upd_ne (ne_of_none h nx), upd_ne (ne_of_none h nd)]; exact h)
section
variable {P : Program} {w : World} {K : PySem.W.Frag} {mg : Str → Option Value} {base : Heap} {N Cc Cf : Addr}
theorem ok_holds (D : DefAt K mg "_law_holds" "_law_holds" sHolds ["_law_source_here", "_law_network"]) (T : HD P w K mg base N Cc Cf) : DefOk P w K mg base 10 "_law_holds" (spHolds N) := by
  have B := T.bi
  refine D.ok scHolds (fun vs H Q E h => ?_) (fun f cdv A outer s0 H vs Q E hr h => ?_)
  · obtain ⟨a, n, wd, st, rfl, _⟩ := h
    rfl
  · obtain ⟨a, n, wd, st, rfl, ha, hN, h1, h2, hok, hz, k⟩ := h
    obtain ⟨u, hu1, hu2⟩ := holds_tail T (cdv := cdv) (outer := outer) (E := E) (Q := Q) hr ha hN h1 h2 hok hz k
    have hnet : ∀ H', Same1 a H H' → NetAt N H' n wd st := fun H' e => hN.same1 e (fun dx fs z => by obtain ⟨x, y, w, _⟩ := ha; rw [w] at z; cases z) (fun xs z => by obtain ⟨x, y, w, _⟩ := ha; rw [w] at z; cases z)
    refine ⟨_, pss_cons (ps_set (i := 2) scHolds.nd rfl (.inr rfl) (pe_lc (own := [("_law_at", 10)]) (g := gName 10) (by rfl) scHolds.nd
        (pi_range1 (by rfl) B.range (pa_cons (pe_callB (call_lenO T.len hr (by decide)) (by rfl) B.len PySem.boot_len (pa_cons (pv 1) pa_nil)) pa_nil)) (blkOk_by (N := nHolds) (sc := defScope sHolds) (by decide +kernel))
        (fun _ _ _ _ _ => pg_name (i := 10) scHolds.nd rfl (.inl rfl))
        (fun _ _ _ _ _ => pts_one (pt_cmpR (r := rEq) op_eq (pe_d T.draw hr (by decide) (by rfl) (pa_cons (pv 0) (pa_cons pe_int pa_nil))) pe_int (nomark _))) (fun _ _ _ _ _ => pv 10)))
      (pss_cons (ps_set (i := 2) scHolds.nd rfl (.inr rfl) (pe_slice sl_list (pv 2) po_none (po_some pe_int)))
      (pss_cons (ps_par (by rfl) scHolds.nd (i := 3) (j := 4) rfl rfl (by decide) rfl rfl (pa_cons (pe_k T.mkC hr (by decide) (by rfl) (pa_cons (pv 1) pa_nil)) (pa_cons (pe_k T.mkF hr (by decide) (by rfl) (pa_cons (pv 1) pa_nil)) pa_nil)) (by rfl))
      (pss_cons (ps_if (pt_cmpR op_eq (pe_callB call_len_seq (by rfl) B.len PySem.boot_len (pa_cons (pv 2) pa_nil)) pe_int (nomark _))
          (pss_one (ps_expr (pe_m T.fail.met hr (by decide) (pv 4) (pa_cons (pe_ix ix_list (pv 2) pe_int (fun _ _ => rfl)) (pa_cons (pe_ix ix_list (pv 2) pe_int (fun _ _ => rfl)) pa_nil)))))
          (pss_one (ps_if (pt_cmpR op_eq (pe_callB call_len_seq (by rfl) B.len PySem.boot_len (pa_cons (pv 2) pa_nil)) pe_int (nomark _))
            (pss_one (ps_expr (pe_m T.fail.met hr (by decide) (pv 4) (pa_cons (pe_ix ix_list (pv 2) pe_int (fun _ _ => rfl)) pa_nil)))) pss_nil))) hu1))), ?_⟩
    obtain ⟨dn, tn, hn1, hn2⟩ := id hN
    refine ⟨_, rfl, n, dn, _, rfl, hn1, n, wd, st, rfl, hN, _, rfl, Int.natCast_nonneg _, by omega, _, rfl, by omega, by omega, fun D hD => ?_⟩
    have naD : a ≠ D := ha.ne_none hD
    refine lc_range (lo := 0) (n := ((st.length : Nat) : Int).toNat) (fun i H' => Same1 a H H' ∧ Src H' a ∧ ∃ l : List Int, H' D = some (.lst (iv l)) ∧ l.Pairwise (· < ·) ∧ (∀ j ∈ l, 0 ≤ j ∧ j < ((i : Nat) : Int)) ∧ l.length ≤ i)
      ⟨(Same.new hD).one, ha.same (Same.new hD), [], upd_same, List.Pairwise.nil, (fun j hj => by cases hj), Nat.le_refl _⟩ ?_ ?_
    · rintro i H1 hi ⟨e, hs, l, hl, hpw, hmem, hln⟩
      refine ⟨rfl, _, rfl, a, 4, rfl, hs, by decide, by decide, fun H2 r e2 hs2 r0 r1 => ?_⟩
      have hl2 := e2 _ _ naD.symm hl
      refine ⟨rfl, _, rfl, ite2 (fun hc => ?_) (fun hc => ?_)⟩
      · refine ⟨_, rfl, _, hl2, ?_, (e.trans e2).fr hD Same1.upd, hs2.same1 Same1.upd naD, l ++ [0 + (i : Int)], ?_, ?_, ?_, ?_⟩
        · rw [List.length_map]
          exact Nat.lt_of_lt_of_le (by omega : l.length < 200) (by decide)
        · rw [upd_same, iv_snoc]
        · refine List.pairwise_append.mpr ⟨hpw, List.pairwise_singleton _ _, fun x hx y hy => ?_⟩
          rw [List.mem_singleton] at hy
          have := hmem x hx
          omega
        · intro j hj
          rcases List.mem_append.mp hj with hj | hj
          · have := hmem j hj
            omega
          · rw [List.mem_singleton] at hj
            omega
        · rw [List.length_append, List.length_singleton]
          omega
      · exact ⟨e.trans e2, hs2, l, hl2, hpw, fun j hj => by have := hmem j hj; omega, by omega⟩
    · rintro H1 ⟨e1, hs1, l, hl, hpw0, hmem0, hln⟩
      refine ⟨_, rfl, 2, rfl, D, _, rfl, SqL.of hl, fun q hq => ?_⟩
      have e0 : cutV (iv l) none (some (2 : Int)) = iv (l.take 2) := (cutV_take (iv l) 2).trans (iv_take l 2)
      rw [e0]
      have hpw : (l.take 2).Pairwise (· < ·) := hpw0.sublist (List.take_sublist _ _)
      have hmem : ∀ j ∈ l.take 2, 0 ≤ j ∧ j < (st.length : Int) := fun j hj => by
        have := hmem0 j (List.mem_of_mem_take hj)
        omega
      have hkl : (l.take 2).length ≤ 2 := by rw [List.length_take]; exact Nat.min_le_left _ _
      generalize l.take 2 = ks at hpw hmem hkl
      have e2 := Same.new (o := .lst (iv ks)) hq
      have nqa : q ≠ a := (hs1.ne_none hq).symm
      have hq0 : H q = none := e1.free nqa hq
      refine ⟨_, rfl, fun s ds ns nds nss => ⟨s, n, ds, rfl, upd_same, fun H3 e3 hs3 => ⟨rfl, ?_⟩⟩⟩
      have e3' := sameMk ns nds e3
      have nsa : s ≠ a := ((hs1.same e2).ne_none ns).symm
      have hs0 : H s = none := (e1.trans e2.one).free nsa ns
      have eA : Same1 a H H3 := (e1.trans e2.one).trans e3'.one
      have hsA := (hs1.same e2).same e3'
      refine ⟨_, rfl, fun o dd no ndd noo => ⟨o, n, dd, wd, st, rfl, upd_same, ?_, by omega, fun H4 t e4 ht ho => ⟨rfl, ?_⟩⟩⟩
      · exact ((hnet H3 eA).same (Same.new ndd)).same1 Same1.upd (fun dx fs z => by rw [upd_ne noo.symm, no] at z; cases z) (fun xs z => by rw [upd_ne noo.symm, no] at z; cases z)
      have e4' := sameMk no ndd e4
      have noa : o ≠ a := (hsA.ne_none no).symm
      have ho0 : H o = none := eA.free noa no
      have eB : Same1 a H H4 := eA.trans e4'.one
      have hsB := hsA.same e4'
      have hq4 : H4 q = some (.lst (iv ks)) := e4' _ _ (e3' _ _ upd_same)
      have hs4 := e4' _ _ hs3
      refine ⟨_, _, rfl, ?_⟩
      refine ⟨_, rfl, q, _, rfl, .inl (SqL.of hq4), rfl, ?_⟩
      match ks, hpw, hmem, hkl, hq4 with
      | [], hpw, hmem, hkl, hq4 =>
        refine ⟨false, congrArg V.bl (iNe n02), iteF ⟨_, rfl, q, _, rfl, .inl (SqL.of hq4), rfl, false, congrArg V.bl (iNe n01), iteF ?_⟩⟩
        exact hu2 H4 s o t q [] ⟨eB, hsB, ⟨ds, hs4⟩, ⟨dd, ho⟩, ht, hq4⟩ hs0 ho0 nqa (Nat.zero_le _) hmem
      | [x], hpw, hmem, hkl, hq4 =>
        refine ⟨false, congrArg V.bl (iNe n12), iteF ⟨_, rfl, q, _, rfl, .inl (SqL.of hq4), rfl, true, congrArg V.bl (decide_eq_true rfl), iteT ?_⟩⟩
        refine ⟨_, rfl, o, dd, _, rfl, ho, ff_fail _ _ _ _ _, _, rfl, q, _, 0, _, rfl, rfl, SqL.of hq4, rfl, o, dd, n, _, wd, st, [x], rfl, ho, ff_n _ _ _ _ _, ff_ch _ _ _ _ _, by show 5 < 100; decide, hnet H4 eB, by show 1 ≤ 10; decide, hmem, by omega, fun H5 q2 nn e5 hq2 hpn hm hlnn ho5 => ?_⟩
        have hnn : nn = [x] := asc_eq hpn hpw hm
        subst hnn
        rw [ff_again] at ho5
        have noq : q ≠ o := ne_of hq4 ho (by intro z; cases z)
        exact hu2 H5 s o q2 q [x] ⟨eB.fr ho0 e5, hsB.same1 e5 noa.symm, ⟨ds, e5 _ _ (ne_of hs4 ho (by intro z; cases z)) hs4⟩, ⟨dd, ho5⟩, hq2, e5 _ _ noq hq4⟩ hs0 ho0 nqa (by show 1 ≤ 10; decide) hmem
      | [x, y], hpw, hmem, hkl, hq4 =>
        refine ⟨true, congrArg V.bl (decide_eq_true rfl), iteT ?_⟩
        refine ⟨_, rfl, o, dd, _, rfl, ho, ff_fail _ _ _ _ _, _, rfl, q, _, 1, _, rfl, rfl, SqL.of hq4, rfl, _, rfl, q, _, 0, _, rfl, rfl, SqL.of hq4, rfl, o, dd, n, _, wd, st, [y, x], rfl, ho, ff_n _ _ _ _ _, ff_ch _ _ _ _ _, by show 5 < 100; decide, hnet H4 eB, by show 2 ≤ 10; decide, fun j hj => hmem j ?_, by omega, fun H5 q2 nn e5 hq2 hpn hm hlnn ho5 => ?_⟩
        · rcases List.mem_cons.mp hj with h | h
          · rw [h]; exact List.mem_cons_of_mem _ List.mem_cons_self
          · rw [List.mem_singleton.mp h]; exact List.mem_cons_self
        have hnn : nn = [x, y] := asc_eq hpn hpw fun j => (hm j).trans (by simp [or_comm])
        subst hnn
        rw [ff_again] at ho5
        have noq : q ≠ o := ne_of hq4 ho (by intro z; cases z)
        exact hu2 H5 s o q2 q [x, y] ⟨eB.fr ho0 e5, hsB.same1 e5 noa.symm, ⟨ds, e5 _ _ (ne_of hs4 ho (by intro z; cases z)) hs4⟩, ⟨dd, ho5⟩, hq2, e5 _ _ noq hq4⟩ hs0 ho0 nqa (by show 2 ≤ 10; decide) hmem
      | x :: y :: z :: r, hpw, hmem, hkl, hq4 => exact absurd hkl (by simp only [List.length_cons]; omega)
end
end NS
namespace NS
open PySem PySem.Spec PyProof.Rows L2
/-- the law's own objects: the choices, the bench, its history, the list of sorters, the list of results, the values -/
structure Ad where
  a : Addr
  b : Addr
  h : Addr
  S : Addr
  R : Addr
  l : Addr
def Ad.Off (d : Ad) (x : Addr) : Prop := x ≠ d.a ∧ x ≠ d.h ∧ x ≠ d.S ∧ x ≠ d.R
structure AdOk (K0 : Hp) (d : Ad) : Prop where
  a0 : K0 d.a = none
  b0 : K0 d.b = none
  h0 : K0 d.h = none
  S0 : K0 d.S = none
  R0 : K0 d.R = none
  ah : d.a ≠ d.h
  aS : d.a ≠ d.S
  aR : d.a ≠ d.R
  hS : d.h ≠ d.S
  hR : d.h ≠ d.R
  SR : d.S ≠ d.R
  lo : d.Off d.l
/-- a counting sorter that has run r lists -/
def SoOk (N Cc : Addr) (H : Hp) (s : Addr) (wd : Int) (st : List Int) (r : Int) : Prop := ∃ (dx n : Addr) (c x : Int), H s = some (.ins Cc dx (cf n r c x)) ∧ NetAt N H n wd st ∧ StepsOk wd st ∧ st.length ≤ 100
structure LwT (N Cc : Addr) (K0 : Hp) (d : Ad) (wd : Int) (v : List Int) (H : Hp) (t : Addr) (st : List Int) (ss : List Addr) (s1 : List (List Int)) (rs : List Addr) (s2 : List (List Int)) (r : Nat → Int) : Prop where
  fr : Same K0 H
  tl : H t = some (.lst (iv st))
  tn : d.Off t
  vl : H d.l = some (.lst (iv v))
  sl : H d.S = some (.lst (ss.map V.ref))
  rl : H d.R = some (.lst (rs.map V.ref))
  s1l : ss.length = s1.length
  s2l : rs.length = s2.length
  nd : ss.Nodup
  sn : ∀ s ∈ ss, K0 s = none
  so : ∀ (j : Nat) (s : Addr), ss[j]? = some s → ∃ s', s1[j]? = some s' ∧ SoOk N Cc H s wd s' (r j)
  ro : ∀ (j : Nat) (p : Addr), rs[j]? = some p → d.Off p ∧ ∃ s', s2[j]? = some s' ∧ H p = some (.lst (iv (runL s' v)))
section
variable {N Cc B : Addr} {K0 H H' : Hp} {d : Ad} {wd : Int} {v : List Int} {t : Addr} {st : List Int} {ss : List Addr} {s1 : List (List Int)} {rs : List Addr} {s2 : List (List Int)} {r : Nat → Int} {x : Addr}
theorem SoOk.gen {s : Addr} {r0 : Int} (k : SoOk N Cc H s wd st r0) (hN : N ≠ B) (hC : Cc ≠ B) (S : Addr → Prop) (e : ∀ x o, ¬ S x → H x = some o → H' x = some o)
    (z1 : ∀ x, S x → ∀ C dx fs, H x = some (.ins C dx fs) → C = B) (z2 : ∀ x, S x → ∀ xs, H x ≠ some (.tup xs)) : SoOk N Cc H' s wd st r0 := by
  obtain ⟨dx, n, c, y, h1, ⟨dn, tn, h2, h3⟩, h4⟩ := k
  exact ⟨dx, n, c, y, e _ _ (fun z => hC (z1 _ z _ _ _ h1)) h1, ⟨dn, tn, e _ _ (fun z => hN (z1 _ z _ _ _ h2)) h2, e _ _ (fun z => z2 _ z _ h3) h3⟩, h4⟩
theorem LwT.gen (k : LwT N Cc K0 d wd v H t st ss s1 rs s2 r) (hN : N ≠ B) (hC : Cc ≠ B) (S : Addr → Prop) (e : ∀ x o, ¬ S x → H x = some o → H' x = some o) (z0 : ∀ x, S x → K0 x = none)
    (z1 : ∀ x, S x → ∀ C dx fs, H x = some (.ins C dx fs) → C = B) (z2 : ∀ x, S x → ∀ xs, H x ≠ some (.tup xs)) (zt : ¬ S t) (zl : ¬ S d.l) (zs : ¬ S d.S) (zr : ¬ S d.R) (zp : ∀ p ∈ rs, ¬ S p) :
    LwT N Cc K0 d wd v H' t st ss s1 rs s2 r where
  fr := fun x o h => e x o (fun z => by rw [z0 x z] at h; cases h) (k.fr x o h)
  tl := e _ _ zt k.tl
  tn := k.tn
  vl := e _ _ zl k.vl
  sl := e _ _ zs k.sl
  rl := e _ _ zr k.rl
  s1l := k.s1l
  s2l := k.s2l
  nd := k.nd
  sn := k.sn
  so := fun j s hj => let ⟨s', q1, q2⟩ := k.so j s hj; ⟨s', q1, q2.gen hN hC S e z1 z2⟩
  ro := fun j p hj => by
    obtain ⟨q0, s', q1, q2⟩ := k.ro j p hj
    exact ⟨q0, s', q1, e _ _ (zp p (List.mem_of_getElem? hj)) q2⟩
theorem LwT.res (k : LwT N Cc K0 d wd v H t st ss s1 rs s2 r) {p : Addr} (hp : p ∈ rs) : d.Off p ∧ ∃ xs, H p = some (.lst xs) := by
  obtain ⟨j, hj⟩ := List.getElem?_of_mem hp
  obtain ⟨q0, s', _, q2⟩ := k.ro j p hj
  exact ⟨q0, _, q2⟩
theorem LwT.same (k : LwT N Cc K0 d wd v H t st ss s1 rs s2 r) (e : Same H H') : LwT N Cc K0 d wd v H' t st ss s1 rs s2 r where
  fr := k.fr.trans e
  tl := e _ _ k.tl
  tn := k.tn
  vl := e _ _ k.vl
  sl := e _ _ k.sl
  rl := e _ _ k.rl
  s1l := k.s1l
  s2l := k.s2l
  nd := k.nd
  sn := k.sn
  so := fun j s hj => let ⟨s', q1, dx, n, c, y, h1, h2, h3⟩ := k.so j s hj; ⟨s', q1, dx, n, c, y, e _ _ h1, h2.same e, h3⟩
  ro := fun j p hj => let ⟨q0, s', q1, q2⟩ := k.ro j p hj; ⟨q0, s', q1, e _ _ q2⟩
theorem LwT.atA (k : LwT N Cc K0 d wd v H t st ss s1 rs s2 r) (D : AdOk K0 d) (hN : N ≠ B) (hC : Cc ≠ B) (s : Src H d.a) (e : Same1 d.a H H') : LwT N Cc K0 d wd v H' t st ss s1 rs s2 r := by
  obtain ⟨x, y, hs, _⟩ := s
  refine k.gen hN hC (fun z => z = d.a) (fun x o n h => e x o n h) (fun z hz => by rw [hz]; exact D.a0) (fun z hz C dx fs q => by rw [hz, hs] at q; cases q) (fun z hz xs q => by rw [hz, hs] at q; cases q) k.tn.1 D.lo.1 (fun z => D.aS z.symm) (fun z => D.aR z.symm) (fun p hp => (k.res hp).1.1)
theorem LwT.at2 (k : LwT N Cc K0 d wd v H t st ss s1 rs s2 r) (D : AdOk K0 d) (hN : N ≠ B) (hC : Cc ≠ B) {hs : List Addr} {w2 : Int} {st2 : List Int} (hB : BenchAt B N H d.b d.h w2 st2 hs) (e : Same2 d.b d.h H H') : LwT N Cc K0 d wd v H' t st ss s1 rs s2 r := by
  obtain ⟨dx, n, hb, _⟩ := hB.ob
  have hh := hB.li
  have nb : ∀ {x : Addr} {xs : List V}, H x = some (.lst xs) → x ≠ d.b := fun q => ne_of q hb (by intro z; cases z)
  refine k.gen hN hC (fun z => z = d.b ∨ z = d.h) (fun x o n h => e x o (fun z => n (.inl z)) (fun z => n (.inr z)) h) (fun z hz => hz.elim (fun q => by rw [q]; exact D.b0) (fun q => by rw [q]; exact D.h0)) (fun z hz C dy fs q => ?_) (fun z hz xs q => ?_) ?_ ?_ ?_ ?_ (fun p hp => ?_)
  · rcases hz with hz | hz
    · rw [hz, hb] at q; cases q; rfl
    · rw [hz, hh] at q; cases q
  · rcases hz with hz | hz
    · rw [hz, hb] at q; cases q
    · rw [hz, hh] at q; cases q
  · rintro (z | z)
    · exact nb k.tl z
    · exact k.tn.2.1 z
  · rintro (z | z)
    · exact nb k.vl z
    · exact D.lo.2.1 z
  · rintro (z | z)
    · exact nb k.sl z
    · exact D.hS z.symm
  · rintro (z | z)
    · exact nb k.rl z
    · exact D.hR z.symm
  · obtain ⟨q0, xs, q1⟩ := k.res hp
    exact fun q => q.elim (nb q1) q0.2.1
theorem LwT.setT {t' : Addr} {st' : List Int} (k : LwT N Cc K0 d wd v H t st ss s1 rs s2 r) (h : H t' = some (.lst (iv st'))) (n : d.Off t') : LwT N Cc K0 d wd v H t' st' ss s1 rs s2 r :=
  ⟨k.fr, h, n, k.vl, k.sl, k.rl, k.s1l, k.s2l, k.nd, k.sn, k.so, k.ro⟩
theorem getSnoc {α : Type} {xs : List α} {y z : α} {j : Nat} (h : (xs ++ [y])[j]? = some z) : xs[j]? = some z ∨ (j = xs.length ∧ z = y) := by
  by_cases hj : j < xs.length
  · rw [List.getElem?_append_left hj] at h; exact .inl h
  · rw [List.getElem?_append_right (by omega)] at h
    have : j - xs.length = 0 := by
      have := (List.getElem?_eq_some_iff.mp h).1
      simp at this
      omega
    rw [this] at h
    exact .inr ⟨by omega, (Option.some.inj h).symm⟩
theorem LwT.pushS {s : Addr} {s' : List Int} (k : LwT N Cc K0 d wd v H t st ss s1 rs s2 r) (D : AdOk K0 d) (hN : N ≠ B) (hC : Cc ≠ B) (ns : s ∉ ss) (s0 : K0 s = none) (hs : SoOk N Cc H s wd s' (r ss.length)) :
    LwT N Cc K0 d wd v (upd H d.S (.lst (ss.map V.ref ++ [.ref s]))) t st (ss ++ [s]) (s1 ++ [s']) rs s2 r := by
  have e : ∀ x o, ¬ x = d.S → H x = some o → upd H d.S (.lst (ss.map V.ref ++ [.ref s])) x = some o := fun x o n h => (upd_ne n).trans h
  have q1 : ∀ x, x = d.S → ∀ C dx fs, H x = some (.ins C dx fs) → C = B := fun x hx C dx fs q => by rw [hx, k.sl] at q; cases q
  have q2 : ∀ x, x = d.S → ∀ xs, H x ≠ some (.tup xs) := fun x hx xs q => by rw [hx, k.sl] at q; cases q
  refine ⟨fun x o h => e x o (fun z => by rw [z, D.S0] at h; cases h) (k.fr x o h), e _ _ k.tn.2.2.1 k.tl, k.tn, e _ _ D.lo.2.2.1 k.vl, ?_, e _ _ (fun z => D.SR z.symm) k.rl, ?_, k.s2l, ?_, ?_, fun j z hj => ?_, fun j p hj => ?_⟩
  · rw [upd_same, List.map_append]; rfl
  · rw [List.length_append, List.length_append, k.s1l]; rfl
  · exact List.nodup_append.mpr ⟨k.nd, by simp, fun a ha b hb => by rw [List.mem_singleton] at hb; subst hb; exact fun z => ns (z ▸ ha)⟩
  · intro z hz
    rcases List.mem_append.mp hz with h | h
    · exact k.sn z h
    · rw [List.mem_singleton.mp h]; exact s0
  · rcases getSnoc hj with h | ⟨h1, h2⟩
    · obtain ⟨w, w1, w2⟩ := k.so j z h
      exact ⟨w, by rw [List.getElem?_append_left (List.getElem?_eq_some_iff.mp w1).1]; exact w1, w2.gen hN hC (fun x => x = d.S) e q1 q2⟩
    · subst h1 h2
      refine ⟨s', by rw [k.s1l, List.getElem?_append_right (Nat.le_refl _), Nat.sub_self]; rfl, hs.gen hN hC (fun x => x = d.S) e q1 q2⟩
  · obtain ⟨w0, w, w1, w2⟩ := k.ro j p hj
    exact ⟨w0, w, w1, e _ _ w0.2.2.1 w2⟩
theorem LwT.pushR {p : Addr} {s' : List Int} (k : LwT N Cc K0 d wd v H t st ss s1 rs s2 r) (D : AdOk K0 d) (hN : N ≠ B) (hC : Cc ≠ B) (np : d.Off p) (hp : H p = some (.lst (iv (runL s' v)))) :
    LwT N Cc K0 d wd v (upd H d.R (.lst (rs.map V.ref ++ [.ref p]))) t st ss s1 (rs ++ [p]) (s2 ++ [s']) r := by
  have e : ∀ x o, ¬ x = d.R → H x = some o → upd H d.R (.lst (rs.map V.ref ++ [.ref p])) x = some o := fun x o n h => (upd_ne n).trans h
  have q1 : ∀ x, x = d.R → ∀ C dx fs, H x = some (.ins C dx fs) → C = B := fun x hx C dx fs q => by rw [hx, k.rl] at q; cases q
  have q2 : ∀ x, x = d.R → ∀ xs, H x ≠ some (.tup xs) := fun x hx xs q => by rw [hx, k.rl] at q; cases q
  refine ⟨fun x o h => e x o (fun z => by rw [z, D.R0] at h; cases h) (k.fr x o h), e _ _ k.tn.2.2.2 k.tl, k.tn, e _ _ D.lo.2.2.2 k.vl, e _ _ D.SR k.sl, ?_, k.s1l, ?_, k.nd, k.sn, fun j z hj => ?_, fun j z hj => ?_⟩
  · rw [upd_same, List.map_append]; rfl
  · rw [List.length_append, List.length_append, k.s2l]; rfl
  · obtain ⟨w, w1, w2⟩ := k.so j z hj
    exact ⟨w, w1, w2.gen hN hC (fun x => x = d.R) e q1 q2⟩
  · rcases getSnoc hj with h | ⟨h1, h2⟩
    · obtain ⟨w0, w, w1, w2⟩ := k.ro j z h
      exact ⟨w0, w, by rw [List.getElem?_append_left (List.getElem?_eq_some_iff.mp w1).1]; exact w1, e _ _ w0.2.2.2 w2⟩
    · subst h1 h2
      exact ⟨np, s', by rw [k.s2l, List.getElem?_append_right (Nat.le_refl _), Nat.sub_self]; rfl, e _ _ np.2.2.2 hp⟩
/-- the sorter at place j runs once more -/
theorem LwT.run {j : Nat} {s : Addr} {dx n : Addr} {c y r' : Int} (k : LwT N Cc K0 d wd v H t st ss s1 rs s2 r) (hCN : Cc ≠ N) (hj : ss[j]? = some s) (e : Same1 s H H') (hs : H' s = some (.ins Cc dx (cf n r' c y))) (hn : ∃ s', s1[j]? = some s' ∧ NetAt N H n wd s' ∧ StepsOk wd s' ∧ s'.length ≤ 100) :
    LwT N Cc K0 d wd v H' t st ss s1 rs s2 (fun m => if m = j then r' else r m) := by
  obtain ⟨s0, hs0, dz, nz, cz, yz, hz, _⟩ := k.so j s hj
  have nl : ∀ {x : Addr} {xs : List V}, H x = some (.lst xs) → x ≠ s := fun q => ne_of q hz (by intro z; cases z)
  have nN : ∀ {m : Addr} {u : List Int}, NetAt N H m wd u → NetAt N H' m wd u := fun q => q.same1 e (fun dy fs z => by rw [hz] at z; cases z; exact hCN rfl) (fun xs z => by rw [hz] at z; cases z)
  refine ⟨fun x o h => e x o (fun z => by rw [z, k.sn s (List.mem_of_getElem? hj)] at h; cases h) (k.fr x o h), e _ _ (nl k.tl) k.tl, k.tn, e _ _ (nl k.vl) k.vl, e _ _ (nl k.sl) k.sl, e _ _ (nl k.rl) k.rl, k.s1l, k.s2l, k.nd, k.sn, fun i z hi => ?_, fun i p hi => ?_⟩
  · by_cases hij : i = j
    · subst hij
      rw [hj] at hi
      cases hi
      rw [if_pos rfl]
      obtain ⟨s', w1, w2, w3, w4⟩ := hn
      exact ⟨s', w1, dx, n, c, y, hs, nN w2, w3, w4⟩
    · rw [if_neg hij]
      obtain ⟨w, w1, dw, nw, cw, yw, w2, w3, w4⟩ := k.so i z hi
      refine ⟨w, w1, dw, nw, cw, yw, e _ _ (fun q => ?_) w2, nN w3, w4⟩
      subst q
      have h1 := (List.getElem?_eq_some_iff.mp hi)
      have h2 := (List.getElem?_eq_some_iff.mp hj)
      exact hij ((List.getElem_inj k.nd).mp (h1.2.trans h2.2.symm))
  · obtain ⟨w0, w, w1, w2⟩ := k.ro i p hi
    exact ⟨w0, w, w1, e _ _ (nl w2) w2⟩
theorem LwT.runsEq {r2 : Nat → Int} (k : LwT N Cc K0 d wd v H t st ss s1 rs s2 r) (h : ∀ j, j < ss.length → r j = r2 j) : LwT N Cc K0 d wd v H t st ss s1 rs s2 r2 :=
  ⟨k.fr, k.tl, k.tn, k.vl, k.sl, k.rl, k.s1l, k.s2l, k.nd, k.sn, fun j s hj => by rw [← h j (List.getElem?_eq_some_iff.mp hj).1]; exact k.so j s hj, k.ro⟩
theorem dpAll_l {K : PySem.W.Frag} : ∀ (ps : List Addr) (xss : List (List Int)), ps.length = xss.length → (∀ (j : Nat) (p : Addr), ps[j]? = some p → ∃ x, xss[j]? = some x ∧ H p = some (.lst (iv x))) → DpAll K H (ps.map V.ref) (dl xss)
  | [], [], _, _ => .nil
  | p :: ps, x :: xss, hl, h => by
    refine .cons ?_ (dpAll_l ps xss (by simpa using hl) fun j q hj => ?_)
    · obtain ⟨y, h1, h2⟩ := h 0 p rfl
      cases h1
      exact dp_lst h2
    · exact h (j + 1) q (by simpa using hj)
  | [], _ :: _, hl, _ => by simp at hl
  | _ :: _, [], hl, _ => by simp at hl
/-- an address that is new at H stands for nothing of the law's -/
theorem LwT.fresh (k : LwT N Cc K0 d wd v H t st ss s1 rs s2 r) {D : Addr} (hD : H D = none) : K0 D = none ∧ t ≠ D ∧ d.l ≠ D ∧ d.S ≠ D ∧ d.R ≠ D ∧ ∀ p ∈ rs, p ≠ D :=
  ⟨k.fr.free hD, ne_of_none k.tl hD, ne_of_none k.vl hD, ne_of_none k.sl hD, ne_of_none k.rl hD, fun p hp => let ⟨_, _, q⟩ := k.res hp; ne_of_none q hD⟩
theorem LwT.atD (k : LwT N Cc K0 d wd v H t st ss s1 rs s2 r) (hN : N ≠ B) (hC : Cc ≠ B) {D : Addr} {xs : List V} (n : K0 D = none ∧ t ≠ D ∧ d.l ≠ D ∧ d.S ≠ D ∧ d.R ≠ D ∧ ∀ p ∈ rs, p ≠ D) (h : H D = some (.lst xs)) (e : Same1 D H H') : LwT N Cc K0 d wd v H' t st ss s1 rs s2 r :=
  k.gen hN hC (fun z => z = D) (fun x o n h => e x o n h) (fun z hz => by rw [hz]; exact n.1) (fun z hz C dx fs q => by rw [hz, h] at q; cases q) (fun z hz xs q => by rw [hz, h] at q; cases q) n.2.1 n.2.2.1 n.2.2.2.1 n.2.2.2.2.1 n.2.2.2.2.2
end
end NS
namespace NS
open PySem PySem.Spec PyProof.Rows L2
abbrev nLaw : List Str := ["_law_script", "_law_k", "_law_source_here", "_law_width", "_law_bench", "_law_steps_here", "_law_sorters", "_law_results", "_law_values_here", "_law_turn", "_law_change_here", "_law_sorter", "_law_one"]
theorem scLaw : FnScope nLaw ["_law_script"] (defScope sLaw) := ⟨rfl, rfl, rfl, by decide +kernel, rfl, by decide +kernel, by decide +kernel⟩
def spLaw (K : PySem.W.Frag) : Sp := fun vs H Q _ => ∃ (c : Addr) (ns : List Int), vs = [.ref c] ∧ SqL K H c (iv ns) ∧ ns.length ≤ 63 ∧ ∀ H', Q (.bl true) H'
/-- what law calls -/
structure LD (P : Program) (w : World) (K : PySem.W.Frag) (mg : Str → Option Value) (base : Heap) (N B Cc : Addr) : Prop where
  bi : Bi mg
  nb : N ≠ B
  cb : Cc ≠ B
  cn : Cc ≠ N
  source : DefOk P w K mg base 1 "_law_source" (spSource K)
  draw : DefOk P w K mg base 1 "_law_draw" spDraw
  values : DefOk P w K mg base 2 "_law_values" spValues
  steps : DefOk P w K mg base 2 "_law_steps" spSteps
  change : DefOk P w K mg base 3 "_law_change" spChange
  perform : DefOk P w K mg base 8 "_law_perform" (spPerform N B)
  newSteps : DefOk P w K mg base 1 "_law_new_steps" spNewSteps
  holds : DefOk P w K mg base 10 "_law_holds" (spHolds N)
  run : DefOk P w K mg base 4 "run_running" (spRun N)
  mkB : MakOk P w K mg base 6 "Bench" B (spBnInit N B)
  mkC : MakOk P w K mg base 2 "CountingSorter" Cc (spCsInit Cc)
  net : MakOk P w K mg base 3 "Network" N (spNtInit N)
  pNet : PrpOk P w K mg base 1 B "network" (spBnNet B)
  runC : MetOk P w K mg base 8 Cc "run" (spCsRun Cc (WC N))
  runsC : PrpOk P w K mg base 1 Cc "runs" (spFld Cc "own_runs")
  undo : MetOk P w K mg base 2 B "undo" (spUndo N B)
section
variable {P : Program} {w : World} {K : PySem.W.Frag} {mg : Str → Option Value} {base : Heap} {N B Cc : Addr}
/-- the choices, and (while q) the bench -/
def Gb (N B : Addr) (q : Prop) (d : Ad) (wd : Int) (st : List Int) (hs : List Addr) (H : Hp) : Prop := Src H d.a ∧ (q → BenchAt B N H d.b d.h wd st hs)
theorem Gb.same {q : Prop} {d : Ad} {wd : Int} {st : List Int} {hs : List Addr} {H H' : Hp} (k : Gb N B q d wd st hs H) (e : Same H H') : Gb N B q d wd st hs H' := ⟨k.1.same e, fun z => (k.2 z).same e⟩
theorem Gb.one {q : Prop} {d : Ad} {wd : Int} {st : List Int} {hs : List Addr} {H H' : Hp} {s dx : Addr} {fs : List (Str × V)} (k : Gb N B q d wd st hs H) (hC : Cc ≠ N) (hB : Cc ≠ B) (h : H s = some (.ins Cc dx fs)) (e : Same1 s H H') : Gb N B q d wd st hs H' := by
  refine ⟨?_, fun z => ?_⟩
  · obtain ⟨x, y, hx, hy⟩ := k.1
    exact ⟨x, y, e _ _ (ne_of hx h (by intro w; cases w)) hx, hy⟩
  · have b := k.2 z
    obtain ⟨db, n, hb, _⟩ := b.ob
    exact b.same1 e (fun dy gs w => by rw [h] at w; cases w; exact hC rfl) (fun xs w => by rw [h] at w; cases w) (fun w => by rw [w, h] at hb; cases hb; exact hB rfl) (ne_of b.li h (by intro w; cases w))
theorem Gb.lst {q : Prop} {d : Ad} {wd : Int} {st : List Int} {hs : List Addr} {H H' : Hp} {D : Addr} {xs : List V} (k : Gb N B q d wd st hs H) (h : H D = some (.lst xs)) (na : d.a ≠ D) (nh : q → d.h ≠ D) (e : Same1 D H H') : Gb N B q d wd st hs H' := by
  refine ⟨k.1.same1 e na, fun z => ?_⟩
  have b := k.2 z
  obtain ⟨db, n, hb, _⟩ := b.ob
  exact b.same1 e (fun dy gs w => by rw [h] at w; cases w) (fun xs w => by rw [h] at w; cases w) (ne_of hb h (by intro w; cases w)) (nh z)
/-- [sorter.run(values) for sorter in sorters] -/
theorem lc_runs {d : Ad} {K0 H1 : Hp} {wd : Int} {v : List Int} {t : Addr} {st : List Int} {ss : List Addr} {s1 : List (List Int)} {rs : List Addr} {s2 : List (List Int)} {r0 : Int} {q : Prop} {hs : List Addr} {D : Addr} {Qd : Hp → Prop} {σ : L2.St} {o0 o1 o2 o3 o4 o5 o6 o7 o9 o10 : Option V}
    (hσ : σ = [o0, o1, o2, o3, o4, o5, o6, o7, some (.ref d.l), o9, o10, none, none])
    (hN : N ≠ B) (hC : Cc ≠ B) (hCN : Cc ≠ N) (k : LwT N Cc K0 d wd v H1 t st ss s1 rs s2 (fun _ => r0)) (g : Gb N B q d wd st hs H1) (hD : H1 D = none) (hlv : (v.length : Int) = wd) (hw : wd ≤ 40) (hss : ss.length ≤ 100)
    (hd : ∀ H', LwT N Cc K0 d wd v H' t st ss s1 rs s2 (fun _ => r0 + 1) → Gb N B q d wd st hs H' → Dp K H' (.ref D) (.list (dl (s1.map fun s => runL s v))) → Qd H') :
    ∃ W : Nat → Nat → Hp → Prop, (∃ m, W 0 m (upd H1 D (.lst []))) ∧ ∀ i m H, W i m H →
      ((Itl K d.S).stop i H ∧ Qd H) ∨ ((Itl K d.S).go i H ∧ ∃ Nx : Hp → Prop, (∀ H', Nx H' → ∃ m', m' < m ∧ W (i + 1) m' H') ∧ ∀ x H', (Itl K d.S).yld i H x H' → gName 11 x (wipe σ [11]) H' fun σ2 H2 => wipe σ2 [11] = wipe σ [11] ∧ tYes σ2 H2 fun b H3 =>
        if b = true then tMetD Cc "run" (spCsRun Cc (WC N)) (tVar 11) (tCons (tVar 8) tNil) σ2 H3 fun y H4 => ∃ acc, H4 D = some (.lst acc) ∧ acc.length < sizeLine ∧ Nx (upd H4 D (.lst (acc ++ [y]))) else Nx H3) := by
  subst hσ
  have nD := k.fresh hD
  have nDa : d.a ≠ D := g.1.ne_none hD
  have nDh : q → d.h ≠ D := fun z => ne_of_none (g.2 z).li hD
  refine lc_list (K := K) (a := d.S) (xs := ss.map V.ref) (fun i H' => LwT N Cc K0 d wd v H' t st ss s1 rs s2 (fun m => if m < i then r0 + 1 else r0) ∧ Gb N B q d wd st hs H' ∧ ∃ ps : List Addr, H' D = some (.lst (ps.map V.ref)) ∧ ps.length = i ∧
      ∀ (j : Nat) (p : Addr), ps[j]? = some p → p ≠ D ∧ ∃ s', s1[j]? = some s' ∧ H' p = some (.lst (iv (runL s' v)))) ⟨?_, ?_, [], upd_same, rfl, fun j p hj => by simp at hj⟩ (fun i H' _ e => SqL.of e.1.sl) ?_ ?_
  · exact (k.same (Same.new hD)).runsEq fun j _ => by rw [if_neg (Nat.not_lt_zero j)]
  · exact g.same (Same.new hD)
  · rintro i y H2 hi ⟨k2, g2, ps, hps, hpl, hpa⟩
    rw [List.getElem?_map] at hi
    obtain ⟨s, hsi, rfl⟩ : ∃ s, ss[i]? = some s ∧ y = V.ref s := by
      cases e : ss[i]? with
      | none => rw [e] at hi; cases hi
      | some s => rw [e] at hi; exact ⟨s, rfl, (Option.some.inj hi).symm⟩
    have hil : i < ss.length := (List.getElem?_eq_some_iff.mp hsi).1
    obtain ⟨s', hs', dx, n, c, x, hsa, hn, hok, hlen⟩ := k2.so i s hsi
    rw [if_neg (Nat.lt_irrefl i)] at hsa
    refine ⟨rfl, tyes ⟨_, rfl, s, dx, _, rfl, hsa, cf_run0 _ _ _ _, _, rfl, s, dx, d.l, _, wd, r0, c, x, s', v, rfl, hsa, ⟨n, cf_n _ _ _ _, hn⟩, cf_ok _ _ _ _, by show 4 < 50; decide, cf_r _ _ _ _, cf_c _ _ _ _, cf_s _ _ _ _, k2.vl, hlv, hok, by omega, by omega, fun H3 p e3 hp0 hp hsr => ?_⟩⟩
    rw [cf_run] at hsr
    have k3 := k2.run hCN hsi e3 hsr ⟨s', hs', hn, hok, hlen⟩
    have g3 := g2.one hCN hC hsa e3
    have nDs : D ≠ s := ne_of hps hsa (by intro w; cases w)
    have npD : p ≠ D := (ne_of_none hps hp0).symm
    have hps3 := e3 _ _ nDs hps
    refine ⟨_, hps3, ?_, ?_, ?_, ps ++ [p], ?_, ?_, fun j z hj => ?_⟩
    · rw [List.length_map, hpl]
      exact Nat.lt_of_lt_of_le (by omega : i < 1000) (by decide)
    · refine (k3.runsEq fun j hj => ?_).atD hN hC nD hps3 Same1.upd
      show (if j = i then r0 + 1 else if j < i then r0 + 1 else r0) = if j < i + 1 then r0 + 1 else r0
      by_cases h1 : j = i
      · rw [if_pos h1, if_pos (by omega)]
      · by_cases h2 : j < i
        · rw [if_neg h1, if_pos h2, if_pos (by omega)]
        · rw [if_neg h1, if_neg h2, if_neg (by omega)]
    · exact g3.lst hps3 nDa nDh Same1.upd
    · rw [upd_same, List.map_append]; rfl
    · rw [List.length_append, List.length_singleton, hpl]
    · rcases getSnoc hj with h | ⟨h1, h2⟩
      · obtain ⟨z0, w, w1, w2⟩ := hpa j z h
        exact ⟨z0, w, w1, (upd_ne z0).trans (e3 _ _ (ne_of w2 hsa (by intro w; cases w)) w2)⟩
      · subst h1 h2
        refine ⟨npD, s', by rw [hpl]; exact hs', (upd_ne npD).trans hp⟩
  · rintro H2 ⟨k2, g2, ps, hps, hpl, hpa⟩
    rw [List.length_map] at k2 hpl
    refine hd H2 (k2.runsEq fun j hj => by rw [if_pos hj]) g2 (.lst (SqL.of hps) (dpAll_l ps _ ?_ fun j p hj => ?_))
    · rw [List.length_map, hpl, k.s1l]
    · obtain ⟨_, s', h1, h2⟩ := hpa j p hj
      exact ⟨_, by rw [List.getElem?_map, h1]; rfl, h2⟩
end
end NS
namespace NS
open PySem PySem.Spec PyProof.Rows L2
section
variable {P : Program} {w : World} {K : PySem.W.Frag} {mg : Str → Option Value} {base : Heap} {N B Cc : Addr}
theorem ok_law {fl : Addr} {fdl : FuncData} (F : Fun K "law" "law" sLaw fl fdl) (T : LD P w K mg base N B Cc) : FnOk P w K mg base CX0 11 fl fdl ["_law_script"] (spLaw K) := by
  have Bu := T.bi
  have hN := T.nb
  have hC := T.cb
  have hCN := T.cn
  refine F.ok scLaw (fun vs H Q E h => ?_) (fun cdv A outer s0 H vs Q E hr h => ?_)
  · obtain ⟨c, ns, rfl, _⟩ := h
    rfl
  · obtain ⟨c, ns, rfl, hS, hn, k⟩ := h
    refine ⟨_, pss_cons (ps_for PassesOwn.never rfl (pi_range1 (by rfl) Bu.range (pa_cons (pe_callB (call_max2 rfl) (by rfl) Bu.max (by decide +kernel) (pa_cons pe_int (pa_cons (pe_callB (call_min2 rfl) (by rfl) Bu.min (by decide +kernel) (pa_cons (pe_callB call_len_seq (by rfl) Bu.len PySem.boot_len (pa_cons (pv 0) pa_nil)) (pa_cons pe_int pa_nil))) pa_nil))) pa_nil)) (pg_name (i := 1) scLaw.nd rfl (.inl rfl))
      (pss_cons (ps_set (i := 2) scLaw.nd rfl (.inl rfl) (pe_d T.source hr (by decide) (by rfl) (pa_cons (pv 0) (pa_cons (pv 1) pa_nil))))
      (pss_cons (ps_set (i := 3) scLaw.nd rfl (.inl rfl) (pe_op op_add pe_int (pe_d T.draw hr (by decide) (by rfl) (pa_cons (pv 2) (pa_cons pe_int pa_nil)))))
      (pss_cons (ps_par (by rfl) scLaw.nd (i := 4) (j := 5) rfl rfl (by decide) rfl rfl (pa_cons (pe_k T.mkB hr (by decide) (by rfl) (pa_cons (pv 3) pa_nil)) (pa_cons (pe_lst pa_nil) pa_nil)) (by rfl))
      (pss_cons (ps_par (by rfl) scLaw.nd (i := 6) (j := 7) rfl rfl (by decide) rfl rfl (pa_cons (pe_lst pa_nil) (pa_cons (pe_lst pa_nil) pa_nil)) (by rfl))
      (pss_cons (ps_set (i := 8) scLaw.nd rfl (.inr rfl) (pe_d T.values hr (by decide) (by rfl) (pa_cons (pv 2) (pa_cons (pv 3) pa_nil))))
      (pss_cons (ps_for PassesOwn.never rfl (pi_range1 (by rfl) Bu.range (pa_cons pe_int pa_nil)) (pg_name (i := 9) scLaw.nd rfl (.inl rfl))
        (pss_cons (ps_set (i := 10) scLaw.nd rfl (.inl rfl) (pe_d T.change hr (by decide) (by rfl) (pa_cons (pv 2) (pa_cons (pv 3) (pa_cons (pv 5) pa_nil)))))
        (pss_cons (ps_expr (pe_d T.perform hr (by decide) (by rfl) (pa_cons (pv 4) (pa_cons (pv 10) pa_nil))))
        (pss_cons (ps_set (i := 5) scLaw.nd rfl (.inl rfl) (pe_d T.newSteps hr (by decide) (by rfl) (pa_cons (pv 3) (pa_cons (pv 5) (pa_cons (pv 10) pa_nil)))))
        (pss_cons (ps_expr (pe_bm PySem.F.plainAttrs_list PySem.F.slot_list_append PySem.F.type_list_append mt_append (pv 6) (pa_cons (pe_k T.mkC hr (by decide) (by rfl) (pa_cons (pe_p T.pNet hr (by decide) (pv 4)) pa_nil)) pa_nil)))
        (pss_one (ps_expr (pe_bm PySem.F.plainAttrs_list PySem.F.slot_list_append PySem.F.type_list_append mt_append (pv 7) (pa_cons (pe_d T.run hr (by decide) (by rfl) (pa_cons (pe_k T.net hr (by decide) (by rfl) (pa_cons (pv 3) (pa_cons (pv 5) pa_nil))) (pa_cons (pv 8) pa_nil))) pa_nil)))))))))
      (pss_cons (ps_if (pt_cmpR (op_neD hr.units) (pe_lc (own := [("_law_sorter", 11)]) (g := gName 11) (tt := tYes) (te := tMetD Cc "run" (spCsRun Cc (WC N)) (tVar 11) (tCons (tVar 8) tNil)) (by rfl) scLaw.nd (pi_list (pv 6)) (blkOk_by (N := nLaw) (sc := defScope sLaw) (by decide +kernel))
          (fun _ _ _ _ _ => pg_name (i := 11) scLaw.nd rfl (.inl rfl)) (fun _ _ _ _ _ => pts_nil) (fun _ _ _ _ _ => pe_m T.runC hr (by decide) (pv 11) (pa_cons (pv 8) pa_nil))) (pv 7) (nomark _)) (pss_one (ps_ret pe_bl)) pss_nil)
      (pss_cons (ps_expr (pe_m T.undo hr (by decide) (pv 4) (pa_cons pe_int pa_nil)))
      (pss_cons (ps_if (pt_cmpR (op_neD hr.units) (pe_lc (own := [("_law_sorter", 11)]) (g := gName 11) (tt := tYes) (te := tMetD Cc "run" (spCsRun Cc (WC N)) (tVar 11) (tCons (tVar 8) tNil)) (by rfl) scLaw.nd (pi_list (pv 6)) (blkOk_by (N := nLaw) (sc := defScope sLaw) (by decide +kernel))
          (fun _ _ _ _ _ => pg_name (i := 11) scLaw.nd rfl (.inl rfl)) (fun _ _ _ _ _ => pts_nil) (fun _ _ _ _ _ => pe_m T.runC hr (by decide) (pv 11) (pa_cons (pv 8) pa_nil))) (pv 7) (nomark _)) (pss_one (ps_ret pe_bl)) pss_nil)
      (pss_cons (ps_if (pt_cmpR (op_neD hr.units) (pe_lc (own := [("_law_one", 12)]) (g := gName 12) (tt := tYes) (by rfl) scLaw.nd (pi_list (pv 6)) (blkOk_by (N := nLaw) (sc := defScope sLaw) (by decide +kernel))
          (fun _ _ _ _ _ => pg_name (i := 12) scLaw.nd rfl (.inl rfl)) (fun _ _ _ _ _ => pts_nil) (fun _ _ _ _ _ => pe_p T.runsC hr (by decide) (pv 12))) (pe_op op_rep (pe_lst (pa_cons pe_int pa_nil)) pe_int) (nomark _)) (pss_one (ps_ret pe_bl)) pss_nil)
      (pss_cons (ps_if (pt_not (pt_val (pe_d T.holds hr (by decide) (by rfl) (pa_cons (pv 2) (pa_cons (pe_k T.net hr (by decide) (by rfl) (pa_cons (pv 3) (pa_cons (pv 5) pa_nil))) pa_nil))))) (pss_one (ps_ret pe_bl)) pss_nil)
      (pss_one (ps_if (pt_not (pt_val (pe_d T.holds hr (by decide) (by rfl) (pa_cons (pv 2) (pa_cons (pe_k T.net hr (by decide) (by rfl) (pa_cons (pv 3) (pa_cons (pe_d T.steps hr (by decide) (by rfl) (pa_cons (pv 2) (pa_cons (pv 3) (pa_cons pe_int pa_nil)))) pa_nil))) pa_nil))))) (pss_one (ps_ret pe_bl)) pss_nil))))))))))))))
      (pss_one (ps_ret pe_bl)), ?_⟩
    refine ⟨_, rfl, c, _, rfl, .inl hS, _, _, rfl, _, _, rfl, _, rfl, ?_⟩
    have hlen : (iv ns).length ≤ 63 := by rw [List.length_map]; exact hn
    refine ⟨?_, ?_, for_range (lo := 0) (n := (if (if (3 : Int) < ((iv ns).length : Nat) then (3 : Int) else ((iv ns).length : Nat)) > 1 then (if (3 : Int) < ((iv ns).length : Nat) then (3 : Int) else ((iv ns).length : Nat)) else 1).toNat)
      (fun i σ H' => ∃ w1 w2 w3 w4 w5 w6 w7 w8 w9 w10, σ = [some (.ref c), w1, w2, w3, w4, w5, w6, w7, w8, w9, w10, none, none] ∧ Same H H') ⟨none, none, none, none, none, none, none, none, none, none, rfl, Same.refl _⟩ ?_ ?_⟩
    · split <;> split <;> omega
    · split <;> split <;> omega
    · rintro i σ H1 hi ⟨w1, w2, w3, w4, w5, w6, w7, w8, w9, w10, rfl, e1⟩
      rw [Int.zero_add]
      have hi3 : i ≤ 10 := by
        have : (if (if (3 : Int) < ((iv ns).length : Nat) then (3 : Int) else ((iv ns).length : Nat)) > 1 then (if (3 : Int) < ((iv ns).length : Nat) then (3 : Int) else ((iv ns).length : Nat)) else 1) ≤ 3 := by split <;> split <;> omega
        omega
      -- the choices and the width
      refine ⟨_, rfl, _, rfl, c, ns, i, rfl, e1.seq hS, hi3, hn, fun H2 a e2 ha0 ha => ?_⟩
      refine ⟨_, rfl, a, 9, rfl, ha, by decide, by decide, fun H3 r e3 ha3 r0 r1 => ⟨_, _, rfl, rfl, ?_⟩⟩
      have h1 : 1 ≤ 1 + r := by omega
      have h2 : 1 + r ≤ 9 := by omega
      have f3 : Same H1 H3 := Same1.fresh e2 ha0 e3
      -- the bench and the lists
      refine ⟨_, rfl, fun b db nb ndb nbb => ⟨b, db, 1 + r, rfl, upd_same, h1, by omega, fun H4 h e4 hh0 hB4 => ⟨rfl, ?_⟩⟩⟩
      have e4' : Same H3 H4 := sameMk nb ndb e4
      have hh3 : H3 h = none := by
        have q1 : Same H3 (upd H3 db (.own b)) := Same.new ndb
        have q2 : Same (upd H3 db (.own b)) (upd (upd H3 db (.own b)) b (.ins B db [])) := Same.new ((upd_ne nbb.symm).trans nb)
        exact (q1.trans q2).free hh0
      have f4 := f3.trans e4'
      have ha4 := ha3.same e4'
      refine ⟨Nat.zero_le _, fun t ht0 => ⟨_, _, rfl, ?_⟩⟩
      have e5 := Same.new (o := .lst []) ht0
      have f5 := f4.trans e5
      refine ⟨Nat.zero_le _, fun S hS0 => ⟨Nat.zero_le _, fun R hR0 => ⟨_, _, rfl, ?_⟩⟩⟩
      have e6 := Same.new (o := .lst []) hS0
      have e7 := Same.new (o := .lst []) hR0
      have f6 := f5.trans e6
      have f7 := f6.trans e7
      have ha5 := ha4.same e5
      have ha6 := ha5.same e6
      have ha7 := ha6.same e7
      have hB7 := ((hB4.same e5).same e6).same e7
      refine ⟨_, rfl, _, rfl, a, 1 + r, rfl, ha7, h1, by omega, fun H8 l v e8 ha8 hl0 hl hlv => ?_⟩
      have f8 : Same H1 H8 := Same1.fresh f7 ha0 e8
      have Dd : AdOk H1 ⟨a, b, h, S, R, l⟩ := ⟨ha0, f3.free nb, f3.free hh3, f5.free hS0, f6.free hR0, ha3.ne_none hh3, ha5.ne_none hS0, ha6.ne_none hR0, ne_of_none (e5 _ _ hB4.li) hS0, ne_of_none (e6 _ _ (e5 _ _ hB4.li)) hR0, ne_of_none upd_same hR0,
        (ha7.ne_none hl0).symm, (ne_of_none hB7.li hl0).symm, (ne_of_none (e7 _ _ upd_same) hl0).symm, (ne_of_none upd_same hl0).symm⟩
      have tOff : Ad.Off ⟨a, b, h, S, R, l⟩ t := ⟨(ha4.ne_none ht0).symm, (ne_of_none hB4.li ht0).symm, ne_of_none upd_same hS0, ne_of_none (e6 _ _ upd_same) hR0⟩
      have kL8 : LwT N Cc H1 ⟨a, b, h, S, R, l⟩ (1 + r) v H8 t [] [] [] [] [] (fun _ => 0) :=
        ⟨f8, e8 _ _ tOff.1 (e7 _ _ (e6 _ _ upd_same)), tOff, hl, e8 _ _ Dd.aS.symm (e7 _ _ upd_same), e8 _ _ Dd.aR.symm upd_same, rfl, rfl, List.Pairwise.nil, (fun s hs => by cases hs), (fun j s hj => by simp at hj), fun j s hj => by simp at hj⟩
      have srcN : ∀ {H'}, Src H' a → (∀ dx fs, H' a ≠ some (.ins N dx fs)) ∧ ∀ xs, H' a ≠ some (.tup xs) := fun q => by
        obtain ⟨x, y, q, _⟩ := q
        exact ⟨(fun dx fs z => by rw [q] at z; cases z), (fun xs z => by rw [q] at z; cases z)⟩
      have nab : b ≠ a := by
        obtain ⟨dx, n, q, _⟩ := hB7.ob
        obtain ⟨x, y, q2, _⟩ := ha7
        exact ne_of q q2 (by intro z; cases z)
      have hB8 := hB7.same1 e8 (srcN ha7).1 (srcN ha7).2 nab Dd.ah.symm
      -- eight changes
      refine ⟨8, rfl, by decide, by decide, for_range (lo := 0) (n := (8 : Int).toNat) (fun j σ H' => ∃ w9 w10 t st ss rs sts hs, σ = [some (.ref c), some (.int (i : Nat)), some (.ref a), some (.int (1 + r)), some (.ref b), some (.ref t), some (.ref S), some (.ref R), some (.ref l), w9, w10, none, none] ∧
        LwT N Cc H1 ⟨a, b, h, S, R, l⟩ (1 + r) v H' t st ss sts rs sts (fun _ => 0) ∧ Src H' a ∧ BenchAt B N H' b h (1 + r) st hs ∧ StepsOk (1 + r) st ∧ st.length ≤ 2 * j ∧ hs.length = j ∧ ss.length = j ∧ rs.length = j)
        ⟨_, _, t, [], [], [], [], [], rfl, kL8, ha8, hB8, StepsOk.nil, Nat.le_refl _, rfl, rfl, rfl⟩ ?_ ?_⟩
      · rintro j σ H9 hj ⟨w9, w10, t, st, ss, rs, sts, hs, rfl, kL9, ha9, hB9, hok, hlen2, hhs, hss, hrs⟩
        have hj8 : j < 8 := hj
        refine ⟨_, rfl, _, rfl, _, rfl, a, t, 1 + r, st, rfl, ha9, kL9.tl, kL9.tn.1, h1, by omega, by omega, fun H10 c2 ch e10 ha10 hc hch => ?_⟩
        have kL10 := kL9.atA Dd hN hC ha9 e10
        have hB10 := hB9.same1 e10 (srcN ha9).1 (srcN ha9).2 nab Dd.ah.symm
        obtain ⟨db10, n10, hb10, _⟩ := hB10.ob
        refine ⟨_, rfl, _, rfl, H9, b, h, c2, 1 + r, st, hs, ch, rfl, hB10, hc, hch, h1, by omega, hok, by omega, by omega, fun H11 t2 z e11 hB11 => ?_⟩
        have kL11 := kL10.at2 Dd hN hC hB10 e11
        have ha11 := ha10.same2 e11 nab.symm Dd.ah
        have hc11 := ChAt.two (H0 := H9) e11 hb10 hB10.li (by rw [hB9.li]; intro z; cases z) hc
        refine ⟨_, rfl, _, rfl, _, rfl, H9, t, c2, 1 + r, st, ch, rfl, kL11.tl, hc11, hch, by omega, fun H12 t' e12 ht0' ht' => ?_⟩
        have tOff' : Ad.Off ⟨a, b, h, S, R, l⟩ t' := ⟨(ha11.ne_none ht0').symm, (ne_of_none hB11.li ht0').symm, (ne_of_none kL11.sl ht0').symm, (ne_of_none kL11.rl ht0').symm⟩
        have kL12 := (kL11.same e12).setT ht' tOff'
        have ha12 := ha11.same e12
        have hB12 := hB11.same e12
        have hok' : StepsOk (1 + r) (ch.new st) := Ch.new_ok hok hch
        have hlen' := Ch.new_len hch
        obtain ⟨db12, n12, hb12, hn12⟩ := hB12.ob
        have nbS : b ≠ S := ne_of hb12 kL12.sl (by intro z; cases z)
        -- a sorter
        refine ⟨_, rfl, .inl ⟨rfl, _, SqL.of kL12.sl⟩, ?_⟩
        refine ⟨_, rfl, b, db12, _, rfl, hb12, b, db12, n12, h, rfl, hb12, fun s ds ns0 nds nss => ⟨s, n12, ds, rfl, upd_same, fun H13 e13 hs13 => ⟨rfl, ?_⟩⟩⟩
        have e13' : Same H12 H13 := sameMk ns0 nds e13
        have kL13 := kL12.same e13'
        have nss : s ∉ ss := fun hm => by
          obtain ⟨m, hm⟩ := List.getElem?_of_mem hm
          obtain ⟨_, _, _, _, _, _, q, _⟩ := kL12.so m s hm
          rw [q] at ns0
          cases ns0
        refine ⟨S, _, _, rfl, rfl, kL13.sl, ?_, ?_⟩
        · rw [List.length_map, hss]
          exact Nat.lt_of_lt_of_le hj8 (by decide)
        have kL14 := kL13.pushS (s' := ch.new st) Dd hN hC nss (kL12.fr.free ns0) ⟨ds, n12, 0, 0, hs13, hn12.same e13', hok', by omega⟩
        have e14 : Same1 S H13 (upd H13 S (.lst (ss.map V.ref ++ [.ref s]))) := Same1.upd
        have lS : (∀ dx fs, H13 S ≠ some (.ins N dx fs)) ∧ ∀ xs, H13 S ≠ some (.tup xs) := by
          have q := kL13.sl
          exact ⟨(fun dx fs z => by rw [q] at z; cases z), (fun xs z => by rw [q] at z; cases z)⟩
        have ha14 := (ha12.same e13').same1 e14 Dd.aS
        have hB14 := (hB12.same e13').same1 e14 lS.1 lS.2 nbS Dd.hS
        -- a result
        refine ⟨_, rfl, .inl ⟨rfl, _, SqL.of kL14.rl⟩, ?_⟩
        refine ⟨_, rfl, _, rfl, ?_⟩
        refine mkNet2 kL14.tl h1 (by omega) hok' (by omega) fun H15 m e15 hm0 hM => ?_
        have kL15 := kL14.same e15
        refine ⟨_, rfl, m, l, 1 + r, ch.new st, v, rfl, hM, kL15.vl, hlv, hok', by omega, fun H16 p e16 hp0 hp => ?_⟩
        have kL16 := kL15.same e16
        have ha15 := ha14.same e15
        have hB15 := hB14.same e15
        have pOff : Ad.Off ⟨a, b, h, S, R, l⟩ p := ⟨(ha15.ne_none hp0).symm, (ne_of_none hB15.li hp0).symm, (ne_of_none kL15.sl hp0).symm, (ne_of_none kL15.rl hp0).symm⟩
        refine ⟨R, _, _, rfl, rfl, kL16.rl, ?_, ?_⟩
        · rw [List.length_map, hrs]
          exact Nat.lt_of_lt_of_le hj8 (by decide)
        have kL17 := kL16.pushR (s' := ch.new st) Dd hN hC pOff hp
        have e17 : Same1 R H16 (upd H16 R (.lst (rs.map V.ref ++ [.ref p]))) := Same1.upd
        have lR : (∀ dx fs, H16 R ≠ some (.ins N dx fs)) ∧ ∀ xs, H16 R ≠ some (.tup xs) := by
          have q := kL16.rl
          exact ⟨(fun dx fs z => by rw [q] at z; cases z), (fun xs z => by rw [q] at z; cases z)⟩
        have nbR : b ≠ R := ne_of hb12 kL12.rl (by intro z; cases z)
        refine ⟨_, _, t', ch.new st, ss ++ [s], rs ++ [p], sts ++ [ch.new st], hs ++ [t2], rfl, kL17, (ha15.same e16).same1 e17 Dd.aR, (hB15.same e16).same1 e17 lR.1 lR.2 nbR Dd.hR, hok', by omega, ?_, ?_, ?_⟩
        · rw [List.length_append, hhs]; rfl
        · rw [List.length_append, hss]; rfl
        · rw [List.length_append, hrs]; rfl
      · rintro σ H9 ⟨w9, w10, t, st, ss, rs, sts, hs, rfl, kL9, ha9, hB9, hok, hlen2, hhs, hss, hrs⟩
        have q8 : (8 : Int).toNat = 8 := rfl
        rw [q8] at hhs hss hrs hlen2
        have dpR : ∀ {H'} {r2 : Nat → Int}, LwT N Cc H1 ⟨a, b, h, S, R, l⟩ (1 + r) v H' t st ss sts rs sts r2 → Dp K H' (.ref R) (.list (dl (sts.map fun s => runL s v))) := fun kk =>
          .lst (SqL.of kk.rl) (dpAll_l rs _ (by rw [List.length_map]; exact kk.s2l) fun m p hm => by
            obtain ⟨_, s', q1, q2⟩ := kk.ro m p hm
            exact ⟨_, by rw [List.getElem?_map, q1]; rfl, q2⟩)
        have eqL : ∀ xs : List (List Int), PyData.eqv (.list (dl xs)) (.list (dl xs)) = true := fun xs => SeqAt.eqv_refl _ (canLay_dl xs)
        refine ⟨_, rfl, S, rfl, ⟨_, SqL.of kL9.sl⟩, fun X1 hX1 => ?_⟩
        refine lc_runs (q := True) rfl hN hC hCN kL9 ⟨ha9, fun _ => hB9⟩ hX1 hlv (by omega) (by omega) fun H10 kL10 hG10 hDp10 => ?_
        refine ⟨_, rfl, _, _, hDp10, dpR kL10, shaped_dl _, shaped_dl _, false, congrArg V.bl (congrArg not (eqL _)), iteF ?_⟩
        obtain ⟨ha10, hB10⟩ := hG10
        have hB10 := hB10 trivial
        obtain ⟨db10, n10, hb10, _⟩ := hB10.ob
        refine ⟨_, rfl, b, db10, _, rfl, hb10, bf_undo _ _, b, h, 1 + r, st, hs, by rw [hhs]; rfl, hB10, by omega, fun H11 p e11 => ?_⟩
        have kL11 := kL10.at2 Dd hN hC hB10 e11
        have ha11 := ha10.same2 e11 nab.symm Dd.ah
        refine ⟨_, rfl, S, rfl, ⟨_, SqL.of kL11.sl⟩, fun X2 hX2 => ?_⟩
        refine lc_runs (q := False) (hs := []) rfl hN hC hCN kL11 ⟨ha11, fun z => z.elim⟩ hX2 hlv (by omega) (by omega) fun H12 kL12 hG12 hDp12 => ?_
        refine ⟨_, rfl, _, _, hDp12, dpR kL12, shaped_dl _, shaped_dl _, false, congrArg V.bl (congrArg not (eqL _)), iteF ?_⟩
        have ha12 := hG12.1
        -- how often each has run
        refine ⟨_, rfl, S, rfl, ⟨_, SqL.of kL12.sl⟩, fun X3 hX3 => ?_⟩
        have nX := kL12.fresh hX3
        refine lc_list (K := K) (a := S) (xs := ss.map V.ref) (fun m H' => LwT N Cc H1 ⟨a, b, h, S, R, l⟩ (1 + r) v H' t st ss sts rs sts (fun _ => 2) ∧ Src H' a ∧ H' X3 = some (.lst (iv (List.replicate m 2)))) ⟨?_, ha12.same (Same.new hX3), upd_same⟩ (fun m H' _ e => SqL.of e.1.sl) ?_ ?_
        · exact (kL12.same (Same.new hX3)).runsEq fun _ _ => rfl
        · rintro m y H13 hm ⟨k13, ha13, hX⟩
          rw [List.getElem?_map] at hm
          obtain ⟨s, hsm, rfl⟩ : ∃ s, ss[m]? = some s ∧ y = V.ref s := by
            cases e : ss[m]? with
            | none => rw [e] at hm; cases hm
            | some s => rw [e] at hm; exact ⟨s, rfl, (Option.some.inj hm).symm⟩
          have hml : m < ss.length := (List.getElem?_eq_some_iff.mp hsm).1
          obtain ⟨s', hs', dx, n, cc, x, hsa, _⟩ := k13.so m s hsm
          refine ⟨rfl, tyes ⟨_, rfl, s, dx, _, rfl, hsa, s, dx, _, _, rfl, hsa, cf_r _ _ _ _, _, hX, ?_, k13.atD hN hC nX hX Same1.upd, ha13.same1 Same1.upd (ha12.ne_none hX3), ?_⟩⟩
          · rw [List.length_map, List.length_replicate]
            exact Nat.lt_of_lt_of_le (by omega : m < 1000) (by decide)
          · rw [upd_same, List.replicate_succ', iv_snoc]
        · rintro H13 ⟨k13, ha13, hX⟩
          rw [List.length_map, hss] at hX
          refine ⟨by show 1 ≤ sizeLine; decide, fun p1 hp1 => ⟨p1, 8, _, rfl, rfl, upd_same, by decide, by decide, by show 1 * 8 ≤ sizeLine; decide, fun p2 hp2 => ?_⟩⟩
          have g1 := Same.new (o := .lst [.int 2]) hp1
          have g2 := Same.new (o := .lst (iv (List.replicate 8 2))) hp2
          refine ⟨_, _, dp_lst (xs := List.replicate 8 2) (g2 _ _ (g1 _ _ hX)), dp_lst (xs := List.replicate 8 2) upd_same, shaped_di _, shaped_di _, false, congrArg V.bl (congrArg not (eqv_di _)), iteF ?_⟩
          have k14 := (k13.same g1).same g2
          have ha14 := (ha13.same g1).same g2
          -- the sorters of the last network
          refine ⟨_, rfl, _, rfl, _, rfl, ?_⟩
          refine mkNet2 k14.tl h1 (by omega) hok (by omega) fun H15 m e15 hm0 hM => ?_
          have k15 := k14.same e15
          have ha15 := ha14.same e15
          refine ⟨a, m, 1 + r, st, rfl, ha15, hM, h1, by omega, hok, by omega, fun H16 e16 ha16 => ⟨true, rfl, iteF ?_⟩⟩
          have k16 := k15.atA Dd hN hC ha15 e16
          -- the sorters of a new network
          refine ⟨_, rfl, _, rfl, _, rfl, _, rfl, a, 1 + r, 12, rfl, ha16, h1, by omega, by decide, by decide, fun H17 p l2 e17 ha17 hp0 hp hok2 hl2 => ?_⟩
          have k17 := k16.atA Dd hN hC ha16 e17
          refine mkNet2 hp h1 (by omega) hok2 (by omega) fun H18 m2 e18 hm02 hM2 => ?_
          have k18 := k17.same e18
          have ha18 := ha17.same e18
          refine ⟨a, m2, 1 + r, l2, rfl, ha18, hM2, h1, by omega, hok2, by omega, fun H19 e19 ha19 => ⟨true, rfl, iteF ?_⟩⟩
          have k19 := k18.atA Dd hN hC ha18 e19
          exact ⟨_, _, _, _, _, _, _, _, _, _, rfl, e1.trans k19.fr⟩
    · rintro σ H1 ⟨w1, w2, w3, w4, w5, w6, w7, w8, w9, w10, rfl, e1⟩
      exact k _
end
end NS
namespace NS
open PySem PySem.Spec PyProof.Rows L2
abbrev PP : Program := PySem.Challenge.rw_nearswap_k81_whole_sorters_and_benches.prog
theorem htop : (PP.main.scope.names.lookup ("super" : Str)).isSome = false := by decide +kernel
/-! ### what the top has left, each from equations that can be looked up -/
section
variable {K : PySem.W.Frag} {mg : Str → Option Value} {h : Heap} {x y m qual : Str} {st : Stmt} {ps : List Str} {C D p g f cc cda fq : Addr} {od an : Option Addr} {sl : Array (Option Value)} {oc kV dc pm cd ct : Value}
abbrev FnE (K : PySem.W.Frag) (f : Addr) (m qual : Str) (st : Stmt) (oc : Value) (od : Option Addr) (kV dc pm : Value) (an : Option Addr) (cd ct : Value) (sl : Array (Option Value)) : Prop :=
  K.lookup f = some ⟨oc, od, .func (PySem.W.fnOf m qual (defArgs st) (defBody st) (defScope st) .none kV dc pm an cd ct), sl⟩
abbrev BdE (m qual : Str) (st : Stmt) (ps : List Str) : Prop := ∀ (kV doc pm : Value) (an : Option Addr) (cdv ct : Value) (us : List Value), us.length = ps.length → bindArgs (PySem.W.fnOf m qual (defArgs st) (defBody st) (defScope st) .none kV doc pm an cdv ct) ⟨us, []⟩ = pure (ps.zip us)
theorem mkDef (X : K.In h) (G : h.Ns mainGlobals mg) (hb : BdE y y st ps) (a : PySem.W.nsIn K mainGlobals x = some (some (.ref f))) (l : K.lookup f = some ⟨oc, od, .func (PySem.W.fnOf y y (defArgs st) (defBody st) (defScope st) .none kV dc pm an cd ct), sl⟩)
    (c : PySem.W.codeIn K cd y = true) (k : PySem.W.keepIn K (.ref f) = true) : DefAt K mg x y st ps := ⟨f, _, fun_mk l c k, PySem.W.mg_of X G a, (fun_mk l c k).binds hb⟩
theorem mkMeth (cl : Cls K C) (hb : BdE m qual st ps) (a : PySem.W.findIn K (.ref C) m = some (some (.ref f))) (i : PySem.W.isFn K (.ref f) = true) (l : K.lookup f = some ⟨oc, od, .func (PySem.W.fnOf m qual (defArgs st) (defBody st) (defScope st) .none kV dc pm an cd ct), sl⟩)
    (c : PySem.W.codeIn K cd qual = true) (k : PySem.W.keepIn K (.ref f) = true) : MethAt K C m qual st ps := ⟨cl, f, _, ⟨a, i, k⟩, fun_mk l c k, (fun_mk l c k).binds hb⟩
theorem mkProp {rest : List Value} (cl : Cls K C) (hb : BdE m qual st ["self"]) (a : PySem.W.findIn K (.ref C) m = some (some (.ref p))) (ge : PySem.W.specialIn K (.ref p) "__get__" = some (some (.builtin "property.__get__"))) (tk : PySem.W.takesIn K (.ref p) = some true)
    (rc : PySem.W.recIn K p "property" = some (.ref g :: rest)) (l : K.lookup g = some ⟨oc, od, .func (PySem.W.fnOf m qual (defArgs st) (defBody st) (defScope st) .none kV dc pm an cd ct), sl⟩)
    (c : PySem.W.codeIn K cd qual = true) (k : PySem.W.keepIn K (.ref g) = true) : PropAt K C m qual st := ⟨cl, p, g, _, ⟨a, ge, tk, rest, rc⟩, fun_mk l c k, (fun_mk l c k).binds hb⟩
theorem mkInit (X : K.In h) (G : h.Ns mainGlobals mg) (hb : BdE "__init__" qual st ps) (n : PySem.W.nsIn K mainGlobals x = some (some (.ref C))) (mk : PySem.W.makesIn K C = true) (a : PySem.W.findIn K (.ref C) "__init__" = some (some (.ref f))) (i : PySem.W.isFn K (.ref f) = true) (kc : PySem.W.keepIn K (.ref C) = true)
    (l : K.lookup f = some ⟨oc, od, .func (PySem.W.fnOf "__init__" qual (defArgs st) (defBody st) (defScope st) .none kV dc pm an cd ct), sl⟩)
    (c : PySem.W.codeIn K cd qual = true) (k : PySem.W.keepIn K (.ref f) = true) : InitAt K mg x C qual st ps := ⟨PySem.W.mg_of X G n, f, _, ⟨mk, a, i, kc⟩, fun_mk l c k, (fun_mk l c k).binds hb⟩
theorem mkVar {pa pv' : Str} (cl : Cls K C) (hb : ∀ (kV doc pm : Value) (an : Option Addr) (cdv ct : Value) (u : Value) (rest : List Value), bindArgs (PySem.W.fnOf m qual (defArgs st) (defBody st) (defScope st) .none kV doc pm an cdv ct) ⟨u :: rest, []⟩ = (newTuple rest >>= fun t => pure [(pa, u), (pv', t)]))
    (cp : PySem.W.copiedNames.contains m = false)
    (a : PySem.W.findIn K (.ref C) m = some (some (.ref f))) (i : PySem.W.isFn K (.ref f) = true) (ge : PySem.W.specialIn K (.ref f) "__get__" = some (some (.builtin "function.__get__"))) (tk : PySem.W.takesIn K (.ref f) = some false) (fi : PySem.W.fnIn K f = true)
    (l : K.lookup f = some ⟨oc, od, .func (PySem.W.fnOf m qual (defArgs st) (defBody st) (defScope st) .none kV dc pm an cd ct), sl⟩)
    (c : PySem.W.codeIn K cd qual = true) (k : PySem.W.keepIn K (.ref f) = true) : VarAt K C m qual st pa pv' := ⟨cl, f, _, ⟨⟨a, i, k⟩, ge, tk, cp, fi⟩, fun_mk l c k, hb _ _ _ _ _ _⟩
theorem mkCm {mc : Value} {rest : List Value} (hb : BdE m qual st ps) (rd : PySem.W.readsIn K C mc = true) (ga : PySem.W.specialIn K (.ref C) "__getattribute__" = some (some (.builtin "type.__getattribute__")))
    (a : PySem.W.findCls K (.ref C) mc m = some (.get (.builtin "classmethod.__get__") (.ref p) .none (.ref C))) (rc : PySem.W.recIn K p "classmethod" = some (.ref g :: rest)) (fi : PySem.W.fnIn K g = true)
    (l : K.lookup g = some ⟨oc, od, .func (PySem.W.fnOf m qual (defArgs st) (defBody st) (defScope st) .none kV dc pm an cd ct), sl⟩)
    (c : PySem.W.codeIn K cd qual = true) (k : PySem.W.keepIn K (.ref g) = true) : CmAt K C m qual st ps := ⟨mc, p, g, _, ⟨rd, ga⟩, ⟨a, ⟨rest, rc⟩, fi⟩, fun_mk l c k, (fun_mk l c k).binds hb⟩
theorem mkFn (hb : BdE m qual st ps) (l : K.lookup f = some ⟨oc, od, .func (PySem.W.fnOf m qual (defArgs st) (defBody st) (defScope st) .none kV dc pm an cd ct), sl⟩)
    (c : PySem.W.codeIn K cd qual = true) (k : PySem.W.keepIn K (.ref f) = true) : FnAt K m qual st ps f := ⟨_, fun_mk l c k, (fun_mk l c k).binds hb⟩
theorem mkCls (a : PySem.W.plainGet K C Str.empty = true) (b : PySem.W.hasDictIn K C = true) (c : PySem.W.plainOver K C = true) (d : PySem.W.findIn K (.ref C) "__setattr__" = some (some (.builtin "object.__setattr__"))) : Cls K C := ⟨a, b, c, d⟩
theorem mkNetCls {mc : Value} {t1 t2 : Tok} (X : K.In h) (G : h.Ns mainGlobals mg) (cl : Cls K C) (n : PySem.W.nsIn K mainGlobals "Network" = some (some (.ref C))) (a : PySem.W.findIn K (.ref C) "own_width" = some none) (b : PySem.W.findIn K (.ref C) "own_steps" = some none)
    (rd : PySem.W.readsIn K C mc = true) (ga : PySem.W.specialIn K (.ref C) "__getattribute__" = some (some (.builtin "type.__getattribute__")))
    (v1 : PySem.W.findCls K (.ref C) mc "MAX_WIDTH" = some (.val (.int 40 t1))) (v2 : PySem.W.findCls K (.ref C) mc "MAX_STEPS" = some (.val (.int 1000 t2))) : NetCls K mg C :=
  ⟨PySem.W.mg_of X G n, cl, a, b, mc, ⟨rd, ga⟩, ⟨_, v1, t1, rfl⟩, ⟨_, v2, t2, rfl⟩⟩
theorem mkSo (cl : Cls K C) (a : PySem.W.findIn K (.ref C) "own_network" = some none) (b : PySem.W.findIn K (.ref C) "own_runs" = some none) (c : PySem.W.findIn K (.ref C) "own_comparisons" = some none) (d : PySem.W.findIn K (.ref C) "own_swaps" = some none) (e : PySem.W.findIn K (.ref C) "own_faults" = some none) : SoCls K C := ⟨cl, a, b, c, d, e⟩
theorem mkBn {t1 t2 t3 : Tok} (X : K.In h) (G : h.Ns mainGlobals mg) (cl : Cls K C) (a : PySem.W.findIn K (.ref C) "own_network" = some none) (b : PySem.W.findIn K (.ref C) "own_history" = some none)
    (c : PySem.W.nsIn K mainGlobals "ADD" = some (some (.str "add" t1))) (d : PySem.W.nsIn K mainGlobals "PLACE" = some (some (.str "place" t2))) (e : PySem.W.nsIn K mainGlobals "DROP" = some (some (.str "drop" t3))) : BnCls K mg C :=
  ⟨cl, a, b, ⟨_, PySem.W.mg_of X G c, t1, rfl⟩, ⟨_, PySem.W.mg_of X G d, t2, rfl⟩, ⟨_, PySem.W.mg_of X G e, t3, rfl⟩⟩
theorem mkUndo {T : Addr} {tk : Tok} {cT : Value} {dT : Option Addr} {nT : Nat} {sT : Array (Option Value)} (cl : Cls K C) (a : PySem.W.findIn K (.ref C) "undo" = some (some (.ref f))) (i : PySem.W.isFn K (.ref f) = true)
    (l : K.lookup f = some ⟨oc, od, .func (PySem.W.fnOf "undo" "Bench.undo" (defArgs sBnUndo) (defBody sBnUndo) (defScope sBnUndo) (.ref T) kV dc pm an cd ct), sl⟩)
    (c : PySem.W.codeIn K cd "Bench.undo" = true) (k : PySem.W.keepIn K (.ref f) = true) (lT : K.lookup T = some ⟨cT, dT, .seq (List.toArray [.int 1 tk]) nT, sT⟩) : UndoAt K C :=
  ⟨cl, f, _, ⟨a, i, k⟩, ⟨⟨oc, od, .ref T, kV, dc, pm, an, cd, ct, sl, rfl, l, c, .inr ⟨(fun z => by cases z), T, _, [.int 1 tk], nT, rfl, lT, rfl, .cons ⟨tk, rfl⟩ .nil⟩, .inl rfl⟩, k⟩⟩
theorem mkSup {ccl : Value} {ccd : Option Addr} {csl : Array (Option Value)} {xcl : Value} {xcd : Option Addr} {vs : Array Value} {xsl : Array (Option Value)} {fi : Str} {tf : Tok}
    (l : K.lookup f = some ⟨oc, od, .func (PySem.W.fnX m qual (defArgs st) (defBody st) (defScope st) [("__class__", cc)] .none kV dc pm an (.ref cda) ct), sl⟩)
    (c : PySem.W.codeIn K (.ref cda) qual = true) (lc : K.lookup cc = some ⟨ccl, ccd, .cell (some (.ref D)), csl⟩) (ic : (PySem.W.clsIn K D).isSome = true)
    (lx : K.lookup cda = some ⟨xcl, xcd, .fields vs, xsl⟩) (hv : vs[2]? = some (.str fi tf)) (hf : ((PP.main.file : Str) == fi) = true) : SupDef PP K m qual st f cc D cda :=
  ⟨⟨oc, od, kV, dc, pm, an, ct, sl, l⟩, c, ⟨ccl, ccd, csl, lc⟩, ic, ⟨xcl, xcd, vs, xsl, fi, tf, lx, hv, hf⟩⟩
theorem mkSuO (a : PySem.W.ks_superIn K C D m = some (some (.ref g))) (b : PySem.W.typeIn K (.ref g) = some (.type "function")) (c : PySem.W.mroIn K C (.ref D) = some true) (d : PySem.W.fnIn K g = true) (e : PySem.W.nsIn K cStatics "thirdparty.any" = some none) : SupOk K C D m g := ⟨a, b, c, d, e⟩
theorem mkBi (X : K.In h) (G : h.Ns mainGlobals mg) (z : ∀ x ∈ (["isinstance", "int", "bool", "list", "tuple", "len", "enumerate", "range", "super", "sorted", "set", "sum", "max", "min", "abs"] : List Str), PySem.W.nsIn K mainGlobals x = some none) : Bi mg := by
  have k : ∀ x ∈ (["isinstance", "int", "bool", "list", "tuple", "len", "enumerate", "range", "super", "sorted", "set", "sum", "max", "min", "abs"] : List Str), mg x = none := fun x hx => PySem.W.mg_none_of X G (z x hx)
  exact ⟨k _ (by simp), k _ (by simp), k _ (by simp), k _ (by simp), k _ (by simp), k _ (by simp), k _ (by simp), k _ (by simp), k _ (by simp), k _ (by simp), k _ (by simp), k _ (by simp), k _ (by simp), k _ (by simp), k _ (by simp)⟩
end
end NS
namespace NS
open PySem PySem.Spec PyProof.Rows L2
theorem bindFsInit (cc cda : Addr) (kV doc pm ct : Value) (an : Option Addr) (a b : Value) : bindArgs (PySem.W.fnX "__init__" "FaultySorter.__init__" (defArgs sFsInit) (defBody sFsInit) (defScope sFsInit) [("__class__", cc)] .none kV doc pm an (.ref cda) ct) ⟨[a, b], []⟩ = (newTuple [] >>= fun t => pure [(("self" : Str), a), (("network" : Str), b), (("faults" : Str), t)]) := rfl
theorem all_fin {w : World} {K : PySem.W.Frag} {h : Heap} {mg : Str → Option Value} {fa N B So Cc Cf fI fR gI gR hI hR cc1 cc2 cc3 cc4 cd1 cd2 cd3 cd4 fl : Addr} {ocl kVl dcl pml cdl ctl : Value} {odl anl : Option Addr} {sll : Array (Option Value)} (KX : K.In h) (G : h.Ns mainGlobals mg) (hfa : mg "law" = some (.ref fa))
    (z0 : PySem.W.nsIn K mainGlobals "isinstance" = some none)
    (z1 : PySem.W.nsIn K mainGlobals "int" = some none)
    (z2 : PySem.W.nsIn K mainGlobals "bool" = some none)
    (z3 : PySem.W.nsIn K mainGlobals "list" = some none)
    (z4 : PySem.W.nsIn K mainGlobals "tuple" = some none)
    (z5 : PySem.W.nsIn K mainGlobals "len" = some none)
    (z6 : PySem.W.nsIn K mainGlobals "enumerate" = some none)
    (z7 : PySem.W.nsIn K mainGlobals "range" = some none)
    (z8 : PySem.W.nsIn K mainGlobals "super" = some none)
    (z9 : PySem.W.nsIn K mainGlobals "sorted" = some none)
    (z10 : PySem.W.nsIn K mainGlobals "set" = some none)
    (z11 : PySem.W.nsIn K mainGlobals "sum" = some none)
    (z12 : PySem.W.nsIn K mainGlobals "max" = some none)
    (z13 : PySem.W.nsIn K mainGlobals "min" = some none)
    (z14 : PySem.W.nsIn K mainGlobals "abs" = some none)
    (aN : PySem.W.nsIn K mainGlobals "Network" = some (some (.ref N)))
    (aB : PySem.W.nsIn K mainGlobals "Bench" = some (some (.ref B)))
    (aS : PySem.W.nsIn K mainGlobals "Sorter" = some (some (.ref So)))
    (aC : PySem.W.nsIn K mainGlobals "CountingSorter" = some (some (.ref Cc)))
    (aF : PySem.W.nsIn K mainGlobals "FaultySorter" = some (some (.ref Cf)))
    (hNB : N ≠ B)
    (hCB : Cc ≠ B)
    (hCN : Cc ≠ N)
    (hFN : Cf ≠ N)
    (hBN : B ≠ N)
    (hCF : Cc ≠ Cf)
    (clN : Cls K N)
    (clB : Cls K B)
    (clC : Cls K Cc)
    (clF : Cls K Cf)
    (TN0 : (∀ (_ : Cls K N) (_ : K.In h) (_ : h.Ns mainGlobals mg), NetCls K mg N))
    (TC0 : (Cls K Cc → SoCls K Cc))
    (TF0 : (Cls K Cf → SoCls K Cf))
    (TB0 : (∀ (_ : Cls K B) (_ : K.In h) (_ : h.Ns mainGlobals mg), BnCls K mg B))
    (D1 : DefAt K mg "is_integer" "is_integer" sIsInt ["value", "low", "high"])
    (D2 : DefAt K mg "is_any_integer" "is_any_integer" sIsAny ["value"])
    (D3 : DefAt K mg "check_integers" "check_integers" sCkInts ["values"])
    (D4 : DefAt K mg "check_values" "check_values" sCkVals ["width", "values"])
    (D5 : DefAt K mg "step_on" "step_on" sStepOn ["values", "step"])
    (D6 : DefAt K mg "result_of" "result_of" sResultOf ["steps", "values"])
    (D7 : DefAt K mg "run_running" "run" sRun ["network", "values"])
    (D8 : DefAt K mg "exchanges" "exchanges" sExch ["network", "values"])
    (D9 : DefAt K mg "check_width" "check_width" sCkWidth ["width"])
    (D10 : DefAt K mg "check_steps" "check_steps" sCkSteps ["width", "steps"])
    (D11 : DefAt K mg "check_count" "check_count" sCkCount ["count"])
    (D12 : DefAt K mg "check_widths" "check_widths" sCkWidths ["first", "second"])
    (D13 : DefAt K mg "descending" "descending" sDesc ["width"])
    (D14 : DefAt K mg "profile" "profile" sProfile ["network"])
    (D15 : DefAt K mg "at_most" "at_most" sAtMost ["numbers", "bound"])
    (D16 : DefAt K mg "count_small" "count_small" sCountSmall ["numbers", "bound", "place"])
    (D17 : DefAt K mg "is_gap" "is_gap" sIsGap ["one", "two", "bound", "place"])
    (D18 : DefAt K mg "first_gap" "first_gap" sFirstGap ["one", "two"])
    (D19 : DefAt K mg "dominates" "dominates" sDominates ["first", "second"])
    (D20 : DefAt K mg "_law_source" "_law_source" sSource ["_law_script", "_law_k"])
    (D21 : DefAt K mg "_law_draw" "_law_draw" sDraw ["_law_source_here", "_law_many"])
    (D22 : DefAt K mg "_law_steps" "_law_steps" sSteps ["_law_source_here", "_law_width", "_law_many"])
    (D23 : DefAt K mg "_law_values" "_law_values" sValues ["_law_source_here", "_law_width"])
    (D24 : DefAt K mg "_law_new_steps" "_law_new_steps" sNewSteps ["_law_width", "_law_steps_here", "_law_change_here"])
    (D25 : DefAt K mg "_law_change" "_law_change" sChange ["_law_source_here", "_law_width", "_law_steps_here"])
    (D26 : DefAt K mg "_law_perform" "_law_perform" sPerform ["_law_bench", "_law_change_here"])
    (D27 : DefAt K mg "_law_holds" "_law_holds" sHolds ["_law_source_here", "_law_network"])
    (I1 : InitAt K mg "Network" N "Network.__init__" sNtInit ["self", "width", "steps"])
    (I2 : InitAt K mg "Bench" B "Bench.__init__" sBnInit ["self", "width"])
    (M1 : (Cls K N → MethAt K N "__len__" "Network.__len__" sNtLen ["self"]))
    (M2 : (Cls K Cc → MethAt K Cc "working" "Sorter.working" sSrWorking ["self"]))
    (M3 : (Cls K Cf → MethAt K Cf "working" "FaultySorter.working" sFsWorking ["self"]))
    (M4 : (Cls K Cf → MethAt K Cf "checked_faults" "FaultySorter.checked_faults" sFsChecked ["self", "indices"]))
    (M5 : (Cls K B → MethAt K B "keep" "Bench.keep" sBnKeep ["self", "word", "steps"]))
    (M6 : (Cls K B → MethAt K B "check_step" "Bench.check_step" sBnCkStep ["self", "step", "index"]))
    (M7 : (Cls K B → MethAt K B "add_all" "Bench.add_all" sBnAddAll ["self", "steps"]))
    (M8 : (Cls K B → MethAt K B "place" "Bench.place" sBnPlace ["self", "index", "step"]))
    (M9 : (Cls K B → MethAt K B "drop" "Bench.drop" sBnDrop ["self", "index"]))
    (P1 : (Cls K N → PropAt K N "width" "Network.width" sNtWidth))
    (P2 : (Cls K N → PropAt K N "steps" "Network.steps" sNtSteps))
    (P3 : (Cls K Cc → PropAt K Cc "runs" "Sorter.runs" sSrRuns))
    (P4 : (Cls K Cf → PropAt K Cf "runs" "Sorter.runs" sSrRuns))
    (P5 : (Cls K Cc → PropAt K Cc "comparisons" "CountingSorter.comparisons" sCsComp))
    (P6 : (Cls K Cf → PropAt K Cf "comparisons" "CountingSorter.comparisons" sCsComp))
    (P7 : (Cls K Cc → PropAt K Cc "swaps" "CountingSorter.swaps" sCsSwaps))
    (P8 : (Cls K Cf → PropAt K Cf "swaps" "CountingSorter.swaps" sCsSwaps))
    (P9 : (Cls K Cf → PropAt K Cf "faults" "FaultySorter.faults" sFsFaults))
    (P10 : (Cls K B → PropAt K B "network" "Bench.network" sBnNet))
    (V1 : (Cls K N → VarAt K N "without" "Network.without" sNtWithout "self" "indices"))
    (V2 : (Cls K Cf → VarAt K Cf "fail" "FaultySorter.fail" sFsFail "self" "faults"))
    (V3 : (Cls K B → VarAt K B "add" "Bench.add" sBnAdd "self" "steps"))
    (cm : CmAt K N "empty" "Network.empty" sNtEmpty ["cls", "width"])
    (un : (Cls K B → UndoAt K B))
    (mI : PySem.W.findIn K (.ref So) "__init__" = some (some (.ref fI)))
    (mR : PySem.W.findIn K (.ref So) "run" = some (some (.ref fR)))
    (F1 : FnAt K "__init__" "Sorter.__init__" sSrInit ["self", "network"] fI)
    (F2 : FnAt K "run" "Sorter.run" sSrRun ["self", "values"] fR)
    (mCI : PySem.W.findIn K (.ref Cc) "__init__" = some (some (.ref gI)))
    (mCIi : PySem.W.isFn K (.ref gI) = true)
    (mCIk : PySem.W.keepIn K (.ref gI) = true)
    (mCR : PySem.W.findIn K (.ref Cc) "run" = some (some (.ref gR)))
    (mCRi : PySem.W.isFn K (.ref gR) = true)
    (mCRk : PySem.W.keepIn K (.ref gR) = true)
    (mFI : PySem.W.findIn K (.ref Cf) "__init__" = some (some (.ref hI)))
    (mFIi : PySem.W.isFn K (.ref hI) = true)
    (mFIk : PySem.W.keepIn K (.ref hI) = true)
    (mFR : PySem.W.findIn K (.ref Cf) "run" = some (some (.ref hR)))
    (mFRi : PySem.W.isFn K (.ref hR) = true)
    (mFRk : PySem.W.keepIn K (.ref hR) = true)
    (mkCc : PySem.W.makesIn K Cc = true)
    (mkCck : PySem.W.keepIn K (.ref Cc) = true)
    (mkCf : PySem.W.makesIn K Cf = true)
    (mkCfk : PySem.W.keepIn K (.ref Cf) = true)
    (S1 : SupDef PP K "__init__" "CountingSorter.__init__" sCsInit gI cc1 Cc cd1)
    (S2 : SupDef PP K "run" "CountingSorter.run" sCsRun gR cc2 Cc cd2)
    (S3 : SupDef PP K "__init__" "FaultySorter.__init__" sFsInit hI cc3 Cf cd3)
    (S4 : SupDef PP K "run" "FaultySorter.run" sFsRun hR cc4 Cf cd4)
    (U1 : SupOk K Cc Cc "__init__" fI)
    (U2 : SupOk K Cf Cc "__init__" fI)
    (U3 : SupOk K Cc Cc "run" fR)
    (U4 : SupOk K Cf Cc "run" fR)
    (U5 : SupOk K Cf Cf "__init__" gI)
    (U6 : SupOk K Cf Cf "run" gR)
    (aL : PySem.W.nsIn K mainGlobals "law" = some (some (.ref fl)))
    (lL : K.lookup fl = some ⟨ocl, odl, .func (PySem.W.fnOf "law" "law" (defArgs sLaw) (defBody sLaw) (defScope sLaw) .none kVl dcl pml anl cdl ctl), sll⟩)
    (cL : PySem.W.codeIn K cdl "law" = true)
    (kL : PySem.W.keepIn K (.ref fl) = true)
    : ∃ fd : FuncData, (∀ (s : Shared) (v : Value), BindsTo s fd ⟨[v], []⟩ [("_law_script", v)]) ∧ ∀ base : Heap, K.In base → base.Ns mainGlobals mg → FnOk PP w K mg base CX0 11 fa fd ["_law_script"] (spLaw K) := by
  have e := hfa.symm.trans (PySem.W.mg_of KX G aL)
  cases e
  have bi : Bi mg := ⟨PySem.W.mg_none_of KX G z0, PySem.W.mg_none_of KX G z1, PySem.W.mg_none_of KX G z2, PySem.W.mg_none_of KX G z3, PySem.W.mg_none_of KX G z4, PySem.W.mg_none_of KX G z5, PySem.W.mg_none_of KX G z6, PySem.W.mg_none_of KX G z7, PySem.W.mg_none_of KX G z8, PySem.W.mg_none_of KX G z9, PySem.W.mg_none_of KX G z10, PySem.W.mg_none_of KX G z11, PySem.W.mg_none_of KX G z12, PySem.W.mg_none_of KX G z13, PySem.W.mg_none_of KX G z14⟩
  have TN := TN0 clN KX G
  have TC := TC0 clC
  have TF := TF0 clF
  have TB := TB0 clB KX G
  have FL := fun_mk (st := sLaw) lL cL kL
  refine ⟨PySem.W.fnOf "law" "law" (defArgs sLaw) (defBody sLaw) (defScope sLaw) .none kVl dcl pml anl cdl ctl, fun s v => .of_eq rfl, fun base _ _ => ?_⟩
  have dInt := ok_isInt (P := PP) (w := w) (base := base) D1 bi
  have dAny := ok_isAny (P := PP) (w := w) (base := base) D2 bi
  have dInts := ok_ckInts D3 bi dAny
  have dVals := ok_ckVals D4 bi dInts
  have dStep := ok_stepOn (P := PP) (w := w) (base := base) D5
  have dRes := ok_resultOf D6 bi dStep
  have pW := ok_ntWidth (P := PP) (w := w) (base := base) (P1 clN) TN
  have pS := ok_ntSteps (P := PP) (w := w) (base := base) (P2 clN) TN
  have mL := ok_ntLen (P := PP) (w := w) (base := base) (M1 clN) bi TN
  have dRun := ok_run D7 dVals dRes pW pS
  have dExch := ok_exch D8 bi dVals dStep pW pS
  have dCkW := ok_ckWidth D9 TN dInt
  have dCkS := ok_ckSteps D10 bi TN dInt
  have dCnt := ok_ckCount (P := PP) (w := w) (base := base) D11 TN
  have dCkWs := ok_ckWidths D12 pW
  have mN := ok_ntInit I1 bi TN dCkW dCkS
  have cE := ok_ntEmpty cm mN
  have vW := ok_ntWithout (V1 clN) bi TN dInt mN
  have dDesc := ok_desc (P := PP) (w := w) (base := base) D13 bi
  have dProf := ok_profile D14 dRes dDesc pW pS
  have dAt := ok_atMost (P := PP) (w := w) (base := base) D15
  have dCS := ok_countSmall D16 bi dAt
  have dGap := ok_isGap D17 dCS
  have dFG := ok_firstGap D18 bi dGap
  have dDom := ok_dominates D19 dCkWs dProf dFG
  -- sorters
  have iC := ok_srInit (P := PP) (w := w) (mg := mg) (base := base) F1 TC
  have iF := ok_srInit (P := PP) (w := w) (mg := mg) (base := base) F1 TF
  have wC := (ok_srWorking (P := PP) (w := w) (mg := mg) (base := base) (N := N) (M2 clC) TC).mono (show 1 ≤ 6 by decide)
  have wF := ok_fsWorking (M3 clF) TF vW
  have rC := ok_srRun F2 TC (wk_c hCN) wC dRun
  have rF := ok_srRun F2 TF (wk_f hFN) wF dRun
  have ciC := ok_csInit S1 U1 iC TC bi htop
  have ciF := ok_csInit S1 U2 iF TF bi htop
  have crC := ok_csRun S2 U3 rC TC bi (wk_c hCN) wC mL dExch htop
  have crF := ok_csRun S2 U4 rF TF bi (wk_f hFN) wF mL dExch htop
  have frF := ok_fsRun S4 U6 crF bi htop
  have mCh := ok_fsChecked (M4 clF) TF bi dInt mL
  have fiF := ok_fsInit S3 U5 ciF TF bi hFN (bindFsInit cc3 cd3) mCh htop
  have vF := ok_fsFail (V2 clF) TF mCh
  have mkC : MakOk PP w K mg base 2 "CountingSorter" Cc (spCsInit Cc) := ⟨PySem.W.mg_of KX G aC, gI, ⟨mkCc, mCI, mCIi, mkCck⟩, ciC⟩
  have mkF : MakOk PP w K mg base 4 "FaultySorter" Cf (spFsInit N Cf) := ⟨PySem.W.mg_of KX G aF, hI, ⟨mkCf, mFI, mFIi, mkCfk⟩, fiF⟩
  have runC : MetOk PP w K mg base 8 Cc "run" (spCsRun Cc (WC N)) := ⟨clC, gR, ⟨mCR, mCRi, mCRk⟩, crC⟩
  have runF : MetOk PP w K mg base 9 Cf "run" (spCsRun Cf (WF N)) := ⟨clF, hR, ⟨mFR, mFRi, mFRk⟩, frF⟩
  have prC := ok_srRuns (P := PP) (w := w) (mg := mg) (base := base) (P3 clC) TC
  have prF := ok_srRuns (P := PP) (w := w) (mg := mg) (base := base) (P4 clF) TF
  have pcC := ok_csComp (P := PP) (w := w) (mg := mg) (base := base) (P5 clC) TC
  have pcF := ok_csComp (P := PP) (w := w) (mg := mg) (base := base) (P6 clF) TF
  have psC := ok_csSwaps (P := PP) (w := w) (mg := mg) (base := base) (P7 clC) TC
  have psF := ok_csSwaps (P := PP) (w := w) (mg := mg) (base := base) (P8 clF) TF
  have pfF := ok_fsFaults (P := PP) (w := w) (mg := mg) (base := base) (P9 clF) TF
  -- benches
  have mkB := ok_bnInit I2 TB TN hBN cE
  have pNet := ok_bnNet (P := PP) (w := w) (base := base) (P10 clB) TB
  have bK := ok_bnKeep (M5 clB) TB bi hBN mN pW
  have bC := ok_bnCkStep (M6 clB) TB dInt pW
  have bAA := ok_bnAddAll (M7 clB) TB bi mL pS dCnt bC bK
  have bA := ok_bnAdd (V3 clB) bAA
  have bP := ok_bnPlace (M8 clB) TB bi pS dInt dCnt bC bK
  have bD := ok_bnDrop (M9 clB) TB bi pS dInt bK
  have bU := ok_bnUndo (N := N) (un clB) TB bi dAny
  -- the law
  have lSrc := ok_source (P := PP) (w := w) (base := base) D20 bi
  have lDraw := ok_draw (P := PP) (w := w) (base := base) D21
  have lSteps := ok_steps D22 bi lDraw
  have lVals := ok_values D23 bi lDraw
  have lNew := ok_newSteps (P := PP) (w := w) (base := base) D24 bi
  have lCh := ok_change D25 bi lDraw lSteps
  have lPf := ok_perform D26 bi bA bP bD
  have hd : HD PP w K mg base N Cc Cf := ⟨bi, hCN, hFN, hCF, lDraw, lVals, dRun, dExch, dDom, mL, pW, pS, mN, mkC, mkF, vF, runC, runF, pcC, pcF, psC, psF, prC, prF, pfF⟩
  have lHo := ok_holds D27 hd
  exact ok_law FL ⟨bi, hNB, hCB, hCN, lSrc, lDraw, lVals, lSteps, lCh, lPf, lNew, lHo, dRun, mkB, mkC, mN, pNet, runC, prC, bU⟩
theorem walk {l : PySem.W.OpenLaw} {q : Program} {loose : List Str} {XP : (Str → Option Value) → Heap → Prop} {YP : World → Heap → Prop} {d : DefRec} {K : Params → PySem.W.Frag} (hn : l.most = some 63) (hdf : d.params.defaults = [])
    (hY : ∀ (w : World) (h : Heap), YP w h → (K w.params).In h)
    (F : ∀ (w : World) (mg : Str → Option Value) (fa : Addr) (h : Heap), (K w.params).In h → h.Ns mainGlobals mg → mg d.name = some (.ref fa) →
      ∃ fd : FuncData, (∀ (s : Shared) (u : Value), BindsTo s fd ⟨[u], []⟩ [("_law_script", u)]) ∧ ∀ base : Heap, (K w.params).In base → base.Ns mainGlobals mg → FnOk l.prog w (K w.params) mg base CX0 11 fa fd ["_law_script"] (spLaw (K w.params))) :
    PySem.W.WalkO q loose XP YP l.row.toRowW d [] (fun f vs => PySem.call f vs) :=
  L2.walk_of (n := 63) (k := 11) (x := "_law_script") (CX := fun _ => CX0) (sp := fun w => spLaw (K w.params)) hn (by decide) hdf ⟨rfl, by decide, by decide⟩ hY F (fun _ _ a ns hl _ hS => ⟨a, ns, rfl, hS, hl, fun _ => rfl⟩) fun _ _ _ _ _ z => z
end NS
open PySem PySem.W PyProof.Rows
set_option maxHeartbeats 0
theorem PySem.Challenge.cw_nearswap_k81_whole_sorters_and_benches_holds : PySem.Challenge.rw_nearswap_k81_whole_sorters_and_benches.Holds := by
  w_on; o_law; k_head; (case hw => w_witness2)
  k_fill
  refine NS.walk (l := PySem.Challenge.rw_nearswap_k81_whole_sorters_and_benches) rfl rfl (fun w h Y => PySem.W.kIn_of Y) ?F
  case F =>
    intro w mg fa h KX G hmg
    refine' NS.all_fin KX G hmg ?z0 ?z1 ?z2 ?z3 ?z4 ?z5 ?z6 ?z7 ?z8 ?z9 ?z10 ?z11 ?z12 ?z13 ?z14 ?aN ?aB ?aS ?aC ?aF ?hNB ?hCB ?hCN ?hFN ?hBN ?hCF ?clN ?clB ?clC ?clF ?TN0 ?TC0 ?TF0 ?TB0 ?D1 ?D2 ?D3 ?D4 ?D5 ?D6 ?D7 ?D8 ?D9 ?D10 ?D11 ?D12 ?D13 ?D14 ?D15 ?D16 ?D17 ?D18 ?D19 ?D20 ?D21 ?D22 ?D23 ?D24 ?D25 ?D26 ?D27 ?I1 ?I2 ?M1 ?M2 ?M3 ?M4 ?M5 ?M6 ?M7 ?M8 ?M9 ?P1 ?P2 ?P3 ?P4 ?P5 ?P6 ?P7 ?P8 ?P9 ?P10 ?V1 ?V2 ?V3 ?cm ?un ?mI ?mR ?F1 ?F2 ?mCI ?mCIi ?mCIk ?mCR ?mCRi ?mCRk ?mFI ?mFIi ?mFIk ?mFR ?mFRi ?mFRk ?mkCc ?mkCck ?mkCf ?mkCfk ?S1 ?S2 ?S3 ?S4 ?U1 ?U2 ?U3 ?U4 ?U5 ?U6 ?aL ?lL ?cL ?kL
    (case z0 => k_is)
    (case z1 => k_is)
    (case z2 => k_is)
    (case z3 => k_is)
    (case z4 => k_is)
    (case z5 => k_is)
    (case z6 => k_is)
    (case z7 => k_is)
    (case z8 => k_is)
    (case z9 => k_is)
    (case z10 => k_is)
    (case z11 => k_is)
    (case z12 => k_is)
    (case z13 => k_is)
    (case z14 => k_is)
    (case aN => k_is)
    (case aB => k_is)
    (case aS => k_is)
    (case aC => k_is)
    (case aF => k_is)
    (case hNB => decide)
    (case hCB => decide)
    (case hCN => decide)
    (case hFN => decide)
    (case hBN => decide)
    (case hCF => decide)
    (case clN => (refine' NS.mkCls ?q1 ?q2 ?q3 ?q4; (case q1 => k_is); (case q2 => k_is); (case q3 => k_is); (case q4 => k_is)))
    (case clB => (refine' NS.mkCls ?q1 ?q2 ?q3 ?q4; (case q1 => k_is); (case q2 => k_is); (case q3 => k_is); (case q4 => k_is)))
    (case clC => (refine' NS.mkCls ?q1 ?q2 ?q3 ?q4; (case q1 => k_is); (case q2 => k_is); (case q3 => k_is); (case q4 => k_is)))
    (case clF => (refine' NS.mkCls ?q1 ?q2 ?q3 ?q4; (case q1 => k_is); (case q2 => k_is); (case q3 => k_is); (case q4 => k_is)))
    (case TN0 => (intro cl X G; refine' NS.mkNetCls (mc := .type "type") X G cl ?q1 ?q2 ?q3 ?q4 ?q5 ?q6 ?q7; (case q1 => k_is); (case q2 => k_is); (case q3 => k_is); (case q4 => k_is); (case q5 => k_is); (case q6 => k_is); (case q7 => k_is)))
    (case TC0 => (intro cl; refine' NS.mkSo cl ?q1 ?q2 ?q3 ?q4 ?q5; (case q1 => k_is); (case q2 => k_is); (case q3 => k_is); (case q4 => k_is); (case q5 => k_is)))
    (case TF0 => (intro cl; refine' NS.mkSo cl ?q1 ?q2 ?q3 ?q4 ?q5; (case q1 => k_is); (case q2 => k_is); (case q3 => k_is); (case q4 => k_is); (case q5 => k_is)))
    (case TB0 => (intro cl X G; refine' NS.mkBn X G cl ?q1 ?q2 ?q3 ?q4 ?q5; (case q1 => k_is); (case q2 => k_is); (case q3 => k_is); (case q4 => k_is); (case q5 => k_is)))
    (case D1 => (refine' NS.mkDef KX G (fun _ _ _ _ _ _ us hl => match us, hl with | [_, _, _], _ => rfl) ?q1 ?q2 ?q3 ?q4; (case q1 => k_is); (case q2 => k_is); (case q3 => k_is); (case q4 => k_is)))
    (case D2 => (refine' NS.mkDef KX G (fun _ _ _ _ _ _ us hl => match us, hl with | [_], _ => rfl) ?q1 ?q2 ?q3 ?q4; (case q1 => k_is); (case q2 => k_is); (case q3 => k_is); (case q4 => k_is)))
    (case D3 => (refine' NS.mkDef KX G (fun _ _ _ _ _ _ us hl => match us, hl with | [_], _ => rfl) ?q1 ?q2 ?q3 ?q4; (case q1 => k_is); (case q2 => k_is); (case q3 => k_is); (case q4 => k_is)))
    (case D4 => (refine' NS.mkDef KX G (fun _ _ _ _ _ _ us hl => match us, hl with | [_, _], _ => rfl) ?q1 ?q2 ?q3 ?q4; (case q1 => k_is); (case q2 => k_is); (case q3 => k_is); (case q4 => k_is)))
    (case D5 => (refine' NS.mkDef KX G (fun _ _ _ _ _ _ us hl => match us, hl with | [_, _], _ => rfl) ?q1 ?q2 ?q3 ?q4; (case q1 => k_is); (case q2 => k_is); (case q3 => k_is); (case q4 => k_is)))
    (case D6 => (refine' NS.mkDef KX G (fun _ _ _ _ _ _ us hl => match us, hl with | [_, _], _ => rfl) ?q1 ?q2 ?q3 ?q4; (case q1 => k_is); (case q2 => k_is); (case q3 => k_is); (case q4 => k_is)))
    (case D7 => (refine' NS.mkDef KX G (fun _ _ _ _ _ _ us hl => match us, hl with | [_, _], _ => rfl) ?q1 ?q2 ?q3 ?q4; (case q1 => k_is); (case q2 => k_is); (case q3 => k_is); (case q4 => k_is)))
    (case D8 => (refine' NS.mkDef KX G (fun _ _ _ _ _ _ us hl => match us, hl with | [_, _], _ => rfl) ?q1 ?q2 ?q3 ?q4; (case q1 => k_is); (case q2 => k_is); (case q3 => k_is); (case q4 => k_is)))
    (case D9 => (refine' NS.mkDef KX G (fun _ _ _ _ _ _ us hl => match us, hl with | [_], _ => rfl) ?q1 ?q2 ?q3 ?q4; (case q1 => k_is); (case q2 => k_is); (case q3 => k_is); (case q4 => k_is)))
    (case D10 => (refine' NS.mkDef KX G (fun _ _ _ _ _ _ us hl => match us, hl with | [_, _], _ => rfl) ?q1 ?q2 ?q3 ?q4; (case q1 => k_is); (case q2 => k_is); (case q3 => k_is); (case q4 => k_is)))
    (case D11 => (refine' NS.mkDef KX G (fun _ _ _ _ _ _ us hl => match us, hl with | [_], _ => rfl) ?q1 ?q2 ?q3 ?q4; (case q1 => k_is); (case q2 => k_is); (case q3 => k_is); (case q4 => k_is)))
    (case D12 => (refine' NS.mkDef KX G (fun _ _ _ _ _ _ us hl => match us, hl with | [_, _], _ => rfl) ?q1 ?q2 ?q3 ?q4; (case q1 => k_is); (case q2 => k_is); (case q3 => k_is); (case q4 => k_is)))
    (case D13 => (refine' NS.mkDef KX G (fun _ _ _ _ _ _ us hl => match us, hl with | [_], _ => rfl) ?q1 ?q2 ?q3 ?q4; (case q1 => k_is); (case q2 => k_is); (case q3 => k_is); (case q4 => k_is)))
    (case D14 => (refine' NS.mkDef KX G (fun _ _ _ _ _ _ us hl => match us, hl with | [_], _ => rfl) ?q1 ?q2 ?q3 ?q4; (case q1 => k_is); (case q2 => k_is); (case q3 => k_is); (case q4 => k_is)))
    (case D15 => (refine' NS.mkDef KX G (fun _ _ _ _ _ _ us hl => match us, hl with | [_, _], _ => rfl) ?q1 ?q2 ?q3 ?q4; (case q1 => k_is); (case q2 => k_is); (case q3 => k_is); (case q4 => k_is)))
    (case D16 => (refine' NS.mkDef KX G (fun _ _ _ _ _ _ us hl => match us, hl with | [_, _, _], _ => rfl) ?q1 ?q2 ?q3 ?q4; (case q1 => k_is); (case q2 => k_is); (case q3 => k_is); (case q4 => k_is)))
    (case D17 => (refine' NS.mkDef KX G (fun _ _ _ _ _ _ us hl => match us, hl with | [_, _, _, _], _ => rfl) ?q1 ?q2 ?q3 ?q4; (case q1 => k_is); (case q2 => k_is); (case q3 => k_is); (case q4 => k_is)))
    (case D18 => (refine' NS.mkDef KX G (fun _ _ _ _ _ _ us hl => match us, hl with | [_, _], _ => rfl) ?q1 ?q2 ?q3 ?q4; (case q1 => k_is); (case q2 => k_is); (case q3 => k_is); (case q4 => k_is)))
    (case D19 => (refine' NS.mkDef KX G (fun _ _ _ _ _ _ us hl => match us, hl with | [_, _], _ => rfl) ?q1 ?q2 ?q3 ?q4; (case q1 => k_is); (case q2 => k_is); (case q3 => k_is); (case q4 => k_is)))
    (case D20 => (refine' NS.mkDef KX G (fun _ _ _ _ _ _ us hl => match us, hl with | [_, _], _ => rfl) ?q1 ?q2 ?q3 ?q4; (case q1 => k_is); (case q2 => k_is); (case q3 => k_is); (case q4 => k_is)))
    (case D21 => (refine' NS.mkDef KX G (fun _ _ _ _ _ _ us hl => match us, hl with | [_, _], _ => rfl) ?q1 ?q2 ?q3 ?q4; (case q1 => k_is); (case q2 => k_is); (case q3 => k_is); (case q4 => k_is)))
    (case D22 => (refine' NS.mkDef KX G (fun _ _ _ _ _ _ us hl => match us, hl with | [_, _, _], _ => rfl) ?q1 ?q2 ?q3 ?q4; (case q1 => k_is); (case q2 => k_is); (case q3 => k_is); (case q4 => k_is)))
    (case D23 => (refine' NS.mkDef KX G (fun _ _ _ _ _ _ us hl => match us, hl with | [_, _], _ => rfl) ?q1 ?q2 ?q3 ?q4; (case q1 => k_is); (case q2 => k_is); (case q3 => k_is); (case q4 => k_is)))
    (case D24 => (refine' NS.mkDef KX G (fun _ _ _ _ _ _ us hl => match us, hl with | [_, _, _], _ => rfl) ?q1 ?q2 ?q3 ?q4; (case q1 => k_is); (case q2 => k_is); (case q3 => k_is); (case q4 => k_is)))
    (case D25 => (refine' NS.mkDef KX G (fun _ _ _ _ _ _ us hl => match us, hl with | [_, _, _], _ => rfl) ?q1 ?q2 ?q3 ?q4; (case q1 => k_is); (case q2 => k_is); (case q3 => k_is); (case q4 => k_is)))
    (case D26 => (refine' NS.mkDef KX G (fun _ _ _ _ _ _ us hl => match us, hl with | [_, _], _ => rfl) ?q1 ?q2 ?q3 ?q4; (case q1 => k_is); (case q2 => k_is); (case q3 => k_is); (case q4 => k_is)))
    (case D27 => (refine' NS.mkDef KX G (fun _ _ _ _ _ _ us hl => match us, hl with | [_, _], _ => rfl) ?q1 ?q2 ?q3 ?q4; (case q1 => k_is); (case q2 => k_is); (case q3 => k_is); (case q4 => k_is)))
    (case I1 => (refine' NS.mkInit KX G (fun _ _ _ _ _ _ us hl => match us, hl with | [_, _, _], _ => rfl) ?q1 ?q2 ?q3 ?q4 ?q5 ?q6 ?q7 ?q8; (case q1 => k_is); (case q2 => k_is); (case q3 => k_is); (case q4 => k_is); (case q5 => k_is); (case q6 => k_is); (case q7 => k_is); (case q8 => k_is)))
    (case I2 => (refine' NS.mkInit KX G (fun _ _ _ _ _ _ us hl => match us, hl with | [_, _], _ => rfl) ?q1 ?q2 ?q3 ?q4 ?q5 ?q6 ?q7 ?q8; (case q1 => k_is); (case q2 => k_is); (case q3 => k_is); (case q4 => k_is); (case q5 => k_is); (case q6 => k_is); (case q7 => k_is); (case q8 => k_is)))
    (case M1 => (intro cl; refine' NS.mkMeth cl (fun _ _ _ _ _ _ us hl => match us, hl with | [_], _ => rfl) ?q1 ?q2 ?q3 ?q4 ?q5; (case q1 => k_is); (case q2 => k_is); (case q3 => k_is); (case q4 => k_is); (case q5 => k_is)))
    (case M2 => (intro cl; refine' NS.mkMeth cl (fun _ _ _ _ _ _ us hl => match us, hl with | [_], _ => rfl) ?q1 ?q2 ?q3 ?q4 ?q5; (case q1 => k_is); (case q2 => k_is); (case q3 => k_is); (case q4 => k_is); (case q5 => k_is)))
    (case M3 => (intro cl; refine' NS.mkMeth cl (fun _ _ _ _ _ _ us hl => match us, hl with | [_], _ => rfl) ?q1 ?q2 ?q3 ?q4 ?q5; (case q1 => k_is); (case q2 => k_is); (case q3 => k_is); (case q4 => k_is); (case q5 => k_is)))
    (case M4 => (intro cl; refine' NS.mkMeth cl (fun _ _ _ _ _ _ us hl => match us, hl with | [_, _], _ => rfl) ?q1 ?q2 ?q3 ?q4 ?q5; (case q1 => k_is); (case q2 => k_is); (case q3 => k_is); (case q4 => k_is); (case q5 => k_is)))
    (case M5 => (intro cl; refine' NS.mkMeth cl (fun _ _ _ _ _ _ us hl => match us, hl with | [_, _, _], _ => rfl) ?q1 ?q2 ?q3 ?q4 ?q5; (case q1 => k_is); (case q2 => k_is); (case q3 => k_is); (case q4 => k_is); (case q5 => k_is)))
    (case M6 => (intro cl; refine' NS.mkMeth cl (fun _ _ _ _ _ _ us hl => match us, hl with | [_, _, _], _ => rfl) ?q1 ?q2 ?q3 ?q4 ?q5; (case q1 => k_is); (case q2 => k_is); (case q3 => k_is); (case q4 => k_is); (case q5 => k_is)))
    (case M7 => (intro cl; refine' NS.mkMeth cl (fun _ _ _ _ _ _ us hl => match us, hl with | [_, _], _ => rfl) ?q1 ?q2 ?q3 ?q4 ?q5; (case q1 => k_is); (case q2 => k_is); (case q3 => k_is); (case q4 => k_is); (case q5 => k_is)))
    (case M8 => (intro cl; refine' NS.mkMeth cl (fun _ _ _ _ _ _ us hl => match us, hl with | [_, _, _], _ => rfl) ?q1 ?q2 ?q3 ?q4 ?q5; (case q1 => k_is); (case q2 => k_is); (case q3 => k_is); (case q4 => k_is); (case q5 => k_is)))
    (case M9 => (intro cl; refine' NS.mkMeth cl (fun _ _ _ _ _ _ us hl => match us, hl with | [_, _], _ => rfl) ?q1 ?q2 ?q3 ?q4 ?q5; (case q1 => k_is); (case q2 => k_is); (case q3 => k_is); (case q4 => k_is); (case q5 => k_is)))
    (case P1 => (intro cl; refine' NS.mkProp cl (fun _ _ _ _ _ _ us hl => match us, hl with | [_], _ => rfl) ?q1 ?q2 ?q3 ?q4 ?q5 ?q6 ?q7; (case q1 => k_is); (case q2 => k_is); (case q3 => k_is); (case q4 => k_is); (case q5 => k_is); (case q6 => k_is); (case q7 => k_is)))
    (case P2 => (intro cl; refine' NS.mkProp cl (fun _ _ _ _ _ _ us hl => match us, hl with | [_], _ => rfl) ?q1 ?q2 ?q3 ?q4 ?q5 ?q6 ?q7; (case q1 => k_is); (case q2 => k_is); (case q3 => k_is); (case q4 => k_is); (case q5 => k_is); (case q6 => k_is); (case q7 => k_is)))
    (case P3 => (intro cl; refine' NS.mkProp cl (fun _ _ _ _ _ _ us hl => match us, hl with | [_], _ => rfl) ?q1 ?q2 ?q3 ?q4 ?q5 ?q6 ?q7; (case q1 => k_is); (case q2 => k_is); (case q3 => k_is); (case q4 => k_is); (case q5 => k_is); (case q6 => k_is); (case q7 => k_is)))
    (case P4 => (intro cl; refine' NS.mkProp cl (fun _ _ _ _ _ _ us hl => match us, hl with | [_], _ => rfl) ?q1 ?q2 ?q3 ?q4 ?q5 ?q6 ?q7; (case q1 => k_is); (case q2 => k_is); (case q3 => k_is); (case q4 => k_is); (case q5 => k_is); (case q6 => k_is); (case q7 => k_is)))
    (case P5 => (intro cl; refine' NS.mkProp cl (fun _ _ _ _ _ _ us hl => match us, hl with | [_], _ => rfl) ?q1 ?q2 ?q3 ?q4 ?q5 ?q6 ?q7; (case q1 => k_is); (case q2 => k_is); (case q3 => k_is); (case q4 => k_is); (case q5 => k_is); (case q6 => k_is); (case q7 => k_is)))
    (case P6 => (intro cl; refine' NS.mkProp cl (fun _ _ _ _ _ _ us hl => match us, hl with | [_], _ => rfl) ?q1 ?q2 ?q3 ?q4 ?q5 ?q6 ?q7; (case q1 => k_is); (case q2 => k_is); (case q3 => k_is); (case q4 => k_is); (case q5 => k_is); (case q6 => k_is); (case q7 => k_is)))
    (case P7 => (intro cl; refine' NS.mkProp cl (fun _ _ _ _ _ _ us hl => match us, hl with | [_], _ => rfl) ?q1 ?q2 ?q3 ?q4 ?q5 ?q6 ?q7; (case q1 => k_is); (case q2 => k_is); (case q3 => k_is); (case q4 => k_is); (case q5 => k_is); (case q6 => k_is); (case q7 => k_is)))
    (case P8 => (intro cl; refine' NS.mkProp cl (fun _ _ _ _ _ _ us hl => match us, hl with | [_], _ => rfl) ?q1 ?q2 ?q3 ?q4 ?q5 ?q6 ?q7; (case q1 => k_is); (case q2 => k_is); (case q3 => k_is); (case q4 => k_is); (case q5 => k_is); (case q6 => k_is); (case q7 => k_is)))
    (case P9 => (intro cl; refine' NS.mkProp cl (fun _ _ _ _ _ _ us hl => match us, hl with | [_], _ => rfl) ?q1 ?q2 ?q3 ?q4 ?q5 ?q6 ?q7; (case q1 => k_is); (case q2 => k_is); (case q3 => k_is); (case q4 => k_is); (case q5 => k_is); (case q6 => k_is); (case q7 => k_is)))
    (case P10 => (intro cl; refine' NS.mkProp cl (fun _ _ _ _ _ _ us hl => match us, hl with | [_], _ => rfl) ?q1 ?q2 ?q3 ?q4 ?q5 ?q6 ?q7; (case q1 => k_is); (case q2 => k_is); (case q3 => k_is); (case q4 => k_is); (case q5 => k_is); (case q6 => k_is); (case q7 => k_is)))
    (case V1 => (intro cl; refine' NS.mkVar cl (fun _ _ _ _ _ _ u rest => match rest with | [] => rfl | _ :: _ => rfl) (by decide +kernel) ?q1 ?q2 ?q3 ?q4 ?q5 ?q6 ?q7 ?q8; (case q1 => k_is); (case q2 => k_is); (case q3 => k_is); (case q4 => k_is); (case q5 => k_is); (case q6 => k_is); (case q7 => k_is); (case q8 => k_is)))
    (case V2 => (intro cl; refine' NS.mkVar cl (fun _ _ _ _ _ _ u rest => match rest with | [] => rfl | _ :: _ => rfl) (by decide +kernel) ?q1 ?q2 ?q3 ?q4 ?q5 ?q6 ?q7 ?q8; (case q1 => k_is); (case q2 => k_is); (case q3 => k_is); (case q4 => k_is); (case q5 => k_is); (case q6 => k_is); (case q7 => k_is); (case q8 => k_is)))
    (case V3 => (intro cl; refine' NS.mkVar cl (fun _ _ _ _ _ _ u rest => match rest with | [] => rfl | _ :: _ => rfl) (by decide +kernel) ?q1 ?q2 ?q3 ?q4 ?q5 ?q6 ?q7 ?q8; (case q1 => k_is); (case q2 => k_is); (case q3 => k_is); (case q4 => k_is); (case q5 => k_is); (case q6 => k_is); (case q7 => k_is); (case q8 => k_is)))
    (case cm => (refine' NS.mkCm (mc := .type "type") (fun _ _ _ _ _ _ us hl => match us, hl with | [_, _], _ => rfl) ?q1 ?q2 ?q3 ?q4 ?q5 ?q6 ?q7 ?q8; (case q1 => k_is); (case q2 => k_is); (case q3 => k_is); (case q4 => k_is); (case q5 => k_is); (case q6 => k_is); (case q7 => k_is); (case q8 => k_is)))
    (case un => (intro cl; refine' NS.mkUndo cl ?q1 ?q2 ?q3 ?q4 ?q5 ?q6; (case q1 => k_is); (case q2 => k_is); (case q3 => k_is); (case q4 => k_is); (case q5 => k_is); (case q6 => k_is)))
    (case mI => k_is)
    (case mR => k_is)
    (case F1 => (refine' NS.mkFn (fun _ _ _ _ _ _ us hl => match us, hl with | [_, _], _ => rfl) ?q1 ?q2 ?q3; (case q1 => k_is); (case q2 => k_is); (case q3 => k_is)))
    (case F2 => (refine' NS.mkFn (fun _ _ _ _ _ _ us hl => match us, hl with | [_, _], _ => rfl) ?q1 ?q2 ?q3; (case q1 => k_is); (case q2 => k_is); (case q3 => k_is)))
    (case mCI => k_is)
    (case mCIi => k_is)
    (case mCIk => k_is)
    (case mCR => k_is)
    (case mCRi => k_is)
    (case mCRk => k_is)
    (case mFI => k_is)
    (case mFIi => k_is)
    (case mFIk => k_is)
    (case mFR => k_is)
    (case mFRi => k_is)
    (case mFRk => k_is)
    (case mkCc => k_is)
    (case mkCck => k_is)
    (case mkCf => k_is)
    (case mkCfk => k_is)
    (case S1 => (refine' NS.mkSup ?q1 ?q2 ?q3 ?q4 ?q5 ?q6 ?q7; (case q1 => k_is); (case q2 => k_is); (case q3 => k_is); (case q4 => rfl); (case q5 => k_is); (case q6 => rfl); (case q7 => decide +kernel)))
    (case S2 => (refine' NS.mkSup ?q1 ?q2 ?q3 ?q4 ?q5 ?q6 ?q7; (case q1 => k_is); (case q2 => k_is); (case q3 => k_is); (case q4 => rfl); (case q5 => k_is); (case q6 => rfl); (case q7 => decide +kernel)))
    (case S3 => (refine' NS.mkSup ?q1 ?q2 ?q3 ?q4 ?q5 ?q6 ?q7; (case q1 => k_is); (case q2 => k_is); (case q3 => k_is); (case q4 => rfl); (case q5 => k_is); (case q6 => rfl); (case q7 => decide +kernel)))
    (case S4 => (refine' NS.mkSup ?q1 ?q2 ?q3 ?q4 ?q5 ?q6 ?q7; (case q1 => k_is); (case q2 => k_is); (case q3 => k_is); (case q4 => rfl); (case q5 => k_is); (case q6 => rfl); (case q7 => decide +kernel)))
    (case U1 => (refine' NS.mkSuO ?q1 ?q2 ?q3 ?q4 ?q5; (case q1 => ks_is); (case q2 => k_is); (case q3 => k_is); (case q4 => k_is); (case q5 => k_is)))
    (case U2 => (refine' NS.mkSuO ?q1 ?q2 ?q3 ?q4 ?q5; (case q1 => ks_is); (case q2 => k_is); (case q3 => k_is); (case q4 => k_is); (case q5 => k_is)))
    (case U3 => (refine' NS.mkSuO ?q1 ?q2 ?q3 ?q4 ?q5; (case q1 => ks_is); (case q2 => k_is); (case q3 => k_is); (case q4 => k_is); (case q5 => k_is)))
    (case U4 => (refine' NS.mkSuO ?q1 ?q2 ?q3 ?q4 ?q5; (case q1 => ks_is); (case q2 => k_is); (case q3 => k_is); (case q4 => k_is); (case q5 => k_is)))
    (case U5 => (refine' NS.mkSuO ?q1 ?q2 ?q3 ?q4 ?q5; (case q1 => ks_is); (case q2 => k_is); (case q3 => k_is); (case q4 => k_is); (case q5 => k_is)))
    (case U6 => (refine' NS.mkSuO ?q1 ?q2 ?q3 ?q4 ?q5; (case q1 => ks_is); (case q2 => k_is); (case q3 => k_is); (case q4 => k_is); (case q5 => k_is)))
    (case aL => k_is)
    (case lL => k_is)
    (case cL => k_is)
    (case kL => k_is)
