import PyProof.Rows.All
import PyProof.CompMap
import PyProof.DictDisplay
import PyProof.Rows.ListMul
import PyProof.Rows.ListMulArg
import KE.KxBytes
import KE.BytesMake
import KE.KItem
import KE.LcSums
import KE.KDeep
import KE.KEqDict
import KE.KFind
import KE.KTryDeep
import Wide.FinOn
import OpenK.AllK
import Wide.All
import PySem.Challenge.RW_xw0359_01
set_option Elab.async false
set_option genSizeOf false
set_option linter.unusedVariables false
namespace Mine
open PySem PySem.W PySem.Calls PyProof.Rows
set_option maxRecDepth 100000

/-! ## plain tools -/
theorem ff {Q : Prop} (h : false = true) : Q := (Bool.false_ne_true h).elim
theorem brec {α : Type} (b : Bool) (f k : α) : (Bool.rec f k b : α) = match b with | true => k | false => f := by cases b <;> rfl
theorem brec2 {α : Type} (b c : Bool) (v l r : α) : (Bool.rec (Bool.rec r l c) v b : α) = match b with | true => v | false => match c with | true => l | false => r := by cases b <;> cases c <;> rfl
theorem mt {b k : Bool} (h : (match b with | true => k | false => false) = true) : b = true ∧ k = true := by
  induction b using Bool.casesOn with
  | false => exact ff h
  | true => exact ⟨rfl, h⟩
theorem mf {b k : Bool} (h : (match b with | false => false | true => k) = true) : b = true ∧ k = true := by
  induction b using Bool.casesOn with
  | false => exact ff h
  | true => exact ⟨rfl, h⟩
noncomputable def onO {α : Type} (o : Option α) (k : α → Bool) : Bool := Option.rec false k o
theorem onO_is {α : Type} {o : Option α} {k : α → Bool} (h : onO o k = true) : ∃ x, o = some x ∧ k x = true := by
  induction o using Option.casesOn with
  | none => exact ff h
  | some x => exact ⟨x, rfl, h⟩
theorem mo {α : Type} {o : Option α} {f : α → Bool} (h : (match o with | none => false | some x => f x) = true) : ∃ x, o = some x ∧ f x = true := by
  rcases o with _ | x
  · exact ff h
  · exact ⟨x, rfl, h⟩
theorem mos {α : Type} {o : Option α} {f : α → Bool} (h : (match o with | some x => f x | none => false) = true) : ∃ x, o = some x ∧ f x = true := by
  rcases o with _ | x
  · exact ff h
  · exact ⟨x, rfl, h⟩
theorem no_some {α : Type} {a : α} {Q : Prop} (h : none = some a) : Q := (Option.some_ne_none _ h.symm).elim
theorem someBind {α β : Type} {o : Option α} {f : α → Option β} {y : β} (h : o.bind f = some y) : ∃ x, o = some x ∧ f x = some y := Option.bind_eq_some_iff.mp h
theorem an {a b : Bool} (h : (a && b) = true) : a = true ∧ b = true := Bool.and_eq_true_iff.mp h
inductive All2 {α β : Type} (R : α → β → Prop) : List α → List β → Prop
  | nil : All2 R [] []
  | cons {a b as bs} : R a b → All2 R as bs → All2 R (a :: as) (b :: bs)
noncomputable def All2f {α β : Type} (R : α → β → Prop) (as : List α) (bs : List β) : Prop := match as with
  | [] => bs = []
  | a :: as => ∃ b bs', bs = b :: bs' ∧ R a b ∧ All2 R as bs'
theorem All2.inv {α β : Type} {R : α → β → Prop} {as : List α} {bs : List β} (h : All2 R as bs) : All2f R as bs := by
  cases h with
  | nil => rfl
  | cons h t => exact ⟨_, _, rfl, h, t⟩
theorem All2.onCons {α β : Type} {R : α → β → Prop} {a : α} {as : List α} {bs : List β} {P : List β → Prop} (h : All2 R (a :: as) bs) (k : ∀ b bs', R a b → All2 R as bs' → P (b :: bs')) : P bs := by
  obtain ⟨b, bs', rfl, h1, h2⟩ := h.inv
  exact k b bs' h1 h2
section
variable {α β : Type} {R S : α → β → Prop} {as : List α} {bs : List β}
theorem All2.imp (f : ∀ a b, R a b → S a b) (h : All2 R as bs) : All2 S as bs := by
  induction h with
  | nil => exact .nil
  | cons h _ ih => exact .cons (f _ _ h) ih
theorem All2.length (h : All2 R as bs) : as.length = bs.length := by
  induction h with
  | nil => rfl
  | cons _ _ ih => exact congrArg Nat.succ ih
theorem All2.get (h : All2 R as bs) {i : Nat} {a : α} (e : as[i]? = some a) : ∃ b, bs[i]? = some b ∧ R a b := by
  induction h generalizing i with
  | nil => induction i using Nat.casesOn <;> exact no_some e
  | cons h _ ih => induction i using Nat.casesOn with
    | zero => exact ⟨_, rfl, Option.some.inj e ▸ h⟩
    | succ i => exact ih (i := i) e
theorem All2.append {as' : List α} {bs' : List β} (h : All2 R as bs) (k : All2 R as' bs') : All2 R (as ++ as') (bs ++ bs') := by
  induction h with
  | nil => exact k
  | cons h _ ih => exact .cons h ih
theorem All2.set (h : All2 R as bs) {a : α} {b : β} (i : Nat) (r : R a b) : All2 R (as.set i a) (bs.set i b) := by
  induction h generalizing i with
  | nil => exact .nil
  | cons h t ih => induction i using Nat.casesOn with
    | zero => exact .cons r t
    | succ i => exact .cons h (ih i)
end

/-- equal texts, by one number first -/
noncomputable def cd (l : List Nat) : Nat := l.foldr (fun c n => Nat.add c (Nat.mul 1114112 n)) 0
noncomputable def lq (x : List Nat) : List Nat → Bool := List.rec (motive := fun _ => List Nat → Bool) (fun y => List.rec true (fun _ _ _ => false) y)
  (fun a _ ih y => List.rec false (fun b y _ => Bool.rec false (ih y) (Nat.beq a b)) y) x
theorem lq_step (a b : Nat) (x y : List Nat) : lq (a :: x) (b :: y) = match Nat.beq a b with | true => lq x y | false => false := brec _ _ _
theorem lq_eq : ∀ {x y : List Nat}, lq x y = true → x = y
  | [], y, h => by
    induction y using List.casesOn with
    | nil => rfl
    | cons _ _ => exact ff h
  | a :: x, y, h => by
    induction y using List.casesOn with
    | nil => exact ff h
    | cons b y =>
      rw [lq_step] at h
      obtain ⟨e, h⟩ := mt h
      rw [Nat.eq_of_beq_eq_true e, lq_eq h]
theorem lq_refl : ∀ x : List Nat, lq x x = true
  | [] => rfl
  | a :: x => by
    rw [lq_step, Nat.beq_refl]
    exact lq_refl x
noncomputable def sq (a b : Str) : Bool := Bool.rec false (lq a.cps.toList b.cps.toList) (Nat.beq (cd a.cps.toList) (cd b.cps.toList))
theorem sq_step (a b : Str) : sq a b = match Nat.beq (cd a.cps.toList) (cd b.cps.toList) with | true => lq a.cps.toList b.cps.toList | false => false := brec _ _ _
theorem sq_refl (x : Str) : sq x x = true := by
  rw [sq_step, Nat.beq_refl]
  exact lq_refl _
theorem sq_eq {x y : Str} (h : sq x y = true) : x = y := by
  cases x; induction y using PySem.Str.casesOn
  rw [sq_step] at h
  exact congrArg Str.mk (Array.toList_inj.mp (lq_eq (mt h).2))
theorem sq_ne {x y : Str} (h : x ≠ y) : sq x y = false := by
  cases q : sq x y with
  | false => rfl
  | true => exact absurd (sq_eq q) h

/-- a look by name -/
noncomputable def lk {α : Type} (x : Str) (l : List (Str × α)) : Option α := List.rec none (fun p _ ih => Prod.rec (fun a v => Bool.rec ih (some v) (sq x a)) p) l
theorem lk_step {α : Type} (x : Str) (p : Str × α) (r : List (Str × α)) : lk x (p :: r) = match sq x p.1 with | true => some p.2 | false => lk x r := brec _ _ _
theorem lk_cons {α : Type} (x : Str) (p : Str × α) (r : List (Str × α)) : lk x (p :: r) = if x = p.1 then some p.2 else lk x r := by
  rw [lk_step]
  by_cases h : x = p.1
  · rw [if_pos h, h, sq_refl]
  · rw [if_neg h, sq_ne h]
theorem lk_eq {α : Type} (x : Str) : ∀ l : List (Str × α), lk x l = l.lookup x
  | [] => rfl
  | (y, v) :: r => by
    rw [lk_cons, List.lookup_cons]
    by_cases h : x = y
    · rw [if_pos h, beq_iff_eq.mpr h]
    · rw [if_neg h, beq_eq_false_iff_ne.mpr h]
      exact lk_eq x r
/-- a store by name -/
noncomputable def sto {α : Type} (x : Str) (v : α) (l : List (Str × α)) : List (Str × α) := List.rec [(x, v)] (fun p r ih => Prod.rec (fun a _ => Bool.rec (p :: ih) ((a, v) :: r) (sq x a)) p) l
theorem sto_step {α : Type} (x : Str) (v : α) (p : Str × α) (r : List (Str × α)) : sto x v (p :: r) = match sq x p.1 with | true => (p.1, v) :: r | false => p :: sto x v r := brec _ _ _
theorem sto_cons {α : Type} (x : Str) (v : α) (p : Str × α) (r : List (Str × α)) : sto x v (p :: r) = if x = p.1 then (p.1, v) :: r else p :: sto x v r := by
  rw [sto_step]
  by_cases h : x = p.1
  · rw [if_pos h, h, sq_refl]
  · rw [if_neg h, sq_ne h]
theorem lk_sto {α : Type} (x : Str) (v : α) (y : Str) : ∀ l : List (Str × α), lk y (sto x v l) = if y = x then some v else lk y l
  | [] => lk_cons y (x, v) []
  | p :: r => by
    rw [sto_cons]
    by_cases hx : x = p.1
    · rw [if_pos hx, lk_cons, lk_cons, hx]
      by_cases h : y = p.1
      · rw [if_pos h, if_pos h]
      · rw [if_neg h, if_neg h, if_neg h]
    · rw [if_neg hx, lk_cons, lk_cons, lk_sto x v y r]
      by_cases h : y = p.1
      · rw [if_pos h, if_pos h, if_neg fun e => hx (e.symm.trans h)]
      · rw [if_neg h, if_neg h]

/-- a tree of things by number -/
inductive Tr (α : Type) where
  | nil
  | node (v : Option α) (l r : Tr α)
namespace Tr
variable {α : Type}
noncomputable def get (t : Tr α) : Nat → Option α := Tr.rec (motive := fun _ => Nat → Option α) (fun _ => none)
  (fun v _ _ l r i => Nat.rec v (fun j _ => Nat.rec (l (Nat.div j 2)) (fun _ _ => r (Nat.div j 2)) (Nat.mod j 2)) i) t
noncomputable def putI (f : Tr α → Nat → Option α → Tr α) (v : Option α) (l r : Tr α) (i : Nat) (o : Option α) : Tr α := Nat.rec (.node o l r) (fun j _ => Nat.rec (.node v (f l (Nat.div j 2) o) r) (fun _ _ => .node v l (f r (Nat.div j 2) o)) (Nat.mod j 2)) i
noncomputable def put1 (f : Tr α → Nat → Option α → Tr α) (t : Tr α) (i : Nat) (o : Option α) : Tr α := Tr.rec (motive := fun _ => Tr α) (putI f none .nil .nil i o) (fun v l r _ _ => putI f v l r i o) t
noncomputable def put (n : Nat) : Tr α → Nat → Option α → Tr α := Nat.rec (motive := fun _ => Tr α → Nat → Option α → Tr α) (fun t _ _ => t) (fun _ ih => put1 ih) n
theorem get_nil (i : Nat) : (nil : Tr α).get i = none := rfl
theorem get_zero (v : Option α) (l r : Tr α) : (node v l r).get 0 = v := rfl
theorem get_ev (v : Option α) (l r : Tr α) {j : Nat} (h : j % 2 = 0) : (node v l r).get (j + 1) = l.get (j / 2) := by
  have e : ∀ m, m = 0 → (Nat.rec (l.get (j / 2)) (fun _ _ => r.get (j / 2)) m : Option α) = l.get (j / 2) := fun m h => by subst h; rfl
  exact e _ h
theorem get_od (v : Option α) (l r : Tr α) {j : Nat} (h : j % 2 = 1) : (node v l r).get (j + 1) = r.get (j / 2) := by
  have e : ∀ m, m = 1 → (Nat.rec (l.get (j / 2)) (fun _ _ => r.get (j / 2)) m : Option α) = r.get (j / 2) := fun m h => by subst h; rfl
  exact e _ h
theorem put_ev (f : Tr α → Nat → Option α → Tr α) (v : Option α) (l r : Tr α) (o : Option α) {j : Nat} (h : j % 2 = 0) : putI f v l r (j + 1) o = node v (f l (j / 2) o) r := by
  have e : ∀ m, m = 0 → (Nat.rec (node v (f l (j / 2) o) r) (fun _ _ => node v l (f r (j / 2) o)) m : Tr α) = node v (f l (j / 2) o) r := fun m h => by subst h; rfl
  exact e _ h
theorem put_od (f : Tr α → Nat → Option α → Tr α) (v : Option α) (l r : Tr α) (o : Option α) {j : Nat} (h : j % 2 = 1) : putI f v l r (j + 1) o = node v l (f r (j / 2) o) := by
  have e : ∀ m, m = 1 → (Nat.rec (node v (f l (j / 2) o) r) (fun _ _ => node v l (f r (j / 2) o)) m : Tr α) = node v l (f r (j / 2) o) := fun m h => by subst h; rfl
  exact e _ h
theorem half {i j : Nat} (h : i % 2 = j % 2) (e : i / 2 = j / 2) : i = j := by rw [← Nat.div_add_mod i 2, ← Nat.div_add_mod j 2, h, e]
theorem put_at (f : Tr α → Nat → Option α → Tr α) (v : Option α) (l r : Tr α) (x i : Nat) (o : Option α) (hf : ∀ y, x = y + 1 → ∀ t i, (f t (y / 2) o).get i = if i = y / 2 then o else t.get i) :
    (putI f v l r x o).get i = if i = x then o else (node v l r).get i := by
  cases x with
  | zero =>
    cases i with
    | zero => rfl
    | succ i => rw [if_neg (Nat.succ_ne_zero i)]; rfl
  | succ x =>
    cases i with
    | zero => rw [if_neg (Nat.succ_ne_zero x).symm]; rcases Nat.mod_two_eq_zero_or_one x with p | p <;> first | rw [put_ev _ _ _ _ _ p]; rfl | rw [put_od _ _ _ _ _ p]; rfl
    | succ i =>
      have hf := hf x rfl
      have ne : i % 2 ≠ x % 2 → ¬ i + 1 = x + 1 := fun q z => q (by rw [Nat.succ.inj z])
      have key : ∀ t : Tr α, i % 2 = x % 2 → (f t (x / 2) o).get (i / 2) = if i + 1 = x + 1 then o else t.get (i / 2) := fun t q => by
        rw [hf]
        by_cases e : i / 2 = x / 2
        · rw [if_pos e, if_pos (by rw [half q e])]
        · rw [if_neg e, if_neg fun z => e (by rw [Nat.succ.inj z])]
      rcases Nat.mod_two_eq_zero_or_one x with p | p <;> rcases Nat.mod_two_eq_zero_or_one i with q | q
      · rw [put_ev _ _ _ _ _ p, get_ev _ _ _ q, get_ev _ _ _ q, key _ (q.trans p.symm)]
      · rw [put_ev _ _ _ _ _ p, get_od _ _ _ q, get_od _ _ _ q, if_neg (ne (by rw [p, q]; decide))]
      · rw [put_od _ _ _ _ _ p, get_ev _ _ _ q, get_ev _ _ _ q, if_neg (ne (by rw [p, q]; decide))]
      · rw [put_od _ _ _ _ _ p, get_od _ _ _ q, get_od _ _ _ q, key _ (q.trans p.symm)]
theorem nil_get (i : Nat) : (node (none : Option α) .nil .nil).get i = none := by
  cases i with
  | zero => rfl
  | succ i => rcases Nat.mod_two_eq_zero_or_one i with q | q <;> first | rw [get_ev _ _ _ q]; rfl | rw [get_od _ _ _ q]; rfl
theorem get_put (o : Option α) : ∀ (n : Nat) (t : Tr α) (a i : Nat), a < 2 ^ n → (put (n + 1) t a o).get i = if i = a then o else t.get i
  | 0, t, a, i, h => by
    obtain rfl := Nat.lt_one_iff.mp h
    cases t with
    | nil => exact (put_at (put 0) none .nil .nil 0 i o fun _ e => nomatch e).trans (by rw [nil_get]; rfl)
    | node v l r => exact put_at (put 0) v l r 0 i o fun _ e => nomatch e
  | n + 1, t, x, i, h => by
    have hf : ∀ y, x = y + 1 → ∀ t i, (put (n + 1) t (y / 2) o).get i = if i = y / 2 then o else t.get i := fun y e t i => get_put o n t _ i (by
      subst e
      rw [Nat.pow_succ] at h
      exact Nat.div_lt_of_lt_mul (by omega))
    cases t with
    | nil => exact (put_at (put (n + 1)) none .nil .nil x i o hf).trans (by rw [nil_get]; rfl)
    | node v l r => exact put_at (put (n + 1)) v l r x i o hf
end Tr
end Mine

namespace Mine
open PySem PySem.W PySem.Calls PyProof.Rows
set_option maxRecDepth 100000

/-! ## ints with letters -/
structure IE where
  c : Int
  ts : List (Nat × Int)
structure Wd where
  ρ : List Addr
  ι : List Int
  hs : Array Nat → Int
abbrev W00 : Wd := ⟨[], [], fun _ => 0⟩
noncomputable def Wd.le (W W' : Wd) : Prop := W.ρ <+: W'.ρ ∧ W.ι <+: W'.ι
theorem Wd.le_refl (W : Wd) : W.le W := ⟨List.prefix_refl _, List.prefix_refl _⟩
theorem Wd.le_trans {W W' W'' : Wd} (h : W.le W') (k : W'.le W'') : W.le W'' := ⟨h.1.trans k.1, h.2.trans k.2⟩
theorem pre_get {α : Type} {l l' : List α} (h : l <+: l') {i : Nat} {x : α} (e : l[i]? = some x) : l'[i]? = some x := by
  obtain ⟨t, rfl⟩ := h
  have hi : i < l.length := by
    rcases Nat.lt_or_ge i l.length with q | q
    · exact q
    · rw [List.getElem?_eq_none q] at e; exact no_some e
  rw [List.getElem?_append_left hi, e]

noncomputable def tsum (ι : List Int) : List (Nat × Int) → Option Int
  | [] => some 0
  | t :: r => match ι[t.1]?, tsum ι r with
    | some x, some y => some (t.2 * x + y)
    | _, _ => none
noncomputable def IE.ev (ι : List Int) (e : IE) : Option Int := (tsum ι e.ts).map fun y => e.c + y
theorem tsum_mono {ι ι' : List Int} (h : ι <+: ι') : ∀ {ts : List (Nat × Int)} {x : Int}, tsum ι ts = some x → tsum ι' ts = some x
  | [], _, e => e
  | t :: r, x, e => by
    unfold tsum at e ⊢
    cases h1 : ι[t.1]? with
    | none => rw [h1] at e; exact no_some e
    | some a =>
      cases h2 : tsum ι r with
      | none => rw [h1, h2] at e; exact no_some e
      | some b => rw [h1, h2] at e; rw [pre_get h h1, tsum_mono h h2]; exact e
theorem IE.ev_mono {ι ι' : List Int} (h : ι <+: ι') {e : IE} {x : Int} (q : e.ev ι = some x) : e.ev ι' = some x := by
  unfold IE.ev at q ⊢
  obtain ⟨y, hy, rfl⟩ := Option.map_eq_some_iff.mp q
  rw [tsum_mono h hy]; rfl
noncomputable def IE.lit (n : Int) : IE := ⟨n, []⟩
theorem IE.ev_lit (ι : List Int) (n : Int) : (IE.lit n).ev ι = some n := by simp [IE.lit, IE.ev, tsum]
/-- the number, if it has no letter -/
noncomputable def IE.num (e : IE) : Option Int := match e.ts with
  | [] => some e.c
  | _ => none
theorem IE.num_ev {e : IE} {n x : Int} {ι : List Int} (h : e.num = some n) (q : e.ev ι = some x) : x = n := by
  unfold IE.num at h
  split at h
  · rename_i ht
    obtain rfl := Option.some.inj h
    simp [IE.ev, ht, tsum] at q
    exact q.symm
  · exact no_some h

/-- one term into a sum in order of the letters -/
noncomputable def tins (i : Nat) (k : Int) : List (Nat × Int) → List (Nat × Int)
  | [] => [(i, k)]
  | t :: r => match Nat.beq i t.1 with
    | true => (i, k + t.2) :: r
    | false => match Nat.blt i t.1 with
      | true => (i, k) :: t :: r
      | false => t :: tins i k r
theorem tsum_tins {ι : List Int} {i : Nat} {k x : Int} (hi : ι[i]? = some x) : ∀ {ts : List (Nat × Int)} {y : Int}, tsum ι ts = some y → tsum ι (tins i k ts) = some (k * x + y)
  | [], y, e => by
    obtain rfl := Option.some.inj e
    simp [tins, tsum, hi]
  | t :: r, y, e => by
    unfold tsum at e
    cases h1 : ι[t.1]? with
    | none => rw [h1] at e; exact no_some e
    | some a =>
      cases h2 : tsum ι r with
      | none => rw [h1, h2] at e; exact no_some e
      | some b =>
        rw [h1, h2] at e
        obtain rfl := Option.some.inj e
        unfold tins
        split
        · rename_i q
          have : i = t.1 := Nat.eq_of_beq_eq_true q
          rw [this] at hi
          rw [h1] at hi
          obtain rfl := Option.some.inj hi
          simp [tsum, this, h1, h2, Int.add_mul, Int.add_assoc]
        · split
          · simp [tsum, hi, h1, h2]
          · have := tsum_tins (k := k) hi h2
            simp only [tsum, h1, this]
            simp; omega
noncomputable def tadd : List (Nat × Int) → List (Nat × Int) → List (Nat × Int)
  | [], l => l
  | t :: r, l => tins t.1 t.2 (tadd r l)
theorem tsum_tadd {ι : List Int} : ∀ {ts us : List (Nat × Int)} {x y : Int}, tsum ι ts = some x → tsum ι us = some y → tsum ι (tadd ts us) = some (x + y)
  | [], us, x, y, e, q => by obtain rfl := Option.some.inj e; simpa [tadd] using q
  | t :: r, us, x, y, e, q => by
    unfold tsum at e
    cases h1 : ι[t.1]? with
    | none => rw [h1] at e; exact no_some e
    | some a =>
      cases h2 : tsum ι r with
      | none => rw [h1, h2] at e; exact no_some e
      | some b =>
        rw [h1, h2] at e
        obtain rfl := Option.some.inj e
        have := tsum_tins (k := t.2) h1 (tsum_tadd h2 q)
        unfold tadd
        rw [this]; congr 1; omega
noncomputable def tmul (k : Int) : List (Nat × Int) → List (Nat × Int)
  | [] => []
  | t :: r => (t.1, k * t.2) :: tmul k r
theorem tsum_tmul {ι : List Int} {k : Int} : ∀ {ts : List (Nat × Int)} {x : Int}, tsum ι ts = some x → tsum ι (tmul k ts) = some (k * x)
  | [], x, e => by obtain rfl := Option.some.inj e; simp [tmul, tsum]
  | t :: r, x, e => by
    unfold tsum at e
    cases h1 : ι[t.1]? with
    | none => rw [h1] at e; exact no_some e
    | some a =>
      cases h2 : tsum ι r with
      | none => rw [h1, h2] at e; exact no_some e
      | some b =>
        rw [h1, h2] at e
        obtain rfl := Option.some.inj e
        simp only [tmul, tsum, h1, tsum_tmul h2, Int.mul_add, Int.mul_assoc]
/-- terms with a factor that is not nought -/
noncomputable def tfil : List (Nat × Int) → List (Nat × Int)
  | [] => []
  | t :: r => match t.2 with
    | .ofNat 0 => tfil r
    | _ => t :: tfil r
theorem tsum_tfil {ι : List Int} : ∀ {ts : List (Nat × Int)} {x : Int}, tsum ι ts = some x → tsum ι (tfil ts) = some x
  | [], x, e => e
  | t :: r, x, e => by
    unfold tsum at e
    cases h1 : ι[t.1]? with
    | none => rw [h1] at e; exact no_some e
    | some a =>
      cases h2 : tsum ι r with
      | none => rw [h1, h2] at e; exact no_some e
      | some b =>
        rw [h1, h2] at e
        obtain rfl := Option.some.inj e
        unfold tfil
        split
        · rename_i q
          rw [tsum_tfil h2, q]
          simp
        · simp only [tsum, h1, tsum_tfil h2]
noncomputable def IE.add (a b : IE) : IE := ⟨a.c + b.c, tfil (tadd a.ts b.ts)⟩
noncomputable def IE.mulK (k : Int) (a : IE) : IE := ⟨k * a.c, tfil (tmul k a.ts)⟩
noncomputable def IE.sub (a b : IE) : IE := ⟨a.c - b.c, tfil (tadd a.ts (tmul (-1) b.ts))⟩
theorem IE.ev_add {ι : List Int} {a b : IE} {x y : Int} (h : a.ev ι = some x) (k : b.ev ι = some y) : (a.add b).ev ι = some (x + y) := by
  unfold IE.ev at h k ⊢
  obtain ⟨x', hx, rfl⟩ := Option.map_eq_some_iff.mp h
  obtain ⟨y', hy, rfl⟩ := Option.map_eq_some_iff.mp k
  simp only [IE.add, tsum_tfil (tsum_tadd hx hy), Option.map_some]
  congr 1; omega
theorem IE.ev_sub {ι : List Int} {a b : IE} {x y : Int} (h : a.ev ι = some x) (k : b.ev ι = some y) : (a.sub b).ev ι = some (x - y) := by
  unfold IE.ev at h k ⊢
  obtain ⟨x', hx, rfl⟩ := Option.map_eq_some_iff.mp h
  obtain ⟨y', hy, rfl⟩ := Option.map_eq_some_iff.mp k
  simp only [IE.sub, tsum_tfil (tsum_tadd hx (tsum_tmul (k := -1) hy)), Option.map_some]
  congr 1; omega
theorem IE.ev_mulK {ι : List Int} {a : IE} {k x : Int} (h : a.ev ι = some x) : (a.mulK k).ev ι = some (k * x) := by
  unfold IE.ev at h ⊢
  obtain ⟨x', hx, rfl⟩ := Option.map_eq_some_iff.mp h
  simp only [IE.mulK, tsum_tfil (tsum_tmul (k := k) hx), Option.map_some, Int.mul_add]

/-! ## what is known of the letters -/
structure VI where
  lo : Int
  hi : Option Int
  df : Option (IE × Int)
noncomputable def VI.ok (ι : List Int) (v : VI) (x : Int) : Prop := v.lo ≤ x ∧ (∀ h, v.hi = some h → x ≤ h) ∧ ∀ e m, v.df = some (e, m) → ∃ y, e.ev ι = some y ∧ x = Int.fmod y m
noncomputable def VOK (vi : List VI) (ι : List Int) : Prop := vi.length = ι.length ∧ ∀ (i : Nat) (v : VI), vi[i]? = some v → ∃ x : Int, ι[i]? = some x ∧ v.ok ι x
theorem VI.ok_mono {ι ι' : List Int} (h : ι <+: ι') {v : VI} {x : Int} (k : v.ok ι x) : v.ok ι' x :=
  ⟨k.1, k.2.1, fun e m q => let ⟨y, hy, r⟩ := k.2.2 e m q; ⟨y, IE.ev_mono h hy, r⟩⟩
theorem VOK.push {vi : List VI} {ι : List Int} (h : VOK vi ι) {v : VI} {x : Int} (k : v.ok ι x) : VOK (vi ++ [v]) (ι ++ [x]) := by
  have hp : ι <+: ι ++ [x] := List.prefix_append _ _
  refine ⟨by simp [h.1], fun i v' e => ?_⟩
  rw [List.getElem?_append] at e ⊢
  by_cases hi : i < vi.length
  · rw [if_pos hi] at e
    obtain ⟨y, hy, hv⟩ := h.2 i v' e
    rw [if_pos (h.1 ▸ hi)]
    exact ⟨y, hy, VI.ok_mono hp hv⟩
  · rw [if_neg hi] at e
    rw [if_neg (h.1 ▸ hi)]
    have : i - vi.length = 0 := by
      cases q : i - vi.length with
      | zero => rfl
      | succ n => rw [q] at e; simp at e
    rw [this] at e
    obtain rfl := Option.some.inj e
    rw [← h.1, this]
    exact ⟨x, rfl, VI.ok_mono hp k⟩

/-- the least and the greatest that a sum may be -/
noncomputable def tlo (vi : List VI) : List (Nat × Int) → Option Int
  | [] => some 0
  | t :: r => match vi[t.1]?, tlo vi r with
    | some v, some y => match decide (0 ≤ t.2) with
      | true => some (t.2 * v.lo + y)
      | false => match v.hi with
        | some h => some (t.2 * h + y)
        | none => none
    | _, _ => none
noncomputable def thi (vi : List VI) : List (Nat × Int) → Option Int
  | [] => some 0
  | t :: r => match vi[t.1]?, thi vi r with
    | some v, some y => match decide (0 ≤ t.2) with
      | true => match v.hi with
        | some h => some (t.2 * h + y)
        | none => none
      | false => some (t.2 * v.lo + y)
    | _, _ => none
theorem tlo_le {vi : List VI} {ι : List Int} (V : VOK vi ι) : ∀ {ts : List (Nat × Int)} {b x : Int}, tlo vi ts = some b → tsum ι ts = some x → b ≤ x
  | [], b, x, e, q => by obtain rfl := Option.some.inj e; obtain rfl := Option.some.inj q; exact Int.le_refl _
  | t :: r, b, x, e, q => by
    unfold tlo at e
    unfold tsum at q
    cases h1 : vi[t.1]? with
    | none => rw [h1] at e; exact no_some e
    | some v =>
      cases h2 : tlo vi r with
      | none => rw [h1, h2] at e; exact no_some e
      | some y =>
        rw [h1, h2] at e
        obtain ⟨a, ha, hv⟩ := V.2 _ _ h1
        cases h3 : tsum ι r with
        | none => rw [ha, h3] at q; exact no_some q
        | some z =>
          rw [ha, h3] at q
          obtain rfl := Option.some.inj q
          have hyz := tlo_le V h2 h3
          dsimp only at e
          cases hd : decide (0 ≤ t.2) with
          | true =>
            rw [hd] at e
            obtain rfl := Option.some.inj e
            have := Int.mul_le_mul_of_nonneg_left hv.1 (of_decide_eq_true hd)
            omega
          | false =>
            rw [hd] at e
            have hn := of_decide_eq_false hd
            cases hh : v.hi with
            | none => rw [hh] at e; exact no_some e
            | some h =>
              rw [hh] at e
              obtain rfl := Option.some.inj e
              have := Int.mul_le_mul_of_nonpos_left (show t.2 ≤ 0 by omega) (hv.2.1 h hh)
              omega
theorem thi_ge {vi : List VI} {ι : List Int} (V : VOK vi ι) : ∀ {ts : List (Nat × Int)} {b x : Int}, thi vi ts = some b → tsum ι ts = some x → x ≤ b
  | [], b, x, e, q => by obtain rfl := Option.some.inj e; obtain rfl := Option.some.inj q; exact Int.le_refl _
  | t :: r, b, x, e, q => by
    unfold thi at e
    unfold tsum at q
    cases h1 : vi[t.1]? with
    | none => rw [h1] at e; exact no_some e
    | some v =>
      cases h2 : thi vi r with
      | none => rw [h1, h2] at e; exact no_some e
      | some y =>
        rw [h1, h2] at e
        obtain ⟨a, ha, hv⟩ := V.2 _ _ h1
        cases h3 : tsum ι r with
        | none => rw [ha, h3] at q; exact no_some q
        | some z =>
          rw [ha, h3] at q
          obtain rfl := Option.some.inj q
          have hyz := thi_ge V h2 h3
          dsimp only at e
          cases hd : decide (0 ≤ t.2) with
          | false =>
            rw [hd] at e
            obtain rfl := Option.some.inj e
            have hn := of_decide_eq_false hd
            have := Int.mul_le_mul_of_nonpos_left (show t.2 ≤ 0 by omega) hv.1
            omega
          | true =>
            rw [hd] at e
            have hn := of_decide_eq_true hd
            cases hh : v.hi with
            | none => rw [hh] at e; exact no_some e
            | some h =>
              rw [hh] at e
              obtain rfl := Option.some.inj e
              have := Int.mul_le_mul_of_nonneg_left (hv.2.1 h hh) hn
              omega
noncomputable def IE.lo (vi : List VI) (e : IE) : Option Int := (tlo vi e.ts).map fun y => e.c + y
noncomputable def IE.hi (vi : List VI) (e : IE) : Option Int := (thi vi e.ts).map fun y => e.c + y
theorem IE.lo_le {vi : List VI} {ι : List Int} (V : VOK vi ι) {e : IE} {b x : Int} (h : e.lo vi = some b) (q : e.ev ι = some x) : b ≤ x := by
  unfold IE.lo at h
  unfold IE.ev at q
  obtain ⟨y, hy, rfl⟩ := Option.map_eq_some_iff.mp h
  obtain ⟨z, hz, rfl⟩ := Option.map_eq_some_iff.mp q
  have := tlo_le V hy hz
  omega
theorem IE.hi_ge {vi : List VI} {ι : List Int} (V : VOK vi ι) {e : IE} {b x : Int} (h : e.hi vi = some b) (q : e.ev ι = some x) : x ≤ b := by
  unfold IE.hi at h
  unfold IE.ev at q
  obtain ⟨y, hy, rfl⟩ := Option.map_eq_some_iff.mp h
  obtain ⟨z, hz, rfl⟩ := Option.map_eq_some_iff.mp q
  have := thi_ge V hy hz
  omega
end Mine

namespace Mine
open PySem PySem.W PySem.Calls PyProof.Rows PySem.SeqAt
open Sem (wp)
set_option maxRecDepth 100000

/-! ## keys of dicts: ints, texts, pairs of such -/
inductive KD where
  | i (n : Int)
  | s (x : Str)
  | p (a b : KD)
deriving DecidableEq
noncomputable def KD.dep : KD → Nat
  | .p a b => Nat.max a.dep b.dep + 1
  | _ => 0
noncomputable def KD.drw : KD → Nat
  | .p a b => a.drw + b.drw + 1
  | _ => 1
noncomputable def khash (hs : Array Nat → Int) : KD → Int
  | .i n => hashInt n
  | .s x => if x.cps.isEmpty = true then 0 else reduceHash (hs x.cps)
  | .p a b => reduceHash (Builtin.Tuple.tupleHashOf [khash hs a, khash hs b])
noncomputable def KIs (h : Heap) : KD → Value → Prop
  | .i n, v => ∃ t, v = .int n t
  | .s x, v => ∃ t, v = .str x t
  | .p a b, v => ∃ c u1 u2, v = .ref c ∧ h.IsTuple c #[u1, u2] ∧ KIs h a u1 ∧ KIs h b u2

theorem KIs.keeps {h h' : Heap} {d : Addr} {o : Obj} {es ep} (ho : h.get? d = some o) (hd : o.data = .dict es ep) (hs : Heap.SameBut d h h') : ∀ {k : KD} {v : Value}, KIs h k v → KIs h' k v
  | .i _, _, x => x
  | .s _, _, x => x
  | .p _ _, _, x => by
    obtain ⟨c, u1, u2, e, ⟨o', ho', hc, n, hd'⟩, x1, x2⟩ := x
    have hne : c ≠ d := by
      intro q
      rw [q, ho] at ho'
      rw [← Option.some.inj ho', hd] at hd'
      exact Data.noConfusion hd'
    exact ⟨c, u1, u2, e, ⟨o', (hs.2 c hne).trans ho', hc, n, hd'⟩, x1.keeps ho hd hs, x2.keeps ho hd hs⟩
theorem tup2_inj {h : Heap} {c c' : Addr} {u1 u2 v1 v2 : Value} (q : Value.ref c = .ref c') (t : h.IsTuple c #[u1, u2]) (t' : h.IsTuple c' #[v1, v2]) : u1 = v1 ∧ u2 = v2 := by
  obtain rfl := Value.ref.inj q
  obtain ⟨o, ho, _, n, hd⟩ := t
  obtain ⟨o', ho', _, n', hd'⟩ := t'
  obtain rfl := Option.some.inj (ho.symm.trans ho')
  obtain ⟨e, _⟩ := Data.seq.inj (hd.symm.trans hd')
  obtain ⟨e1, e2⟩ := List.cons.inj (congrArg Array.toList e)
  exact ⟨e1, (List.cons.inj e2).1⟩
theorem int_str {Q : Prop} {x : Int} {y : Str} {t u : Tok} (h : Value.int x t = .str y u) : Q := Value.noConfusion h
theorem int_ref {Q : Prop} {x : Int} {y : Addr} {t : Tok} (h : Value.int x t = .ref y) : Q := Value.noConfusion h
theorem str_ref {Q : Prop} {x : Str} {y : Addr} {t : Tok} (h : Value.str x t = .ref y) : Q := Value.noConfusion h
theorem KIs.inj {h : Heap} : ∀ {a b : KD} {v : Value}, KIs h a v → KIs h b v → a = b
  | .i x, b, v, ha, hb => by
    obtain ⟨_, rfl⟩ := ha
    induction b using Mine.KD.casesOn with
    | i y => obtain ⟨_, q⟩ := hb; rw [(Value.int.inj q).1]
    | s y => obtain ⟨_, q⟩ := hb; exact int_str q
    | p _ _ => obtain ⟨_, _, _, q, _⟩ := hb; exact int_ref q
  | .s x, b, v, ha, hb => by
    obtain ⟨_, rfl⟩ := ha
    induction b using Mine.KD.casesOn with
    | i y => obtain ⟨_, q⟩ := hb; exact int_str q.symm
    | s y => obtain ⟨_, q⟩ := hb; rw [(Value.str.inj q).1]
    | p _ _ => obtain ⟨_, _, _, q, _⟩ := hb; exact str_ref q
  | .p a b, k, v, ha, hb => by
    obtain ⟨_, u1, u2, rfl, t, x1, x2⟩ := ha
    induction k using Mine.KD.casesOn with
    | i y => obtain ⟨_, q⟩ := hb; exact int_ref q.symm
    | s y => obtain ⟨_, q⟩ := hb; exact str_ref q.symm
    | p c d =>
      obtain ⟨_, v1, v2, q, t', y1, y2⟩ := hb
      obtain ⟨e1, e2⟩ := tup2_inj q t t'
      rw [x1.inj (e1 ▸ y1), x2.inj (e2 ▸ y2)]

section
variable {prog : Program} {w : World} {A : Around} {E : Value → Shared → Prop} {s : Shared}
theorem EqAt.of_b {u v : Value} {a b : Bool} (h : EqAt A s u v a) (e : a = b) : EqAt A s u v b := e ▸ h
theorem eq_pp {a b c d : KD} {x y : Addr} {u1 u2 v1 v2 : Value} (hu : A.units + 1 < cLine) (t : s.heap.IsTuple x #[u1, u2]) (t' : s.heap.IsTuple y #[v1, v2]) (x1 : KIs s.heap a u1) (x2 : KIs s.heap b u2) (y1 : KIs s.heap c v1) (y2 : KIs s.heap d v2)
    (e1 : EqAt A.in1 s u1 v1 (decide (a = c))) (e2 : EqAt A.in1 s u2 v2 (decide (b = d))) : EqAt A s (.ref x) (.ref y) (decide (KD.p a b = KD.p c d)) := by
  by_cases hxy : x = y
  · subst hxy
    obtain ⟨q1, q2⟩ := tup2_inj rfl t t'
    rw [x1.inj (q1 ▸ y1), x2.inj (q2 ▸ y2)]
    exact EqAt.of_b (EqAt.same _) (decide_eq_true rfl).symm
  · refine EqAt.of_refs hxy ?_
    have := RcAt.tuples (A := A) (e := fun j => match j with | 0 => decide (a = c) | _ => decide (b = d)) t t' (Nat.lt_of_succ_lt hu) (fun j h1 h2 => by
      match j with
      | 0 => exact e1
      | 1 => exact e2
      | j + 2 => exact absurd h1 (Nat.not_lt.mpr (Nat.le_add_left 2 j)))
    have e3 : ((List.range (min #[u1, u2].size #[v1, v2].size)).all (fun j => match j with | 0 => decide (a = c) | _ => decide (b = d)) && #[u1, u2].size == #[v1, v2].size) = decide (KD.p a b = KD.p c d) := by
      show ((decide (a = c) && (decide (b = d) && true)) && true) = _
      simp
    rw [e3] at this
    exact this
theorem no_dec {P : Prop} [Decidable P] (h : ¬P) : false = decide P := (decide_eq_false h).symm
theorem eq_kd : ∀ {a b : KD} {u v : Value} {A : Around}, A.units + a.dep < cLine → KIs s.heap a u → KIs s.heap b v → EqAt A s u v (decide (a = b))
  | .i x, b, u, v, A, hu, ha, hb => by
    obtain ⟨_, rfl⟩ := ha
    induction b using Mine.KD.casesOn with
    | i y => obtain ⟨_, rfl⟩ := hb; exact EqAt.of_b (EqAt.int_int _ _ _ _) (by by_cases h : x = y <;> simp [h])
    | s y => obtain ⟨_, rfl⟩ := hb; exact EqAt.of_b (EqAt.int_str _ _ _ _) (no_dec nofun)
    | p _ _ => obtain ⟨_, _, _, rfl, t, _⟩ := hb; exact EqAt.of_b (EqAt.int_tuple _ _ t (Nat.lt_of_le_of_lt (Nat.le_add_right _ _) hu)) (no_dec nofun)
  | .s x, b, u, v, A, hu, ha, hb => by
    obtain ⟨_, rfl⟩ := ha
    induction b using Mine.KD.casesOn with
    | i y => obtain ⟨_, rfl⟩ := hb; exact EqAt.of_b (EqAt.str_int _ _ _ _) (no_dec nofun)
    | s y => obtain ⟨_, rfl⟩ := hb; exact EqAt.of_b (EqAt.str_str _ _ _ _) (by by_cases h : x = y <;> simp [h])
    | p _ _ => obtain ⟨_, _, _, rfl, t, _⟩ := hb; exact EqAt.of_b (EqAt.str_tuple _ _ t (Nat.lt_of_le_of_lt (Nat.le_add_right _ _) hu)) (no_dec nofun)
  | .p a b, k, u, v, A, hu, ha, hb => by
    obtain ⟨x, u1, u2, rfl, t, x1, x2⟩ := ha
    have hu : A.units + (Nat.max a.dep b.dep + 1) < cLine := hu
    have m1 : a.dep ≤ Nat.max a.dep b.dep := Nat.le_max_left _ _
    have m2 : b.dep ≤ Nat.max a.dep b.dep := Nat.le_max_right _ _
    have h0 : A.units + 1 < cLine := by omega
    induction k using Mine.KD.casesOn with
    | i y => obtain ⟨_, rfl⟩ := hb; exact EqAt.of_b (EqAt.tuple_int _ _ t (by omega)) (no_dec nofun)
    | s y => obtain ⟨_, rfl⟩ := hb; exact EqAt.of_b (EqAt.tuple_str _ _ t (by omega)) (no_dec nofun)
    | p c d =>
      obtain ⟨y, v1, v2, rfl, t', y1, y2⟩ := hb
      exact eq_pp h0 t t' x1 x2 y1 y2 (eq_kd (by show A.units + 1 + a.dep < cLine; omega) x1 y1) (eq_kd (by show A.units + 1 + b.dep < cLine; omega) x2 y2)

theorem hash_kd : ∀ {k : KD} {v : Value} {A : Around} {E : Value → Shared → Prop} {s : Shared} {Q : Int → Shared → Prop}, A.units + k.dep < cLine → KIs s.heap k v → Q (khash w.params.strHash k) { s with toks := s.toks + k.drw } → wpAny (model prog w) A (pyHash v) Q E s
  | .i _, _, _, _, _, _, _, x, h => by obtain ⟨_, rfl⟩ := x; exact wpAny_pyHash_int h
  | .s _, _, _, _, _, _, _, x, h => by obtain ⟨_, rfl⟩ := x; exact wpAny_pyHash_str h
  | .p a b, _, A, E, s, Q, hu, x, h => by
    obtain ⟨c, u1, u2, rfl, t, x1, x2⟩ := x
    have hu : A.units + (Nat.max a.dep b.dep + 1) < cLine := hu
    have m1 : a.dep ≤ Nat.max a.dep b.dep := Nat.le_max_left _ _
    have m2 : b.dep ≤ Nat.max a.dep b.dep := Nat.le_max_right _ _
    obtain ⟨o, ho, hc, n, hd⟩ := t
    have hT : s.TypeIs (.ref c) "tuple" := ⟨o, ho, hc⟩
    unfold pyHash
    first | unfold pyHashByItsType | skip
    first | refine wpAny_bind (wpAny_cRoomFor_or (.inr (by omega)) ?_) | skip
    refine wpAny_bind (wpAny_specialOf hT F.slot_tuple_hash.lookup ?_)
    show wpAny _ _ (if (some (Value.builtin "tuple.__hash__") == some Value.none) = true then _ else _) Q E s
    rw [if_neg (by rw [beq_builtin_none]; exact Bool.false_ne_true)]
    refine wpAny_bind (wpAny_specialOf hT F.slot_tuple_hash.lookup ?_)
    show wpAny _ _ (callSpecialIfBoundUnlessNone? (.ref c) "__hash__" _ >>= _) Q E s
    refine wpAny_bind (wpAny_callSpecialIfBoundUnlessNone?_slot hT F.slot_tuple_hash (wpAny_call_entry F.slot_tuple_hash hT F.entry_tuple_hash ?_ (F.args_tuple_hash_1 _)))
    show wpAny _ _ (Builtin.Tuple.tupleItemsOf (.ref c) >>= _) _ _ s
    refine wpAny_bind (wpAny_tupleItemsOf ho hd ?_)
    refine wpAny_bind ?_
    rw [← Array.forIn_toList]
    show wpAny _ _ (forIn [u1, u2] _ _) _ _ s
    simp only [List.forIn_cons, List.forIn_nil]
    refine wpAny_bind ?_
    refine wpAny_bind (hash_kd (by show A.units + 1 + a.dep < cLine; omega) x1 ?_)
    refine wpAny_pure ?_
    refine wpAny_bind ?_
    refine wpAny_bind (hash_kd (s := { s with toks := s.toks + a.drw }) (by show A.units + 1 + b.dep < cLine; omega) x2 ?_)
    refine wpAny_pure ?_
    refine wpAny_pure ?_
    show wpAny _ _ (retInt (Builtin.Tuple.tupleHashOf [khash w.params.strHash a, khash w.params.strHash b])) _ _ _
    refine wpAny_ret_mkInt ?_
    show wpAny _ _ (if (decide (-(2 : Int) ^ 63 ≤ Builtin.Tuple.tupleHashOf [khash w.params.strHash a, khash w.params.strHash b]) && decide (Builtin.Tuple.tupleHashOf [khash w.params.strHash a, khash w.params.strHash b] < 2 ^ 63)) = true then _ else _) Q E _
    unfold khash reduceHash at h
    by_cases hr : (decide (-(2 : Int) ^ 63 ≤ Builtin.Tuple.tupleHashOf [khash w.params.strHash a, khash w.params.strHash b]) && decide (Builtin.Tuple.tupleHashOf [khash w.params.strHash a, khash w.params.strHash b] < 2 ^ 63)) = true
    · rw [if_pos hr]
      rw [if_pos hr] at h
      exact wpAny_pure (by simpa [KD.drw, Nat.add_assoc] using h)
    · rw [if_neg hr]
      rw [if_neg hr] at h
      exact wpAny_bind (wpAny_rule (wpAny_pure (by simpa [KD.drw, Nat.add_assoc] using h)))

theorem quiet_kd : ∀ {k : KD} {v : Value} {d : Nat} {E : Value → Shared → Prop} {Q : Bool → Shared → Prop}, k.dep ≤ d → KIs s.heap k v → Q true s → wpAny (model prog w) A (eqIsQuiet d v) Q E s
  | .i _, _, d, _, _, _, x, h => by obtain ⟨_, rfl⟩ := x; induction d using Nat.casesOn <;> exact wpAny_pure h
  | .s _, _, d, _, _, _, x, h => by obtain ⟨_, rfl⟩ := x; induction d using Nat.casesOn <;> exact wpAny_pure h
  | .p a b, _, d, E, Q, hu, x, h => by
    obtain ⟨c, u1, u2, rfl, t, x1, x2⟩ := x
    have hu : Nat.max a.dep b.dep + 1 ≤ d := hu
    have m1 : a.dep ≤ Nat.max a.dep b.dep := Nat.le_max_left _ _
    have m2 : b.dep ≤ Nat.max a.dep b.dep := Nat.le_max_right _ _
    obtain ⟨o, ho, hc, n, hd⟩ := t
    have hT : s.TypeIs (.ref c) "tuple" := ⟨o, ho, hc⟩
    cases d with
    | zero => omega
    | succ d =>
      unfold eqIsQuiet
      refine wpAny_bind (wpAny_specialOf hT F.slot_tuple_eq.lookup ?_)
      show wpAny _ _ (isInstance (.ref c) (.type "tuple") >>= _) _ _ s
      refine wpAny_bind (wpAny_isInstance hT isSubtype_tuple_tuple ?_)
      simp only [Bool.not_true, Bool.false_eq_true, if_false]
      refine wpAny_bind (wpAny_seqItems ho hd ?_)
      refine wpAny_bind ?_
      show wpAny _ _ (forIn #[u1, u2] _ _) _ _ s
      rw [← Array.forIn_toList]
      show wpAny _ _ (forIn [u1, u2] _ _) _ _ s
      simp only [List.forIn_cons, List.forIn_nil]
      refine wpAny_bind ?_
      refine wpAny_bind (quiet_kd (by omega) x1 ?_)
      simp only [Bool.not_true, Bool.false_eq_true, if_false]
      refine wpAny_pure ?_
      refine wpAny_bind ?_
      refine wpAny_bind (quiet_kd (by omega) x2 ?_)
      simp only [Bool.not_true, Bool.false_eq_true, if_false]
      refine wpAny_pure ?_
      exact wpAny_pure (wpAny_pure h)
end
theorem kd_dec (x y : KD × KD) : decide (KD.p x.1 x.2 = KD.p y.1 y.2) = decide (x = y) := by
  obtain ⟨x1, x2⟩ := x
  obtain ⟨y1, y2⟩ := y
  simp
/-- pairs as keys -/
noncomputable def kdKind (prog : Program) (w : World) : HeapKind prog w (KD × KD) where
  is := fun h k c => KIs h (.p k.1 k.2) (.ref c) ∧ (KD.p k.1 k.2).dep ≤ 8
  hash := fun k => khash w.params.strHash (.p k.1 k.2)
  draws := fun k => (KD.p k.1 k.2).drw
  room := fun A => A.units + 8 < cLine
  inj := fun hx hy => by have := hx.1.inj hy.1; injection this with e1 e2; exact Prod.ext e1 e2
  keeps := fun x ho hd hs => ⟨x.1.keeps ho hd hs, x.2⟩
  pyHash := fun hu hk h => hash_kd (by have := hk.2; omega) hk.1 h
  eqBool := fun hu hx hy h => eq_kd (by have := hx.2; omega) hx.1 hy.1 _ _ _ _ (by rw [kd_dec]; exact h)
  quiet := fun hk h => quiet_kd hk.2 hk.1 h
end Mine

namespace Mine
open PySem PySem.W PySem.Calls PyProof.Rows PySem.SeqAt
open Sem (wp)
set_option maxRecDepth 100000

noncomputable def kdq : KD → KD → Bool
  | .i a, .i b => decide (a = b)
  | .s a, .s b => sq a b
  | .p a b, .p c d => match kdq a c with
    | true => kdq b d
    | false => false
  | _, _ => false
theorem kd_ff {a b : KD} (h : ¬ a = b) : false = decide (a = b) := (decide_eq_false h).symm
theorem kdq_is : ∀ {a b : KD}, kdq a b = decide (a = b)
  | .i a, .i b => by
    show decide (a = b) = _
    by_cases h : a = b
    · rw [decide_eq_true h, decide_eq_true (by rw [h])]
    · rw [decide_eq_false h, decide_eq_false fun e => h (KD.i.inj e)]
  | .s a, .s b => by
    show sq a b = _
    by_cases h : a = b
    · rw [h, sq_refl, decide_eq_true rfl]
    · rw [sq_ne h, decide_eq_false fun e => h (KD.s.inj e)]
  | .p a b, .p c d => by
    show (match kdq a c with | true => kdq b d | false => false) = _
    rw [kdq_is (a := a) (b := c)]
    by_cases h : a = c
    · rw [decide_eq_true h]
      show kdq b d = _
      rw [kdq_is (a := b) (b := d)]
      by_cases q : b = d
      · rw [decide_eq_true q, decide_eq_true (by rw [h, q])]
      · rw [decide_eq_false q, decide_eq_false fun e => q (KD.p.inj e).2]
    · rw [decide_eq_false h, decide_eq_false fun e => h (KD.p.inj e).1]
  | .i _, .s _ => kd_ff fun e => nomatch e
  | .i _, .p _ _ => kd_ff fun e => nomatch e
  | .s _, .i _ => kd_ff fun e => nomatch e
  | .s _, .p _ _ => kd_ff fun e => nomatch e
  | .p _ _, .i _ => kd_ff fun e => nomatch e
  | .p _ _, .s _ => kd_ff fun e => nomatch e
noncomputable def kfind (k : KD) : List KD → Option Nat
  | [] => none
  | x :: r => match kdq x k with
    | true => some 0
    | false => match kfind k r with
      | some i => some (i + 1)
      | none => none
theorem kfind_some {k : KD} : ∀ {l : List KD} {i : Nat}, kfind k l = some i → l[i]? = some k
  | [], _, h => by exact no_some h
  | x :: r, i, h => by
    unfold kfind at h
    cases q : kdq x k with
    | true =>
      rw [q] at h
      obtain rfl := Option.some.inj h
      rw [kdq_is] at q
      simp [of_decide_eq_true q]
    | false =>
      rw [q] at h
      dsimp only at h
      cases z : kfind k r with
      | none => rw [z] at h; exact no_some h
      | some j => rw [z] at h; obtain rfl := Option.some.inj h; rw [List.getElem?_cons_succ]; exact kfind_some z
theorem kfind_none {k : KD} : ∀ {l : List KD}, kfind k l = none → k ∉ l
  | [], _ => List.not_mem_nil
  | x :: r, h => by
    unfold kfind at h
    cases q : kdq x k with
    | true => rw [q] at h; exact no_some h.symm
    | false =>
      rw [q] at h
      dsimp only at h
      cases z : kfind k r with
      | some j => rw [z] at h; exact no_some h.symm
      | none =>
        intro hm
        rcases List.mem_cons.mp hm with e | hm
        · rw [kdq_is] at q; exact of_decide_eq_false q e.symm
        · exact kfind_none z hm
/-- ints, texts, pairs -/
noncomputable def KD.cls : KD → Nat
  | .i _ => 0
  | .s _ => 1
  | .p _ _ => 2
structure KE (h : Heap) (hs : Array Nat → Int) (k : KD) (e : DictEntry) : Prop where
  is : KIs h k e.key
  hash : e.hash = khash hs k
  dep : k.dep ≤ 8

section
variable {prog : Program} {w : World} {A : Around} {E : Value → Shared → Prop} {s : Shared} {d : Addr} {ds : List DictEntry} {n : Nat}
theorem All2.get' {α β : Type} {R : α → β → Prop} {as : List α} {bs : List β} (h : All2 R as bs) {i : Nat} {b : β} (e : bs[i]? = some b) : ∃ a, as[i]? = some a ∧ R a b := by
  induction h generalizing i with
  | nil => induction i using Nat.casesOn <;> exact no_some e
  | cons h _ ih => induction i using Nat.casesOn with
    | zero => exact ⟨_, rfl, Option.some.inj e ▸ h⟩
    | succ i => exact ih (i := i) e
theorem find_int {h : Heap} {hs : Array Nat → Int} {x : Int} : ∀ {ks : List KD} {ds : List DictEntry}, All2 (KE h hs) ks ds → (∀ k ∈ ks, k.cls = 0) → (ds.findIdx? fun e => Value.isInt x e.key) = kfind (.i x) ks
  | _, _, .nil, _ => rfl
  | k :: ks, e :: ds, .cons q t, hc => by
    have h0 := hc k (.head _)
    induction k using Mine.KD.casesOn with
    | s _ => cases h0
    | p _ _ => cases h0
    | i y =>
      obtain ⟨tk, hk⟩ := q.is
      rw [List.findIdx?_cons, hk]
      have e1 : Value.isInt x (.int y tk) = kdq (.i y) (.i x) := by
        unfold kdq Value.isInt
        by_cases hxy : y = x
        · subst hxy; simp
        · simp [hxy]
      rw [e1]
      unfold kfind
      cases kdq (.i y) (.i x) with
      | true => rfl
      | false =>
        rw [find_int t fun k hk => hc k (.tail _ hk)]
        cases kfind (.i x) ks <;> rfl
theorem find_str {h : Heap} {hs : Array Nat → Int} {x : Str} : ∀ {ks : List KD} {ds : List DictEntry}, All2 (KE h hs) ks ds → (∀ k ∈ ks, k.cls = 1) → (ds.findIdx? fun e => Value.isStrOf x e.key) = kfind (.s x) ks
  | _, _, .nil, _ => rfl
  | k :: ks, e :: ds, .cons q t, hc => by
    have h0 := hc k (.head _)
    induction k using Mine.KD.casesOn with
    | i _ => cases h0
    | p _ _ => cases h0
    | s y =>
      obtain ⟨tk, hk⟩ := q.is
      rw [List.findIdx?_cons, hk]
      have e1 : Value.isStrOf x (.str y tk) = kdq (.s y) (.s x) := by
        show (y == x) = sq y x
        by_cases hxy : y = x
        · subst hxy; simp [sq_refl]
        · rw [sq_ne hxy]; simp [hxy]
      rw [e1]
      unfold kfind
      cases kdq (.s y) (.s x) with
      | true => rfl
      | false =>
        rw [find_str t fun k hk => hc k (.tail _ hk)]
        cases kfind (.s x) ks <;> rfl
theorem pairs_of {h : Heap} : ∀ {ks : List KD} {ds : List DictEntry}, All2 (KE h w.params.strHash) ks ds → (∀ k ∈ ks, k.cls = 2) →
    ∃ xs : List ((KD × KD) × Addr × Value), ds = xs.map (entryOfKey (kdKind prog w)) ∧ (∀ x ∈ xs, (kdKind prog w).is h x.1 x.2.1) ∧ ks = xs.map fun x => KD.p x.1.1 x.1.2
  | _, _, .nil, _ => ⟨[], rfl, fun _ h => absurd h List.not_mem_nil, rfl⟩
  | k :: ks, e :: ds, .cons q t, hc => by
    have h0 := hc k (.head _)
    induction k using Mine.KD.casesOn with
    | i _ => cases h0
    | s _ => cases h0
    | p a b =>
      obtain ⟨xs, h1, h2, h3⟩ := pairs_of t fun k hk => hc k (.tail _ hk)
      obtain ⟨c, u1, u2, e1, e2⟩ := q.is
      refine ⟨((a, b), c, e.val) :: xs, ?_, fun x hx => ?_, by rw [List.map_cons, h3]⟩
      · rw [List.map_cons, ← h1]
        congr 1
        obtain ⟨eh, ek, evv⟩ := e
        have hh := q.hash
        simp only at e1 hh
        subst e1 hh
        rfl
      · rcases List.mem_cons.mp hx with rfl | hx
        · exact ⟨e1 ▸ q.is, q.dep⟩
        · exact h2 x hx

/-- what is asked of a dict, by a key -/
structure KAt (prog : Program) (w : World) (A : Around) (s : Shared) (d : Addr) (ds : List DictEntry) (n : Nat) (v : Value) (hsh : Int) (dr : Nat) (r : Option Nat) : Prop where
  obj : s.heap.get? d = some (dictOf ds n)
  hash : ∀ (E : Value → Shared → Prop) (Q : Int → Shared → Prop), Q hsh { s with toks := s.toks + dr } → wpAny (model prog w) A (pyHash v) Q E s
  find : ∀ (t : Nat) (E : Value → Shared → Prop) (Q : Option Nat → Shared → Prop), Q r { s with toks := t } → wpAny (model prog w) A (dictFind d v hsh) Q E { s with toks := t }
  rng : ∀ i, r = some i → i < ds.length
theorem KAt.of {ks : List KD} {k : KD} {v : Value} (ho : s.heap.get? d = some (dictOf ds n)) (hk : All2 (KE s.heap w.params.strHash) ks ds) (nd : ks.Nodup) (hc : ∀ x ∈ ks, x.cls = k.cls) (hu : A.units + 8 < cLine) (hv : KIs s.heap k v) (hd : k.dep ≤ 8) :
    KAt prog w A s d ds n v (khash w.params.strHash k) k.drw (kfind k ks) := by
  have hlen := hk.length
  refine ⟨ho, fun E Q h => hash_kd (by omega) hv h, fun t E Q h => ?_, fun i hi => ?_⟩
  · induction k using Mine.KD.casesOn with
    | i x =>
      have : (intKind prog w).is x v = true := by
        obtain ⟨tk, e⟩ := hv
        subst e
        simp [intKind, Value.isInt]
      refine wpAny_dictFind_of (knd := intKind prog w) (s := { s with toks := t }) (es := ds.toArray) this ho rfl ?_ ?_
      · intro e he
        obtain ⟨j, hj, rfl⟩ := List.mem_iff_getElem.mp (List.mem_toArray.mp he)
        obtain ⟨k', q1, q2⟩ := hk.get' (List.getElem?_eq_getElem hj)
        have hc' := hc k' (List.mem_of_getElem? q1)
        induction k' using Mine.KD.casesOn with
        | s _ => cases hc'
        | p _ _ => cases hc'
        | i y =>
          obtain ⟨tk, z⟩ := q2.is
          exact ⟨y, by rw [z]; simp [intKind, Value.isInt], q2.hash⟩
      · have := find_int (x := x) hk hc
        have e : (ds.toArray.findIdx? fun e => (intKind prog w).is x e.key) = kfind (.i x) ks := by rw [← this, List.findIdx?_toArray]; rfl
        rw [e]; exact h
    | s x =>
      have : (PySem.strKind prog w).is x v = true := by
        obtain ⟨tk, e⟩ := hv
        subst e
        simp [PySem.strKind, Value.isStrOf]
      refine wpAny_dictFind_of (knd := PySem.strKind prog w) (s := { s with toks := t }) (es := ds.toArray) this ho rfl ?_ ?_
      · intro e he
        obtain ⟨j, hj, rfl⟩ := List.mem_iff_getElem.mp (List.mem_toArray.mp he)
        obtain ⟨k', q1, q2⟩ := hk.get' (List.getElem?_eq_getElem hj)
        have hc' := hc k' (List.mem_of_getElem? q1)
        induction k' using Mine.KD.casesOn with
        | i _ => cases hc'
        | p _ _ => cases hc'
        | s y =>
          obtain ⟨tk, z⟩ := q2.is
          exact ⟨y, by rw [z]; simp [PySem.strKind, Value.isStrOf], q2.hash⟩
      · have := find_str (x := x) hk hc
        have e : (ds.toArray.findIdx? fun e => (PySem.strKind prog w).is x e.key) = kfind (.s x) ks := by rw [← this, List.findIdx?_toArray]; rfl
        rw [e]; exact h
    | p a b =>
      obtain ⟨xs, h1, h2, h3⟩ := pairs_of (prog := prog) hk hc
      obtain ⟨c, u1, u2, e1, e2⟩ := id hv
      subst e1
      have inj : Function.Injective fun x : KD × KD => KD.p x.1 x.2 := fun x y e => by
        injection e with e1 e2
        exact Prod.ext e1 e2
      have nd' : (xs.map (·.1)).Nodup := by
        rw [h3] at nd
        have e : (xs.map fun x => KD.p x.1.1 x.1.2) = (xs.map (·.1)).map fun x => KD.p x.1 x.2 := by rw [List.map_map]; rfl
        rw [e] at nd
        rw [List.nodup_iff_pairwise_ne, List.pairwise_map] at nd
        rw [List.nodup_iff_pairwise_ne]
        exact nd.imp fun h e => h (by rw [e])
      refine wpAny_dictFind_heap (knd := kdKind prog w) (k := (a, b)) (s := { s with toks := t }) (es := ds.toArray) hu ⟨hv, hd⟩ ho rfl h1 h2 nd' ?_ ?_
      · intro hno
        cases z : kfind (.p a b) ks with
        | none => rw [z] at h; exact h
        | some i =>
          exfalso
          have := kfind_some z
          rw [h3, List.getElem?_map] at this
          obtain ⟨x, hx, hx2⟩ := Option.map_eq_some_iff.mp this
          have hx2 := inj (a₁ := x.1) (a₂ := (a, b)) hx2
          exact hno i x.2 (by rw [hx, ← hx2])
      · intro j p hj
        have : ks[j]? = some (.p a b) := by rw [h3, List.getElem?_map, hj]; rfl
        cases z : kfind (.p a b) ks with
        | none => exact absurd (List.mem_of_getElem? this) (kfind_none z)
        | some i =>
          have hi := kfind_some z
          have hij : i = j := by
            have l1 := (List.getElem?_eq_some_iff.mp hi).1
            exact (List.getElem?_inj l1 nd).mp (hi.trans this.symm)
          rw [z, hij] at h
          exact h
  · have := kfind_some hi
    rw [← hlen]
    exact (List.getElem?_eq_some_iff.mp this).1
end
end Mine

namespace Mine
open PySem PySem.W PySem.Calls PyProof.Rows PySem.SeqAt
open Sem (wp)
set_option maxRecDepth 100000

/-! ## the dict's own works, by what its table tells -/
noncomputable def DictEntry.new (v : Value) (e : DictEntry) : DictEntry := { e with val := v }
noncomputable def valR (ds : List DictEntry) : Option Nat → Option Value
  | some i => ds[i]?.map (·.val)
  | none => none
theorem valR_some {ds : List DictEntry} {i : Nat} {e : DictEntry} (he : ds[i]? = some e) : valR ds (some i) = some e.val := by simp [valR, he]
section
variable {prog : Program} {w : World} {A : Around} {E : Value → Shared → Prop} {s : Shared} {d : Addr} {ds : List DictEntry} {n : Nat} {v : Value} {hsh : Int} {dr : Nat} {r : Option Nat}
theorem dict_is {s : Shared} {d : Addr} {ds : List DictEntry} {n : Nat} (h : s.heap.get? d = some (dictOf ds n)) : s.TypeIs (.ref d) "dict" := ⟨_, h, rfl⟩
theorem raw_get (K : KAt prog w A s d ds n v hsh dr r) {Q : Option Value → Shared → Prop} (h : Q (valR ds r) { s with toks := s.toks + dr }) : wpAny (model prog w) A (dictGet d v) Q E s := by
  unfold dictGet
  try with_reducible refine wpAny_holding ?_
  refine wpAny_bind (K.hash _ _ (wpAny_bind (K.find _ _ _ ?_)))
  cases hr : r with
  | none => rw [hr] at h; exact wpAny_pure h
  | some i =>
    rw [hr] at h
    refine wpAny_bind (wpAny_dictEntries (s := { s with toks := s.toks + dr }) (o := dictOf ds n) (es := ds.toArray) K.obj rfl ?_)
    refine wpAny_pure ?_
    simpa [valR] using h
theorem at_some (K : KAt prog w A s d ds n v hsh dr r) {i : Nat} (h : r = some i) : ∃ e, ds[i]? = some e := ⟨_, List.getElem?_eq_getElem (K.rng i h)⟩
theorem raw_in (K : KAt prog w A.in1 s d ds n v hsh dr r) (hd : (d == sysModules) = false) {Q : Bool → Shared → Prop} (h : Q r.isSome { s with toks := s.toks + dr }) : wpAny (model prog w) A (contains (.ref d) v) Q E s := by
  have hT := dict_is K.obj
  unfold contains
  try with_reducible refine wpAny_holding ?_
  refine wpAny_bind (wpAny_specialOf hT slot_dict_contains.lookup ?_)
  show wpAny _ _ (if (some (Value.builtin "dict.__contains__") == some Value.none) = true then _ else _) _ E s
  rw [if_neg (by rw [beq_builtin_none]; exact Bool.false_ne_true)]
  refine wpAny_bind (wpAny_callSpecialUnlessNone?_slot (name := Str.ofString "__contains__") hT slot_dict_contains
    (wpAny_call_entry slot_dict_contains hT entry_dict_contains ?_ (args_dict_contains _ _)))
  show wpAny _ _ (dictGet d v >>= _) _ _ s
  refine wpAny_bind (raw_get K ?_)
  cases hr : r with
  | some i =>
    rw [hr] at h
    obtain ⟨e, he⟩ := at_some K hr
    rw [valR_some he]
    show wpAny _ _ (ret (.bool true)) _ _ _
    exact wpAny_pure ⟨_, rfl, wpAny_truthy_bool h⟩
  | none =>
    rw [hr] at h
    show wpAny _ _ (Builtin.Dict.pendingKey? d v >>= _) _ _ _
    exact wpAny_bind (wpAny_pendingKey_other hd (wpAny_pure ⟨_, rfl, wpAny_truthy_bool h⟩))
theorem raw_item (K : KAt prog w A.in1 s d ds n v hsh dr r) {i : Nat} {e : DictEntry} (hr : r = some i) (he : ds[i]? = some e) {Q : Value → Shared → Prop} (h : Q e.val { s with toks := s.toks + dr }) : wpAny (model prog w) A (getItem (.ref d) v) Q E s := by
  have hT := dict_is K.obj
  unfold getItem
  try with_reducible refine wpAny_holding ?_
  refine wpAny_bind (wpAny_sequenceKey hT (by decide) ?_)
  refine wpAny_bind (wpAny_callSpecial?_slot (name := Str.ofString "__getitem__") hT slot_dict_getitem
    (wpAny_call_entry slot_dict_getitem hT entry_dict_getitem ?_ (args_dict_getitem _ _)))
  show wpAny _ _ (dictGet d v >>= _) _ _ s
  refine wpAny_bind (raw_get K ?_)
  rw [hr, valR_some he]
  exact wpAny_pure ⟨e.val, rfl, wpAny_pure h⟩
theorem raw_call_get1 (K : KAt prog w A.in1 s d ds n v hsh dr r) (hd : (d == sysModules) = false) {Q : Value → Shared → Prop} (h : Q ((valR ds r).getD .none) { s with toks := s.toks + dr }) : wpAny (model prog w) A (call (.builtin "dict.get") [.ref d, v]) Q E s := by
  have hT := dict_is K.obj
  refine call_meetsIn PySem.F.slot_dict_get hT PySem.F.entry_dict_get (PySem.F.args_dict_get_2 _ _) (S := fun A R s => KAt prog w A.in1 s d ds n v hsh dr r ∧ R (.ok (.ret ((valR ds r).getD .none))) { s with toks := s.toks + dr }) (.of_wp fun A R s ⟨K, h⟩ => ?_) ⟨K, h⟩
  show wpAny _ _ (dictGet d v >>= _) _ _ s
  refine wpAny_bind (raw_get K ?_)
  cases hr : r with
  | some i =>
    rw [hr] at h
    obtain ⟨e, he⟩ := at_some K hr
    rw [valR_some he] at h ⊢
    exact wpAny_pure ⟨e.val, rfl, h⟩
  | none =>
    rw [hr] at h
    show wpAny _ _ (Builtin.Dict.missed d v >>= _) _ _ _
    exact wpAny_bind (wpAny_missed_other hd (wpAny_pure ⟨.none, rfl, h⟩))
theorem raw_call_get2 {x : Value} (K : KAt prog w A.in1 s d ds n v hsh dr r) (hd : (d == sysModules) = false) {Q : Value → Shared → Prop} (h : Q ((valR ds r).getD x) { s with toks := s.toks + dr }) : wpAny (model prog w) A (call (.builtin "dict.get") [.ref d, v, x]) Q E s := by
  have hT := dict_is K.obj
  refine call_meetsIn PySem.F.slot_dict_get hT PySem.F.entry_dict_get (PySem.F.args_dict_get_3 _ _ _) (S := fun A R s => KAt prog w A.in1 s d ds n v hsh dr r ∧ R (.ok (.ret ((valR ds r).getD x))) { s with toks := s.toks + dr }) (.of_wp fun A R s ⟨K, h⟩ => ?_) ⟨K, h⟩
  show wpAny _ _ (dictGet d v >>= _) _ _ s
  refine wpAny_bind (raw_get K ?_)
  cases hr : r with
  | some i =>
    rw [hr] at h
    obtain ⟨e, he⟩ := at_some K hr
    rw [valR_some he] at h ⊢
    exact wpAny_pure ⟨e.val, rfl, h⟩
  | none =>
    rw [hr] at h
    show wpAny _ _ (Builtin.Dict.missed d v >>= _) _ _ _
    exact wpAny_bind (wpAny_missed_other hd (wpAny_pure ⟨x, rfl, h⟩))
/-- the table after a store -/
noncomputable def putD (ds : List DictEntry) (n : Nat) (hsh : Int) (k v : Value) : Option Nat → Obj
  | some i => dictOf (ds.modify i (DictEntry.new v)) n
  | none => dictOf (ds ++ [⟨hsh, k, v⟩]) (n + 1)
theorem raw_set {x : Value} (K : KAt prog w A.in1 s d ds n v hsh dr r) (hz : ds.length ≤ 1000) {Q : Unit → Shared → Prop} (h : ∀ h', h'.get? d = some (putD ds n hsh v x r) → Heap.SameBut d s.heap h' → Q () { s with heap := h', toks := s.toks + dr }) : wpAny (model prog w) A (setItem (.ref d) v x) Q E s := by
  have hT := dict_is K.obj
  have hsz : ds.toArray.size ≤ sizeLine := by rw [sizeLine_eq]; simp; omega
  unfold setItem
  try with_reducible refine wpAny_holding ?_
  refine wpAny_bind (wpAny_sequenceKey hT (by decide) ?_)
  refine wpAny_bind (wpAny_callSpecial?_slot (name := Str.ofString "__setitem__") hT slot_dict_setitem
    (wpAny_call_entry slot_dict_setitem hT entry_dict_setitem ?_ (args_dict_setitem _ _ _)))
  show wpAny _ _ (Builtin.Dict.notOrdered "__setitem__" ⟨[.ref d, v, x], []⟩ >>= _) _ _ s
  refine wpAny_bind (wpAny_notOrdered_dict hT ?_)
  show wpAny _ _ (dictSet d v x >>= _) _ _ s
  refine wpAny_bind ?_
  unfold dictSet
  try with_reducible refine wpAny_holding ?_
  refine wpAny_bind (K.hash _ _ ?_)
  unfold dictSetHashed
  try with_reducible refine wpAny_holding ?_
  refine wpAny_bind (K.find _ _ _ ?_)
  cases hr : r with
  | some i =>
    rw [hr] at h
    refine wpAny_bind (wpAny_rule (wpAny_bind (wpAny_updateDict (s := { s with toks := s.toks + dr }) (o := dictOf ds n) (es := ds.toArray) K.obj rfl (wpAny_point (wpAny_pure ⟨.none, rfl, wpAny_pure (h _ ?_ (Heap.SameBut.update ..))⟩)))))
    rw [Heap.get?_update_self _ K.obj (by rfl)]
    congr 1
    show ({ cls := _, data := Data.dict (ds.toArray.modify i _) n } : Obj) = dictOf (ds.modify i (DictEntry.new x)) n
    have : (ds.toArray.modify i fun e => { e with val := x }) = (ds.modify i (DictEntry.new x)).toArray := by
      apply Array.toList_inj.mp
      simp
      rfl
    rw [this]
  | none =>
    rw [hr] at h
    refine wpAny_bind (wpAny_rule (wpAny_updateDictKeys (hz := hsz) (s := { s with toks := s.toks + dr }) (o := dictOf ds n) (es := ds.toArray) K.obj rfl (wpAny_pure ⟨.none, rfl, wpAny_pure (h _ ?_ (Heap.SameBut.update ..))⟩)))
    rw [Heap.get?_update_self _ K.obj (by rfl)]
    congr 1
    show ({ cls := _, data := Data.dict (ds.toArray.push _) (n + 1) } : Obj) = dictOf (ds ++ [_]) (n + 1)
    simp
theorem raw_takeOut (K : KAt prog w A s d ds n v hsh dr r) (hz : ds.length ≤ 1000) {i : Nat} {e : DictEntry} (hr : r = some i) (he : ds[i]? = some e) {Q : Option DictEntry → Shared → Prop} (h : ∀ h', h'.get? d = some (dictOf (ds.eraseIdx i) (n + 1)) → Heap.SameBut d s.heap h' → Q (some e) { s with heap := h', toks := s.toks + dr }) :
    wpAny (model prog w) A (Builtin.Dict.takeOut d v) Q E s := by
  have hsz : ds.toArray.size ≤ sizeLine := by rw [sizeLine_eq]; simp; omega
  unfold Builtin.Dict.takeOut
  try with_reducible refine wpAny_holding ?_
  refine wpAny_bind (K.hash _ _ ?_)
  refine wpAny_bind (K.find _ _ _ ?_)
  rw [hr]
  refine wpAny_bind (wpAny_dictEntries (s := { s with toks := s.toks + dr }) (o := dictOf ds n) (es := ds.toArray) K.obj rfl ?_)
  have he' : ds.toArray[i]? = some e := by simpa using he
  rw [he']
  refine wpAny_bind (wpAny_updateDictKeys (hz := hsz) (s := { s with toks := s.toks + dr }) (o := dictOf ds n) (es := ds.toArray) K.obj rfl (wpAny_pure (h _ ?_ (Heap.SameBut.update ..))))
  rw [Heap.get?_update_self _ K.obj (by rfl)]
  congr 1
  show ({ cls := _, data := Data.dict (ds.toArray.eraseIdxIfInBounds i) (n + 1) } : Obj) = dictOf (ds.eraseIdx i) (n + 1)
  have : ds.toArray.eraseIdxIfInBounds i = (ds.eraseIdx i).toArray := by simp
  rw [this]
theorem raw_call_pop (K : KAt prog w A.in1 s d ds n v hsh dr r) (hz : ds.length ≤ 1000) (hd : (d == sysModules) = false) {i : Nat} {e : DictEntry} (hr : r = some i) (he : ds[i]? = some e) {Q : Value → Shared → Prop} (h : ∀ h', h'.get? d = some (dictOf (ds.eraseIdx i) (n + 1)) → Heap.SameBut d s.heap h' → Q e.val { s with heap := h', toks := s.toks + dr }) :
    wpAny (model prog w) A (call (.builtin "dict.pop") [.ref d, v]) Q E s := by
  have hT := dict_is K.obj
  refine call_meetsIn PySem.F.slot_dict_pop hT PySem.F.entry_dict_pop (PySem.F.args_dict_pop_2 _ _) (S := fun A R s => KAt prog w A.in1 s d ds n v hsh dr r ∧ ∀ h', h'.get? d = some (dictOf (ds.eraseIdx i) (n + 1)) → Heap.SameBut d s.heap h' → R (.ok (.ret e.val)) { s with heap := h', toks := s.toks + dr }) (.of_wp fun A R s ⟨K, h⟩ => ?_) ⟨K, h⟩
  have hT := dict_is K.obj
  unfold Builtin.«dict.pop»
  refine wpAny_bind ?_
  unfold Builtin.Dict.keyAndDefault
  refine wpAny_bind (wpAny_notOrdered_dict hT ?_)
  show wpAny _ _ (pure (d, v, none)) _ _ s
  refine wpAny_pure ?_
  have go : wpAny (model prog w) A.in1 (Builtin.Dict.takeOut d v) (fun old s' => wpAny (model prog w) A.in1 (do
      if old.isNone then Builtin.Dict.missedRemoval d v
      match old, (none : Option Value) with
      | some e, _ => letGo [e.key] [e.val]; ret e.val
      | none, some x => rule "dict.pop.default"; ret x
      | none, none => rule "dict.pop.keyerror"; raiseNew (← newExc (.type "KeyError") [v])) (fun fin s' => ∃ v, fin = Fin.done (Flow.ret v) ∧ R (Except.ok (Flow.ret v)) s') (fun e s' => R (Except.error e) s') s') (fun e s' => R (Except.error e) s') s := by
    refine raw_takeOut K hz hr he fun h' g1 g2 => ?_
    simp only [Option.isNone_some, Bool.false_eq_true, if_false]
    exact wpAny_bind (wpAny_letGo (wpAny_pure ⟨e.val, rfl, h h' g1 g2⟩))
  cases hp : (keyPart v).isSome with
  | true =>
    simp only [hp, if_true]
    refine wpAny_bind (wpAny_pure ?_)
    simp only [Bool.false_eq_true, if_false]
    exact wpAny_bind go
  | false =>
    simp only [hp, Bool.false_eq_true, if_false]
    refine wpAny_bind (wpAny_dictEntries (o := dictOf ds n) (es := ds.toArray) K.obj rfl ?_)
    refine wpAny_bind (wpAny_pure ?_)
    have : ds.toArray.isEmpty = false := by
      induction ds using List.casesOn with
      | nil => simp at he
      | cons _ _ => simp
    rw [this]
    simp only [Bool.false_eq_true, if_false]
    exact wpAny_bind go
end
end Mine

namespace Mine
open PySem PySem.W PySem.Calls PyProof.Rows PySem.SeqAt
open Sem (wp)
set_option maxRecDepth 100000

/-! ## the keys of a dict, one by one -/
section
variable {prog : Program} {w : World} {A : Around} {E : Value → Shared → Prop} {s : Shared} {d it : Addr} {ds : List DictEntry} {n i : Nat}
noncomputable def keyItOf (d : Addr) (i many n : Nat) : Obj := { cls := .type "dict_keyiterator", data := .fields #[.ref d, .int (i : Nat) 0, .int (many : Nat) 0, .int (n : Nat) 0] }
theorem raw_iter (ho : s.heap.get? d = some (dictOf ds n)) (hd : (d == sysModules) = false) {Q : Value → Shared → Prop} (h : Q (.ref s.heap.objs.size) { s with heap := s.heap.push (keyItOf d 0 ds.length n) }) : wpAny (model prog w) A (pyIter (.ref d)) Q E s := by
  have hT := dict_is ho
  refine wpAny_pyIter_slot hT F.slot_dict_iter (wpAny_call_entry F.slot_dict_iter hT F.entry_dict_iter ?_ (F.args_dict_iter_1 _))
  unfold Builtin.«dict.__iter__»
  refine wpAny_bind ?_
  unfold Builtin.Dict.dictSlotNone
  refine wpAny_bind (wpAny_notOrdered_dict hT ?_)
  show wpAny _ _ (pure (Value.ref d)) _ _ s
  refine wpAny_pure ?_
  show wpAny _ _ (Builtin.Dict.showsAll d >>= _) _ _ s
  unfold Builtin.Dict.showsAll
  rw [if_neg (by rw [hd]; exact Bool.false_ne_true)]
  refine wpAny_bind (wpAny_pure ?_)
  refine wpAny_bind (wpAny_dictEntries (o := dictOf ds n) (es := ds.toArray) ho rfl ?_)
  refine wpAny_bind (wpAny_dictEpoch (o := dictOf ds n) (es := ds.toArray) (ep := n) ho rfl ?_)
  refine wpAny_bind (wpAny_newObj_type (wpAny_pure ⟨_, rfl, "dict_keyiterator", _, ⟨_, Heap.get?_push_size _ rfl, rfl⟩, F.slot_dict_keyiterator_next.lookup, ?_⟩))
  simpa [keyItOf, rawInt] using h
theorem keyIt_is {many : Nat} (ho : s.heap.get? it = some (keyItOf d i many n)) : s.TypeIs (.ref it) "dict_keyiterator" := ⟨_, ho, rfl⟩
theorem raw_next {many : Nat} (hit : s.heap.get? it = some (keyItOf d i many n)) (ho : s.heap.get? d = some (dictOf ds n)) (hm : many = ds.length) {e : DictEntry} (he : ds[i]? = some e) {Q : Option Value → Shared → Prop}
    (h : ∀ h', h'.get? it = some (keyItOf d (i + 1) many n) → Heap.SameBut it s.heap h' → Q (some e.key) { s with heap := h' }) : wpAny (model prog w) A (pyNext (.ref it)) Q E s := by
  subst hm
  have hT := keyIt_is hit
  unfold pyNext
  refine wpAny_bind (wpAny_attempt (wpAny_callSpecial?_slot (name := Str.ofString "__next__") hT F.slot_dict_keyiterator_next
    (wpAny_call_entry F.slot_dict_keyiterator_next hT F.entry_dict_keyiterator_next ?_ (F.args_dict_keyiterator_next_1 _))))
  refine wpAny_bind (wpAny_pure ?_)
  refine wpAny_bind ?_
  refine wpAny_bind ?_
  first | refine wpAny_bind (wpAny_typeNameOfWhole_keyiter hT (wpAny_pure ?_)) | refine wpAny_bind (wpAny_typeNameOf_keyiter hT (wpAny_pure ?_))
  refine wpAny_bind (wpAny_fieldsOf hit rfl ?_)
  have hown : Builtin.Dict_items.ownsTuple "dict_keyiterator" = false := by decide
  rw [hown, if_neg Bool.false_ne_true]
  show wpAny _ _ (if (Value.ref d == Value.none) = true then _ else _) _ _ s
  rw [if_neg (show ¬ ((Value.ref d == Value.none) = true) from Bool.false_ne_true)]
  refine wpAny_bind (wpAny_pure ?_)
  refine wpAny_bind (wpAny_dictEntries (o := dictOf ds n) (es := ds.toArray) ho rfl ?_)
  rw [if_neg (by simp)]
  refine wpAny_bind (wpAny_pure ?_)
  refine wpAny_bind (wpAny_dictEpoch (o := dictOf ds n) (es := ds.toArray) (ep := n) ho rfl ?_)
  rw [if_neg (by simp)]
  refine wpAny_pure ?_
  have hlt : i < ds.length := (List.getElem?_eq_some_iff.mp he).1
  have he' : ds.toArray[i]? = some e := by simpa using he
  dsimp only
  rw [if_neg (show ¬ ((i : Int) < 0) from Int.not_lt.mpr (Int.natCast_nonneg _)), Int.toNat_natCast, he']
  dsimp only
  refine wpAny_bind ?_
  first | refine wpAny_bind (wpAny_typeNameOfWhole_keyiter hT (wpAny_pure ?_)) | refine wpAny_bind (wpAny_typeNameOf_keyiter hT (wpAny_pure ?_))
  refine wpAny_bind (wpAny_isOneOf_keyiter hT ?_)
  show wpAny _ _ (setField (.ref it) 1 (rawInt ((i : Int) + 1)) >>= _) _ _ s
  refine wpAny_bind (wpAny_setField hit rfl (by simp) ?_)
  have hit' : (s.heap.update it (Obj.mapFields (·.setIfInBounds 1 (rawInt ((i : Int) + 1))))).get? it = some (keyItOf d (i + 1) ds.length n) := by
    rw [Heap.get?_update_self _ hit (by rfl)]
    simp [keyItOf, Obj.mapFields, rawInt]
  refine wpAny_bind (wpAny_holding ?_)
  refine wpAny_bind (wpAny_isOneOf_keyiter (s := { s with heap := s.heap.update it (Obj.mapFields (·.setIfInBounds 1 (rawInt ((i : Int) + 1)))) }) (keyIt_is hit') ?_)
  show wpAny _ _ (pure e.key) _ _ _
  exact wpAny_pure (wpAny_pure ⟨_, rfl, wpAny_pure (h _ hit' (Heap.SameBut.update ..))⟩)
theorem raw_next_end {many : Nat} (hh : A.handled = none) (hit : s.heap.get? it = some (keyItOf d i many n)) (ho : s.heap.get? d = some (dictOf ds n)) (hm : many = ds.length) (he : ds[i]? = none) {Q : Option Value → Shared → Prop}
    (h : ∀ h', Heap.ExtBut it s.heap h' → Q none { s with heap := h' }) : wpAny (model prog w) A (pyNext (.ref it)) Q E s := by
  subst hm
  have hT := keyIt_is hit
  unfold pyNext
  refine wpAny_bind (wpAny_attempt (wpAny_callSpecial?_slot (name := Str.ofString "__next__") hT F.slot_dict_keyiterator_next
    (wpAny_call_entry F.slot_dict_keyiterator_next hT F.entry_dict_keyiterator_next ?_ (F.args_dict_keyiterator_next_1 _))))
  refine wpAny_bind (wpAny_pure ?_)
  refine wpAny_bind ?_
  refine wpAny_bind ?_
  first | refine wpAny_bind (wpAny_typeNameOfWhole_keyiter hT (wpAny_pure ?_)) | refine wpAny_bind (wpAny_typeNameOf_keyiter hT (wpAny_pure ?_))
  refine wpAny_bind (wpAny_fieldsOf hit rfl ?_)
  have hown : Builtin.Dict_items.ownsTuple "dict_keyiterator" = false := by decide
  rw [hown, if_neg Bool.false_ne_true]
  show wpAny _ _ (if (Value.ref d == Value.none) = true then _ else _) _ _ s
  rw [if_neg (show ¬ ((Value.ref d == Value.none) = true) from Bool.false_ne_true)]
  refine wpAny_bind (wpAny_pure ?_)
  refine wpAny_bind (wpAny_dictEntries (o := dictOf ds n) (es := ds.toArray) ho rfl ?_)
  rw [if_neg (by simp)]
  refine wpAny_bind (wpAny_pure ?_)
  refine wpAny_bind (wpAny_dictEpoch (o := dictOf ds n) (es := ds.toArray) (ep := n) ho rfl ?_)
  rw [if_neg (by simp)]
  refine wpAny_pure ?_
  have he' : ds.toArray[i]? = none := by simpa using he
  dsimp only
  rw [if_neg (show ¬ ((i : Int) < 0) from Int.not_lt.mpr (Int.natCast_nonneg _)), Int.toNat_natCast, he']
  dsimp only
  refine wpAny_bind ?_
  first | refine wpAny_bind (wpAny_typeNameOfWhole_keyiter hT (wpAny_pure ?_)) | refine wpAny_bind (wpAny_typeNameOf_keyiter hT (wpAny_pure ?_))
  show wpAny _ _ (setField (.ref it) 0 .none >>= _) _ _ s
  refine wpAny_bind (wpAny_setField hit rfl (by simp) ?_)
  show wpAny _ _ (newExc (.type "StopIteration") [] >>= _) _ _ _
  refine wpAny_bind ?_
  simp only [newExc, newTuple]
  refine wpAny_bind (wpAny_newObj_type ?_ (by size_fits))
  refine wpAny_bind (m := firstArgMember _ _) (wpAny_of_eq (a := Value.none) (by first | rfl | (simp only [firstArgMember]; rfl)) ?_)
  refine wpAny_newObj_type ?_ (by size_fits)
  simp only [raiseNew]
  refine wpAny_bind (wpAny_handled ?_)
  rw [show A.in1.handled = none from hh]
  refine wpAny_bind (wpAny_pure (wpAny_throw ?_))
  refine wpAny_bind (wpAny_isInstance (T := "StopIteration") (b := true) ⟨_, Heap.get?_push_size _ rfl, rfl⟩ isSubtype_stop ?_)
  exact wpAny_pure (h _ (((Heap.SameBut.update ..).extBut.push _).push _))
end
end Mine

namespace Mine
open PySem PySem.W PySem.Calls PyProof.Rows PySem.SeqAt
open Sem (wp)
set_option maxRecDepth 100000

/-! ## stacks without decoders: a decoder could hold a bytearray, and the frame facts do not tell -/
noncomputable def heldBy : List String := ["bytearray.__contains__", "bytearray.__mod__", "bytearray.__rmod__", "_struct.pack_into.held", "bytearray.find.held"]
noncomputable def notDec : Code → Bool
  | .builtin id _ => !(Builtin.Bytes.decodersThatHold.contains id) && !(heldBy.contains id)
  | _ => true
noncomputable def ND (Γ : Ctx) : Prop := notDec Γ.code = true ∧ ∀ x ∈ Γ.below, notDec x.1 = true
noncomputable def wpX {α : Type} (M : Model) (A : Around) (t : Sem α) (Q : α → Shared → Prop) (E : Value → Shared → Prop) (s : Shared) : Prop :=
  ∀ Γ p, Γ.In A → ND Γ → wp M Γ t (fun a _ s' => Q a s') (fun e _ s' => E e s') p s
noncomputable def codeX (M : Model) (A : Around) (c : Code) (R : Result → Shared → Prop) (s : Shared) : Prop :=
  ∀ Γ p, Γ.code = c → Γ.Below A → ND Γ → wpCode M Γ R p s
noncomputable def noE : Value → Shared → Prop := fun _ _ => False
section
variable {α β : Type} {M : Model} {A : Around} {E : Value → Shared → Prop} {s : Shared}
theorem xof {t : Sem α} {Q : α → Shared → Prop} (h : wpAny M A t Q E s) : wpX M A t Q E s := fun Γ p hΓ _ => h Γ p hΓ
theorem cof {c : Code} {R : Result → Shared → Prop} (h : codeAny M A c R s) : codeX M A c R s := fun Γ p hc hΓ _ => h Γ p hc hΓ
theorem xpure {a : α} {Q : α → Shared → Prop} (h : Q a s) : wpX M A (pure a) Q E s := fun _ _ _ _ => h
theorem xmono {t : Sem α} {Q Q' : α → Shared → Prop} {E' : Value → Shared → Prop} (h : wpX M A t Q E s) (hQ : ∀ a s, Q a s → Q' a s) (hE : ∀ e s, E e s → E' e s) : wpX M A t Q' E' s :=
  fun Γ p hΓ hN => Sem.wp_mono M Γ t (fun a _ s => hQ a s) (fun e _ s => hE e s) p s (h Γ p hΓ hN)
theorem xno {t : Sem α} {Q : α → Shared → Prop} (h : wpX M A t Q noE s) : wpX M A t Q E s := xmono h (fun _ _ q => q) fun _ _ q => q.elim
theorem xbind {m : Sem α} {f : α → Sem β} {Q : β → Shared → Prop} (h : wpX M A m (fun a s' => wpX M A (f a) Q E s') E s) : wpX M A (m >>= f) Q E s := fun Γ p hΓ hN => by
  rw [Sem.wp_bind']
  exact Sem.wp_mono M Γ m (fun a p' s' h' => h' Γ p' hΓ hN) (fun _ _ _ h' => h') p s (h Γ p hΓ hN)
/-- first a leaf, then on -/
theorem xleaf {m : Sem α} {f : α → Sem β} {Q : β → Shared → Prop} (h : wpAny M A m (fun a s' => wpX M A (f a) Q E s') E s) : wpX M A (m >>= f) Q E s := xbind (xof h)
theorem xlook {m : Sem α} {r : α} {f : α → Sem β} {Q : β → Shared → Prop} (x : Looks M s.heap m r) (h : wpX M A (f r) Q E s) : wpX M A (m >>= f) Q E s := xleaf (x.here h)
theorem xeq {m : Sem α} {r : α} {f : α → Sem β} {Q : β → Shared → Prop} (e : m = pure r) (h : wpX M A (f r) Q E s) : wpX M A (m >>= f) Q E s := xleaf (wpAny_of_eq e h)
theorem xstand {pos : Pos} {f : Unit → Sem β} {Q : β → Shared → Prop} (h : wpX M A (f ()) Q E s) : wpX M A (standAt pos >>= f) Q E s := xleaf (wpAny_standAt h)
theorem xhold {vs : List Value} {m : Sem α} {Q : α → Shared → Prop} (h : wpX M A m Q E s) : wpX M A (holding vs m) Q E s :=
  fun Γ p hΓ hN => by rw [Sem.wp_holding]; exact h Γ p hΓ hN
theorem xoper {vs : List Value} {m : Sem Value} {Q : Value → Shared → Prop} (h : wpX M A m Q E s) : wpX M A (operate vs m) Q E s :=
  fun Γ p hΓ hN => by rw [Sem.wp_operate]; exact h Γ p hΓ hN
theorem xonRaise {m : Sem α} {k : Value → Sem Unit} {Q : α → Shared → Prop} (h : wpX M A m Q (fun e s' => wpX M A (k e) (fun _ s'' => E e s'') E s') s) : wpX M A (m.onRaise k) Q E s := fun Γ p hΓ hN => by
  rw [Sem.wp_onRaise]
  exact Sem.wp_mono M Γ m (fun _ _ _ h' => h') (fun e p' s' h' => h' Γ p' hΓ hN) p s (h Γ p hΓ hN)
theorem xattempt {m : Sem α} {Q : Except Value α → Shared → Prop} (h : wpX M A m (fun a => Q (.ok a)) (fun e => Q (.error e)) s) : wpX M A m.attempt Q E s := fun Γ p hΓ hN => by rw [Sem.wp_attempt]; exact h Γ p hΓ hN
theorem cmono {c : Code} {R R' : Result → Shared → Prop} (h : codeX M A c R s) (hR : ∀ r s, R r s → R' r s) : codeX M A c R' s := fun Γ p hc hΓ hN => wpCode_mono hR (h Γ p hc hΓ hN)
theorem ND.enter {Γ : Ctx} (h : ND Γ) {c : Code} (hc : notDec c = true) (hd : Option Value) (p : Pos) : ND (Γ.enter c hd p) :=
  ⟨hc, fun x hx => by
    rcases List.mem_cons.mp hx with rfl | hx
    · exact h.1
    · exact h.2 x hx⟩
theorem ND.goto {Γ : Ctx} (h : ND Γ) {c : Code} (hc : notDec c = true) : ND (Γ.goto c) := ⟨hc, h.2⟩
theorem xrun {c : Code} {h : Option Value} {Q : Flow → Shared → Prop} (hn : notDec c = true) (hc : codeX M (A.mark h) c (fun r s' => match r with | .ok f => Q f s' | .error e => E e s') s) (hnb : h ≠ some byPass := by intro x; cases x) : wpX M A (run c h) Q E s :=
  fun Γ p hΓ hN => by rw [Sem.wp_run]; exact hc _ p rfl (hΓ.enter c h p hnb) (hN.enter hn h p)
theorem xrunValue {c : Code} {Q : Value → Shared → Prop} (hn : notDec c = true) (hc : codeX M A c (fun r s' => match r with | .ok (.ret v) => Q v s' | .ok _ => False | .error e => E e s') s) : wpX M A (runValue c) Q E s :=
  fun Γ p hΓ hN => by rw [Sem.wp_runValue]; exact hc _ p rfl (hΓ.enter c none p (by intro x; exact no_some x)) (hN.enter hn none p)
theorem xcall {f : Value} {pos : List Value} {kw : List (Str × Value)} {Q : Value → Shared → Prop} (hc : codeX M A (.call f ⟨pos, kw⟩) (fun r s' => match r with | .ok (.ret v) => Q v s' | .ok _ => False | .error e => E e s') s) : wpX M A (call f pos kw) Q E s := xrunValue rfl hc
noncomputable def FinX (M : Model) (A : Around) (R : Result → Shared → Prop) (fin : Fin) (s' : Shared) : Prop := match fin with
  | .done f => R (.ok f) s'
  | .again c' => c'.quiet = true ∧ notDec c' = true ∧ codeX M A c' R s'
theorem ctree {c : Code} {R : Result → Shared → Prop} (h : wpX M (A.under c) (M.den c) (FinX M A R) (fun e s' => R (.error e) s') s) : codeX M A c R s := fun Γ p hc hΓ hN => by
  rw [wpCode_iff_wp, hc]
  refine Sem.wp_mono M Γ _ (fun fin p' s' h' => ?_) (fun _ _ _ h' => h') p s (h Γ p (hc ▸ hΓ.in) hN)
  induction fin using PySem.Fin.casesOn with
  | done f => exact h'
  | again c' => exact ⟨h'.1, h'.2.2 (Γ.goto c') p' rfl (hΓ.goto c') (hN.goto h'.2.1)⟩
theorem cloop {c : Code} {R : Result → Shared → Prop} (hq : c.quiet = true) (hn : notDec c = true) (I : Nat → Shared → Prop)
    (turn : ∀ n s, I n s → wpX M (A.under c) (M.den c)
      (fun fin s' => match fin with
        | .done f => R (.ok f) s'
        | .again c' => (c' = c ∧ ∃ m, m < n ∧ I m s') ∨ (c'.quiet = true ∧ notDec c' = true ∧ codeX M A c' R s')) (fun e s' => R (.error e) s') s)
    (n : Nat) (h : I n s) : codeX M A c R s := by
  induction n using Nat.strongRecOn generalizing s with
  | ind n ih =>
    refine ctree (xmono (turn n s h) (fun fin s' hf => ?_) fun _ _ h' => h')
    induction fin using PySem.Fin.casesOn with
    | done f => exact hf
    | again c' =>
      rcases hf with ⟨rfl, m, hm, hI⟩ | hf
      · exact ⟨hq, hn, ih m hm hI⟩
      · exact hf
end

/-! ## nodes -/
section
variable {M : Model} {A : Around} {E : Value → Shared → Prop} {s : Shared} {env : Env}
theorem chain_last {pos : Pos} {a : Value} {op : CmpOp} {r : Sem Value} {Q : Value → Shared → Prop} (h : wpX M A r (fun b s₁ => wpX M A (compareOp op a b) Q E s₁) E s) : wpX M A (compareChain pos a [op] [r]) Q E s := by
  show wpX M A (do
    let rv ← holding [a] r
    standAt pos
    operate [a, rv] (compareOp op a rv)) Q E s
  exact xbind (xhold (xmono h (fun b s₁ h₁ => xstand (xoper h₁)) fun _ _ x => x))
theorem chain_link {pos : Pos} {a : Value} {op op' : CmpOp} {ops : List CmpOp} {r r' : Sem Value} {rs : List (Sem Value)} {Q : Value → Shared → Prop}
    (h : wpX M A r (fun b s₁ => wpX M A (compareOp op a b) (fun c s₂ => wpX M A (truthy c) (fun t s₃ => if t then wpX M A (compareChain pos b (op' :: ops) (r' :: rs)) Q E s₃ else Q c s₃) E s₂) E s₁) E s) :
    wpX M A (compareChain pos a (op :: op' :: ops) (r :: r' :: rs)) Q E s := by
  show wpX M A (do
    let rv ← holding [a] r
    standAt pos
    let c ← holding [a, rv] (compareOp op a rv)
    release [a, rv] [c]
    if ← holding [c, rv] (truthy c) then compareChain pos rv (op' :: ops) (r' :: rs) else pure c) Q E s
  refine xbind (xhold (xmono h (fun b s₁ h₁ => xstand (xbind (xhold (xmono h₁ (fun c s₂ h₂ => xleaf (wpAny_release' (xbind (xhold (xmono h₂ (fun t s₃ h₃ => ?_) fun _ _ x => x))))) fun _ _ x => x)))) fun _ _ x => x))
  induction t using Bool.casesOn with
  | false => exact xpure h₃
  | true => exact h₃
theorem test_last {pos : Pos} {a : Value} {op : CmpOp} {r : Sem Value} {Q : Bool → Shared → Prop} (h : wpX M A r (fun b s₁ => wpX M A (compareOp op a b) (fun c s₂ => wpX M A (truthy c) Q E s₂) E s₁) E s) : wpX M A (testChain pos a [op] [r]) Q E s := by
  show wpX M A (do
    let rv ← holding [a] r
    standAt pos
    let c ← operate [a, rv] (compareOp op a rv)
    holding [c] (truthy c)) Q E s
  exact xbind (xhold (xmono h (fun b s₁ h₁ => xstand (xbind (xoper (xmono h₁ (fun c s₂ h₂ => xhold h₂) fun _ _ x => x)))) fun _ _ x => x))
theorem test_link {pos : Pos} {a : Value} {op op' : CmpOp} {ops : List CmpOp} {r r' : Sem Value} {rs : List (Sem Value)} {Q : Bool → Shared → Prop}
    (h : wpX M A r (fun b s₁ => wpX M A (compareOp op a b) (fun c s₂ => wpX M A (truthy c) (fun t s₃ => if t then wpX M A (testChain pos b (op' :: ops) (r' :: rs)) Q E s₃ else Q false s₃) E s₂) E s₁) E s) :
    wpX M A (testChain pos a (op :: op' :: ops) (r :: r' :: rs)) Q E s := by
  show wpX M A (do
    let rv ← holding [a] r
    standAt pos
    let c ← holding [a, rv] (compareOp op a rv)
    release [a, rv] [c]
    if ← holding [c, rv] (truthy c) then testChain pos rv (op' :: ops) (r' :: rs) else pure false) Q E s
  refine xbind (xhold (xmono h (fun b s₁ h₁ => xstand (xbind (xhold (xmono h₁ (fun c s₂ h₂ => xleaf (wpAny_release' (xbind (xhold (xmono h₂ (fun t s₃ h₃ => ?_) fun _ _ x => x))))) fun _ _ x => x)))) fun _ _ x => x))
  induction t using Bool.casesOn with
  | false => exact xpure h₃
  | true => exact h₃
theorem spliced_none {pos : Pos} {Q : List Value → Shared → Prop} (h : Q [] s) : wpX M A (spliced (backTo pos (starEach [] env))) Q E s := xof (PyProof.Rows.spliced_none h)
theorem spliced_more {e : Expr} {rest : List Expr} {pos : Pos} {Q : List Value → Shared → Prop} (h : wpX M A (eval e env) (fun v s₁ => wpX M A (spliced (backTo pos (starEach rest env))) (fun vs s₂ => Q (v :: vs) s₂) E s₁) E s)
    (he : starEach (e :: rest) env = (false, eval e env) :: starEach rest env := by rfl) : wpX M A (spliced (backTo pos (starEach (e :: rest) env))) Q E s := by
  rw [he]
  show wpX M A (spliced ((false, eval e env) :: backTo pos (starEach rest env))) Q E s
  rw [spliced]
  refine xbind (xmono h (fun v s₁ h₁ => ?_) fun _ _ x => x)
  simp only [Bool.false_eq_true, if_false]
  exact xbind (xpure (xbind (xhold (xmono h₁ (fun vs s₂ h₂ => xpure h₂) fun _ _ x => x))))
theorem isTrue_IfExp {test body orelse pos whole} {Q : Bool → Shared → Prop}
    (h : wpX M A (isTrue test env (eval test env)) (fun c s₂ => if c then wpX M A (isTrue body env (eval body env)) Q E s₂ else wpX M A (isTrue orelse env (eval orelse env)) Q E s₂) E s) : wpX M A (isTrue (.IfExp test body orelse pos) env whole) Q E s := by
  show wpX M A (do if ← isTrue test env (eval test env) then isTrue body env (eval body env) else isTrue orelse env (eval orelse env)) Q E s
  refine xbind (xmono h (fun c s₂ h₂ => ?_) fun _ _ x => x)
  induction c using Bool.casesOn <;> exact h₂
theorem isTrue_and {x rest pos whole} {Q : Bool → Shared → Prop} (h : wpX M A (isTrue x env (eval x env)) (fun c s' => if c then wpX M A (isTrue (.BoolOp .And rest pos) env whole) Q E s' else Q false s') E s) : wpX M A (isTrue (.BoolOp .And (x :: rest) pos) env whole) Q E s := by
  show wpX M A (do
    match BoolOp.And, ← isTrue x env (eval x env) with
    | .And, false => pure false
    | .Or, true => pure true
    | _, _ => allTrue .And rest env) Q E s
  refine xbind (xmono h (fun c s' h' => ?_) fun _ _ x => x)
  induction c using Bool.casesOn with
  | false => exact xpure h'
  | true => exact h'
theorem isTrue_or {x rest pos whole} {Q : Bool → Shared → Prop} (h : wpX M A (isTrue x env (eval x env)) (fun c s' => if c then Q true s' else wpX M A (isTrue (.BoolOp .Or rest pos) env whole) Q E s') E s) : wpX M A (isTrue (.BoolOp .Or (x :: rest) pos) env whole) Q E s := by
  show wpX M A (do
    match BoolOp.Or, ← isTrue x env (eval x env) with
    | .And, false => pure false
    | .Or, true => pure true
    | _, _ => allTrue .Or rest env) Q E s
  refine xbind (xmono h (fun c s' h' => ?_) fun _ _ x => x)
  induction c using Bool.casesOn with
  | false => exact h'
  | true => exact xpure h'
theorem isTrue_chain {l op₁ op₂ ops r₁ r₂ rs pos whole} {Q : Bool → Shared → Prop} (h : wpX M A (eval l env) (fun a s₁ => wpX M A (testChain pos a (op₁ :: op₂ :: ops) (eval r₁ env :: eval r₂ env :: evalEach rs env)) Q E s₁) E s)
    (hm : lastMarks (op₁ :: op₂ :: ops) (r₁ :: r₂ :: rs) = false := by with_unfolding_all rfl) : wpX M A (isTrue (.Compare l (op₁ :: op₂ :: ops) (r₁ :: r₂ :: rs) pos) env whole) Q E s := by
  show wpX M A (do testChain pos (← eval l env) (op₁ :: op₂ :: ops) (markedEach (op₁ :: op₂ :: ops) (r₁ :: r₂ :: rs) (evalEach (r₁ :: r₂ :: rs) env))) Q E s
  rw [markedEach_of_false _ _ _ hm]
  exact xbind h
theorem isTrue_not {x pos whole} {Q : Bool → Shared → Prop} (h : wpX M A (isTrue x env (eval x env)) (fun c s' => Q (!c) s') E s) : wpX M A (isTrue (.UnaryOp .Not x pos) env whole) Q E s := by
  show wpX M A (do return !(← isTrue x env (eval x env))) Q E s
  exact xbind (xmono h (fun c s' h' => xpure h') fun _ _ x => x)
theorem isTrue_plain {e : Expr} {whole : Sem Value} {Q : Bool → Shared → Prop} (h : wpX M A whole (fun v s₁ => wpX M A (truthy v) Q E s₁) E s)
    (he : isTrue e env whole = (do let v ← whole; standAt e.pos; holding [v] (truthy v)) := by rfl) : wpX M A (isTrue e env whole) Q E s := by
  rw [he]
  exact xbind (xmono h (fun v s₁ h₁ => xstand (xhold h₁)) fun _ _ x => x)
theorem BoolOp_and {e₁ e₂ rest pos} {Q : Value → Shared → Prop} (h : wpX M A (eval e₁ env) (fun v s₁ => wpX M A (truthy v) (fun c s₂ => if c then wpX M A (eval (.BoolOp .And (e₂ :: rest) pos) env) Q E s₂ else Q v s₂) E s₁) E s) :
    wpX M A (eval (.BoolOp .And (e₁ :: e₂ :: rest) pos) env) Q E s := by
  show wpX M A (do
    let v ← eval e₁ env
    standAt pos
    let c ← holding [v] (truthy v)
    match BoolOp.And, c with
    | .And, false | .Or, true => pure v
    | _, _ => boolOp pos .And (eval e₂ env :: evalEach rest env)) Q E s
  refine xbind (xmono h (fun v s₁ h₁ => xstand (xbind (xhold (xmono h₁ (fun c s₂ h₂ => ?_) fun _ _ x => x)))) fun _ _ x => x)
  induction c using Bool.casesOn with
  | false => exact xpure h₂
  | true => exact h₂
theorem BoolOp_or {e₁ e₂ rest pos} {Q : Value → Shared → Prop} (h : wpX M A (eval e₁ env) (fun v s₁ => wpX M A (truthy v) (fun c s₂ => if c then Q v s₂ else wpX M A (eval (.BoolOp .Or (e₂ :: rest) pos) env) Q E s₂) E s₁) E s) :
    wpX M A (eval (.BoolOp .Or (e₁ :: e₂ :: rest) pos) env) Q E s := by
  show wpX M A (do
    let v ← eval e₁ env
    standAt pos
    let c ← holding [v] (truthy v)
    match BoolOp.Or, c with
    | .And, false | .Or, true => pure v
    | _, _ => boolOp pos .Or (eval e₂ env :: evalEach rest env)) Q E s
  refine xbind (xmono h (fun v s₁ h₁ => xstand (xbind (xhold (xmono h₁ (fun c s₂ h₂ => ?_) fun _ _ x => x)))) fun _ _ x => x)
  induction c using Bool.casesOn with
  | false => exact h₂
  | true => exact xpure h₂
theorem BoolOp_one {op e pos} {Q : Value → Shared → Prop} (h : wpX M A (eval e env) Q E s) : wpX M A (eval (.BoolOp op [e] pos) env) Q E s := h
theorem Compare_chain {l op₁ op₂ ops r₁ r₂ rs pos} {Q : Value → Shared → Prop} (h : wpX M A (eval l env) (fun a s₁ => wpX M A (compareChain pos a (op₁ :: op₂ :: ops) (eval r₁ env :: eval r₂ env :: evalEach rs env)) Q E s₁) E s)
    (hm : lastMarks (op₁ :: op₂ :: ops) (r₁ :: r₂ :: rs) = false := by with_unfolding_all rfl) : wpX M A (eval (.Compare l (op₁ :: op₂ :: ops) (r₁ :: r₂ :: rs) pos) env) Q E s := by
  show wpX M A (do compareChain pos (← eval l env) (op₁ :: op₂ :: ops) (markedEach (op₁ :: op₂ :: ops) (r₁ :: r₂ :: rs) (evalEach (r₁ :: r₂ :: rs) env))) Q E s
  rw [markedEach_of_false _ _ _ hm]
  exact xbind h
theorem Compare1 {l op r pos} {Q : Value → Shared → Prop} (h : wpX M A (eval l env) (fun a s₁ => wpX M A (eval r env) (fun b s₂ => wpX M A (compareOp op a b) Q E s₂) E s₁) E s) (hm : behindInMarks op r = false := by with_unfolding_all rfl) :
    wpX M A (eval (.Compare l [op] [r] pos) env) Q E s := fun Γ p hΓ hN => by
  simp only [eval_Compare1, markedBehindIn_of_false hm, Sem.wp_bind', Sem.wp_holding, Sem.wp_cmd_standAt, Sem.wp_operate]
  exact Sem.wp_mono M Γ _ (fun a p₁ s₁ h₁ => Sem.wp_mono M Γ _ (fun b _ s₂ h₂ => h₂ Γ _ hΓ hN) (fun _ _ _ h' => h') _ _ (h₁ Γ p₁ hΓ hN)) (fun _ _ _ h' => h') _ _ (h Γ p hΓ hN)
theorem isTrue_Compare1' {l op r pos whole} {Q : Bool → Shared → Prop} (h : wpX M A (eval l env) (fun a s₁ => wpX M A (eval r env) (fun b s₂ => wpX M A (compareOp op a b) (fun c s₃ => wpX M A (truthy c) Q E s₃) E s₂) E s₁) E s)
    (hm : behindInMarks op r = false := by with_unfolding_all rfl) : wpX M A (isTrue (.Compare l [op] [r] pos) env whole) Q E s := fun Γ p hΓ hN => by
  simp only [isTrue_Compare1, markedBehindIn_of_false hm, Sem.wp_bind', Sem.wp_holding, Sem.wp_cmd_standAt, Sem.wp_operate]
  exact Sem.wp_mono M Γ _ (fun a p₁ s₁ h₁ => Sem.wp_mono M Γ _ (fun b _ s₂ h₂ => Sem.wp_mono M Γ _ (fun c p₃ s₃ h₃ => h₃ Γ p₃ hΓ hN) (fun _ _ _ h' => h') _ _ (h₂ Γ _ hΓ hN)) (fun _ _ _ h' => h') _ _ (h₁ Γ p₁ hΓ hN)) (fun _ _ _ h' => h') _ _ (h Γ p hΓ hN)
theorem BinOp' {l op r pos} {Q : Value → Shared → Prop} (h : wpX M A (eval l env) (fun a s₁ => wpX M A (eval r env) (fun b s₂ => wpX M A (binaryOp op a b) Q E s₂) E s₁) E s) : wpX M A (eval (.BinOp l op r pos) env) Q E s := fun Γ p hΓ hN => by
  simp only [eval_BinOp, Sem.wp_bind', Sem.wp_holding, Sem.wp_cmd_standAt, Sem.wp_operate]
  exact Sem.wp_mono M Γ _ (fun a p₁ s₁ h₁ => Sem.wp_mono M Γ _ (fun b _ s₂ h₂ => h₂ Γ _ hΓ hN) (fun _ _ _ h' => h') _ _ (h₁ Γ p₁ hΓ hN)) (fun _ _ _ h' => h') _ _ (h Γ p hΓ hN)
theorem IfExp_ {test body orelse pos} {Q : Value → Shared → Prop} (h : wpX M A (isTrue test env (eval test env)) (fun c s₂ => if c then wpX M A (eval body env) Q E s₂ else wpX M A (eval orelse env) Q E s₂) E s) : wpX M A (eval (.IfExp test body orelse pos) env) Q E s := by
  rw [eval_IfExp]
  refine xbind (xmono h (fun c s₂ h₂ => ?_) fun _ _ x => x)
  induction c using Bool.casesOn <;> exact h₂
theorem List_ {elts : List Expr} {pos : Pos} {Q : Value → Shared → Prop} (h : wpX M A (spliced (backTo pos (starEach elts env))) (fun vs s₁ => wpX M A (newList vs) Q E s₁) E s) : wpX M A (eval (.List elts pos) env) Q E s := by
  show wpX M A (do standAt pos; newList (← spliced (backTo pos (starEach elts env)))) Q E s
  exact xstand (xbind h)
theorem Tuple_ {elts : List Expr} {k : Nat} {pos : Pos} {Q : Value → Shared → Prop} (h : wpX M A (spliced (backTo pos (starEach elts env))) (fun vs s₁ => wpX M A (newTuple vs) Q E s₁) E s) : wpX M A (eval (.Tuple elts k pos) env) Q E s := by
  show wpX M A (do standAt pos; newTuple (← spliced (backTo pos (starEach elts env)))) Q E s
  exact xstand (xbind h)
theorem Subscript_ {value slice pos} {Q : Value → Shared → Prop} (h : wpX M A (eval value env) (fun o s₁ => wpX M A (eval slice env) (fun i s₂ => wpX M A (subscriptTail value slice o i) Q E s₂) E s₁) E s) : wpX M A (eval (.Subscript value slice pos) env) Q E s := by
  rw [eval_Subscript]
  exact xbind (xmono h (fun o s₁ h₁ => xbind (xhold (xmono h₁ (fun i s₂ h₂ => xstand h₂) fun _ _ x => x))) fun _ _ x => x)
theorem UnaryOp_ {op x pos} {Q : Value → Shared → Prop} (h : wpX M A (eval x env) (fun v s₁ => wpX M A (unaryOp op v) Q E s₁) E s) : wpX M A (eval (.UnaryOp op x pos) env) Q E s := by
  rw [eval_UnaryOp]
  exact xbind (xmono h (fun v s₁ h₁ => xstand (xhold h₁)) fun _ _ x => x)
theorem execs_cons' {st rest} {Q : Flow → Shared → Prop} (h : wpX M A (exec st env) (fun f s' => match f with | .next => wpX M A (execs rest env) Q E s' | f => Q f s') E s) : wpX M A (execs (st :: rest) env) Q E s := fun Γ p hΓ hN => by
  rw [execs_cons, Sem.wp_bind']
  refine Sem.wp_mono M Γ _ (fun f p' s' h' => ?_) (fun _ _ _ h' => h') _ _ (h Γ p hΓ hN)
  induction f using PySem.Flow.casesOn <;> first | exact h' Γ p' hΓ hN | exact h'
theorem If' {test body orelse pos} {Q : Flow → Shared → Prop} (h : wpX M A (isTrue test env (eval test env)) (fun b s₂ => if b then wpX M A (execs body env) Q E s₂ else wpX M A (execs orelse env) Q E s₂) E s) : wpX M A (exec (.If test body orelse pos) env) Q E s := fun Γ p hΓ hN => by
  simp only [exec_If, Sem.wp_bind', Sem.wp_cmd_standAt]
  refine Sem.wp_mono M Γ _ (fun b p₂ s₂ h₂ => ?_) (fun _ _ _ h' => h') _ _ (h Γ _ hΓ hN)
  induction b using Bool.casesOn <;> exact h₂ Γ p₂ hΓ hN
theorem Return_some' {e pos} {Q : Flow → Shared → Prop} (h : wpX M A (eval e env) (fun v => Q (.ret v)) E s) : wpX M A (exec (.Return (some e) pos) env) Q E s := fun Γ p hΓ hN => by
  simp only [exec_Return_some, Sem.wp_bind', Sem.wp_cmd_standAt, Sem.wp_pure']; exact h Γ _ hΓ hN
theorem Assign_Name' {x pos' value pos} {Q : Flow → Shared → Prop} (h : wpX M A (eval value env) (fun v s₁ => wpX M A (storeName env x v) (fun _ => Q .next) E s₁) E s) (hs : swapsWith value (some (.Name x pos')) pos.line env = pure false := by rfl) :
    wpX M A (exec (.Assign [.Name x pos'] value pos) env) Q E s := fun Γ p hΓ hN => by
  simp only [exec_Assign_Name env x pos' value pos hs, Sem.wp_bind', Sem.wp_cmd_standAt, Sem.wp_bindName, Sem.wp_pure']
  exact Sem.wp_mono M Γ _ (fun v _ s₁ h₁ => h₁ Γ _ hΓ hN) (fun _ _ _ h' => h') _ _ (h Γ _ hΓ hN)
theorem Assign_Subscript' {o i pos' value pos} {Q : Flow → Shared → Prop} (h : wpX M A (eval value env) (fun v s₁ => wpX M A (eval o env) (fun ov s₂ => wpX M A (eval i env) (fun iv s₃ => wpX M A (setItem ov iv v) (fun _ => Q .next) E s₃) E s₂) E s₁) E s)
    (hs : swapsWith value (some (.Subscript o i pos')) pos.line env = pure false := by rfl) : wpX M A (exec (.Assign [.Subscript o i pos'] value pos) env) Q E s := fun Γ p hΓ hN => by
  simp only [exec_Assign_Subscript o i pos' value pos hs, assign_Subscript, Sem.wp_bind', Sem.wp_holding, Sem.wp_cmd_standAt, Sem.wp_release, Sem.wp_pure']
  exact Sem.wp_mono M Γ _ (fun v p₁ s₁ h₁ => Sem.wp_mono M Γ _ (fun ov p₂ s₂ h₂ => Sem.wp_mono M Γ _ (fun iv _ s₃ h₃ => h₃ Γ _ hΓ hN) (fun _ _ _ h' => h') _ _ (h₂ Γ p₂ hΓ hN)) (fun _ _ _ h' => h') _ _ (h₁ Γ p₁ hΓ hN)) (fun _ _ _ h' => h') _ _ (h Γ _ hΓ hN)
theorem Assign_Attribute' {o attr pos' value pos} {Q : Flow → Shared → Prop} (h : wpX M A (eval value env) (fun v s₁ => wpX M A (eval o env) (fun ov s₂ => wpX M A (setAttr ov attr v) (fun _ => Q .next) E s₂) E s₁) E s)
    (hs : swapsWith value (some (.Attribute o attr pos')) pos.line env = pure false := by rfl) : wpX M A (exec (.Assign [.Attribute o attr pos'] value pos) env) Q E s := fun Γ p hΓ hN => by
  simp only [plainObj_exec_Assign_Attribute o attr pos' value pos hs, assign_Attribute, Sem.wp_bind', Sem.wp_holding, Sem.wp_cmd_standAt, Sem.wp_release, Sem.wp_pure']
  exact Sem.wp_mono M Γ _ (fun v p₁ s₁ h₁ => Sem.wp_mono M Γ _ (fun ov _ s₂ h₂ => h₂ Γ _ hΓ hN) (fun _ _ _ h' => h') _ _ (h₁ Γ p₁ hΓ hN)) (fun _ _ _ h' => h') _ _ (h Γ _ hΓ hN)
theorem AugAssign_Name' {x pos' op value pos} {Q : Flow → Shared → Prop} (h : wpX M A (loadName env x) (fun old s₁ => wpX M A (eval value env) (fun v s₂ => wpX M A (inplaceOp op old v) (fun r s₃ => wpX M A (storeName env x r) (fun _ => Q .next) E s₃) E s₂) E s₁) E s) :
    wpX M A (exec (.AugAssign (.Name x pos') op value pos) env) Q E s := fun Γ p hΓ hN => by
  simp only [exec_AugAssign_Name, Sem.wp_bind', Sem.wp_holding, Sem.wp_cmd_standAt, Sem.wp_operate, Sem.wp_bindName, Sem.wp_pure']
  exact Sem.wp_mono M Γ _ (fun old p₁ s₁ h₁ => Sem.wp_mono M Γ _ (fun v _ s₂ h₂ => Sem.wp_mono M Γ _ (fun r _ s₃ h₃ => h₃ Γ _ hΓ hN) (fun _ _ _ h' => h') _ _ (h₂ Γ _ hΓ hN)) (fun _ _ _ h' => h') _ _ (h₁ Γ p₁ hΓ hN)) (fun _ _ _ h' => h') _ _ (h Γ _ hΓ hN)
theorem AugAssign_Attribute' {o value : Expr} {attr : Str} {tpos pos : Pos} {op : Operator} {Q : Flow → Shared → Prop}
    (h : wpX M A (eval o env) (fun ov s₁ => wpX M A (getAttr ov attr true) (fun old s₂ => wpX M A (eval value env) (fun v s₃ => wpX M A (inplaceOp op old v) (fun new s₄ => wpX M A (setAttr ov attr new) (fun _ => Q .next) E s₄) E s₃) E s₂) E s₁) E s) :
    wpX M A (exec (.AugAssign (.Attribute o attr tpos) op value pos) env) Q E s := by
  have e : exec (.AugAssign (.Attribute o attr tpos) op value pos) env = (do
      standAt pos
      let ov ← eval o env
      let new ← holding [ov] do
        standAt tpos.atName
        let old ← getAttr ov attr true
        let v ← holding [old] (eval value env)
        standAt pos
        operate [old, v] (inplaceOp op old v)
      standAt tpos.atName
      holding [new, ov] (setAttr ov attr new)
      release [new, ov] []
      pure .next) := rfl
  rw [e]
  refine xstand (xbind (xmono h (fun ov s₁ h₁ => ?_) fun _ _ x => x))
  refine xbind (xhold (xstand (xbind (xmono h₁ (fun old s₂ h₂ => ?_) fun _ _ x => x))))
  refine xbind (xhold (xmono h₂ (fun v s₃ h₃ => ?_) fun _ _ x => x))
  refine xstand (xoper (xmono h₃ (fun new s₄ h₄ => ?_) fun _ _ x => x))
  exact xstand (xbind (xhold (xmono h₄ (fun _ _ h₅ => xleaf (wpAny_release' (xpure h₅))) fun _ _ x => x)))
theorem Assign_Tuple {elts k tpos value pos} {Q : Flow → Shared → Prop} (h : wpX M A (eval value env) (fun v s₁ => wpX M A (assign (.Tuple elts k tpos) env v) (fun _ => Q .next) E s₁) E s)
    (hs : swapsWithSole [.Tuple elts k tpos] value pos.line env = pure false := by rfl) (hw : swappedStores [.Tuple elts k tpos] value env = pure none := by rfl) : wpX M A (exec (.Assign [.Tuple elts k tpos] value pos) env) Q E s := by
  rw [exec_Assign]
  refine xstand ?_
  rw [hs]
  refine xbind (xpure ?_)
  rw [if_neg (by decide)]
  refine xbind (xmono h (fun v s₁ h₁ => ?_) fun _ _ x => x)
  rw [hw]
  refine xbind (xpure ?_)
  show wpX M A (do assignAll v [assign (.Tuple elts k tpos) env]; pure .next) Q E s₁
  exact xbind (xmono h₁ (fun _ _ x => xpure x) fun _ _ x => x)
end
end Mine

namespace Mine
open PySem PySem.W PySem.Calls PyProof.Rows PySem.SeqAt
open Sem (wp)
set_option maxRecDepth 100000

/-! ## calls -/
section
variable {M : Model} {A : Around} {E : Value → Shared → Prop} {s : Shared} {env : Env}
theorem xevalArgs {f : Value} {args : List (Bool × Sem Value)} {Q : Args → Shared → Prop} (hp : args.any (·.1) = false) (h : wpX M A (spliced args) (fun vs s' => Q ⟨vs, []⟩ s') E s) : wpX M A (evalArgs f true args []) Q E s := by
  have fin : wpX M A (spliced args >>= fun vs => pure (vs, (none : Option Value))) (fun r s' => r.2 = none ∧ Q ⟨r.1, []⟩ s') E s := xbind (xmono h (fun vs s' h' => xpure ⟨rfl, h'⟩) fun _ _ x => x)
  unfold evalArgs
  induction args using List.casesOn with
  | nil =>
    show wpX M A (spliced [] >>= _) Q E s
    refine xbind (xmono h (fun vs s' h' => ?_) fun _ _ x => x)
    refine xbind (xpure ?_)
    refine xhold ?_
    exact xbind (xpure (xbind (xpure (xpure h'))))
  | cons a r =>
    obtain ⟨b, x⟩ := a
    induction b using Bool.casesOn with
    | true => exact ff hp.symm
    | false =>
      show wpX M A (spliced ((false, x) :: r) >>= _) Q E s
      refine xbind (xmono h (fun vs s' h' => ?_) fun _ _ x => x)
      refine xbind (xpure ?_)
      refine xhold ?_
      exact xbind (xpure (xbind (xpure (xpure h'))))
theorem xcallWith {pos : Pos} {f : Value} {first : List Value} {args : List (Bool × Sem Value)} {Q : Value → Shared → Prop} (hp : args.any (·.1) = false)
    (h : wpX M A (spliced args) (fun vs s₁ => (∃ k, (k = Keeper.frame ∨ k = Keeper.machine ∨ k = Keeper.boundFrame) ∧ Looks M s₁.heap (keeperOf f) k) ∧ wpX M A (call f (first ++ vs)) Q E s₁) E s) : wpX M A (callWith pos f first args []) Q E s := by
  unfold callWith
  refine xbind (xhold (xmono (xevalArgs (Q := fun a s₁ => a.kw = [] ∧ (∃ k, (k = Keeper.frame ∨ k = Keeper.machine ∨ k = Keeper.boundFrame) ∧ Looks M s₁.heap (keeperOf f) k) ∧ wpX M A (call f (first ++ a.pos)) Q E s₁) hp (xmono h (fun vs s' h' => ⟨rfl, h'⟩) fun _ _ x => x)) (fun a s₁ h₁ => xstand ?_) fun _ _ x => x))
  obtain ⟨ap, ak⟩ := a
  obtain ⟨e, ⟨k, hk', L⟩, hc⟩ := h₁
  dsimp only at e hc
  subst e
  simp only [hp, List.any_nil, Bool.or_false]
  refine xlook L ?_
  have tail : ∀ {t : Sem Value}, wpX M A t Q E s₁ → wpX M A (t >>= fun r => holding [r] point >>= fun _ => pure r) Q E s₁ :=
    fun ht => xbind (xmono ht (fun r s₂ hr => xleaf (wpAny_holding (wpAny_point (xpure hr)))) fun _ _ x => x)
  have keep : ∀ {vs : List Value} {t : Sem Value}, wpX M A t Q E s₁ → wpX M A (t.keep vs) Q E s₁ := fun ht Γ p hΓ hN => by rw [Sem.wp_keep]; exact ht Γ p hΓ hN
  have marked (mk : Value) : wpX M A (callMarked mk f (first ++ ap) []) Q E s₁ := by unfold callMarked; exact keep hc
  rcases hk' with rfl | rfl | rfl <;> dsimp only <;> first | exact tail hc | (split <;> first | exact tail hc | exact tail (marked _))
theorem callWith_builtin1 {pos : Pos} {id : String} {e : Expr} {rest : List Expr} {Q : Value → Shared → Prop} (h : wpX M A (spliced (backTo pos (starEach (e :: rest) env))) (fun vs s₁ => wpX M A (call (.builtin id) vs) Q E s₁) E s)
    (he : starEach (e :: rest) env = (false, eval e env) :: starEach rest env := by rfl) (hplain : (backTo pos (starEach rest env)).any (·.1) = false := by rfl) : wpX M A (callWith pos (.builtin id) [] (backTo pos (starEach (e :: rest) env)) []) Q E s := by
  refine xcallWith ?_ (xmono h (fun vs s₁ h₁ => ⟨⟨.machine, .inr (.inl rfl), Looks.of_pure rfl⟩, h₁⟩) fun _ _ x => x)
  rw [he]
  show (false || (backTo pos (starEach rest env)).any (·.1)) = false
  rw [hplain]; rfl
theorem callWith_type1 {pos : Pos} {T : String} {e : Expr} {rest : List Expr} {Q : Value → Shared → Prop} (h : wpX M A (spliced (backTo pos (starEach (e :: rest) env))) (fun vs s₁ => wpX M A (call (.type T) vs) Q E s₁) E s)
    (he : starEach (e :: rest) env = (false, eval e env) :: starEach rest env := by rfl) (hplain : (backTo pos (starEach rest env)).any (·.1) = false := by rfl) : wpX M A (callWith pos (.type T) [] (backTo pos (starEach (e :: rest) env)) []) Q E s := by
  refine xcallWith ?_ (xmono h (fun vs s₁ h₁ => ⟨⟨.machine, .inr (.inl rfl), Looks.of_pure rfl⟩, h₁⟩) fun _ _ x => x)
  rw [he]
  show (false || (backTo pos (starEach rest env)).any (·.1)) = false
  rw [hplain]; rfl
theorem callWith_type0 {pos : Pos} {T : String} {Q : Value → Shared → Prop} (h : wpX M A (call (.type T) []) Q E s) : wpX M A (callWith pos (.type T) [] (backTo pos (starEach [] env)) []) Q E s :=
  xcallWith rfl (spliced_none ⟨⟨.machine, .inr (.inl rfl), Looks.of_pure rfl⟩, h⟩)
theorem callWith_method0 {pos : Pos} {id : String} {first : List Value} {Q : Value → Shared → Prop} (h : wpX M A (call (.builtin id) first) Q E s) : wpX M A (callWith pos (.builtin id) first (backTo pos (starEach [] env)) []) Q E s :=
  xcallWith rfl (spliced_none ⟨⟨.machine, .inr (.inl rfl), Looks.of_pure rfl⟩, by rw [List.append_nil]; exact h⟩)
theorem callWith_method1 {pos : Pos} {id : String} {first : List Value} {e : Expr} {rest : List Expr} {Q : Value → Shared → Prop} (h : wpX M A (spliced (backTo pos (starEach (e :: rest) env))) (fun vs s₁ => wpX M A (call (.builtin id) (first ++ vs)) Q E s₁) E s)
    (he : starEach (e :: rest) env = (false, eval e env) :: starEach rest env := by rfl) (hplain : (backTo pos (starEach rest env)).any (·.1) = false := by rfl) : wpX M A (callWith pos (.builtin id) first (backTo pos (starEach (e :: rest) env)) []) Q E s := by
  refine xcallWith ?_ (xmono h (fun vs s₁ h₁ => ⟨⟨.machine, .inr (.inl rfl), Looks.of_pure rfl⟩, h₁⟩) fun _ _ x => x)
  rw [he]
  show (false || (backTo pos (starEach rest env)).any (·.1)) = false
  rw [hplain]; rfl
theorem callWith_K {K : Frag} {f : Value} {first : List Value} {pos : Pos} {h₀ : Heap} {e : Expr} {rest : List Expr} {Q : Value → Shared → Prop} (_X : K.In h₀) (hk : keepIn K f = true) (h : wpX M A (spliced (backTo pos (starEach (e :: rest) env))) (fun vs s₁ => K.In s₁.heap ∧ wpX M A (call f (first ++ vs)) Q E s₁) E s)
    (he : starEach (e :: rest) env = (false, eval e env) :: starEach rest env := by rfl) (hplain : (backTo pos (starEach rest env)).any (·.1) = false := by rfl) : wpX M A (callWith pos f first (backTo pos (starEach (e :: rest) env)) []) Q E s := by
  refine xcallWith ?_ (xmono h (fun vs s₁ h₁ => ⟨keeps_K hk _ h₁.1, h₁.2⟩) fun _ _ x => x)
  rw [he]
  show (false || (backTo pos (starEach rest env)).any (·.1)) = false
  rw [hplain]; rfl
theorem callWith_K0 {K : Frag} {f : Value} {first : List Value} {pos : Pos} {Q : Value → Shared → Prop} (X : K.In s.heap) (hk : keepIn K f = true) (h : wpX M A (call f (first ++ [])) Q E s) : wpX M A (callWith pos f first (backTo pos (starEach [] env)) []) Q E s :=
  xcallWith rfl (spliced_none ⟨keeps_K hk _ X, h⟩)
theorem methodCall_KW {o : Expr} {name : Str} {apos pos : Pos} {args : List Expr} {kws : List Keyword} {pl : Sem Bool} {Q : Value → Shared → Prop}
    (h : wpX M A (eval o env) (fun ov s₁ => wpX M A (getMethod ov name pl) (fun fx s₂ => wpX M A (callWith pos fx.1 fx.2 (backTo pos (starEach args env)) (backToKw pos (keywordEach kws env))) Q E s₂) E s₁) E s)
    (he : eval (.Call (.Attribute o name apos) args kws pos) env = (do
      let ov ← eval o env
      standAt apos.atName
      let (f, first) ← holding [ov] (getMethod ov name pl)
      callWith pos f first (backTo pos (starEach args env)) (backToKw pos (keywordEach kws env))) := by rfl) : wpX M A (eval (.Call (.Attribute o name apos) args kws pos) env) Q E s := by
  rw [he]
  exact xbind (xmono h (fun ov s₁ h₁ => xstand (xbind (xhold (xmono h₁ (fun fx s₂ h₂ => h₂) fun _ _ x => x)))) fun _ _ x => x)
end
section
variable {prog : Program} {w : World} {A : Around} {E : Value → Shared → Prop} {s : Shared} {env : Env} {R : Result → Shared → Prop}
theorem Attribute_any_ {value : Expr} {attr : Str} {pos : Pos} {Q : Value → Shared → Prop} (h : wpX (model prog w) A (eval value env) (fun o s₁ => wpX (model prog w) A (getAttr o attr true) Q E s₁) E s)
    (he : eval (.Attribute value attr pos) env = (do
      let o ← eval value env
      standAt pos.atName
      let r ← holding [o] (getAttr o attr true)
      letTemporaryGo value o r
      pure r) := by with_unfolding_all rfl) : wpX (model prog w) A (eval (.Attribute value attr pos) env) Q E s := by
  rw [he]
  refine xbind (xmono h (fun o s₁ h₁ => xstand (xbind (xhold (xmono h₁ (fun r s₂ h₂ => ?_) fun _ _ x => x)))) fun _ _ x => x)
  exact xleaf (wpAny_letTemporaryGo (xpure h₂))
theorem Expr_any' {e pos} {Q : Flow → Shared → Prop} (h : wpX (model prog w) A (eval e env) (fun _ => Q .next) E s) (hi : interactive env = false := by rfl) (hs : swapsWith e none pos.line env = pure false := by rfl) : wpX (model prog w) A (exec (.Expr e pos) env) Q E s := by
  rw [exec_Expr env e pos hi hs]
  exact xstand (xbind (xmono h (fun v s' h' => xof (wpAny_dropValue h')) fun _ _ x => x))
/-- a def's body in its own frame, an exception leaves it -/
theorem cfuncE {body env} (h : wpX (model prog w) (A.deeper env) (execs body env) (fun f s' => R (.ok (.ret (match f with | .ret v => v | _ => .none))) s')
    (fun e s' => wpX (model prog w) (A.deeper env) (leaving env e) (fun _ s'' => R (.error e) s'') (fun e' s'' => R (.error e') s'') s') s) : codeX (model prog w) A (.func body env) R s := by
  refine ctree ?_
  show wpX _ (A.deeper env) (do point; match ← (execs body env).onRaise (leaving env) with | .ret v => ret v | _ => ret .none) _ _ s
  refine xleaf (wpAny_point (xbind (xonRaise (xmono h (fun f s' h' => ?_) fun _ _ h' => h'))))
  induction f using PySem.Flow.casesOn <;> exact xpure h'
/-- a def's body in its own frame -/
theorem cfunc {body env} (h : wpX (model prog w) (A.deeper env) (execs body env) (fun f s' => R (.ok (.ret (match f with | .ret v => v | _ => .none))) s') noE s) : codeX (model prog w) A (.func body env) R s :=
  cfuncE (xmono h (fun _ _ h' => h') fun _ _ h' => h'.elim)
theorem cblock {body env} (h : wpX (model prog w) A (execs body env) (fun f s' => R (.ok f) s') noE s) : codeX (model prog w) A (.block body env) R s := by
  refine ctree ?_
  show wpX _ A (do return Fin.done (← (execs body env).onRaise (fun x => do noteFrame x env; theTreesLotGoes x))) _ _ s
  exact xbind (xonRaise (xmono h (fun f s' h' => xpure h') fun _ _ h' => h'.elim))
theorem ccall_function {a : Addr} {args : Args} {o : Obj} {fd : FuncData} {body : List Stmt} (hroom : A.depth < recursionLimit) (ho : s.heap.get? a = some o)
    (hd' : o.data = .func fd) (hco : fd.scope.isCoroutine = false) (hgen : fd.scope.isGenerator = false) (hbody : fd.body = .stmts body) (hcd : s.heap.CodeRec fd.code fd.qualname)
    (h : wpAny (model prog w) A.in1 (bindArgs fd args) (fun binds s₁ =>
      wpAny (model prog w) A.in1 (newFunctionEnv fd.scope fd.globals fd.closure binds (fd.qualname ++ ".<locals>.") (some a) fd.code none fd.builtins)
        (fun env s₂ => s₂.heap.NoLimit ∧ codeX (model prog w) A (.func body env) R s₂) (fun e s' => R (.error e) s') s₁) (fun e s' => R (.error e) s') s) :
    codeX (model prog w) A (.call (.ref a) args) R s := by
  refine ctree (xof ?_)
  show wpAny _ A.in1 (callAny (.ref a) args) _ _ s
  simp only [callAny]
  refine wpAny_bind (wpAny_load ho ?_)
  obtain ⟨c, oc, vs, tq, hc, hoc, hdc, hq⟩ := hcd
  simp only [hd', callFunction, hco, hgen, hbody, hc]
  rw [hc] at h
  refine wpAny_bind (m := field (.ref c) 1) (wpAny_field hoc hdc hq (wpAny_bind (wpAny_pure ?_)))
  exact wpAny_bind (wpAny_mono h (fun binds s₁ h₁ => wpAny_bind (wpAny_mono h₁ (fun env s₂ h₂ => wpAny_bind (wpAny_enterFrame h₂.1 hroom (wpAny_pure ⟨rfl, rfl, h₂.2⟩))) fun _ _ h' => h')) fun _ _ h' => h')
end
end Mine

namespace Mine
open PySem PySem.W PySem.Calls PyProof.Rows PySem.SeqAt
open Sem (wp)
set_option maxRecDepth 100000

/-! ## grounds that turn -/
theorem turn_down {fs : List Addr} {h₀ g g' : Heap} {L : Addr} {m : Str → Option Value} (F : Fr h₀ L g m) (T : KtsTurn (L :: fs) g g') (hfs : ∀ b ∈ fs, ∃ o, h₀.get? b = some o) : ∃ h₀', KtsTurn fs h₀ h₀' ∧ Fr h₀' L g' m := by
  obtain ⟨T', S⟩ := kts_turn_at (h := g') (fs := fs) (g := h₀) hfs
    (fun b o e nm => T.other b o (F.keep b o e) fun hm => by
      rcases List.mem_cons.mp hm with z | z
      · rw [z, kts_self F] at e; exact no_some e
      · exact nm z)
    (fun b o e _ => T.up (F.keep b o e))
  exact ⟨_, T', (show g.UpToSlots g' from fun b o e _ => T.up e).ns F.ns, S, by rw [T'.size]; exact F.above⟩
/-- what is left of a call, the ground turned or not -/
noncomputable def LeaveT (fs : List Addr) (h₀ : Heap) (L : Addr) (m : Str → Option Value) (g : Heap) (R : Result → Shared → Prop) (v : Value) (s' : Shared) : Prop :=
  ∃ g' L' m' news', KtsTurn (L :: fs) g g' ∧ Fr g' L' s'.heap m' ∧ News g' L' s'.heap news' ∧ (∀ h₀', KtsTurn fs h₀ h₀' → Fr h₀' L s'.heap m → News h₀' L s'.heap news' → R (.ok (.ret v)) s')
theorem leaveT_is {fs : List Addr} {h₀ g : Heap} {L : Addr} {m : Str → Option Value} {R : Result → Shared → Prop} {v : Value} {s' : Shared} (F : Fr h₀ L g m) (hfs : ∀ b ∈ fs, ∃ o, h₀.get? b = some o) (h : LeaveT fs h₀ L m g R v s') : R (.ok (.ret v)) s' := by
  obtain ⟨g', L', m', news', T, F', N', k⟩ := h
  obtain ⟨h₀', T', F2⟩ := turn_down F T hfs
  refine k h₀' T' (F2.keeps F'.keep) fun p hp => ⟨(N' p hp).1, fun q => ?_, ?_⟩
  · obtain ⟨o, _, _, e, _⟩ := F2.ns
    have := (N' p hp).2.2
    rw [q, e] at this
    exact no_some this.symm
  · cases q : h₀'.get? p.1 with
    | none => rfl
    | some o => have := (N' p hp).2.2; rw [F2.keep _ _ q] at this; exact no_some this.symm

section
variable {prog : Program} {w : World} {A A₀ : Around} {s : Shared} {env : Env} {outer : List Env} {base h₀ : Heap} {L f : Addr} {m : Str → Option Value} {news : List (Addr × Obj)} {R : Result → Shared → Prop} {fo : Obj} {name qual : Str} {params : Arguments} {body : List Stmt} {scope : Scope} {dV kV doc pm cdv ct : Value} {an : Option Addr} {args : Args} {binds : List (Str × Value)}
/-- a call of a def, cells too -/
theorem callX_cells' (B : Below A₀ base outer h₀) (F : Fr h₀ L s.heap m) (N : News h₀ L s.heap news) (hlim : h₀.NoLimit) (hA : A.frames = some (env :: outer)) (hf : env.frame = some L) (hke : env.scope.kind = .function)
    (ho : s.heap.get? f = some fo) (hd : fo.data = .func (fnX name qual params body scope [] dV kV doc pm an cdv ct)) (hcd : s.heap.CodeRec cdv qual) (hroom : A.depth < recursionLimit)
    (hbind : BindsTo s (fnX name qual params body scope [] dV kV doc pm an cdv ct) args binds)
    (hkind : ∀ n, ∀ x ∈ binds, scope.names.lookup x.1 = some .local ∨ (scope.names.lookup x.1 = some .cell ∧ ((cellsFrom n scope.names []).lookup x.1).isSome = true))
    (hnd : ((cellsFrom 0 scope.names []).map (·.1)).Nodup)
    (h : ∀ g L' h₁ tk cells, Fr h₀ L g m → Fr g L' h₁ (bindL (envOfC qual scope L' f cdv).kindOf binds fun _ => none) → News g L' h₁ (cells ++ news) →
      CellsAre (bindC (envOfC qual scope L' f cdv).kindOf binds fun _ => none) (cellsFrom (L' + 1) scope.names []) cells → Below A base (env :: outer) g → h₀.StaysIn g → (∀ p ∈ news, p.1 < L') → (∀ b o, s.heap.get? b = some o → b ∉ news.map (·.1) → g.get? b = some o) →
      wpX (model prog w) (A.deeper (envOfC qual scope L' f cdv)) (execs body (envOfC qual scope L' f cdv))
        (fun fl s' => LeaveT (outer.filterMap (·.frame)) h₀ L m g R (match fl with | .ret v => v | _ => .none) s')
        (fun e s' => wpX (model prog w) (A.deeper (envOfC qual scope L' f cdv)) (leaving (envOfC qual scope L' f cdv) e) (fun _ s'' => R (.error e) s'') (fun e' s'' => R (.error e') s'') s') { s with heap := h₁, toks := tk })
    (hco : scope.isCoroutine = false := by rfl) (hgen : scope.isGenerator = false := by rfl) (hk : scope.kind = .function := by rfl) : codeX (model prog w) A (.call (.ref f) args) R s := by
  obtain ⟨FG, BG, st, _⟩ := groundX (R := R) B F N hA hf hke
  refine ccall_function hroom ho hd hco hgen rfl hcd (hbind _ _ _ _ ?_)
  refine wpAny_newFunctionEnv_cells hk (hkind _) fun env' he s' x => ?_
  subst he
  refine ⟨(hlim.keeps F.keep).keeps x.toInCall.keep, cfuncE ?_⟩
  obtain ⟨h₁, tk, rfl, _⟩ := x.done
  have hk₁ := x.toInCall.keep
  obtain ⟨cells, NC, Y⟩ := Cl.news (h₀ := s.heap) (Nat.le_refl _) fun n c hm => ⟨x.cell n c (lookup_of_mem_nodup (cellsFrom_names scope.names 0 (s.heap.objs.size + 1) [] [] rfl ▸ hnd) hm), x.above n c hm⟩
  refine xmono (h _ s.heap.objs.size h₁ tk cells FG ⟨x.toInCall.ns, fun b o e => hk₁ b o (of_hideAll _ e), Nat.le_of_eq (hideAll_size _ _)⟩ (fun p hp => ?_) Y BG st (fun p hp => Heap.lt_size (N p hp).1) (fun b o e hn => hideAll_get _ e hn)) (fun fl s' hl => leaveT_is FG (fun b hb => let ⟨_, o, ho, _⟩ := B.frames.mem hb; ⟨o, ho⟩) hl) fun _ _ y => y
  rcases List.mem_append.mp hp with hp | hp
  · refine ⟨(NC p hp).1, (NC p hp).2.1, ?_⟩
    cases q : (hideAll s.heap (news.map (·.1))).get? p.1 with
    | none => rfl
    | some o => have := of_hideAll _ q; rw [(NC p hp).2.2] at this; exact no_some this
  · exact ⟨hk₁ _ _ (N p hp).1, Nat.ne_of_lt (Heap.lt_size (N p hp).1), hideAll_none _ (List.mem_map_of_mem hp)⟩
end

/-! ## a class called -/
section
variable {prog : Program} {w : World} {A : Around} {K : Frag} {C : Addr} {R : Result → Shared → Prop} {h : Heap} {g : Array GenState} {d : Drawn} {t : Nat} {os : OsState}
theorem cbuiltin {s : Shared} {id : String} {args : Args} {b : Builtin} (hb : entryFor table id = some b) (h : wpX (model prog w) (A.under (.builtin id args)) (b args) (FinX (model prog w) A R) (fun e s' => R (.error e) s') s) : codeX (model prog w) A (.builtin id args) R s := by
  refine ctree ?_
  show wpX _ _ (match entryFor table id with | some b => b args | none => unsupported ((withoutEnding? id "#data").getD id)) _ _ s
  rw [hb]; exact h
theorem ccallb {s : Shared} {id : String} {args : Args} (hq : (Code.builtin id args).quiet = true) (hn : notDec (.builtin id args) = true) (h : wpAny (model prog w) A.in1 (checkBuiltinCall id args) (fun _ s₁ => codeX (model prog w) A (.builtin id args) R s₁) (fun e s' => R (.error e) s') s) : codeX (model prog w) A (.call (.builtin id) args) R s := by
  refine ctree ?_
  show wpX _ A.in1 (checkBuiltinCall id args >>= fun _ => again (.builtin id args)) _ _ s
  exact xleaf (wpAny_mono h (fun _ s₁ h₁ => xpure (a := Fin.again (.builtin id args)) ⟨hq, hn, h₁⟩) fun _ _ x => x)
theorem tc_notDec (args : Args) : notDec (.builtin "type.__call__" args) = true := by
  show (!(Builtin.Bytes.decodersThatHold.contains "type.__call__") && !(heldBy.contains "type.__call__")) = true
  decide +kernel
set_option maxHeartbeats 1000000 in
theorem make_core' {rest : List Value} {init : Value} (Y : Makes (model prog w) h C) (hi : Looks (model prog w) h (typeLookup (.ref C) "__init__") (some init))
    (hb : ∀ self, Looks (model prog w) h (bindSpecial init self) (init, [self])) (hne : (some init != some (Value.builtin "object.__init__")) = true)
    (hq : codeX (model prog w) (A.under (.builtin "type.__call__" ⟨.ref C :: rest, []⟩)) (.call init ⟨.ref (h.objs.size + 1) :: rest, []⟩) (InitBack (h.objs.size + 1) R) ⟨(h.push emptyDict).push (instObj C h.objs.size), g, d, t, os⟩) :
    codeX (model prog w) A (.call (.ref C) ⟨rest, []⟩) R ⟨h, g, d, t, os⟩ := by
  have Y' := Y
  obtain ⟨⟨oc, od, cd, sl, hC, e1, e2, e4⟩, made, base, self, top, call, typ⟩ := Y
  refine ctree ?_
  show wpX _ _ (load C >>= _) _ _ _
  refine xleaf (wpAny_load hC ?_)
  show wpX _ _ (callAny.viaDunder (.ref C) _) _ _ _
  unfold callAny.viaDunder
  refine xlook call ?_
  dsimp only
  rw [tc_bind]
  refine xbind (xpure (xbind (xpure ?_)))
  refine xpure (a := Fin.again (.call (.builtin "type.__call__") ⟨.ref C :: rest, []⟩)) ⟨rfl, rfl, ?_⟩
  refine ccallb (Code.quiet_builtin _ (by decide +kernel)) (tc_notDec _) (check_slot tc_kind tc_split typ (tc_args _ _ _) ?_)
  refine cbuiltin entry_typeCall ?_
  unfold Builtin.«type.__call__»
  have hm : Looks (model prog w) h (mroOf (.ref C)) cd.mro := ((Looks.ld (part := none) hC).andThen .now).andThen .now
  show wpX _ _ (mroOf (.ref C) >>= _) _ _ _
  refine xlook hm ?_
  rw [e4]
  simp only [Bool.false_eq_true, if_false]
  show wpX _ _ (Bind.madeBy (.ref C) >>= _) _ _ _
  refine xlook made ?_
  dsimp only
  refine xbind (xpure ?_)
  refine xbind (xhold (xcall (cof (new_K Y' hi (.inl hne) ?_))))
  have k : ∀ b o, h.get? b = some o → ((h.push emptyDict).push (instObj C h.objs.size)).get? b = some o := fun b o e => Heap.get?_push_of_some _ (Heap.get?_push_of_some _ e)
  have hx : ((h.push emptyDict).push (instObj C h.objs.size)).get? (h.objs.size + 1) = some (instObj C h.objs.size) := by heap_get
  have t1 : Looks (model prog w) ((h.push emptyDict).push (instObj C h.objs.size)) (typeOf (.ref (h.objs.size + 1))) (.ref C) := (Looks.ld hx).andThen .now
  have s1 := self.keeps k
  have i1 := hi.keeps k
  have b1 := (hb (.ref (h.objs.size + 1))).keeps k
  have in1 : Looks (model prog w) ((h.push emptyDict).push (instObj C h.objs.size)) (isInstance (.ref (h.objs.size + 1)) (.ref C)) true := t1.andThen s1
  dsimp only
  refine xlook in1 ?_
  simp only [Bool.not_true, Bool.false_eq_true, if_false]
  refine xbind (xhold ?_)
  unfold callSpecial? specialOf
  refine xbind (xbind (xof (t1.here (xof (i1.here ?_)))))
  dsimp only
  refine xhold (xlook b1 ?_)
  dsimp only
  refine xbind (xcall (cmono hq fun r s' z => ?_))
  rcases r with e | (v | _ | _ | _) <;> first | exact z | exact z.elim | skip
  obtain ⟨rfl, z⟩ := z
  refine xpure ?_
  dsimp only
  simp only [bne_self_eq_false, Bool.false_eq_true, if_false]
  exact xpure z
end
section
variable {prog : Program} {w : World} {A : Around} {E : Value → Shared → Prop} {s : Shared} {K : Frag} {C : Addr} {h₀ : Heap} {L : Addr} {m : Str → Option Value} {news : List (Addr × Obj)} {Q : Value → Shared → Prop}
theorem call_cls {pos : List Value} {fI : Addr} (F : Fr h₀ L s.heap m) (X₀ : K.In h₀) (N : News h₀ L s.heap news) (hm : makesIn K C = true) (hi : findIn K (.ref C) "__init__" = some (some (.ref fI))) (hf : isFn K (.ref fI) = true)
    (h : ∀ x dx h', Fr h₀ L h' m → News h₀ L h' ((x, instObj C dx) :: (dx, dictOf [] 0) :: news) → (∀ p ∈ news, p.1 < dx) → dx < x →
      codeX (model prog w) (A.under (.builtin "type.__call__" ⟨.ref C :: pos, []⟩)) (.call (.ref fI) ⟨.ref x :: pos, []⟩) (InitBack x fun r s' => match r with | .ok (.ret v) => Q v s' | .ok _ => False | .error e => E e s') { s with heap := h' }) :
    wpX (model prog w) A (call (.ref C) pos) Q E s := by
  have X := X₀.keeps F.keep
  refine xcall ?_
  obtain ⟨hh, g, d, t, os⟩ := s
  refine make_core' (makes_of X hm) (looks_findIn X hi) (fun self => bind_fn X self (beq_iff_eq.mp hf)) rfl (h _ hh.objs.size _ ((F.push _).push _) ?_ (fun p hp => Heap.lt_size (N p hp).1) (Nat.lt_succ_self _))
  have := (N.push F emptyDict).push (F.push _) (instObj C hh.objs.size)
  rwa [Heap.size_push] at this
end
end Mine

namespace Mine
open PySem PySem.W PySem.Calls PyProof.Rows PySem.SeqAt
open Sem (wp)
set_option maxRecDepth 100000

/-! ## loops and comprehensions -/
section
variable {M : Model} {A : Around} {E : Value → Shared → Prop} {s : Shared} {env : Env}
theorem xrunOwn {c : Code} {Q : Flow → Shared → Prop} (hn : notDec c = true) (hc : codeX M A c (fun r s' => match r with | .ok f => Q f s' | .error _ => False) s) : wpX M A (runOwn c env none) Q E s := by
  unfold runOwn
  exact xonRaise (xrun hn (cmono hc fun r s' h => by induction r using Except.casesOn with | ok f => exact h | error e => exact h.elim))
theorem For' {target iter body orelse pos} {Q : Flow → Shared → Prop}
    (h : wpX M A (eval iter env) (fun x s₁ => wpX M A (pyIter x) (fun it s₂ => codeX M A (.forLoop target it body orelse env) (fun r s' => match r with | .ok f => Q f s' | .error _ => False) s₂) E s₁) E s)
    (hs : ∀ x, foldedSetIterable iter env x = pure x := by intro _; rfl) : wpX M A (exec (.For target iter body orelse pos) env) Q E s := by
  rw [exec_For]
  exact xstand (xbind (xmono h (fun x s₁ h₁ => xeq (hs x) (xstand (xbind (xhold (xmono h₁ (fun it s₂ h₂ => xrunOwn rfl h₂) fun _ _ h' => h'))))) fun _ _ h' => h'))
theorem While' {test body orelse pos} {Q : Flow → Shared → Prop} (h : codeX M A (.whileLoop test body orelse env) (fun r s' => match r with | .ok f => Q f s' | .error _ => False) s) : wpX M A (exec (.While test body orelse pos) env) Q E s := by
  rw [exec_While]; exact xstand (xrunOwn rfl h)
end
section
variable {prog : Program} {w : World} {A : Around} {E : Value → Shared → Prop} {s : Shared} {env : Env}
theorem cforLoop {R : Result → Shared → Prop} {target it body orelse} (I : Nat → Shared → Prop)
    (turn : ∀ n s, I n s → wpX (model prog w) A (pyNext it) (fun r s₁ => match r with
      | none => wpX (model prog w) A (execs orelse env) (fun f s₃ => R (.ok f) s₃) noE s₁
      | some v => wpX (model prog w) A (letOwnedTupleGo target it v) (fun _ s₁' =>
          wpX (model prog w) A (assign target env v) (fun _ s₂ => wpX (model prog w) A (execs body env) (fun f s₃ => match f with
            | .next | .cont => ∃ m, m < n ∧ I m s₃
            | .brk => R (.ok .next) s₃
            | .ret v => R (.ok (.ret v)) s₃) noE s₂) noE s₁') noE s₁) noE s)
    (n : Nat) (h : I n s) : codeX (model prog w) A (.forLoop target it body orelse env) R s := by
  refine cloop rfl rfl I (fun n s hI => ?_) n h
  show wpX _ A ((forTurn target it body orelse env).onRaise (fun x => do noteFrame x env; theTreesLotGoes x)) _ _ s
  refine xonRaise (xno ?_)
  simp only [forTurn]
  refine xstand (xbind (xonRaise (xmono (turn n s hI) (fun r s₁ h₁ => ?_) fun _ _ h' => h'.elim)))
  induction r using Option.casesOn with
  | none => exact xpure (.inr ⟨rfl, rfl, cblock h₁⟩)
  | some v =>
    refine xbind (xmono h₁ (fun _ s₁' h₁' => ?_) fun _ _ h' => h')
    refine xbind (xmono h₁' (fun _ s₂ h₂ => xbind (xmono h₂ (fun f s₃ h₃ => ?_) fun _ _ h' => h')) fun _ _ h' => h')
    induction f using PySem.Flow.casesOn with
    | next => exact xpure (.inl ⟨rfl, h₃⟩)
    | cont => exact xpure (.inl ⟨rfl, h₃⟩)
    | brk => exact xpure h₃
    | ret v => exact xpure h₃
theorem cwhile {R : Result → Shared → Prop} {test body orelse} (I : Nat → Shared → Prop)
    (turn : ∀ n s, I n s → wpX (model prog w) A (isTrue test env (eval test env)) (fun b s₁ => if b then
          wpX (model prog w) A (execs body env) (fun f s₃ => match f with
            | .next | .cont => ∃ m, m < n ∧ I m s₃
            | .brk => R (.ok .next) s₃
            | .ret v => R (.ok (.ret v)) s₃) noE s₁
        else wpX (model prog w) A (execs orelse env) (fun f s₃ => R (.ok f) s₃) noE s₁) noE s)
    (n : Nat) (h : I n s) : codeX (model prog w) A (.whileLoop test body orelse env) R s := by
  refine cloop rfl rfl I (fun n s hI => ?_) n h
  show wpX _ A ((whileTurn test body orelse env).onRaise (fun x => do noteFrame x env; theTreesLotGoes x)) _ _ s
  refine xonRaise (xno ?_)
  simp only [whileTurn]
  refine xbind (xmono (turn n s hI) (fun b s₁ h₁ => ?_) fun _ _ h' => h')
  induction b using Bool.casesOn with
  | true =>
    refine xbind (xmono h₁ (fun f s₃ h₃ => ?_) fun _ _ h' => h')
    induction f using PySem.Flow.casesOn with
    | next => exact xpure (.inl ⟨rfl, h₃⟩)
    | cont => exact xpure (.inl ⟨rfl, h₃⟩)
    | brk => exact xpure h₃
    | ret v => exact xpure h₃
  | false => exact xbind (xmono h₁ (fun f s₃ h₃ => xpure h₃) fun _ _ h' => h')
theorem xstandIf {α : Type} {M : Model} {c : Prop} [Decidable c] {pos : Pos} {k : PUnit → Sem α} {Q : α → Shared → Prop} (h : wpX M A (k ()) Q E s) : wpX M A (if c then (standAt pos >>= k) else k ()) Q E s := by
  split
  · exact xstand h
  · exact h
theorem comprehension_free' {M : Model} {e : Expr} {scope : Scope} {pos : Pos} {newAcc first : Sem Value} {g : Comprehension} {gs : List Comprehension} {cl : List (Str × Addr)} {use : Option (Value → Sem Unit)}
    {Q : Value → Shared → Prop}
    (hcl : clausesOf e = g :: gs) (hs : ∀ x, foldedSetIterable g.iter env x = pure x) (hclos : closureFor scope env = pure cl)
    (hkind : scope.kind = .function) (hnames : ∀ x ∈ scope.names, x.2 = .local → scope.names.lookup x.1 = some .local)
    (h : wpX M A first (fun x s₁ => wpX M A (pyIter x) (fun it s₂ => wpX M A newAcc (fun acc s₃ =>
      wpX M A (newFunctionEnv scope env.globals cl [] env.qual none .none (some env)) (fun cenv s₄ =>
        codeX M A (.compStart e 0 it acc { cenv with scope := relabel scope env }) (fun r s' => match r with | .ok _ => compPost M A E use Q acc cenv.locals r s' | .error _ => False) s₄) E s₃) E s₂) E s₁) E s) :
    wpX M A (comprehension e scope env pos newAcc false first use) Q E s := by
  unfold comprehension
  rw [hclos, hcl]
  refine xbind (xmono h (fun x s₁ h₁ => xstand (xeq (hs x) (xbind (xhold (xmono h₁ (fun it s₂ h₂ =>
    xstandIf (xbind (xmono h₂ (fun acc s₃ h₃ => xbind (xpure (xbind (xmono h₃ (fun cenv s₄ h₄ => ?_) fun _ _ h' => h')))) fun _ _ h' => h')))
      fun _ _ h' => h'))))) fun _ _ h' => h')
  dsimp only
  have hv : ∀ x ∈ (scope.names.filter fun x => (x.2 == .local || x.2 == .cell) && x.1 != (Str.ofString ".0")).reverse, x.2 = .local →
      Env.kindOf { cenv with scope := relabel scope env } x.1 = some .local := fun x hx hl => lookup_relabel_local (hnames x (List.mem_filter.mp (List.mem_reverse.mp hx)).1 hl)
  have hv' : ∀ x ∈ (scope.names.filter fun x => (x.2 == .local || x.2 == .cell) && x.1 != (Str.ofString ".0")).reverse.drop 1 ++ (scope.names.filter fun x => (x.2 == .local || x.2 == .cell) && x.1 != (Str.ofString ".0")).reverse.take 1,
      x.2 = .local → Env.kindOf { cenv with scope := relabel scope env } x.1 = some .local := fun x hx hl => by
    rcases List.mem_append.mp hx with h1 | h1
    · exact hv x (List.mem_of_mem_drop h1) hl
    · exact hv x (List.mem_of_mem_take h1) hl
  refine xhold (xbind (xattempt (xhold (xrun rfl (cmono h₄ fun r s' hr => ?_)))))
  induction r using Except.casesOn with
  | ok f =>
    induction use using Option.casesOn with
    | none =>
      obtain ⟨m, hn, hr⟩ := hr
      exact xof (wpAny_bind (wpAny_holding (wpAny_comp_letGo (cenv := { cenv with scope := relabel scope env }) hkind _ s' m hv hn fun h' m' _ hs' => wpAny_pure (hr h' hs'))))
    | some u =>
      refine xof (wpAny_bind (wpAny_rule (wpAny_bind (wpAny_holding (wpAny_mono hr (fun _ s'' hr' => ?_) fun _ _ h' => h')))))
      obtain ⟨m, hn, hr'⟩ := hr'
      exact wpAny_bind (wpAny_comp_letGo (cenv := { cenv with scope := relabel scope env }) hkind _ s'' m hv' hn fun h' m' _ hs' => wpAny_pure (hr' h' hs'))
  | error x => exact hr.elim
theorem ccompStart {R : Result → Shared → Prop} {elt target iter ifs rest scope pos it acc}
    (h0 : codeX (model prog w) A (.compLoop (.ListComp elt (⟨target, iter, ifs, 0⟩ :: rest) scope pos) 0 it acc env) R s)
    (h : wpX (model prog w) A (pyIter it) (fun it' s' => codeX (model prog w) A (.compLoop (.ListComp elt (⟨target, iter, ifs, 0⟩ :: rest) scope pos) 0 it' acc env) R s') noE s) :
    codeX (model prog w) A (.compStart (.ListComp elt (⟨target, iter, ifs, 0⟩ :: rest) scope pos) 0 it acc env) R s := by
  refine ctree ?_
  show wpX _ _ ((compStart (.ListComp elt (⟨target, iter, ifs, 0⟩ :: rest) scope pos) 0 it acc env).onRaise (fun x => do noteFrame x env; standAt theWindowsPlace)) _ _ s
  refine xonRaise (xno ?_)
  unfold compStart
  show wpX _ _ (ask >>= _) _ _ s
  refine xleaf (wpAny_askSetting ?_)
  split
  · first
      | exact xbind (xpure (xpure ⟨rfl, rfl, h0⟩))
      | exact xpure ⟨rfl, rfl, h0⟩
  · first
      | exact xleaf (wpAny_rule (xstand (xbind (xmono h (fun it' s' h' => xpure ⟨rfl, rfl, h'⟩) fun _ _ x => x))))
      | (refine xleaf (wpAny_rule ?_); show wpX _ _ (standAt iter.pos >>= _) _ _ s; exact xstand (xbind (xmono h (fun it' s' h' => xpure ⟨rfl, rfl, h'⟩) fun _ _ x => x)))
end
end Mine

namespace Mine
open PySem PySem.W PySem.Calls PyProof.Rows PySem.SeqAt
open Sem (wp)
set_option maxRecDepth 100000

/-! ## bytearrays -/
theorem mro_ba : mroOf (.type "bytearray") = pure [.type "bytearray", .type "object"] := by rw [mroOf_type]; kernel_rfl
theorem lookup_ba_new : typeLookup (.type "bytearray") "__new__" = pure (some (.builtin "bytearray.__new__")) := by rw [typeLookup_type, builtinLookup_eq_fast]; kernel_rfl
theorem slot_ba_init : Slot "bytearray" "__init__" "bytearray.__init__" :=
  .of (owner := "bytearray") (n := "__init__") (by rw [typeLookup_type, builtinLookup_eq_fast]; kernel_rfl) (by decide +kernel) (by decide +kernel) (by decide +kernel)
    (by first | exact .inl (by decide +kernel) | exact .inr (by decide +kernel)) (by rw [isSubtype_type]; kernel_rfl)
theorem slot_ba_ext : Slot "bytearray" "extend" "bytearray.extend" :=
  .of (owner := "bytearray") (n := "extend") (by rw [typeLookup_type, builtinLookup_eq_fast]; kernel_rfl) (by decide +kernel) (by decide +kernel) (by decide +kernel)
    (by first | exact .inl (by decide +kernel) | exact .inr (by decide +kernel)) (by rw [isSubtype_type]; kernel_rfl)
theorem slot_ba_len : Slot "bytearray" "__len__" "bytearray.__len__" :=
  .of (owner := "bytearray") (n := "__len__") (by rw [typeLookup_type, builtinLookup_eq_fast]; kernel_rfl) (by decide +kernel) (by decide +kernel) (by decide +kernel)
    (by first | exact .inl (by decide +kernel) | exact .inr (by decide +kernel)) (by rw [isSubtype_type]; kernel_rfl)
theorem type_ba_ext : typeOf (.builtin "bytearray.extend") = pure (.type "method_descriptor") := by show builtinType _ = _; rw [builtinType_eq_fast]; kernel_rfl
theorem entry_ba_init : entryFor table "bytearray.__init__" = some Builtin.«bytearray.__init__» := entryFor_of_tree (by kernel_rfl)
theorem entry_ba_ext : entryFor table "bytearray.extend" = some Builtin.«bytearray.extend» := entryFor_of_tree (by kernel_rfl)
theorem entry_ba_len : entryFor table "bytearray.__len__" = some Builtin.«bytearray.__len__» := entryFor_of_tree (by kernel_rfl)
theorem plainAttrs_ba : PlainAttrs "bytearray" :=
  ⟨⟨"bytearray.__getattribute__", by rw [typeLookup_type, builtinLookup_eq_fast]; kernel_rfl, by decide +kernel⟩, by rw [typeLookup_type, builtinLookup_eq_fast]; kernel_rfl⟩
theorem called_ba : TypeCalled "bytearray" "bytearray.__new__" "bytearray.__init__" :=
  ⟨by decide +kernel, by decide +kernel, ⟨_, _, mro_ba⟩, madeBy_type mro_ba lookup_ba_new (by decide +kernel), by decide +kernel, by rw [isSubtype_type]; kernel_rfl, slot_ba_init⟩
theorem typeCall_ba_0 : checkTypeCall "bytearray" ⟨[], []⟩ = pure () := by kernel_rfl
theorem newCall_ba_0 : checkBuiltinCall "bytearray.__new__" ⟨[.type "bytearray"], []⟩ = pure () := by kernel_rfl
theorem entry_ba_new : entryFor table "bytearray.__new__" = some Builtin.«list.__new__» := entryFor_alias (id' := "list.__new__") (by kernel_rfl) rfl (by decide +kernel) (by kernel_rfl)
theorem owner_ba : Manifest.owners.lookup (String.ofList ['y', 'a', 'r', 'r', 'a', 'e', 't', 'y', 'b'].reverse) = some Manifest.sig_bytearray := by kernel_rfl
theorem args_ba_init_1 (a : Value) : argsOk "bytearray.__init__" ⟨[a], []⟩ := by unfold argsOk; kernel_rfl
theorem args_ba_ext_2 (a b : Value) : argsOk "bytearray.extend" ⟨[a, b], []⟩ := by unfold argsOk; kernel_rfl
theorem args_ba_len_1 (a : Value) : argsOk "bytearray.__len__" ⟨[a], []⟩ := by unfold argsOk; kernel_rfl
end Mine

namespace Mine
open PySem PySem.W PySem.Calls PyProof.Rows PySem.SeqAt
open Sem (wp)
set_option maxRecDepth 100000

set_option maxRecDepth 1000000 in
set_option maxHeartbeats 4000000 in
theorem owner_ba_new : ("bytearray.__new__".splitOn ".__new__").headD "" = "bytearray" := by simp +decide [String.splitOn, String.splitOnAux]
theorem sub_ba_self : isSubtype (.type "bytearray") (.type "bytearray") = pure true := by rw [isSubtype_type]; kernel_rfl
noncomputable def baOf (b : List UInt8) : Obj := { cls := .type "bytearray", data := .bytearray b.toArray 0 }
section
variable {prog : Program} {w : World} {A : Around} {E : Value → Shared → Prop} {s : Shared}
theorem code_ba_new {Q₁ : Value → Shared → Prop} (h : Q₁ (.ref s.heap.objs.size) { s with heap := s.heap.push (baOf []) }) :
    codeAny (model prog w) A (.call (.builtin "bytearray.__new__") ⟨[.type "bytearray"], []⟩) (wants Q₁ E) s := by
  refine codeAny_of_tree ?_
  show wpAny _ A.in1 (do checkBuiltinCall "bytearray.__new__" ⟨[.type "bytearray"], []⟩; again (.builtin "bytearray.__new__" ⟨[.type "bytearray"], []⟩)) _ _ s
  refine wpAny_bind (wpAny_of_eq newCall_ba_0 (wpAny_pure ⟨plainId_quiet called_ba.plain _, codeAny_builtin_stack entry_ba_new rfl fun p st => ?_⟩))
  rw [Around.under_plainId called_ba.plain _]
  have hsub := sub_ba_self
  have hown := owner_ba_new
  obtain ⟨hp, g, d, tk, os⟩ := s
  simp only [hown]
  wp_walk
  exact h
theorem ba_is {a : Addr} {b : List UInt8} (h : s.heap.get? a = some (baOf b)) : s.TypeIs (.ref a) "bytearray" := ⟨_, h, rfl⟩
theorem any_no {l : List (Code × Pos)} {f : Code × Pos → Bool} (hf : ∀ c p, notDec c = true → f (c, p) = false) (h : ∀ x ∈ l, notDec x.1 = true) : l.any f = false := by
  rw [List.any_eq_false]
  intro x hx
  rw [hf x.1 x.2 (h x hx)]
  exact Bool.false_ne_true
theorem nd_ids {id : String} {args : Args} (h : notDec (.builtin id args) = true) : Builtin.Bytes.decodersThatHold.contains id = false ∧ heldBy.contains id = false := by
  obtain ⟨h1, h2⟩ := Bool.and_eq_true_iff.mp h
  exact ⟨by simpa using h1, by simpa using h2⟩
theorem dn {P : Prop} [Decidable P] {α : Sort _} {a : P → α} {b : ¬P → α} {x : α} (hn : ¬P) (h : b hn = x) : dite P a b = x := (dif_neg hn).trans h
/-- nothing holds it -/
theorem xexported {v : Value} {Q : Bool → Shared → Prop} (hq : Q false s) : wpX (model prog w) A (Builtin.Bytes.exported v) Q E s := by
  intro Γ p hΓ hN
  unfold Builtin.Bytes.exported
  rw [Sem.wp_bind']
  show Q (((Γ.code, p) :: Γ.below).any _) s
  rw [any_no ?_ ?_]
  · exact hq
  · intro c q hc
    induction c using PySem.Code.casesOn with
    | builtin id args =>
      obtain ⟨h1, h2⟩ := nd_ids hc
      have n : ∀ {y : String}, heldBy.contains y = true → ¬ id = y := fun hy e => by rw [e, hy] at h2; exact ff h2.symm
      delta Builtin.Bytes.exported.match_1 Builtin.Bytes.exported._sparseCasesOn_1
      dsimp only []
      refine dn (n (y := "bytearray.__contains__") (by decide +kernel)) ?_
      refine dn (n (y := "bytearray.__mod__") (by decide +kernel)) ?_
      refine dn (n (y := "bytearray.__rmod__") (by decide +kernel)) ?_
      refine dn (n (y := "_struct.pack_into.held") (by decide +kernel)) ?_
      refine dn (n (y := "bytearray.find.held") (by decide +kernel)) ?_
      induction args using PySem.Args.casesOn with | mk l kw => induction l using List.casesOn with
        | nil => rfl
        | cons v r => exact (congrArg (Builtin.Bytes.sameRef v _ && ·) h1).trans (Bool.and_false _)
    | _ => rfl
  · intro x hx
    rcases List.mem_cons.mp hx with rfl | hx
    · exact hN.1
    · exact hN.2 x hx
end
end Mine

namespace Mine
open PySem PySem.W PySem.Calls PyProof.Rows PySem.SeqAt
open Sem (wp)
set_option maxRecDepth 100000
section
variable {prog : Program} {w : World} {A : Around} {E : Value → Shared → Prop} {s : Shared}
theorem ba_update {a : Addr} {b : List UInt8} {f : Array UInt8 → Array UInt8} {c : List UInt8} (h : s.heap.get? a = some (baOf b)) (e : f b.toArray = c.toArray) : (s.heap.update a (Obj.mapBytearray f)).get? a = some (baOf c) := by
  rw [Heap.get?_update_self _ h (by rfl)]
  show some ({ cls := _, data := .bytearray (f b.toArray) 0 } : Obj) = _
  rw [e]; rfl
theorem ba_write {a : Addr} {b : List UInt8} {f : Array UInt8 → Array UInt8} {c : List UInt8} (h : s.heap.get? a = some (baOf b)) (e : f b.toArray = c.toArray) (hc : c.length ≤ 1000000) {Q : Unit → Shared → Prop}
    (hq : ∀ h', h'.get? a = some (baOf c) → Heap.SameBut a s.heap h' → Q () { s with heap := h' }) : wpAny (model prog w) A (Builtin.Bytes.write (.ref a) f) Q E s := by
  show wpAny _ _ (updateBytearray a f) _ _ _
  unfold updateBytearray
  refine wpAny_bind (wpAny_load h ?_)
  have hu := ba_update (s := s) (f := f) h e
  refine wpAny_bind (wpAny_update h ?_)
  refine wpAny_lookBehind (s := { s with heap := s.heap.update a (Obj.mapBytearray f) }) hu ?_ (hq _ hu (Heap.SameBut.update ..))
  show (if c.toArray.size > sizeLine then some "bytearray:memory" else none) = none
  rw [if_neg (by rw [sizeLine_eq]; simp; omega)]
theorem ba_payload {a : Addr} {b : List UInt8} (h : s.heap.get? a = some (baOf b)) {Q : Array UInt8 → Shared → Prop} (hq : Q b.toArray s) : wpAny (model prog w) A (Builtin.Bytes.payload (.ref a)) Q E s := by
  unfold Builtin.Bytes.payload Builtin.Bytes.payload?
  refine wpAny_bind (wpAny_bind (wpAny_load h (wpAny_pure ?_)))
  exact wpAny_pure hq
theorem ba_release : ∀ {a : Addr} {b : List UInt8} {s : Shared} {A : Around} {Q : Bool → Shared → Prop}, s.heap.get? a = some (baOf b) → Q false s → wpAny (model prog w) A (Builtin.Bytes.ownRelease (.ref a)) Q E s := by
  intro a b s A Q h hq
  have hT := ba_is h
  unfold Builtin.Bytes.ownRelease Builtin.Bytes.slotIsOwn
  have look : typeLookup (.type "bytearray") "__release_buffer__" = pure (some (.builtin "bytearray.__release_buffer__")) := by rw [typeLookup_type, builtinLookup_eq_fast]; kernel_rfl
  have key : ∀ x : String, x = "bytearray" → ∀ {Q : Bool → Shared → Prop}, Q true s → wpAny (model prog w) A (isInstance (.ref a) (.type x)) Q E s := fun x hx Q hq => by rw [hx]; exact wpAny_isInstance hT sub_ba_self hq
  refine wpAny_bind (wpAny_bind (wpAny_specialOf hT look ?_))
  dsimp only
  split
  · rename_i hx
    exact absurd hx (by decide +kernel)
  · exact key _ (by decide +kernel) (wpAny_pure hq)
theorem ba_exports {a : Addr} {b : List UInt8} (h : s.heap.get? a = some (baOf b)) {Q : Nat → Shared → Prop} (hq : Q 0 s) : wpAny (model prog w) A (Builtin.Bytes.exportsOf (.ref a)) Q E s := by
  unfold Builtin.Bytes.exportsOf
  exact wpAny_bind (wpAny_load h (wpAny_pure hq))
theorem xif_neg {M : Model} {A : Around} {E : Value → Shared → Prop} {s : Shared} {α : Type} {c : Prop} [Decidable c] {a b : Sem α} {Q : α → Shared → Prop} (h : ¬ c) (hb : wpX M A b Q E s) : wpX M A (if c then a else b) Q E s := by rw [if_neg h]; exact hb
theorem ba_init {A' : Around} {a : Addr} (h : s.heap.get? a = some (baOf [])) {R : Result → Shared → Prop} (hq : ∀ h', h'.get? a = some (baOf []) → Heap.SameBut a s.heap h' → R (.ok (.ret .none)) { s with heap := h' }) :
    wpX (model prog w) A (Builtin.«bytearray.__init__» ⟨[.ref a], []⟩) (FinX (model prog w) A' R) E s := by
  unfold Builtin.«bytearray.__init__»
  show wpX _ _ (Builtin.Bytes.ownRelease (.ref a) >>= _) _ _ _
  refine xleaf (ba_release h ?_)
  refine xif_neg Bool.false_ne_true ?_
  show wpX _ _ (Builtin.Bytes.bindOptional "bytearray.__init__" "bytearray" ["source", "encoding", "errors"] [] [] >>= _) _ _ _
  refine xeq (r := [none, none, none]) (by kernel_rfl) ?_
  dsimp only
  refine xeq (r := ()) (by rfl) ?_
  refine xeq (r := ()) (by rfl) ?_
  refine xbind (xbind (xexported ?_))
  show wpX _ _ (Builtin.Bytes.exportsOf (.ref a) >>= fun n => pure (decide (n > 0))) _ _ _
  refine xleaf (ba_exports h ?_)
  refine xpure ?_
  show wpX _ _ (if decide (0 > 0) then _ else _) _ _ _
  rw [if_neg (by decide)]
  refine xleaf (ba_write h rfl (by simp) fun h' g1 g2 => ?_)
  exact xpure (hq h' g1 g2)
end
end Mine

namespace Mine
open PySem PySem.W PySem.Calls PyProof.Rows PySem.SeqAt
open Sem (wp)
set_option maxRecDepth 100000
theorem special_ba {a : Addr} {b : List UInt8} {s : Shared} (h : s.heap.get? a = some (baOf b)) {name : Str} {id : String} (g : Slot "bytearray" name id) {prog : Program} {w : World} {A : Around} {E : Value → Shared → Prop} {Q : Option Value → Shared → Prop} (hq : Q (some (.builtin id)) s) :
    wpAny (model prog w) A (specialOf (.ref a) name) Q E s := wpAny_specialOf (ba_is h) g.lookup hq
theorem ba_init_nd (args : Args) : notDec (.builtin "bytearray.__init__" args) = true := by
  show (!(Builtin.Bytes.decodersThatHold.contains "bytearray.__init__") && !(heldBy.contains "bytearray.__init__")) = true
  decide +kernel
theorem ba_ext_nd (args : Args) : notDec (.builtin "bytearray.extend" args) = true := by
  show (!(Builtin.Bytes.decodersThatHold.contains "bytearray.extend") && !(heldBy.contains "bytearray.extend")) = true
  decide +kernel
section
variable {prog : Program} {w : World} {A : Around} {E : Value → Shared → Prop} {s : Shared}
theorem ba_mro_empty : (mroOf (.type "bytearray") >>= fun m => (pure m.isEmpty : Sem Bool)) = pure false := by rw [mro_ba]; rfl
set_option maxHeartbeats 1000000 in
theorem call_ba {Q : Value → Shared → Prop} (hq : ∀ h', h'.get? s.heap.objs.size = some (baOf []) → Heap.SameBut s.heap.objs.size (s.heap.push (baOf [])) h' → Q (.ref s.heap.objs.size) { s with heap := h' }) :
    wpX (model prog w) A (call (.type "bytearray") []) Q E s := by
  refine xcall (ctree ?_)
  show wpX _ _ (callAny (.type "bytearray") _) _ _ _
  refine xpure (a := Fin.again (.builtin "type.__call__" ⟨[.type "bytearray"], []⟩)) ⟨Code.quiet_builtin _ (by decide +kernel), tc_notDec _, cbuiltin entry_typeCall ?_⟩
  unfold Builtin.«type.__call__»
  have h1 := called_ba.notType
  have h2 := called_ba.canCreate
  have h3 := called_ba.made
  have h4 := called_ba.sub
  have h5 := called_ba.init.lookup
  simp only [h1, h2, Bool.false_eq_true, if_false]
  refine xeq typeCall_ba_0 ?_
  refine xeq mro_ba ?_
  simp only [List.isEmpty, Bool.false_eq_true, if_false]
  refine xeq h3 ?_
  dsimp only
  refine xbind (xpure ?_)
  refine xbind (xhold (xcall (cof (code_ba_new ?_))))
  have g0 : (s.heap.push (baOf [])).get? s.heap.objs.size = some (baOf []) := Heap.get?_push_size _ rfl
  have in1 : Looks (model prog w) (s.heap.push (baOf [])) (isInstance (.ref s.heap.objs.size) (.type "bytearray")) true :=
    fun A Q E s' k q => wpAny_isInstance (ba_is (k _ _ g0)) sub_ba_self q
  refine xlook in1 ?_
  simp only [Bool.not_true, Bool.false_eq_true, if_false]
  refine xbind (xhold ?_)
  unfold callSpecial?
  refine xleaf (special_ba (s := { s with heap := _ }) g0 slot_ba_init ?_)
  dsimp only
  refine xhold (xeq (slot_ba_init.bind _) ?_)
  dsimp only
  refine xbind (xcall (ccallb (Code.quiet_builtin _ (by decide +kernel)) (ba_init_nd _) (slot_ba_init.check _ _ _ _ _ _ _ _ (ba_is (s := { s with heap := _ }) g0) (args_ba_init_1 _) (cbuiltin entry_ba_init (xmono (ba_init (s := { s with heap := _ }) g0 fun h' k1 k2 => ?_) (fun _ _ x => x) fun _ _ x => x)))))
  refine xpure ?_
  dsimp only
  simp only [bne_self_eq_false, Bool.false_eq_true, if_false]
  exact xpure (hq h' k1 k2)
theorem ba_len_body {a : Addr} {b : List UInt8} {Q : Value → Shared → Prop} (h : s.heap.get? a = some (baOf b)) (hq : Q (.int b.length s.toks) { s with toks := s.toks + 1 }) :
    wpAny (model prog w) A (Builtin.«bytearray.__len__» ⟨[.ref a], []⟩) (fun fin s' => ∃ v, fin = Fin.done (Flow.ret v) ∧ Q v s') E s := by
  unfold Builtin.«bytearray.__len__»
  show wpAny _ _ (Builtin.Bytes.payload (.ref a) >>= fun p => retInt (p.size : Nat)) _ _ _
  refine wpAny_bind (ba_payload h ?_)
  refine wpAny_bind (wpAny_mkInt (wpAny_pure ⟨_, rfl, ?_⟩))
  rw [List.size_toArray]
  exact hq
theorem call_len_ba {a : Addr} {b : List UInt8} {Q : Value → Shared → Prop} (h : s.heap.get? a = some (baOf b)) (hfit : b.length ≤ 1000000) (hq : Q (.int b.length (s.toks + 1)) { s with toks := s.toks + 1 + 1 }) :
    wpAny (model prog w) A (call (.builtin "len") [.ref a]) Q E s := by
  refine call_function_entry kind_len plain_len entry_len (args_len1 _) ?_
  unfold Builtin.«len»
  refine wpAny_bind (m := oneArg "len" _) (wpAny_pure ?_)
  refine wpAny_bind (m := callSpecial? (.ref a) (Str.ofString "__len__")) (wpAny_callSpecial?_slot (name := Str.ofString "__len__") (ba_is h) slot_ba_len
    (wpAny_call_entry slot_ba_len (ba_is h) entry_ba_len ?_ (args_ba_len_1 _)))
  refine ba_len_body h ?_
  refine wpAny_bind (wpAny_holding (wpAny_pure ?_))
  refine wpAny_bind (wpAny_letGo ?_)
  show wpAny _ _ (if ((b.length : Nat) : Int) < 0 then _ else _) _ _ _
  rw [if_neg (by omega)]
  show wpAny _ _ (if ((b.length : Nat) : Int) ≥ 2 ^ 63 then _ else _) _ _ _
  rw [if_neg (by omega)]
  exact wpAny_bind (wpAny_mkInt (wpAny_pure ⟨_, rfl, hq⟩))
end
end Mine

namespace Mine
open PySem PySem.W PySem.Calls PyProof.Rows
set_option maxRecDepth 100000

inductive TI where
  | int
  | bytes
  | range
  | list
  | str
  | bool
  | bytearray
noncomputable def TI.name : TI → String
  | .int => "int"
  | .bytes => "bytes"
  | .range => "range"
  | .list => "list"
  | .str => "str"
  | .bool => "bool"
  | .bytearray => "bytearray"
inductive BI where
  | len
  | max
  | min
  | sorted
  | any
noncomputable def BI.name : BI → String
  | .len => "len"
  | .max => "max"
  | .min => "min"
  | .sorted => "sorted"
  | .any => "any"
inductive AV where
  | none
  | bool (b : Bool)
  | int (e : IE)
  | str (s : Str)
  | byts (b : List UInt8)
  | bz (e : IE)
  | loc (l : Nat)
  | top (a : Addr)
  | typ (n : TI)
  | blt (id : BI)
  | pick (e : IE) (vs : List AV)

inductive VR (W : Wd) : AV → Value → Prop
  | none : VR W .none .none
  | bool (b) : VR W (.bool b) (.bool b)
  | int {e x} (t) : e.ev W.ι = some x → VR W (.int e) (.int x t)
  | str (s t) : VR W (.str s) (.str s t)
  | byts {b a} (t) : a = b.toArray → VR W (.byts b) (.bytes a t)
  | bz {e x a} (t) : e.ev W.ι = some x → 0 ≤ x → x ≤ 1000000 → a = Array.replicate x.toNat 0 → VR W (.bz e) (.bytes a t)
  | loc {l a} : W.ρ[l]? = some a → VR W (.loc l) (.ref a)
  | top (a) : VR W (.top a) (.ref a)
  | typ (n) : VR W (.typ n) (.type n.name)
  | blt (i) : VR W (.blt i) (.builtin i.name)
  | pick {e x vs v c} : e.ev W.ι = some x → 0 ≤ x → vs[x.toNat]? = some v → VR W v c → VR W (.pick e vs) c
theorem VR.mono {W W' : Wd} (h : W.le W') {v : AV} {c : Value} (k : VR W v c) : VR W' v c := by
  induction k with
  | none => exact .none
  | bool b => exact .bool b
  | int t e => exact .int t (IE.ev_mono h.2 e)
  | str s t => exact .str s t
  | byts t e => exact .byts t e
  | bz t e h1 h2 h3 => exact .bz t (IE.ev_mono h.2 e) h1 h2 h3
  | loc e => exact .loc (pre_get h.1 e)
  | top a => exact .top a
  | typ n => exact .typ n
  | blt i => exact .blt i
  | pick e h0 h1 _ ih => exact .pick (IE.ev_mono h.2 e) h0 h1 ih

/-- what a value of an abstract one is, without the other ones -/
noncomputable def VRf (W : Wd) (v : AV) (c : Value) : Prop := match v with
  | .none => c = .none
  | .bool b => c = .bool b
  | .int e => ∃ x t, c = .int x t ∧ e.ev W.ι = some x
  | .str s => ∃ t, c = .str s t
  | .byts b => ∃ a t, c = .bytes a t ∧ a = b.toArray
  | .bz e => ∃ x a t, c = .bytes a t ∧ e.ev W.ι = some x ∧ 0 ≤ x ∧ x ≤ 1000000 ∧ a = Array.replicate x.toNat 0
  | .loc l => ∃ a, c = .ref a ∧ W.ρ[l]? = some a
  | .top a => c = .ref a
  | .typ n => c = .type n.name
  | .blt i => c = .builtin i.name
  | .pick e vs => ∃ x v, e.ev W.ι = some x ∧ 0 ≤ x ∧ vs[x.toNat]? = some v ∧ VR W v c
theorem VR.inv {W : Wd} {v : AV} {c : Value} (h : VR W v c) : VRf W v c := by
  cases h with
  | none => rfl
  | bool b => rfl
  | int t e => exact ⟨_, t, rfl, e⟩
  | str s t => exact ⟨t, rfl⟩
  | byts t e => exact ⟨_, t, rfl, e⟩
  | bz t e h1 h2 h3 => exact ⟨_, _, t, rfl, e, h1, h2, h3⟩
  | loc e => exact ⟨_, rfl, e⟩
  | top a => rfl
  | typ n => rfl
  | blt i => rfl
  | pick e h0 h1 h2 => exact ⟨_, _, e, h0, h1, h2⟩

inductive AO where
  | tup (vs : List AV)
  | lst (vs : List AV)
  | inst (C : Addr) (d : Nat)
  | ns (fs : List (Str × AV))
  | dct (es : List (KD × AV × AV)) (n : Nat)
  | rng (a b : Int)
  | rngIt (x left : Int)
  | rngSI (x : Int) (e : IE)
  | lstIt (l : Nat) (i : Nat)
  | tupIt (l : Nat) (i : Nat)
  | keyIt (l i many n : Nat)
  | cell (v : Option AV)
  | barr (b : List UInt8)
  | env (fs : List (Str × AV))

section
variable {W : Wd} {c : Value} {P : Value → Prop}
theorem VR.onInt {e : IE} (h : VR W (.int e) c) (k : ∀ x t, e.ev W.ι = some x → P (.int x t)) : P c := by
  obtain ⟨x, t, rfl, q⟩ := h.inv
  exact k x t q
theorem VR.onLoc {l : Nat} (h : VR W (.loc l) c) (k : ∀ a, W.ρ[l]? = some a → P (.ref a)) : P c := by
  obtain ⟨a, rfl, q⟩ := h.inv
  exact k a q
theorem VR.onStr {x : Str} (h : VR W (.str x) c) (k : ∀ t, P (.str x t)) : P c := by
  obtain ⟨t, rfl⟩ := h.inv
  exact k t
theorem VR.onByts {b : List UInt8} (h : VR W (.byts b) c) (k : ∀ t, P (.bytes b.toArray t)) : P c := by
  obtain ⟨_, t, rfl, rfl⟩ := h.inv
  exact k t
end
/-- an entry of a dict -/
structure DR (W : Wd) (f : KD × AV × AV) (e : DictEntry) : Prop where
  hash : e.hash = khash W.hs f.1
  key : VR W f.2.1 e.key
  val : VR W f.2.2 e.val
  dep : f.1.dep ≤ 8
theorem DR.mono {W W' : Wd} (h : W.le W') (hp : W.hs = W'.hs) {f : KD × AV × AV} {e : DictEntry} (k : DR W f e) : DR W' f e := ⟨hp ▸ k.hash, k.key.mono h, k.val.mono h, k.dep⟩
inductive OR (W : Wd) : AO → Obj → Prop
  | tup {vs cs} : All2 (VR W) vs cs → OR W (.tup vs) { cls := .type "tuple", data := .seq cs.toArray }
  | lst {vs cs n} : All2 (VR W) vs cs → OR W (.lst vs) { cls := .type "list", data := .seq cs.toArray n }
  | inst {C d dx} : W.ρ[d]? = some dx → OR W (.inst C d) (instObj C dx)
  | ns {fs es n} : All2 (fun (f : Str × AV) (e : DictEntry) => (∃ t, e.key = .str f.1 t) ∧ VR W f.2 e.val) fs es → OR W (.ns fs) (dictOf es n)
  | cell {v cv} {c : Obj} : c.data = .cell (some cv) → VR W v cv → OR W (.cell (some v)) c
  | cell0 {c : Obj} : c.data = .cell none → OR W (.cell none) c
  | barr (b) : OR W (.barr b) (baOf b)
  | dct {es ds n} : All2 (DR W) es ds → (es.map (·.1)).Nodup → OR W (.dct es n) (dictOf ds n)
  | rng {a b t u v} : OR W (.rng a b) { cls := .type "range", data := .fields #[.int a t, .int b u, .int 1 v] }
  | rngIt {x left} : OR W (.rngIt x left) { cls := .type "range_iterator", data := .fields #[rawInt x, rawInt left, rawInt 1] }
  | rngSI {x left e} : e.ev W.ι = some left → OR W (.rngSI x e) { cls := .type "range_iterator", data := .fields #[rawInt x, rawInt left, rawInt 1] }
  | lstIt {l i la} {c : Obj} : W.ρ[l]? = some la → c.cls = .type "list_iterator" → c.data = .fields #[.ref la, .int (i : Nat) 0] → OR W (.lstIt l i) c
  | tupIt {l i la} {c : Obj} : W.ρ[l]? = some la → c.cls = .type "tuple_iterator" → c.data = .fields #[.ref la, .int (i : Nat) 0] → OR W (.tupIt l i) c
  | keyIt {l i many n la} : W.ρ[l]? = some la → OR W (.keyIt l i many n) (keyItOf la i many n)
  | env {fs es ep} {m : Str → Option Value} {c : Obj} : c.data = .dict es ep → StrKeys es → (∀ x, nsFind es x = m x) → (∀ x v, lk x fs = some v → ∃ cv, m x = some cv ∧ VR W v cv) → OR W (.env fs) c
/-- what an object of an abstract one is, without the other ones -/
noncomputable def ORf (W : Wd) (o : AO) (c : Obj) : Prop := match o with
  | .tup vs => ∃ cs, c = { cls := .type "tuple", data := .seq (List.toArray cs) } ∧ All2 (VR W) vs cs
  | .lst vs => ∃ cs n, c = { cls := .type "list", data := .seq (List.toArray cs) n } ∧ All2 (VR W) vs cs
  | .inst C d => ∃ dx, c = instObj C dx ∧ W.ρ[d]? = some dx
  | .ns fs => ∃ es n, c = dictOf es n ∧ All2 (fun (f : Str × AV) (e : DictEntry) => (∃ t, e.key = .str f.1 t) ∧ VR W f.2 e.val) fs es
  | .dct es n => ∃ ds, c = dictOf ds n ∧ All2 (DR W) es ds ∧ (es.map (·.1)).Nodup
  | .rng a b => ∃ t u v, c = { cls := .type "range", data := .fields #[.int a t, .int b u, .int 1 v] }
  | .rngIt x left => c = { cls := .type "range_iterator", data := .fields #[rawInt x, rawInt left, rawInt 1] }
  | .rngSI x e => ∃ left, c = { cls := .type "range_iterator", data := .fields #[rawInt x, rawInt left, rawInt 1] } ∧ e.ev W.ι = some left
  | .lstIt l i => ∃ la, W.ρ[l]? = some la ∧ c.cls = .type "list_iterator" ∧ c.data = .fields #[.ref la, .int (i : Nat) 0]
  | .tupIt l i => ∃ la, W.ρ[l]? = some la ∧ c.cls = .type "tuple_iterator" ∧ c.data = .fields #[.ref la, .int (i : Nat) 0]
  | .keyIt l i many n => ∃ la, c = keyItOf la i many n ∧ W.ρ[l]? = some la
  | .cell v => match v with
    | some v => ∃ cv, c.data = .cell (some cv) ∧ VR W v cv
    | none => c.data = .cell none
  | .barr b => c = baOf b
  | .env fs => ∃ (es : Array DictEntry) (ep : Nat) (m : Str → Option Value), c.data = .dict es ep ∧ StrKeys es ∧ (∀ x, nsFind es x = m x) ∧ (∀ x v, lk x fs = some v → ∃ cv, m x = some cv ∧ VR W v cv)
theorem OR.inv {W : Wd} {o : AO} {c : Obj} (h : OR W o c) : ORf W o c := by
  cases h with
  | tup e => exact ⟨_, rfl, e⟩
  | lst e => exact ⟨_, _, rfl, e⟩
  | inst e => exact ⟨_, rfl, e⟩
  | ns e => exact ⟨_, _, rfl, e⟩
  | cell e q => exact ⟨_, e, q⟩
  | cell0 e => exact e
  | barr b => rfl
  | dct e d => exact ⟨_, rfl, e, d⟩
  | rng => exact ⟨_, _, _, rfl⟩
  | rngIt => rfl
  | rngSI e => exact ⟨_, rfl, e⟩
  | lstIt e1 e2 e3 => exact ⟨_, e1, e2, e3⟩
  | tupIt e1 e2 e3 => exact ⟨_, e1, e2, e3⟩
  | keyIt e1 => exact ⟨_, rfl, e1⟩
  | env e1 e2 e3 e4 => exact ⟨_, _, _, e1, e2, e3, e4⟩
theorem OR.mono {W W' : Wd} (h : W.le W') (hp : W.hs = W'.hs) {o : AO} {c : Obj} (k : OR W o c) : OR W' o c := by
  cases k with
  | tup e => exact .tup (e.imp fun _ _ q => q.mono h)
  | lst e => exact .lst (e.imp fun _ _ q => q.mono h)
  | inst e => exact .inst (pre_get h.1 e)
  | ns e => exact .ns (e.imp fun _ _ q => ⟨q.1, q.2.mono h⟩)
  | cell e q => exact .cell e (q.mono h)
  | cell0 e => exact .cell0 e
  | barr b => exact .barr b
  | dct e d => exact .dct (e.imp fun _ _ q => q.mono h hp) d
  | rng => exact .rng
  | rngIt => exact .rngIt
  | rngSI e => exact .rngSI (IE.ev_mono h.2 e)
  | lstIt e1 e2 e3 => exact .lstIt (pre_get h.1 e1) e2 e3
  | tupIt e1 e2 e3 => exact .tupIt (pre_get h.1 e1) e2 e3
  | keyIt e1 => exact .keyIt (pre_get h.1 e1)
  | env e1 e2 e3 e4 => exact .env e1 e2 e3 fun x v q => let ⟨cv, a, b⟩ := e4 x v q; ⟨cv, a, b.mono h⟩
theorem OR.alive {W : Wd} {o : AO} {c : Obj} (k : OR W o c) : c.isFreed = false := by
  cases k with
  | cell e _ => obtain ⟨_, _, d, _⟩ := c; cases e; rfl
  | cell0 e => obtain ⟨_, _, d, _⟩ := c; cases e; rfl
  | lstIt _ _ e => obtain ⟨_, _, d, _⟩ := c; cases e; rfl
  | tupIt _ _ e => obtain ⟨_, _, d, _⟩ := c; cases e; rfl
  | env e _ _ _ => obtain ⟨_, _, d, _⟩ := c; cases e; rfl
  | _ => rfl

structure St where
  lc : List (Str × AV)
  hp : Tr AO
  nl : Nat
  vi : List VI

/-- the ground: a heap, and the places of the frames in it, of which the slots may turn -/
structure Gd where
  g : Heap
  fs : List Addr
noncomputable def Gr (d : Gd) (L : Addr) (h : Heap) (m : Str → Option Value) : Prop := ∃ g, KtsTurn d.fs d.g g ∧ Fr g L h m
section
variable {d : Gd} {L a : Addr} {h h' : Heap} {m m' : Str → Option Value}
theorem Gr.mk {g : Heap} (T : KtsTurn d.fs d.g g) (F : Fr g L h m) : Gr d L h m := ⟨g, T, F⟩
theorem Gr.ns (G : Gr d L h m) : h.Ns L m := let ⟨_, _, F⟩ := G; F.ns
theorem Gr.keeps (G : Gr d L h m) (hk : ∀ b o, h.get? b = some o → h'.get? b = some o) : Gr d L h' m := let ⟨g, T, F⟩ := G; ⟨g, T, F.keeps hk⟩
theorem Gr.push (G : Gr d L h m) (c : Obj) : Gr d L (h.push c) m := let ⟨g, T, F⟩ := G; ⟨g, T, F.push c⟩
theorem Gr.set (G : Gr d L h m) (hn : h'.Ns L m') (hs : Heap.SameBut L h h') : Gr d L h' m' := let ⟨g, T, F⟩ := G; ⟨g, T, F.set hn hs⟩
theorem Gr.up (G : Gr d L h m) {b : Addr} {o : Obj} (e : d.g.get? b = some o) : ∃ sl, h.get? b = some { o with slots := sl } := let ⟨_, T, F⟩ := G; let ⟨sl, e'⟩ := T.up e; ⟨sl, F.keep _ _ e'⟩
theorem Gr.none_at (G : Gr d L h m) {b : Addr} (e : h.get? b = none) : d.g.get? b = none := by
  cases q : d.g.get? b with
  | none => rfl
  | some o => obtain ⟨sl, z⟩ := G.up q; rw [e] at z; exact no_some z
theorem Gr.but (G : Gr d L h m) (hs : Heap.SameBut a h h') (hL : a ≠ L) (ha : d.g.get? a = none) : Gr d L h' m := by
  obtain ⟨g, T, F⟩ := G
  obtain ⟨oL, es, ep, hLo, r⟩ := F.ns
  refine ⟨g, T, ⟨oL, es, ep, (hs.2 L (Ne.symm hL)).trans hLo, r⟩, fun b x e => (hs.2 b fun q => ?_).trans (F.keep b x e), F.above⟩
  rw [q, T.none_ a ha] at e
  exact no_some e
theorem newsTurn {fs : List Addr} {g g' : Heap} {news : List (Addr × Obj)} (T : KtsTurn fs g g') (N : News g L h news) : News g' L h news := fun p hp => ⟨(N p hp).1, (N p hp).2.1, T.none_ _ (N p hp).2.2⟩
theorem turn_none {fs : List Addr} {g g' : Heap} (T : KtsTurn fs g g') {b : Addr} (e : g'.get? b = none) : g.get? b = none := by
  cases q : g.get? b with
  | none => rfl
  | some o => obtain ⟨sl, z⟩ := T.up q; rw [e] at z; exact no_some z
theorem newsBack {fs : List Addr} {g g' : Heap} {news : List (Addr × Obj)} (T : KtsTurn fs g g') (N : News g' L h news) : News g L h news := fun p hp => ⟨(N p hp).1, (N p hp).2.1, turn_none T (N p hp).2.2⟩
end
/-- place 0 is the script: a list of ints of the ground, its length is letter 0 -/
noncomputable def ScrOK (h₀ : Heap) (W : Wd) : Prop := (h₀.get? sysModules).isSome = true ∧ ∃ a vs ns, W.ρ[0]? = some a ∧ W.ι[0]? = some ((ns.length : Nat) : Int) ∧ h₀.IsList a (List.toArray vs) ∧ IntsAre vs ns ∧ ns.length ≤ 2 ^ 40
theorem ScrOK.mono {h₀ : Heap} {W W' : Wd} (l : W.le W') (h : ScrOK h₀ W) : ScrOK h₀ W' := let ⟨h0, a, vs, ns, h1, h2, h3⟩ := h; ⟨h0, a, vs, ns, pre_get l.1 h1, pre_get l.2 h2, h3⟩
theorem ScrOK.stays {h₀ g : Heap} {W : Wd} (st : ∀ b o, h₀.get? b = some o → g.get? b = some o) (h : ScrOK h₀ W) : ScrOK g W :=
  let ⟨h0, a, vs, ns, h1, h2, ⟨o, ho, hc, k, hd⟩, h4⟩ := h; ⟨(let ⟨o, ho⟩ := Option.isSome_iff_exists.mp h0; by rw [st _ _ ho]; rfl), a, vs, ns, h1, h2, ⟨o, st _ _ ho, hc, k, hd⟩, h4⟩
structure Rel (os0 : (Array Nat → Int) × OsState) (h₀ : Gd) (L : Addr) (m : Str → Option Value) (W : Wd) (σ : St) (s : Shared) : Prop where
  fr : Gr h₀ L s.heap m
  lcs : ∀ x v, lk x σ.lc = some v → ∃ c, m x = some c ∧ VR W v c
  led : ∀ l o, σ.hp.get l = some o → ∃ a c, W.ρ[l]? = some a ∧ OR W o c ∧ s.heap.get? a = some c ∧ a ≠ L ∧ h₀.g.get? a = none
  len : W.ρ.length = σ.nl
  inj : ∀ l l' o o', σ.hp.get l = some o → σ.hp.get l' = some o' → W.ρ[l]? = W.ρ[l']? → l = l'
  gens : s.gens = #[]
  os : s.os = os0.2
  vars : VOK σ.vi W.ι
  scr : ScrOK h₀.g W
  par : W.hs = os0.1

noncomputable def Cov (W : Wd) (σ : St) (news : List (Addr × Obj)) : Prop := ∀ l o, σ.hp.get l = some o → ∃ a c, W.ρ[l]? = some a ∧ OR W o c ∧ (a, c) ∈ news

section
variable {os0 : (Array Nat → Int) × OsState} {h₀ : Gd} {L : Addr} {m : Str → Option Value} {W : Wd} {σ : St} {s : Shared}

theorem Rel.toNews (R : Rel os0 h₀ L m W σ s) : ∃ news, News h₀.g L s.heap news ∧ Cov W σ news ∧ (∀ p ∈ news, ∃ l o, σ.hp.get l = some o ∧ W.ρ[l]? = some p.1) ∧ (news.map (·.1)).Nodup := by
  have key : ∀ n, ∃ news : List (Addr × Obj), News h₀.g L s.heap news ∧ (∀ l o, l < n → σ.hp.get l = some o → ∃ a c, W.ρ[l]? = some a ∧ OR W o c ∧ (a, c) ∈ news) ∧
      (∀ p ∈ news, ∃ l o, l < n ∧ σ.hp.get l = some o ∧ W.ρ[l]? = some p.1) ∧ (news.map (·.1)).Nodup := by
    intro n
    induction n with
    | zero => exact ⟨[], News.nil, fun l _ h => absurd h (Nat.not_lt_zero _), fun p hp => (nomatch hp), .nil⟩
    | succ n ih =>
      obtain ⟨news, N, C, I, D⟩ := ih
      cases q : σ.hp.get n with
      | none =>
        refine ⟨news, N, fun l o hl e => ?_, fun p hp => let ⟨l, o, hl, e⟩ := I p hp; ⟨l, o, Nat.lt_succ_of_lt hl, e⟩, D⟩
        rcases Nat.lt_succ_iff_lt_or_eq.mp hl with h | h
        · exact C l o h e
        · rw [h, q] at e; exact no_some e
      | some o =>
        obtain ⟨a, c, h1, h2, h3, h4, h5⟩ := R.led n o q
        refine ⟨(a, c) :: news, fun p hp => ?_, fun l o' hl e => ?_, fun p hp => ?_, ?_⟩
        · rcases List.mem_cons.mp hp with rfl | hp
          · exact ⟨h3, h4, h5⟩
          · exact N p hp
        · rcases Nat.lt_succ_iff_lt_or_eq.mp hl with h | h
          · obtain ⟨a', c', x, y, z⟩ := C l o' h e
            exact ⟨a', c', x, y, .tail _ z⟩
          · rw [h, q] at e; obtain rfl := Option.some.inj e; rw [h]
            exact ⟨a, c, h1, h2, .head _⟩
        · rcases List.mem_cons.mp hp with rfl | hp
          · exact ⟨n, o, Nat.lt_succ_self _, q, h1⟩
          · obtain ⟨l, o, hl, e⟩ := I p hp; exact ⟨l, o, Nat.lt_succ_of_lt hl, e⟩
        · rw [List.map_cons, List.nodup_cons]
          refine ⟨fun hm => ?_, D⟩
          obtain ⟨p, hp, e⟩ := List.mem_map.mp hm
          obtain ⟨l, o', hl, eo, e'⟩ := I p hp
          have e : p.1 = a := e
          rw [e] at e'
          exact absurd (R.inj l n o' o eo q (e'.trans h1.symm)) (Nat.ne_of_lt hl)
  obtain ⟨news, N, C, I, D⟩ := key σ.nl
  refine ⟨news, N, fun l o e => ?_, fun p hp => let ⟨l, o, _, e⟩ := I p hp; ⟨l, o, e⟩, D⟩
  obtain ⟨a, c, h1, _⟩ := R.led l o e
  exact C l o (R.len ▸ (List.getElem?_eq_some_iff.mp h1).1) e

/-- the ledger anew, out of a list of objects -/
theorem Rel.anew {h₀' : Gd} {L' : Addr} {m' : Str → Option Value} {σ' : St} (R : Rel os0 h₀ L m W σ s) {s' : Shared} {news : List (Addr × Obj)} (F : Gr h₀' L' s'.heap m') (N : News h₀'.g L' s'.heap news) (C : Cov W σ news)
    (hl : ∀ x v, lk x σ'.lc = some v → ∃ c, m' x = some c ∧ VR W v c) (h1 : σ'.hp = σ.hp) (h2 : σ'.nl = σ.nl) (h3 : σ'.vi = σ.vi) (hg : s'.gens = s.gens) (ho : s'.os = s.os) (hs : ScrOK h₀'.g W) : Rel os0 h₀' L' m' W σ' s' where
  fr := F
  lcs := hl
  led := fun l o e => let ⟨a, c, h1, h2, h3⟩ := C l o (h1 ▸ e); ⟨a, c, h1, h2, (N _ h3).1, (N _ h3).2.1, (N _ h3).2.2⟩
  len := h2 ▸ R.len
  inj := by rw [h1]; exact R.inj
  gens := hg.trans R.gens
  os := ho.trans R.os
  vars := h3 ▸ R.vars
  scr := hs
  par := R.par

theorem Rel.nosys (R : Rel os0 h₀ L m W σ s) {a : Addr} (h : h₀.g.get? a = none) : (a == sysModules) = false := by
  rw [beq_eq_false_iff_ne]
  intro q
  have := R.scr.1
  rw [← q, h] at this
  exact ff this
/-- more tokens are nothing -/
theorem Rel.toks (R : Rel os0 h₀ L m W σ s) (t : Nat) : Rel os0 h₀ L m W σ { s with toks := t } := ⟨R.fr, R.lcs, R.led, R.len, R.inj, R.gens, R.os, R.vars, R.scr, R.par⟩

/-- a new object -/
noncomputable def St.alloc (σ : St) (o : AO) : St := { σ with hp := σ.hp.put 41 σ.nl (some o), nl := σ.nl + 1 }
noncomputable def Wd.grow (W : Wd) (a : Addr) : Wd := { W with ρ := W.ρ ++ [a] }
theorem Wd.le_grow (W : Wd) (a : Addr) : W.le (W.grow a) := ⟨List.prefix_append _ _, List.prefix_refl _⟩
theorem Rel.here (R : Rel os0 h₀ L m W σ s) (a : Addr) : (W.grow a).ρ[σ.nl]? = some a := by
  show (W.ρ ++ [a])[σ.nl]? = _
  rw [← R.len, List.getElem?_append_right (Nat.le_refl _), Nat.sub_self]; rfl
theorem Rel.live (R : Rel os0 h₀ L m W σ s) {l : Nat} {o : AO} (h : σ.hp.get l = some o) : l < σ.nl := by
  obtain ⟨a, c, h1, _⟩ := R.led l o h
  exact R.len ▸ (List.getElem?_eq_some_iff.mp h1).1
/-- one more object, wherever it comes from -/
theorem Rel.join (R : Rel os0 h₀ L m W σ s) {s' : Shared} {o : AO} {a : Addr} {c : Obj} {m' : Str → Option Value} {news : List (Addr × Obj)} (hn : σ.nl < 2 ^ 40) (C : Cov W σ news) (F : Gr h₀ L s'.heap m') (N : News h₀.g L s'.heap ((a, c) :: news)) (ha : ∀ p ∈ news, p.1 ≠ a)
    (ho : OR (W.grow a) o c) (hl : ∀ x v, lk x σ.lc = some v → ∃ c, m' x = some c ∧ VR (W.grow a) v c) (hg : s'.gens = s.gens) (hos : s'.os = s.os) : Rel os0 h₀ L m' (W.grow a) (σ.alloc o) s' ∧ Cov (W.grow a) (σ.alloc o) ((a, c) :: news) := by
  have hle := W.le_grow a
  have C' : Cov (W.grow a) (σ.alloc o) ((a, c) :: news) := by
    intro l o' e
    unfold St.alloc at e
    rw [Tr.get_put _ 40 _ _ _ hn] at e
    by_cases q : l = σ.nl
    · rw [if_pos q] at e
      obtain rfl := Option.some.inj e
      exact ⟨a, c, q ▸ R.here a, ho, .head _⟩
    · rw [if_neg q] at e
      obtain ⟨b, d, h1, h2, h3⟩ := C l o' e
      exact ⟨b, d, pre_get hle.1 h1, h2.mono hle rfl, .tail _ h3⟩
  refine ⟨⟨F, hl, fun l o' e => ?_, ?_, fun l l' o1 o2 e1 e2 e => ?_, hg.trans R.gens, hos.trans R.os, R.vars, R.scr.mono hle, R.par⟩, C'⟩
  · obtain ⟨b, d, h1, h2, h3⟩ := C' l o' e
    exact ⟨b, d, h1, h2, (N _ h3).1, (N _ h3).2.1, (N _ h3).2.2⟩
  · show (W.ρ ++ [a]).length = σ.nl + 1
    rw [List.length_append, R.len]; rfl
  · unfold St.alloc at e1 e2
    rw [Tr.get_put _ 40 _ _ _ hn] at e1 e2
    by_cases q : l = σ.nl
    · by_cases q' : l' = σ.nl
      · rw [q, q']
      · rw [if_neg q'] at e2
        obtain ⟨b, d, h1, h2, h3⟩ := C l' o2 e2
        rw [q, R.here a, pre_get hle.1 h1] at e
        obtain rfl := Option.some.inj e
        exact absurd rfl (ha _ h3)
    · rw [if_neg q] at e1
      obtain ⟨b, d, h1, h2, h3⟩ := C l o1 e1
      by_cases q' : l' = σ.nl
      · rw [q', R.here a, pre_get hle.1 h1] at e
        obtain rfl := Option.some.inj e
        exact absurd rfl (ha _ h3)
      · rw [if_neg q'] at e2
        obtain ⟨b', d', h1', h2', h3'⟩ := C l' o2 e2
        rw [pre_get hle.1 h1, pre_get hle.1 h1'] at e
        exact R.inj l l' o1 o2 e1 e2 (by rw [h1, h1', e])
theorem Rel.push (R : Rel os0 h₀ L m W σ s) {o : AO} {c : Obj} (hn : σ.nl < 2 ^ 40) (ho : OR (W.grow s.heap.objs.size) o c) :
    Rel os0 h₀ L m (W.grow s.heap.objs.size) (σ.alloc o) { s with heap := s.heap.push c } := by
  have hle := W.le_grow s.heap.objs.size
  have hL : L < s.heap.objs.size := R.fr.ns.lt
  obtain ⟨news, N, C, I, D⟩ := R.toNews
  refine (R.join (s' := { s with heap := s.heap.push c }) (m' := m) hn C (R.fr.push c) (fun p hp => ?_) (fun p hp => Nat.ne_of_lt (Heap.lt_size (N p hp).1)) ho (fun x v e => ?_) rfl rfl).1
  · rcases List.mem_cons.mp hp with rfl | hp
    · refine ⟨Heap.get?_push_size _ ho.alive, Nat.ne_of_gt hL, ?_⟩
      exact R.fr.none_at (Heap.get?_none_of_le (Nat.le_refl _))
    · exact ⟨Heap.get?_push_of_some _ (N p hp).1, (N p hp).2⟩
  · obtain ⟨d, hd, hv⟩ := R.lcs x v e
    exact ⟨d, hd, hv.mono hle⟩

/-- a store into an object -/
noncomputable def St.upd (σ : St) (l : Nat) (o : AO) : St := { σ with hp := σ.hp.put 41 l (some o) }
theorem Rel.store (R : Rel os0 h₀ L m W σ s) {s' : Shared} {l : Nat} {o₀ o : AO} {a : Addr} {c : Obj} {m' : Str → Option Value} {news news' : List (Addr × Obj)} (hl : σ.hp.get l = some o₀) (ha : W.ρ[l]? = some a) (hn : σ.nl < 2 ^ 40) (C : Cov W σ news) (F : Gr h₀ L s'.heap m') (N : News h₀.g L s'.heap news')
    (hc : (a, c) ∈ news') (hk : ∀ p ∈ news, p.1 ≠ a → p ∈ news') (ho : OR W o c) (hlc : ∀ x v, lk x σ.lc = some v → ∃ c, m' x = some c ∧ VR W v c) (hg : s'.gens = s.gens) (hos : s'.os = s.os) : Rel os0 h₀ L m' W (σ.upd l o) s' := by
  have hll : l < 2 ^ 40 := Nat.lt_trans (R.live hl) hn
  have get : ∀ k ok, (σ.upd l o).hp.get k = some ok → (k = l ∧ ok = o) ∨ (k ≠ l ∧ σ.hp.get k = some ok) := by
    intro k ok e
    unfold St.upd at e
    rw [Tr.get_put _ 40 _ _ _ hll] at e
    by_cases q : k = l
    · rw [if_pos q] at e; obtain rfl := Option.some.inj e; exact .inl ⟨q, rfl⟩
    · rw [if_neg q] at e; exact .inr ⟨q, e⟩
  refine ⟨F, hlc, fun k ok e => ?_, R.len, fun k k' o1 o2 e1 e2 e => ?_, hg.trans R.gens, hos.trans R.os, R.vars, R.scr, R.par⟩
  · rcases get k ok e with ⟨rfl, rfl⟩ | ⟨q, e⟩
    · exact ⟨a, c, ha, ho, (N _ hc).1, (N _ hc).2.1, (N _ hc).2.2⟩
    · obtain ⟨b, d, h1, h2, h3⟩ := C k ok e
      have hne : b ≠ a := fun hb => q (R.inj k l ok o₀ e hl (by rw [h1, ha, hb]))
      have := N _ (hk _ h3 hne)
      exact ⟨b, d, h1, h2, this.1, this.2.1, this.2.2⟩
  · have : ∀ k ok, (σ.upd l o).hp.get k = some ok → ∃ ok', σ.hp.get k = some ok' := by
      intro k ok e
      rcases get k ok e with ⟨rfl, _⟩ | ⟨_, e⟩
      · exact ⟨_, hl⟩
      · exact ⟨_, e⟩
    obtain ⟨_, z1⟩ := this k o1 e1
    obtain ⟨_, z2⟩ := this k' o2 e2
    exact R.inj k k' _ _ z1 z2 e
theorem Rel.same {s' : Shared} (R : Rel os0 h₀ L m W σ s) {a : Addr} {l : Nat} {o₀ o : AO} {c : Obj} (ha : W.ρ[l]? = some a) (hl : σ.hp.get l = some o₀) (hn : σ.nl < 2 ^ 40) (hs : Heap.SameBut a s.heap s'.heap) (ho : OR W o c) (hc : s'.heap.get? a = some c)
    (hg : s'.gens = s.gens) (hos : s'.os = s.os) : Rel os0 h₀ L m W (σ.upd l o) s' := by
  obtain ⟨a', c', h1, _, h3, h4, h5⟩ := R.led l o₀ hl
  rw [ha] at h1
  obtain rfl := Option.some.inj h1
  obtain ⟨news, N, C, I, D⟩ := R.toNews
  refine R.store (news' := (a, c) :: news.filter fun p => p.1 != a) hl ha hn C (R.fr.but hs h4 h5) (fun p hp => ?_) (.head _) (fun p hp hne => ?_) ho R.lcs hg hos
  · rcases List.mem_cons.mp hp with rfl | hp
    · exact ⟨hc, h4, h5⟩
    · obtain ⟨hp, hne⟩ := List.mem_filter.mp hp
      have hne : p.1 ≠ a := by simpa using hne
      exact ⟨(hs.2 _ hne).trans (N p hp).1, (N p hp).2⟩
  · exact .tail _ (List.mem_filter.mpr ⟨hp, by simpa using hne⟩)
/-- an object let go -/
noncomputable def St.drop (σ : St) (l : Nat) : St := { σ with hp := σ.hp.put 41 l none }
end
end Mine

namespace Mine
open PySem PySem.W PySem.Calls PyProof.Rows
set_option maxRecDepth 100000

theorem lookup_zip_none {α : Type} {x : Str} : ∀ {ns : List Str} {vs : List α}, x ∉ ns → (ns.zip vs).lookup x = none
  | [], _, _ => by simp
  | _ :: _, [], _ => by simp
  | n :: ns, v :: vs, h => by
    rw [List.zip_cons_cons, List.lookup_cons]
    have : (x == n) = false := beq_eq_false_iff_ne.mpr fun e => h (e ▸ .head _)
    simp only [this]
    exact lookup_zip_none fun q => h (.tail _ q)
theorem lookup_append' {α : Type} (x : Str) : ∀ (l l' : List (Str × α)), (l ++ l').lookup x = (l.lookup x).or (l'.lookup x)
  | [], l' => rfl
  | (y, v) :: r, l' => by
    rw [List.cons_append, List.lookup_cons, List.lookup_cons]
    cases (x == y) <;> simp [lookup_append' x r l']
noncomputable def fillF (x : Str × Value) (r : List (Str × Value)) : Sem (ForInStep (List (Str × Value))) := if (r.lookup x.1).isNone = true then pure (ForInStep.yield (r ++ [(x.1, x.2)])) else pure (ForInStep.yield r)
/-- the defaults that are still wanted go in, one by one -/
theorem fill_all : ∀ (l' l : List (Str × Value)), (∀ x ∈ l', l.lookup x.1 = none) → (l'.map (·.1)).Nodup → (forIn (m := Sem) l' l fillF) = pure (l ++ l')
  | [], _, _, _ => by simp
  | (n, d) :: r, l, h, hd => by
    rw [List.forIn_cons]
    have h1 : l.lookup n = none := h (n, d) (.head _)
    simp only [fillF, h1, Option.isNone_none, if_true, pure_bind]
    rw [List.map_cons, List.nodup_cons] at hd
    have := fill_all r (l ++ [(n, d)]) (fun x hx => ?_) hd.2
    · rw [List.append_assoc] at this; exact this
    · rw [lookup_append', h x (.tail _ hx), Option.none_or, List.lookup_cons]
      have : (x.1 == n) = false := beq_eq_false_iff_ne.mpr fun e => hd.1 (e ▸ List.mem_map.mpr ⟨x, hx, rfl⟩)
      simp [this]
theorem fill_skip {l : List (Str × Value)} : ∀ (l1 l2 : List (Str × Value)), (∀ x ∈ l1, l.lookup x.1 ≠ none) → (forIn (m := Sem) (l1 ++ l2) l fillF) = forIn l2 l fillF
  | [], _, _ => rfl
  | x :: r, l2, h => by
    rw [List.cons_append, List.forIn_cons]
    have h1 : (l.lookup x.1).isNone = false := by
      cases q : l.lookup x.1 with
      | none => exact absurd q (h x (.head _))
      | some _ => rfl
    simp only [fillF, h1, Bool.false_eq_true, if_false, pure_bind]
    exact fill_skip r l2 fun y hy => h y (.tail _ hy)
theorem zip_lookup_some {α : Type} {x : Str} : ∀ {ns : List Str} {vs : List α}, x ∈ ns.take vs.length → (ns.zip vs).lookup x ≠ none
  | [], _, h => by simp at h
  | n :: ns, [], h => by simp at h
  | n :: ns, v :: vs, h => by
    rw [List.zip_cons_cons, List.lookup_cons]
    by_cases e : x = n
    · subst e; simp
    · have : (x == n) = false := beq_eq_false_iff_ne.mpr e
      simp only [this]
      refine zip_lookup_some ?_
      simp only [List.length_cons, List.take_succ_cons, List.mem_cons] at h
      exact h.resolve_left e
theorem fm_congr {α β : Type} {f g : α → Option β} : ∀ {l : List α}, (∀ x ∈ l, f x = g x) → l.filterMap f = l.filterMap g
  | [], _ => rfl
  | x :: r, h => by
    rw [List.filterMap_cons, List.filterMap_cons, h x (.head _), fm_congr fun y hy => h y (.tail _ hy)]
theorem zip_lookup_self {α : Type} : ∀ {ns : List Str} {vs : List α}, ns.Nodup → ns.length = vs.length → (ns.filterMap fun n => ((ns.zip vs).lookup n).map (n, ·)) = ns.zip vs := by
  intro ns
  induction ns with
  | nil => intro vs _ _; simp
  | cons n ns ih =>
    intro vs hd hl
    induction vs using List.casesOn with
    | nil => cases hl
    | cons v vs =>
      rw [List.nodup_cons] at hd
      rw [List.zip_cons_cons, List.filterMap_cons]
      simp only [List.lookup_cons, beq_self_eq_true, Option.map_some]
      congr 1
      refine (fm_congr fun x hx => ?_).trans (ih hd.2 (Nat.succ.inj hl))
      have : (x == n) = false := beq_eq_false_iff_ne.mpr fun e => hd.1 (e ▸ hx)
      simp only [this]
theorem fill_run {ns : List Str} {vs ds : List Value} (hn : ns.Nodup) (hg : vs.length ≤ ns.length) (hm : ns.length ≤ vs.length + ds.length) (hk : ds.length ≤ ns.length) :
    (forIn (m := Sem) ((ns.drop (ns.length - ds.length)).zip ds) (ns.zip vs) fillF) = pure (ns.zip (vs ++ ds.drop (vs.length + ds.length - ns.length))) := by
  generalize hf : ns.length - ds.length = f
  have hfl : f ≤ vs.length := hf ▸ Nat.sub_le_of_le_add hm
  have hfd : ns.length - f = ds.length := by rw [← hf]; exact Nat.sub_sub_self hk
  have hc : vs.length + ds.length - ns.length = vs.length - f := by rw [← hf]; exact (Nat.sub_sub_right _ hk).symm
  rw [hc]
  generalize hcc : vs.length - f = c
  have hfc : f + c = vs.length := by rw [← hcc]; exact Nat.add_sub_of_le hfl
  have e1 : (ns.drop f).zip ds = ((ns.drop f).take c).zip (ds.take c) ++ ((ns.drop f).drop c).zip (ds.drop c) := by
    rw [← List.zip_append (by rw [List.length_take, List.length_take, List.length_drop, hfd]), List.take_append_drop, List.take_append_drop]
  have e2 : (ns.drop f).drop c = ns.drop vs.length := by rw [List.drop_drop, hfc]
  rw [e1, e2, fill_skip _ _ fun x hx => ?_]
  · rw [fill_all]
    · congr 1
      have : ns = ns.take vs.length ++ ns.drop vs.length := (List.take_append_drop ..).symm
      conv => rhs; rw [this]
      rw [List.zip_append (by rw [List.length_take]; omega)]
      congr 1
      conv => lhs; rw [this]
      have z : ∀ (a b : List Str) (v : List Value), a.length = v.length → (a ++ b).zip v = a.zip v := by
        intro a
        induction a with
        | nil => intro b v h; induction v using List.casesOn with | nil => simp | cons _ _ => cases h
        | cons x a ih => intro b v h; induction v using List.casesOn with | nil => cases h | cons y v => rw [List.cons_append, List.zip_cons_cons, List.zip_cons_cons, ih b v (Nat.succ.inj h)]
      exact z _ _ _ (by rw [List.length_take]; omega)
    · intro x hx
      have hx1 : x.1 ∈ ns.drop vs.length := (List.of_mem_zip (show (_, _) ∈ _ from hx)).1
      cases q : (ns.zip vs).lookup x.1 with
      | none => rfl
      | some v =>
        exfalso
        have : x.1 ∈ ns.take vs.length := by
          have : ∀ (a : List Str) (v : List Value) (u : Value), (a.zip v).lookup x.1 = some u → x.1 ∈ a.take v.length := by
            intro a
            induction a with
            | nil => intro v u h; simp at h
            | cons y a ih =>
              intro v u h
              induction v using List.casesOn with
              | nil => simp at h
              | cons w v =>
                rw [List.zip_cons_cons, List.lookup_cons] at h
                by_cases e : x.1 = y
                · rw [e]; simp
                · have : (x.1 == y) = false := beq_eq_false_iff_ne.mpr e
                  simp only [this] at h
                  simpa using .inr (ih v u h)
          exact this _ _ _ q
        have hd := hn
        rw [← List.take_append_drop vs.length ns, List.nodup_append] at hd
        exact hd.2.2 _ this _ hx1 rfl
    · have hd := hn
      rw [← List.take_append_drop vs.length ns, List.nodup_append] at hd
      have : ∀ (a : List Str) (v : List Value), a.Nodup → ((a.zip v).map (·.1)).Nodup := by
        intro a
        induction a with
        | nil => intro v _; simp
        | cons y a ih =>
          intro v h
          induction v using List.casesOn with
          | nil => simp
          | cons w v =>
            rw [List.nodup_cons] at h
            rw [List.zip_cons_cons, List.map_cons, List.nodup_cons]
            refine ⟨fun hm => h.1 ?_, ih v h.2⟩
            obtain ⟨p, hp, e⟩ := List.mem_map.mp hm
            have : p.1 = y := e
            exact this ▸ (List.of_mem_zip (show (_, _) ∈ _ from hp)).1
      exact this _ _ hd.2.1
  · have hx1 := (List.of_mem_zip (show (_, _) ∈ _ from hx)).1
    refine zip_lookup_some ?_
    have : (ns.drop f).take c = (ns.take (f + c)).drop f := by rw [List.take_drop]
    rw [this] at hx1
    have := List.mem_of_mem_drop hx1
    rw [← hfc]; exact this

theorem binds_simple {s : Shared} {fd : FuncData} {ns : List Str} {vs ds : List Value} (h1 : fd.params.posonlyargs = []) (h2 : fd.params.args.map (·.arg) = ns) (h3 : fd.params.kwonlyargs = []) (h4 : fd.params.vararg = none) (h5 : fd.params.kwarg = none)
    (hd : (fd.defaults = .none ∧ ds = []) ∨ ∃ T o n, fd.defaults = .ref T ∧ s.heap.get? T = some o ∧ o.data = .seq ds.toArray n)
    (hn : ns.Nodup) (hg : vs.length ≤ ns.length) (hm : ns.length ≤ vs.length + ds.length) (hk : ds.length ≤ ns.length) :
    BindsTo s fd ⟨vs, []⟩ (ns.zip (vs ++ ds.drop (vs.length + ds.length - ns.length))) := by
  obtain ⟨name, qual, ⟨po, ar, va, ko, kd, kw, df⟩, body, sc, gl, clo, dV, kV, doc, pm, an, cd, ct, bu⟩ := fd
  obtain rfl : po = [] := h1
  obtain rfl : ko = [] := h3
  obtain rfl : va = none := h4
  obtain rfl : kw = none := h5
  obtain rfl : ar.map Arg.arg = ns := h2
  intro M A E Q q
  have seq : ∀ (k : Option (Array Value) → Sem (List (Str × Value))), (∀ o : Option (Array Value), (o.getD #[]).toList = ds → wpAny M A (k o) Q E s) → wpAny M A (seqItems? dV >>= k) Q E s := by
    intro k hkk
    rcases hd with ⟨e, rfl⟩ | ⟨T, o, n, e, ho, hs⟩
    · rw [show dV = .none from e]; exact wpAny_bind (wpAny_pure (hkk none rfl))
    · rw [show dV = .ref T from e]; exact wpAny_bind (wpAny_seqItems ho hs (hkk _ rfl))
  have hz : ds.length - (ar.map Arg.arg).length = 0 := Nat.sub_eq_zero_of_le hk
  have miss : (((ar.map Arg.arg).take ((ar.map Arg.arg).length - (ds.drop (ds.length - (ar.map Arg.arg).length)).length)).filter fun n => (((ar.map Arg.arg).zip vs).lookup n).isNone) = [] := by
    rw [hz, List.drop_zero, List.filter_eq_nil_iff]
    intro x hx
    have : ((ar.map Arg.arg).zip vs).lookup x ≠ none := zip_lookup_some ((List.take_sublist_take_left (by omega)).subset hx)
    cases h : ((ar.map Arg.arg).zip vs).lookup x with
    | none => exact absurd h this
    | some _ => exact Bool.false_ne_true
  show wpAny M A (seqItems? dV >>= fun o => _) Q E s
  refine seq _ fun o ho => ?_
  rw [ho]
  show wpAny M A (if (decide (vs.length > (ar.map Arg.arg).length) && (none : Option Arg).isNone) = true then _ else _) Q E s
  refine bm_if_false (by rw [decide_eq_false (Nat.not_lt.mpr hg)]; rfl) ?_
  show wpAny M A (if (!(((ar.map Arg.arg).take ((ar.map Arg.arg).length - (ds.drop (ds.length - (ar.map Arg.arg).length)).length)).filter fun n => (((ar.map Arg.arg).zip vs).lookup n).isNone).isEmpty) = true then _ else _) Q E s
  refine bm_if_false (by rw [miss]; rfl) ?_
  show wpAny M A (forIn (((ar.map Arg.arg).drop ((ar.map Arg.arg).length - (ds.drop (ds.length - (ar.map Arg.arg).length)).length)).zip (ds.drop (ds.length - (ar.map Arg.arg).length))) ((ar.map Arg.arg).zip vs) fillF >>= fun sl => _) Q E s
  refine wpAny_bind (wpAny_of_eq (by rw [hz, List.drop_zero]; exact fill_run hn hg hm hk) (wpAny_pure ?_))
  show Q (((ar.map Arg.arg) ++ []).filterMap fun n => (((ar.map Arg.arg).zip (vs ++ ds.drop (vs.length + ds.length - (ar.map Arg.arg).length))).lookup n).map (n, ·)) s
  rw [List.append_nil, zip_lookup_self hn (by rw [List.length_append, List.length_drop]; omega)]
  exact q

end Mine

namespace Mine
open PySem PySem.W PySem.Calls PyProof.Rows
set_option maxRecDepth 100000

inductive Fl where
  | next
  | brk
  | cont
  | ret (v : AV)
/-- where names are looked up: the scope, a comprehension's own names, the cells -/
structure AE where
  sc : Scope
  own : Option Nat
  cl : List (Str × Nat)
abbrev EvT := AE → Expr → St → (AV → St → Bool) → Bool
abbrev ExT := AE → List Stmt → St → (Fl → St → Bool) → Bool

structure FnR where
  ps : List Str
  body : List Stmt
  sc : Scope
  dfl : List AV
  cn : List Str
noncomputable def memS (x : Str) : List Str → Bool
  | [] => false
  | y :: r => match sq x y with
    | true => true
    | false => memS x r
theorem memS_of {x : Str} : ∀ {l : List Str}, x ∈ l → memS x l = true
  | y :: r, h => by
    unfold memS
    by_cases q : x = y
    · subst q; rw [sq_refl]
    · rw [sq_ne q]
      rcases List.mem_cons.mp h with h | h
      · exact absurd h q
      · exact memS_of h
theorem lookup_mem {α : Type} {x : Str} {v : α} : ∀ {l : List (Str × α)}, l.lookup x = some v → (x, v) ∈ l
  | [], h => by exact no_some h
  | (y, u) :: r, h => by
    rw [List.lookup_cons] at h
    by_cases e : x = y
    · subst e; simp only [beq_self_eq_true] at h; obtain rfl := Option.some.inj h; exact .head _
    · have : (x == y) = false := beq_eq_false_iff_ne.mpr e
      simp only [this] at h
      exact .tail _ (lookup_mem h)
theorem memS_is {x : Str} : ∀ {l : List Str}, memS x l = true → x ∈ l
  | [], h => by exact ff h
  | y :: r, h => by
    unfold memS at h
    cases q : sq x y with
    | true => rw [sq_eq q]; exact .head _
    | false => rw [q] at h; exact .tail _ (memS_is h)
inductive FnObj (K : Frag) (a : Addr) (r : FnR) : Prop
  | mk (params : Arguments) (oc : Value) (od : Option Addr) (osl : Array (Option Value)) (name qual : Str) (dV kV doc pm : Value) (an : Option Addr) (cdv ct : Value) (obj : K.lookup a = some ⟨oc, od, .func (fnOf name qual params r.body r.sc dV kV doc pm an cdv ct), osl⟩) (code : codeIn K cdv qual = true)
    (po : params.posonlyargs = []) (ar : params.args.map (·.arg) = r.ps) (ko : params.kwonlyargs = []) (va : params.vararg = none) (kw : params.kwarg = none)
    (dv : (dV = .none ∧ r.dfl = []) ∨ ∃ T o n ds, dV = .ref T ∧ K.lookup T = some o ∧ o.data = .seq (List.toArray ds) n ∧ All2 (VR W00) r.dfl ds)
structure FnOK (K : Frag) (a : Addr) (r : FnR) : Prop where
  obj : FnObj K a r
  nd : r.ps.Nodup
  dl : r.dfl.length ≤ r.ps.length
  lc : ∀ x ∈ r.ps, (memS x r.cn = false ∧ r.sc.names.lookup x = some .local) ∨ r.sc.names.lookup x = some .cell
  kd : r.sc.kind = .function
  co : r.sc.isCoroutine = false
  gn : r.sc.isGenerator = false
  cs : (cellsFrom 0 r.sc.names []).map (·.1) = r.cn
  cd : r.cn.Nodup

section
variable (K : Frag) (p : Program) (loose : List Str) (mean : ExcName → Option Value) (mg mb : Str → Option Value)
structure Fc (n : Nat) (A : Around) (base : Heap) (h₀ : Gd) (L : Addr) : Prop where
  fs : ∃ A₀ fenv outer, Below A₀ base outer h₀.g ∧ A.frames = some (fenv :: outer) ∧ fenv.frame = some L ∧ fenv.scope.kind = .function ∧ h₀.fs = outer.filterMap (·.frame)
  XB : K.In base
  TB : Top p loose mean mg mb base
  hh : A.handled = none
  hd : A.depth + 3 * n ≤ 990
  hu : A.units + 12 * n ≤ 9800
structure EnvR (W : Wd) (L : Addr) (ae : AE) (env : Env) : Prop where
  sc : env.scope = ae.sc
  gl : env.globals = mainGlobals
  bu : env.builtins = builtinsNs
  fr : env.frame = some L
  own : match ae.own with
    | none => env.locals = L
    | some c => W.ρ[c]? = some env.locals
  cl : ∀ x l, lk x ae.cl = some l → ∃ b, W.ρ[l]? = some b ∧ env.cells.lookup x = some b
  kd : ae.sc.kind = .function
end
theorem EnvR.mono {W W' : Wd} {L : Addr} {ae : AE} {env : Env} (h : W.le W') (r : EnvR W L ae env) : EnvR W' L ae env :=
  ⟨r.sc, r.gl, r.bu, r.fr, by have := r.own; split at this <;> first | exact this | exact pre_get h.1 this, fun x l e => let ⟨b, h1, h2⟩ := r.cl x l e; ⟨b, pre_get h.1 h1, h2⟩, r.kd⟩

section
variable {prog : Program} {w : World} {K : Frag} {p : Program} {loose : List Str} {mean : ExcName → Option Value} {mg mb : Str → Option Value} {os0 : (Array Nat → Int) × OsState}

theorem Fc.less {n n' : Nat} {A : Around} {base : Heap} {h₀ : Gd} {L : Addr} (f : Fc K p loose mean mg mb n A base h₀ L) (h : n' ≤ n) : Fc K p loose mean mg mb n' A base h₀ L :=
  ⟨f.fs, f.XB, f.TB, f.hh, by have := f.hd; omega, by have := f.hu; omega⟩

theorem belowTurn {A : Around} {base g g' : Heap} {outer : List Env} (B : Below A base outer g) (T : KtsTurn (outer.filterMap (·.frame)) g g') : Below A base outer g' :=
  ⟨B.stack, fun b o e => T.other b o (B.stays b o e) fun hm => no_some ((B.frames.mem hm).1.symm.trans e), B.frames.of_keeps fun b o e _ => let ⟨_, hs⟩ := T.up e; ⟨_, hs, rfl⟩⟩
section
variable {n : Nat} {A : Around} {base : Heap} {h₀ : Gd} {L : Addr} {m : Str → Option Value} {h g : Heap} (f : Fc K p loose mean mg mb n A base h₀ L)
include f
theorem Fc.at (T : KtsTurn h₀.fs h₀.g g) : ∃ A₀ fenv outer, Below A₀ base outer g ∧ A.frames = some (fenv :: outer) ∧ fenv.frame = some L ∧ fenv.scope.kind = .function ∧ h₀.fs = outer.filterMap (·.frame) :=
  let ⟨A₀, fe, ou, B, h1, h2, h3, h4⟩ := f.fs; ⟨A₀, fe, ou, belowTurn B (h4 ▸ T), h1, h2, h3, h4⟩
theorem Fc.st (T : KtsTurn h₀.fs h₀.g g) : base.StaysIn g := let ⟨_, _, _, B, _⟩ := f.at T; B.stays
theorem Fc.X : K.In h₀.g := f.XB.keeps (f.st KtsTurn.refl)
theorem Fc.T : Top p loose mean mg mb h₀.g := f.TB.keeps (f.st KtsTurn.refl)
theorem Fc.stG (G : Gr h₀ L h m) : base.StaysIn h := let ⟨_, T, F⟩ := G; fun b o e => F.keep _ _ (f.st T b o e)
theorem Fc.now (G : Gr h₀ L h m) : K.In h := f.XB.keeps (f.stG G)
theorem Fc.live {b : Addr} (hb : b ∈ h₀.fs) : ∃ o, h₀.g.get? b = some o := let ⟨_, _, _, B, _, _, _, h4⟩ := f.fs; let ⟨_, o, ho, _⟩ := B.frames.mem (h4 ▸ hb); ⟨o, ho⟩
end
theorem ScrOK.turn {fs : List Addr} {g g' : Heap} {W : Wd} (T : KtsTurn fs g g') (h : ScrOK g W) : ScrOK g' W := by
  obtain ⟨h0, a, vs, ns, h1, h2, ⟨o, ho, hc, k, hd⟩, h4⟩ := h
  obtain ⟨o1, ho1⟩ := Option.isSome_iff_exists.mp h0
  obtain ⟨sl, e⟩ := T.up ho1
  obtain ⟨sl', e'⟩ := T.up ho
  exact ⟨by rw [e]; rfl, a, vs, ns, h1, h2, ⟨_, e', hc, k, hd⟩, h4⟩
theorem Fc.room {n : Nat} {A : Around} {base : Heap} {h₀ : Gd} {L : Addr} (f : Fc K p loose mean mg mb n A base h₀ L) : A.units + 40 < cLine := by have := f.hu; unfold cLine; omega
variable (prog w K p loose mean mg mb os0)
noncomputable def EvOK (n : Nat) (ev : EvT) : Prop :=
  ∀ (A : Around) (base : Heap) (h₀ : Gd) (L : Addr) (env : Env) (ae : AE) (m : Str → Option Value) (W : Wd) (s : Shared) (E : Value → Shared → Prop),
    Fc K p loose mean mg mb n A base h₀ L → EnvR W L ae env → ∀ (e : Expr) (σ : St) (k : AV → St → Bool) (Q : Value → Shared → Prop), Rel os0 h₀ L m W σ s → ev ae e σ k = true →
      (∀ m' W' v c σ' s', W.le W' → Rel os0 h₀ L m' W' σ' s' → VR W' v c → k v σ' = true → Q c s') → wpX (model prog w) A (eval e env) Q E s
/-- what a flow says -/
inductive FR (W : Wd) : Fl → Flow → Prop
  | next : FR W .next .next
  | brk : FR W .brk .brk
  | cont : FR W .cont .cont
  | ret {v c} : VR W v c → FR W (.ret v) (.ret c)
noncomputable def ExOK (n : Nat) (ex : ExT) : Prop :=
  ∀ (A : Around) (base : Heap) (h₀ : Gd) (L : Addr) (env : Env) (ae : AE) (m : Str → Option Value) (W : Wd) (s : Shared) (E : Value → Shared → Prop),
    Fc K p loose mean mg mb n A base h₀ L → EnvR W L ae env → ∀ (l : List Stmt) (σ : St) (k : Fl → St → Bool) (Q : Flow → Shared → Prop), Rel os0 h₀ L m W σ s → ex ae l σ k = true →
      (∀ m' W' f g σ' s', W.le W' → Rel os0 h₀ L m' W' σ' s' → FR W' f g → k f σ' = true → Q g s') → wpX (model prog w) A (execs l env) Q E s
end

theorem zip_nodup {α : Type} : ∀ {a : List Str} {v : List α}, a.Nodup → ((a.zip v).map (·.1)).Nodup
  | [], _, _ => by simp
  | y :: a, [], _ => by simp
  | y :: a, w :: v, h => by
    rw [List.nodup_cons] at h
    rw [List.zip_cons_cons, List.map_cons, List.nodup_cons]
    refine ⟨fun hm => h.1 ?_, zip_nodup h.2⟩
    obtain ⟨p, hp, e⟩ := List.mem_map.mp hm
    have : p.1 = y := e
    exact this ▸ (List.of_mem_zip (show (p.1, p.2) ∈ _ from hp)).1
theorem zip_lk {W : Wd} {x : Str} : ∀ {ns : List Str} {vs : List AV} {cs : List Value}, All2 (VR W) vs cs → ∀ {v}, (ns.zip vs).lookup x = some v → x ∈ ns ∧ ∃ c, (ns.zip cs).lookup x = some c ∧ VR W v c
  | [], _, _, _, _, h => by simp at h
  | _ :: _, _, _, .nil, _, h => by simp at h
  | n :: ns, _, _, .cons (a := a) (b := b) r t, v, h => by
    rw [List.zip_cons_cons, List.lookup_cons] at h
    rw [List.zip_cons_cons, List.lookup_cons]
    by_cases e : x = n
    · subst e
      simp only [beq_self_eq_true] at h ⊢
      obtain rfl := Option.some.inj h
      exact ⟨.head _, b, rfl, r⟩
    · have : (x == n) = false := beq_eq_false_iff_ne.mpr e
      simp only [this] at h ⊢
      obtain ⟨h1, h2⟩ := zip_lk t h
      exact ⟨.tail _ h1, h2⟩
theorem All2.drop {α β : Type} {R : α → β → Prop} : ∀ {as : List α} {bs : List β} (n : Nat), All2 R as bs → All2 R (as.drop n) (bs.drop n)
  | _, _, 0, h => h
  | _, _, _ + 1, .nil => .nil
  | _, _, n + 1, .cons _ t => t.drop n

theorem zip_none {W : Wd} {x : Str} : ∀ {ns : List Str} {vs : List AV} {cs : List Value}, All2 (VR W) vs cs → (ns.zip vs).lookup x = none → (ns.zip cs).lookup x = none
  | [], _, _, _, _ => by simp
  | _ :: _, _, _, .nil, _ => by simp
  | n :: ns, _, _, .cons (a := a) (b := b) r t, h => by
    rw [List.zip_cons_cons, List.lookup_cons] at h
    rw [List.zip_cons_cons, List.lookup_cons]
    by_cases e : x = n
    · subst e
      simp only [beq_self_eq_true] at h
      exact no_some h.symm
    · have : (x == n) = false := beq_eq_false_iff_ne.mpr e
      simp only [this] at h ⊢
      exact zip_none t h
/-- a class: the maker's def, the names it knows nothing of, its methods -/
structure ClR where
  init : Addr
  fld : List Str
  met : List (Str × Addr)
  prp : List (Str × Addr × Addr)
/-- what the call of a def does, told once: the things it is given and the objects that it reaches, and what may come of it -/
structure Con where
  args : List AV
  st : St
  posts : List (AV × St)
  lv : Nat
  /-- a quick look: may it fit at all -/
  qk : List AV → St → Bool
structure SE where
  gl : List (Str × AV)
  bl : List (Str × AV)
  fn : Tr FnR
  cl : Tr ClR
  jn : Tr (List Con)
  xc : Option (Addr × Addr)
structure SEok (K : Frag) (S : SE) : Prop where
  fn : ∀ a r, S.fn.get a = some r → FnOK K a r

/-! ## what a def's entry binds -/
theorem bindL_is {kO : Str → Option NameKind} {x : Str} : ∀ {bs : List (Str × Value)} {m : Str → Option Value}, (bs.map (·.1)).Nodup → bindL kO bs m x = if kO x = some .local then (match bs.lookup x with | some v => some v | none => m x) else m x
  | [], m, _ => by simp [bindL]
  | (n, v) :: r, m, h => by
    rw [List.map_cons, List.nodup_cons] at h
    unfold bindL
    rw [bindL_is h.2, List.lookup_cons]
    by_cases e : x = n
    · subst e
      have : r.lookup x = none := by
        rw [List.lookup_eq_none_iff]
        intro p hp
        have : p.1 ≠ x := fun q => h.1 (List.mem_map.mpr ⟨p, hp, q⟩)
        simpa using Ne.symm this
      rw [this]
      simp only [beq_self_eq_true]
      by_cases q : kO x = some .local <;> simp [q]
    · have e' : (x == n) = false := beq_eq_false_iff_ne.mpr e
      simp only [e']
      by_cases q : kO n = some .local <;> simp [q, e]
theorem bindC_is {kO : Str → Option NameKind} {x : Str} : ∀ {bs : List (Str × Value)} {m : Str → Option Value}, (bs.map (·.1)).Nodup → bindC kO bs m x = if kO x = some .local then m x else (match bs.lookup x with | some v => some v | none => m x)
  | [], m, _ => by simp [bindC]
  | (n, v) :: r, m, h => by
    rw [List.map_cons, List.nodup_cons] at h
    unfold bindC
    rw [bindC_is h.2, List.lookup_cons]
    by_cases e : x = n
    · subst e
      have : r.lookup x = none := by
        rw [List.lookup_eq_none_iff]
        intro p hp
        have : p.1 ≠ x := fun q => h.1 (List.mem_map.mpr ⟨p, hp, q⟩)
        simpa using Ne.symm this
      rw [this]
      simp only [beq_self_eq_true]
      by_cases q : kO x = some .local <;> simp [q]
    · have e' : (x == n) = false := beq_eq_false_iff_ne.mpr e
      simp only [e']
      by_cases q : kO n = some .local <;> simp [q, e]
theorem cellsFrom_addr {lo : Nat} : ∀ (names : List (Str × NameKind)) (n : Nat) (acc : List (Str × Addr)), lo ≤ n → (acc.map (·.2)).Nodup → (∀ q ∈ acc, lo ≤ q.2 ∧ q.2 < n) →
    ((cellsFrom n names acc).map (·.2)).Nodup ∧ ∀ q ∈ cellsFrom n names acc, lo ≤ q.2
  | [], n, acc, _, h, k => ⟨h, fun q hq => (k q hq).1⟩
  | (name, kind) :: r, n, acc, hlo, h, k => by
    unfold cellsFrom
    split
    · refine cellsFrom_addr r (n + 1) ((name, n) :: acc) (by omega) ?_ ?_
      · rw [List.map_cons, List.nodup_cons]
        refine ⟨fun hm => ?_, h⟩
        obtain ⟨q, hq, e⟩ := List.mem_map.mp hm
        have := (k q hq).2
        rw [e] at this
        exact Nat.lt_irrefl _ this
      · intro q hq
        rcases List.mem_cons.mp hq with rfl | hq
        · exact ⟨hlo, Nat.lt_succ_self _⟩
        · exact ⟨(k q hq).1, Nat.lt_succ_of_lt (k q hq).2⟩
    · exact cellsFrom_addr r n acc hlo h k
theorem CellsAre.addrs {cm : Str → Option Value} : ∀ {cs : List (Str × Addr)} {cells : List (Addr × Obj)}, CellsAre cm cs cells → cells.map (·.1) = cs.map (·.2)
  | _, _, .nil => rfl
  | _, _, .cons _ t => by rw [List.map_cons, List.map_cons, CellsAre.addrs t]

noncomputable def mkCells (b : List (Str × AV)) : List Str → List (Str × Nat) → St → (List (Str × Nat) → St → Bool) → Bool
  | [], cl, σ, k => k cl σ
  | n :: r, cl, σ, k => match Nat.ble σ.nl 1000000000 with
    | true => mkCells b r ((n, σ.nl) :: cl) (σ.alloc (.cell (lk n b))) k
    | false => false
noncomputable def dropS (cn : List Str) : List (Str × AV) → List (Str × AV)
  | [] => []
  | p :: r => match memS p.1 cn with
    | true => dropS cn r
    | false => p :: dropS cn r
noncomputable def lcOf (cn : List Str) (b : List (Str × AV)) : List (Str × AV) := match cn with
  | [] => b
  | _ => dropS cn b
theorem dropS_lk {cn : List Str} {x : Str} {v : AV} : ∀ {b : List (Str × AV)}, lk x (dropS cn b) = some v → lk x b = some v ∧ memS x cn = false
  | [], h => by exact no_some h
  | p :: r, h => by
    unfold dropS at h
    rw [lk_step]
    cases hm : memS p.1 cn with
    | true =>
      rw [hm] at h
      have := dropS_lk h
      cases q : sq x p.1 with
      | true => rw [sq_eq q, hm] at this; cases this.2
      | false => exact this
    | false =>
      rw [hm] at h
      dsimp only at h
      rw [lk_step] at h
      cases q : sq x p.1 with
      | true => rw [q] at h; exact ⟨h, by rw [sq_eq q]; exact hm⟩
      | false => rw [q] at h; exact dropS_lk h
theorem lcOf_lk {cn : List Str} {x : Str} {v : AV} {b : List (Str × AV)} (h : lk x (lcOf cn b) = some v) : lk x b = some v ∧ memS x cn = false := by
  unfold lcOf at h
  split at h
  · exact ⟨h, rfl⟩
  · exact dropS_lk h

section
variable {os0 : (Array Nat → Int) × OsState} {h₀ : Gd} {L : Addr} {m : Str → Option Value}
theorem mkCells_ok {b : List (Str × AV)} {cm : Str → Option Value} {s : Shared} {all : List (Addr × Obj)} {cs₀ : List (Str × Addr)} {W₀ : Wd} (N : News h₀.g L s.heap all) (hb : ∀ n, n ∈ cs₀.map (·.1) → (∀ v, lk n b = some v → ∃ c, cm n = some c ∧ VR W₀ v c) ∧ (lk n b = none → cm n = none)) :
    ∀ {cs : List (Str × Addr)} {cells : List (Addr × Obj)} {done : List (Addr × Obj)} {W : Wd} {σ : St} {cl : List (Str × Nat)} {k : List (Str × Nat) → St → Bool}, CellsAre cm cs cells → (∀ p ∈ cells, p ∈ all) → (∀ p ∈ done, p ∈ all) → (∀ q ∈ cs, q ∈ cs₀) →
      (cells.map (·.1)).Nodup → (∀ p ∈ done, p.1 ∉ cells.map (·.1)) → W₀.le W → Rel os0 h₀ L m W σ s → Cov W σ done → (∀ x l, (x, l) ∈ cl → ∃ a, W.ρ[l]? = some a ∧ (x, a) ∈ cs₀) → mkCells b (cs.map (·.1)) cl σ k = true →
      ∃ W' σ' cl', W.le W' ∧ Rel os0 h₀ L m W' σ' s ∧ (∀ x l, (x, l) ∈ cl' → ∃ a, W'.ρ[l]? = some a ∧ (x, a) ∈ cs₀) ∧ k cl' σ' = true
  | _, _, done, W, σ, cl, k, .nil, _, _, _, _, _, hle, R, C, hcl, h => ⟨W, σ, cl, W.le_refl, R, hcl, h⟩
  | _, _, done, W, σ, cl, k, .cons (n := n) (c := c) (o := o) (cs := cs) (cells := cells) ho t, hc, hd, hs, nd, hx, hle, R, C, hcl, h => by
    rw [List.map_cons] at h
    unfold mkCells at h
    obtain ⟨hn, h⟩ := mt h
    have hn := Nat.le_of_ble_eq_true hn
    rw [List.map_cons, List.nodup_cons] at nd
    have hor : OR (W.grow c) (.cell (lk n b)) o := by
      have hm : n ∈ cs₀.map (·.1) := List.mem_map.mpr ⟨(n, c), hs _ (.head _), rfl⟩
      cases q : lk n b with
      | none => exact .cell0 (ho.trans (by rw [(hb n hm).2 q]))
      | some v =>
        obtain ⟨cv, h1, h2⟩ := (hb n hm).1 v q
        exact .cell (ho.trans (by rw [h1])) (h2.mono (Wd.le_trans hle (W.le_grow c)))
    obtain ⟨R', C'⟩ := R.join (s' := s) (m' := m) (by omega) C R.fr (fun p hp => N p (by rcases List.mem_cons.mp hp with rfl | hp; exact hc _ (.head _); exact hd p hp)) (fun p hp e => hx p hp (by rw [e]; exact .head _)) hor
      (fun x v e => let ⟨cv, a, bb⟩ := R.lcs x v e; ⟨cv, a, bb.mono (W.le_grow c)⟩) rfl rfl
    obtain ⟨W', σ', cl', l1, R1, hcl', hk⟩ := mkCells_ok N hb (done := (c, o) :: done) t (fun p hp => hc p (.tail _ hp)) (fun p hp => by rcases List.mem_cons.mp hp with rfl | hp; exact hc _ (.head _); exact hd p hp) (fun q hq => hs q (.tail _ hq)) nd.2
      (fun p hp => by rcases List.mem_cons.mp hp with rfl | hp; exact nd.1; exact fun q => hx p hp (.tail _ q)) (Wd.le_trans hle (W.le_grow c)) R' C'
      (fun x l hm => by
        rcases List.mem_cons.mp hm with e | hm
        · cases e
          exact ⟨c, R.here c, hs _ (.head _)⟩
        · obtain ⟨a, h1, h2⟩ := hcl x l hm
          exact ⟨a, pre_get (W.le_grow c).1 h1, h2⟩) h
    exact ⟨W', σ', cl', Wd.le_trans (W.le_grow c) l1, R1, hcl', hk⟩
theorem lk_mem {α : Type} {x : Str} {v : α} : ∀ {l : List (Str × α)}, lk x l = some v → (x, v) ∈ l
  | [], h => by exact no_some h
  | p :: r, h => by
    rw [lk_step] at h
    cases q : sq x p.1 with
    | true => rw [q] at h; obtain rfl := Option.some.inj h; rw [sq_eq q]; exact .head _
    | false => rw [q] at h; exact .tail _ (lk_mem h)
end

noncomputable def retK (lc : List (Str × AV)) (k : AV → St → Bool) (f : Fl) (σ : St) : Bool := match f with
  | .ret v => k v { σ with lc := lc }
  | .next => k .none { σ with lc := lc }
  | _ => false
noncomputable def callRun (ex : ExT) (r : FnR) (ba : List (Str × AV)) (σ : St) (k : AV → St → Bool) : Bool := mkCells ba r.cn [] { σ with lc := lcOf r.cn ba } fun cl σ1 => ex ⟨r.sc, none, cl⟩ r.body σ1 (retK σ.lc k)
noncomputable def callFn (S : SE) (ex : ExT) (a : Addr) (vs : List AV) (σ : St) (k : AV → St → Bool) : Bool := onO (S.fn.get a) fun r => match Nat.ble vs.length r.ps.length && Nat.ble r.ps.length (vs.length + r.dfl.length) with
  | false => false
  | true => callRun ex r (r.ps.zip (vs ++ r.dfl.drop (vs.length + r.dfl.length - r.ps.length))) σ k

noncomputable def enterB (S : SE) (a : Addr) (vs : List AV) (σ : St) (kk : FnR → List (Str × Nat) → St → Bool) : Bool := onO (S.fn.get a) fun r => match Nat.ble vs.length r.ps.length && Nat.ble r.ps.length (vs.length + r.dfl.length) with
  | false => false
  | true => mkCells (r.ps.zip (vs ++ r.dfl.drop (vs.length + r.dfl.length - r.ps.length))) r.cn [] { σ with lc := lcOf r.cn (r.ps.zip (vs ++ r.dfl.drop (vs.length + r.dfl.length - r.ps.length))) } (kk r)
section
variable {prog : Program} {w : World} {K : Frag} {p : Program} {loose : List Str} {mean : ExcName → Option Value} {mg mb : Str → Option Value} {os0 : (Array Nat → Int) × OsState}

/-- what holds where a def's body begins -/
structure Ent (K : Frag) (p : Program) (loose : List Str) (mean : ExcName → Option Value) (mg mb : Str → Option Value) (n : Nat) (A : Around) (base : Heap) (h₀ : Gd) (L : Addr) (m : Str → Option Value) (h : Heap) (gt g : Heap) (env fenv : Env) (outer : List Env) (L' : Addr) : Prop where
  T : KtsTurn h₀.fs h₀.g gt
  F : Fr gt L g m
  hA : A.frames = some (fenv :: outer)
  hf : fenv.frame = some L
  hs : h₀.fs = outer.filterMap (·.frame)
  B : Below A base (fenv :: outer) g
  B₀ : ∃ A₀, Below A₀ base outer gt
  fr : env.frame = some L'
  kd : env.scope.kind = .function
  f : Fc K p loose mean mg mb n (A.deeper env) base ⟨g, L :: h₀.fs⟩ L'
theorem enter_ok {S : SE} (hS : SEok K S) {n : Nat} {A : Around} {base : Heap} {h₀ : Gd} {L : Addr} {m : Str → Option Value} {W : Wd} {s : Shared}
    (f : Fc K p loose mean mg mb n A base h₀ L) (fd : A.depth + 1 + 3 * n ≤ 990) (fu : A.units + 3 + 12 * n ≤ 9800) {a : Addr} {vs : List AV} {cs : List Value} {σ : St} {kk : FnR → List (Str × Nat) → St → Bool} {R : Result → Shared → Prop} (Rl : Rel os0 h₀ L m W σ s) (hv : All2 (VR W) vs cs)
    (h : enterB S a vs σ kk = true) (hbody : ∀ r cl gt g env fenv outer L' m1 W1 σ1 s1, W.le W1 → Ent K p loose mean mg mb n A base h₀ L m s.heap gt g env fenv outer L' → EnvR W1 L' ⟨r.sc, none, cl⟩ env → Rel os0 ⟨g, L :: h₀.fs⟩ L' m1 W1 σ1 s1 → kk r cl σ1 = true →
      (∀ b o, s.heap.get? b = some o → (∀ l o', σ.hp.get l = some o' → W.ρ[l]? ≠ some b) → g.get? b = some o) →
      wpX (model prog w) (A.deeper env) (execs r.body env) (fun fl s' => LeaveT (outer.filterMap (·.frame)) gt L m g R (match fl with | .ret v => v | _ => .none) s')
        (fun e s' => wpX (model prog w) (A.deeper env) (leaving env e) (fun _ s'' => R (.error e) s'') (fun e' s'' => R (.error e') s'') s') s1) :
    codeX (model prog w) A (.call (.ref a) ⟨cs, []⟩) R s := by
  refine Classical.byContradiction fun hgo => ?_
  obtain ⟨r, hr, h⟩ := onO_is (show onO (S.fn.get a) _ = true from h)
  obtain ⟨hb, h⟩ := mf h
  obtain ⟨hb1, hb2⟩ := an hb
  have hb1 := Nat.le_of_ble_eq_true hb1
  have hb2 := Nat.le_of_ble_eq_true hb2
  obtain ⟨⟨params, oc, od, osl, name, fq, dV, kV, doc, pm, an, cdv, ct, ho, hcd, p1, p2, p3, p4, p5, hdf⟩, nd, dl, hlc, kd, co, gn, hcs, hcn⟩ := hS.fn a r hr
  obtain ⟨gt, T, F⟩ := Rl.fr
  obtain ⟨A₀, fenv, outer, B, hA, hfr, hfk, hfs⟩ := f.at T
  have XS := f.now Rl.fr
  obtain ⟨news, N, C, In, D⟩ := Rl.toNews
  refine hgo ?_
  obtain ⟨ds, hds, hdd⟩ : ∃ ds, All2 (VR W) r.dfl ds ∧ ((dV = .none ∧ ds = []) ∨ ∃ T o n, dV = .ref T ∧ K.lookup T = some o ∧ o.data = .seq ds.toArray n) := by
    rcases hdf with ⟨h1, h2⟩ | ⟨T, o, n', ds, h1, h2, h3, h4⟩
    · exact ⟨[], h2 ▸ .nil, .inl ⟨h1, rfl⟩⟩
    · exact ⟨ds, h4.imp fun _ _ q => q.mono ⟨List.nil_prefix, List.nil_prefix⟩, .inr ⟨T, o, n', h1, h2, h3⟩⟩
  have hlv := hv.length
  have hld := hds.length
  have hbind : BindsTo s (fnOf name fq params r.body r.sc dV kV doc pm an cdv ct) ⟨cs, []⟩ (r.ps.zip (cs ++ ds.drop (cs.length + ds.length - r.ps.length))) :=
    binds_simple p1 p2 p3 p4 p5 (hdd.imp id fun ⟨T, o, n', h1, h2, h3⟩ => ⟨T, o, n', h1, XS _ _ h2, h3⟩) nd (hlv ▸ hb1) (by rw [← hlv, ← hld]; exact hb2) (hld ▸ dl)
  have hall : All2 (VR W) (vs ++ r.dfl.drop (vs.length + r.dfl.length - r.ps.length)) (cs ++ ds.drop (cs.length + ds.length - r.ps.length)) := by
    rw [← hlv, ← hld]
    exact hv.append (hds.drop _)
  generalize hbc : r.ps.zip (cs ++ ds.drop (cs.length + ds.length - r.ps.length)) = bc at hbind
  generalize hba : r.ps.zip (vs ++ r.dfl.drop (vs.length + r.dfl.length - r.ps.length)) = ba at h
  have bnd : (bc.map (·.1)).Nodup := hbc ▸ zip_nodup nd
  have bmem : ∀ x ∈ bc, x.1 ∈ r.ps := fun x hx => (List.of_mem_zip (show (x.1, x.2) ∈ r.ps.zip _ from hbc ▸ hx)).1
  have blk : ∀ x v, lk x ba = some v → x ∈ r.ps ∧ ∃ c, bc.lookup x = some c ∧ VR W v c := by
    intro x v e
    rw [lk_eq, ← hba] at e
    have := zip_lk hall e
    rw [hbc] at this
    exact this
  have bno : ∀ x, lk x ba = none → bc.lookup x = none := by
    intro x e
    rw [lk_eq, ← hba] at e
    rw [← hbc]
    exact zip_none hall e
  have hcell : ∀ x ∈ r.ps, memS x r.cn = false ∨ r.sc.names.lookup x = some .cell := fun x hx => (hlc x hx).imp (·.1) id
  refine callX_cells' B F (newsTurn T N) (f.TB.keeps B.stays).nolimit hA hfr hfk (XS _ _ ho) rfl (codeRec_of XS hcd) (show A.depth < 1000 by omega) hbind
    (fun n' x hx => (hlc x.1 (bmem x hx)).imp (·.2) fun e => ⟨e, cellsFrom_some r.sc.names n' [] (.inl e)⟩) (by rw [hcs]; exact hcn)
    (fun g L' h₁ tk cells FG F' N' CA B' st lt kp => ?_) co gn kd
  have hA1 := cellsFrom_addr (lo := L' + 1) r.sc.names (L' + 1) [] (Nat.le_refl _) .nil (fun _ hq => nomatch hq)
  have hce : (cells.map (·.1)).Nodup := by rw [CellsAre.addrs CA]; exact hA1.1
  have hcg : ∀ p ∈ news, p.1 ∉ cells.map (·.1) := fun p hp hm => by
    rw [CellsAre.addrs CA] at hm
    obtain ⟨q, hq, e⟩ := List.mem_map.mp hm
    have h1 := hA1.2 q hq
    have h2 := lt p hp
    rw [e] at h1
    exact Nat.lt_irrefl _ (Nat.lt_of_lt_of_le h2 (Nat.le_of_succ_le h1))
  have hnm : (cellsFrom (L' + 1) r.sc.names []).map (·.1) = r.cn := (cellsFrom_names r.sc.names (L' + 1) 0 [] [] rfl).trans hcs
  have R0 : Rel os0 ⟨g, L :: h₀.fs⟩ L' (bindL (envOfC fq r.sc L' a cdv).kindOf bc fun _ => none) W { σ with lc := lcOf r.cn ba } { s with heap := h₁, toks := tk } := by
    refine Rl.anew (σ' := { σ with lc := lcOf r.cn ba }) ⟨g, KtsTurn.refl, F'⟩ (fun p hp => N' p (List.mem_append_right _ hp)) C (fun x v e => ?_) rfl rfl rfl rfl rfl ((Rl.scr.turn T).stays st)
    obtain ⟨e1, e2⟩ := lcOf_lk e
    obtain ⟨e3, c, e4, e5⟩ := blk x v e1
    refine ⟨c, ?_, e5⟩
    have hk : (envOfC fq r.sc L' a cdv).kindOf x = some .local := by
      show r.sc.names.lookup x = _
      rcases hlc x e3 with z | z
      · exact z.2
      · exfalso
        have : ((cellsFrom 0 r.sc.names []).lookup x).isSome = true := cellsFrom_some r.sc.names 0 [] (.inl z)
        obtain ⟨q, hq⟩ := Option.isSome_iff_exists.mp this
        have hm : x ∈ r.cn := hcs ▸ List.mem_map_of_mem (f := (·.1)) (lookup_mem hq)
        rw [memS_of hm] at e2
        exact ff e2.symm
    rw [bindL_is bnd, if_pos hk, e4]
  have hcn' : ∀ q, mkCells ba r.cn [] { σ with lc := lcOf r.cn ba } q = true → mkCells ba ((cellsFrom (L' + 1) r.sc.names []).map (·.1)) [] { σ with lc := lcOf r.cn ba } q = true := fun q hq => by rw [hnm]; exact hq
  obtain ⟨W1, σ1, cl1, l1, R1, hcl1, hk1⟩ := mkCells_ok (cl := []) (all := cells ++ news) (cs₀ := cellsFrom (L' + 1) r.sc.names []) (W₀ := W) N' (fun n' hn' => by
      constructor
      · intro v e
        obtain ⟨e3, c, e4, e5⟩ := blk n' v e
        by_cases hk : (envOfC fq r.sc L' a cdv).kindOf n' = some .local
        · exfalso
          rw [hnm] at hn'
          rcases hlc n' e3 with z | z
          · rw [memS_of hn'] at z; cases z.1
          · rw [show r.sc.names.lookup n' = some .local from hk] at z; cases z
        · exact ⟨c, by rw [bindC_is bnd, if_neg hk, e4], e5⟩
      · intro e
        rw [bindC_is bnd, bno n' e]
        split <;> rfl) CA (fun p hp => List.mem_append_left _ hp) (fun p hp => List.mem_append_right _ hp) (fun _ hq => hq) hce hcg W.le_refl R0 C (fun _ _ hm => absurd hm List.not_mem_nil) (hcn' _ h)
  have f' : Fc K p loose mean mg mb n (A.deeper (envOfC fq r.sc L' a cdv)) base ⟨g, L :: h₀.fs⟩ L' :=
    ⟨⟨A, _, _, B', Around.frames_deeper hA, rfl, kd, by rw [List.filterMap_cons, hfr, hfs]⟩, f.XB, f.TB, f.hh, fd, fu⟩
  have en : EnvR W1 L' ⟨r.sc, none, cl1⟩ (envOfC fq r.sc L' a cdv) := by
    refine ⟨rfl, rfl, rfl, rfl, rfl, fun x l e => ?_, kd⟩
    obtain ⟨b, h1, h2⟩ := hcl1 x l (lk_mem e)
    exact ⟨b, h1, lookup_of_mem_nodup (hnm ▸ hcn) h2⟩
  refine hbody r cl1 gt g (envOfC fq r.sc L' a cdv) fenv outer L' _ W1 σ1 { s with heap := h₁, toks := tk } l1 ⟨T, FG, hA, hfr, hfs, B', ⟨A₀, B⟩, rfl, kd, f'⟩ en R1 hk1 fun b o e hn => ?_
  exact kp b o e fun hm => by
    obtain ⟨q, hq, e'⟩ := List.mem_map.mp hm
    obtain ⟨l, o', g1, g2⟩ := In q hq
    exact hn l o' g1 (by rw [g2, e'])
theorem callFnK_ok {S : SE} (hS : SEok K S) {n : Nat} {ex : ExT} (hex : ExOK prog w K p loose mean mg mb os0 n ex) {A : Around} {base : Heap} {h₀ : Gd} {L : Addr} {m : Str → Option Value} {W : Wd} {s : Shared}
    (f : Fc K p loose mean mg mb n A base h₀ L) (fd : A.depth + 1 + 3 * n ≤ 990) (fu : A.units + 3 + 12 * n ≤ 9800) {a : Addr} {vs : List AV} {cs : List Value} {σ : St} {k : AV → St → Bool} {R : Result → Shared → Prop} (Rl : Rel os0 h₀ L m W σ s) (hv : All2 (VR W) vs cs)
    (h : callFn S ex a vs σ k = true) (hQ : ∀ W' v c σ' s', W.le W' → Rel os0 h₀ L m W' σ' s' → VR W' v c → k v σ' = true → (∀ b o, s.heap.get? b = some o → b ≠ L → h₀.g.get? b = none → (∀ l o', σ.hp.get l = some o' → W.ρ[l]? ≠ some b) → s'.heap.get? b = some o ∧ ∀ l o', σ'.hp.get l = some o' → W'.ρ[l]? ≠ some b) → R (.ok (.ret c)) s') :
    codeX (model prog w) A (.call (.ref a) ⟨cs, []⟩) R s := by
  refine enter_ok hS f fd fu Rl hv (show enterB S a vs σ (fun r cl σ1 => ex ⟨r.sc, none, cl⟩ r.body σ1 (retK σ.lc k)) = true from h) fun r cl1 gt g env fenv outer L' m1 W1 σ1 s1 l1 N en R1 hk1 kp => ?_
  obtain ⟨T, F, hA, hfr, hfs, B', B₀, _, kd, f'⟩ := N
  refine hex _ _ _ _ _ _ _ _ _ _ f' en _ _ _ _ R1 hk1 fun m' W' fl gl σ' s' hle Rs hf hk => ?_
  obtain ⟨news', N2, C2, _, _⟩ := Rs.toNews
  obtain ⟨g', T', F2⟩ := Rs.fr
  have fin : ∀ v c, VR W' v c → k v { σ' with lc := σ.lc } = true → LeaveT (outer.filterMap (·.frame)) gt L m g R c s' := by
    intro v c hvc hkv
    refine ⟨g', L', m', news', hfs ▸ T', F2, newsTurn T' N2, fun h₀' T3 F3 N3 => hQ W' v c { σ' with lc := σ.lc } s' (W.le_trans l1 hle) ?_ hvc hkv ?_⟩
    rotate_left
    · intro b o e nL nh hn
      have hg := kp b o e hn
      have hg' := T'.other b o hg fun hm => by
        rcases List.mem_cons.mp hm with z | z
        · exact nL z
        · obtain ⟨_, z'⟩ := f.live z
          exact no_some (nh.symm.trans z')
      refine ⟨F2.keep b o hg', fun l o' g1 g2 => ?_⟩
      obtain ⟨a', c', y1, _, _, _, y5⟩ := Rs.led l o' g1
      rw [y1] at g2
      rw [Option.some.inj g2] at y5
      exact no_some (y5.symm.trans hg)
    have T4 : KtsTurn h₀.fs h₀.g h₀' := T.trans (hfs ▸ T3)
    refine Rs.anew ⟨h₀', T4, F3⟩ (newsBack T4 N3) C2 (fun x v e => ?_) rfl rfl rfl rfl rfl (Rl.scr.mono (W.le_trans l1 hle))
    obtain ⟨c, h1, h2⟩ := Rl.lcs x v e
    exact ⟨c, h1, h2.mono (W.le_trans l1 hle)⟩
  cases hf with
  | next => exact fin .none .none .none hk
  | brk => exact ff hk
  | cont => exact ff hk
  | ret hvc => exact fin _ _ hvc hk
theorem callFn_ok {S : SE} (hS : SEok K S) {n : Nat} {ex : ExT} (hex : ExOK prog w K p loose mean mg mb os0 n ex) {A : Around} {base : Heap} {h₀ : Gd} {L : Addr} {m : Str → Option Value} {W : Wd} {s : Shared}
    (f : Fc K p loose mean mg mb n A base h₀ L) (fd : A.depth + 1 + 3 * n ≤ 990) (fu : A.units + 3 + 12 * n ≤ 9800) {a : Addr} {vs : List AV} {cs : List Value} {σ : St} {k : AV → St → Bool} {R : Result → Shared → Prop} (Rl : Rel os0 h₀ L m W σ s) (hv : All2 (VR W) vs cs)
    (h : callFn S ex a vs σ k = true) (hQ : ∀ W' v c σ' s', W.le W' → Rel os0 h₀ L m W' σ' s' → VR W' v c → k v σ' = true → R (.ok (.ret c)) s') :
    codeX (model prog w) A (.call (.ref a) ⟨cs, []⟩) R s := callFnK_ok hS hex f fd fu Rl hv h fun W' v c σ' s' l R' hv hk _ => hQ W' v c σ' s' l R' hv hk
end

/-! ## what a def does, told once -/
noncomputable def ConT (prog : Program) (w : World) (K : Frag) (p : Program) (loose : List Str) (mean : ExcName → Option Value) (mg mb : Str → Option Value) (os0 : (Array Nat → Int) × OsState) (n : Nat) (a : Addr) (C : Con) : Prop :=
  ∀ (A : Around) (base : Heap) (h₀ : Gd) (L : Addr) (m : Str → Option Value) (W : Wd) (s : Shared) (cs : List Value), Fc K p loose mean mg mb n A base h₀ L → A.depth + 1 + 3 * n ≤ 990 → A.units + 3 + 12 * n ≤ 9800 → Rel os0 h₀ L m W C.st s → All2 (VR W) C.args cs →
    codeX (model prog w) A (.call (.ref a) ⟨cs, []⟩) (fun r s' => ∃ q c W', q ∈ C.posts ∧ r = .ok (.ret c) ∧ W.le W' ∧ VR W' q.1 c ∧ Rel os0 h₀ L m W' q.2 s' ∧
      ∀ b o, s.heap.get? b = some o → b ≠ L → h₀.g.get? b = none → (∀ l o', C.st.hp.get l = some o' → W.ρ[l]? ≠ some b) → s'.heap.get? b = some o ∧ ∀ l o', q.2.hp.get l = some o' → W'.ρ[l]? ≠ some b) s
end Mine

namespace Mine
open PySem PySem.W PySem.Calls PyProof.Rows
set_option maxRecDepth 100000

/-! ## remainders -/
/-- the one number that it may be -/
noncomputable def VI.sole (v : VI) : Option Int := match v.hi with
  | some h => match decide (h = v.lo) with
    | true => some h
    | false => none
  | none => none
theorem VI.sole_is {ι : List Int} {v : VI} {x n : Int} (k : v.ok ι x) (h : v.sole = some n) : x = n := by
  unfold VI.sole at h
  cases q : v.hi with
  | none => rw [q] at h; exact no_some h
  | some u =>
    rw [q] at h
    dsimp only at h
    cases e : decide (u = v.lo) with
    | false => rw [e] at h; exact no_some h
    | true =>
      rw [e] at h
      have e := of_decide_eq_true e
      have h := Option.some.inj h
      have h1 := k.1
      have h2 := k.2.1 u q
      omega
noncomputable def cgT (m : Int) (t : Nat × Int) (v : VI) : IE := match v.sole with
  | some n => ⟨t.2 * n, []⟩
  | none => match v.df with
    | some dm => match decide (dm.2 % m = 0) with
      | true => dm.1.mulK t.2
      | false => ⟨0, [t]⟩
    | none => ⟨0, [t]⟩
noncomputable def cg (vi : List VI) (m : Int) : List (Nat × Int) → IE
  | [] => ⟨0, []⟩
  | t :: r => (match vi[t.1]? with
    | some v => cgT m t v
    | none => ⟨0, [t]⟩).add (cg vi m r)
theorem cgT_is {ι : List Int} {m : Int} {t : Nat × Int} {v : VI} {a : Int} (k : v.ok ι a) (h1 : ι[t.1]? = some a) : ∃ y z, (cgT m t v).ev ι = some y ∧ t.2 * a = y + m * z := by
  have plain : ∃ y z, (⟨0, [t]⟩ : IE).ev ι = some y ∧ t.2 * a = y + m * z := ⟨t.2 * a, 0, by simp [IE.ev, tsum, h1], by simp⟩
  unfold cgT
  cases h3 : v.sole with
  | some n => exact ⟨t.2 * n, 0, by simp [IE.ev, tsum], by rw [VI.sole_is k h3]; simp⟩
  | none =>
    dsimp only
    cases h4 : v.df with
    | none => exact plain
    | some dm =>
      dsimp only
      cases h5 : decide (dm.2 % m = 0) with
      | false => exact plain
      | true =>
        obtain ⟨d, hd, hfd⟩ := k.2.2 dm.1 dm.2 h4
        obtain ⟨q, hq⟩ := Int.dvd_of_emod_eq_zero (of_decide_eq_true h5)
        refine ⟨t.2 * d, -(t.2 * (q * Int.fdiv d dm.2)), IE.ev_mulK hd, ?_⟩
        have e1 : a = d - dm.2 * Int.fdiv d dm.2 := by
          have := Int.mul_fdiv_add_fmod d dm.2
          rw [← hfd] at this
          omega
        have e2 : t.2 * a = t.2 * d - t.2 * (dm.2 * Int.fdiv d dm.2) := by rw [e1, Int.mul_sub]
        rw [e2, hq, Int.mul_neg, Int.mul_left_comm m t.2, ← Int.mul_assoc m q]
        omega
theorem cg_is {vi : List VI} {ι : List Int} (V : VOK vi ι) {m : Int} : ∀ {ts : List (Nat × Int)} {x : Int}, tsum ι ts = some x → ∃ y z, (cg vi m ts).ev ι = some y ∧ x = y + m * z
  | [], x, e => by obtain rfl := Option.some.inj e; exact ⟨0, 0, by simp [cg, IE.ev, tsum], by simp⟩
  | t :: r, x, e => by
    unfold tsum at e
    cases h1 : ι[t.1]? with
    | none => rw [h1] at e; exact no_some e
    | some a =>
      cases h2 : tsum ι r with
      | none => rw [h1, h2] at e; exact no_some e
      | some b =>
        rw [h1, h2] at e
        obtain rfl := Option.some.inj e
        obtain ⟨y, z, hy, hz⟩ := cg_is (m := m) V h2
        have go : ∀ {f : IE}, (∃ y z, f.ev ι = some y ∧ t.2 * a = y + m * z) → ∃ y z, (f.add (cg vi m r)).ev ι = some y ∧ t.2 * a + b = y + m * z := fun ⟨y', z', g1, g2⟩ =>
          ⟨y' + y, z' + z, IE.ev_add g1 hy, by rw [g2, hz, Int.mul_add]; omega⟩
        refine go ?_
        cases h3 : vi[t.1]? with
        | none => exact ⟨t.2 * a, 0, by simp [IE.ev, tsum, h1], by simp⟩
        | some v =>
          obtain ⟨a', ha', hv⟩ := V.2 _ _ h3
          rw [h1] at ha'
          obtain rfl := Option.some.inj ha'
          exact cgT_is hv h1
noncomputable def tred (m : Int) : List (Nat × Int) → List (Nat × Int)
  | [] => []
  | t :: r => (t.1, Int.fmod t.2 m) :: tred m r
theorem tred_is {ι : List Int} {m : Int} : ∀ {ts : List (Nat × Int)} {x : Int}, tsum ι ts = some x → ∃ y z, tsum ι (tred m ts) = some y ∧ x = y + m * z
  | [], x, e => by obtain rfl := Option.some.inj e; exact ⟨0, 0, rfl, by simp⟩
  | t :: r, x, e => by
    unfold tsum at e
    cases h1 : ι[t.1]? with
    | none => rw [h1] at e; exact no_some e
    | some a =>
      cases h2 : tsum ι r with
      | none => rw [h1, h2] at e; exact no_some e
      | some b =>
        rw [h1, h2] at e
        obtain rfl := Option.some.inj e
        obtain ⟨y, z, hy, hz⟩ := tred_is (m := m) h2
        refine ⟨Int.fmod t.2 m * a + y, Int.fdiv t.2 m * a + z, by simp [tred, tsum, h1, hy], ?_⟩
        have e1 : t.2 = Int.fmod t.2 m + m * Int.fdiv t.2 m := (Int.fmod_add_mul_fdiv t.2 m).symm
        have e2 : t.2 * a = Int.fmod t.2 m * a + m * (Int.fdiv t.2 m * a) := by
          conv => lhs; rw [e1]
          rw [Int.add_mul, Int.mul_assoc]
        rw [e2, hz, Int.mul_add]
        omega
/-- the same number but for m -/
noncomputable def IE.red (vi : List VI) (m : Int) (e : IE) : IE :=
  let d := cg vi m e.ts
  ⟨Int.fmod (e.c + d.c) m, tfil (tred m d.ts)⟩
theorem IE.red_is {vi : List VI} {ι : List Int} (V : VOK vi ι) {m : Int} {e : IE} {x : Int} (q : e.ev ι = some x) : ∃ y z, (e.red vi m).ev ι = some y ∧ x = y + m * z := by
  unfold IE.ev at q
  obtain ⟨a, ha, rfl⟩ := Option.map_eq_some_iff.mp q
  obtain ⟨b, z, hb, hz⟩ := cg_is (m := m) V ha
  unfold IE.ev at hb
  obtain ⟨c, hc, rfl⟩ := Option.map_eq_some_iff.mp hb
  obtain ⟨d, z', hd, hz'⟩ := tred_is (m := m) hc
  refine ⟨Int.fmod (e.c + (cg vi m e.ts).c) m + d, Int.fdiv (e.c + (cg vi m e.ts).c) m + z' + z, by simp [IE.red, IE.ev, tsum_tfil hd], ?_⟩
  have := Int.fmod_add_mul_fdiv (e.c + (cg vi m e.ts).c) m
  rw [hz, hz', Int.mul_add, Int.mul_add]
  omega
theorem fmod_shift {m y z : Int} : Int.fmod (y + m * z) m = Int.fmod y m := by
  rw [Int.add_mul_fmod_self_left]
theorem fmod_small {m y : Int} (h0 : 0 ≤ y) (h1 : y < m) : Int.fmod y m = y := by
  rw [Int.fmod_eq_emod_of_nonneg _ (by omega)]
  exact Int.emod_eq_of_lt h0 h1
theorem fmod_bds (y : Int) {m : Int} (h : 0 < m) : 0 ≤ Int.fmod y m ∧ Int.fmod y m ≤ m - 1 := by
  have h1 := Int.fmod_nonneg_of_pos y h
  have h2 := Int.fmod_lt_of_pos y h
  omega

/-- the first modulus of a letter in a sum -/
noncomputable def firstMod (vi : List VI) : List (Nat × Int) → Option Int
  | [] => none
  | t :: r => match vi[t.1]? with
    | some v => match v.df with
      | some dm => some dm.2
      | none => firstMod vi r
    | none => firstMod vi r
/-- not nought, for it is not nought but for a modulus -/
noncomputable def IE.modnz (vi : List VI) (e : IE) : Bool := match firstMod vi e.ts with
  | some m => match decide (0 < m) with
    | true => match (e.red vi m).ts with
      | [] => match decide (Int.fmod (e.red vi m).c m = 0) with
        | true => false
        | false => true
      | _ => false
    | false => false
  | none => false
theorem IE.modnz_is {vi : List VI} {ι : List Int} (V : VOK vi ι) {e : IE} {x : Int} (h : e.modnz vi = true) (q : e.ev ι = some x) : x ≠ 0 := by
  unfold IE.modnz at h
  split at h
  · rename_i m _
    split at h
    · split at h
      · rename_i ht
        obtain ⟨y, z, hy, hz⟩ := IE.red_is (m := m) V q
        have hyc : y = (e.red vi m).c := IE.num_ev (by unfold IE.num; rw [ht]) hy
        split at h
        · exact ff h
        · rename_i hd
          have hd := of_decide_eq_false hd
          intro hx
          apply hd
          rw [← hyc, ← fmod_shift (z := z), ← hz, hx]
          simp
      · exact ff h
    · exact ff h
  · exact ff h
end Mine

namespace Mine
open PySem PySem.W PySem.Calls PyProof.Rows
set_option maxRecDepth 100000

/-! ## letters: new ones, and narrowed ones -/
noncomputable def IE.var (i : Nat) : IE := ⟨0, [(i, 1)]⟩
theorem ev_at {ι : List Int} {i : Nat} {x : Int} (h : ι[i]? = some x) : (IE.var i).ev ι = some x := by simp [IE.var, IE.ev, tsum, h]
/-- the number, by its letters' bounds too -/
noncomputable def IE.known (vi : List VI) (e : IE) : Option Int := match e.ts with
  | [] => some e.c
  | _ => match e.lo vi, e.hi vi with
    | some a, some b => match decide (a = b) with
      | true => some a
      | false => none
    | _, _ => none
theorem IE.known_is {vi : List VI} {ι : List Int} (V : VOK vi ι) {e : IE} {n x : Int} (h : e.known vi = some n) (q : e.ev ι = some x) : x = n := by
  unfold IE.known at h
  split at h
  · rename_i ht
    obtain rfl := Option.some.inj h
    simp [IE.ev, ht, tsum] at q
    exact q.symm
  · cases h1 : e.lo vi with
    | none => rw [h1] at h; exact no_some h
    | some a =>
      cases h2 : e.hi vi with
      | none => rw [h1, h2] at h; exact no_some h
      | some b =>
        rw [h1, h2] at h
        dsimp only at h
        cases hd : decide (a = b) with
        | false => rw [hd] at h; exact no_some h
        | true =>
          rw [hd] at h
          obtain rfl := Option.some.inj h
          have := of_decide_eq_true hd
          have := IE.lo_le V h1 q
          have := IE.hi_ge V h2 q
          omega
/-- is it below nought? -/
noncomputable def IE.neg? (vi : List VI) (e : IE) : Option Bool := match e.hi vi with
  | some b => match decide (b < 0) with
    | true => some true
    | false => match e.lo vi with
      | some a => match decide (0 ≤ a) with
        | true => some false
        | false => none
      | none => none
  | none => match e.lo vi with
      | some a => match decide (0 ≤ a) with
        | true => some false
        | false => none
      | none => none
theorem IE.neg_is {vi : List VI} {ι : List Int} (V : VOK vi ι) {e : IE} {b : Bool} {x : Int} (h : e.neg? vi = some b) (q : e.ev ι = some x) : decide (x < 0) = b := by
  have lo : ∀ a, e.lo vi = some a → (match decide (0 ≤ a) with | true => some false | false => none) = some b → decide (x < 0) = b := by
    intro a ha hb
    cases hd : decide (0 ≤ a) with
    | false => rw [hd] at hb; exact no_some hb
    | true =>
      rw [hd] at hb; obtain rfl := Option.some.inj hb
      have := of_decide_eq_true hd
      have := IE.lo_le V ha q
      exact decide_eq_false (by omega)
  unfold IE.neg? at h
  cases h2 : e.hi vi with
  | none =>
    rw [h2] at h
    cases h1 : e.lo vi with
    | none => rw [h1] at h; exact no_some h
    | some a => rw [h1] at h; exact lo a h1 h
  | some c =>
    rw [h2] at h
    dsimp only at h
    cases hd : decide (c < 0) with
    | true =>
      rw [hd] at h; obtain rfl := Option.some.inj h
      have := of_decide_eq_true hd
      have := IE.hi_ge V h2 q
      exact decide_eq_true (by omega)
    | false =>
      rw [hd] at h
      cases h1 : e.lo vi with
      | none => rw [h1] at h; exact no_some h
      | some a => rw [h1] at h; exact lo a h1 h
/-- is it nought? -/
noncomputable def IE.zero0? (vi : List VI) (e : IE) : Option Bool := match e.known vi with
  | some n => some (decide (n = 0))
  | none => match e.lo vi with
    | some a => match decide (0 < a) with
      | true => some false
      | false => match e.hi vi with
        | some b => match decide (b < 0) with
          | true => some false
          | false => none
        | none => none
    | none => match e.hi vi with
        | some b => match decide (b < 0) with
          | true => some false
          | false => none
        | none => none
theorem IE.zero0_is {vi : List VI} {ι : List Int} (V : VOK vi ι) {e : IE} {b : Bool} {x : Int} (h : e.zero0? vi = some b) (q : e.ev ι = some x) : decide (x = 0) = b := by
  have hi : ∀ c, e.hi vi = some c → (match decide (c < 0) with | true => some false | false => none) = some b → decide (x = 0) = b := by
    intro c hc hb
    cases hd : decide (c < 0) with
    | false => rw [hd] at hb; exact no_some hb
    | true =>
      rw [hd] at hb; obtain rfl := Option.some.inj hb
      have := of_decide_eq_true hd
      have := IE.hi_ge V hc q
      exact decide_eq_false (by omega)
  unfold IE.zero0? at h
  cases hk : e.known vi with
  | some n =>
    rw [hk] at h
    obtain rfl := Option.some.inj h
    rw [IE.known_is V hk q]
  | none =>
    rw [hk] at h
    dsimp only at h
    cases h1 : e.lo vi with
    | none =>
      rw [h1] at h
      cases h2 : e.hi vi with
      | none => rw [h2] at h; exact no_some h
      | some c => rw [h2] at h; exact hi c h2 h
    | some a =>
      rw [h1] at h
      dsimp only at h
      cases hd : decide (0 < a) with
      | true =>
        rw [hd] at h; obtain rfl := Option.some.inj h
        have := of_decide_eq_true hd
        have := IE.lo_le V h1 q
        exact decide_eq_false (by omega)
      | false =>
        rw [hd] at h
        cases h2 : e.hi vi with
        | none => rw [h2] at h; exact no_some h
        | some c => rw [h2] at h; exact hi c h2 h

noncomputable def IE.zero? (vi : List VI) (e : IE) : Option Bool := match e.zero0? vi with
  | some b => some b
  | none => match e.modnz vi with
    | true => some false
    | false => none
theorem IE.zero_is {vi : List VI} {ι : List Int} (V : VOK vi ι) {e : IE} {b : Bool} {x : Int} (h : e.zero? vi = some b) (q : e.ev ι = some x) : decide (x = 0) = b := by
  unfold IE.zero? at h
  cases h0 : e.zero0? vi with
  | some c => rw [h0] at h; obtain rfl := Option.some.inj h; exact IE.zero0_is V h0 q
  | none =>
    rw [h0] at h
    dsimp only at h
    cases h1 : e.modnz vi with
    | true => rw [h1] at h; obtain rfl := Option.some.inj h; exact decide_eq_false (IE.modnz_is V h1 q)
    | false => rw [h1] at h; exact no_some h

/-- c + x or c - x, x one letter -/
noncomputable def IE.one (e : IE) : Option (Int × Bool × Nat) := match e.ts with
  | [t] => match decide (t.2 = 1) with
    | true => some (e.c, true, t.1)
    | false => match decide (t.2 = -1) with
      | true => some (e.c, false, t.1)
      | false => none
  | _ => none
theorem IE.one_is {e : IE} {c : Int} {b : Bool} {i : Nat} {ι : List Int} {x : Int} (h : e.one = some (c, b, i)) (q : e.ev ι = some x) : ∃ y, ι[i]? = some y ∧ x = if b then c + y else c - y := by
  unfold IE.one at h
  split at h
  · rename_i t ht
    have ev : ∃ y, ι[t.1]? = some y ∧ x = e.c + t.2 * y := by
      unfold IE.ev at q
      rw [ht] at q
      unfold tsum at q
      cases h1 : ι[t.1]? with
      | none => rw [h1] at q; simp at q
      | some y => rw [h1] at q; simp [tsum] at q; exact ⟨y, rfl, q.symm⟩
    obtain ⟨y, hy, rfl⟩ := ev
    cases hd : decide (t.2 = 1) with
    | true =>
      rw [hd] at h; cases h
      have := of_decide_eq_true hd
      exact ⟨y, hy, by rw [this]; simp⟩
    | false =>
      rw [hd] at h
      dsimp only at h
      cases hd2 : decide (t.2 = -1) with
      | false => rw [hd2] at h; exact no_some h
      | true =>
        rw [hd2] at h; cases h
        have := of_decide_eq_true hd2
        exact ⟨y, hy, by rw [this]; simp; omega⟩
  · exact no_some h

noncomputable def VI.least (v : VI) (a : Int) : VI := { v with lo := if v.lo < a then a else v.lo }
noncomputable def VI.most (v : VI) (b : Int) : VI := { v with hi := match v.hi with | some h => some (if b < h then b else h) | none => some b }
theorem VI.ok_least {ι : List Int} {v : VI} {x a : Int} (k : v.ok ι x) (h : a ≤ x) : (v.least a).ok ι x := by
  refine ⟨?_, k.2⟩
  show (if v.lo < a then a else v.lo) ≤ x
  split
  · exact h
  · exact k.1
theorem VI.ok_most {ι : List Int} {v : VI} {x b : Int} (k : v.ok ι x) (h : x ≤ b) : (v.most b).ok ι x := by
  refine ⟨k.1, fun c hc => ?_, k.2.2⟩
  unfold VI.most at hc
  dsimp only at hc
  cases hh : v.hi with
  | none => rw [hh] at hc; obtain rfl := Option.some.inj hc; exact h
  | some g =>
    rw [hh] at hc
    obtain rfl := Option.some.inj hc
    have := k.2.1 g hh
    split <;> omega
noncomputable def St.vset (σ : St) (i : Nat) (f : VI → VI) : St := { σ with vi := match σ.vi[i]? with | some v => σ.vi.set i (f v) | none => σ.vi }
theorem VOK.vset {σ : St} {ι : List Int} (V : VOK σ.vi ι) {i : Nat} {f : VI → VI} {y : Int} (hy : ι[i]? = some y) (hf : ∀ v, v.ok ι y → (f v).ok ι y) : VOK (σ.vset i f).vi ι := by
  unfold St.vset
  dsimp only
  cases q : σ.vi[i]? with
  | none => exact V
  | some v =>
    dsimp only
    refine ⟨by rw [List.length_set]; exact V.1, fun j u e => ?_⟩
    rw [List.getElem?_set] at e
    by_cases h : i = j
    · subst h
      obtain ⟨y', hy', hv⟩ := V.2 i v q
      rw [hy] at hy'
      obtain rfl := Option.some.inj hy'
      rw [if_pos rfl] at e
      split at e
      · obtain rfl := Option.some.inj e; exact ⟨y, hy, hf v hv⟩
      · exact no_some e
    · rw [if_neg h] at e
      exact V.2 j u e
/-- narrow: the number is below nought | is not -/
noncomputable def St.isNeg (σ : St) (e : IE) (b : Bool) : St := match e.one with
  | some (c, true, i) => if b then σ.vset i (·.most (-c - 1)) else σ.vset i (·.least (-c))
  | some (c, false, i) => if b then σ.vset i (·.least (c + 1)) else σ.vset i (·.most c)
  | none => σ
theorem St.isNeg_ok {σ : St} {ι : List Int} (V : VOK σ.vi ι) {e : IE} {b : Bool} {x : Int} (q : e.ev ι = some x) (h : decide (x < 0) = b) : VOK (σ.isNeg e b).vi ι := by
  unfold St.isNeg
  split
  · rename_i c i ho
    obtain ⟨y, hy, hx⟩ := IE.one_is ho q
    rw [if_pos rfl] at hx
    induction b using Bool.casesOn with
    | true => have := of_decide_eq_true h; exact V.vset hy fun v k => VI.ok_most k (by omega)
    | false => have := of_decide_eq_false h; exact V.vset hy fun v k => VI.ok_least k (by omega)
  · rename_i c i ho
    obtain ⟨y, hy, hx⟩ := IE.one_is ho q
    rw [if_neg (by decide)] at hx
    induction b using Bool.casesOn with
    | true => have := of_decide_eq_true h; exact V.vset hy fun v k => VI.ok_least k (by omega)
    | false => have := of_decide_eq_false h; exact V.vset hy fun v k => VI.ok_most k (by omega)
  · exact V
/-- narrow: the number is nought -/
noncomputable def St.isZero (σ : St) (e : IE) : St := match e.one with
  | some (c, true, i) => (σ.vset i (·.least (-c))).vset i (·.most (-c))
  | some (c, false, i) => (σ.vset i (·.least c)).vset i (·.most c)
  | none => σ
theorem St.isZero_ok {σ : St} {ι : List Int} (V : VOK σ.vi ι) {e : IE} {x : Int} (q : e.ev ι = some x) (h : x = 0) : VOK (σ.isZero e).vi ι := by
  unfold St.isZero
  split
  · rename_i c i ho
    obtain ⟨y, hy, hx⟩ := IE.one_is ho q
    rw [if_pos rfl] at hx
    exact (V.vset hy fun v k => VI.ok_least k (by omega)).vset hy fun v k => VI.ok_most k (by omega)
  · rename_i c i ho
    obtain ⟨y, hy, hx⟩ := IE.one_is ho q
    rw [if_neg (by decide)] at hx
    exact (V.vset hy fun v k => VI.ok_least k (by omega)).vset hy fun v k => VI.ok_most k (by omega)
  · exact V
theorem St.vset_same (σ : St) (i : Nat) (f : VI → VI) : (σ.vset i f).lc = σ.lc ∧ (σ.vset i f).hp = σ.hp ∧ (σ.vset i f).nl = σ.nl := ⟨rfl, rfl, rfl⟩
theorem St.isNeg_same (σ : St) (e : IE) (b : Bool) : (σ.isNeg e b).lc = σ.lc ∧ (σ.isNeg e b).hp = σ.hp ∧ (σ.isNeg e b).nl = σ.nl := by
  unfold St.isNeg
  split <;> (try split) <;> exact ⟨rfl, rfl, rfl⟩
theorem St.isZero_same (σ : St) (e : IE) : (σ.isZero e).lc = σ.lc ∧ (σ.isZero e).hp = σ.hp ∧ (σ.isZero e).nl = σ.nl := by
  unfold St.isZero
  split <;> exact ⟨rfl, rfl, rfl⟩
theorem Rel.vars' {os0 : (Array Nat → Int) × OsState} {h₀ : Gd} {L : Addr} {m : Str → Option Value} {W : Wd} {σ σ' : St} {s : Shared} (R : Rel os0 h₀ L m W σ s) (h : σ'.lc = σ.lc ∧ σ'.hp = σ.hp ∧ σ'.nl = σ.nl) (V : VOK σ'.vi W.ι) : Rel os0 h₀ L m W σ' s :=
  ⟨R.fr, by rw [h.1]; exact R.lcs, by rw [h.2.1]; exact R.led, by rw [h.2.2]; exact R.len, by rw [h.2.1]; exact R.inj, R.gens, R.os, V, R.scr, R.par⟩

/-- a new letter -/
noncomputable def St.fresh (σ : St) (v : VI) : St := { σ with vi := σ.vi ++ [v] }
noncomputable def Wd.more (W : Wd) (x : Int) : Wd := { W with ι := W.ι ++ [x] }
theorem Wd.le_more (W : Wd) (x : Int) : W.le (W.more x) := ⟨List.prefix_refl _, List.prefix_append _ _⟩
theorem Rel.fresh {os0 : (Array Nat → Int) × OsState} {h₀ : Gd} {L : Addr} {m : Str → Option Value} {W : Wd} {σ : St} {s : Shared} (R : Rel os0 h₀ L m W σ s) {v : VI} {x : Int} (k : v.ok W.ι x) :
    Rel os0 h₀ L m (W.more x) (σ.fresh v) s ∧ (IE.var σ.vi.length).ev (W.more x).ι = some x := by
  have hle := W.le_more x
  refine ⟨⟨R.fr, fun y u e => ?_, fun l o e => ?_, R.len, R.inj, R.gens, R.os, R.vars.push k, R.scr.mono hle, R.par⟩, ?_⟩
  · obtain ⟨c, h1, h2⟩ := R.lcs y u e
    exact ⟨c, h1, h2.mono hle⟩
  · obtain ⟨a, c, h1, h2, h3⟩ := R.led l o e
    exact ⟨a, c, h1, h2.mono hle rfl, h3⟩
  · have : (W.more x).ι[σ.vi.length]? = some x := by
      show (W.ι ++ [x])[σ.vi.length]? = _
      rw [R.vars.1, List.getElem?_append_right (Nat.le_refl _), Nat.sub_self]; rfl
    simp [IE.var, IE.ev, tsum, this]
end Mine

namespace Mine
open PySem PySem.W PySem.Calls PyProof.Rows
set_option maxRecDepth 100000

noncomputable def ieq (a b : IE) : Bool := decide (a.c = b.c) && (a.ts.length == b.ts.length && (a.ts.zip b.ts).all fun x => Nat.beq x.1.1 x.2.1 && decide (x.1.2 = x.2.2))
theorem ieq_is {a b : IE} (h : ieq a b = true) : a = b := by
  unfold ieq at h
  simp only [Bool.and_eq_true, decide_eq_true_eq, beq_iff_eq] at h
  obtain ⟨h1, h2, h3⟩ := h
  have : ∀ (x y : List (Nat × Int)), x.length = y.length → ((x.zip y).all fun x => Nat.beq x.1.1 x.2.1 && decide (x.1.2 = x.2.2)) = true → x = y := by
    intro x
    induction x with
    | nil => intro y hl _; induction y using List.casesOn with | nil => rfl | cons _ _ => cases hl
    | cons p x ih =>
      intro y hl ha
      induction y using List.casesOn with
      | nil => cases hl
      | cons q y =>
        rw [List.zip_cons_cons, List.all_cons] at ha
        simp only [Bool.and_eq_true, decide_eq_true_eq] at ha
        obtain ⟨⟨a1, a2⟩, a3⟩ := ha
        rw [ih y (Nat.succ.inj hl) (by simpa using a3)]
        congr 1
        exact Prod.ext (Nat.eq_of_beq_eq_true a1) a2
  cases a; induction b using Mine.IE.casesOn
  simp only at h1 h2 h3
  rw [h1, this _ _ h2 h3]
/-- a letter that is this remainder already -/
noncomputable def findDf (e : IE) (m : Int) : Nat → List VI → Option Nat
  | _, [] => none
  | i, v :: r => match v.df with
    | some dm => match ieq dm.1 e && decide (dm.2 = m) with
      | true => some i
      | false => findDf e m (i + 1) r
    | none => findDf e m (i + 1) r
theorem findDf_is {e : IE} {m : Int} : ∀ {i j : Nat} {l : List VI}, findDf e m i l = some j → ∃ v, i ≤ j ∧ l[j - i]? = some v ∧ v.df = some (e, m)
  | i, j, [], h => by exact no_some h
  | i, j, v :: r, h => by
    have rec_ : findDf e m (i + 1) r = some j → ∃ u, i ≤ j ∧ (v :: r)[j - i]? = some u ∧ u.df = some (e, m) := by
      intro h
      obtain ⟨u, h1, h2, h3⟩ := findDf_is h
      refine ⟨u, by omega, ?_, h3⟩
      rw [show j - i = (j - (i + 1)) + 1 by omega, List.getElem?_cons_succ]
      exact h2
    unfold findDf at h
    cases hd : v.df with
    | none => rw [hd] at h; exact rec_ h
    | some dm =>
      rw [hd] at h
      dsimp only at h
      cases hb : ieq dm.1 e && decide (dm.2 = m) with
      | false => rw [hb] at h; exact rec_ h
      | true =>
        rw [hb] at h
        obtain rfl := Option.some.inj h
        obtain ⟨h1, h2⟩ := Bool.and_eq_true_iff.mp hb
        refine ⟨v, Nat.le_refl _, by simp, ?_⟩
        rw [hd, ← ieq_is h1, ← of_decide_eq_true h2]
noncomputable def modA (σ : St) (e : IE) (m : Int) (k : IE → St → Bool) : Bool :=
  match decide (0 < m) with
  | false => false
  | true =>
    let d := e.red σ.vi m
    match d.ts with
    | [] => k (IE.lit (Int.fmod d.c m)) σ
    | _ => match d.lo σ.vi, d.hi σ.vi with
      | some a, some b => match decide (0 ≤ a) && decide (b < m) with
        | true => k d σ
        | false => match findDf d m 0 σ.vi with
          | some j => k (IE.var j) σ
          | none => k (IE.var σ.vi.length) (σ.fresh ⟨0, some (m - 1), some (d, m)⟩)
      | _, _ => match findDf d m 0 σ.vi with
          | some j => k (IE.var j) σ
          | none => k (IE.var σ.vi.length) (σ.fresh ⟨0, some (m - 1), some (d, m)⟩)
section
variable {os0 : (Array Nat → Int) × OsState} {h₀ : Gd} {L : Addr} {mp : Str → Option Value} {W : Wd} {σ : St} {s : Shared}
theorem modA_ok (R : Rel os0 h₀ L mp W σ s) {e : IE} {m x : Int} {k : IE → St → Bool} (q : e.ev W.ι = some x) (h : modA σ e m k = true) :
    ∃ W' e' σ', W.le W' ∧ Rel os0 h₀ L mp W' σ' s ∧ e'.ev W'.ι = some (Int.fmod x m) ∧ k e' σ' = true ∧ 0 < m := by
  unfold modA at h
  obtain ⟨hm, h⟩ := mf h
  have hm := of_decide_eq_true hm
  dsimp only at h
  obtain ⟨y, z, hy, hz⟩ := IE.red_is (m := m) R.vars q
  generalize e.red σ.vi m = d at h hy
  have hx : Int.fmod x m = Int.fmod y m := by rw [hz, fmod_shift]
  have other : (match findDf d m 0 σ.vi with
        | some j => k (IE.var j) σ
        | none => k (IE.var σ.vi.length) (σ.fresh ⟨0, some (m - 1), some (d, m)⟩)) = true → ∃ W' e' σ', W.le W' ∧ Rel os0 h₀ L mp W' σ' s ∧ e'.ev W'.ι = some (Int.fmod x m) ∧ k e' σ' = true ∧ 0 < m := by
    intro h
    cases hf : findDf d m 0 σ.vi with
    | some j =>
      rw [hf] at h
      obtain ⟨v, _, h2, h3⟩ := findDf_is hf
      rw [Nat.sub_zero] at h2
      obtain ⟨u, hu, hv⟩ := R.vars.2 j v h2
      obtain ⟨y', hy', hfm⟩ := hv.2.2 d m h3
      rw [hy] at hy'
      obtain rfl := Option.some.inj hy'
      exact ⟨W, IE.var j, σ, W.le_refl, R, by simp [IE.var, IE.ev, tsum, hu, hx, hfm], h, hm⟩
    | none =>
      rw [hf] at h
      have hb := fmod_bds y hm
      obtain ⟨R', e'⟩ := R.fresh (v := ⟨0, some (m - 1), some (d, m)⟩) (x := Int.fmod y m) ⟨hb.1, fun g hg => by cases hg; exact hb.2, fun e0 m0 h0 => by cases h0; exact ⟨y, hy, rfl⟩⟩
      exact ⟨_, _, _, W.le_more _, R', by rw [hx]; exact e', h, hm⟩
  cases ht : d.ts with
  | nil =>
    rw [ht] at h
    have : y = d.c := IE.num_ev (by unfold IE.num; rw [ht]) hy
    dsimp only at h
    exact ⟨W, _, σ, W.le_refl, R, by rw [hx, this]; exact IE.ev_lit _ _, h, hm⟩
  | cons t r =>
    rw [ht] at h
    dsimp only at h
    cases h1 : d.lo σ.vi with
    | none => rw [h1] at h; exact other h
    | some a =>
      cases h2 : d.hi σ.vi with
      | none => rw [h1, h2] at h; exact other h
      | some b =>
        rw [h1, h2] at h
        dsimp only at h
        cases hb : decide (0 ≤ a) && decide (b < m) with
        | false => rw [hb] at h; exact other h
        | true =>
          rw [hb] at h
          obtain ⟨g1, g2⟩ := Bool.and_eq_true_iff.mp hb
          have g1 := of_decide_eq_true g1
          have g2 := of_decide_eq_true g2
          have l1 := IE.lo_le R.vars h1 hy
          have l2 := IE.hi_ge R.vars h2 hy
          exact ⟨W, d, σ, W.le_refl, R, by rw [hx, fmod_small (by omega) (by omega)]; exact hy, h, hm⟩

/-- a small factor -/
noncomputable def small (n : Int) : Bool := decide (-(2 ^ 63) ≤ n) && decide (n < 2 ^ 63)
theorem small_bits {n : Int} (h : small n = true) : Builtin.Int.intBits n ≤ 64 := by
  obtain ⟨h1, h2⟩ := Bool.and_eq_true_iff.mp h
  have h1 := of_decide_eq_true h1
  have h2 := of_decide_eq_true h2
  exact intBits_le_64 (by omega) (by omega)
noncomputable def mulA (σ : St) (a b : IE) (k : IE → St → Bool) : Bool :=
  match a.known σ.vi with
  | some n => small n && k (b.mulK n) σ
  | none => match b.known σ.vi with
    | some n => small n && k (a.mulK n) σ
    | none => match a.lo σ.vi, a.hi σ.vi, b.lo σ.vi, b.hi σ.vi with
      | some la, some ha, some lb, some hb => decide (0 ≤ la) && (decide (0 ≤ lb) && (small ha && k (IE.var σ.vi.length) (σ.fresh ⟨0, some (ha * hb), none⟩)))
      | _, _, _, _ => false
theorem mulA_ok (R : Rel os0 h₀ L mp W σ s) {a b : IE} {x y : Int} {k : IE → St → Bool} (qa : a.ev W.ι = some x) (qb : b.ev W.ι = some y) (h : mulA σ a b k = true) :
    ∃ W' e' σ', W.le W' ∧ Rel os0 h₀ L mp W' σ' s ∧ e'.ev W'.ι = some (x * y) ∧ k e' σ' = true ∧ IntMulOk x y := by
  unfold mulA at h
  cases h1 : a.known σ.vi with
  | some n =>
    rw [h1] at h
    obtain ⟨hs, hk⟩ := Bool.and_eq_true_iff.mp h
    have := IE.known_is R.vars h1 qa
    subst this
    exact ⟨W, _, σ, W.le_refl, R, IE.ev_mulK qb, hk, .of_left (small_bits hs)⟩
  | none =>
    rw [h1] at h
    dsimp only at h
    cases h2 : b.known σ.vi with
    | some n =>
      rw [h2] at h
      obtain ⟨hs, hk⟩ := Bool.and_eq_true_iff.mp h
      have := IE.known_is R.vars h2 qb
      subst this
      exact ⟨W, _, σ, W.le_refl, R, by rw [Int.mul_comm]; exact IE.ev_mulK qa, hk, .of_right (small_bits hs)⟩
    | none =>
      rw [h2] at h
      dsimp only at h
      cases ha : a.lo σ.vi with
      | none => rw [ha] at h; exact ff h
      | some la =>
        cases hb : a.hi σ.vi with
        | none => rw [ha, hb] at h; exact ff h
        | some ua =>
          cases hc : b.lo σ.vi with
          | none => rw [ha, hb, hc] at h; exact ff h
          | some lb =>
            cases hd : b.hi σ.vi with
            | none => rw [ha, hb, hc, hd] at h; exact ff h
            | some ub =>
              rw [ha, hb, hc, hd] at h
              obtain ⟨g1, h⟩ := Bool.and_eq_true_iff.mp h
              obtain ⟨g2, h⟩ := Bool.and_eq_true_iff.mp h
              obtain ⟨g3, h⟩ := Bool.and_eq_true_iff.mp h
              have g1 := of_decide_eq_true g1
              have g2 := of_decide_eq_true g2
              have l1 := IE.lo_le R.vars ha qa
              have l2 := IE.hi_ge R.vars hb qa
              have l3 := IE.lo_le R.vars hc qb
              have l4 := IE.hi_ge R.vars hd qb
              have hxy : 0 ≤ x * y := Int.mul_nonneg (by omega) (by omega)
              have hxy2 : x * y ≤ ua * ub := Int.mul_le_mul l2 l4 (by omega) (by omega)
              obtain ⟨R', e'⟩ := R.fresh (v := ⟨0, some (ua * ub), none⟩) (x := x * y) ⟨hxy, fun g hg => by obtain rfl := Option.some.inj hg; exact hxy2, fun e0 m0 h0 => by cases h0⟩
              refine ⟨_, _, _, W.le_more _, R', e', h, .of_left ?_⟩
              obtain ⟨k1, k2⟩ := Bool.and_eq_true_iff.mp g3
              have k2 := of_decide_eq_true k2
              exact intBits_le_64 (by omega) (by omega)
noncomputable def divA (σ : St) (a : IE) (m : Int) (k : IE → St → Bool) : Bool :=
  match decide (0 < m) && small m with
  | false => false
  | true => match a.known σ.vi with
    | some n => k (IE.lit (Int.fdiv n m)) σ
    | none => k (IE.var σ.vi.length) (σ.fresh ⟨match a.lo σ.vi with | some l => Int.fdiv l m | none => 0, match a.hi σ.vi with | some u => some (Int.fdiv u m) | none => none, none⟩) && (a.lo σ.vi).isSome
theorem fdiv_mono {x y m : Int} (hm : 0 < m) (h : x ≤ y) : Int.fdiv x m ≤ Int.fdiv y m := by
  rw [Int.fdiv_eq_ediv_of_nonneg _ (by omega), Int.fdiv_eq_ediv_of_nonneg _ (by omega)]
  exact Int.ediv_le_ediv hm h
theorem no_pylong {x m : Int} (h : small m = true) : Builtin.divisionGoesByPylong x m = false := by
  obtain ⟨h1, h2⟩ := Bool.and_eq_true_iff.mp h
  have h1 := of_decide_eq_true h1
  have h2 := of_decide_eq_true h2
  have hl : m.natAbs.log2 < 64 := by
    by_cases z : m.natAbs = 0
    · rw [z]; decide
    · exact (Nat.log2_lt z).mpr (by have : (2 : Nat) ^ 64 = 18446744073709551616 := by decide
                                    omega)
  unfold Builtin.divisionGoesByPylong
  dsimp only
  have : decide ((if m == 0 then 0 else m.natAbs.log2 / 30 + 1) > 300) = false := by
    apply decide_eq_false
    split
    · decide
    · omega
  rw [this]; rfl
theorem divA_ok (R : Rel os0 h₀ L mp W σ s) {a : IE} {x m : Int} {k : IE → St → Bool} (qa : a.ev W.ι = some x) (h : divA σ a m k = true) :
    ∃ W' e' σ', W.le W' ∧ Rel os0 h₀ L mp W' σ' s ∧ e'.ev W'.ι = some (Int.fdiv x m) ∧ k e' σ' = true ∧ 0 < m ∧ small m = true := by
  unfold divA at h
  cases hb : decide (0 < m) && small m with
  | false => rw [hb] at h; exact ff h
  | true =>
    rw [hb] at h
    obtain ⟨hm, hs⟩ := Bool.and_eq_true_iff.mp hb
    have hm := of_decide_eq_true hm
    dsimp only at h
    cases h1 : a.known σ.vi with
    | some n =>
      rw [h1] at h
      have := IE.known_is R.vars h1 qa
      subst this
      exact ⟨W, _, σ, W.le_refl, R, IE.ev_lit _ _, h, hm, hs⟩
    | none =>
      rw [h1] at h
      dsimp only at h
      obtain ⟨h, hlo⟩ := Bool.and_eq_true_iff.mp h
      cases h2 : a.lo σ.vi with
      | none => rw [h2] at hlo; exact ff hlo
      | some l =>
        rw [h2] at h
        have l1 := IE.lo_le R.vars h2 qa
        have key : ∀ hi : Option Int, (∀ g, hi = some g → Int.fdiv x m ≤ g) → k (IE.var σ.vi.length) (σ.fresh ⟨Int.fdiv l m, hi, none⟩) = true → ∃ W' e' σ', W.le W' ∧ Rel os0 h₀ L mp W' σ' s ∧ e'.ev W'.ι = some (Int.fdiv x m) ∧ k e' σ' = true ∧ 0 < m ∧ small m = true := by
          intro hi hh hk
          obtain ⟨R', e'⟩ := R.fresh (v := ⟨Int.fdiv l m, hi, none⟩) (x := Int.fdiv x m) ⟨fdiv_mono hm l1, hh, fun e0 m0 h0 => by cases h0⟩
          exact ⟨_, _, _, W.le_more _, R', e', hk, hm, hs⟩
        cases h3 : a.hi σ.vi with
        | none => rw [h3] at h; exact key none (fun g hg => by exact no_some hg) h
        | some u =>
          rw [h3] at h
          exact key _ (fun g hg => by obtain rfl := Option.some.inj hg; exact fdiv_mono hm (IE.hi_ge R.vars h3 qa)) h

/-- two ints and an operator -/
noncomputable def bin2 (σ : St) (a b : IE) (k : Int → Int → Bool) : Bool := onO (a.known σ.vi) fun x => onO (b.known σ.vi) fun y => k x y
noncomputable def binPow (k : IE → Bool) (x y : Int) : Bool := (decide (2 ≤ x) && decide (x ≤ 100)) && ((decide (0 ≤ y) && decide (y ≤ 1000)) && k (IE.lit (x ^ y.toNat)))
noncomputable def binShr (k : IE → Bool) (x y : Int) : Bool := decide (0 ≤ y) && (match decide (y ≥ ((Builtin.Int.intBits x : Nat) : Int)) with
  | true => k (IE.lit (if x < 0 then -1 else 0))
  | false => k (IE.lit (x.fdiv (2 ^ y.toNat))))
noncomputable def binI (σ : St) (op : Operator) (a b : IE) (k : IE → St → Bool) : Bool := match op with
  | .Add => k (a.add b) σ
  | .Sub => k (a.sub b) σ
  | .Mult => mulA σ a b k
  | .Mod => onO (b.known σ.vi) fun m => modA σ a m k
  | .FloorDiv => onO (b.known σ.vi) fun m => divA σ a m k
  | .BitAnd => bin2 σ a b fun x y => k (IE.lit (Builtin.bitAnd x y)) σ
  | .BitOr => bin2 σ a b fun x y => k (IE.lit (Builtin.bitOr x y)) σ
  | .Pow => bin2 σ a b (binPow fun e => k e σ)
  | .RShift => bin2 σ a b (binShr fun e => k e σ)
  | _ => false
variable {prog : Program} {w : World} {A : Around} {E : Value → Shared → Prop}
theorem binI_ok (R : Rel os0 h₀ L mp W σ s) {op : Operator} {a b : IE} {x y : Int} {t u : Tok} {k : IE → St → Bool} {Q : Value → Shared → Prop} (qa : a.ev W.ι = some x) (qb : b.ev W.ι = some y) (h : binI σ op a b k = true)
    (hQ : ∀ W' e' σ' s' z tk, W.le W' → Rel os0 h₀ L mp W' σ' s' → e'.ev W'.ι = some z → k e' σ' = true → Q (.int z tk) s') :
    wpAny (model prog w) A (binaryOp op (.int x t) (.int y u)) Q E s := by
  have one : ∀ {f : Int → Bool}, onO (b.known σ.vi) f = true → f y = true := fun h => by
    obtain ⟨m, h1, h⟩ := onO_is h
    rw [IE.known_is R.vars h1 qb]; exact h
  have two : ∀ {f : Int → Int → Bool}, bin2 σ a b f = true → f x y = true := fun h => by
    obtain ⟨m, h1, h⟩ := onO_is h
    rw [IE.known_is R.vars h1 qa]; exact one h
  induction op using PySem.Operator.casesOn with
  | Add => exact add_int (hQ _ _ _ _ _ _ (W.le_refl) (R.toks _) (IE.ev_add qa qb) h)
  | Sub => exact sub_int (hQ _ _ _ _ _ _ (W.le_refl) (R.toks _) (IE.ev_sub qa qb) h)
  | Mult =>
    obtain ⟨W', e', σ', h1, h2, h3, h4, h5⟩ := mulA_ok R qa qb h
    exact mul_int (hQ _ _ _ _ _ _ h1 (h2.toks _) h3 h4) h5
  | Mod =>
    obtain ⟨W', e', σ', h1, h2, h3, h4, h5⟩ := modA_ok R qa (one h)
    exact mod_int' (by omega) (hQ _ _ _ _ _ _ h1 (h2.toks _) h3 h4)
  | FloorDiv =>
    obtain ⟨W', e', σ', h1, h2, h3, h4, h5, h6⟩ := divA_ok R qa (one h)
    exact floordiv_int (by omega) (hQ _ _ _ _ _ _ h1 (h2.toks _) h3 h4) (.inl (no_pylong h6))
  | BitAnd => exact and_int (hQ _ _ _ _ _ _ (W.le_refl) (R.toks _) (IE.ev_lit _ _) (two h))
  | BitOr => exact or_int (hQ _ _ _ _ _ _ (W.le_refl) (R.toks _) (IE.ev_lit _ _) (two h))
  | Pow =>
    replace h := two h
    unfold binPow at h
    simp only [Bool.and_eq_true, decide_eq_true_eq] at h
    obtain ⟨⟨g1, g2⟩, ⟨g3, g4⟩, hk⟩ := h
    have hb : Builtin.Int.intBits x ≤ 64 := intBits_le_64 (by omega) (by omega)
    refine AutoIntOpsIf.pow ?_
    rw [if_pos (show y ≥ 0 by omega)]
    have fin : Q (.int (x ^ y.toNat) s.toks) { s with toks := s.toks + 1 } := hQ _ _ _ _ _ _ (W.le_refl) (R.toks _) (IE.ev_lit _ _) hk
    split
    · rename_i q
      have : y = 0 := by simpa using q
      subst this
      have f2 := fin
      rw [show x ^ (0 : Int).toNat = 1 by simp] at f2
      exact f2
    · rw [if_neg (by simp; omega), if_neg (by simp; omega), if_neg ?_]
      · exact fin
      · unfold Builtin.Int.intTooBig bitsLine
        simp only [decide_eq_true_eq, gt_iff_lt]
        have : ((Builtin.Int.intBits x : Nat) : Int) * y ≤ 64 * 1000 := Int.mul_le_mul (by omega) g4 g3 (by omega)
        have e : ((2 ^ 27 : Nat) : Int) = 134217728 := by decide
        omega
  | RShift =>
    replace h := two h
    obtain ⟨g1, h⟩ := Bool.and_eq_true_iff.mp h
    have g1 := of_decide_eq_true g1
    refine AutoIntOpsIf.rshift ?_
    rw [if_neg (show ¬ y < 0 by omega)]
    cases hd : decide (y ≥ ((Builtin.Int.intBits x : Nat) : Int)) with
    | true =>
      rw [hd] at h
      rw [if_pos (of_decide_eq_true hd)]
      exact hQ _ _ _ _ _ _ (W.le_refl) (R.toks _) (IE.ev_lit _ _) h
    | false =>
      rw [hd] at h
      rw [if_neg (of_decide_eq_false hd)]
      exact hQ _ _ _ _ _ _ (W.le_refl) (R.toks _) (IE.ev_lit _ _) h
  | _ => exact ff h
end
end Mine

namespace Mine
open PySem PySem.W PySem.Calls PyProof.Rows PySem.SeqAt
set_option maxRecDepth 100000

/-! ## equal or not -/
noncomputable def beqBytes : List UInt8 → List UInt8 → Bool
  | [], [] => true
  | a :: x, b :: y => Nat.beq a.toNat b.toNat && beqBytes x y
  | _, _ => false
theorem beqBytes_is : ∀ {x y : List UInt8}, beqBytes x y = (x == y)
  | [], [] => rfl
  | [], _ :: _ => rfl
  | _ :: _, [] => rfl
  | a :: x, b :: y => by
    show (Nat.beq a.toNat b.toNat && beqBytes x y) = _
    rw [beqBytes_is, BT.beq_eq]
    by_cases h : a = b
    · subst h; simp
    · have : ¬ a.toNat = b.toNat := fun e => h (UInt8.toNat_inj.mp e)
      simp [h, this]
noncomputable def eqL (f : AV → AV → Option Bool) : List AV → List AV → Option Bool
  | [], ys => match ys with
    | [] => some true
    | _ :: _ => none
  | x :: xs, ys => match ys with
    | [] => none
    | y :: ys => (f x y).bind fun a => (eqL f xs ys).map fun b => a && b
/-- two plain things -/
noncomputable def eqK (a b : AV) : Option Bool := match a with
  | .none => match b with
    | .none => some true
    | .int _ => some false
    | .str _ => some false
    | _ => none
  | .bool x => match b with
    | .bool y => some (x == y)
    | _ => none
  | .str x => match b with
    | .str y => some (sq x y)
    | .none => some false
    | _ => none
  | .byts x => match b with
    | .byts y => some (beqBytes x y)
    | _ => none
  | .int _ => match b with
    | .none => some false
    | _ => none
  | _ => none
noncomputable def nilB {α : Type} : List α → Bool
  | [] => true
  | _ :: _ => false
theorem nilB_is {α : Type} {l : List α} (h : nilB l = true) : l = [] := by
  induction l using List.casesOn with
  | nil => rfl
  | cons _ _ => exact ff h
/-- two objects -/
noncomputable def eqOO (f : AV → AV → Option Bool) (o u : AO) : Option Bool := match o with
  | .tup xs => match u with
    | .tup ys => match Nat.beq xs.length ys.length with
      | true => eqL f xs ys
      | false => none
    | _ => none
  | .lst xs => match u with
    | .lst ys => match Nat.beq xs.length ys.length with
      | true => eqL f xs ys
      | false => some false
    | _ => none
  | .dct es _ => match u with
    | .dct fs _ => match nilB es && nilB fs with
      | true => some true
      | false => none
    | _ => none
  | _ => none
noncomputable def eqO (f : AV → AV → Option Bool) (σ : St) (i j : Nat) : Option Bool := match σ.hp.get i with
  | some o => match σ.hp.get j with
    | some u => eqOO f o u
    | none => none
  | none => none
noncomputable def seqN (o : AO) : Option Bool := match o with
  | .tup _ => some false
  | .lst _ => some false
  | _ => none
noncomputable def eqA : Nat → St → AV → AV → Option Bool
  | 0, _, _, _ => none
  | n + 1, σ, a, b => match eqK a b with
    | some r => some r
    | none => match a with
      | .int x => match b with
        | .int y => (x.sub y).zero? σ.vi
        | _ => none
      | .loc i => match b with
        | .loc j => match Nat.beq i j with
          | true => some true
          | false => eqO (eqA n σ) σ i j
        | .none => (σ.hp.get i).bind seqN
        | _ => none
      | _ => none

theorem RcAt.bytes_bytes {A : Around} {s : Shared} (a : Array UInt8) (t : Tok) (b : Array UInt8) (u : Tok) : RcAt A s (.bytes a t) (.bytes b u) (a.toList == b.toList) := fun prog w E Q h => by
  have : wpAny (model prog w) A (compareOp .Eq (.bytes a t) (.bytes b u)) Q E s := eq_bytes h
  exact this
theorem EqAt.bytes_bytes {A : Around} {s : Shared} (a : Array UInt8) (t : Tok) (b : Array UInt8) (u : Tok) : EqAt A s (.bytes a t) (.bytes b u) (a.toList == b.toList) := fun prog w E Q hq => by
  unfold eqBool
  refine wpAny_holding ?_
  refine wpAny_ite_split (fun hab => ?_) (fun _ => ?_)
  · have e : a = b := by have := eq_of_beq hab; injection this
    subst e
    exact wpAny_bind (wpAny_rule (wpAny_pure (by simpa using hq)))
  · exact wpAny_bind (RcAt.bytes_bytes a t b u prog w E _ (wpAny_truthy_bool hq))

section
variable {os0 : (Array Nat → Int) × OsState} {h₀ : Gd} {L : Addr} {mp : Str → Option Value} {W : Wd} {σ : St} {s : Shared}
theorem eqL_ok {f : AV → AV → Option Bool} {P : Value → Value → Bool → Prop} (hf : ∀ a b ca cb r, VR W a ca → VR W b cb → f a b = some r → P ca cb r) :
    ∀ {xs ys : List AV} {cx cy : List Value} {r : Bool}, All2 (VR W) xs cx → All2 (VR W) ys cy → xs.length = ys.length → eqL f xs ys = some r →
      ∃ e : Nat → Bool, (∀ j (h1 : j < cx.length) (h2 : j < cy.length), P cx[j] cy[j] (e j)) ∧ (List.range cx.length).all e = r
  | [], ys, cx, cy, r, hx, hy, _, h => by
    induction ys using List.casesOn with
    | nil =>
      obtain rfl := hx.inv
      obtain rfl := Option.some.inj h
      exact ⟨fun _ => true, fun j h1 => absurd h1 (Nat.not_lt_zero _), rfl⟩
    | cons _ _ => exact no_some h
  | x :: xs, ys, cx, cy, r, hx, hy, hl, h => by
    induction ys using List.casesOn with
    | nil => exact no_some h
    | cons y ys =>
      obtain ⟨b, h1, h⟩ := someBind (show (f x y).bind _ = some r from h)
      obtain ⟨c, h2, rfl⟩ := Option.map_eq_some_iff.mp h
      revert hy
      apply hx.onCons; intro cx cxs hx tx hy
      apply hy.onCons; intro cy cys hy ty
      obtain ⟨e, he, hr⟩ := eqL_ok hf tx ty (Nat.succ.inj hl) h2
      refine ⟨fun j => match j with | 0 => b | j + 1 => e j, fun j h1' h2' => ?_, ?_⟩
      · induction j using Nat.casesOn with
        | zero => exact hf _ _ _ _ _ hx hy h1
        | succ j => exact he j (Nat.lt_of_succ_lt_succ h1') (Nat.lt_of_succ_lt_succ h2')
      · rw [List.length_cons, List.range_succ_eq_map, List.all_cons, List.all_map]
        rw [← hr]
        rfl
theorem tup_at {vs : List AV} {a : Addr} {c : Obj} (h : OR W (.tup vs) c) (hc : s.heap.get? a = some c) : ∃ cs, All2 (VR W) vs cs ∧ s.heap.IsTuple a cs.toArray := by
  obtain ⟨_, rfl, e⟩ := h.inv
  exact ⟨_, e, _, hc, rfl, _, rfl⟩
theorem lst_at {vs : List AV} {a : Addr} {c : Obj} (h : OR W (.lst vs) c) (hc : s.heap.get? a = some c) : ∃ cs, All2 (VR W) vs cs ∧ s.heap.IsList a cs.toArray := by
  obtain ⟨_, _, rfl, e⟩ := h.inv
  exact ⟨_, e, _, hc, rfl, _, rfl⟩
theorem Rel.ref (R : Rel os0 h₀ L mp W σ s) {i : Nat} {o : AO} {a : Addr} (hi : σ.hp.get i = some o) (ha : W.ρ[i]? = some a) : ∃ c, OR W o c ∧ s.heap.get? a = some c := by
  obtain ⟨b, c, h1, h2, h3, _⟩ := R.led i o hi
  rw [ha] at h1
  obtain rfl := Option.some.inj h1
  exact ⟨c, h2, h3⟩
theorem RcNeAt.bytes_bytes {A : Around} {s : Shared} (a : Array UInt8) (t : Tok) (b : Array UInt8) (u : Tok) : RcNeAt A s (.bytes a t) (.bytes b u) (!(a.toList == b.toList)) := fun prog w E Q h => by
  have : wpAny (model prog w) A (compareOp .NotEq (.bytes a t) (.bytes b u)) Q E s := ne_bytes h
  exact this
theorem sq_beq (x y : Str) : sq x y = (x == y) := by
  by_cases q : x = y
  · rw [q, sq_refl, beq_self_eq_true]
  · rw [sq_ne q, beq_eq_false_iff_ne.mpr q]
/-- equal, and what == and != say -/
structure Eq3 (A : Around) (s : Shared) (ca cb : Value) (r : Bool) : Prop where
  e : EqAt A s ca cb r
  c : RcAt A s ca cb r
  n : RcNeAt A s ca cb (!r)
theorem eqK_ok {A : Around} {a b : AV} {ca cb : Value} {r : Bool} (ha : VR W a ca) (hb : VR W b cb) (h : eqK a b = some r) : Eq3 A s ca cb r := by
  induction a using Mine.AV.casesOn with
  | none =>
    obtain rfl := ha.inv
    induction b using Mine.AV.casesOn with
    | none => obtain rfl := hb.inv; rw [← Option.some.inj h]; exact ⟨EqAt.same _, RcAt.none_none, RcNeAt.none_none⟩
    | int e => apply hb.onInt; intro _ _ _; rw [← Option.some.inj h]; exact ⟨EqAt.none_int _ _, RcAt.none_int _ _, RcNeAt.none_int _ _⟩
    | str x => apply hb.onStr; intro _; rw [← Option.some.inj h]; exact ⟨EqAt.none_str _ _, RcAt.none_str _ _, RcNeAt.none_str _ _⟩
    | _ => exact (Option.some_ne_none _ h.symm).elim
  | bool x =>
    obtain rfl := ha.inv
    induction b using Mine.AV.casesOn with
    | bool y => obtain rfl := hb.inv; rw [← Option.some.inj h]; exact ⟨EqAt.bool_bool _ _, RcAt.bool_bool _ _, RcNeAt.bool_bool _ _⟩
    | _ => exact (Option.some_ne_none _ h.symm).elim
  | str x =>
    apply ha.onStr; intro _
    induction b using Mine.AV.casesOn with
    | none => obtain rfl := hb.inv; rw [← Option.some.inj h]; exact ⟨EqAt.str_none _ _, RcAt.str_none _ _, RcNeAt.str_none _ _⟩
    | str y => apply hb.onStr; intro _; rw [← Option.some.inj h, sq_beq]; exact ⟨EqAt.str_str _ _ _ _, RcAt.str_str _ _ _ _, RcNeAt.str_str _ _ _ _⟩
    | _ => exact (Option.some_ne_none _ h.symm).elim
  | byts x =>
    apply ha.onByts; intro _
    induction b using Mine.AV.casesOn with
    | byts y => apply hb.onByts; intro _; rw [← Option.some.inj h, beqBytes_is]; exact ⟨EqAt.bytes_bytes _ _ _ _, RcAt.bytes_bytes _ _ _ _, RcNeAt.bytes_bytes _ _ _ _⟩
    | _ => exact (Option.some_ne_none _ h.symm).elim
  | int x =>
    apply ha.onInt; intro _ _ _
    induction b using Mine.AV.casesOn with
    | none => obtain rfl := hb.inv; rw [← Option.some.inj h]; exact ⟨EqAt.int_none _ _, RcAt.int_none _ _, RcNeAt.int_none _ _⟩
    | _ => exact (Option.some_ne_none _ h.symm).elim
  | _ => exact (Option.some_ne_none _ h.symm).elim
theorem rc_tups {A : Around} {f : AV → AV → Option Bool} (hf : ∀ a b ca cb r, VR W a ca → VR W b cb → f a b = some r → EqAt A.in1 s ca cb r) (hu : A.units < cLine) {xs ys : List AV} {ci cj : Obj} {x y : Addr} {r : Bool} (k1 : OR W (.tup xs) ci) (k2 : s.heap.get? x = some ci) (k3 : OR W (.tup ys) cj) (k4 : s.heap.get? y = some cj)
    (hl : xs.length = ys.length) (h : eqL f xs ys = some r) : RcAt A s (.ref x) (.ref y) r ∧ RcNeAt A s (.ref x) (.ref y) (!r) := by
  obtain ⟨cx, hx, tx⟩ := tup_at k1 k2
  obtain ⟨cy, hy, ty⟩ := tup_at k3 k4
  obtain ⟨e, he, hr⟩ := eqL_ok hf hx hy hl h
  have hlc : cx.length = cy.length := by rw [← hx.length, ← hy.length, hl]
  have g1 := RcAt.tuples (A := A) (e := e) tx ty hu (fun j h1 h2 => he j h1 h2)
  have g2 := RcNeAt.tuples (A := A) (e := e) tx ty hu (fun j h1 h2 => he j h1 h2)
  rw [List.size_toArray, List.size_toArray, ← hlc, beq_self_eq_true, Bool.and_true, Nat.min_self, hr] at g1 g2
  exact ⟨g1, g2⟩
theorem rc_lsts {A : Around} {f : AV → AV → Option Bool} (hf : ∀ a b ca cb r, VR W a ca → VR W b cb → f a b = some r → EqAt A.in1 s ca cb r) (hu : A.units < cLine) {xs ys : List AV} {ci cj : Obj} {x y : Addr} {r : Bool} (k1 : OR W (.lst xs) ci) (k2 : s.heap.get? x = some ci) (k3 : OR W (.lst ys) cj) (k4 : s.heap.get? y = some cj)
    (h : (match Nat.beq xs.length ys.length with | true => eqL f xs ys | false => some false) = some r) : RcAt A s (.ref x) (.ref y) r ∧ RcNeAt A s (.ref x) (.ref y) (!r) := by
  refine Classical.byContradiction fun hgo => ?_
  obtain ⟨cx, hx, tx⟩ := lst_at k1 k2
  obtain ⟨cy, hy, ty⟩ := lst_at k3 k4
  refine hgo ?_
  cases hl : Nat.beq xs.length ys.length with
  | true =>
    rw [hl] at h
    obtain ⟨e, he, hr⟩ := eqL_ok hf hx hy (Nat.eq_of_beq_eq_true hl) h
    have hlc : cx.toArray.size = cy.toArray.size := by rw [List.size_toArray, List.size_toArray, ← hx.length, ← hy.length, Nat.eq_of_beq_eq_true hl]
    have g1 := RcAt.lists (A := A) (e := e) tx ty hlc hu (fun j h1 h2 => he j h1 h2)
    have g2 := RcNeAt.lists (A := A) (e := e) tx ty hlc hu (fun j h1 h2 => he j h1 h2)
    rw [List.size_toArray, hr] at g1 g2
    exact ⟨g1, g2⟩
  | false =>
    rw [hl] at h
    rw [BT.beq_eq] at hl
    have hlc : (cx.toArray.size != cy.toArray.size) = true := by rw [List.size_toArray, List.size_toArray, ← hx.length, ← hy.length]; exact bne_iff_ne.mpr (of_decide_eq_false hl)
    rw [← Option.some.inj h]
    exact ⟨RcAt.lists_lengths tx ty hlc hu, RcNeAt.lists_lengths tx ty hlc hu⟩
theorem rc_dcts {A : Around} (hu : A.units < cLine) {n m : Nat} {ci cj : Obj} {x y : Addr} (k1 : OR W (.dct [] n) ci) (k2 : s.heap.get? x = some ci) (k3 : OR W (.dct [] m) cj) (k4 : s.heap.get? y = some cj) (w2 : (x == sysModules) = false) (w4 : (y == sysModules) = false) :
    RcAt A s (.ref x) (.ref y) true ∧ RcNeAt A s (.ref x) (.ref y) (!true) := by
  refine Classical.byContradiction fun hgo => ?_
  obtain ⟨_, rfl, z1, _⟩ := k1.inv
  obtain rfl := z1.inv
  obtain ⟨_, rfl, z3, _⟩ := k3.inv
  obtain rfl := z3.inv
  refine hgo ?_
  have d : ∀ {x n}, s.heap.get? x = some (dictOf [] n) → ∀ {prog : Program} {w : World}, s.heap.DictOf (intKind prog w) x [] := fun k => ⟨_, #[], _, k, ⟨rfl, rfl, rfl⟩, rfl, fun e he => by simp at he, by constructor, by simp⟩
  exact ⟨fun prog w E Q hq => keq_eq (knd := intKind prog w) (r := true) w2 w4 (d k2) (d k4) hu (fun _ => .nil) hq, fun prog w E Q hq => keq_ne (knd := intKind prog w) (r := true) w2 w4 (d k2) (d k4) hu (fun _ => .nil) hq⟩
theorem eqOO_ok {A : Around} {f : AV → AV → Option Bool} (hf : ∀ a b ca cb r, VR W a ca → VR W b cb → f a b = some r → EqAt A.in1 s ca cb r) (hu : A.units < cLine) {o u : AO} {ci cj : Obj} {x y : Addr} {r : Bool} (k1 : OR W o ci) (k2 : s.heap.get? x = some ci) (k3 : OR W u cj) (k4 : s.heap.get? y = some cj) (w2 : (x == sysModules) = false) (w4 : (y == sysModules) = false)
    (h : eqOO f o u = some r) : RcAt A s (.ref x) (.ref y) r ∧ RcNeAt A s (.ref x) (.ref y) (!r) := by
  induction o using Mine.AO.casesOn with
  | tup xs =>
    induction u using Mine.AO.casesOn with
    | tup ys =>
      unfold eqOO at h
      dsimp only at h
      split at h
      · rename_i hl
        exact rc_tups hf hu k1 k2 k3 k4 (Nat.eq_of_beq_eq_true hl) h
      · exact no_some h
    | _ => exact (Option.some_ne_none _ h.symm).elim
  | lst xs =>
    induction u using Mine.AO.casesOn with
    | lst ys => exact rc_lsts hf hu k1 k2 k3 k4 h
    | _ => exact (Option.some_ne_none _ h.symm).elim
  | dct es n =>
    induction u using Mine.AO.casesOn with
    | dct fs m =>
      unfold eqOO at h
      dsimp only at h
      split at h
      · rename_i hb
        obtain ⟨b1, b2⟩ := an hb
        obtain rfl := nilB_is b1
        obtain rfl := nilB_is b2
        rw [← Option.some.inj h]
        exact rc_dcts hu k1 k2 k3 k4 w2 w4
      · exact no_some h
    | _ => exact (Option.some_ne_none _ h.symm).elim
  | _ => exact (Option.some_ne_none _ h.symm).elim
theorem Rel.sysN (R : Rel os0 h₀ L mp W σ s) {i : Nat} {o : AO} {a : Addr} (hi : σ.hp.get i = some o) (ha : W.ρ[i]? = some a) : (a == sysModules) = false := by
  obtain ⟨b, c, h1, _, _, _, h5⟩ := R.led i o hi
  rw [ha] at h1
  exact R.nosys (Option.some.inj h1 ▸ h5)
theorem eqO_ok (R : Rel os0 h₀ L mp W σ s) {A : Around} {f : AV → AV → Option Bool} (hf : ∀ a b ca cb r, VR W a ca → VR W b cb → f a b = some r → EqAt A.in1 s ca cb r) (hu : A.units < cLine) {i j : Nat} {x y : Addr} {r : Bool} (ea : W.ρ[i]? = some x) (eb : W.ρ[j]? = some y) (h : eqO f σ i j = some r) :
    (RcAt A s (.ref x) (.ref y) r ∧ RcNeAt A s (.ref x) (.ref y) (!r)) ∧ (i ≠ j → x ≠ y) := by
  unfold eqO at h
  split at h
  · rename_i o hi
    split at h
    · rename_i u hj
      obtain ⟨ci, k1, k2⟩ := R.ref hi ea
      obtain ⟨cj, k3, k4⟩ := R.ref hj eb
      refine ⟨eqOO_ok hf hu k1 k2 k3 k4 (R.sysN hi ea) (R.sysN hj eb) h, fun hne e => hne ?_⟩
      subst e
      exact R.inj i j o u hi hj (ea.trans eb.symm)
    · exact no_some h
  · exact no_some h
theorem seqN_ok (R : Rel os0 h₀ L mp W σ s) {A : Around} (hu : A.units < cLine) {i : Nat} {x : Addr} {r : Bool} (ea : W.ρ[i]? = some x) (h : (σ.hp.get i).bind seqN = some r) : Eq3 A s (.ref x) .none r := by
  obtain ⟨o, hi, h⟩ := Option.bind_eq_some_iff.mp h
  obtain ⟨ci, k1, k2⟩ := R.ref hi ea
  induction o using Mine.AO.casesOn with
  | tup xs =>
    obtain ⟨cx, hx, tx⟩ := tup_at k1 k2
    rw [← Option.some.inj h]
    exact ⟨EqAt.tuple_none tx hu, RcAt.tuple_none tx hu, RcNeAt.tuple_none tx hu⟩
  | lst xs =>
    obtain ⟨cx, hx, tx⟩ := lst_at k1 k2
    rw [← Option.some.inj h]
    exact ⟨EqAt.list_none tx hu, RcAt.list_none tx hu, RcNeAt.list_none tx hu⟩
  | _ => exact (Option.some_ne_none _ h.symm).elim
theorem eqA_ok (R : Rel os0 h₀ L mp W σ s) : ∀ (n : Nat) (A : Around), A.units + n < cLine → ∀ {a b : AV} {ca cb : Value} {r : Bool}, VR W a ca → VR W b cb → eqA n σ a b = some r → EqAt A s ca cb r
  | 0, _, _, _, _, _, _, _, _, _, h => (Option.some_ne_none _ h.symm).elim
  | n + 1, A, hu, a, b, ca, cb, r, ha, hb, h => by
    have hu0 : A.units < cLine := Nat.lt_of_le_of_lt (Nat.le_add_right _ _) hu
    unfold eqA at h
    split at h
    · rename_i q hq
      rw [← Option.some.inj h]
      exact (eqK_ok ha hb hq).e
    · induction a using Mine.AV.casesOn with
      | int x =>
        induction b using Mine.AV.casesOn with
        | int y =>
          apply ha.onInt; intro vx t ea
          apply hb.onInt; intro vy u eb
          have := IE.zero_is R.vars h (IE.ev_sub ea eb)
          have e : r = (vx == vy) := by
            rw [← this]
            by_cases q : vx = vy
            · rw [q, beq_self_eq_true, Int.sub_self]; rfl
            · rw [beq_eq_false_iff_ne.mpr q]; exact decide_eq_false fun z => q (Int.sub_eq_zero.mp z)
          rw [e]
          exact EqAt.int_int _ _ _ _
        | _ => exact (Option.some_ne_none _ h.symm).elim
      | loc i =>
        apply ha.onLoc; intro x ea
        induction b using Mine.AV.casesOn with
        | loc j =>
          apply hb.onLoc; intro y eb
          dsimp only at h
          split at h
          · rename_i hij
            rw [← Option.some.inj h]
            rw [Nat.eq_of_beq_eq_true hij, eb] at ea
            rw [Option.some.inj ea]
            exact EqAt.same _
          · rename_i hij
            obtain ⟨⟨g1, _⟩, g2⟩ := eqO_ok R (A := A) (fun x y cx cy q hx hy hq => eqA_ok R n A.in1 (by show A.units + 1 + n < cLine; omega) hx hy hq) hu0 ea eb h
            exact EqAt.of_refs (g2 fun e => by rw [e, Nat.beq_refl] at hij; exact ff hij.symm) g1
        | none =>
          obtain rfl := hb.inv
          exact (seqN_ok R hu0 ea h).e
        | _ => exact (Option.some_ne_none _ h.symm).elim
      | _ => exact (Option.some_ne_none _ h.symm).elim
end
end Mine

namespace Mine
open PySem PySem.W PySem.Calls PyProof.Rows PySem.SeqAt
set_option maxRecDepth 100000

noncomputable def rcA (n : Nat) (σ : St) (a b : AV) : Option Bool := match eqK a b with
  | some r => some r
  | none => match a with
    | .loc i => match b with
      | .loc j => eqO (eqA n σ) σ i j
      | .none => (σ.hp.get i).bind seqN
      | _ => none
    | _ => none
section
variable {os0 : (Array Nat → Int) × OsState} {h₀ : Gd} {L : Addr} {mp : Str → Option Value} {W : Wd} {σ : St} {s : Shared}
theorem rcA_ok (R : Rel os0 h₀ L mp W σ s) {n : Nat} {A : Around} (hu : A.units + 1 + n < cLine) {a b : AV} {ca cb : Value} {r : Bool} (ha : VR W a ca) (hb : VR W b cb) (h : rcA n σ a b = some r) : RcAt A s ca cb r ∧ RcNeAt A s ca cb (!r) := by
  have hu0 : A.units < cLine := by omega
  unfold rcA at h
  split at h
  · rename_i q hq
    rw [← Option.some.inj h]
    exact ⟨(eqK_ok ha hb hq).c, (eqK_ok ha hb hq).n⟩
  · induction a using Mine.AV.casesOn with
    | loc i =>
      apply ha.onLoc; intro x ea
      induction b using Mine.AV.casesOn with
      | loc j =>
        apply hb.onLoc; intro y eb
        exact (eqO_ok R (A := A) (fun x y cx cy q hx hy hq => eqA_ok R n A.in1 hu hx hy hq) hu0 ea eb h).1
      | none =>
        obtain rfl := hb.inv
        exact ⟨(seqN_ok R hu0 ea h).c, (seqN_ok R hu0 ea h).n⟩
      | _ => exact (Option.some_ne_none _ h.symm).elim
    | _ => exact (Option.some_ne_none _ h.symm).elim

noncomputable def isNone : AV → Option Bool
  | .none => some true
  | .pick _ _ => none
  | _ => some false
theorem isNone_is {v : AV} {c : Value} {b : Bool} (h : VR W v c) (q : isNone v = some b) : (c == .none) = b := by
  cases h <;> cases q <;> rfl

/-! ## one of these: which one is asked where it is looked at -/
noncomputable def isPick (v : AV) : Bool := AV.rec (motive_1 := fun _ => Bool) (motive_2 := fun _ => PUnit) (false) (fun _ => false) (fun _ => false) (fun _ => false) (fun _ => false) (fun _ => false) (fun _ => false) (fun _ => false) (fun _ => false) (fun _ => false) (fun _ _ _ => true) PUnit.unit (fun _ _ _ _ => PUnit.unit) v
noncomputable def kPlain (k : AV → St → Bool) (u : AV) (σ : St) : Bool := match isPick u with
  | true => false
  | false => k u σ
theorem kPlain_is {k : AV → St → Bool} {u : AV} {σ : St} (h : kPlain k u σ = true) : k u σ = true := by
  induction u using Mine.AV.casesOn <;> first | exact h | exact ff h
/-- the same plain thing -/
noncomputable def avEq1 (a b : AV) : Bool := match a with
  | .none => match b with
    | .none => true
    | _ => false
  | .bool x => match b with
    | .bool y => (match x with
      | true => y
      | false => !y)
    | _ => false
  | .int x => match b with
    | .int y => ieq x y
    | _ => false
  | .str x => match b with
    | .str y => sq x y
    | _ => false
  | .byts x => match b with
    | .byts y => beqBytes x y
    | _ => false
  | .bz x => match b with
    | .bz y => ieq x y
    | _ => false
  | .loc x => match b with
    | .loc y => Nat.beq x y
    | _ => false
  | .top x => match b with
    | .top y => Nat.beq x y
    | _ => false
  | _ => false
theorem avEq1_is {a b : AV} (h : avEq1 a b = true) : a = b := by
  induction a using Mine.AV.casesOn with
  | none => induction b using Mine.AV.casesOn <;> first | rfl | exact ff h
  | bool x =>
    induction b using Mine.AV.casesOn with
    | bool y => induction x using Bool.casesOn <;> induction y using Bool.casesOn <;> first | rfl | exact ff h
    | _ => exact ff h
  | int x =>
    induction b using Mine.AV.casesOn with
    | int y => rw [ieq_is h]
    | _ => exact ff h
  | str x =>
    induction b using Mine.AV.casesOn with
    | str y => rw [sq_eq h]
    | _ => exact ff h
  | byts x =>
    induction b using Mine.AV.casesOn with
    | byts y => rw [beq_iff_eq.mp ((beqBytes_is (x := x) (y := y)).symm.trans h)]
    | _ => exact ff h
  | bz x =>
    induction b using Mine.AV.casesOn with
    | bz y => rw [ieq_is h]
    | _ => exact ff h
  | loc x =>
    induction b using Mine.AV.casesOn with
    | loc y => rw [Nat.eq_of_beq_eq_true h]
    | _ => exact ff h
  | top x =>
    induction b using Mine.AV.casesOn with
    | top y => rw [Nat.eq_of_beq_eq_true h]
    | _ => exact ff h
  | _ => exact ff h
/-- one group of the same things: the places i .. j - 1 -/
noncomputable def oneG (e : IE) (σ : St) (k : AV → St → Bool) (u : AV) (i j : Int) : Bool := match (e.sub (IE.lit i)).neg? σ.vi with
  | some true => true
  | _ => match ((IE.lit (j - 1)).sub e).neg? σ.vi with
    | some true => true
    | _ => kPlain k u ((σ.isNeg (e.sub (IE.lit i)) false).isNeg (e.sub (IE.lit j)) true)
noncomputable def forkG (e : IE) (σ : St) (k : AV → St → Bool) : List AV → Int → Option (AV × Int) → Bool
  | [], j, cur => match cur with
    | none => true
    | some (u, i) => oneG e σ k u i j
  | v :: r, j, cur => match cur with
    | none => forkG e σ k r (j + 1) (some (v, j))
    | some (u, i) => match avEq1 v u with
      | true => forkG e σ k r (j + 1) (some (u, i))
      | false => oneG e σ k u i j && forkG e σ k r (j + 1) (some (v, j))
noncomputable def forceP (σ : St) (v : AV) (k : AV → St → Bool) : Bool := match v with
  | .pick e vs => match e.known σ.vi with
    | some n => match vs[n.toNat]? with
      | some u => kPlain k u σ
      | none => false
    | none => forkG e σ k vs 0 none
  | _ => false
noncomputable def forceA (σ : St) (v : AV) (k : AV → St → Bool) : Bool := match isPick v with
  | true => forceP σ v k
  | false => k v σ
theorem oneG_ok (R : Rel os0 h₀ L mp W σ s) {e : IE} {x : Int} (q : e.ev W.ι = some x) {k : AV → St → Bool} {u : AV} {i j : Int} (h1 : i ≤ x) (h2 : x < j) (h : oneG e σ k u i j = true) : ∃ σ', Rel os0 h₀ L mp W σ' s ∧ k u σ' = true := by
  have e1 := IE.ev_sub q (IE.ev_lit W.ι i)
  have e2 := IE.ev_sub (IE.ev_lit W.ι (j - 1)) q
  have e3 := IE.ev_sub q (IE.ev_lit W.ι j)
  have fin : kPlain k u ((σ.isNeg (e.sub (IE.lit i)) false).isNeg (e.sub (IE.lit j)) true) = true → ∃ σ', Rel os0 h₀ L mp W σ' s ∧ k u σ' = true := fun hh => by
    have R1 := R.vars' (St.isNeg_same _ _ _) (St.isNeg_ok R.vars e1 (b := false) (decide_eq_false (by omega)))
    have R2 := R1.vars' (St.isNeg_same _ _ _) (St.isNeg_ok R1.vars e3 (b := true) (decide_eq_true (by omega)))
    exact ⟨_, R2, kPlain_is hh⟩
  unfold oneG at h
  split at h
  · rename_i hn
    have := IE.neg_is R.vars hn e1
    have := of_decide_eq_true this
    omega
  · split at h
    · rename_i hn
      have := IE.neg_is R.vars hn e2
      have := of_decide_eq_true this
      omega
    · exact fin h
theorem forkG_ok (R : Rel os0 h₀ L mp W σ s) {e : IE} {x : Int} (q : e.ev W.ι = some x) {k : AV → St → Bool} {v : AV} : ∀ {l : List AV} {j : Int} {cur : Option (AV × Int)}, (∀ u i, cur = some (u, i) → i ≤ j) → ((j ≤ x ∧ l[(x - j).toNat]? = some v) ∨ ∃ i, cur = some (v, i) ∧ i ≤ x ∧ x < j) → forkG e σ k l j cur = true → ∃ σ', Rel os0 h₀ L mp W σ' s ∧ k v σ' = true
  | [], j, cur, _, hc, h => by
    rcases hc with ⟨_, hl⟩ | ⟨i, rfl, h1, h2⟩
    · simp at hl
    · exact oneG_ok R q h1 h2 h
  | u :: r, j, cur, hcur, hc, h => by
    unfold forkG at h
    have next : ∀ cur', j ≤ x → (u :: r)[(x - j).toNat]? = some v → (x = j → u = v → ∃ i, cur' = some (v, i) ∧ i ≤ x ∧ x < j + 1) → ((j + 1 ≤ x ∧ r[(x - (j + 1)).toNat]? = some v) ∨ ∃ i, cur' = some (v, i) ∧ i ≤ x ∧ x < j + 1) := by
      intro cur' hj hl hh
      by_cases hx : x = j
      · rw [hx, show (j - j).toNat = 0 by omega] at hl
        simp only [List.getElem?_cons_zero, Option.some.injEq] at hl
        exact .inr (hh hx hl)
      · refine .inl ⟨by omega, ?_⟩
        rw [show (x - j).toNat = (x - (j + 1)).toNat + 1 by omega, List.getElem?_cons_succ] at hl
        exact hl
    have hown : ∀ (u' : AV) (i' : Int), some (u, j) = some (u', i') → i' ≤ j + 1 := fun _ _ e => by cases e; omega
    induction cur using Option.casesOn with
    | none =>
      rcases hc with ⟨hj, hl⟩ | ⟨i, hi, _⟩
      · exact forkG_ok R q hown (next _ hj hl fun hx hu => ⟨j, by rw [hu], by omega, by omega⟩) h
      · exact no_some hi
    | some p =>
      obtain ⟨w, i⟩ := p
      have hij := hcur w i rfl
      dsimp only at h
      cases ha : avEq1 u w with
      | true =>
        rw [ha] at h
        have hw := avEq1_is ha
        subst hw
        have hcur' : ∀ (u' : AV) (i' : Int), some (u, i) = some (u', i') → i' ≤ j + 1 := fun _ _ e => by cases e; omega
        rcases hc with ⟨hj, hl⟩ | ⟨i', hi, h1, h2⟩
        · exact forkG_ok R q hcur' (next _ hj hl fun hx hu => ⟨i, by rw [hu], by omega, by omega⟩) h
        · cases hi
          exact forkG_ok R q hcur' (.inr ⟨i, rfl, h1, by omega⟩) h
      | false =>
        rw [ha] at h
        obtain ⟨g1, g2⟩ := Bool.and_eq_true_iff.mp h
        rcases hc with ⟨hj, hl⟩ | ⟨i', hi, h1, h2⟩
        · exact forkG_ok R q hown (next _ hj hl fun hx hu => ⟨j, by rw [hu], by omega, by omega⟩) g2
        · cases hi
          exact oneG_ok R q h1 h2 g1
theorem forceA_ok (R : Rel os0 h₀ L mp W σ s) {v : AV} {c : Value} {k : AV → St → Bool} (hv : VR W v c) (h : forceA σ v k = true) : ∃ v' σ', Rel os0 h₀ L mp W σ' s ∧ VR W v' c ∧ k v' σ' = true := by
  unfold forceA at h
  cases hv with
  | pick e1 e2 e3 e4 =>
    rename_i e x vs v
    replace h : (match e.known σ.vi with
      | some n => match vs[n.toNat]? with
        | some u => kPlain k u σ
        | none => false
      | none => forkG e σ k vs 0 none) = true := h
    cases hk : e.known σ.vi with
    | some n =>
      rw [hk] at h
      have := IE.known_is R.vars hk e1
      subst this
      dsimp only at h
      rw [e3] at h
      exact ⟨v, σ, R, e4, kPlain_is h⟩
    | none =>
      rw [hk] at h
      obtain ⟨σ', R', hk'⟩ := forkG_ok R e1 (fun _ _ e => by exact no_some e) (.inl ⟨e2, by simpa using e3⟩) h
      exact ⟨v, σ', R', e4, hk'⟩
  | _ => exact ⟨_, σ, R, by constructor <;> assumption, h⟩

/-! ## a value as a key -/
noncomputable def kdP (a b : Option KD) : Option KD := match a with
  | some x => match b with
    | some y => some (.p x y)
    | none => none
  | none => none
theorem kdP_is {a b : Option KD} {k : KD} (h : kdP a b = some k) : ∃ x y, a = some x ∧ b = some y ∧ k = .p x y := by
  induction a using Option.casesOn with
  | none => exact (Option.some_ne_none _ h.symm).elim
  | some x =>
    induction b using Option.casesOn with
    | none => exact (Option.some_ne_none _ h.symm).elim
    | some y => exact ⟨x, y, rfl, rfl, (Option.some.inj h).symm⟩
noncomputable def kdT (f : AV → Option KD) (vs : List AV) : Option KD := match vs with
  | [] => none
  | a :: r => match r with
    | [] => none
    | b :: t => match t with
      | [] => kdP (f a) (f b)
      | _ :: _ => none
theorem kdT_is {f : AV → Option KD} {vs : List AV} {k : KD} (h : kdT f vs = some k) : ∃ a b x y, vs = [a, b] ∧ f a = some x ∧ f b = some y ∧ k = .p x y := by
  induction vs using List.casesOn with
  | nil => exact (Option.some_ne_none _ h.symm).elim
  | cons a r =>
    induction r using List.casesOn with
    | nil => exact (Option.some_ne_none _ h.symm).elim
    | cons b t =>
      induction t using List.casesOn with
      | nil => obtain ⟨x, y, h1, h2, h3⟩ := kdP_is h; exact ⟨a, b, x, y, rfl, h1, h2, h3⟩
      | cons _ _ => exact (Option.some_ne_none _ h.symm).elim
noncomputable def tupOf (o : AO) : Option (List AV) := AO.rec (motive := fun _ => Option (List AV)) (fun x => some x) (fun _ => none) (fun _ _ => none) (fun _ => none) (fun _ _ => none) (fun _ _ => none) (fun _ _ => none) (fun _ _ => none) (fun _ _ => none) (fun _ _ => none) (fun _ _ _ _ => none) (fun _ => none) (fun _ => none) (fun _ => none) o
theorem tupOf_is {o : AO} {vs : List AV} (h : tupOf o = some vs) : o = .tup vs := by
  induction o using Mine.AO.casesOn <;> first | exact (Option.some_ne_none _ h.symm).elim | rw [Option.some.inj h]
noncomputable def onInt (v : AV) (k : IE → Bool) : Bool := AV.rec (motive_1 := fun _ => (IE → Bool) → Bool) (motive_2 := fun _ => PUnit) (fun _ => false) (fun _ _ => false) (fun x k => k x) (fun _ _ => false) (fun _ _ => false) (fun _ _ => false) (fun _ _ => false) (fun _ _ => false) (fun _ _ => false) (fun _ _ => false) (fun _ _ _ _ => false) PUnit.unit (fun _ _ _ _ => PUnit.unit) v k
theorem onInt_is {v : AV} {k : IE → Bool} (h : onInt v k = true) : ∃ e, v = .int e ∧ k e = true := by
  induction v using Mine.AV.casesOn <;> first | exact ff h | exact ⟨_, rfl, h⟩
noncomputable def onLoc (v : AV) (k : Nat → Bool) : Bool := AV.rec (motive_1 := fun _ => (Nat → Bool) → Bool) (motive_2 := fun _ => PUnit) (fun _ => false) (fun _ _ => false) (fun _ _ => false) (fun _ _ => false) (fun _ _ => false) (fun _ _ => false) (fun x k => k x) (fun _ _ => false) (fun _ _ => false) (fun _ _ => false) (fun _ _ _ _ => false) PUnit.unit (fun _ _ _ _ => PUnit.unit) v k
theorem onLoc_is {v : AV} {k : Nat → Bool} (h : onLoc v k = true) : ∃ e, v = .loc e ∧ k e = true := by
  induction v using Mine.AV.casesOn <;> first | exact ff h | exact ⟨_, rfl, h⟩
noncomputable def onInst (o : AO) (k : Addr → Nat → Bool) : Bool := AO.rec (motive := fun _ => (Addr → Nat → Bool) → Bool) (fun _ _ => false) (fun _ _ => false) (fun C d k => k C d) (fun _ _ => false) (fun _ _ _ => false) (fun _ _ _ => false) (fun _ _ _ => false) (fun _ _ _ => false) (fun _ _ _ => false) (fun _ _ _ => false) (fun _ _ _ _ _ => false) (fun _ _ => false) (fun _ _ => false) (fun _ _ => false) o k
theorem onInst_is {o : AO} {k : Addr → Nat → Bool} (h : onInst o k = true) : ∃ C d, o = .inst C d ∧ k C d = true := by
  induction o using Mine.AO.casesOn <;> first | exact ff h | exact ⟨_, _, rfl, h⟩
noncomputable def onNs (o : AO) (k : List (Str × AV) → Bool) : Bool := AO.rec (motive := fun _ => (List (Str × AV) → Bool) → Bool) (fun _ _ => false) (fun _ _ => false) (fun _ _ _ => false) (fun x k => k x) (fun _ _ _ => false) (fun _ _ _ => false) (fun _ _ _ => false) (fun _ _ _ => false) (fun _ _ _ => false) (fun _ _ _ => false) (fun _ _ _ _ _ => false) (fun _ _ => false) (fun _ _ => false) (fun _ _ => false) o k
theorem onNs_is {o : AO} {k : List (Str × AV) → Bool} (h : onNs o k = true) : ∃ e, o = .ns e ∧ k e = true := by
  induction o using Mine.AO.casesOn <;> first | exact ff h | exact ⟨_, rfl, h⟩
noncomputable def lstOf (o : AO) : Option (List AV) := AO.rec (motive := fun _ => Option (List AV)) (fun _ => none) (fun x => some x) (fun _ _ => none) (fun _ => none) (fun _ _ => none) (fun _ _ => none) (fun _ _ => none) (fun _ _ => none) (fun _ _ => none) (fun _ _ => none) (fun _ _ _ _ => none) (fun _ => none) (fun _ => none) (fun _ => none) o
theorem lstOf_is {o : AO} {vs : List AV} (h : lstOf o = some vs) : o = .lst vs := by
  induction o using Mine.AO.casesOn <;> first | exact no_some h | rw [Option.some.inj h]
noncomputable def nsOf (o : AO) : Option (List (Str × AV)) := AO.rec (motive := fun _ => Option (List (Str × AV))) (fun _ => none) (fun _ => none) (fun _ _ => none) (fun x => some x) (fun _ _ => none) (fun _ _ => none) (fun _ _ => none) (fun _ _ => none) (fun _ _ => none) (fun _ _ => none) (fun _ _ _ _ => none) (fun _ => none) (fun _ => none) (fun _ => none) o
theorem nsOf_is {o : AO} {vs : List (Str × AV)} (h : nsOf o = some vs) : o = .ns vs := by
  induction o using Mine.AO.casesOn <;> first | exact no_some h | rw [Option.some.inj h]
noncomputable def barOf (o : AO) : Option (List UInt8) := match o with
  | .barr vs => some vs
  | _ => none
theorem barOf_is {o : AO} {vs : List UInt8} (h : barOf o = some vs) : o = .barr vs := by
  induction o using Mine.AO.casesOn <;> first | exact no_some h | rw [Option.some.inj h]
noncomputable def envOf (o : AO) : Option (List (Str × AV)) := AO.rec (motive := fun _ => Option (List (Str × AV))) (fun _ => none) (fun _ => none) (fun _ _ => none) (fun _ => none) (fun _ _ => none) (fun _ _ => none) (fun _ _ => none) (fun _ _ => none) (fun _ _ => none) (fun _ _ => none) (fun _ _ _ _ => none) (fun _ => none) (fun _ => none) (fun x => some x) o
theorem envOf_is {o : AO} {vs : List (Str × AV)} (h : envOf o = some vs) : o = .env vs := by
  induction o using Mine.AO.casesOn <;> first | exact no_some h | rw [Option.some.inj h]
noncomputable def celOf (o : AO) : Option (Option AV) := AO.rec (motive := fun _ => Option (Option AV)) (fun _ => none) (fun _ => none) (fun _ _ => none) (fun _ => none) (fun _ _ => none) (fun _ _ => none) (fun _ _ => none) (fun _ _ => none) (fun _ _ => none) (fun _ _ => none) (fun _ _ _ _ => none) (fun x => some x) (fun _ => none) (fun _ => none) o
theorem celOf_is {o : AO} {v : Option AV} (h : celOf o = some v) : o = .cell v := by
  induction o using Mine.AO.casesOn <;> first | exact no_some h | rw [Option.some.inj h]
theorem at_is {σ : St} {l : Nat} {α : Type} {f : AO → Option α} {C : α → AO} {x : α} (hf : ∀ {o x}, f o = some x → o = C x) (h : (σ.hp.get l).bind f = some x) : σ.hp.get l = some (C x) := by
  obtain ⟨o, h1, h2⟩ := someBind h
  rw [h1, hf h2]
noncomputable def kdOf : Nat → St → AV → Option KD
  | 0, _, _ => none
  | n + 1, σ, v => match v with
    | .int e => match e.known σ.vi with
      | some x => some (.i x)
      | none => none
    | .str x => some (.s x)
    | .loc l => ((σ.hp.get l).bind tupOf).bind (kdT (kdOf n σ))
    | _ => none
theorem kdOf_ok (R : Rel os0 h₀ L mp W σ s) : ∀ {n : Nat} {v : AV} {c : Value} {k : KD}, VR W v c → kdOf n σ v = some k → KIs s.heap k c
  | 0, _, _, _, _, h => (Option.some_ne_none _ h.symm).elim
  | n + 1, v, c, k, hv, h => by
    induction v using Mine.AV.casesOn with
    | int e =>
      apply hv.onInt; intro x t q
      unfold kdOf at h
      dsimp only at h
      split at h
      · rename_i y hk
        rw [← Option.some.inj h, IE.known_is R.vars hk q]
        exact ⟨_, rfl⟩
      · exact (Option.some_ne_none _ h.symm).elim
    | str x =>
      apply hv.onStr; intro t
      rw [← Option.some.inj h]
      exact ⟨_, rfl⟩
    | loc l =>
      apply hv.onLoc; intro a ea
      obtain ⟨vs, h1, h2⟩ := someBind (show ((σ.hp.get l).bind tupOf).bind (kdT (kdOf n σ)) = some k from h)
      obtain ⟨o, h3, h4⟩ := someBind h1
      rw [tupOf_is h4] at h3
      obtain ⟨a1, b1, x, y, rfl, g1, g2, rfl⟩ := kdT_is h2
      obtain ⟨ci, k1, k2⟩ := R.ref h3 ea
      obtain ⟨cx, hx, tx⟩ := tup_at k1 k2
      obtain ⟨_, _, rfl, q1, hx⟩ := hx.inv
      obtain ⟨_, _, rfl, q2, hx⟩ := hx.inv
      obtain rfl := hx.inv
      exact ⟨_, _, _, rfl, tx, kdOf_ok R q1 g1, kdOf_ok R q2 g2⟩
    | _ => exact (Option.some_ne_none _ h.symm).elim
noncomputable def entsOK (σ : St) (c : Nat) : List (KD × AV × AV) → Bool
  | [] => true
  | f :: r => match kdOf 4 σ f.2.1 with
    | some k => kdq k f.1 && (Nat.beq f.1.cls c && entsOK σ c r)
    | none => false
theorem entsOK_ok {hs : Array Nat → Int} (R : Rel os0 h₀ L mp W σ s) (hw : W.hs = hs) {c : Nat} : ∀ {es : List (KD × AV × AV)} {ds : List DictEntry}, All2 (DR W) es ds → entsOK σ c es = true → All2 (KE s.heap hs) (es.map (·.1)) ds ∧ ∀ k ∈ es.map (·.1), k.cls = c
  | [], ds, hd, _ => by
    obtain rfl := hd.inv
    exact ⟨.nil, fun _ h => absurd h List.not_mem_nil⟩
  | f :: es, ds, hd, h => by
    apply hd.onCons; intro e r q t
    unfold entsOK at h
    split at h
    · rename_i k hk
      obtain ⟨h1, h2⟩ := an h
      obtain ⟨h2, h3⟩ := an h2
      rw [kdq_is] at h1
      have h1 := of_decide_eq_true h1
      obtain ⟨g1, g2⟩ := entsOK_ok R hw t h3
      subst h1
      refine ⟨.cons ⟨kdOf_ok R q.key hk, hw ▸ q.hash, q.dep⟩ g1, fun k hm => ?_⟩
      rcases List.mem_cons.mp hm with rfl | hm
      · exact Nat.eq_of_beq_eq_true h2
      · exact g2 k hm
    · exact ff h
/-- a dict asked by a key -/
noncomputable def dctOf (o : AO) : Option (List (KD × AV × AV) × Nat) := AO.rec (motive := fun _ => Option (List (KD × AV × AV) × Nat)) (fun _ => none) (fun _ => none) (fun _ _ => none) (fun _ => none) (fun x n => some (x, n)) (fun _ _ => none) (fun _ _ => none) (fun _ _ => none) (fun _ _ => none) (fun _ _ => none) (fun _ _ _ _ => none) (fun _ => none) (fun _ => none) (fun _ => none) o
theorem dctOf_is {o : AO} {q : List (KD × AV × AV) × Nat} (h : dctOf o = some q) : o = .dct q.1 q.2 := by
  induction o using Mine.AO.casesOn <;> first | exact (Option.some_ne_none _ h.symm).elim | rw [← Option.some.inj h]
noncomputable def askD (σ : St) (v : AV) (q : List (KD × AV × AV) × Nat) : Option (List (KD × AV × AV) × Nat × KD × Option Nat) := match kdOf 4 σ v with
  | some k => match Nat.ble k.dep 8 && entsOK σ k.cls q.1 with
    | true => some (q.1, q.2, k, kfind k (q.1.map (·.1)))
    | false => none
  | none => none
noncomputable def askA (σ : St) (l : Nat) (v : AV) : Option (List (KD × AV × AV) × Nat × KD × Option Nat) := ((σ.hp.get l).bind dctOf).bind (askD σ v)
theorem askA_ok {prog : Program} {w : World} {A : Around} (hw : os0.1 = w.params.strHash) (R : Rel os0 h₀ L mp W σ s) (hu : A.units + 8 < cLine) {l : Nat} {a : Addr} {v : AV} {c : Value} {es : List (KD × AV × AV)} {n : Nat} {k : KD} {r : Option Nat} (ea : W.ρ[l]? = some a) (hv : VR W v c) (h : askA σ l v = some (es, n, k, r)) :
    ∃ ds, σ.hp.get l = some (.dct es n) ∧ All2 (DR W) es ds ∧ (es.map (·.1)).Nodup ∧ s.heap.get? a = some (dictOf ds n) ∧ (a == sysModules) = false ∧ k.dep ≤ 8 ∧ r = kfind k (es.map (·.1)) ∧ khash W.hs k = khash w.params.strHash k ∧ KAt prog w A s a ds n c (khash w.params.strHash k) k.drw r := by
  obtain ⟨q, h1, h2⟩ := someBind h
  obtain ⟨o, h3, h4⟩ := someBind h1
  rw [dctOf_is h4] at h3
  unfold askD at h2
  split at h2
  · rename_i k' hk
    split at h2
    · rename_i hb
      obtain ⟨q1, e⟩ := Prod.mk.inj (Option.some.inj h2)
      obtain ⟨q2, e⟩ := Prod.mk.inj e
      obtain ⟨q3, q4⟩ := Prod.mk.inj e
      subst q1 q2 q3 q4
      obtain ⟨b1, b2⟩ := an hb
      obtain ⟨ci, k1, k2⟩ := R.ref h3 ea
      obtain ⟨_, rfl, hd, nd⟩ := k1.inv
      obtain ⟨g1, g2⟩ := entsOK_ok R (R.par.trans hw) hd b2
      exact ⟨_, h3, hd, nd, k2, R.sysN h3 ea, Nat.le_of_ble_eq_true b1, rfl, by rw [R.par, hw], KAt.of k2 g1 nd g2 hu (kdOf_ok R hv hk) (Nat.le_of_ble_eq_true b1)⟩
    · exact (Option.some_ne_none _ h2.symm).elim
  · exact (Option.some_ne_none _ h2.symm).elim
/-- in a list or a tuple -/
noncomputable def inL (n : Nat) (σ : St) (x : AV) : List AV → Option Bool
  | [] => some false
  | v :: r => match eqA n σ v x with
    | some a => match inL n σ x r with
      | some b => some (a || b)
      | none => none
    | none => none
theorem inL_ok (R : Rel os0 h₀ L mp W σ s) {n : Nat} {A : Around} (hu : A.units + n < cLine) {x : AV} {cx : Value} (hx : VR W x cx) : ∀ {vs : List AV} {cs : List Value} {r : Bool}, All2 (VR W) vs cs → inL n σ x vs = some r → (r = true → ∃ y ∈ cs, EqAt A s y cx true) ∧ (r = false → ∀ y ∈ cs, EqAt A s y cx false) ∧ ∀ y ∈ cs, EqAt A s y cx true ∨ EqAt A s y cx false
  | _, _, _, .nil, h => by
    obtain rfl := Option.some.inj h
    exact ⟨fun h => (by exact ff h), fun _ y hy => absurd hy List.not_mem_nil, fun y hy => absurd hy List.not_mem_nil⟩
  | v :: vs, c :: cs, r, .cons q t, h => by
    unfold inL at h
    cases h1 : eqA n σ v x with
    | none => rw [h1] at h; exact no_some h
    | some a =>
      rw [h1] at h
      dsimp only at h
      cases h2 : inL n σ x vs with
      | none => rw [h2] at h; exact no_some h
      | some b =>
        rw [h2] at h
        obtain rfl := Option.some.inj h
        have e := eqA_ok R n A hu q hx h1
        obtain ⟨g1, g2, g3⟩ := inL_ok R hu hx t h2
        refine ⟨fun h => ?_, fun h y hy => ?_, fun y hy => ?_⟩
        · induction a using Bool.casesOn with
          | true => exact ⟨c, .head _, e⟩
          | false => obtain ⟨y, hy, hq⟩ := g1 h; exact ⟨y, .tail _ hy, hq⟩
        · induction a using Bool.casesOn with
          | true => exact ff h.symm
          | false =>
            rcases List.mem_cons.mp hy with rfl | hy
            · exact e
            · exact g2 h y hy
        · rcases List.mem_cons.mp hy with rfl | hy
          · induction a using Bool.casesOn with
            | true => exact .inl e
            | false => exact .inr e
          · exact g3 y hy
theorem inL_fun (R : Rel os0 h₀ L mp W σ s) {n : Nat} {A : Around} (hu : A.units + n < cLine) {x : AV} {cx : Value} (hx : VR W x cx) {vs : List AV} {cs : List Value} {r : Bool} (hv : All2 (VR W) vs cs) (h : inL n σ x vs = some r) : ∃ e : Value → Bool, (∀ y, y ∈ cs.toArray → EqAt A s y cx (e y)) ∧ cs.toArray.any e = r := by
  classical
  obtain ⟨g1, g2, g3⟩ := inL_ok R hu hx hv h
  induction r using Bool.casesOn with
  | false =>
    refine ⟨fun _ => false, fun y hy => g2 rfl y (by simpa using hy), ?_⟩
    simp
  | true =>
    obtain ⟨z, hz, hq⟩ := g1 rfl
    refine ⟨fun y => decide (EqAt A s y cx true), fun y hy => ?_, ?_⟩
    · show EqAt A s y cx (decide (EqAt A s y cx true))
      by_cases q : EqAt A s y cx true
      · rw [decide_eq_true q]; exact q
      · rw [decide_eq_false q]
        exact (g3 y (by simpa using hy)).resolve_left q
    · simp only [List.any_toArray, List.any_eq_true]
      exact ⟨z, hz, decide_eq_true hq⟩
noncomputable def inA (σ : St) (a b : AV) : Option Bool := match b with
  | .loc l => match σ.hp.get l with
    | some (.tup vs) => inL 30 σ a vs
    | some (.lst vs) => inL 30 σ a vs
    | some (.dct _ _) => (askA σ l a).map fun q => q.2.2.2.isSome
    | _ => none
  | _ => none
/-- an int below another one: both ways where it is open -/
noncomputable def ltA (σ : St) (a b : IE) (k : Bool → St → Bool) : Bool :=
  let d := a.sub b
  match d.neg? σ.vi with
  | some r => k r σ
  | none => k true (σ.isNeg d true) && k false (σ.isNeg d false)
theorem ltA_ok (R : Rel os0 h₀ L mp W σ s) {a b : IE} {x y : Int} {k : Bool → St → Bool} (ha : a.ev W.ι = some x) (hb : b.ev W.ι = some y) (h : ltA σ a b k = true) : ∃ σ', Rel os0 h₀ L mp W σ' s ∧ k (decide (x < y)) σ' = true := by
  unfold ltA at h
  have hd := IE.ev_sub ha hb
  have e : decide (x - y < 0) = decide (x < y) := by
    by_cases q : x < y
    · rw [decide_eq_true q, decide_eq_true (by omega)]
    · rw [decide_eq_false q, decide_eq_false (by omega)]
  dsimp only at h
  cases hn : (a.sub b).neg? σ.vi with
  | some r =>
    rw [hn] at h
    have := IE.neg_is R.vars hn hd
    exact ⟨σ, R, by rw [← e, this]; exact h⟩
  | none =>
    rw [hn] at h
    obtain ⟨h1, h2⟩ := Bool.and_eq_true_iff.mp h
    cases q : decide (x < y) with
    | true => exact ⟨_, R.vars' (St.isNeg_same _ _ _) (St.isNeg_ok R.vars hd (by rw [e, q])), h1⟩
    | false => exact ⟨_, R.vars' (St.isNeg_same _ _ _) (St.isNeg_ok R.vars hd (by rw [e, q])), h2⟩
noncomputable def zeroA (σ : St) (d : IE) (k : Bool → St → Bool) : Bool :=
  match d.zero? σ.vi with
  | some r => k r σ
  | none => k true (σ.isZero d) && k false σ
theorem zeroA_ok (R : Rel os0 h₀ L mp W σ s) {d : IE} {x : Int} {k : Bool → St → Bool} (hd : d.ev W.ι = some x) (h : zeroA σ d k = true) : ∃ σ', Rel os0 h₀ L mp W σ' s ∧ k (decide (x = 0)) σ' = true := by
  unfold zeroA at h
  cases hn : d.zero? σ.vi with
  | some r =>
    rw [hn] at h
    have := IE.zero_is R.vars hn hd
    exact ⟨σ, R, by rw [this]; exact h⟩
  | none =>
    rw [hn] at h
    obtain ⟨h1, h2⟩ := Bool.and_eq_true_iff.mp h
    by_cases q : x = 0
    · exact ⟨_, R.vars' (St.isZero_same _ _) (St.isZero_ok R.vars hd q), by rw [decide_eq_true q]; exact h1⟩
    · exact ⟨σ, R, by rw [decide_eq_false q]; exact h2⟩

noncomputable def cmpIs (σ : St) (ne : Bool) (a b : AV) (k : AV → St → Bool) : Bool := match b with
  | .none => match isNone a with
    | some r => k (.bool (xor ne r)) σ
    | none => false
  | _ => false
noncomputable def int2 (a b : AV) (k : IE → IE → Bool) (e : Unit → Bool) : Bool := match a with
  | .int x => match b with
    | .int y => k x y
    | _ => e ()
  | _ => e ()
theorem int2_is {a b : AV} {k : IE → IE → Bool} {e : Unit → Bool} (h : int2 a b k e = true) : (∃ x y, a = .int x ∧ b = .int y ∧ k x y = true) ∨ e () = true := by
  induction a using Mine.AV.casesOn with
  | int x =>
    induction b using Mine.AV.casesOn with
    | int y => exact .inl ⟨x, y, rfl, rfl, h⟩
    | _ => exact .inr h
  | _ => exact .inr h
noncomputable def cmpRc (σ : St) (ne : Bool) (a b : AV) (k : AV → St → Bool) : Bool := match rcA 30 σ a b with
  | some r => k (.bool (xor ne r)) σ
  | none => false
noncomputable def cmpEq (σ : St) (ne : Bool) (a b : AV) (k : AV → St → Bool) : Bool := int2 a b (fun x y => zeroA σ (x.sub y) fun r σ' => k (.bool (xor ne r)) σ') fun _ => cmpRc σ ne a b k
/-- a below b (or, turned, not above) -/
noncomputable def cmpLt (σ : St) (ne : Bool) (a b : AV) (k : AV → St → Bool) : Bool := int2 a b (fun x y => ltA σ x y fun r σ' => k (.bool (xor ne r)) σ') fun _ => false
noncomputable def cmpIn (σ : St) (ne : Bool) (a b : AV) (k : AV → St → Bool) : Bool := match inA σ a b with
  | some r => k (.bool (xor ne r)) σ
  | none => false
noncomputable def cmpB (σ : St) (op : CmpOp) (a b : AV) (k : AV → St → Bool) : Bool := match op with
  | .Is => cmpIs σ false a b k
  | .IsNot => cmpIs σ true a b k
  | .Eq => cmpEq σ false a b k
  | .NotEq => cmpEq σ true a b k
  | .Lt => cmpLt σ false a b k
  | .Gt => cmpLt σ false b a k
  | .LtE => cmpLt σ true b a k
  | .GtE => cmpLt σ true a b k
  | .In => cmpIn σ false a b k
  | .NotIn => cmpIn σ true a b k
theorem cmpEq_is {ne : Bool} {a b : AV} {k : AV → St → Bool} (h : cmpEq σ ne a b k = true) : (∃ x y, a = .int x ∧ b = .int y ∧ zeroA σ (x.sub y) (fun r σ' => k (.bool (xor ne r)) σ') = true) ∨ cmpRc σ ne a b k = true := int2_is h
variable {prog : Program} {w : World} {A : Around} {E : Value → Shared → Prop}
theorem xor_f (r : Bool) : xor false r = r := by induction r using Bool.casesOn <;> rfl
theorem xor_t (r : Bool) : xor true r = !r := by induction r using Bool.casesOn <;> rfl
theorem inS_ok (R : Rel os0 h₀ L mp W σ s) (hu : A.units + 40 < cLine) {a : AV} {ca : Value} {vs : List AV} {cs : List Value} {r : Bool} (ha : VR W a ca) (hx : All2 (VR W) vs cs) (h : inL 30 σ a vs = some r) : ∃ e : Value → Bool, (∀ y, y ∈ cs.toArray → EqAt A.in1 s y ca (e y)) ∧ cs.toArray.any e = r :=
  inL_fun R (A := A.in1) (by show A.units + 1 + 30 < cLine; omega) ha hx h
theorem inA_ok (hw : os0.1 = w.params.strHash) (R : Rel os0 h₀ L mp W σ s) (hu : A.units + 40 < cLine) {a b : AV} {ca cb : Value} {r : Bool} (ha : VR W a ca) (hb : VR W b cb) (h : inA σ a b = some r) :
    (∀ {Q : Value → Shared → Prop}, (∀ s', Rel os0 h₀ L mp W σ s' → Q (.bool r) s') → wpAny (model prog w) A (compareOp .In ca cb) Q E s) ∧ ∀ {Q : Value → Shared → Prop}, (∀ s', Rel os0 h₀ L mp W σ s' → Q (.bool (!r)) s') → wpAny (model prog w) A (compareOp .NotIn ca cb) Q E s := by
  induction b using Mine.AV.casesOn with
  | loc l =>
    apply hb.onLoc; intro x ea
    unfold inA at h
    dsimp only at h
    cases hl : σ.hp.get l with
    | none => rw [hl] at h; exact (Option.some_ne_none _ h.symm).elim
    | some o =>
      rw [hl] at h
      obtain ⟨ci, k1, k2⟩ := R.ref hl ea
      induction o using Mine.AO.casesOn with
      | tup vs =>
        obtain ⟨cx, hx, tx⟩ := tup_at k1 k2
        obtain ⟨e, he, hr⟩ := inS_ok R hu ha hx h
        exact ⟨fun hQ => in_tupleAt e tx he (by rw [hr]; exact hQ _ R), fun hQ => notIn_tupleAt e tx he (by rw [hr]; exact hQ _ R)⟩
      | lst vs =>
        obtain ⟨cx, hx, tx⟩ := lst_at k1 k2
        obtain ⟨e, he, hr⟩ := inS_ok R hu ha hx h
        exact ⟨fun hQ => in_listAt e tx he (by rw [hr]; exact hQ _ R), fun hQ => notIn_listAt e tx he (by rw [hr]; exact hQ _ R)⟩
      | dct es n =>
        obtain ⟨⟨es, n, k, r'⟩, hk, rfl⟩ := Option.map_eq_some_iff.mp (show ((askA σ l a).map fun q => q.2.2.2.isSome) = some r from h)
        obtain ⟨ds, _, _, _, _, ns, _, _, _, K⟩ := askA_ok (prog := prog) (A := A.in1) hw R (by show A.units + 1 + 8 < cLine; omega) ea ha hk
        exact ⟨fun hQ => wpAny_bind (raw_in K ns (wpAny_pure (hQ _ (R.toks _)))), fun hQ => wpAny_bind (raw_in K ns (wpAny_pure (hQ _ (R.toks _))))⟩
      | _ => exact (Option.some_ne_none _ h.symm).elim
  | _ => exact (Option.some_ne_none _ h.symm).elim
section
variable {a b : AV} {ca cb : Value} {k : AV → St → Bool} {Q : Value → Shared → Prop} {ne : Bool} (R : Rel os0 h₀ L mp W σ s) (hu : A.units + 40 < cLine) (ha : VR W a ca) (hb : VR W b cb) (hQ : ∀ σ' v c s', Rel os0 h₀ L mp W σ' s' → VR W v c → k v σ' = true → Q c s')
include R ha hb hQ
theorem cmpIs_ok (h : cmpIs σ ne a b k = true) : cb = .none ∧ Q (.bool (xor ne (ca == .none))) s := by
  induction b using Mine.AV.casesOn with
  | none =>
    obtain rfl := hb.inv
    unfold cmpIs at h
    dsimp only at h
    split at h
    · rename_i r hn
      exact ⟨rfl, by rw [isNone_is ha hn]; exact hQ _ _ _ _ R (.bool _) h⟩
    · exact ff h
  | _ => exact ff h
include hu in
theorem cmpRc_ok (h : cmpRc σ ne a b k = true) : ∃ r, RcAt A s ca cb r ∧ RcNeAt A s ca cb (!r) ∧ Q (.bool (xor ne r)) s := by
  unfold cmpRc at h
  split at h
  · rename_i r hr
    obtain ⟨g1, g2⟩ := rcA_ok (A := A) R (by omega) ha hb hr
    exact ⟨r, g1, g2, hQ _ _ _ _ R (.bool _) h⟩
  · exact ff h
theorem cmpI_ok (h : ∃ x y, a = .int x ∧ b = .int y ∧ zeroA σ (x.sub y) (fun r σ' => k (.bool (xor ne r)) σ') = true) : ∃ x t y u, ca = .int x t ∧ cb = .int y u ∧ Q (.bool (xor ne (x == y))) s := by
  obtain ⟨x, y, rfl, rfl, h⟩ := h
  apply ha.onInt; intro vx t ea
  apply hb.onInt; intro vy u eb
  obtain ⟨σ', R', hk⟩ := zeroA_ok R (IE.ev_sub ea eb) h
  refine ⟨vx, t, vy, u, rfl, rfl, ?_⟩
  have e : (vx == vy) = decide (vx - vy = 0) := by
    by_cases q : vx = vy
    · rw [q, beq_self_eq_true, Int.sub_self]; rfl
    · rw [beq_eq_false_iff_ne.mpr q]; exact (decide_eq_false fun z => q (Int.sub_eq_zero.mp z)).symm
  rw [e]
  exact hQ _ _ _ _ R' (.bool _) hk
theorem cmpLt_ok (h : cmpLt σ ne a b k = true) : ∃ x t y u, ca = .int x t ∧ cb = .int y u ∧ Q (.bool (xor ne (decide (x < y)))) s := by
  rcases int2_is h with ⟨x, y, rfl, rfl, h⟩ | h
  · apply ha.onInt; intro vx t ea
    apply hb.onInt; intro vy u eb
    obtain ⟨σ', R', hk⟩ := ltA_ok R ea eb h
    exact ⟨vx, t, vy, u, rfl, rfl, hQ _ _ _ _ R' (.bool _) hk⟩
  · exact ff h
end
theorem dec_le (x y : Int) : decide (x ≤ y) = !decide (y < x) := by
  by_cases q : x ≤ y
  · rw [decide_eq_true q, decide_eq_false (Int.not_lt.mpr q)]; rfl
  · rw [decide_eq_false q, decide_eq_true (Int.not_le.mp q)]; rfl
theorem cmpB_ok (hw : os0.1 = w.params.strHash) (R : Rel os0 h₀ L mp W σ s) (hu : A.units + 40 < cLine) {op : CmpOp} {a b : AV} {ca cb : Value} {k : AV → St → Bool} {Q : Value → Shared → Prop} (ha : VR W a ca) (hb : VR W b cb) (h : cmpB σ op a b k = true)
    (hQ : ∀ σ' v c s', Rel os0 h₀ L mp W σ' s' → VR W v c → k v σ' = true → Q c s') : wpAny (model prog w) A (compareOp op ca cb) Q E s := by
  induction op using PySem.CmpOp.casesOn with
  | Is => obtain ⟨rfl, q⟩ := cmpIs_ok (ne := false) R ha hb hQ h; rw [xor_f] at q; exact is_none_gen q
  | IsNot => obtain ⟨rfl, q⟩ := cmpIs_ok (ne := true) R ha hb hQ h; rw [xor_t] at q; exact isnot_none_gen q
  | Eq =>
    rcases cmpEq_is (ne := false) h with h | h
    · obtain ⟨x, t, y, u, rfl, rfl, q⟩ := cmpI_ok R ha hb hQ h; rw [xor_f] at q; exact eq_int q
    · obtain ⟨r, g1, _, q⟩ := cmpRc_ok R hu ha hb hQ h; rw [xor_f] at q; exact g1 prog w E Q q
  | NotEq =>
    rcases cmpEq_is (ne := true) h with h | h
    · obtain ⟨x, t, y, u, rfl, rfl, q⟩ := cmpI_ok R ha hb hQ h; rw [xor_t] at q; exact ne_int q
    · obtain ⟨r, _, g2, q⟩ := cmpRc_ok R hu ha hb hQ h; rw [xor_t] at q; exact g2 prog w E Q q
  | Lt => obtain ⟨x, t, y, u, rfl, rfl, q⟩ := cmpLt_ok (ne := false) R ha hb hQ h; rw [xor_f] at q; exact lt_int q
  | Gt => obtain ⟨x, t, y, u, rfl, rfl, q⟩ := cmpLt_ok (ne := false) R hb ha hQ h; rw [xor_f] at q; exact gt_int q
  | LtE => obtain ⟨x, t, y, u, rfl, rfl, q⟩ := cmpLt_ok (ne := true) R hb ha hQ h; rw [xor_t, ← dec_le] at q; exact le_int q
  | GtE => obtain ⟨x, t, y, u, rfl, rfl, q⟩ := cmpLt_ok (ne := true) R ha hb hQ h; rw [xor_t, ← dec_le] at q; exact ge_int q
  | In =>
    have h : cmpIn σ false a b k = true := h
    unfold cmpIn at h
    split at h
    · rename_i r hi
      rw [xor_f] at h
      exact (inA_ok hw R hu ha hb hi).1 fun s' R' => hQ _ _ _ _ R' (.bool _) h
    · exact ff h
  | NotIn =>
    have h : cmpIn σ true a b k = true := h
    unfold cmpIn at h
    split at h
    · rename_i r hi
      rw [xor_t] at h
      exact (inA_ok hw R hu ha hb hi).2 fun s' R' => hQ _ _ _ _ R' (.bool _) h
    · exact ff h
noncomputable def cmpF (σ : St) (op : CmpOp) (a b : AV) (k : AV → St → Bool) : Bool := forceA σ a fun a' σ1 => forceA σ1 b fun b' σ2 => cmpB σ2 op a' b' k
/-- is it None? of one of some things: told for each of them -/
noncomputable def nonesOf (ne : Bool) : List AV → Option (List AV)
  | [] => some []
  | v :: r => (isNone v).bind fun b => (nonesOf ne r).map (.bool (xor ne b) :: ·)
noncomputable def isL (ne : Bool) (a b : AV) (k : AV → Bool) (e : Unit → Bool) : Bool := match a with
  | .pick x vs => match b with
    | .none => match nonesOf ne vs with
      | some bs => k (.pick x bs)
      | none => e ()
    | _ => e ()
  | _ => e ()
/-- one of some ints and a number: what comes of each of them -/
noncomputable def mapV (f : Int → Option AV) : List AV → Option (List AV)
  | [] => some []
  | v :: r => match v with
    | .int g => g.num.bind fun n => (f n).bind fun w => (mapV f r).map (w :: ·)
    | _ => none
theorem mapV_get {f : Int → Option AV} : ∀ {vs ws : List AV} {i : Nat} {v : AV}, mapV f vs = some ws → vs[i]? = some v → ∃ g n w, v = .int g ∧ g.num = some n ∧ f n = some w ∧ ws[i]? = some w
  | [], _, i, v, _, hi => by simp at hi
  | u :: r, ws, i, v, h, hi => by
    induction u using Mine.AV.casesOn with
    | int g =>
      obtain ⟨n, h1, h⟩ := someBind (show (g.num.bind fun n => (f n).bind fun w => (mapV f r).map (w :: ·)) = some ws from h)
      obtain ⟨w, h2, h⟩ := someBind h
      obtain ⟨t, h3, rfl⟩ := Option.map_eq_some_iff.mp h
      induction i using Nat.casesOn with
      | zero => obtain rfl := Option.some.inj hi; exact ⟨g, n, w, rfl, h1, h2, rfl⟩
      | succ i => exact mapV_get (vs := r) (i := i) h3 hi
    | _ => exact no_some h
noncomputable def onPI (a b : AV) (f : Int → Int → Option AV) (k : AV → Bool) (e : Unit → Bool) : Bool := match a with
  | .pick x vs => match b with
    | .int y => match y.num with
      | some m => match mapV (fun n => f n m) vs with
        | some ws => k (.pick x ws)
        | none => e ()
      | none => e ()
    | _ => e ()
  | _ => e ()
theorem onPI_is {W : Wd} {a b : AV} {ca cb : Value} {f : Int → Int → Option AV} {k : AV → Bool} {e : Unit → Bool} (ha : VR W a ca) (hb : VR W b cb) (h : onPI a b f k e = true) :
    e () = true ∨ ∃ n m t u w x ws, ca = .int n t ∧ cb = .int m u ∧ f n m = some w ∧ (∀ c, VR W w c → VR W (.pick x ws) c) ∧ k (.pick x ws) = true := by
  induction a using Mine.AV.casesOn with
  | pick x vs =>
    induction b using Mine.AV.casesOn with
    | int y =>
      replace h : (match y.num with
        | some m => match mapV (fun n => f n m) vs with
          | some ws => k (.pick x ws)
          | none => e ()
        | none => e ()) = true := h
      cases q1 : y.num with
      | none => rw [q1] at h; exact .inl h
      | some m =>
        rw [q1] at h
        replace h : (match mapV (fun n => f n m) vs with
          | some ws => k (.pick x ws)
          | none => e ()) = true := h
        cases q2 : mapV (fun n => f n m) vs with
        | none => rw [q2] at h; exact .inl h
        | some ws =>
          rw [q2] at h
          obtain ⟨j, v, g1, g2, g3, g4⟩ := ha.inv
          obtain ⟨g, n, w, rfl, z1, z2, z3⟩ := mapV_get q2 g3
          obtain ⟨xn, t, rfl, en⟩ := g4.inv
          obtain ⟨xm, u, rfl, em⟩ := hb.inv
          rw [IE.num_ev z1 en, IE.num_ev q1 em]
          exact .inr ⟨n, m, t, u, w, x, ws, rfl, rfl, z2, fun c hc => .pick g1 g2 z3 hc, h⟩
    | _ => exact .inl h
  | _ => exact .inl h
noncomputable def eqV (ne : Bool) (n m : Int) : Option AV := some (.bool (xor ne (decide (n = m))))
noncomputable def cmpA (σ : St) (op : CmpOp) (a b : AV) (k : AV → St → Bool) : Bool := match op with
  | .Eq => onPI a b (eqV false) (fun v => k v σ) fun _ => cmpF σ op a b k
  | .NotEq => onPI a b (eqV true) (fun v => k v σ) fun _ => cmpF σ op a b k
  | .Is => isL false a b (fun v => k v σ) fun _ => cmpF σ op a b k
  | .IsNot => isL true a b (fun v => k v σ) fun _ => cmpF σ op a b k
  | _ => cmpF σ op a b k
theorem nones_get {ne : Bool} : ∀ {vs bs : List AV} {i : Nat} {v : AV}, nonesOf ne vs = some bs → vs[i]? = some v → ∃ r, isNone v = some r ∧ bs[i]? = some (.bool (xor ne r))
  | [], _, i, v, _, hi => by simp at hi
  | u :: r, bs, i, v, h, hi => by
    obtain ⟨b, h1, h⟩ := someBind h
    obtain ⟨t, h2, rfl⟩ := Option.map_eq_some_iff.mp h
    induction i using Nat.casesOn with
    | zero => obtain rfl := Option.some.inj hi; exact ⟨b, h1, rfl⟩
    | succ i => exact nones_get (vs := r) (i := i) h2 hi
theorem isL_ok (R : Rel os0 h₀ L mp W σ s) {ne : Bool} {a b : AV} {ca cb : Value} {k : AV → St → Bool} {e : Unit → Bool} (ha : VR W a ca) (hb : VR W b cb) (h : isL ne a b (fun v => k v σ) e = true) : (cb = .none ∧ ∃ v, VR W v (.bool (xor ne (ca == .none))) ∧ k v σ = true) ∨ e () = true := by
  induction a using Mine.AV.casesOn with
  | pick x vs =>
    induction b using Mine.AV.casesOn with
    | none =>
      obtain rfl := hb.inv
      replace h : (match nonesOf ne vs with | some bs => k (.pick x bs) σ | none => e ()) = true := h
      cases q : nonesOf ne vs with
      | none => rw [q] at h; exact .inr h
      | some bs =>
        rw [q] at h
        obtain ⟨n, v, g1, g2, g3, g4⟩ := ha.inv
        obtain ⟨r, z1, z2⟩ := nones_get q g3
        exact .inl ⟨rfl, _, .pick g1 g2 z2 (by rw [isNone_is g4 z1]; exact .bool _), h⟩
    | _ => exact .inr h
  | _ => exact .inr h
theorem cmpA_ok (hw : os0.1 = w.params.strHash) (R : Rel os0 h₀ L mp W σ s) (hu : A.units + 40 < cLine) {op : CmpOp} {a b : AV} {ca cb : Value} {k : AV → St → Bool} {Q : Value → Shared → Prop} (ha : VR W a ca) (hb : VR W b cb) (h : cmpA σ op a b k = true)
    (hQ : ∀ σ' v c s', Rel os0 h₀ L mp W σ' s' → VR W v c → k v σ' = true → Q c s') : wpAny (model prog w) A (compareOp op ca cb) Q E s := by
  have other : cmpF σ op a b k = true → wpAny (model prog w) A (compareOp op ca cb) Q E s := fun h => by
    obtain ⟨a', σ1, R1, ha', h⟩ := forceA_ok R ha h
    obtain ⟨b', σ2, R2, hb', h⟩ := forceA_ok R1 hb h
    exact cmpB_ok hw R2 hu ha' hb' h hQ
  induction op using PySem.CmpOp.casesOn with
  | Is =>
    rcases isL_ok R ha hb (show isL false a b (fun v => k v σ) (fun _ => cmpF σ .Is a b k) = true from h) with ⟨rfl, v, hv, hk⟩ | h
    · rw [xor_f] at hv; exact is_none_gen (hQ _ _ _ _ R hv hk)
    · exact other h
  | IsNot =>
    rcases isL_ok R ha hb (show isL true a b (fun v => k v σ) (fun _ => cmpF σ .IsNot a b k) = true from h) with ⟨rfl, v, hv, hk⟩ | h
    · rw [xor_t] at hv; exact isnot_none_gen (hQ _ _ _ _ R hv hk)
    · exact other h
  | Eq =>
    rcases onPI_is ha hb (show onPI a b (eqV false) (fun v => k v σ) (fun _ => cmpF σ .Eq a b k) = true from h) with h | ⟨n, m, t, u, w, x, ws, rfl, rfl, hw', hp, hk⟩
    · exact other h
    · obtain rfl := Option.some.inj hw'
      refine eq_int (hQ _ _ _ _ R (hp _ ?_) hk)
      rw [xor_f, show (n == m) = decide (n = m) from rfl]
      exact .bool _
  | NotEq =>
    rcases onPI_is ha hb (show onPI a b (eqV true) (fun v => k v σ) (fun _ => cmpF σ .NotEq a b k) = true from h) with h | ⟨n, m, t, u, w, x, ws, rfl, rfl, hw', hp, hk⟩
    · exact other h
    · obtain rfl := Option.some.inj hw'
      refine ne_int (hQ _ _ _ _ R (hp _ ?_) hk)
      rw [xor_t, show (n != m) = !decide (n = m) from rfl]
      exact .bool _
  | _ => exact other h
/-- what an int of a small span is, compared with a number: looked at where it is wanted -/
noncomputable def eqsFrom (ne : Bool) (c : Int) : Nat → Int → List AV
  | 0, _ => []
  | n + 1, a => .bool (xor ne (decide (a = c))) :: eqsFrom ne c n (a + 1)
theorem eqsFrom_get (ne : Bool) (c : Int) : ∀ {n : Nat} {a : Int} {i : Nat}, i < n → (eqsFrom ne c n a)[i]? = some (.bool (xor ne (decide (a + i = c))))
  | n + 1, a, 0, _ => by
    show some (AV.bool _) = _
    simp
  | n + 1, a, i + 1, h => by
    show (eqsFrom ne c n (a + 1))[i]? = _
    rw [eqsFrom_get ne c (by omega)]
    have : a + 1 + (i : Int) = a + ((i + 1 : Nat) : Int) := by push_cast; omega
    rw [this]
noncomputable def lazyI (σ : St) (ne : Bool) (x y : IE) (k : AV → St → Bool) (other : Unit → Bool) : Bool := match (x.sub y).zero? σ.vi with
  | some _ => other ()
  | none => match y.known σ.vi with
    | none => other ()
    | some c => match x.lo σ.vi, x.hi σ.vi with
      | some a, some b => match decide (b - a ≤ 3) with
        | true => k (.pick (x.sub (IE.lit a)) (eqsFrom ne c (b - a + 1).toNat a)) σ
        | false => other ()
      | _, _ => other ()
noncomputable def cmpV (σ : St) (op : CmpOp) (a b : AV) (k : AV → St → Bool) : Bool := match op with
  | .Eq => int2 a b (fun x y => lazyI σ false x y k fun _ => cmpA σ op a b k) fun _ => cmpA σ op a b k
  | .NotEq => int2 a b (fun x y => lazyI σ true x y k fun _ => cmpA σ op a b k) fun _ => cmpA σ op a b k
  | _ => cmpA σ op a b k
theorem lazyI_ok (R : Rel os0 h₀ L mp W σ s) {ne : Bool} {x y : IE} {vx vy : Int} {k : AV → St → Bool} {other : Unit → Bool} (qx : x.ev W.ι = some vx) (qy : y.ev W.ι = some vy) (h : lazyI σ ne x y k other = true) : other () = true ∨ ∃ v, VR W v (.bool (xor ne (decide (vx = vy)))) ∧ k v σ = true := by
  unfold lazyI at h
  split at h
  · exact .inl h
  · split at h
    · exact .inl h
    · rename_i c hc
      have := IE.known_is R.vars hc qy
      subst this
      split at h
      · rename_i a b h1 h2
        split at h
        · have l1 := IE.lo_le R.vars h1 qx
          have l2 := IE.hi_ge R.vars h2 qx
          refine .inr ⟨_, .pick (IE.ev_sub qx (IE.ev_lit _ a)) (by omega) (eqsFrom_get ne vy (i := (vx - a).toNat) (by omega)) ?_, h⟩
          have e : a + (((vx - a).toNat : Nat) : Int) = vx := by omega
          rw [e]
          exact .bool _
        · exact .inl h
      · exact .inl h
theorem cmpVI_ok (R : Rel os0 h₀ L mp W σ s) {ne : Bool} {a b : AV} {ca cb : Value} {k : AV → St → Bool} {other : Unit → Bool} (ha : VR W a ca) (hb : VR W b cb) (h : int2 a b (fun x y => lazyI σ ne x y k other) other = true) :
    other () = true ∨ ∃ x t y u v, ca = .int x t ∧ cb = .int y u ∧ VR W v (.bool (xor ne (x == y))) ∧ k v σ = true := by
  rcases int2_is h with ⟨x, y, rfl, rfl, h⟩ | h
  · apply ha.onInt; intro vx t ea
    apply hb.onInt; intro vy u eb
    rcases lazyI_ok R ea eb h with h | ⟨v, hv, hk⟩
    · exact .inl h
    · refine .inr ⟨vx, t, vy, u, v, rfl, rfl, ?_, hk⟩
      have e : (vx == vy) = decide (vx = vy) := by
        by_cases q : vx = vy
        · rw [q, beq_self_eq_true]; exact (decide_eq_true rfl).symm
        · rw [beq_eq_false_iff_ne.mpr q]; exact (decide_eq_false q).symm
      rw [e]; exact hv
  · exact .inl h
theorem cmpV_ok (hw : os0.1 = w.params.strHash) (R : Rel os0 h₀ L mp W σ s) (hu : A.units + 40 < cLine) {op : CmpOp} {a b : AV} {ca cb : Value} {k : AV → St → Bool} {Q : Value → Shared → Prop} (ha : VR W a ca) (hb : VR W b cb) (h : cmpV σ op a b k = true)
    (hQ : ∀ σ' v c s', Rel os0 h₀ L mp W σ' s' → VR W v c → k v σ' = true → Q c s') : wpAny (model prog w) A (compareOp op ca cb) Q E s := by
  induction op using PySem.CmpOp.casesOn with
  | Eq =>
    rcases cmpVI_ok R ha hb h with h | ⟨x, t, y, u, v, rfl, rfl, hv, hk⟩
    · exact cmpA_ok hw R hu ha hb h hQ
    · rw [xor_f] at hv; exact eq_int (hQ _ _ _ _ R hv hk)
  | NotEq =>
    rcases cmpVI_ok R ha hb h with h | ⟨x, t, y, u, v, rfl, rfl, hv, hk⟩
    · exact cmpA_ok hw R hu ha hb h hQ
    · rw [xor_t] at hv; exact ne_int (hQ _ _ _ _ R hv hk)
  | _ => exact cmpA_ok hw R hu ha hb h hQ
end
end Mine

namespace Mine
open PySem PySem.W PySem.Calls PyProof.Rows PySem.SeqAt
set_option maxRecDepth 100000

abbrev IsT := AE → Expr → St → (Bool → St → Bool) → Bool

section
variable (prog : Program) (w : World) (K : Frag) (p : Program) (loose : List Str) (mean : ExcName → Option Value) (mg mb : Str → Option Value) (os0 : (Array Nat → Int) × OsState)
noncomputable def IsOK (n : Nat) (is : IsT) : Prop :=
  ∀ (A : Around) (base : Heap) (h₀ : Gd) (L : Addr) (env : Env) (ae : AE) (m : Str → Option Value) (W : Wd) (s : Shared) (E : Value → Shared → Prop),
    Fc K p loose mean mg mb n A base h₀ L → EnvR W L ae env → ∀ (e : Expr) (σ : St) (k : Bool → St → Bool) (Q : Bool → Shared → Prop), Rel os0 h₀ L m W σ s → is ae e σ k = true →
      (∀ m' W' r σ' s', W.le W' → Rel os0 h₀ L m' W' σ' s' → k r σ' = true → Q r s') → wpX (model prog w) A (PySem.isTrue e env (eval e env)) Q E s
end

noncomputable def dbg : Str := Str.ofString "__debug__"
theorem ndbg {x : Str} (h : sq x dbg = false) : (x == Str.ofString "__debug__") = false := by
  rw [beq_eq_false_iff_ne]
  intro e
  rw [show dbg = x from e.symm, sq_refl] at h
  exact ff h.symm
structure GlOK (K : Frag) (S : SE) : Prop where
  gl : ∀ x v, lk x S.gl = some v → ∃ c, nsIn K mainGlobals x = some (some c) ∧ VR W00 v c
  bl : ∀ x v, lk x S.bl = some v → nsIn K mainGlobals x = some none ∧ x ≠ Str.ofString "__name__" ∧ ∃ c, bootBuiltins x = some c ∧ VR W00 v c

noncomputable def nameL (ae : AE) (x : Str) (σ : St) (k : AV → St → Bool) : Bool := match ae.own with
  | none => onO (lk x σ.lc) fun v => k v σ
  | some c => onO ((σ.hp.get c).bind envOf) fun fs => onO (lk x fs) fun v => k v σ
noncomputable def nameC (ae : AE) (x : Str) (σ : St) (k : AV → St → Bool) : Bool := onO (lk x ae.cl) fun c => onO ((σ.hp.get c).bind celOf) fun q => onO q fun v => k v σ
noncomputable def nameG (S : SE) (x : Str) (σ : St) (k : AV → St → Bool) : Bool := match lk x S.gl with
  | some v => k v σ
  | none => onO (lk x S.bl) fun v => k v σ
noncomputable def evNameL (_ : SE) (ae : AE) (x : Str) (σ : St) (k : AV → St → Bool) : Bool := nameL ae x σ k
noncomputable def evNameC (_ : SE) (ae : AE) (x : Str) (σ : St) (k : AV → St → Bool) : Bool := nameC ae x σ k
noncomputable def evNameG (S : SE) (_ : AE) (x : Str) (σ : St) (k : AV → St → Bool) : Bool := nameG S x σ k
noncomputable def evNameK (S : SE) (ae : AE) (x : Str) (σ : St) (k : AV → St → Bool) (q : NameKind) : Bool := NameKind.rec (motive := fun _ => SE → AE → Str → St → (AV → St → Bool) → Bool) evNameL evNameC (fun _ _ _ _ _ => false) (fun _ _ _ _ _ => false) evNameG q S ae x σ k
noncomputable def evName (S : SE) (ae : AE) (x : Str) (σ : St) (k : AV → St → Bool) : Bool := match sq x dbg with
  | true => false
  | false => onO (lk x ae.sc.names) (evNameK S ae x σ k)

noncomputable def evConst (c : Const) (σ : St) (k : AV → St → Bool) : Bool := match c with
  | .none => k .none σ
  | .bool b => k (.bool b) σ
  | .int i => k (.int (IE.lit i)) σ
  | .str s => k (.str s) σ
  | .bytes b => k (.byts b) σ
  | _ => false

noncomputable def notStar : Expr → Bool
  | .Starred .. => false
  | _ => true
noncomputable def evList (ev : EvT) (ae : AE) (l : List Expr) : St → (List AV → St → Bool) → Bool := List.rec (motive := fun _ => St → (List AV → St → Bool) → Bool) (fun σ k => k [] σ) (fun e _ ih σ k => Bool.rec false (ev ae e σ fun v σ1 => ih σ1 fun vs σ2 => k (v :: vs) σ2) (notStar e)) l
theorem evList_cons (ev : EvT) (ae : AE) (e : Expr) (r : List Expr) (σ : St) (k : List AV → St → Bool) : evList ev ae (e :: r) σ k = match notStar e with | false => false | true => ev ae e σ fun v σ1 => evList ev ae r σ1 fun vs σ2 => k (v :: vs) σ2 := by show (Bool.rec false (ev ae e σ fun v σ1 => evList ev ae r σ1 fun vs σ2 => k (v :: vs) σ2) (notStar e) : Bool) = _; cases notStar e <;> rfl

noncomputable def truthL (σ : St) (vs : List AV) (k : Bool → St → Bool) : Bool := match Nat.ble vs.length 1000000 with
  | true => k (!vs.isEmpty) σ
  | false => false
noncomputable def truthO (σ : St) (o : AO) (k : Bool → St → Bool) : Bool := match o with
  | .tup vs => truthL σ vs k
  | .lst vs => truthL σ vs k
  | _ => false
noncomputable def truthB (σ : St) (v : AV) (k : Bool → St → Bool) : Bool := match v with
  | .none => k false σ
  | .bool b => k b σ
  | .int e => zeroA σ e fun r σ1 => k (!r) σ1
  | .loc l => onO (σ.hp.get l) fun o => truthO σ o k
  | _ => false

noncomputable def truthA (σ : St) (v : AV) (k : Bool → St → Bool) : Bool := forceA σ v fun v' σ' => truthB σ' v' k

noncomputable def chK (c : AV) (t f : Bool) : Bool := match c with
  | .bool b => match b with
    | true => t
    | false => f
  | _ => false
theorem chK_is {c : AV} {t f : Bool} (h : chK c t f = true) : (c = .bool true ∧ t = true) ∨ (c = .bool false ∧ f = true) := by
  induction c using Mine.AV.casesOn with
  | bool b => induction b using Bool.casesOn with
    | true => exact .inl ⟨rfl, h⟩
    | false => exact .inr ⟨rfl, h⟩
  | _ => exact ff h
noncomputable def chA (ev : EvT) (ae : AE) : AV → List CmpOp → List Expr → St → (AV → St → Bool) → Bool
  | _, [], _, _, _ => false
  | a, op :: ops, rs, σ, k => match rs with
    | [] => false
    | r :: rs => match ops with
      | [] => match rs with
        | [] => ev ae r σ fun b σ1 => cmpA σ1 op a b k
        | _ :: _ => false
      | _ :: _ => match rs with
        | [] => false
        | _ :: _ => ev ae r σ fun b σ1 => cmpA σ1 op a b fun c σ2 => chK c (chA ev ae b ops rs σ2 k) (k (.bool false) σ2)

section
variable {prog : Program} {w : World} {K : Frag} {p : Program} {loose : List Str} {mean : ExcName → Option Value} {mg mb : Str → Option Value} {os0 : (Array Nat → Int) × OsState}
variable {n : Nat} {A : Around} {base : Heap} {h₀ : Gd} {env : Env} {ae : AE} {L : Addr} {E : Value → Shared → Prop} {m : Str → Option Value} {W : Wd} {σ : St} {s : Shared}

theorem mff {b k : Bool} (h : (match b with | true => false | false => k) = true) : b = false ∧ k = true := by
  induction b using Bool.casesOn with
  | true => exact ff h
  | false => exact ⟨rfl, h⟩
theorem nameL_ok (en : EnvR W L ae env) {x : Str} (hkd : env.scope.kind = .function) (hk : env.kindOf x = some .local) {k : AV → St → Bool} {Q : Value → Shared → Prop} (R : Rel os0 h₀ L m W σ s) (h : nameL ae x σ k = true)
    (hQ : ∀ m' W' v c σ' s', W.le W' → Rel os0 h₀ L m' W' σ' s' → VR W' v c → k v σ' = true → Q c s') : wpAny (model prog w) A (loadName env x) Q E s := by
  have own := en.own
  delta nameL at h
  cases ho : ae.own with
  | none =>
    rw [ho] at own h
    obtain ⟨v, hl, h⟩ := onO_is h
    obtain ⟨c, h1, h2⟩ := R.lcs x v hl
    exact wpAny_loadName_local hkd hk (by rw [show env.locals = L from own]; exact R.fr.ns) h1 (hQ _ _ _ _ _ _ W.le_refl R h2 h)
  | some c =>
    rw [ho] at own h
    obtain ⟨fs, h1, h⟩ := onO_is h
    obtain ⟨v, hl, h⟩ := onO_is h
    obtain ⟨o, k1, k2⟩ := R.ref (at_is envOf_is h1) own
    obtain ⟨_, _, _, e1, e2, e3, e4⟩ := k1.inv
    obtain ⟨cv, z1, z2⟩ := e4 x v hl
    exact wpAny_loadName_local hkd hk ⟨_, _, _, k2, e1, e2, e3⟩ z1 (hQ _ _ _ _ _ _ W.le_refl R z2 h)
theorem nameC_ok (en : EnvR W L ae env) {x : Str} (hkd : env.scope.kind = .function) (hk : env.kindOf x = some .cell) {k : AV → St → Bool} {Q : Value → Shared → Prop} (R : Rel os0 h₀ L m W σ s) (h : nameC ae x σ k = true)
    (hQ : ∀ m' W' v c σ' s', W.le W' → Rel os0 h₀ L m' W' σ' s' → VR W' v c → k v σ' = true → Q c s') : wpAny (model prog w) A (loadName env x) Q E s := by
  obtain ⟨c, hc, h⟩ := onO_is h
  obtain ⟨q, h1, h⟩ := onO_is h
  obtain ⟨v, rfl, h⟩ := onO_is h
  obtain ⟨b, z1, z2⟩ := en.cl x c hc
  obtain ⟨o, k1, k2⟩ := R.ref (at_is celOf_is h1) z1
  obtain ⟨_, e1, e2⟩ := k1.inv
  exact wpAny_loadName_cell hkd hk z2 ⟨_, k2, e1⟩ (hQ _ _ _ _ _ _ W.le_refl R e2 h)
theorem nameG_ok {S : SE} (G : GlOK K S) (f : Fc K p loose mean mg mb n A base h₀ L) (en : EnvR W L ae env) {x : Str} {pos : Pos} (hkd : env.scope.kind = .function) (hk : env.kindOf x = some .globalImplicit) (hn : (x == Str.ofString "__debug__") = false) {k : AV → St → Bool} {Q : Value → Shared → Prop} (R : Rel os0 h₀ L m W σ s) (h : nameG S x σ k = true)
    (hQ : ∀ m' W' v c σ' s', W.le W' → Rel os0 h₀ L m' W' σ' s' → VR W' v c → k v σ' = true → Q c s') : wpAny (model prog w) A (eval (.Name x pos) env) Q E s := by
  have T := (topRead_of f.TB)
  have kp := f.stG R.fr
  have up : ∀ {v : AV} {c : Value}, VR W00 v c → VR W v c := fun q => q.mono ⟨List.nil_prefix, List.nil_prefix⟩
  have ng : s.heap.Ns env.globals mg := by rw [en.gl]; exact T.g.keeps kp
  delta nameG at h
  cases h1 : lk x S.gl with
  | some v =>
    rw [h1] at h
    obtain ⟨c, e1, e2⟩ := G.gl x v h1
    exact Name_function_global hkd hk (loadGlobal_global ng (mg_of f.XB T.g e1) (hQ _ _ _ _ _ _ W.le_refl R (up e2) h)) hn
  | none =>
    rw [h1] at h
    obtain ⟨v, h2, h⟩ := onO_is h
    have nb : s.heap.Ns env.builtins mb := by rw [en.bu]; exact T.b.keeps kp
    obtain ⟨e0, e1, c, e2, e3⟩ := G.bl x v h2
    exact Name_function_global hkd hk (loadGlobal_builtin ng (mg_none_of f.XB T.g e0) nb ((T.builtins x e1).trans e2) (hQ _ _ _ _ _ _ W.le_refl R (up e3) h)) hn
theorem evName_ok {S : SE} (G : GlOK K S) (f : Fc K p loose mean mg mb n A base h₀ L) (en : EnvR W L ae env) {x : Str} {pos : Pos} {k : AV → St → Bool} {Q : Value → Shared → Prop} (R : Rel os0 h₀ L m W σ s) (h : evName S ae x σ k = true)
    (hQ : ∀ m' W' v c σ' s', W.le W' → Rel os0 h₀ L m' W' σ' s' → VR W' v c → k v σ' = true → Q c s') : wpAny (model prog w) A (eval (.Name x pos) env) Q E s := by
  refine Classical.byContradiction fun hgo => ?_
  obtain ⟨hd, h⟩ := mff h
  have hn := ndbg hd
  have hkd : env.scope.kind = .function := by rw [en.sc]; exact en.kd
  obtain ⟨q, hq, h⟩ := onO_is h
  refine hgo ?_
  have hk : env.kindOf x = some q := by
    show env.scope.names.lookup x = _
    rw [en.sc, ← lk_eq]; exact hq
  induction q using PySem.NameKind.casesOn with
  | «local» => exact wpAny_Name (nameL_ok en hkd hk R h fun m' W' v c σ' s' => hQ m' W' v c σ' s') hn
  | cell => exact wpAny_Name (nameC_ok en hkd hk R h fun m' W' v c σ' s' => hQ m' W' v c σ' s') hn
  | globalImplicit => exact nameG_ok G f en hkd hk hn R h hQ
  | _ => exact ff h

theorem evConst_ok {c : Const} {kd : Nat} {pos : Pos} {k : AV → St → Bool} {Q : Value → Shared → Prop} (R : Rel os0 h₀ L m W σ s) (h : evConst c σ k = true)
    (hQ : ∀ m' W' v c σ' s', W.le W' → Rel os0 h₀ L m' W' σ' s' → VR W' v c → k v σ' = true → Q c s') : wpAny (model prog w) A (eval (.Constant c kd pos) env) Q E s := by
  induction c using PySem.Const.casesOn with
  | none => exact Constant_none (hQ _ _ _ _ _ _ W.le_refl R .none h)
  | bool b => exact Constant_bool (hQ _ _ _ _ _ _ W.le_refl R (.bool _) h)
  | int i => exact wpAny_Constant_int (hQ _ _ _ _ _ _ W.le_refl (R.toks _) (.int _ (IE.ev_lit _ _)) h)
  | str x => exact Constant_str (hQ _ _ _ _ _ _ W.le_refl (R.toks _) (.str _ _) h)
  | bytes b => exact Constant_bytes (hQ _ _ _ _ _ _ W.le_refl (R.toks _) (.byts _ rfl) h)
  | _ => exact ff h

theorem star_no {e : Expr} {r : List Expr} {env : Env} (h : notStar e = true) : starEach (e :: r) env = (false, eval e env) :: starEach r env := by
  induction e using PySem.Expr.casesOn <;> first | rfl | exact ff h
theorem evList_ok {ev : EvT} (hev : EvOK prog w K p loose mean mg mb os0 n ev) (f : Fc K p loose mean mg mb n A base h₀ L) {pos : Pos} :
    ∀ (es : List Expr) {m : Str → Option Value} {W : Wd} {σ : St} {s : Shared} {k : List AV → St → Bool} {Q : List Value → Shared → Prop}, EnvR W L ae env → Rel os0 h₀ L m W σ s → evList ev ae es σ k = true →
      (∀ m' W' vs cs σ' s', W.le W' → Rel os0 h₀ L m' W' σ' s' → All2 (VR W') vs cs → k vs σ' = true → Q cs s') → wpX (model prog w) A (spliced (backTo pos (starEach es env))) Q E s
  | [], m, W, σ, s, k, Q, en, R, h, hQ => spliced_none (hQ _ _ _ _ _ _ W.le_refl R .nil h)
  | e :: r, m, W, σ, s, k, Q, en, R, h, hQ => by
    rw [evList_cons] at h
    obtain ⟨hs, h⟩ := mf h
    refine spliced_more (hev A base h₀ L env ae m W s E f en e σ _ _ R h fun m1 W1 v c σ1 s1 l1 R1 v1 h1 => ?_) (star_no hs)
    exact evList_ok hev f r (en.mono l1) R1 h1 fun m2 W2 vs cs σ2 s2 l2 R2 v2 h2 => hQ _ _ _ _ _ _ (W.le_trans l1 l2) R2 (.cons (v1.mono l2) v2) h2

theorem All2.empty {α β : Type} {S : α → β → Prop} {xs : List α} {ys : List β} (h : All2 S xs ys) : (!ys.toArray.isEmpty) = !xs.isEmpty := by
  induction xs using List.casesOn with
  | nil => obtain rfl := h.inv; rfl
  | cons _ _ => obtain ⟨_, _, rfl, _⟩ := h.inv; rfl
theorem All2.short {α β : Type} {S : α → β → Prop} {xs : List α} {ys : List β} (h : All2 S xs ys) (hb : Nat.ble xs.length 1000000 = true) : (ys.toArray.size : Int) < 2 ^ 63 := by
  rw [List.size_toArray, ← h.length]
  exact Int.lt_of_le_of_lt (Int.ofNat_le.mpr (Nat.le_of_ble_eq_true hb)) (by decide)
theorem truthO_ok (R : Rel os0 h₀ L m W σ s) {l : Nat} {a : Addr} {o : AO} {k : Bool → St → Bool} {Q : Bool → Shared → Prop} (ea : W.ρ[l]? = some a) (e1 : σ.hp.get l = some o) (h : truthO σ o k = true)
    (hQ : ∀ r σ' s', Rel os0 h₀ L m W σ' s' → k r σ' = true → Q r s') : wpAny (model prog w) A (truthy (.ref a)) Q E s := by
  obtain ⟨ci, k1, k2⟩ := R.ref e1 ea
  induction o using Mine.AO.casesOn with
  | tup vs =>
    obtain ⟨hb, h⟩ := mt (show (match Nat.ble vs.length 1000000 with | true => k (!vs.isEmpty) σ | false => false) = true from h)
    obtain ⟨cx, hx, tx⟩ := tup_at k1 k2
    exact truthy_tuple tx (hx.short hb) (by rw [hx.empty]; exact hQ _ _ _ (R.toks _) h)
  | lst vs =>
    obtain ⟨hb, h⟩ := mt (show (match Nat.ble vs.length 1000000 with | true => k (!vs.isEmpty) σ | false => false) = true from h)
    obtain ⟨cx, hx, tx⟩ := lst_at k1 k2
    exact wpAny_truthy_list tx (hx.short hb) (by rw [hx.empty]; exact hQ _ _ _ (R.toks _) h)
  | _ => exact ff h
theorem truthB_ok (R : Rel os0 h₀ L m W σ s) {v : AV} {c : Value} {k : Bool → St → Bool} {Q : Bool → Shared → Prop} (hv : VR W v c) (h : truthB σ v k = true)
    (hQ : ∀ r σ' s', Rel os0 h₀ L m W σ' s' → k r σ' = true → Q r s') : wpAny (model prog w) A (truthy c) Q E s := by
  induction v using Mine.AV.casesOn with
  | none => obtain rfl := hv.inv; exact truthy_none (hQ _ _ _ R h)
  | bool b => obtain rfl := hv.inv; exact wpAny_truthy_bool (hQ _ _ _ R h)
  | int e =>
    apply hv.onInt; intro x t ea
    obtain ⟨σ', R', hk⟩ := zeroA_ok R ea h
    have e : (x != 0) = !decide (x = 0) := rfl
    exact truthy_int (by rw [e]; exact hQ _ _ _ R' hk)
  | loc l =>
    apply hv.onLoc; intro _ ea
    obtain ⟨o, e1, h⟩ := onO_is (show onO (σ.hp.get l) _ = true from h)
    exact truthO_ok R ea e1 h hQ
  | _ => exact ff h

theorem truthA_ok (R : Rel os0 h₀ L m W σ s) {v : AV} {c : Value} {k : Bool → St → Bool} {Q : Bool → Shared → Prop} (hv : VR W v c) (h : truthA σ v k = true)
    (hQ : ∀ r σ' s', Rel os0 h₀ L m W σ' s' → k r σ' = true → Q r s') : wpAny (model prog w) A (truthy c) Q E s := by
  obtain ⟨v', σ', R', hv', h⟩ := forceA_ok R hv h
  exact truthB_ok R' hv' h hQ
theorem chA_ok (hw : os0.1 = w.params.strHash) {ev : EvT} (hev : EvOK prog w K p loose mean mg mb os0 n ev) (f : Fc K p loose mean mg mb n A base h₀ L) {pos : Pos} :
    ∀ (ops : List CmpOp) (rs : List Expr) {m : Str → Option Value} {W : Wd} {σ : St} {s : Shared} {k : AV → St → Bool} {Q : Value → Shared → Prop} {x : AV} {cx : Value}, EnvR W L ae env → Rel os0 h₀ L m W σ s → VR W x cx → chA ev ae x ops rs σ k = true →
      (∀ m' W' v c σ' s', W.le W' → Rel os0 h₀ L m' W' σ' s' → VR W' v c → k v σ' = true → Q c s') → wpX (model prog w) A (compareChain pos cx ops (evalEach rs env)) Q E s
  | [], rs, m, W, σ, s, k, Q, x, cx, en, R, hx, h, hQ => ff h
  | op :: ops, rs, m, W, σ, s, k, Q, x, cx, en, R, hx, h, hQ => by
    induction rs using List.casesOn with
    | nil => exact ff h
    | cons r rs =>
    induction ops using List.casesOn with
    | nil =>
      induction rs using List.casesOn with
      | cons _ _ => exact ff h
      | nil =>
        refine chain_last (hev A base h₀ L env ae m W s E f en r σ _ _ R (show ev ae r σ _ = true from h) fun m1 W1 v c σ1 s1 l1 R1 v1 h1 => ?_)
        exact xof (cmpA_ok hw R1 f.room (hx.mono l1) v1 h1 fun σ' v c s2 R' hv hk => hQ _ _ _ _ _ _ l1 R' hv hk)
    | cons op' ops =>
      induction rs using List.casesOn with
      | nil => exact ff h
      | cons r' rs =>
        refine chain_link (hev A base h₀ L env ae m W s E f en r σ _ _ R (show ev ae r σ _ = true from h) fun m1 W1 v c σ1 s1 l1 R1 v1 h1 => ?_)
        refine xof <| cmpA_ok hw R1 f.room (hx.mono l1) v1 h1 fun σ' u c' s2 R' hu hk => ?_
        rcases chK_is hk with ⟨rfl, hk⟩ | ⟨rfl, hk⟩
        · obtain rfl := hu.inv
          exact xof (wpAny_truthy_bool ((if_pos rfl).mpr (chA_ok hw hev f (op' :: ops) (r' :: rs) (en.mono l1) R' v1 hk fun m2 W2 v2 c2 σ2 s2 l2 => hQ m2 W2 v2 c2 σ2 s2 (W.le_trans l1 l2))))
        · obtain rfl := hu.inv
          exact xof (wpAny_truthy_bool ((if_neg Bool.false_ne_true).mpr (hQ _ _ _ _ _ _ l1 R' (.bool _) hk)))
theorem chT_ok (hw : os0.1 = w.params.strHash) {ev : EvT} (hev : EvOK prog w K p loose mean mg mb os0 n ev) (f : Fc K p loose mean mg mb n A base h₀ L) {pos : Pos} :
    ∀ (ops : List CmpOp) (rs : List Expr) {m : Str → Option Value} {W : Wd} {σ : St} {s : Shared} {k : Bool → St → Bool} {Q : Bool → Shared → Prop} {x : AV} {cx : Value}, EnvR W L ae env → Rel os0 h₀ L m W σ s → VR W x cx →
      chA ev ae x ops rs σ (fun c σ2 => truthA σ2 c k) = true →
      (∀ m' W' r σ' s', W.le W' → Rel os0 h₀ L m' W' σ' s' → k r σ' = true → Q r s') → wpX (model prog w) A (testChain pos cx ops (evalEach rs env)) Q E s
  | [], rs, m, W, σ, s, k, Q, x, cx, en, R, hx, h, hQ => ff h
  | op :: ops, rs, m, W, σ, s, k, Q, x, cx, en, R, hx, h, hQ => by
    induction rs using List.casesOn with
    | nil => exact ff h
    | cons r rs =>
    induction ops using List.casesOn with
    | nil =>
      induction rs using List.casesOn with
      | cons _ _ => exact ff h
      | nil =>
        refine test_last (hev A base h₀ L env ae m W s E f en r σ _ _ R (show ev ae r σ _ = true from h) fun m1 W1 v c σ1 s1 l1 R1 v1 h1 => ?_)
        refine xof <| cmpA_ok hw R1 f.room (hx.mono l1) v1 h1 fun σ' v c s2 R' hv hk => ?_
        exact xof (truthA_ok R' hv hk fun r σ'' s3 R3 hk3 => hQ _ _ _ _ _ l1 R3 hk3)
    | cons op' ops =>
      induction rs using List.casesOn with
      | nil => exact ff h
      | cons r' rs =>
        refine test_link (hev A base h₀ L env ae m W s E f en r σ _ _ R (show ev ae r σ _ = true from h) fun m1 W1 v c σ1 s1 l1 R1 v1 h1 => ?_)
        refine xof <| cmpA_ok hw R1 f.room (hx.mono l1) v1 h1 fun σ' u c' s2 R' hu hk => ?_
        rcases chK_is hk with ⟨rfl, hk⟩ | ⟨rfl, hk⟩
        · obtain rfl := hu.inv
          exact xof (wpAny_truthy_bool ((if_pos rfl).mpr (chT_ok hw hev f (op' :: ops) (r' :: rs) (en.mono l1) R' v1 hk fun m2 W2 v2 σ2 s2 l2 => hQ m2 W2 v2 σ2 s2 (W.le_trans l1 l2))))
        · obtain rfl := hu.inv
          exact xof (wpAny_truthy_bool ((if_neg Bool.false_ne_true).mpr (hQ _ _ _ _ _ l1 R' hk)))
end
end Mine

namespace Mine
open PySem PySem.W PySem.Calls PyProof.Rows PySem.SeqAt
set_option maxRecDepth 100000

structure ClOK (K : Frag) (C : Addr) (r : ClR) : Prop where
  mks : makesIn K C = true
  ini : findIn K (.ref C) (Str.ofString "__init__") = some (some (.ref r.init))
  inf : isFn K (.ref r.init) = true
  ga : findIn K (.ref C) (Str.ofString "__getattribute__") = some (some (.builtin "object.__getattribute__"))
  gt : findIn K (.ref C) (Str.ofString "__getattr__") = some none
  sa : findIn K (.ref C) (Str.ofString "__setattr__") = some (some (.builtin "object.__setattr__"))
  po : plainOver K C = true
  hd : Option.any (fun x => x.hasDict) (clsIn K C) = true
  fl : ∀ x ∈ r.fld, findIn K (.ref C) x = some none
  me : ∀ x a, lk x r.met = some a → findIn K (.ref C) x = some (some (.ref a)) ∧ typeIn K (.ref a) = some (.type "function")
  ke : keepIn K (.ref C) = true
  pr : ∀ x q, lk x r.prp = some q → findIn K (.ref C) x = some (some (.ref q.1)) ∧ specialIn K (.ref q.1) (Str.ofString "__get__") = some (some (.builtin "property.__get__")) ∧ takesIn K (.ref q.1) = some true ∧ ∃ rest, recIn K q.1 "property" = some (.ref q.2 :: rest)

structure EnvOK (w : World) (os0 : (Array Nat → Int) × OsState) (K : Frag) (S : SE) : Prop where
  wd : os0.1 = w.params.strHash
  G : GlOK K S
  F : SEok K S
  C : ∀ a r, S.cl.get a = some r → ClOK K a r
  sm : (K.lookup sysModules).isSome = true
  cons : ∀ a l C, S.jn.get a = some l → C ∈ l → ∀ (prog p : Program) (loose : List Str) (mean : ExcName → Option Value) (mg mb : Str → Option Value), ConT prog w K p loose mean mg mb os0 C.lv a C

noncomputable def plain1 (v : AV) : Bool := AV.rec (motive_1 := fun _ => Bool) (motive_2 := fun _ => PUnit) (true) (fun _ => true) (fun _ => true) (fun _ => true) (fun _ => true) (fun _ => true) (fun _ => true) (fun _ => true) (fun _ => true) (fun _ => false) (fun _ _ _ => false) PUnit.unit (fun _ _ _ _ => PUnit.unit) v
noncomputable def plainV (v : AV) : Bool := AV.rec (motive_1 := fun _ => Bool) (motive_2 := fun _ => PUnit) (true) (fun _ => true) (fun _ => true) (fun _ => true) (fun _ => true) (fun _ => true) (fun _ => true) (fun _ => true) (fun _ => true) (fun _ => false) (fun _ vs _ => vs.all plain1) PUnit.unit (fun _ _ _ _ => PUnit.unit) v
theorem plain1_is {W : Wd} {v : AV} {c : Value} (h : VR W v c) (p : plain1 v = true) : handedIn c = true := by
  cases h <;> first | rfl | cases p
theorem plainV_is {W : Wd} {v : AV} {c : Value} (h : VR W v c) (p : plainV v = true) : handedIn c = true := by
  cases h with
  | pick e1 e2 e3 e4 => exact plain1_is e4 (List.all_eq_true.mp p _ (List.mem_of_getElem? e3))
  | blt _ => exact ff p
  | _ => rfl

section
variable {W : Wd}
abbrev NsR (W : Wd) (fs : List (Str × AV)) (es : List DictEntry) : Prop := All2 (fun (f : Str × AV) (e : DictEntry) => (∃ t, e.key = .str f.1 t) ∧ VR W f.2 e.val) fs es
theorem ns_noref : ∀ {fs : List (Str × AV)} {es : List DictEntry}, NsR W fs es → (es.any fun x => x.refKey) = false
  | _, _, .nil => rfl
  | _, _, .cons h t => by
    obtain ⟨⟨tk, hk⟩, _⟩ := h
    rw [List.any_cons, ns_noref t]
    simp [DictEntry.refKey, hk]
theorem ns_find : ∀ {fs : List (Str × AV)} {es : List DictEntry} (name : Str), NsR W fs es → (match lk name fs with
    | some v => ∃ e, es.find? (fun x => x.key.isStr name) = some e ∧ VR W v e.val
    | none => es.find? (fun x => x.key.isStr name) = none)
  | _, _, name, .nil => rfl
  | f :: fs, e :: es, name, .cons h t => by
    obtain ⟨⟨tk, hk⟩, hv⟩ := h
    rw [lk_step]
    rw [List.find?_cons, hk]
    have e1 : Value.isStr (.str f.1 tk) name = (f.1 == name) := rfl
    rw [e1]
    by_cases q : name = f.1
    · subst q
      simp only [sq_refl, beq_self_eq_true]
      exact ⟨e, rfl, hv⟩
    · have q' : (f.1 == name) = false := beq_eq_false_iff_ne.mpr (Ne.symm q)
      simp only [sq_ne q, q']
      exact ns_find name t
theorem ns_get {fs : List (Str × AV)} {es : List DictEntry} (name : Str) (h : NsR W fs es) : (match lk name fs with
    | some v => ∃ c, getL name es = some (some c) ∧ VR W v c
    | none => getL name es = some none) := by
  have := ns_find name h
  unfold getL
  cases q : lk name fs with
  | some v =>
    rw [q] at this
    obtain ⟨e, h1, h2⟩ := this
    rw [h1]
    exact ⟨_, rfl, h2⟩
  | none =>
    rw [q] at this
    dsimp only at this ⊢
    rw [this, ns_noref h]
    rfl
theorem ns_put {name : Str} {hsh : Int} {tk : Tok} {v : AV} {c : Value} (hv : VR W v c) : ∀ {fs : List (Str × AV)} {es : List DictEntry}, NsR W fs es → NsR W (sto name v fs) (putL name hsh (.str name tk) c es)
  | _, _, .nil => .cons ⟨⟨tk, rfl⟩, hv⟩ .nil
  | f :: fs, e :: es, .cons h t => by
    obtain ⟨⟨tk', hk⟩, hv'⟩ := h
    rw [sto_step]
    unfold putL
    rw [hk]
    have e1 : Value.isStr (.str f.1 tk') name = (f.1 == name) := rfl
    rw [e1]
    by_cases q : name = f.1
    · subst q
      simp only [sq_refl, beq_self_eq_true, if_true]
      exact .cons ⟨⟨tk', rfl⟩, hv⟩ t
    · have q' : (f.1 == name) = false := beq_eq_false_iff_ne.mpr (Ne.symm q)
      simp only [sq_ne q, q', Bool.false_eq_true, if_false]
      exact .cons ⟨⟨tk', hk⟩, hv'⟩ (ns_put hv t)
end

section
variable {prog : Program} {w : World} {K : Frag} {p : Program} {loose : List Str} {mean : ExcName → Option Value} {mg mb : Str → Option Value} {os0 : (Array Nat → Int) × OsState}
variable {n : Nat} {A : Around} {base : Heap} {h₀ : Gd} {L : Addr} {E : Value → Shared → Prop} {m : Str → Option Value} {W : Wd} {σ : St} {s : Shared}

/-- an object with its fields -/
theorem Rel.inst (R : Rel os0 h₀ L m W σ s) {l d : Nat} {C : Addr} {fs : List (Str × AV)} (h1 : σ.hp.get l = some (.inst C d)) (h2 : σ.hp.get d = some (.ns fs)) {x : Addr} (hx : W.ρ[l]? = some x) :
    ∃ dx es k, W.ρ[d]? = some dx ∧ s.heap.get? dx = some (dictOf es k) ∧ NsR W fs es ∧ s.heap.get? x = some (instObj C dx) ∧ PySem.W.InstAt s.heap x (instObj C dx) C (some (dictOf es k)) := by
  refine Classical.byContradiction fun hgo => ?_
  obtain ⟨ci, k1, k2⟩ := R.ref h1 hx
  obtain ⟨_, rfl, hd⟩ := k1.inv
  refine hgo ?_
  rename_i dx
  obtain ⟨cj, k3, k4⟩ := R.ref h2 hd
  obtain ⟨_, _, rfl, hf⟩ := k3.inv
  rename_i es k
  exact ⟨dx, es, k, hd, k4, hf, k2, ⟨k2, rfl, rfl, k4⟩⟩

noncomputable def getA4 (σ : St) (k : AV → St → Bool) (u : AV) : Bool := match plainV u with
  | true => k u σ
  | false => false
noncomputable def getA3 (σ : St) (x : Str) (k : AV → St → Bool) (p : AO) : Bool := onNs p fun fs => onO (lk x fs) (getA4 σ k)
noncomputable def getA2 (σ : St) (x : Str) (k : AV → St → Bool) (d : Nat) (r : ClR) : Bool := match memS x r.fld with
  | true => onO (σ.hp.get d) (getA3 σ x k)
  | false => false
noncomputable def getA1 (S : SE) (σ : St) (x : Str) (k : AV → St → Bool) (C : Addr) (d : Nat) : Bool := onO (S.cl.get C) (getA2 σ x k d)
noncomputable def getA0 (S : SE) (σ : St) (x : Str) (k : AV → St → Bool) (o : AO) : Bool := onInst o (getA1 S σ x k)
noncomputable def getA (S : SE) (σ : St) (v : AV) (x : Str) (k : AV → St → Bool) : Bool := onLoc v fun l => onO (σ.hp.get l) (getA0 S σ x k)
theorem getA_ok {S : SE} (G : EnvOK w os0 K S) (R : Rel os0 h₀ L m W σ s) (XS : K.In s.heap) {v : AV} {c : Value} {x : Str} {k : AV → St → Bool} {Q : Value → Shared → Prop} {ex : Bool} (hv : VR W v c) (h : getA S σ v x k = true)
    (hQ : ∀ v c s', Rel os0 h₀ L m W σ s' → VR W v c → k v σ = true → Q c s') : wpAny (model prog w) A (getAttr c x ex) Q E s := by
  obtain ⟨l, rfl, h⟩ := onLoc_is h
  apply hv.onLoc; intro _ ea
  obtain ⟨o, h1, h⟩ := onO_is h
  obtain ⟨C, d, rfl, h⟩ := onInst_is (show onInst o _ = true from h)
  obtain ⟨r, hC, h⟩ := onO_is (show onO (S.cl.get C) _ = true from h)
  obtain ⟨hm, h⟩ := mt (show (match memS x r.fld with | true => _ | false => false) = true from h)
  obtain ⟨p, h2, h⟩ := onO_is h
  obtain ⟨fs, rfl, h⟩ := onNs_is (show onNs p _ = true from h)
  obtain ⟨u, hl, h⟩ := onO_is h
  obtain ⟨hp, h⟩ := mt (show (match plainV u with | true => _ | false => false) = true from h)
  obtain ⟨dx, es, kk, e1, e2, e3, e4, e5⟩ := R.inst h1 h2 ea
  have g := ns_get x e3
  rw [hl] at g
  obtain ⟨cv, g1, g2⟩ := g
  have Y := G.C C r hC
  exact get_value XS e5 Y.ga (findObj_own (attr := none) Y.hd (Y.fl x (memS_is hm)) rfl g1) (plainV_is g2 hp) (hQ _ _ _ (R.toks _) g2 h)

noncomputable def setA4 (σ : St) (d : Nat) (fs : List (Str × AV)) (k : St → Bool) : Bool := match Nat.ble fs.length 1000 with
  | true => match Nat.ble σ.nl 1000000000 with
    | true => k (σ.upd d (.ns fs))
    | false => false
  | false => false
noncomputable def setA3 (σ : St) (x : Str) (u : AV) (k : St → Bool) (d : Nat) (p : AO) : Bool := onNs p fun fs => setA4 σ d (sto x u fs) k
noncomputable def setA2 (σ : St) (x : Str) (u : AV) (k : St → Bool) (d : Nat) (r : ClR) : Bool := match memS x r.fld with
  | true => onO (σ.hp.get d) (setA3 σ x u k d)
  | false => false
noncomputable def setA1 (S : SE) (σ : St) (x : Str) (u : AV) (k : St → Bool) (C : Addr) (d : Nat) : Bool := onO (S.cl.get C) (setA2 σ x u k d)
noncomputable def setA0 (S : SE) (σ : St) (x : Str) (u : AV) (k : St → Bool) (o : AO) : Bool := onInst o (setA1 S σ x u k)
noncomputable def setA (S : SE) (σ : St) (v : AV) (x : Str) (u : AV) (k : St → Bool) : Bool := onLoc v fun l => onO (σ.hp.get l) (setA0 S σ x u k)
theorem mem_split {α : Type} {a : α} : ∀ {l : List α}, a ∈ l → ∃ s t, l = s ++ a :: t := fun h => List.append_of_mem h

theorem setA_ok {S : SE} (G : EnvOK w os0 K S) (R : Rel os0 h₀ L m W σ s) (XS : K.In s.heap) {v u : AV} {c cu : Value} {x : Str} {k : St → Bool} {Q : Unit → Shared → Prop} (hv : VR W v c) (hu : VR W u cu) (h : setA S σ v x u k = true)
    (hQ : ∀ σ' s', Rel os0 h₀ L m W σ' s' → k σ' = true → Q () s') : wpAny (model prog w) A (setAttr c x cu) Q E s := by
  obtain ⟨l, rfl, h⟩ := onLoc_is h
  apply hv.onLoc; intro _ ea
  obtain ⟨o, h1, h⟩ := onO_is h
  obtain ⟨C, d, rfl, h⟩ := onInst_is (show onInst o _ = true from h)
  obtain ⟨r, hC, h⟩ := onO_is (show onO (S.cl.get C) _ = true from h)
  obtain ⟨hm, h⟩ := mt (show (match memS x r.fld with | true => _ | false => false) = true from h)
  obtain ⟨p, h2, h⟩ := onO_is h
  obtain ⟨fs, rfl, h⟩ := onNs_is (show onNs p _ = true from h)
  obtain ⟨hb, h⟩ := mt (show (match Nat.ble (sto x u fs).length 1000 with | true => _ | false => false) = true from h)
  obtain ⟨hn, h⟩ := mt h
  have hb := Nat.le_of_ble_eq_true hb
  have hn := Nat.le_of_ble_eq_true hn
  obtain ⟨dx, es, kk, e1, e2, e3, e4, e5⟩ := R.inst h1 h2 ea
  have Y := G.C C r hC
  obtain ⟨news, N, Cv, I, D⟩ := R.toNews
  obtain ⟨gt, T, F⟩ := R.fr
  obtain ⟨a', c', q1, q2, q3⟩ := Cv d _ h2
  rw [e1] at q1
  obtain rfl := Option.some.inj q1
  have : c' = dictOf es kk := by
    have := (N _ q3).1
    rw [e2] at this
    exact (Option.some.inj this).symm
  subst this
  obtain ⟨pre, post, rfl⟩ := mem_split q3
  have np : (∀ p ∈ pre, p.1 ≠ dx) ∧ ∀ p ∈ post, p.1 ≠ dx := by
    rw [List.map_append, List.map_cons, List.nodup_append] at D
    obtain ⟨_, D2, D3⟩ := D
    rw [List.nodup_cons] at D2
    exact ⟨fun p hp e => D3 p.1 (List.mem_map_of_mem hp) dx (.head _) e, fun p hp e => D2.1 (List.mem_map.mpr ⟨p, hp, e⟩)⟩
  have hput : NsR W (sto x u fs) (putL x (PyData.keyHash w.params x) (.str x (s.toks + 1)) cu es) := ns_put hu e3
  have g := ns_get x e3
  have hgl : (getL x es).isSome = true := by
    cases q : lk x fs with
    | some v => rw [q] at g; obtain ⟨cv, g1, _⟩ := g; rw [g1]; rfl
    | none => rw [q] at g; dsimp only at g; rw [g]; rfl
  refine set_plain XS e5 Y.sa ?_
  refine osa_dict (s := { s with toks := s.toks + 1 }) F (newsTurn T N) XS e5 rfl Y.po ?_ Y.hd hgl np.1 np.2 (putName_dict _ _ _ _ _ _) rfl ?_ fun h' F' N' => ?_
  · unfold takerIn
    rw [Y.fl x (memS_is hm)]; rfl
  · rw [← hput.length]; exact hb
  · refine hQ (σ.upd d (.ns (sto x u fs))) _ (R.store (s' := { heap := h', gens := s.gens, drawn := s.drawn, toks := s.toks + 1 + 1, os := s.os }) h2 e1 (by omega) Cv ⟨gt, T, F'⟩ (newsBack T N') (List.mem_append_right _ (.head _)) (fun p hp hne => ?_) (.ns hput) R.lcs rfl rfl) h
    rcases List.mem_append.mp hp with z | z
    · exact List.mem_append_left _ z
    · rcases List.mem_cons.mp z with rfl | z
      · exact absurd rfl hne
      · exact List.mem_append_right _ (.tail _ z)
/-- a new object, by its class -/
noncomputable def callC (S : SE) (ex : ExT) (C : Addr) (vs : List AV) (σ : St) (k : AV → St → Bool) : Bool := match S.cl.get C with
  | none => false
  | some r => match Nat.ble σ.nl 1000000000 with
    | false => false
    | true => callFn S ex r.init (.loc (σ.nl + 1) :: vs) ((σ.alloc (.ns [])).alloc (.inst C σ.nl)) fun v σ' => match v with
      | .none => k (.loc (σ.nl + 1)) σ'
      | _ => false

theorem callC_ok {S : SE} (G : EnvOK w os0 K S) {ex : ExT} (hex : ExOK prog w K p loose mean mg mb os0 n ex) (f : Fc K p loose mean mg mb (n + 1) A base h₀ L) {C : Addr} {vs : List AV} {cs : List Value} {k : AV → St → Bool} {Q : Value → Shared → Prop}
    (R : Rel os0 h₀ L m W σ s) (hv : All2 (VR W) vs cs) (h : callC S ex C vs σ k = true) (hQ : ∀ W' v c σ' s', W.le W' → Rel os0 h₀ L m W' σ' s' → VR W' v c → k v σ' = true → Q c s') : wpX (model prog w) A (call (.ref C) cs) Q E s := by
  unfold callC at h
  cases hC : S.cl.get C with
  | none => rw [hC] at h; exact ff h
  | some r =>
    rw [hC] at h
    dsimp only at h
    obtain ⟨hb, h⟩ := mf h
    have hb := Nat.le_of_ble_eq_true hb
    have Y := G.C C r hC
    obtain ⟨news, N, Cv, I, D⟩ := R.toNews
    obtain ⟨gt, T, F⟩ := R.fr
    refine call_cls F (f.XB.keeps (f.st T)) (newsTurn T N) Y.mks Y.ini Y.inf fun x dx h' F' N' lt1 lt2 => ?_
    replace N' := newsBack T N'
    replace F' : Gr h₀ L h' m := ⟨gt, T, F'⟩
    have hle : W.le ((W.grow dx).grow x) := W.le_trans (W.le_grow _) ((W.grow dx).le_grow _)
    obtain ⟨R1, C1⟩ := R.join (s' := { s with heap := h' }) (o := .ns []) (a := dx) (c := dictOf [] 0) (m' := m) (by omega) Cv F' (fun p hp => N' p (.tail _ hp)) (fun p hp => Nat.ne_of_lt (lt1 p hp)) (.ns .nil) (fun y v e => let ⟨c, a, b⟩ := R.lcs y v e; ⟨c, a, b.mono (W.le_grow _)⟩) rfl rfl
    have e1 : ((W.grow dx).grow x).ρ[σ.nl]? = some dx := pre_get ((W.grow dx).le_grow x).1 (R.here dx)
    obtain ⟨R', C2⟩ := R1.join (s' := { s with heap := h' }) (o := .inst C σ.nl) (a := x) (c := instObj C dx) (m' := m) (by show σ.nl + 1 < 2 ^ 40; omega) C1 F' N' (fun p hp => by rcases List.mem_cons.mp hp with rfl | hp; exact Nat.ne_of_lt lt2; exact Nat.ne_of_lt (Nat.lt_trans (lt1 p hp) lt2)) (.inst e1) (fun y v e => let ⟨c, a, b⟩ := R1.lcs y v e; ⟨c, a, b.mono (Wd.le_grow _ _)⟩) rfl rfl
    have e2 : ((W.grow dx).grow x).ρ[σ.nl + 1]? = some x := R1.here x
    have hdep : (A.under (Code.builtin "type.__call__" { pos := Value.ref C :: cs, kw := [] })).depth = A.depth + 1 := by
      show A.depth + Code.weight _ = _
      congr 1
    have hun : (A.under (Code.builtin "type.__call__" { pos := Value.ref C :: cs, kw := [] })).units = A.units + 1 := by
      show A.units + Code.cUnits _ = _
      congr 1
    have f' : Fc K p loose mean mg mb n (A.under (Code.builtin "type.__call__" { pos := Value.ref C :: cs, kw := [] })) base h₀ L :=
      ⟨let ⟨A₀, fe, ou, B, h1, h2, h3⟩ := f.fs; ⟨A₀, fe, ou, B, h1, h2, h3⟩, f.XB, f.TB, f.hh, by rw [hdep]; have := f.hd; omega, by rw [hun]; have := f.hu; omega⟩
    refine callFn_ok G.F hex f' (by rw [hdep]; have := f.hd; omega) (by rw [hun]; have := f.hu; omega) R' (.cons (.loc e2) (hv.imp fun _ _ q => q.mono hle)) h fun W' v c σ' s' l1 R1 v1 h1 => ?_
    split at h1
    · cases v1
      exact ⟨rfl, hQ W' _ _ _ _ (W.le_trans hle l1) R1 (.loc (pre_get l1.1 e2)) h1⟩
    · exact ff h1
end
end Mine

namespace Mine
open PySem PySem.W PySem.Calls PyProof.Rows PySem.SeqAt
set_option maxRecDepth 100000

/-! ## properties -/
theorem gh_nd (args : Args) : notDec (.builtin "proto.getattr_hooked" args) = true := by
  show (!(Builtin.Bytes.decodersThatHold.contains "proto.getattr_hooked") && !(heldBy.contains "proto.getattr_hooked")) = true
  decide +kernel
theorem pg_nd (args : Args) : notDec (.builtin "property.__get__" args) = true := by
  show (!(Builtin.Bytes.decodersThatHold.contains "property.__get__") && !(heldBy.contains "property.__get__")) = true
  decide +kernel
section
variable {prog : Program} {w : World} {A : Around} {E : Value → Shared → Prop} {s : Shared} {K : Frag} {x C : Addr} {ox : Obj} {od : Option Obj} {name : Str} {expr : Bool} {Q : Value → Shared → Prop}
theorem gh_plain : plainId "proto.getattr_hooked" = true := by decide +kernel
theorem xget_prop {p fget : Addr} {rest : List Value} (X : K.In s.heap) (I : InstAt s.heap x ox C od) (hga : findIn K (.ref C) "__getattribute__" = some (some (.builtin "object.__getattribute__")))
    (hf : findObj K C od name = some (.bind (.builtin "property.__get__") (.ref p))) (hk : findIn K (.ref C) "__getattr__" = some none) (hp : recIn K p "property" = some (.ref fget :: rest))
    (h : codeX (model prog w) A.in1 (.call (.ref fget) ⟨[.ref x], []⟩) (fun r s' => match r with | .ok (.ret v) => handedIn v = true ∧ Q v s' | _ => False) { s with toks := s.toks + 1 }) :
    wpX (model prog w) A (getAttr (.ref x) name expr) Q E s := by
  obtain ⟨dd, sl, ho⟩ := rec_of X hp
  obtain ⟨hh, g, d, t, os⟩ := s
  have L0 := I.type (M := model prog w)
  have L1 := looks_findIn (M := model prog w) X hga
  have L2 := looks_find (M := model prog w) X I hf
  have L3 := looks_findIn (M := model prog w) X hk
  unfold getAttr getAttrBy
  refine xleaf (wpAny_mkText ?_)
  refine xhold (xlook L0 (xlook L1 ?_))
  show wpX _ _ (getAttrEveryday _ _ _) _ _ _
  unfold getAttrEveryday
  refine xbind (xonRaise (xno (xrunValue (gh_nd _) (cbuiltin F.plainObj_entry_getattr_hooked ?_))))
  rw [Around.under_plainId gh_plain _]
  refine xbind (xpure (xlook L0 (xlook L2 ?_)))
  dsimp only
  refine xlook L3 ?_
  show wpX _ _ (holding [.ref p] (call (.builtin "property.__get__") [.ref p, .ref x, .ref C]) >>= ret) _ _ _
  refine xbind (xhold (xcall (ccallb (Code.quiet_builtin _ (by decide +kernel)) (pg_nd _) (KF.slot_prop.check _ _ _ _ _ _ _ _ ⟨_, ho, rfl⟩ (KF.args_prop _ _ _) (cbuiltin KF.entry_prop ?_)))))
  rw [Around.under_plainId KF.slot_prop.plain _]
  unfold Builtin.«property.__get__»
  refine xeq (r := (.ref p, some (.ref x), some (.ref C))) (by rfl) ?_
  dsimp only
  refine xleaf (wpAny_field ho rfl (x := .ref fget) (by simp) ?_)
  show wpX _ _ (if (Value.ref fget == Value.none) = true then _ else _) _ _ _
  rw [if_neg (show ¬ ((Value.ref fget == Value.none) = true) from Bool.false_ne_true)]
  refine xpure (a := Fin.again (.call (.ref fget) ⟨[.ref x], []⟩)) ⟨rfl, rfl, cmono h fun r s' z => ?_⟩
  induction r using Except.casesOn with
  | error e => exact z.elim
  | ok f =>
    induction f using PySem.Flow.casesOn with
    | ret v =>
      refine xpure ?_
      show wpX _ _ (handedOut v) _ _ _
      rw [handedOut_of z.1]
      exact xpure z.2
    | _ => exact z.elim
end
end Mine

namespace Mine
open PySem PySem.W PySem.Calls PyProof.Rows PySem.SeqAt
set_option maxRecDepth 100000

theorem by_b_bytes : typeLookup (.type "bytes") "__bytes__" = pure (some (.builtin "bytes.__bytes__")) := by rw [typeLookup_type, builtinLookup_eq_fast]; kernel_rfl
theorem by_i_bytes : typeLookup (.type "int") "__bytes__" = pure none := by rw [typeLookup_type, builtinLookup_eq_fast]; kernel_rfl
theorem by_i_index : typeLookup (.type "int") "__index__" = pure (some (.builtin "int.__index__")) := by rw [typeLookup_type, builtinLookup_eq_fast]; kernel_rfl
section
variable {prog : Program} {w : World} {A : Around} {E : Value → Shared → Prop} {s : Shared}
theorem bm_newB {b : Array UInt8} {t : Tok} {Q : Value → Shared → Prop} (hQ : Q (.bytes b t) s) :
    codeAny (model prog w) A (.call (.builtin "bytes.__new__") ⟨[.type "bytes", .bytes b t], []⟩) (wants Q E) s := by
  refine codeAny_of_tree ?_
  show wpAny _ A.in1 (do checkBuiltinCall "bytes.__new__" ⟨[.type "bytes", .bytes b t], []⟩; again (.builtin "bytes.__new__" ⟨[.type "bytes", .bytes b t], []⟩)) _ _ s
  refine wpAny_bind (wpAny_of_eq (F.bm_newCall _) (wpAny_pure ⟨plainId_quiet F.bm_plain _, codeAny_builtin F.bm_entry ?_⟩))
  rw [Around.under_plainId F.bm_plain _]
  have hT : s.TypeIs (.bytes b t) "bytes" := typeIs_bytes _ _ _
  unfold Builtin.«bytes.__new__»
  refine wpAny_bind (wpAny_of_eq (a := true) rfl ?_)
  refine bm_if_false rfl ?_
  refine wpAny_bind (wpAny_of_eq F.bm_sub ?_)
  refine bm_if_false rfl ?_
  refine wpAny_bind (wpAny_of_eq (F.bm_bind _) ?_)
  refine wpAny_bind (wpAny_of_eq (a := ()) rfl ?_)
  refine wpAny_bind (wpAny_of_eq (a := ()) rfl ?_)
  refine bm_if_false rfl ?_
  refine wpAny_bind (wpAny_specialOf hT by_b_bytes ?_)
  refine wpAny_bind (wpAny_rule ?_)
  refine wpAny_bind (wpAny_of_eq (a := .type "bytes") rfl ?_)
  refine bm_if_true rfl ?_
  exact wpAny_of_eq (a := .done (.ret (.bytes b t))) rfl hQ
theorem call_bytes_bytes {b : Array UInt8} {t : Tok} {Q : Value → Shared → Prop} (hQ : Q (.bytes b t) s) : wpAny (model prog w) A (call (.type "bytes") [.bytes b t]) Q E s := by
  refine callType_codes (Q₁ := fun obj s₁ => s₁.TypeIs obj "bytes" ∧ Q obj s₁) F.bm_called (F.bm_typeCall _) F.entry_object_init
    (bm_newB ⟨PySem.W.typeIs_bytes _ _ _, hQ⟩) fun obj s₁ h₁ => ?_
  exact ⟨h₁.1, F.args_object_init_2 obj _, object_init_meets F.bm_called.init.lookup F.bm_called.made (by decide) prog w A.in1 _ s₁ ⟨h₁.1, rfl, h₁.2⟩⟩
theorem bm_newI {n : Int} {t : Tok} {Q : Value → Shared → Prop} (h0 : 0 ≤ n) (h1 : n ≤ 1000000) (hQ : Q (.bytes (Array.replicate n.toNat 0) s.toks) { s with toks := s.toks + 1 }) :
    codeAny (model prog w) A (.call (.builtin "bytes.__new__") ⟨[.type "bytes", .int n t], []⟩) (wants Q E) s := by
  refine codeAny_of_tree ?_
  show wpAny _ A.in1 (do checkBuiltinCall "bytes.__new__" ⟨[.type "bytes", .int n t], []⟩; again (.builtin "bytes.__new__" ⟨[.type "bytes", .int n t], []⟩)) _ _ s
  refine wpAny_bind (wpAny_of_eq (F.bm_newCall _) (wpAny_pure ⟨plainId_quiet F.bm_plain _, codeAny_builtin F.bm_entry ?_⟩))
  rw [Around.under_plainId F.bm_plain _]
  have hT : s.TypeIs (.int n t) "int" := typeIs_int _ _ _
  unfold Builtin.«bytes.__new__»
  refine wpAny_bind (wpAny_of_eq (a := true) rfl ?_)
  refine bm_if_false rfl ?_
  refine wpAny_bind (wpAny_of_eq F.bm_sub ?_)
  refine bm_if_false rfl ?_
  refine wpAny_bind (wpAny_of_eq (F.bm_bind _) ?_)
  refine wpAny_bind (wpAny_of_eq (a := ()) rfl ?_)
  refine wpAny_bind (wpAny_of_eq (a := ()) rfl ?_)
  refine bm_if_false rfl ?_
  refine wpAny_bind (wpAny_specialOf hT by_i_bytes ?_)
  refine wpAny_bind (wpAny_of_eq (a := false) rfl ?_)
  refine bm_if_false rfl ?_
  refine wpAny_bind (wpAny_specialOf hT by_i_index ?_)
  refine bm_if_false rfl ?_
  refine wpAny_bind (wpAny_of_eq (a := .ok n) rfl ?_)
  have e1 : Builtin.Bytes.fitsIndex n = true := by unfold Builtin.Bytes.fitsIndex; simp; omega
  have e2 : Builtin.Bytes.tooLong n.toNat = false := by unfold Builtin.Bytes.tooLong; rw [sizeLine_eq]; simp; omega
  refine bm_if_false (by rw [e1]; rfl) ?_
  rw [if_neg (show ¬ n < 0 by omega)]
  rw [if_neg (show ¬ n > 2 ^ 63 - 34 by omega)]
  refine bm_if_false e2 ?_
  refine wpAny_bind (wpAny_rule ?_)
  refine wpAny_bind (wpAny_mkBytes ?_ (by rw [Array.size_replicate, sizeLine_eq]; omega))
  exact wpAny_of_eq (a := .done (.ret (.bytes (Array.replicate n.toNat 0) s.toks))) rfl hQ
theorem call_bytes_int {n : Int} {t : Tok} {Q : Value → Shared → Prop} (h0 : 0 ≤ n) (h1 : n ≤ 1000000) (hQ : Q (.bytes (Array.replicate n.toNat 0) s.toks) { s with toks := s.toks + 1 }) : wpAny (model prog w) A (call (.type "bytes") [.int n t]) Q E s := by
  refine callType_codes (Q₁ := fun obj s₁ => s₁.TypeIs obj "bytes" ∧ Q obj s₁) F.bm_called (F.bm_typeCall _) F.entry_object_init
    (bm_newI h0 h1 ⟨PySem.W.typeIs_bytes _ _ _, hQ⟩) fun obj s₁ h₁ => ?_
  exact ⟨h₁.1, F.args_object_init_2 obj _, object_init_meets F.bm_called.init.lookup F.bm_called.made (by decide) prog w A.in1 _ s₁ ⟨h₁.1, rfl, h₁.2⟩⟩
end
end Mine

namespace Mine
open PySem PySem.W PySem.Calls PyProof.Rows PySem.SeqAt
set_option maxRecDepth 100000

noncomputable def nth {α : Type} (l : List α) : Nat → Option α := List.rec (motive := fun _ => Nat → Option α) (fun _ => none) (fun x _ ih i => Nat.rec (some x) (fun j _ => ih j) i) l
theorem nth_is {α : Type} : ∀ {l : List α} {i : Nat}, nth l i = l[i]?
  | [], _ => rfl
  | _ :: _, 0 => rfl
  | _ :: r, i + 1 => nth_is (l := r) (i := i)

noncomputable def allocA (σ : St) (o : AO) (k : AV → St → Bool) : Bool := match Nat.ble σ.nl 1000000000 with
  | true => k (.loc σ.nl) (σ.alloc o)
  | false => false

section
variable {os0 : (Array Nat → Int) × OsState} {h₀ : Gd} {L : Addr} {m : Str → Option Value} {W : Wd} {σ : St} {s : Shared}
theorem low {n : Nat} (h : Nat.ble n 1000000000 = true) : n < 2 ^ 40 := Nat.lt_of_le_of_lt (Nat.le_of_ble_eq_true h) (by decide)
theorem Rel.allocA (R : Rel os0 h₀ L m W σ s) {o : AO} {c : Obj} {k : AV → St → Bool} (h : allocA σ o k = true) (ho : OR (W.grow s.heap.objs.size) o c) :
    Rel os0 h₀ L m (W.grow s.heap.objs.size) (σ.alloc o) { s with heap := s.heap.push c } ∧ VR (W.grow s.heap.objs.size) (.loc σ.nl) (.ref s.heap.objs.size) ∧ k (.loc σ.nl) (σ.alloc o) = true := by
  obtain ⟨hb, h⟩ := mt h
  exact ⟨R.push (low hb) ho, .loc (R.here _), h⟩

/-- a new object that some work has laid -/
theorem Rel.came (R : Rel os0 h₀ L m W σ s) {o : AO} {c : Obj} {k : AV → St → Bool} {h' : Heap} {t : Nat} {a : Addr} (h : Mine.allocA σ o k = true) (hk : ∀ b x, s.heap.get? b = some x → h'.get? b = some x) (hl : h'.get? a = some c) (ha : s.heap.get? a = none) (ho : OR (W.grow a) o c) :
    Rel os0 h₀ L m (W.grow a) (σ.alloc o) { s with heap := h', toks := t } ∧ VR (W.grow a) (.loc σ.nl) (.ref a) ∧ k (.loc σ.nl) (σ.alloc o) = true := by
  refine Classical.byContradiction fun hgo => ?_
  obtain ⟨hn, h⟩ := mt h
  obtain ⟨news, N, C, _, _⟩ := R.toNews
  refine hgo ?_
  have hne : ∀ b o, s.heap.get? b = some o → b ≠ a := fun b o e q => no_some (ha.symm.trans (q ▸ e))
  have hL : a ≠ L := by
    obtain ⟨oL, _, _, hLo, _⟩ := R.fr.ns
    exact Ne.symm (hne _ _ hLo)
  have h0 : h₀.g.get? a = none := R.fr.none_at ha
  obtain ⟨R', _⟩ := R.join (s' := { s with heap := h', toks := t }) (o := o) (m' := m) (low hn) C (R.fr.keeps hk) (fun p hp => by
    rcases List.mem_cons.mp hp with rfl | hp
    · exact ⟨hl, hL, h0⟩
    · exact ⟨hk _ _ (N p hp).1, (N p hp).2⟩) (fun p hp => hne _ _ (N p hp).1) ho (fun x v e => let ⟨c, a, b⟩ := R.lcs x v e; ⟨c, a, b.mono (W.le_grow _)⟩) rfl rfl
  exact ⟨R', .loc (R.here _), h⟩
/-- some work has laid what is of no name -/
theorem Rel.kept (R : Rel os0 h₀ L m W σ s) {h' : Heap} {t : Nat} (hk : ∀ b x, s.heap.get? b = some x → h'.get? b = some x) : Rel os0 h₀ L m W σ { s with heap := h', toks := t } := by
  obtain ⟨news, N, C, _, _⟩ := R.toNews
  exact R.anew (σ' := σ) (R.fr.keeps hk) (fun p hp => ⟨hk _ _ (N p hp).1, (N p hp).2⟩) C R.lcs rfl rfl rfl rfl rfl R.scr
theorem get_size_none (h : Heap) : h.get? h.objs.size = none := by
  cases q : h.get? h.objs.size with
  | none => rfl
  | some o => exact absurd (Heap.lt_size q) (Nat.lt_irrefl _)

/-- one object's own heap cell changes at will: it is let go -/
theorem Rel.let (R : Rel os0 h₀ L m W σ s) {s' : Shared} {l : Nat} {a : Addr} {o : AO} (hl : σ.hp.get l = some o) (ha : W.ρ[l]? = some a) (hn : σ.nl < 2 ^ 40) (hk : Heap.ExtBut a s.heap s'.heap) (hg : s'.gens = s.gens) (ho : s'.os = s.os) :
    Rel os0 h₀ L m W (σ.drop l) s' := by
  have hll : l < 2 ^ 40 := Nat.lt_trans (R.live hl) hn
  obtain ⟨a', c', h1, _, h3, h4, h5⟩ := R.led l o hl
  rw [ha] at h1
  obtain rfl := Option.some.inj h1
  have get : ∀ k ok, (σ.drop l).hp.get k = some ok → k ≠ l ∧ σ.hp.get k = some ok := by
    intro k ok e
    unfold St.drop at e
    rw [Tr.get_put _ 40 _ _ _ hll] at e
    by_cases q : k = l
    · rw [if_pos q] at e; exact no_some e
    · rw [if_neg q] at e; exact ⟨q, e⟩
  obtain ⟨gt, T, F⟩ := R.fr
  refine ⟨⟨gt, T, F.ns.extBut hk (Ne.symm h4), fun b x e => hk b x (fun q => ?_) (F.keep b x e), F.above⟩, R.lcs, fun k ok e => ?_, R.len, fun k k' o1 o2 e1 e2 e => R.inj k k' o1 o2 (get k o1 e1).2 (get k' o2 e2).2 e, hg.trans R.gens, ho.trans R.os, R.vars, R.scr, R.par⟩
  · rw [q, T.none_ a h5] at e; exact no_some e
  · obtain ⟨q, e⟩ := get k ok e
    obtain ⟨b, d, g1, g2, g3, g4, g5⟩ := R.led k ok e
    exact ⟨b, d, g1, g2, hk b d (fun z => q (R.inj k l ok o e hl (by rw [g1, ha, z]))) g3, g4, g5⟩
end

/-- an iterator made -/
noncomputable def iterO (σ : St) (l : Nat) (o : AO) (k : AV → St → Bool) : Bool := match o with
  | .lst _ => allocA σ (.lstIt l 0) k
  | .tup _ => allocA σ (.tupIt l 0) k
  | .rng a b => match Builtin.Range.small a b 1 with
    | true => allocA σ (.rngIt a (Builtin.Range.rangeSize a b 1)) k
    | false => false
  | .dct es n => allocA σ (.keyIt l 0 es.length n) k
  | _ => false
noncomputable def iterA (σ : St) (v : AV) (k : AV → St → Bool) : Bool := match v with
  | .loc l => onO (σ.hp.get l) fun o => iterO σ l o k
  | _ => false
noncomputable def dropA (σ : St) (i : Nat) (k : St → Bool) : Bool := match Nat.ble σ.nl 1000000000 with
  | true => k (σ.drop i)
  | false => false
noncomputable def updA (σ : St) (i : Nat) (o : AO) (k : St → Bool) : Bool := match Nat.ble σ.nl 1000000000 with
  | true => k (σ.upd i o)
  | false => false
noncomputable def rsiOf (o : AO) : Option (Int × IE) := match o with
  | .rngSI x e => some (x, e)
  | _ => none
theorem rsiOf_is {o : AO} {q : Int × IE} (h : rsiOf o = some q) : o = .rngSI q.1 q.2 := by
  induction o using Mine.AO.casesOn with
  | rngSI x e => rw [← Option.some.inj (show some (x, e) = some q from h)]
  | _ => exact no_some h
/-- the next thing of an iterator -/
noncomputable def nxt (σ : St) (i : Nat) (o : AO) (q : Option AV) (k : Option AV → St → Bool) : Bool := match q with
  | some x => updA σ i o fun σ' => k (some x) σ'
  | none => dropA σ i fun σ' => k none σ'
noncomputable def nextO (σ : St) (i : Nat) (o : AO) (k : Option AV → St → Bool) : Bool := match o with
  | .lstIt l j => onO ((σ.hp.get l).bind lstOf) fun vs => nxt σ i (.lstIt l (j + 1)) (nth vs j) k
  | .tupIt l j => onO ((σ.hp.get l).bind tupOf) fun vs => nxt σ i (.tupIt l (j + 1)) (nth vs j) k
  | .rngIt x left => match decide (0 < left) with
    | true => updA σ i (.rngIt (x + 1) (left - 1)) fun σ' => k (some (.int (IE.lit x))) σ'
    | false => dropA σ i fun σ' => k none σ'
  | .rngSI _ e => ltA σ (IE.lit 0) e fun r σ' => onO ((σ'.hp.get i).bind rsiOf) fun q => match r with
    | true => updA σ' i (.rngSI (q.1 + 1) (q.2.sub (IE.lit 1))) fun σ'' => k (some (.int (IE.lit q.1))) σ''
    | false => dropA σ' i fun σ'' => k none σ''
  | .keyIt l j many n => onO ((σ.hp.get l).bind dctOf) fun q => match Nat.beq n q.2 && Nat.beq many q.1.length with
    | true => nxt σ i (.keyIt l (j + 1) many n) ((nth q.1 j).map (·.2.1)) k
    | false => false
  | _ => false
noncomputable def nextA (σ : St) (v : AV) (k : Option AV → St → Bool) : Bool := match v with
  | .loc i => onO (σ.hp.get i) fun o => nextO σ i o k
  | _ => false

section
variable {prog : Program} {w : World} {A : Around} {E : Value → Shared → Prop} {os0 : (Array Nat → Int) × OsState} {h₀ : Gd} {L : Addr} {m : Str → Option Value} {W : Wd} {σ : St} {s : Shared}
theorem all_get {vs : List AV} {cs : List Value} (h : All2 (VR W) vs cs) {j : Nat} : (∀ x, nth vs j = some x → ∃ c, cs.toArray[j]? = some c ∧ VR W x c) ∧ (nth vs j = none → cs.toArray[j]? = none) := by
  constructor
  · intro x e
    rw [nth_is] at e
    obtain ⟨c, h1, h2⟩ := h.get e
    exact ⟨c, (List.getElem?_toArray ..).trans h1, h2⟩
  · intro e
    rw [nth_is, List.getElem?_eq_none_iff] at e
    rw [List.getElem?_toArray, List.getElem?_eq_none_iff, ← h.length]; exact e

theorem iterA_ok (R : Rel os0 h₀ L m W σ s) {v : AV} {c : Value} {k : AV → St → Bool} {Q : Value → Shared → Prop} (hv : VR W v c) (h : iterA σ v k = true)
    (hQ : ∀ W' v c σ' s', W.le W' → Rel os0 h₀ L m W' σ' s' → VR W' v c → k v σ' = true → Q c s') : wpAny (model prog w) A (pyIter c) Q E s := by
  induction v using Mine.AV.casesOn with
  | loc l =>
    apply hv.onLoc; intro _ ea
    obtain ⟨o, e1, h⟩ := onO_is (show onO (σ.hp.get l) _ = true from h)
    obtain ⟨ci, k1, k2⟩ := R.ref e1 ea
    induction o using Mine.AO.casesOn with
    | lst vs =>
      obtain ⟨cx, hx, tx⟩ := lst_at k1 k2
      refine wpAny_pyIter_list tx ?_
      obtain ⟨R', v', h'⟩ := R.allocA (c := { cls := .type "list_iterator", data := .fields #[.ref _, .int 0 0] }) (show Mine.allocA σ (.lstIt l 0) k = true from h) (.lstIt (pre_get (W.le_grow _).1 ea) rfl rfl)
      exact hQ _ _ _ _ _ (W.le_grow _) R' v' h'
    | tup vs =>
      obtain ⟨cx, hx, tx⟩ := tup_at k1 k2
      refine wpAny_pyIter_tuple tx ?_
      obtain ⟨R', v', h'⟩ := R.allocA (c := { cls := .type "tuple_iterator", data := .fields #[.ref _, .int 0 0] }) (show Mine.allocA σ (.tupIt l 0) k = true from h) (.tupIt (pre_get (W.le_grow _).1 ea) rfl rfl)
      exact hQ _ _ _ _ _ (W.le_grow _) R' v' h'
    | rng a b =>
      obtain ⟨hs, h⟩ := mt (show (match Builtin.Range.small a b 1 with | true => Mine.allocA σ (.rngIt a (Builtin.Range.rangeSize a b 1)) k | false => false) = true from h)
      obtain ⟨_, _, _, rfl⟩ := k1.inv
      refine wpAny_pyIter_range k2 hs ?_
      obtain ⟨R', v', h'⟩ := R.allocA (c := { cls := .type "range_iterator", data := .fields #[rawInt _, rawInt _, rawInt 1] }) h .rngIt
      exact hQ _ _ _ _ _ (W.le_grow _) R' v' h'
    | dct es n =>
      obtain ⟨ds, rfl, hd, _⟩ := k1.inv
      obtain ⟨a', c', z1, _, _, z4, z5⟩ := R.led l _ e1
      obtain rfl := Option.some.inj (ea.symm.trans z1)
      refine raw_iter k2 (R.nosys z5) ?_
      rw [← hd.length]
      obtain ⟨R', v', h'⟩ := R.allocA (c := keyItOf _ 0 es.length n) (show Mine.allocA σ (.keyIt l 0 es.length n) k = true from h) (.keyIt (pre_get (W.le_grow _).1 ea))
      exact hQ _ _ _ _ _ (W.le_grow _) R' v' h'
    | _ => exact ff h
  | _ => exact ff h

theorem dropA_ok (R : Rel os0 h₀ L m W σ s) {s' : Shared} {i : Nat} {a : Addr} {o : AO} {k : St → Bool} (hl : σ.hp.get i = some o) (ha : W.ρ[i]? = some a) (hk : Heap.ExtBut a s.heap s'.heap) (hg : s'.gens = s.gens) (ho : s'.os = s.os) (h : dropA σ i k = true) :
    Rel os0 h₀ L m W (σ.drop i) s' ∧ k (σ.drop i) = true := by
  obtain ⟨hb, h⟩ := mt h
  exact ⟨R.let hl ha (low hb) hk hg ho, h⟩
theorem updA_ok (R : Rel os0 h₀ L m W σ s) {s' : Shared} {i : Nat} {a : Addr} {o o' : AO} {c : Obj} {k : St → Bool} (hl : σ.hp.get i = some o) (ha : W.ρ[i]? = some a) (hs : Heap.SameBut a s.heap s'.heap) (ho : OR W o' c) (hc : s'.heap.get? a = some c) (hg : s'.gens = s.gens) (hos : s'.os = s.os) (h : updA σ i o' k = true) :
    Rel os0 h₀ L m W (σ.upd i o') s' ∧ k (σ.upd i o') = true := by
  obtain ⟨hb, h⟩ := mt h
  exact ⟨R.same ha hl (low hb) hs ho hc hg hos, h⟩

theorem nxt_is {i : Nat} {o : AO} {q : Option AV} {k : Option AV → St → Bool} (h : nxt σ i o q k = true) : (∃ x, q = some x ∧ updA σ i o (fun σ' => k (some x) σ') = true) ∨ (q = none ∧ dropA σ i (fun σ' => k none σ') = true) := by
  induction q using Option.casesOn with
  | some x => exact .inl ⟨x, rfl, h⟩
  | none => exact .inr ⟨rfl, h⟩
section
variable {i l j : Nat} {a : Addr} {k : Option AV → St → Bool} {Q : Option Value → Shared → Prop} (hh : A.handled = none) (R : Rel os0 h₀ L m W σ s) (ea : W.ρ[i]? = some a)
  (hQ : ∀ σ' s', Rel os0 h₀ L m W σ' s' → (∀ x cx, VR W x cx → k (some x) σ' = true → Q (some cx) s') ∧ (k none σ' = true → Q none s'))
include hh R ea hQ
theorem next_lst (e1 : σ.hp.get i = some (.lstIt l j)) {vs : List AV} (e2 : σ.hp.get l = some (.lst vs)) (h : nxt σ i (.lstIt l (j + 1)) (nth vs j) k = true) : wpAny (model prog w) A (pyNext (.ref a)) Q E s := by
  obtain ⟨ci, k1, k2⟩ := R.ref e1 ea
  obtain ⟨_, la, f1, f2⟩ := k1.inv
  obtain ⟨cl, k3, k4⟩ := R.ref e2 la
  obtain ⟨cx, hx, tx⟩ := lst_at k3 k4
  rcases nxt_is h with ⟨x, hn, h⟩ | ⟨hn, h⟩
  · obtain ⟨c', z1, z2⟩ := (all_get hx).1 x hn
    refine wpAny_pyNext_list_item ⟨_, k2, f1, f2⟩ tx z1 fun h' hit hs => ?_
    obtain ⟨o', y1, y2, y3⟩ := hit
    obtain ⟨R', hk⟩ := updA_ok (s' := { s with heap := h' }) R e1 ea hs (.lstIt la y2 y3) y1 rfl rfl h
    exact (hQ _ _ R').1 _ _ z2 hk
  · refine wpAny_pyNext_list_end hh ⟨_, k2, f1, f2⟩ tx ((all_get hx).2 hn) fun h' he => ?_
    obtain ⟨R', hk⟩ := dropA_ok (s' := { s with heap := h' }) R e1 ea he rfl rfl h
    exact (hQ _ _ R').2 hk
theorem next_tup (e1 : σ.hp.get i = some (.tupIt l j)) {vs : List AV} (e2 : σ.hp.get l = some (.tup vs)) (h : nxt σ i (.tupIt l (j + 1)) (nth vs j) k = true) : wpAny (model prog w) A (pyNext (.ref a)) Q E s := by
  obtain ⟨ci, k1, k2⟩ := R.ref e1 ea
  obtain ⟨_, la, f1, f2⟩ := k1.inv
  obtain ⟨cl, k3, k4⟩ := R.ref e2 la
  obtain ⟨cx, hx, tx⟩ := tup_at k3 k4
  rcases nxt_is h with ⟨x, hn, h⟩ | ⟨hn, h⟩
  · obtain ⟨c', z1, z2⟩ := (all_get hx).1 x hn
    refine wpAny_pyNext_tuple_item ⟨_, k2, f1, f2⟩ tx z1 fun h' hit hs => ?_
    obtain ⟨o', y1, y2, y3⟩ := hit
    obtain ⟨R', hk⟩ := updA_ok (s' := { s with heap := h' }) R e1 ea hs (.tupIt la y2 y3) y1 rfl rfl h
    exact (hQ _ _ R').1 _ _ z2 hk
  · refine wpAny_pyNext_tuple_end hh ⟨_, k2, f1, f2⟩ tx ((all_get hx).2 hn) fun h' he => ?_
    obtain ⟨R', hk⟩ := dropA_ok (s' := { s with heap := h' }) R e1 ea he rfl rfl h
    exact (hQ _ _ R').2 hk
theorem next_rng {x left : Int} (e1 : σ.hp.get i = some (.rngIt x left)) (h : nextO σ i (.rngIt x left) k = true) : wpAny (model prog w) A (pyNext (.ref a)) Q E s := by
  obtain ⟨ci, k1, k2⟩ := R.ref e1 ea
  obtain rfl := k1.inv
  have h : (match decide (0 < left) with
    | true => updA σ i (.rngIt (x + 1) (left - 1)) fun σ' => k (some (.int (IE.lit x))) σ'
    | false => dropA σ i fun σ' => k none σ') = true := h
  cases hd : decide (0 < left) with
  | true =>
    rw [hd] at h
    refine wpAny_pyNext_range_item k2 (of_decide_eq_true hd) fun h' hit hs => ?_
    obtain ⟨R', hk⟩ := updA_ok (s' := { s with heap := h', toks := s.toks + 1 }) R e1 ea hs .rngIt hit rfl rfl h
    exact (hQ _ _ R').1 _ _ (.int _ (IE.ev_lit _ _)) hk
  | false =>
    rw [hd] at h
    refine wpAny_pyNext_range_end hh k2 (Int.not_lt.mp (of_decide_eq_false hd)) fun h' he => ?_
    obtain ⟨R', hk⟩ := dropA_ok (s' := { s with heap := h' }) R e1 ea he rfl rfl h
    exact (hQ _ _ R').2 hk
theorem next_rsi {x : Int} {e : IE} (e1 : σ.hp.get i = some (.rngSI x e)) (h : nextO σ i (.rngSI x e) k = true) : wpAny (model prog w) A (pyNext (.ref a)) Q E s := by
  obtain ⟨ci, k1, k2⟩ := R.ref e1 ea
  obtain ⟨left, rfl, ev⟩ := k1.inv
  have h1 : ltA σ (IE.lit 0) e (fun r σ' => onO ((σ'.hp.get i).bind rsiOf) fun q => match r with
    | true => updA σ' i (.rngSI (q.1 + 1) (q.2.sub (IE.lit 1))) fun σ'' => k (some (.int (IE.lit q.1))) σ''
    | false => dropA σ' i fun σ'' => k none σ'') = true := h
  obtain ⟨σ', R', h⟩ := ltA_ok R (IE.ev_lit W.ι 0) ev h1
  obtain ⟨⟨y, e'⟩, e2, h⟩ := onO_is h
  have e2 := at_is (C := fun q => AO.rngSI q.1 q.2) rsiOf_is e2
  obtain ⟨ci', k1', k2'⟩ := R'.ref e2 ea
  obtain ⟨left', rfl, ev'⟩ := k1'.inv
  have hc := Option.some.inj (k2.symm.trans k2')
  injection hc with _ _ hd _
  injection hd with hd
  have hd := congrArg Array.toList hd
  injection hd with hx hd
  injection hd with hl _
  injection hx with hx _
  injection hl with hl _
  subst hx hl
  cases hz : decide (0 < left) with
  | false =>
    rw [hz] at h
    have hz := of_decide_eq_false hz
    refine wpAny_pyNext_range_end hh k2 (by omega) fun h' he => ?_
    obtain ⟨R2, hk⟩ := dropA_ok (s' := { s with heap := h' }) R' e2 ea he rfl rfl h
    exact (hQ _ _ R2).2 hk
  | true =>
    rw [hz] at h
    have hz := of_decide_eq_true hz
    refine wpAny_pyNext_range_item k2 (by omega) fun h' hit hs => ?_
    obtain ⟨R2, hk⟩ := updA_ok (s' := { s with heap := h', toks := s.toks + 1 }) R' e2 ea hs (.rngSI (IE.ev_sub ev' (IE.ev_lit _ 1))) hit rfl rfl h
    exact (hQ _ _ R2).1 _ _ (.int _ (IE.ev_lit _ _)) hk
theorem next_key {many n n' : Nat} (e1 : σ.hp.get i = some (.keyIt l j many n)) {es : List (KD × AV × AV)} (e2 : σ.hp.get l = some (.dct es n')) (hb1 : n = n') (hb2 : many = es.length) (h : nxt σ i (.keyIt l (j + 1) many n) ((nth es j).map (·.2.1)) k = true) : wpAny (model prog w) A (pyNext (.ref a)) Q E s := by
  subst hb1
  obtain ⟨ci, k1, k2⟩ := R.ref e1 ea
  obtain ⟨_, rfl, la⟩ := k1.inv
  obtain ⟨cl, k3, k4⟩ := R.ref e2 la
  obtain ⟨_, rfl, hd, _⟩ := k3.inv
  have hl := hd.length
  rw [nth_is] at h
  rcases nxt_is h with ⟨x, hn, h⟩ | ⟨hn, h⟩
  · obtain ⟨y, hy, rfl⟩ := Option.map_eq_some_iff.mp hn
    obtain ⟨e, z1, z2⟩ := hd.get hy
    refine raw_next k2 k4 (hb2.trans hl) z1 fun h' hit hs => ?_
    obtain ⟨R', hk⟩ := updA_ok (s' := { s with heap := h' }) R e1 ea hs (.keyIt la) hit rfl rfl h
    exact (hQ _ _ R').1 _ _ z2.key hk
  · have hn := Option.map_eq_none_iff.mp hn
    rw [List.getElem?_eq_none_iff, hl] at hn
    refine raw_next_end hh k2 k4 (hb2.trans hl) (List.getElem?_eq_none_iff.mpr hn) fun h' he => ?_
    obtain ⟨R', hk⟩ := dropA_ok (s' := { s with heap := h' }) R e1 ea he rfl rfl h
    exact (hQ _ _ R').2 hk
end
theorem nextA_ok (hh : A.handled = none) (R : Rel os0 h₀ L m W σ s) {v : AV} {c : Value} {k : Option AV → St → Bool} {Q : Option Value → Shared → Prop} (hv : VR W v c) (h : nextA σ v k = true)
    (hQ : ∀ σ' s', Rel os0 h₀ L m W σ' s' → (∀ x cx, VR W x cx → k (some x) σ' = true → Q (some cx) s') ∧ (k none σ' = true → Q none s')) : wpAny (model prog w) A (pyNext c) Q E s := by
  induction v using Mine.AV.casesOn with
  | loc i =>
    apply hv.onLoc; intro _ ea
    obtain ⟨o, e1, h⟩ := onO_is (show onO (σ.hp.get i) _ = true from h)
    induction o using Mine.AO.casesOn with
    | lstIt l j =>
      obtain ⟨vs, e2, h⟩ := onO_is (show onO ((σ.hp.get l).bind lstOf) _ = true from h)
      exact next_lst hh R ea hQ e1 (at_is lstOf_is e2) h
    | tupIt l j =>
      obtain ⟨vs, e2, h⟩ := onO_is (show onO ((σ.hp.get l).bind tupOf) _ = true from h)
      exact next_tup hh R ea hQ e1 (at_is tupOf_is e2) h
    | rngIt x left => exact next_rng hh R ea hQ e1 h
    | rngSI x e => exact next_rsi hh R ea hQ e1 h
    | keyIt l j many n =>
      obtain ⟨q, e2, h⟩ := onO_is (show onO ((σ.hp.get l).bind dctOf) _ = true from h)
      obtain ⟨hb, h⟩ := mt h
      obtain ⟨hb1, hb2⟩ := an hb
      exact next_key hh R ea hQ e1 (at_is (C := fun q => AO.dct q.1 q.2) dctOf_is e2) (Nat.eq_of_beq_eq_true hb1) (Nat.eq_of_beq_eq_true hb2) h
    | _ => exact ff h
  | _ => exact ff h
end
end Mine

namespace Mine
open PySem PySem.W PySem.Calls PyProof.Rows PySem.SeqAt
set_option maxRecDepth 100000

theorem di_len : typeLookup (.type "dict") "__len__" = pure (some (.builtin "dict.__len__")) := by rw [typeLookup_type, builtinLookup_eq_fast]; kernel_rfl
theorem di_split : splitId "dict.__len__" = some ("dict", "__len__") := by decide +kernel
section
variable {prog : Program} {w : World} {A : Around} {E : Value → Shared → Prop} {s : Shared}
noncomputable def KeyP (ds : List DictEntry) (i : Nat) (v : Value) : Prop := ∃ e, ds[i]? = some e ∧ v = e.key
theorem walk_keys (hh : A.handled = none) (I d : Addr) (hne : d ≠ I) (ds : List DictEntry) (n : Nat) : Walks prog w A I [I, d] [I] ds.length (KeyP ds) (fun i h => h.get? I = some (keyItOf d i ds.length n) ∧ h.get? d = some (dictOf ds n)) where
  sub := fun b hb => by simp at hb; simp [hb]
  frame := fun _ _ _ st hk => ⟨hk I (by simp) _ st.1, hk d (by simp) _ st.2⟩
  item := fun i s Q E hi st hQ => by
    have he : ds[i]? = some ds[i] := List.getElem?_eq_getElem hi
    refine raw_next st.1 st.2 rfl he fun h' hit' hs' => ?_
    exact hQ _ h' s.toks ⟨_, he, rfl⟩ ⟨hit', (hs'.2 d hne).trans st.2⟩ fun b o hb e => (hs'.2 b (fun h => hb (by simp [h]))).trans e
  done := fun s Q E st hQ => raw_next_end hh st.1 st.2 rfl (by simp) fun h' he' => hQ h' s.toks fun b o hb e => he' b o (fun h => hb (by simp [h])) e
  self := fun i s Q E st hQ => wpAny_pyIter_keyiter ⟨_, st.1, rfl, rfl⟩ hQ
theorem items_are {ds : List DictEntry} {acc : Array Value} (h : ItemsOf (KeyP ds) acc ds.length) : acc.toList = ds.map (·.key) := by
  apply List.ext_getElem?
  intro i
  by_cases hi : i < ds.length
  · have hi' : i < acc.size := by rw [h.1]; exact hi
    obtain ⟨e, h1, h2⟩ := h.2 i acc[i] (Array.getElem?_eq_getElem hi')
    rw [List.getElem?_map, h1, Array.getElem?_toList, Array.getElem?_eq_getElem hi', h2]
    rfl
  · rw [List.getElem?_eq_none (by rw [Array.length_toList, h.1]; omega), List.getElem?_eq_none (by rw [List.length_map]; omega)]
theorem collect_keys {d : Addr} {n : Nat} {ds : List DictEntry} (hz : ds.length ≤ 1000) {Q : List Value → Shared → Prop} (hh : A.handled = none) (hd : (d == sysModules) = false) (hm : s.heap.get? d = some (dictOf ds n))
    (hQ : ∀ h' tk, (∀ b o, s.heap.get? b = some o → h'.get? b = some o) → Q (ds.map (·.key)) { s with heap := h', toks := tk }) : wpAny (model prog w) A (collect (.ref d)) Q E s := by
  have hdl : d < s.heap.objs.size := Heap.lt_size hm
  unfold collect
  refine wpAny_bind (wpAny_runValue (codeAny_builtin PySem.F.entry_proto_collect ?_))
  rw [Around.under_plainId PySem.F.plain_proto_collect _]
  show wpAny _ A.in1 (newList [] >>= fun l => again (.builtin "list.__iadd__" ⟨[l, .ref d], []⟩)) _ _ s
  refine wpAny_bind (wpAny_newObj_type ?_)
  refine wpAny_pure ⟨plainId_quiet PySem.F.plain_list_iadd _, codeAny_builtin PySem.F.entry_list_iadd ?_⟩
  rw [Around.under_plainId PySem.F.plain_list_iadd _]
  have hm1 : (s.heap.push { cls := .type "list", data := .seq ([] : List Value).toArray }).get? d = some (dictOf ds n) := Heap.get?_push_of_some _ hm
  have hS₁ : (s.heap.push { cls := .type "list", data := .seq ([] : List Value).toArray }).get? s.heap.objs.size = some { cls := .type "list", data := .seq ([] : List Value).toArray } := Heap.get?_push_size _ rfl
  have h1 : Builtin.List.listSameRef (.ref s.heap.objs.size) (.ref d) = false := by simp [Builtin.List.listSameRef, Nat.ne_of_gt hdl]
  show wpAny _ A.in1 (Builtin.List.listExtendWith (.ref s.heap.objs.size) (.ref d) (.ref s.heap.objs.size)) _ _ _
  unfold Builtin.List.listExtendWith
  have hT : ∀ {h' : Heap} {tk : Nat}, h'.get? d = some (dictOf ds n) → Shared.TypeIs { s with heap := h', toks := tk } (.ref d) "dict" := fun e => ⟨_, e, rfl⟩
  refine wpAny_bind (wpAny_typeOf (hT hm1) ?_)
  rw [if_neg (by rw [h1]; decide)]
  refine wpAny_bind (raw_iter (s := { s with heap := s.heap.push { cls := .type "list", data := .seq ([] : List Value).toArray } }) hm1 hd ?_)
  have hm2 := fun o' => Heap.get?_push_of_some o' hm1
  refine wpAny_bind (wpAny_holding ?_)
  unfold Builtin.List.listLengthHint
  refine wpAny_bind (wpAny_specialOf (hT (hm2 _)) di_len ?_)
  dsimp only
  rw [di_split]
  dsimp only
  refine wpAny_bind (wpAny_isInstance (b := true) (hT (hm2 _)) (by rw [isSubtype_type]; kernel_rfl) ?_)
  refine bm_if_false rfl ?_
  refine bm_if_true (by decide +kernel) ?_
  refine wpAny_bind (wpAny_typeOf (hT (hm2 _)) ?_)
  refine wpAny_pure ?_
  refine bm_if_true (by decide +kernel) ?_
  refine wpAny_bind (wpAny_rule ?_)
  have hS₂ := fun o' : Obj => Heap.get?_push_of_some o' hS₁
  show wpAny _ A.in1 (Builtin.List.listTouch (.ref s.heap.objs.size) >>= _) _ _ _
  refine wpAny_bind ?_
  unfold Builtin.List.listTouch
  refine wpAny_bind (listUpdate_at (n := 0) (hS₂ _) rfl ?_ (Nat.zero_le _) (by rw [sizeLine_eq]; show (Array.push _ _).size ≤ _; simp))
  have hS₃ := fun o' : Obj => get?_update_seq (n := 0) (c := "list") (hS₂ o') (·.push Value.none)
  refine listUpdate_at (hS₃ _) rfl ?_ (by rw [sizeLine_eq]; simp) (by rw [sizeLine_eq]; simp)
  have hS₄ := fun o' : Obj => get?_update_seq (hS₃ o') (·.pop)
  have hne : d ≠ s.heap.objs.size := Nat.ne_of_lt hdl
  have hlt : s.heap.objs.size < (s.heap.push { cls := .type "list", data := .seq ([] : List Value).toArray }).objs.size := by rw [Heap.size_push]; exact Nat.lt_succ_self _
  generalize hI : (s.heap.push { cls := .type "list", data := .seq ([] : List Value).toArray }).objs.size = I at hlt ⊢
  have hSI : s.heap.objs.size ≠ I := Nat.ne_of_lt hlt
  have hdI : d ≠ I := Nat.ne_of_lt (Nat.lt_trans hdl hlt)
  have hit : ((s.heap.push { cls := .type "list", data := .seq ([] : List Value).toArray }).push (keyItOf d 0 ds.length n)).get? I = some (keyItOf d 0 ds.length n) := by
    rw [← hI]; exact Heap.get?_push_size _ rfl
  have W := (walk_keys (prog := prog) (w := w) (A := A.in1) hh I d hdI ds n).toS
  refine wpAny_pure ⟨plainId_quiet PySem.F.plain_extend_loop _, codeAny_extend_loopS W (by rw [sizeLine_eq]; omega) _ ?_ _ ds.length 0 _ _ _ rfl (Nat.zero_le _) ?_ (hS₄ _) (by exact ItemsOf.nil _) fun s' acc' c' hmv hS' hacc => ?_⟩
  · simp [hSI, Ne.symm hne]
  · have g1 := (Heap.get?_update_other _ (Obj.mapSeq (·.pop)) hSI).trans ((Heap.get?_update_other _ (Obj.mapSeq (·.push Value.none)) hSI).trans hit)
    have g2 := (Heap.get?_update_other _ (Obj.mapSeq (·.pop)) (Ne.symm hne)).trans ((Heap.get?_update_other _ (Obj.mapSeq (·.push Value.none)) (Ne.symm hne)).trans (hm2 (keyItOf d 0 ds.length n)))
    exact ⟨g1, g2⟩
  · show wpAny _ A (load s.heap.objs.size >>= _) _ _ s'
    refine wpAny_bind (wpAny_load hS' ?_)
    have ha := items_are hacc
    refine wpAny_pure ?_
    show Q acc'.toList s'
    rw [ha]
    obtain ⟨sh, sg, sd, stk, so⟩ := s'
    obtain ⟨m1, m2, m3, m4, m5⟩ := hmv
    dsimp only at m2 m3 m4
    subst m2 m3 m4
    refine hQ sh stk fun b o e => ?_
    have hb : b < s.heap.objs.size := Heap.lt_size e
    have b1 : s.heap.objs.size ≠ b := Nat.ne_of_gt hb
    refine m1 b o ?_ ((Heap.get?_update_other _ (Obj.mapSeq (·.pop)) b1).trans ((Heap.get?_update_other _ (Obj.mapSeq (·.push Value.none)) b1).trans (Heap.get?_push_of_some _ (Heap.get?_push_of_some _ e))))
    simp [Ne.symm b1, Nat.ne_of_lt (Nat.lt_trans hb hlt)]
/-- ints in order -/
noncomputable def ins1 (x : Int) : List Int → List Int
  | [] => [x]
  | y :: r => match decide (x ≤ y) with
    | true => x :: y :: r
    | false => y :: ins1 x r
noncomputable def isort : List Int → List Int
  | [] => []
  | x :: r => ins1 x (isort r)
theorem ins1_perm {x : Int} : ∀ {l : List Int}, (ins1 x l).Perm (x :: l)
  | [] => .refl _
  | y :: r => by
    unfold ins1
    cases decide (x ≤ y) with
    | true => exact .refl _
    | false => exact (ins1_perm.cons y).trans (.swap _ _ _)
theorem ins1_ord {x : Int} : ∀ {l : List Int}, l.Pairwise (· ≤ ·) → (ins1 x l).Pairwise (· ≤ ·)
  | [], _ => by simp [ins1]
  | y :: r, h => by
    unfold ins1
    rw [List.pairwise_cons] at h
    cases q : decide (x ≤ y) with
    | true =>
      have q := of_decide_eq_true q
      dsimp only
      rw [List.pairwise_cons]
      refine ⟨fun z hz => ?_, List.pairwise_cons.mpr h⟩
      rcases List.mem_cons.mp hz with rfl | hz
      · exact q
      · exact Int.le_trans q (h.1 z hz)
    | false =>
      have q := of_decide_eq_false q
      dsimp only
      rw [List.pairwise_cons]
      refine ⟨fun z hz => ?_, ins1_ord h.2⟩
      rcases List.mem_cons.mp (ins1_perm.mem_iff.mp hz) with rfl | hz
      · omega
      · exact h.1 z hz
theorem isort_perm : ∀ {l : List Int}, (isort l).Perm l
  | [] => .refl _
  | x :: r => ins1_perm.trans (isort_perm.cons x)
theorem isort_ord : ∀ {l : List Int}, (isort l).Pairwise (· ≤ ·)
  | [] => .nil
  | _ :: _ => ins1_ord isort_ord
theorem ord_one : ∀ {a b : List Int}, a.Perm b → a.Pairwise (· ≤ ·) → b.Pairwise (· ≤ ·) → a = b
  | [], b, p, _, _ => (List.nil_perm.mp p).symm
  | x :: a, [], p, _, _ => by have := List.perm_nil.mp p; cases this
  | x :: a, y :: b, p, ha, hb => by
    rw [List.pairwise_cons] at ha hb
    have e : x = y := by
      have h1 : x ∈ y :: b := p.mem_iff.mp (.head _)
      have h2 : y ∈ x :: a := p.mem_iff.mpr (.head _)
      rcases List.mem_cons.mp h1 with h | h
      · exact h
      · rcases List.mem_cons.mp h2 with h' | h'
        · exact h'.symm
        · have := hb.1 x h; have := ha.1 y h'; omega
    subst e
    rw [ord_one p.cons_inv ha.2 hb.2]
theorem sort_ints {a : Addr} {n : Nat} {vs : List Value} {ns : List Int} {P : Fin → Shared → Prop} (ho : s.heap.get? a = some { cls := .type "list", data := .seq vs.toArray n }) (hI : IntsAre vs ns) (h64 : vs.length < 64)
    (h : ∀ h' n' out, IntsAre out (isort ns) → (∀ b o, b ≠ a → s.heap.get? b = some o → h'.get? b = some o) → h'.get? a = some { cls := .type "list", data := .seq out.toArray n' } → P (.done (.ret .none)) { s with heap := h' }) :
    wpAny (model prog w) A (Builtin.«list.sort» ⟨[.ref a], []⟩) P E s := by
  refine list_sort_tree (vs := vs) (ns := ns) ho hI h64 fun out ns' h1 h2 h3 => ?_
  have hn : ns' = isort ns := ord_one (h2.trans isort_perm.symm) h3 isort_ord
  subst hn
  have ha : a < s.heap.objs.size := Heap.lt_size ho
  unfold sortedHeap
  have g1 := get?_update_seq ho (fun _ => #[])
  have g2 := get?_update_seq (Heap.get?_push_of_some (seqObj "list" #[] 0) (Heap.get?_push_of_some (seqObj "tuple" vs.toArray 0) g1)) (fun _ => out)
  refine h _ _ out.toList h1 (fun b o hb e => ?_) (by simpa using g2)
  exact (Heap.get?_update_other _ _ (Ne.symm hb)).trans (Heap.get?_push_of_some _ (Heap.get?_push_of_some _ ((Heap.get?_update_other _ _ (Ne.symm hb)).trans e)))
theorem sorted_keys {d : Addr} {n : Nat} {ds : List DictEntry} {ns : List Int} {Q : Value → Shared → Prop} (hh : A.handled = none) (hd : (d == sysModules) = false) (hm : s.heap.get? d = some (dictOf ds n)) (hz : ds.length ≤ 60) (hI : IntsAre (ds.map (·.key)) ns)
    (hQ : ∀ h' tk a n' out, IntsAre out (isort ns) → (∀ b o, s.heap.get? b = some o → h'.get? b = some o) → s.heap.get? a = none → h'.get? a = some { cls := .type "list", data := .seq out.toArray n' } → Q (.ref a) { s with heap := h', toks := tk }) :
    wpAny (model prog w) A (call (.builtin "sorted") [.ref d]) Q E s := by
  refine PySem.Calls.call_function_entry kind_sorted plain_sorted PyProof.Rows.entry_sorted (args_sorted1 _) ?_
  unfold Builtin.«sorted»
  refine wpAny_bind (m := checkCount "sorted" 1 1 _) (wpAny_pure ?_)
  refine wpAny_bind (collect_keys (by omega) hh hd hm fun h' tk hk => ?_)
  refine wpAny_bind (wpAny_newList ?_ (by rw [sizeLine_eq]; simp; omega))
  have hoL : (h'.push { cls := .type "list", data := .seq (ds.map (·.key)).toArray }).get? h'.objs.size = some { cls := .type "list", data := .seq (ds.map (·.key)).toArray } := Heap.get?_push_size _ rfl
  refine wpAny_bind (wpAny_holding (wpAny_call_entry slot_list_sort ⟨_, hoL, rfl⟩ entry_list_sort (sort_ints hoL hI (by rw [List.length_map]; omega) fun h'' n' out hi hk2 ho2 => ⟨_, rfl, ?_⟩) (args_list_sort _)))
  refine wpAny_pure ⟨_, rfl, ?_⟩
  refine hQ h'' tk h'.objs.size n' out hi (fun b o e => ?_) ?_ ho2
  · exact hk2 b o (Nat.ne_of_lt (Heap.lt_size (hk b o e))) (Heap.get?_push_of_some _ (hk b o e))
  · cases q : s.heap.get? h'.objs.size with
    | none => rfl
    | some x => exact absurd (Heap.lt_size (hk _ _ q)) (Nat.lt_irrefl _)
end
end Mine

namespace Mine
open PySem PySem.W PySem.Calls PyProof.Rows PySem.SeqAt
set_option maxRecDepth 100000

/-- a case for each number of a small span -/
noncomputable def splitN (σ : St) (e : IE) (a : Int) (k : Int → St → Bool) : Nat → Bool
  | 0 => true
  | n + 1 => k (a + n) (σ.isZero (e.sub (IE.lit (a + n)))) && splitN σ e a k n
noncomputable def splitI (σ : St) (e : IE) (k : Int → St → Bool) : Bool := match e.known σ.vi with
  | some n => k n σ
  | none => match e.lo σ.vi, e.hi σ.vi with
    | some a, some b => match decide (b - a ≤ 64) with
      | true => splitN σ e a k (b - a + 1).toNat
      | false => false
    | _, _ => false

section
variable {os0 : (Array Nat → Int) × OsState} {h₀ : Gd} {L : Addr} {m : Str → Option Value} {W : Wd} {σ : St} {s : Shared}
theorem splitN_ok (R : Rel os0 h₀ L m W σ s) {e : IE} {x a : Int} {k : Int → St → Bool} (q : e.ev W.ι = some x) : ∀ {n : Nat}, a ≤ x → x < a + n → splitN σ e a k n = true → ∃ σ', Rel os0 h₀ L m W σ' s ∧ k x σ' = true
  | 0, h1, h2, _ => absurd h2 (by omega)
  | n + 1, h1, h2, h => by
    unfold splitN at h
    obtain ⟨g1, g2⟩ := Bool.and_eq_true_iff.mp h
    by_cases hx : x = a + n
    · rw [← hx] at g1
      exact ⟨_, R.vars' (St.isZero_same _ _) (St.isZero_ok R.vars (IE.ev_sub q (IE.ev_lit _ _)) (by omega)), g1⟩
    · exact splitN_ok R q h1 (by omega) g2
theorem splitI_ok (R : Rel os0 h₀ L m W σ s) {e : IE} {x : Int} {k : Int → St → Bool} (q : e.ev W.ι = some x) (h : splitI σ e k = true) : ∃ σ', Rel os0 h₀ L m W σ' s ∧ k x σ' = true := by
  unfold splitI at h
  split at h
  · rename_i n h1
    exact ⟨σ, R, IE.known_is R.vars h1 q ▸ h⟩
  · split at h
    · rename_i a b h2 h3
      obtain ⟨hd, h⟩ := mt h
      have hd := of_decide_eq_true hd
      have l1 := IE.lo_le R.vars h2 q
      have l2 := IE.hi_ge R.vars h3 q
      exact splitN_ok R q l1 (by omega) h
    · exact ff h
end

noncomputable def intsOf : List (KD × AV × AV) → List Int
  | [] => []
  | f :: r => (match f.1 with | .i n => n | _ => 0) :: intsOf r
theorem intsOf_is {h : Heap} {hs : Array Nat → Int} : ∀ {es : List (KD × AV × AV)} {ds : List DictEntry}, All2 (KE h hs) (es.map (·.1)) ds → (∀ k ∈ es.map (·.1), k.cls = 0) → IntsAre (ds.map (·.key)) (intsOf es)
  | [], _, .nil, _ => .nil
  | f :: es, e :: ds, .cons q t, hc => by
    have h0 := hc f.1 (by simp)
    obtain ⟨k, a, b⟩ := f
    induction k using Mine.KD.casesOn with
    | s _ => cases h0
    | p _ _ => cases h0
    | i n =>
      obtain ⟨tk, hk⟩ := q.is
      rw [List.map_cons, hk]
      exact .cons n tk (intsOf_is t fun k hk => hc k (by simp at hk ⊢; exact .inr hk))
noncomputable def litsA : List Int → List AV
  | [] => []
  | n :: r => .int (IE.lit n) :: litsA r
theorem litsA_is {W : Wd} : ∀ {vs : List Value} {ns : List Int}, IntsAre vs ns → All2 (VR W) (litsA ns) vs
  | _, _, .nil => .nil
  | _, _, .cons n t h => .cons (.int t (IE.ev_lit _ _)) (litsA_is h)
/-- the numbers of a list, each an octet -/
noncomputable def oct1 (vi : List VI) (v : AV) : Option Int := match v with
  | .int e => (e.known vi).bind fun n => match decide (0 ≤ n) && decide (n < 256) with
    | true => some n
    | false => none
  | _ => none
noncomputable def octs (vi : List VI) : List AV → Option (List UInt8)
  | [] => some []
  | v :: r => (oct1 vi v).bind fun n => (octs vi r).map fun t => n.toNat.toUInt8 :: t
noncomputable def boolsOf : List AV → Option (List Bool)
  | [] => some []
  | v :: r => match v with
    | .bool b => (boolsOf r).map (b :: ·)
    | _ => none
theorem boolsOf_is {W : Wd} : ∀ {xs : List AV} {cs : List Value} {bs : List Bool}, All2 (VR W) xs cs → boolsOf xs = some bs → LSm.BoolsAre cs bs
  | [], cs, bs, hv, h => by
    obtain rfl := hv.inv
    rw [← Option.some.inj h]; exact .nil
  | v :: r, cs, bs, hv, h => by
    apply hv.onCons; intro c t q ht
    induction v using Mine.AV.casesOn with
    | bool b =>
      obtain rfl := q.inv
      obtain ⟨z, hz, rfl⟩ := Option.map_eq_some_iff.mp (show (boolsOf r).map (b :: ·) = some bs from h)
      exact .cons _ (boolsOf_is ht hz)
    | _ => exact no_some h
theorem oct1_is {vi : List VI} {W : Wd} (V : VOK vi W.ι) {v : AV} {c : Value} {n : Int} (hv : VR W v c) (h : oct1 vi v = some n) : (∃ t, c = .int n t) ∧ 0 ≤ n ∧ n < 256 := by
  induction v using Mine.AV.casesOn with
  | int e =>
    apply hv.onInt; intro x t ev
    obtain ⟨m, hm, h⟩ := someBind (show ((e.known vi).bind fun n => match decide (0 ≤ n) && decide (n < 256) with | true => some n | false => none) = some n from h)
    obtain rfl := IE.known_is V hm ev
    split at h
    · rename_i hd
      obtain ⟨d1, d2⟩ := an hd
      rw [← Option.some.inj h]
      exact ⟨⟨t, rfl⟩, of_decide_eq_true d1, of_decide_eq_true d2⟩
    · exact no_some h
  | _ => exact no_some h
theorem octs_is {vi : List VI} {W : Wd} (V : VOK vi W.ι) : ∀ {xs : List AV} {cs : List Value} {b : List UInt8}, All2 (VR W) xs cs → octs vi xs = some b → ∃ ns, IntsAre cs ns ∧ (∀ n ∈ ns, 0 ≤ n ∧ n < 256) ∧ byteArr ns = b.toArray
  | [], cs, b, hv, h => by
    obtain rfl := hv.inv
    rw [← Option.some.inj h]; exact ⟨[], .nil, fun _ hn => absurd hn List.not_mem_nil, rfl⟩
  | v :: r, cs, bs, hv, h => by
    apply hv.onCons; intro c t q ht
    obtain ⟨n, h1, h⟩ := someBind (show ((oct1 vi v).bind fun n => (octs vi r).map fun t => n.toNat.toUInt8 :: t) = some bs from h)
    obtain ⟨z, h2, rfl⟩ := Option.map_eq_some_iff.mp h
    obtain ⟨⟨tk, rfl⟩, d1, d2⟩ := oct1_is V q h1
    obtain ⟨ns, g1, g2, g3⟩ := octs_is V ht h2
    refine ⟨n :: ns, .cons n tk g1, fun m hm => ?_, ?_⟩
    · rcases List.mem_cons.mp hm with rfl | hm
      · exact ⟨d1, d2⟩
      · exact g2 m hm
    · unfold byteArr at g3 ⊢
      simp at g3 ⊢
      exact g3
noncomputable def onL1 (vs : List AV) (k : AV → Bool) : Bool := match vs with
  | [] => false
  | x :: r => match r with
    | [] => k x
    | _ :: _ => false
theorem onL1_is {W : Wd} {vs : List AV} {cs : List Value} {k : AV → Bool} (hv : All2 (VR W) vs cs) (h : onL1 vs k = true) : ∃ x c, cs = [c] ∧ VR W x c ∧ k x = true := by
  induction vs using List.casesOn with
  | nil => exact ff h
  | cons x r =>
    induction r using List.casesOn with
    | nil =>
      apply hv.onCons; intro c _ hx ht
      obtain rfl := ht.inv
      exact ⟨x, c, rfl, hx, h⟩
    | cons _ _ => exact ff h
noncomputable def onI2 (vs : List AV) (k : IE → IE → Bool) : Bool := match vs with
  | [] => false
  | x :: r => match r with
    | [] => false
    | y :: t => match t with
      | [] => int2 x y k fun _ => false
      | _ :: _ => false
theorem onI2_is {W : Wd} {vs : List AV} {cs : List Value} {k : IE → IE → Bool} (hv : All2 (VR W) vs cs) (h : onI2 vs k = true) : ∃ a x t b y u, cs = [.int x t, .int y u] ∧ a.ev W.ι = some x ∧ b.ev W.ι = some y ∧ k a b = true := by
  induction vs using List.casesOn with
  | nil => exact ff h
  | cons p r =>
    induction r using List.casesOn with
    | nil => exact ff h
    | cons q t =>
      induction t using List.casesOn with
      | cons _ _ => exact ff h
      | nil =>
        rcases int2_is (show int2 p q k (fun _ => false) = true from h) with ⟨a, b, rfl, rfl, h⟩ | h
        · apply hv.onCons; intro _ _ hx ht
          apply ht.onCons; intro _ _ hy ht
          obtain rfl := ht.inv
          apply hx.onInt; intro x t ea
          apply hy.onInt; intro y u eb
          exact ⟨a, x, t, b, y, u, rfl, ea, eb, h⟩
        · exact ff h
/-- how many things an object holds -/
noncomputable def lenOf (o : AO) : Option Nat := match o with
  | .lst xs => some xs.length
  | .tup xs => some xs.length
  | .barr b => some b.length
  | _ => none
noncomputable def bLen (v : AV) (σ : St) (k : AV → St → Bool) : Bool := match v with
  | .loc l => match σ.hp.get l with
    | some o => onO (lenOf o) fun n => match Nat.ble n 1000000 with
      | true => k (.int (IE.lit (n : Nat))) σ
      | false => false
    | none => match Nat.beq l 0 with
      | true => k (.int (IE.var 0)) σ
      | false => false
  | .byts b => match Nat.ble b.length 1000000 with
    | true => k (.int (IE.lit (b.length : Nat))) σ
    | false => false
  | .bz e => k (.int e) σ
  | _ => false
noncomputable def bMx (vs : List AV) (σ : St) (k : AV → St → Bool) : Bool := onI2 vs fun a b => ltA σ a b fun r σ' => match r with
  | true => k (.int b) σ'
  | false => k (.int a) σ'
noncomputable def bMn (vs : List AV) (σ : St) (k : AV → St → Bool) : Bool := onI2 vs fun a b => ltA σ b a fun r σ' => match r with
  | true => k (.int b) σ'
  | false => k (.int a) σ'
noncomputable def bMnA (vs : List AV) (σ : St) (k : AV → St → Bool) : Bool := bMn vs σ k
noncomputable def bSort (v : AV) (σ : St) (k : AV → St → Bool) : Bool := match v with
  | .loc l => onO ((σ.hp.get l).bind dctOf) fun q => match Nat.ble q.1.length 60 && entsOK σ 0 q.1 with
    | true => allocA σ (.lst (litsA (isort (intsOf q.1)))) k
    | false => false
  | _ => false
noncomputable def bAny (v : AV) (σ : St) (k : AV → St → Bool) : Bool := match v with
  | .loc l => onO ((σ.hp.get l).bind lstOf) fun xs => onO (boolsOf xs) fun bs => k (.bool (bs.any id)) σ
  | _ => false
/-- what a call of a built-in says -/
noncomputable def callB1 (i : BI) (vs : List AV) (σ : St) (k : AV → St → Bool) : Bool := match i with
  | .len => onL1 vs fun v => bLen v σ k
  | .max => bMx vs σ k
  | .min => bMnA vs σ k
  | .sorted => onL1 vs fun v => bSort v σ k
  | .any => onL1 vs fun v => bAny v σ k
noncomputable def forceL (σ : St) (vs : List AV) (k : List AV → St → Bool) : Bool := match vs with
  | [v] => forceA σ v fun v' σ' => k [v'] σ'
  | _ => k vs σ
noncomputable def callB (i : BI) (vs : List AV) (σ : St) (k : AV → St → Bool) : Bool := forceL σ vs fun vs' σ' => callB1 i vs' σ' k
noncomputable def tInt (v : AV) (σ : St) (k : AV → St → Bool) : Bool := match v with
  | .bool b => k (.int (IE.lit (if b then 1 else 0))) σ
  | .int e => k (.int e) σ
  | _ => false
noncomputable def tBytes (v : AV) (σ : St) (k : AV → St → Bool) : Bool := match v with
  | .int e => onO (e.lo σ.vi) fun a => onO (e.hi σ.vi) fun b => match decide (0 ≤ a) && decide (b ≤ 1000000) with
    | true => k (.bz e) σ
    | false => false
  | .byts b => k (.byts b) σ
  | .bz e => k (.bz e) σ
  | .loc l => onO ((σ.hp.get l).bind lstOf) fun xs => match Nat.ble xs.length 10000 with
    | true => onO (octs σ.vi xs) fun b => k (.byts b) σ
    | false => false
  | _ => false
noncomputable def tList (v : AV) (σ : St) (k : AV → St → Bool) : Bool := match v with
  | .loc l => onO ((σ.hp.get l).bind lstOf) fun xs => match Nat.ble xs.length 10000 with
    | true => allocA σ (.lst xs) k
    | false => false
  | _ => false
noncomputable def tRange (vs : List AV) (σ : St) (k : AV → St → Bool) : Bool := match vs with
  | [] => false
  | x :: r => match r with
    | [] => onInt x fun e => splitI σ e fun n σ' => allocA σ' (.rng 0 n) k
    | _ :: _ => onI2 vs fun e f => splitI σ e fun n σ' => splitI σ' f fun n' σ' => allocA σ' (.rng n n') k
noncomputable def callT1 (t : TI) (vs : List AV) (σ : St) (k : AV → St → Bool) : Bool := match t with
  | .int => onL1 vs fun v => tInt v σ k
  | .bytes => onL1 vs fun v => tBytes v σ k
  | .list => onL1 vs fun v => tList v σ k
  | .range => tRange vs σ k
  | _ => false
noncomputable def callT (t : TI) (vs : List AV) (σ : St) (k : AV → St → Bool) : Bool := forceL σ vs fun vs' σ' => callT1 t vs' σ' k

section
variable {prog : Program} {w : World} {A : Around} {E : Value → Shared → Prop} {os0 : (Array Nat → Int) × OsState} {h₀ : Gd} {L : Addr} {m : Str → Option Value} {W : Wd} {σ : St} {s : Shared}
theorem forceL_ok (R : Rel os0 h₀ L m W σ s) {vs : List AV} {cs : List Value} {k : List AV → St → Bool} (hv : All2 (VR W) vs cs) (h : forceL σ vs k = true) : ∃ vs' σ', Rel os0 h₀ L m W σ' s ∧ All2 (VR W) vs' cs ∧ k vs' σ' = true := by
  induction vs using List.casesOn with
  | nil => exact ⟨_, _, R, hv, h⟩
  | cons v r =>
    induction r using List.casesOn with
    | nil =>
      apply hv.onCons; intro c _ q ht
      obtain rfl := ht.inv
      obtain ⟨v', σ', R', hv', h'⟩ := forceA_ok R q (show forceA σ v (fun v' σ' => k [v'] σ') = true from h)
      exact ⟨_, _, R', .cons hv' .nil, h'⟩
    | cons _ _ => exact ⟨_, _, R, hv, h⟩
section
variable {cs : List Value} {k : AV → St → Bool} {Q : Value → Shared → Prop} (hh : A.handled = none) (R : Rel os0 h₀ L m W σ s) (hQ : ∀ W' v c σ' s', W.le W' → Rel os0 h₀ L m W' σ' s' → VR W' v c → k v σ' = true → Q c s')
include R hQ
theorem bLen_ok {v : AV} {c : Value} (hv : VR W v c) (h : bLen v σ k = true) : wpAny (model prog w) A (call (.builtin "len") [c]) Q E s := by
  induction v using Mine.AV.casesOn with
  | loc l =>
    apply hv.onLoc; intro a ea
    unfold bLen at h
    dsimp only at h
    cases hg : σ.hp.get l with
    | none =>
      rw [hg] at h
      obtain ⟨hb, h⟩ := mt h
      obtain rfl := Nat.eq_of_beq_eq_true hb
      obtain ⟨a', vs', ns, z1, z2, ⟨lo, z3, zc, zk, zd⟩, z4, z5⟩ := R.scr.2
      rw [ea] at z1
      obtain rfl := Option.some.inj z1
      obtain ⟨_, z3⟩ := R.fr.up z3
      have tx : s.heap.IsList a vs'.toArray := ⟨_, z3, zc, zk, zd⟩
      have hl := z4.length
      refine call_len_list tx (by rw [List.size_toArray]; omega) ?_
      rw [List.size_toArray, hl]
      exact hQ _ _ _ _ _ W.le_refl (R.toks _) (.int _ (ev_at z2)) h
    | some o =>
      rw [hg] at h
      obtain ⟨n, hn, h⟩ := onO_is h
      obtain ⟨hb, h⟩ := mt h
      have hb := Nat.le_of_ble_eq_true hb
      obtain ⟨ci, k1, k2⟩ := R.ref hg ea
      have fin : ∀ t u, Q (.int (n : Nat) t) { s with toks := u } := fun t u => hQ _ _ _ _ _ W.le_refl (R.toks u) (.int t (IE.ev_lit _ _)) h
      induction o using Mine.AO.casesOn with
      | lst xs =>
        obtain rfl := Option.some.inj hn
        obtain ⟨cx, hx, tx⟩ := lst_at k1 k2
        rw [hx.length] at fin hb
        exact call_len_list tx (by rw [List.size_toArray]; omega) (fin _ _)
      | tup xs =>
        obtain rfl := Option.some.inj hn
        obtain ⟨cx, hx, tx⟩ := tup_at k1 k2
        rw [hx.length] at fin hb
        exact len_tuple tx (by rw [List.size_toArray]; omega) (fin _ _)
      | barr b =>
        obtain rfl := Option.some.inj hn
        obtain rfl := k1.inv
        exact call_len_ba k2 hb (fin _ _)
      | _ => exact no_some hn
  | byts b =>
    apply hv.onByts; intro t
    obtain ⟨hb, h⟩ := mt h
    refine len_bytes (by rw [List.size_toArray]; exact Nat.le_trans (Nat.le_of_ble_eq_true hb) (by decide)) ?_
    rw [List.size_toArray]
    exact hQ _ _ _ _ _ W.le_refl (R.toks _) (.int _ (IE.ev_lit _ _)) h
  | bz e =>
    obtain ⟨x, _, t, rfl, ev, h0, h1, rfl⟩ := hv.inv
    refine len_bytes (by rw [Array.size_replicate]; omega) ?_
    rw [Array.size_replicate, Int.toNat_of_nonneg h0]
    exact hQ _ _ _ _ _ W.le_refl (R.toks _) (.int _ ev) h
  | _ => exact ff h
include hh in
theorem bMx_ok {vs : List AV} (hv : All2 (VR W) vs cs) (h : bMx vs σ k = true) : wpAny (model prog w) A (call (.builtin "max") cs) Q E s := by
  obtain ⟨a, x, t, b, y, u, rfl, ea, eb, h⟩ := onI2_is hv h
  obtain ⟨σ', R', hk⟩ := ltA_ok R ea eb h
  obtain ⟨news, N, C, _, _⟩ := R'.toNews
  obtain ⟨gt, T, F⟩ := R'.fr
  refine max_two_N hh F (newsTurn T N) fun h' tk F' N' => ?_
  replace F' := Gr.mk T F'
  replace N' := newsBack T N'
  have R2 : Rel os0 h₀ L m W σ' { s with heap := h', toks := tk } := R'.anew (σ' := σ') F' N' C R'.lcs rfl rfl rfl rfl rfl R'.scr
  by_cases q : x < y
  · rw [decide_eq_true q] at hk
    rw [if_pos q, if_pos q]
    exact hQ _ _ _ _ _ W.le_refl R2 (.int _ eb) hk
  · rw [decide_eq_false q] at hk
    rw [if_neg q, if_neg q]
    exact hQ _ _ _ _ _ W.le_refl R2 (.int _ ea) hk
include hh in
theorem bMn_ok {vs : List AV} (hv : All2 (VR W) vs cs) (h : bMn vs σ k = true) : wpAny (model prog w) A (call (.builtin "min") cs) Q E s := by
  obtain ⟨a, x, t, b, y, u, rfl, ea, eb, h⟩ := onI2_is hv h
  obtain ⟨σ', R', hk⟩ := ltA_ok R eb ea h
  obtain ⟨news, N, C, _, _⟩ := R'.toNews
  obtain ⟨gt, T, F⟩ := R'.fr
  refine min_two_N hh F (newsTurn T N) fun h' tk F' N' => ?_
  replace F' := Gr.mk T F'
  replace N' := newsBack T N'
  have R2 : Rel os0 h₀ L m W σ' { s with heap := h', toks := tk } := R'.anew (σ' := σ') F' N' C R'.lcs rfl rfl rfl rfl rfl R'.scr
  by_cases q : y < x
  · rw [decide_eq_true q] at hk
    rw [if_pos q, if_pos q]
    exact hQ _ _ _ _ _ W.le_refl R2 (.int _ eb) hk
  · rw [decide_eq_false q] at hk
    rw [if_neg q, if_neg q]
    exact hQ _ _ _ _ _ W.le_refl R2 (.int _ ea) hk
include hh in
theorem bMnA_ok {vs : List AV} (hv : All2 (VR W) vs cs) (h : bMnA vs σ k = true) : wpAny (model prog w) A (call (.builtin "min") cs) Q E s := bMn_ok hh R hQ hv h
include hh in
theorem bSort_ok (hw : os0.1 = w.params.strHash) (hu : A.units + 40 < cLine) {v : AV} {c : Value} (hv : VR W v c) (h : bSort v σ k = true) : wpAny (model prog w) A (call (.builtin "sorted") [c]) Q E s := by
  induction v using Mine.AV.casesOn with
  | loc l =>
    apply hv.onLoc; intro x ea
    obtain ⟨⟨es, n⟩, hg, h⟩ := onO_is (show onO ((σ.hp.get l).bind dctOf) _ = true from h)
    obtain ⟨o, hg, ho⟩ := someBind hg
    obtain rfl := dctOf_is ho
    obtain ⟨ci, k1, k2⟩ := R.ref hg ea
    obtain ⟨_, rfl, hd, nd⟩ := k1.inv
    cases hb : Nat.ble es.length 60 && entsOK σ 0 es with
    | false =>
      rw [hb] at h
      exact ff h
    | true =>
    rw [hb] at h
    obtain ⟨b1, b2⟩ := an hb
    obtain ⟨g1, g2⟩ := entsOK_ok R (R.par.trans hw) hd b2
    refine sorted_keys hh (R.sysN hg ea) k2 (by rw [← hd.length]; exact Nat.le_trans (Nat.le_of_ble_eq_true b1) (by decide)) (intsOf_is g1 g2) fun h' tk a n' out hi hk ha hl => ?_
    obtain ⟨R', v', h'⟩ := R.came (t := tk) h hk hl ha (.lst (litsA_is hi))
    exact hQ _ _ _ _ _ (W.le_grow _) R' v' h'
  | _ => exact ff h
include hh in
theorem bAny_ok {v : AV} {c : Value} (hv : VR W v c) (h : bAny v σ k = true) : wpAny (model prog w) A (call (.builtin "any") [c]) Q E s := by
  induction v using Mine.AV.casesOn with
  | loc l =>
    apply hv.onLoc; intro x ea
    obtain ⟨xs, hg, h⟩ := onO_is (show onO ((σ.hp.get l).bind lstOf) _ = true from h)
    obtain ⟨bs, hb, h⟩ := onO_is h
    obtain ⟨ci, k1, k2⟩ := R.ref (at_is lstOf_is hg) ea
    obtain ⟨cx, hx, tx⟩ := lst_at k1 k2
    obtain ⟨news, N, C, _, _⟩ := R.toNews
    obtain ⟨gt, T, F⟩ := R.fr
    refine LSm.any_bools F (newsTurn T N) hh tx (boolsOf_is hx hb) fun h' tk F' N' => ?_
    replace F' := Gr.mk T F'
    replace N' := newsBack T N'
    exact hQ _ _ _ _ _ W.le_refl (R.anew (s' := { s with heap := h', toks := tk }) (σ' := σ) F' N' C R.lcs rfl rfl rfl rfl rfl R.scr) (.bool _) h
  | _ => exact ff h
omit R hQ in
theorem tInt_ok (R : Rel os0 h₀ L m W σ s) (hQ : ∀ W' v c σ' s', W.le W' → Rel os0 h₀ L m W' σ' s' → VR W' v c → k v σ' = true → Q c s') {v : AV} {c : Value} (hv : VR W v c) (h : tInt v σ k = true) : wpAny (model prog w) A (call (.type "int") [c]) Q E s := by
  induction v using Mine.AV.casesOn with
  | bool b =>
    obtain rfl := hv.inv
    exact call_int_bool (hQ _ _ _ _ _ W.le_refl (R.toks _) (.int _ (IE.ev_lit _ _)) h)
  | int e =>
    apply hv.onInt; intro _ t ea
    exact call_int_int (hQ _ _ _ _ _ W.le_refl R (.int _ ea) h)
  | _ => exact ff h
include hh in
theorem tBytes_ok {v : AV} {c : Value} (hv : VR W v c) (h : tBytes v σ k = true) : wpAny (model prog w) A (call (.type "bytes") [c]) Q E s := by
  induction v using Mine.AV.casesOn with
  | int e =>
    apply hv.onInt; intro x t ea
    obtain ⟨a, h1, h⟩ := onO_is (show onO (e.lo σ.vi) _ = true from h)
    obtain ⟨b, h2, h⟩ := onO_is h
    obtain ⟨hd, h⟩ := mt h
    obtain ⟨d1, d2⟩ := an hd
    have l1 := Int.le_trans (of_decide_eq_true d1) (IE.lo_le R.vars h1 ea)
    have l2 := Int.le_trans (IE.hi_ge R.vars h2 ea) (of_decide_eq_true d2)
    exact call_bytes_int l1 l2 (hQ _ _ _ _ _ W.le_refl (R.toks _) (.bz _ ea l1 l2 rfl) h)
  | byts b =>
    obtain ⟨_, t, rfl, eb⟩ := hv.inv
    exact call_bytes_bytes (hQ _ _ _ _ _ W.le_refl R (.byts _ eb) h)
  | bz e =>
    obtain ⟨_, _, t, rfl, e1, e2, e3, e4⟩ := hv.inv
    exact call_bytes_bytes (hQ _ _ _ _ _ W.le_refl R (.bz _ e1 e2 e3 e4) h)
  | loc l =>
    apply hv.onLoc; intro x ea
    obtain ⟨xs, hg, h⟩ := onO_is (show onO ((σ.hp.get l).bind lstOf) _ = true from h)
    obtain ⟨hb, h⟩ := mt h
    obtain ⟨b, ho, h⟩ := onO_is h
    obtain ⟨ci, k1, k2⟩ := R.ref (at_is lstOf_is hg) ea
    obtain ⟨cx, hx, tx⟩ := lst_at k1 k2
    obtain ⟨ns, g1, g2, g3⟩ := octs_is R.vars hx ho
    refine call_bytes_ints tx g1 g2 (by rw [sizeLine_eq, ← hx.length]; exact Nat.le_trans (Nat.le_of_ble_eq_true hb) (by decide)) hh fun h' t k hk => ?_
    exact hQ _ _ _ _ _ W.le_refl (R.kept hk) (.byts _ g3) h
  | _ => exact ff h
omit R hQ in
theorem tList_ok (R : Rel os0 h₀ L m W σ s) (hQ : ∀ W' v c σ' s', W.le W' → Rel os0 h₀ L m W' σ' s' → VR W' v c → k v σ' = true → Q c s') {v : AV} {c : Value} (hv : VR W v c) (h : tList v σ k = true) : wpAny (model prog w) A (call (.type "list") [c]) Q E s := by
  induction v using Mine.AV.casesOn with
  | loc l =>
    apply hv.onLoc; intro x ea
    obtain ⟨xs, hg, h⟩ := onO_is (show onO ((σ.hp.get l).bind lstOf) _ = true from h)
    obtain ⟨hb, h⟩ := mt h
    obtain ⟨ci, k1, k2⟩ := R.ref (at_is lstOf_is hg) ea
    obtain ⟨_, _, rfl, hx⟩ := k1.inv
    refine call_list_seq _ (.inl rfl) k2 rfl rfl (fun h' c' hk hn => ?_) (by rw [sizeLine_eq, List.size_toArray, ← hx.length]; exact Nat.le_trans (Nat.le_of_ble_eq_true hb) (by decide))
    obtain ⟨R', v', h'⟩ := R.came (t := s.toks) h hk hn (get_size_none _) (.lst (hx.imp fun _ _ q => q.mono (W.le_grow _)))
    exact hQ _ _ _ _ _ (W.le_grow _) R' v' h'
  | _ => exact ff h
omit R hQ in
theorem tRange_ok (R : Rel os0 h₀ L m W σ s) (hQ : ∀ W' v c σ' s', W.le W' → Rel os0 h₀ L m W' σ' s' → VR W' v c → k v σ' = true → Q c s') {vs : List AV} (hv : All2 (VR W) vs cs) (h : tRange vs σ k = true) : wpAny (model prog w) A (call (.type "range") cs) Q E s := by
  induction vs using List.casesOn with
  | nil => exact ff h
  | cons x r =>
    induction r using List.casesOn with
    | nil =>
      apply hv.onCons; intro _ _ hx ht
      obtain rfl := ht.inv
      obtain ⟨e, rfl, h'⟩ := onInt_is (show onInt x _ = true from h)
      apply hx.onInt; intro _ t ea
      obtain ⟨σ', R', hk⟩ := splitI_ok R ea h'
      refine call_range_1 ?_
      obtain ⟨R2, v2, h2⟩ := (R'.toks (s.toks + 1 + 1)).allocA (c := { cls := .type "range", data := .fields #[.int 0 s.toks, .int _ t, .int 1 (s.toks + 1)] }) hk .rng
      exact hQ _ _ _ _ _ (W.le_grow _) R2 v2 h2
    | cons y r =>
      obtain ⟨_, _, t, _, _, u, rfl, ea, eb, h⟩ := onI2_is hv h
      obtain ⟨σ', R', hk⟩ := splitI_ok R ea h
      obtain ⟨σ'', R'', hk⟩ := splitI_ok R' eb hk
      refine call_range_2 ?_
      obtain ⟨R2, v2, h2⟩ := (R''.toks (s.toks + 1)).allocA (c := { cls := .type "range", data := .fields #[.int _ t, .int _ u, .int 1 s.toks] }) hk .rng
      exact hQ _ _ _ _ _ (W.le_grow _) R2 v2 h2
end
theorem callB1_ok (hw : os0.1 = w.params.strHash) (hu : A.units + 40 < cLine) (hh : A.handled = none) (R : Rel os0 h₀ L m W σ s) {i : BI} {vs : List AV} {cs : List Value} {k : AV → St → Bool} {Q : Value → Shared → Prop} (hv : All2 (VR W) vs cs) (h : callB1 i vs σ k = true)
    (hQ : ∀ W' v c σ' s', W.le W' → Rel os0 h₀ L m W' σ' s' → VR W' v c → k v σ' = true → Q c s') : wpAny (model prog w) A (call (.builtin i.name) cs) Q E s := by
  induction i using Mine.BI.casesOn with
  | len => obtain ⟨x, c, rfl, hx, h⟩ := onL1_is hv h; exact bLen_ok R hQ hx h
  | max => exact bMx_ok hh R hQ hv h
  | min => exact bMnA_ok hh R hQ hv h
  | sorted => obtain ⟨x, c, rfl, hx, h⟩ := onL1_is hv h; exact bSort_ok hh R hQ hw hu hx h
  | any => obtain ⟨x, c, rfl, hx, h⟩ := onL1_is hv h; exact bAny_ok hh R hQ hx h
theorem callB_ok (hw : os0.1 = w.params.strHash) (hu : A.units + 40 < cLine) (hh : A.handled = none) (R : Rel os0 h₀ L m W σ s) {i : BI} {vs : List AV} {cs : List Value} {k : AV → St → Bool} {Q : Value → Shared → Prop} (hv : All2 (VR W) vs cs) (h : callB i vs σ k = true)
    (hQ : ∀ W' v c σ' s', W.le W' → Rel os0 h₀ L m W' σ' s' → VR W' v c → k v σ' = true → Q c s') : wpAny (model prog w) A (call (.builtin i.name) cs) Q E s := by
  unfold callB at h
  obtain ⟨vs', σ', R', hv', h⟩ := forceL_ok R hv h
  exact callB1_ok hw hu hh R' hv' h hQ

theorem callT1_ok (hh : A.handled = none) (R : Rel os0 h₀ L m W σ s) {t : TI} {vs : List AV} {cs : List Value} {k : AV → St → Bool} {Q : Value → Shared → Prop} (hv : All2 (VR W) vs cs) (h : callT1 t vs σ k = true)
    (hQ : ∀ W' v c σ' s', W.le W' → Rel os0 h₀ L m W' σ' s' → VR W' v c → k v σ' = true → Q c s') : wpAny (model prog w) A (call (.type t.name) cs) Q E s := by
  induction t using Mine.TI.casesOn with
  | int => obtain ⟨x, c, rfl, hx, h⟩ := onL1_is hv h; exact tInt_ok R hQ hx h
  | bytes => obtain ⟨x, c, rfl, hx, h⟩ := onL1_is hv h; exact tBytes_ok hh R hQ hx h
  | list => obtain ⟨x, c, rfl, hx, h⟩ := onL1_is hv h; exact tList_ok R hQ hx h
  | range => exact tRange_ok R hQ hv h
  | _ => exact ff h
theorem callT_ok (hh : A.handled = none) (R : Rel os0 h₀ L m W σ s) {t : TI} {vs : List AV} {cs : List Value} {k : AV → St → Bool} {Q : Value → Shared → Prop} (hv : All2 (VR W) vs cs) (h : callT t vs σ k = true)
    (hQ : ∀ W' v c σ' s', W.le W' → Rel os0 h₀ L m W' σ' s' → VR W' v c → k v σ' = true → Q c s') : wpAny (model prog w) A (call (.type t.name) cs) Q E s := by
  unfold callT at h
  obtain ⟨vs', σ', R', hv', h⟩ := forceL_ok R hv h
  exact callT1_ok hh R' hv' h hQ
end
end Mine

namespace Mine
open PySem PySem.W PySem.Calls PyProof.Rows PySem.SeqAt
set_option maxRecDepth 100000

/-! ## lists: a thing taken out -/
noncomputable def delL {α : Type} : List α → Nat → List α
  | [], _ => []
  | x :: r, i => match i with
    | 0 => r
    | j + 1 => x :: delL r j
theorem delL_is {α : Type} : ∀ {l : List α} {i : Nat}, delL l i = l.eraseIdx i
  | [], _ => rfl
  | _ :: _, 0 => rfl
  | x :: r, i + 1 => by
    show x :: delL r i = _
    rw [delL_is]; rfl
theorem All2.del {α β : Type} {R : α → β → Prop} {as : List α} {bs : List β} (h : All2 R as bs) (i : Nat) : All2 R (as.eraseIdx i) (bs.eraseIdx i) := by
  induction h generalizing i with
  | nil => exact .nil
  | cons h t ih => induction i using Nat.casesOn with
    | zero => exact t
    | succ i => exact .cons h (ih i)
noncomputable def allInt : List AV → Bool
  | [] => true
  | v :: r => match v with
    | .int _ => allInt r
    | _ => false
/-- where the first one lies that is this number -/
noncomputable def remI (vi : List VI) (e : IE) : List AV → Option Nat
  | [] => none
  | v :: r => match v with
    | .int x => match (x.sub e).zero? vi with
      | some true => some 0
      | some false => match remI vi e r with
        | some j => some (j + 1)
        | none => none
      | none => none
    | _ => none
theorem allInt_is {W : Wd} : ∀ {vs : List AV} {cs : List Value}, All2 (VR W) vs cs → allInt vs = true → ∀ c ∈ cs, ∃ x t, c = .int x t
  | _, _, .nil, _ => fun _ h => absurd h List.not_mem_nil
  | v :: r, c :: cs, .cons q t, h => by
    unfold allInt at h
    cases q <;> first | (cases h; done) | skip
    intro d hd
    rcases List.mem_cons.mp hd with rfl | hd
    · exact ⟨_, _, rfl⟩
    · exact allInt_is t h d hd
theorem remI_is {vi : List VI} {W : Wd} (V : VOK vi W.ι) {e : IE} {y : Int} (q : e.ev W.ι = some y) : ∀ {vs : List AV} {cs : List Value} {j : Nat}, All2 (VR W) vs cs → remI vi e vs = some j → ∃ h : j < cs.length, isInt y cs[j] = true ∧ ∀ i (hi : i < cs.length), i < j → isInt y cs[i] = false
  | _, _, _, .nil, h => by exact no_some h
  | v :: r, c :: cs, j, .cons hv t, h => by
    unfold remI at h
    cases hv <;> first | (cases h; done) | skip
    rename_i e1 x tk ev
    dsimp only at h
    have hz := IE.ev_sub ev q
    cases hn : (e1.sub e).zero? vi with
    | none => rw [hn] at h; exact no_some h
    | some b =>
      rw [hn] at h
      have hb := IE.zero_is V hn hz
      induction b using Bool.casesOn with
      | true =>
        obtain rfl := Option.some.inj h
        have := of_decide_eq_true hb
        refine ⟨by simp, ?_, fun i _ hi => absurd hi (Nat.not_lt_zero _)⟩
        show isInt y (.int x tk) = true
        have : x = y := by omega
        subst this
        simp [isInt]
      | false =>
        dsimp only at h
        cases hr : remI vi e r with
        | none => rw [hr] at h; exact no_some h
        | some k =>
          rw [hr] at h
          obtain rfl := Option.some.inj h
          obtain ⟨g1, g2, g3⟩ := remI_is V q t hr
          have hne := of_decide_eq_false hb
          refine ⟨by simp; exact g1, by simpa using g2, fun i hi hlt => ?_⟩
          induction i using Nat.casesOn with
          | zero =>
            show isInt y (.int x tk) = false
            have : x ≠ y := by omega
            simp [isInt, this]
          | succ i =>
            have := g3 i (by simp at hi; exact hi) (by omega)
            simpa using this
section
variable {prog : Program} {w : World} {A : Around} {E : Value → Shared → Prop} {s : Shared}
theorem mapSeq_erase (cs : List Value) (n j : Nat) (h : j < cs.length) : Obj.mapSeq (fun xs => xs.eraseIdxIfInBounds j) (W.listOf cs.toArray n) = W.listOf (cs.eraseIdx j).toArray (n + 1) := by
  have e : cs.toArray.eraseIdxIfInBounds j = (cs.eraseIdx j).toArray := by simp [Array.eraseIdxIfInBounds, h]
  have hl : ((cs.eraseIdx j).toArray.size == cs.toArray.size) = false := by
    rw [beq_eq_false_iff_ne]
    simp [List.length_eraseIdx, h]
    omega
  have hl' : ¬ (cs.eraseIdx j).length = cs.length := by simpa using hl
  simp [Obj.mapSeq, W.listOf, e, hl']
theorem raw_remove {D : Addr} {cs : List Value} {n : Nat} {y : Int} {t : Tok} {j : Nat} {Q : Value → Shared → Prop} (ho : s.heap.get? D = some (W.listOf cs.toArray n)) (hi : ∀ c ∈ cs, ∃ x t, c = .int x t) (hz : cs.length ≤ 1000000)
    (hj : ∃ h : j < cs.length, isInt y cs[j] = true ∧ ∀ i (hi : i < cs.length), i < j → isInt y cs[i] = false)
    (h : ∀ h' n', h'.get? D = some (W.listOf (cs.eraseIdx j).toArray n') → Heap.SameBut D s.heap h' → Q .none { s with heap := h' }) : wpAny (model prog w) A (call (.builtin "list.remove") [.ref D, .int y t]) Q E s := by
  obtain ⟨h1, h2, h3⟩ := hj
  have hg := Heap.get?_update_self (Obj.mapSeq fun xs => xs.eraseIdxIfInBounds j) ho (by rfl)
  refine call_meets PySem.F.slot_list_remove ⟨_, ho, rfl⟩ PySem.F.entry_list_remove (PySem.F.args_list_remove_2 _ _)
    (MeetsSeq.list_remove D cs.toArray n (.int y t) (isInt y) (fun c hc => ?_) j (by simpa using h1) (by simpa using h2) (fun i hi hlt => by simpa using h3 i (by simpa using hi) hlt) (by rw [sizeLine_eq]; simp; omega))
    ⟨ho, h _ (n + 1) ?_ (Heap.SameBut.update ..)⟩
  · obtain ⟨x, u, rfl⟩ := hi c (by simpa using hc)
    exact MeetsSeq.EqGives.int x y u t
  · rw [hg]
    exact congrArg some (mapSeq_erase _ _ _ h1)
theorem raw_pop {D : Addr} {cs : List Value} {n : Nat} {i : Int} {t : Tok} {y : Value} {Q : Value → Shared → Prop} (ho : s.heap.get? D = some (W.listOf cs.toArray n)) (hz : cs.length ≤ 1000000) (h0 : 0 ≤ i) (h1 : i < cs.length) (hy : cs[i.toNat]? = some y)
    (h : ∀ h' n', h'.get? D = some (W.listOf (cs.eraseIdx i.toNat).toArray n') → Heap.SameBut D s.heap h' → Q y { s with heap := h' }) : wpAny (model prog w) A (call (.builtin "list.pop") [.ref D, .int i t]) Q E s := by
  have hg := Heap.get?_update_self (Obj.mapSeq fun xs => xs.eraseIdxIfInBounds i.toNat) ho (by rfl)
  have hk : seqIndex? i cs.toArray.size = some i.toNat := by
    have hn : ¬ i < 0 := by omega
    simp [seqIndex?, hn, h0, h1]
  refine call_meets PySem.F.slot_list_pop ⟨_, ho, rfl⟩ PySem.F.entry_list_pop (PySem.F.args_list_pop_2 _ _)
    (PySem.MeetsSeq.list_pop_at D _ n i t _ y (by simp [Builtin.List.listFitsIndex]; omega) hk (by simpa using hy) (by rw [sizeLine_eq]; simp; omega)) ⟨ho, h _ (n + 1) ?_ (Heap.SameBut.update ..)⟩
  rw [hg]
  exact congrArg some (mapSeq_erase _ _ _ (by omega))
end
end Mine

namespace Mine
open PySem PySem.W PySem.Calls PyProof.Rows PySem.SeqAt
set_option maxRecDepth 100000

/-! ## one shape in another one -/
/-- for each place and each letter of a shape: a place, an int -/
structure Th where
  pl : List Nat
  lt : List IE
noncomputable def nthL {α : Type} : List α → Nat → Option α
  | [], _ => none
  | x :: r, i => match i with
    | 0 => some x
    | j + 1 => nthL r j
theorem nthL_is {α : Type} : ∀ {l : List α} {i : Nat}, nthL l i = l[i]?
  | [], i => by simp [nthL]
  | x :: r, 0 => rfl
  | x :: r, j + 1 => by
    rw [List.getElem?_cons_succ]
    exact nthL_is (l := r)
noncomputable def sbT (lt : List IE) : List (Nat × Int) → Option IE
  | [] => some ⟨0, []⟩
  | t :: r => match nthL lt t.1, sbT lt r with
    | some e, some q => some ((e.mulK t.2).add q)
    | _, _ => none
noncomputable def IE.sb (lt : List IE) (e : IE) : Option IE := match sbT lt e.ts with
  | some q => some ⟨e.c + q.c, q.ts⟩
  | none => none
abbrev LtOK (ι : List Int) (lt : List IE) (ι0 : List Int) : Prop := All2 (fun (e : IE) (x : Int) => e.ev ι = some x) lt ι0
theorem sbT_ev {ι ι0 : List Int} {lt : List IE} (h : LtOK ι lt ι0) : ∀ {ts : List (Nat × Int)} {q : IE}, sbT lt ts = some q → ∃ x, tsum ι0 ts = some x ∧ q.ev ι = some x
  | [], q, e => by
    obtain rfl := Option.some.inj e
    exact ⟨0, rfl, by simp [IE.ev, tsum]⟩
  | t :: r, q, e => by
    unfold sbT at e
    cases h1 : nthL lt t.1 with
    | none => rw [h1] at e; exact no_some e
    | some a =>
      cases h2 : sbT lt r with
      | none => rw [h1, h2] at e; exact no_some e
      | some b =>
        rw [h1, h2] at e
        obtain rfl := Option.some.inj e
        rw [nthL_is] at h1
        obtain ⟨y, hy, hy'⟩ := h.get h1
        obtain ⟨z, hz, hz'⟩ := sbT_ev h h2
        exact ⟨t.2 * y + z, by simp only [tsum, hy, hz], IE.ev_add (IE.ev_mulK hy') hz'⟩
theorem IE.sb_ev {ι ι0 : List Int} {lt : List IE} (h : LtOK ι lt ι0) {e e' : IE} (q : e.sb lt = some e') : ∃ x, e.ev ι0 = some x ∧ e'.ev ι = some x := by
  unfold IE.sb at q
  cases h1 : sbT lt e.ts with
  | none => rw [h1] at q; exact no_some q
  | some r =>
    rw [h1] at q
    obtain rfl := Option.some.inj q
    obtain ⟨x, g1, g2⟩ := sbT_ev h h1
    unfold IE.ev at g2 ⊢
    obtain ⟨y, hy, rfl⟩ := Option.map_eq_some_iff.mp g2
    exact ⟨e.c + (r.c + y), by rw [g1]; rfl, by rw [hy]; simp [Int.add_assoc]⟩
/-- the same number -/
noncomputable def isame (a b : IE) : Bool := match (a.sub b).ts with
  | [] => decide ((a.sub b).c = 0)
  | _ => false
theorem isame_is {ι : List Int} {a b : IE} {x y : Int} (h : isame a b = true) (ha : a.ev ι = some x) (hb : b.ev ι = some y) : x = y := by
  unfold isame at h
  split at h
  · rename_i ht
    have := IE.num_ev (by unfold IE.num; rw [ht]) (IE.ev_sub ha hb)
    have := of_decide_eq_true h
    omega
  · exact ff h
noncomputable def sbSame (lt : List IE) (e0 e : IE) : Bool := match e0.sb lt with
  | some e' => isame e' e
  | none => false
theorem sbSame_is {ι ι0 : List Int} {lt : List IE} (h : LtOK ι lt ι0) {e0 e : IE} {x : Int} (q : sbSame lt e0 e = true) (he : e.ev ι = some x) : e0.ev ι0 = some x := by
  unfold sbSame at q
  split at q
  · rename_i e' h1
    obtain ⟨y, g1, g2⟩ := IE.sb_ev h h1
    rw [g1, isame_is q g2 he]
  · exact ff q

/-! ## things by kind -/
noncomputable def onBz (v : AV) (k : IE → Bool) : Bool := match v with
  | .bz e => k e
  | _ => false
theorem onBz_is {v : AV} {k : IE → Bool} (h : onBz v k = true) : ∃ e, v = .bz e ∧ k e = true := by
  induction v using Mine.AV.casesOn <;> first | exact ff h | exact ⟨_, rfl, h⟩
/-- the same thing, without letters and places -/
noncomputable def cst (v : AV) : Bool := match v with
  | .none => true
  | .bool _ => true
  | .str _ => true
  | .byts _ => true
  | .top _ => true
  | _ => false
theorem cst_is {W W' : Wd} {v : AV} {c : Value} (h : cst v = true) (hv : VR W v c) : VR W' v c := by
  cases hv <;> first | exact ff h | skip
  · exact .none
  · exact .bool _
  · exact .str _ _
  · rename_i t e; exact .byts t e
  · exact .top _
noncomputable def mAV1 (θ : Th) (v0 v : AV) : Bool := match v0 with
  | .int e0 => onInt v fun e => sbSame θ.lt e0 e
  | .loc l0 => onLoc v fun l => match nthL θ.pl l0 with
    | some l' => Nat.beq l' l
    | none => false
  | .bz e0 => onBz v fun e => sbSame θ.lt e0 e
  | _ => cst v0 && avEq1 v0 v
noncomputable def mAVs1 (θ : Th) : List AV → List AV → Bool
  | [], vs => match vs with
    | [] => true
    | _ => false
  | u :: r, vs => match vs with
    | [] => false
    | v :: t => mAV1 θ u v && mAVs1 θ r t
noncomputable def onPick (v : AV) (k : IE → List AV → Bool) (e : Unit → Bool) : Bool := match v with
  | .pick x vs => k x vs
  | _ => e ()
theorem onPick_is {v : AV} {k : IE → List AV → Bool} {e : Unit → Bool} (h : onPick v k e = true) : (∃ x vs, v = .pick x vs ∧ k x vs = true) ∨ e () = true := by
  induction v using Mine.AV.casesOn <;> first | exact .inr h | exact .inl ⟨_, _, rfl, h⟩
noncomputable def mAV (θ : Th) (v0 v : AV) : Bool := onPick v0 (fun e0 us0 => onPick v (fun e us => sbSame θ.lt e0 e && mAVs1 θ us0 us) fun _ => match e0.sb θ.lt with
    | some e' => match e'.num with
      | some i => decide (0 ≤ i) && (match nthL us0 i.toNat with
        | some u0 => mAV1 θ u0 v
        | none => false)
      | none => false
    | none => false) fun _ => mAV1 θ v0 v
noncomputable def mAVs (θ : Th) : List AV → List AV → Bool
  | [], vs => match vs with
    | [] => true
    | _ => false
  | u :: r, vs => match vs with
    | [] => false
    | v :: t => mAV θ u v && mAVs θ r t
structure ThOK (W : Wd) (θ : Th) (W0 : Wd) : Prop where
  pl : All2 (fun (l : Nat) (a : Addr) => W.ρ[l]? = some a) θ.pl W0.ρ
  lt : LtOK W.ι θ.lt W0.ι
  hs : W0.hs = W.hs
section
variable {W W0 : Wd} {θ : Th}
theorem mAV1_is (T : ThOK W θ W0) {v0 v : AV} {c : Value} (h : mAV1 θ v0 v = true) (hv : VR W v c) : VR W0 v0 c := by
  have eq : (cst v0 && avEq1 v0 v) = true → VR W0 v0 c := fun h => by
    obtain ⟨h1, h2⟩ := an h
    rw [avEq1_is h2] at h1 ⊢
    exact cst_is h1 hv
  unfold mAV1 at h
  split at h
  · obtain ⟨e, rfl, h⟩ := onInt_is h
    apply hv.onInt; intro x t he
    exact .int t (sbSame_is T.lt h he)
  · obtain ⟨l, rfl, h⟩ := onLoc_is h
    apply hv.onLoc; intro a ha
    split at h
    · rename_i l' h1
      rw [nthL_is] at h1
      obtain ⟨b, g1, g2⟩ := T.pl.get h1
      rw [Nat.eq_of_beq_eq_true h, ha] at g2
      exact .loc (g1.trans g2.symm)
    · exact ff h
  · obtain ⟨e, rfl, h⟩ := onBz_is h
    obtain ⟨x, a, t, rfl, he, h1, h2, h3⟩ := hv.inv
    exact .bz t (sbSame_is T.lt h he) h1 h2 h3
  · exact eq h
theorem mAVs1_is (T : ThOK W θ W0) : ∀ {us vs : List AV} {i : Nat} {v : AV} {c : Value}, mAVs1 θ us vs = true → vs[i]? = some v → VR W v c → ∃ u, us[i]? = some u ∧ VR W0 u c
  | [], vs, i, v, c, h, hi, hv => by
    induction vs using List.casesOn with
    | nil => simp at hi
    | cons _ _ => exact ff h
  | u :: r, vs, i, v, c, h, hi, hv => by
    induction vs using List.casesOn with
    | nil => exact ff h
    | cons x t =>
      obtain ⟨h1, h2⟩ := an h
      induction i using Nat.casesOn with
      | zero => obtain rfl := Option.some.inj hi; exact ⟨u, rfl, mAV1_is T h1 hv⟩
      | succ j => exact mAVs1_is T (us := r) h2 hi hv
theorem mAV_is (T : ThOK W θ W0) {v0 v : AV} {c : Value} (h : mAV θ v0 v = true) (hv : VR W v c) : VR W0 v0 c := by
  rcases onPick_is h with ⟨e0, us0, rfl, h'⟩ | h'
  · rcases onPick_is h' with ⟨e, us, rfl, h''⟩ | h
    · obtain ⟨h1, h2⟩ := an h''
      obtain ⟨x, u, g1, g2, g3, g4⟩ := hv.inv
      obtain ⟨u0, y1, y2⟩ := mAVs1_is T h2 g3 g4
      exact .pick (sbSame_is T.lt h1 g1) g2 y1 y2
    · split at h
      · rename_i e' h1
        split at h
        · rename_i i h2
          obtain ⟨g1, h⟩ := an h
          split at h
          · rename_i u0 h3
            obtain ⟨x, y1, y2⟩ := IE.sb_ev T.lt h1
            rw [IE.num_ev h2 y2] at y1
            rw [nthL_is] at h3
            exact .pick y1 (of_decide_eq_true g1) h3 (mAV1_is T h hv)
          · exact ff h
        · exact ff h
      · exact ff h
  · exact mAV1_is T h' hv
theorem mAVs_is (T : ThOK W θ W0) : ∀ {us vs : List AV} {cs : List Value}, mAVs θ us vs = true → All2 (VR W) vs cs → All2 (VR W0) us cs
  | [], vs, cs, h, hv => by
    induction vs using List.casesOn with
    | nil => cases hv; exact .nil
    | cons _ _ => exact ff h
  | u :: r, vs, cs, h, hv => by
    induction vs using List.casesOn with
    | nil => exact ff h
    | cons x t =>
      obtain ⟨h1, h2⟩ := an h
      apply hv.onCons; intro _ _ hx ht
      exact .cons (mAV_is T h1 hx) (mAVs_is T h2 ht)
end

/-! ## objects by kind -/
noncomputable def onTup (o : AO) (k : List AV → Bool) : Bool := match o with
  | .tup vs => k vs
  | _ => false
theorem onTup_is {o : AO} {k : List AV → Bool} (h : onTup o k = true) : ∃ e, o = .tup e ∧ k e = true := by
  induction o using Mine.AO.casesOn <;> first | exact ff h | exact ⟨_, rfl, h⟩
noncomputable def onLst (o : AO) (k : List AV → Bool) : Bool := match o with
  | .lst vs => k vs
  | _ => false
theorem onLst_is {o : AO} {k : List AV → Bool} (h : onLst o k = true) : ∃ e, o = .lst e ∧ k e = true := by
  induction o using Mine.AO.casesOn <;> first | exact ff h | exact ⟨_, rfl, h⟩
noncomputable def onDct (o : AO) (k : List (KD × AV × AV) → Nat → Bool) : Bool := match o with
  | .dct es n => k es n
  | _ => false
theorem onDct_is {o : AO} {k : List (KD × AV × AV) → Nat → Bool} (h : onDct o k = true) : ∃ es n, o = .dct es n ∧ k es n = true := by
  induction o using Mine.AO.casesOn <;> first | exact ff h | exact ⟨_, _, rfl, h⟩
noncomputable def onBarr (o : AO) (k : List UInt8 → Bool) : Bool := match o with
  | .barr b => k b
  | _ => false
theorem onBarr_is {o : AO} {k : List UInt8 → Bool} (h : onBarr o k = true) : ∃ e, o = .barr e ∧ k e = true := by
  induction o using Mine.AO.casesOn <;> first | exact ff h | exact ⟨_, rfl, h⟩
noncomputable def onCel (o : AO) (k : Option AV → Bool) : Bool := match o with
  | .cell v => k v
  | _ => false
theorem onCel_is {o : AO} {k : Option AV → Bool} (h : onCel o k = true) : ∃ e, o = .cell e ∧ k e = true := by
  induction o using Mine.AO.casesOn <;> first | exact ff h | exact ⟨_, rfl, h⟩
/-- an iterator over a range, whatever it knows -/
noncomputable def onRng (o : AO) (k : Int → IE → Bool) : Bool := match o with
  | .rngIt x left => k x (IE.lit left)
  | .rngSI x e => k x e
  | _ => false
theorem onRng_is {W : Wd} {o : AO} {c : Obj} {k : Int → IE → Bool} (ho : OR W o c) (h : onRng o k = true) : ∃ x e left, k x e = true ∧ e.ev W.ι = some left ∧ c = { cls := .type "range_iterator", data := .fields #[rawInt x, rawInt left, rawInt 1] } := by
  induction o using Mine.AO.casesOn with
  | rngIt x left => obtain rfl := ho.inv; exact ⟨x, _, left, h, IE.ev_lit _ _, rfl⟩
  | rngSI x e => obtain ⟨left, rfl, ev⟩ := ho.inv; exact ⟨x, e, left, h, ev, rfl⟩
  | _ => exact ff h
noncomputable def mCel (θ : Th) (u v : Option AV) : Bool := match u with
  | none => match v with
    | none => true
    | some _ => false
  | some u => match v with
    | none => false
    | some v => mAV θ u v
noncomputable def mNs (θ : Th) : List (Str × AV) → List (Str × AV) → Bool
  | [], vs => match vs with
    | [] => true
    | _ => false
  | u :: r, vs => match vs with
    | [] => false
    | v :: t => sq u.1 v.1 && (mAV θ u.2 v.2 && mNs θ r t)
noncomputable def kdEq : KD → KD → Bool
  | .i n, k => match k with
    | .i m => decide (n = m)
    | _ => false
  | .s x, k => match k with
    | .s y => sq x y
    | _ => false
  | .p a b, k => match k with
    | .p c d => kdEq a c && kdEq b d
    | _ => false
theorem kdEq_is : ∀ {a b : KD}, kdEq a b = true → a = b
  | .i n, k, h => by
    induction k using Mine.KD.casesOn with
    | i m => rw [of_decide_eq_true (show decide (n = m) = true from h)]
    | s _ => exact ff h
    | p _ _ => exact ff h
  | .s x, k, h => by
    induction k using Mine.KD.casesOn with
    | i _ => exact ff h
    | s y => rw [sq_eq (show sq x y = true from h)]
    | p _ _ => exact ff h
  | .p a b, k, h => by
    induction k using Mine.KD.casesOn with
    | i _ => exact ff h
    | s _ => exact ff h
    | p c d =>
      obtain ⟨h1, h2⟩ := an (show (kdEq a c && kdEq b d) = true from h)
      rw [kdEq_is h1, kdEq_is h2]
noncomputable def mDs (θ : Th) : List (KD × AV × AV) → List (KD × AV × AV) → Bool
  | [], vs => match vs with
    | [] => true
    | _ => false
  | u :: r, vs => match vs with
    | [] => false
    | v :: t => kdEq u.1 v.1 && (mAV θ u.2.1 v.2.1 && (mAV θ u.2.2 v.2.2 && mDs θ r t))
noncomputable def mAO (θ : Th) (o0 o : AO) : Bool := match o0 with
  | .tup us => onTup o fun vs => mAVs θ us vs
  | .lst us => onLst o fun vs => mAVs θ us vs
  | .inst C d0 => onInst o fun C' d => Nat.beq C C' && (match nthL θ.pl d0 with
    | some d' => Nat.beq d' d
    | none => false)
  | .ns fs0 => onNs o fun fs => mNs θ fs0 fs
  | .dct es0 n0 => onDct o fun es n => Nat.beq n0 n && mDs θ es0 es
  | .barr b0 => onBarr o fun b => beqBytes b0 b
  | .cell u => onCel o fun v => mCel θ u v
  | .rngSI x e0 => onRng o fun y e => decide (x = y) && sbSame θ.lt e0 e
  | _ => false
section
variable {W W0 : Wd} {θ : Th}
theorem mNs_is (T : ThOK W θ W0) : ∀ {us vs : List (Str × AV)} {es : List DictEntry}, mNs θ us vs = true → All2 (fun (f : Str × AV) (e : DictEntry) => (∃ t, e.key = .str f.1 t) ∧ VR W f.2 e.val) vs es → All2 (fun (f : Str × AV) (e : DictEntry) => (∃ t, e.key = .str f.1 t) ∧ VR W0 f.2 e.val) us es
  | [], vs, es, h, hv => by
    induction vs using List.casesOn with
    | nil => cases hv; exact .nil
    | cons _ _ => exact ff h
  | u :: r, vs, es, h, hv => by
    induction vs using List.casesOn with
    | nil => exact ff h
    | cons x t =>
      obtain ⟨h1, h⟩ := an h
      obtain ⟨h2, h3⟩ := an h
      obtain ⟨_, _, rfl, ⟨hx, hy⟩, ht⟩ := hv.inv
      exact .cons ⟨by rw [sq_eq h1]; exact hx, mAV_is T h2 hy⟩ (mNs_is T h3 ht)
theorem mDs_is (T : ThOK W θ W0) : ∀ {us vs : List (KD × AV × AV)} {es : List DictEntry}, mDs θ us vs = true → All2 (DR W) vs es → All2 (DR W0) us es ∧ us.map (·.1) = vs.map (·.1)
  | [], vs, es, h, hv => by
    induction vs using List.casesOn with
    | nil => cases hv; exact ⟨.nil, rfl⟩
    | cons _ _ => exact ff h
  | u :: r, vs, es, h, hv => by
    induction vs using List.casesOn with
    | nil => exact ff h
    | cons x t =>
      obtain ⟨h1, h⟩ := an h
      obtain ⟨h2, h⟩ := an h
      obtain ⟨h3, h4⟩ := an h
      apply hv.onCons; intro _ _ hx ht
      obtain ⟨g1, g2⟩ := mDs_is T h4 ht
      have hk := kdEq_is h1
      exact ⟨.cons ⟨by rw [hk, T.hs]; exact hx.hash, mAV_is T h2 hx.key, mAV_is T h3 hx.val, by rw [hk]; exact hx.dep⟩ g1, by rw [List.map_cons, List.map_cons, hk, g2]⟩
theorem mAO_is (T : ThOK W θ W0) {o0 o : AO} {c : Obj} (h : mAO θ o0 o = true) (ho : OR W o c) : OR W0 o0 c := by
  induction o0 using Mine.AO.casesOn <;> first | exact ff h | skip
  · obtain ⟨vs, rfl, h⟩ := onTup_is (show onTup o _ = true from h)
    obtain ⟨cs, rfl, hc⟩ := ho.inv
    exact .tup (mAVs_is T h hc)
  · obtain ⟨vs, rfl, h⟩ := onLst_is (show onLst o _ = true from h)
    obtain ⟨cs, n, rfl, hc⟩ := ho.inv
    exact .lst (mAVs_is T h hc)
  · obtain ⟨C', d, rfl, h⟩ := onInst_is (show onInst o _ = true from h)
    obtain ⟨h1, h⟩ := an h
    obtain ⟨dx, rfl, hd⟩ := ho.inv
    rw [Nat.eq_of_beq_eq_true h1]
    split at h
    · rename_i d' h2
      rw [nthL_is] at h2
      obtain ⟨b, g1, g2⟩ := T.pl.get h2
      rw [Nat.eq_of_beq_eq_true h, hd] at g2
      exact .inst (g1.trans g2.symm)
    · exact ff h
  · obtain ⟨fs, rfl, h⟩ := onNs_is (show onNs o _ = true from h)
    obtain ⟨es, n, rfl, he⟩ := ho.inv
    exact .ns (mNs_is T h he)
  · obtain ⟨es, n, rfl, h⟩ := onDct_is (show onDct o _ = true from h)
    obtain ⟨h1, h2⟩ := an h
    obtain ⟨ds, rfl, hd, hn⟩ := ho.inv
    obtain ⟨g1, g2⟩ := mDs_is T h2 hd
    rw [Nat.eq_of_beq_eq_true h1]
    exact .dct g1 (by rw [g2]; exact hn)
  · rename_i x0 e0
    have h3 : onRng o (fun y e => decide (x0 = y) && sbSame θ.lt e0 e) = true := h
    obtain ⟨y, e, left, h', ev, rfl⟩ := onRng_is ho h3
    obtain ⟨h1, h2⟩ := an h'
    obtain rfl := of_decide_eq_true h1
    exact .rngSI (sbSame_is T.lt h2 ev)
  · obtain ⟨v, rfl, h⟩ := onCel_is (show onCel o _ = true from h)
    rename_i u _
    induction u using Option.casesOn with
    | none =>
      cases v with
      | none => exact .cell0 ho.inv
      | some _ => exact ff h
    | some u =>
      cases v with
      | none => exact ff h
      | some v =>
        obtain ⟨cv, e, hv⟩ := ho.inv
        exact .cell e (mAV_is T h hv)
  · obtain ⟨b, rfl, h'⟩ := onBarr_is (show onBarr o _ = true from h)
    obtain rfl := ho.inv
    rw [beqBytes_is] at h'
    rw [beq_iff_eq.mp h']
    exact .barr _
end
end Mine

namespace Mine
open PySem PySem.W PySem.Calls PyProof.Rows PySem.SeqAt
set_option maxRecDepth 100000

/-! ## a shape found in a state -/
noncomputable def bndB (vi : List VI) (e : IE) (lo : Int) (hi : Option Int) : Bool := match e.lo vi with
  | some a => decide (lo ≤ a) && (match hi with
    | none => true
    | some h => match e.hi vi with
      | some b => decide (b ≤ h)
      | none => false)
  | none => false
theorem bndB_is {vi : List VI} {ι : List Int} (V : VOK vi ι) {e : IE} {lo : Int} {hi : Option Int} {x : Int} (h : bndB vi e lo hi = true) (q : e.ev ι = some x) : lo ≤ x ∧ ∀ b, hi = some b → x ≤ b := by
  unfold bndB at h
  split at h
  · rename_i a h1
    obtain ⟨g1, g2⟩ := an h
    refine ⟨Int.le_trans (of_decide_eq_true g1) (IE.lo_le V h1 q), fun b hb => ?_⟩
    subst hb
    dsimp only at g2
    split at g2
    · rename_i b' h2
      exact Int.le_trans (IE.hi_ge V h2 q) (of_decide_eq_true g2)
    · exact ff g2
  · exact ff h
/-- e is d's remainder by m -/
noncomputable def remB (vi : List VI) (e d : IE) (m : Int) : Bool := match decide (0 < m) with
  | true => match ((e.sub d).red vi m).ts with
    | [] => decide (((e.sub d).red vi m).c = 0) && bndB vi e 0 (some (m - 1))
    | _ => false
  | false => false
theorem remB_is {vi : List VI} {ι : List Int} (V : VOK vi ι) {e d : IE} {m x y : Int} (h : remB vi e d m = true) (q : e.ev ι = some x) (qd : d.ev ι = some y) : x = Int.fmod y m := by
  obtain ⟨hm, h⟩ := mt h
  have hm := of_decide_eq_true hm
  split at h
  · rename_i ht
    obtain ⟨h1, h2⟩ := an h
    obtain ⟨y', z, hy, hz⟩ := IE.red_is (m := m) V (IE.ev_sub q qd)
    have := IE.num_ev (by unfold IE.num; rw [ht]) hy
    rw [of_decide_eq_true h1] at this
    obtain ⟨g1, g2⟩ := bndB_is V h2 q
    have g2 := g2 _ rfl
    rw [← fmod_small (m := m) (y := x) g1 (by omega), show x = y + m * z by omega, fmod_shift]
  · exact ff h
noncomputable def vsB (n : Nat) : List (Nat × Int) → Bool
  | [] => true
  | t :: r => Nat.blt t.1 n && vsB n r
theorem vsB_is {ι : List Int} : ∀ {ts : List (Nat × Int)}, vsB ι.length ts = true → ∃ x, tsum ι ts = some x
  | [], _ => ⟨0, rfl⟩
  | t :: r, h => by
    obtain ⟨h1, h2⟩ := an h
    obtain ⟨y, hy⟩ := vsB_is h2
    have hlt : t.1 < ι.length := Nat.le_of_ble_eq_true h1
    exact ⟨t.2 * ι[t.1] + y, by simp only [tsum, List.getElem?_eq_getElem hlt, hy]⟩
noncomputable def ltsB (n : Nat) : List IE → Bool
  | [] => true
  | e :: r => vsB n e.ts && ltsB n r
theorem ltsB_is {ι : List Int} : ∀ {lt : List IE}, ltsB ι.length lt = true → ∃ ι0, LtOK ι lt ι0
  | [], _ => ⟨[], .nil⟩
  | e :: r, h => by
    obtain ⟨h1, h2⟩ := an h
    obtain ⟨x, hx⟩ := vsB_is h1
    obtain ⟨ι0, h0⟩ := ltsB_is h2
    exact ⟨(e.c + x) :: ι0, .cons (by unfold IE.ev; rw [hx]; rfl) h0⟩
noncomputable def plsB (n : Nat) : List Nat → Bool
  | [] => true
  | l :: r => Nat.blt l n && plsB n r
theorem plsB_is {ρ : List Addr} : ∀ {pl : List Nat}, plsB ρ.length pl = true → ∃ ρ0, All2 (fun (l : Nat) (a : Addr) => ρ[l]? = some a) pl ρ0
  | [], _ => ⟨[], .nil⟩
  | l :: r, h => by
    obtain ⟨h1, h2⟩ := an h
    obtain ⟨ρ0, h0⟩ := plsB_is h2
    have hlt : l < ρ.length := Nat.le_of_ble_eq_true h1
    exact ⟨ρ[l] :: ρ0, .cons (List.getElem?_eq_getElem hlt) h0⟩
noncomputable def memN (x : Nat) : List Nat → Bool
  | [] => false
  | y :: r => match Nat.beq x y with
    | true => true
    | false => memN x r
theorem memN_of {x : Nat} : ∀ {l : List Nat} {i : Nat}, l[i]? = some x → memN x l = true
  | [], i, h => by simp at h
  | y :: r, 0, h => by
    obtain rfl := Option.some.inj h
    unfold memN
    rw [Nat.beq_refl]
  | y :: r, i + 1, h => by
    unfold memN
    split
    · rfl
    · exact memN_of (l := r) (i := i) h
theorem memN_is {x : Nat} : ∀ {l : List Nat}, memN x l = true → ∃ i : Nat, l[i]? = some x
  | [], h => ff h
  | y :: r, h => by
    unfold memN at h
    split at h
    · rename_i q
      exact ⟨0, by rw [Nat.eq_of_beq_eq_true q]; rfl⟩
    · obtain ⟨i, hi⟩ := memN_is h
      exact ⟨i + 1, hi⟩
noncomputable def nodupN : List Nat → Bool
  | [] => true
  | x :: r => !memN x r && nodupN r
theorem nodupN_is : ∀ {l : List Nat}, nodupN l = true → ∀ {i j x : Nat}, l[i]? = some x → l[j]? = some x → i = j
  | [], _, i, _, _, h, _ => by simp at h
  | y :: r, h, i, j, x, hi, hj => by
    obtain ⟨h1, h2⟩ := an h
    induction i using Nat.casesOn with
    | zero =>
      induction j using Nat.casesOn with
      | zero => rfl
      | succ j =>
        obtain rfl := Option.some.inj hi
        rw [memN_of (show r[j]? = some y from hj)] at h1
        exact ff h1
    | succ i =>
      induction j using Nat.casesOn with
      | zero =>
        obtain rfl := Option.some.inj hj
        rw [memN_of (show r[i]? = some y from hi)] at h1
        exact ff h1
      | succ j => exact congrArg Nat.succ (nodupN_is h2 hi hj)
noncomputable def mHp (θ : Th) (P σ : Tr AO) : Nat → List Nat → Bool
  | _, [] => true
  | i, l :: r => (match P.get i with
    | none => true
    | some o0 => match σ.get l with
      | some o => mAO θ o0 o
      | none => false) && mHp θ P σ (i + 1) r
noncomputable def mVi (vi : List VI) (lt : List IE) : List VI → List IE → Bool
  | [], es => match es with
    | [] => true
    | _ => false
  | v :: r, es => match es with
    | [] => false
    | e :: t => bndB vi e v.lo v.hi && ((match v.df with
      | none => true
      | some dm => match dm.1.sb lt with
        | some d => remB vi e d dm.2
        | none => false) && mVi vi lt r t)
/-- no thing at n or behind it -/
noncomputable def trB (n : Nat) : Tr AO → (Nat → Nat) → Bool
  | .nil, _ => true
  | .node v l r, f => (match v with
    | none => true
    | some _ => Nat.blt (f 0) n) && (trB n l (fun i => f (2 * i + 0 + 1)) && trB n r (fun i => f (2 * i + 1 + 1)))
theorem trB_is {n : Nat} : ∀ {t : Tr AO} {f : Nat → Nat}, trB n t f = true → ∀ {i : Nat} {o : AO}, t.get i = some o → f i < n
  | .nil, _, _, i, o, e => (nomatch e)
  | .node v l r, f, h, i, o, e => by
    obtain ⟨h0, h⟩ := an h
    obtain ⟨hl, hr⟩ := an h
    induction i using Nat.casesOn with
    | zero =>
      rw [Tr.get_zero] at e
      rw [e] at h0
      exact Nat.le_of_ble_eq_true h0
    | succ j =>
      have hj := Nat.div_add_mod j 2
      rcases Nat.mod_two_eq_zero_or_one j with p | p
      · rw [Tr.get_ev _ _ _ p] at e
        rw [p] at hj
        rw [← hj]
        exact trB_is hl e
      · rw [Tr.get_od _ _ _ p] at e
        rw [p] at hj
        rw [← hj]
        exact trB_is hr e
noncomputable def isLit0 (e : Option IE) : Bool := match e with
  | some e => isame e (IE.var 0)
  | none => false
noncomputable def isN0 (e : Option Nat) : Bool := match e with
  | some n => Nat.beq n 0
  | none => false
noncomputable def noLc (P : St) : Bool := match P.lc with
  | [] => true
  | _ => false
noncomputable def mSt (θ : Th) (P σ : St) : Bool := noLc P && (Nat.beq θ.pl.length P.nl && (plsB σ.nl θ.pl && (ltsB σ.vi.length θ.lt && (nodupN θ.pl && (isN0 (nthL θ.pl 0) && (isLit0 (nthL θ.lt 0) && (trB P.nl P.hp (fun i => i) && (mHp θ P.hp σ.hp 0 θ.pl && mVi σ.vi θ.lt P.vi θ.lt))))))))
section
variable {os0 : (Array Nat → Int) × OsState} {h₀ : Gd} {L : Addr} {m : Str → Option Value} {W W0 : Wd} {σ P : St} {s : Shared} {θ : Th}
theorem mHp_is : ∀ {pl : List Nat} {i j l : Nat} {o0 : AO}, mHp θ P.hp σ.hp i pl = true → pl[j]? = some l → P.hp.get (i + j) = some o0 → ∃ o, σ.hp.get l = some o ∧ mAO θ o0 o = true
  | [], _, _, _, _, _, h, _ => by simp at h
  | l' :: r, i, j, l, o0, h, hj, ho => by
    obtain ⟨h1, h2⟩ := an h
    induction j using Nat.casesOn with
    | zero =>
      obtain rfl := Option.some.inj hj
      rw [Nat.add_zero] at ho
      rw [ho] at h1
      dsimp only at h1
      split at h1
      · rename_i o g1
        exact ⟨o, g1, h1⟩
      · exact ff h1
    | succ j => exact mHp_is (pl := r) (i := i + 1) (j := j) h2 hj (by rw [Nat.add_assoc, Nat.add_comm 1 j]; exact ho)
theorem mVi_is {lt₀ : List IE} {ι₀ : List Int} (V : VOK σ.vi W.ι) (T : LtOK W.ι lt₀ ι₀) : ∀ {vi : List VI} {lt : List IE} {ι0 : List Int}, mVi σ.vi lt₀ vi lt = true → LtOK W.ι lt ι0 → vi.length = ι0.length ∧ ∀ (i : Nat) (v : VI), vi[i]? = some v → ∃ x : Int, ι0[i]? = some x ∧ v.ok ι₀ x
  | [], lt, ι0, h, hl => by
    induction lt using List.casesOn with
    | nil => cases hl; exact ⟨rfl, fun i v e => by simp at e⟩
    | cons _ _ => exact ff h
  | v :: r, lt, ι0, h, hl => by
    induction lt using List.casesOn with
    | nil => exact ff h
    | cons e t =>
      obtain ⟨h1, h⟩ := an h
      obtain ⟨h2, h3⟩ := an h
      apply hl.onCons; intro x _ hx ht
      obtain ⟨g1, g2⟩ := mVi_is V T h3 ht
      refine ⟨congrArg Nat.succ g1, fun i u hu => ?_⟩
      induction i using Nat.casesOn with
      | succ i => exact g2 i u hu
      | zero =>
        obtain rfl := Option.some.inj hu
        obtain ⟨b1, b2⟩ := bndB_is V h1 hx
        refine ⟨x, rfl, b1, b2, fun e0 m0 hd => ?_⟩
        rw [hd] at h2
        dsimp only at h2
        split at h2
        · rename_i d hs
          obtain ⟨y, y1, y2⟩ := IE.sb_ev T hs
          exact ⟨y, y1, remB_is V h2 hx y2⟩
        · exact ff h2
/-- the state as the shape sees it -/
theorem mSt_is (R : Rel os0 h₀ L m W σ s) (h : mSt θ P σ = true) : ∃ W0, ThOK W θ W0 ∧ Rel os0 h₀ L m W0 P s ∧ ∀ l o, P.hp.get l = some o → ∃ l' o', θ.pl[l]? = some l' ∧ σ.hp.get l' = some o' := by
  refine Classical.byContradiction fun hgo => ?_
  obtain ⟨h0, h⟩ := an h
  obtain ⟨h1, h⟩ := an h
  obtain ⟨h2, h⟩ := an h
  obtain ⟨h3, h⟩ := an h
  obtain ⟨h4, h⟩ := an h
  obtain ⟨h5, h⟩ := an h
  obtain ⟨h6, h⟩ := an h
  obtain ⟨hB, h⟩ := an h
  obtain ⟨h7, h8⟩ := an h
  obtain ⟨ρ0, hρ⟩ := plsB_is (by rw [R.len]; exact h2)
  obtain ⟨ι0, hι⟩ := ltsB_is (by rw [← R.vars.1]; exact h3)
  have T : ThOK W θ ⟨ρ0, ι0, W.hs⟩ := ⟨hρ, hι, rfl⟩
  have hlen : ρ0.length = P.nl := hρ.length.symm.trans (Nat.eq_of_beq_eq_true h1)
  have live : ∀ l o, P.hp.get l = some o → ∃ l' a o', θ.pl[l]? = some l' ∧ ρ0[l]? = some a ∧ W.ρ[l']? = some a ∧ σ.hp.get l' = some o' ∧ mAO θ o o' = true := by
    intro l o ho
    have hl' : l < θ.pl.length := by rw [Nat.eq_of_beq_eq_true h1]; exact trB_is (f := fun i => i) hB ho
    obtain ⟨a, g1, g2⟩ := hρ.get (List.getElem?_eq_getElem hl')
    obtain ⟨o', g3, g4⟩ := mHp_is (i := 0) h7 (List.getElem?_eq_getElem hl') (by rw [Nat.zero_add]; exact ho)
    exact ⟨_, a, o', List.getElem?_eq_getElem hl', g1, g2, g3, g4⟩
  have z1 : ρ0[0]? = W.ρ[0]? := by
    unfold isN0 at h5
    split at h5
    · rename_i n hn
      rw [nthL_is] at hn
      obtain ⟨a, g1, g2⟩ := hρ.get hn
      rw [Nat.eq_of_beq_eq_true h5] at g2
      exact g1.trans g2.symm
    · exact ff h5
  have z2 : ι0[0]? = W.ι[0]? := by
    unfold isLit0 at h6
    split at h6
    · rename_i e hn
      rw [nthL_is] at hn
      obtain ⟨x, g1, g2⟩ := hι.get hn
      obtain ⟨_, a, vs, ns, _, y2, _⟩ := R.scr
      rw [g1, y2, isame_is h6 g2 (show (IE.var 0).ev W.ι = some ((ns.length : Nat) : Int) by simp [IE.var, IE.ev, tsum, y2])]
    · exact ff h6
  refine hgo ⟨⟨ρ0, ι0, W.hs⟩, T, ⟨R.fr, fun x v e => ?_, fun l o ho => ?_, hlen, fun l l' o o' e1 e2 e => ?_, R.gens, R.os, mVi_is R.vars hι h8 hι, ?_, R.par⟩, fun l o ho => let ⟨l', _, o', g1, _, _, g4, _⟩ := live l o ho; ⟨l', o', g1, g4⟩⟩
  · unfold noLc at h0
    split at h0
    · rename_i hl
      rw [hl] at e
      exact no_some e
    · exact ff h0
  · obtain ⟨l', a, o', g1, g2, g3, g4, g5⟩ := live l o ho
    obtain ⟨b, c, y1, y2, y3⟩ := R.led l' o' g4
    rw [g3] at y1
    obtain rfl := Option.some.inj y1
    exact ⟨a, c, g2, mAO_is T g5 y2, y3⟩
  · obtain ⟨l1, a, o1, g1, g2, g3, g4, _⟩ := live l o e1
    obtain ⟨l2, a2, o2, y1, y2, y3, y4, _⟩ := live l' o' e2
    have e : ρ0[l]? = ρ0[l']? := e
    rw [g2, y2] at e
    obtain rfl := Option.some.inj e
    have := R.inj l1 l2 o1 o2 g4 y4 (g3.trans y3.symm)
    subst this
    exact nodupN_is h4 g1 y1
  · obtain ⟨y0, a, vs, ns, y1, y2, y3⟩ := R.scr
    exact ⟨y0, a, vs, ns, z1.trans y1, z2.trans y2, y3⟩
end
end Mine

namespace Mine
open PySem PySem.W PySem.Calls PyProof.Rows PySem.SeqAt
set_option maxRecDepth 100000

/-! ## a shape laid into a state -/
noncomputable def trAV1 (θ : Th) (v : AV) : Option AV := match v with
  | .int e => (e.sb θ.lt).map .int
  | .loc l => (nthL θ.pl l).map .loc
  | .bz e => (e.sb θ.lt).map .bz
  | .pick _ _ => none
  | .typ _ => none
  | .blt _ => none
  | v => some v
/-- one after one -/
noncomputable def eachO {α β : Type} (f : α → Option β) : List α → Option (List β)
  | [] => some []
  | v :: r => (f v).bind fun x => (eachO f r).map (x :: ·)
noncomputable def trAVs1 (θ : Th) (l : List AV) : Option (List AV) := eachO (trAV1 θ) l
noncomputable def trAV (θ : Th) (v : AV) : Option AV := match v with
  | .pick e us => (e.sb θ.lt).bind fun e' => (trAVs1 θ us).map (.pick e')
  | v => trAV1 θ v
noncomputable def trAVs (θ : Th) (l : List AV) : Option (List AV) := eachO (trAV θ) l
noncomputable def trNs (θ : Th) (l : List (Str × AV)) : Option (List (Str × AV)) := eachO (fun v => (trAV θ v.2).map fun v' => (v.1, v')) l
noncomputable def trDs (θ : Th) (l : List (KD × AV × AV)) : Option (List (KD × AV × AV)) := eachO (fun v => (trAV θ v.2.1).bind fun k' => (trAV θ v.2.2).map fun v' => (v.1, k', v')) l
noncomputable def trAO (θ : Th) (o : AO) : Option AO := match o with
  | .tup us => (trAVs θ us).map .tup
  | .lst us => (trAVs θ us).map .lst
  | .inst C d => (nthL θ.pl d).map (.inst C)
  | .ns fs => (trNs θ fs).map .ns
  | .dct es n => (trDs θ es).map fun es' => .dct es' n
  | .barr b => some (.barr b)
  | _ => none
theorem mapO {α β : Type} {o : Option α} {f : α → β} {y : β} (h : o.map f = some y) : ∃ x, o = some x ∧ f x = y := Option.map_eq_some_iff.mp h
theorem eachO_is {α β γ : Type} {f : α → Option β} {R : α → γ → Prop} {S : β → γ → Prop} (hf : ∀ a b c, f a = some b → R a c → S b c) : ∀ {as : List α} {bs : List β} {cs : List γ}, eachO f as = some bs → All2 R as cs → All2 S bs cs
  | [], bs, cs, h, hv => by
    obtain rfl := Option.some.inj h
    obtain rfl := hv.inv
    exact .nil
  | a :: as, bs, cs, h, hv => by
    obtain ⟨x, h1, h⟩ := someBind h
    obtain ⟨t, h2, rfl⟩ := mapO h
    apply hv.onCons; intro _ _ hx ht
    exact .cons (hf _ _ _ h1 hx) (eachO_is hf h2 ht)
theorem eachO_at {α β : Type} {f : α → Option β} : ∀ {as : List α} {bs : List β} {i : Nat} {a : α}, eachO f as = some bs → as[i]? = some a → ∃ b, bs[i]? = some b ∧ f a = some b
  | [], _, _, _, _, hi => by simp at hi
  | a :: as, bs, i, x, h, hi => by
    obtain ⟨y, h1, h⟩ := someBind h
    obtain ⟨t, h2, rfl⟩ := mapO h
    induction i using Nat.casesOn with
    | zero => obtain rfl := Option.some.inj hi; exact ⟨y, rfl, h1⟩
    | succ i => exact eachO_at (as := as) (i := i) h2 hi
theorem eachO_map {α β γ : Type} {f : α → Option β} {g : α → γ} {g' : β → γ} (hf : ∀ a b, f a = some b → g' b = g a) : ∀ {as : List α} {bs : List β}, eachO f as = some bs → bs.map g' = as.map g
  | [], bs, h => by obtain rfl := Option.some.inj h; rfl
  | a :: as, bs, h => by
    obtain ⟨x, h1, h⟩ := someBind h
    obtain ⟨t, h2, rfl⟩ := mapO h
    rw [List.map_cons, List.map_cons, hf _ _ h1, eachO_map hf h2]
theorem som {α : Type} {o : Option α} {β : Type} {f : α → Option β} {y : β} (h : o.bind f = some y) : ∃ x, o = some x ∧ f x = some y := Option.bind_eq_some_iff.mp h
section
variable {W W0 : Wd} {θ : Th}
theorem sb_is (T : ThOK W θ W0) {e e' : IE} (h1 : e.sb θ.lt = some e') {x : Int} (he : e.ev W0.ι = some x) : e'.ev W.ι = some x := by
  obtain ⟨y, y1, y2⟩ := IE.sb_ev T.lt h1
  rw [he] at y1
  rw [← Option.some.inj y1] at y2
  exact y2
theorem pl_is (T : ThOK W θ W0) {l l' : Nat} (h1 : nthL θ.pl l = some l') {a : Addr} (ha : W0.ρ[l]? = some a) : W.ρ[l']? = some a := by
  rw [nthL_is] at h1
  obtain ⟨b, g1, g2⟩ := T.pl.get h1
  rw [ha] at g1
  rw [← Option.some.inj g1] at g2
  exact g2
theorem trAV1_is (T : ThOK W θ W0) {v v' : AV} {c : Value} (h : trAV1 θ v = some v') (hv : VR W0 v c) : VR W v' c := by
  induction v using Mine.AV.casesOn <;> first | exact no_some h | (obtain rfl := Option.some.inj h; exact cst_is rfl hv) | skip
  · obtain ⟨e', h1, rfl⟩ := mapO h
    apply hv.onInt; intro x t he
    exact .int t (sb_is T h1 he)
  · obtain ⟨e', h1, rfl⟩ := mapO h
    obtain ⟨x, a, t, rfl, he, h2, h3, h4⟩ := hv.inv
    exact .bz t (sb_is T h1 he) h2 h3 h4
  · obtain ⟨l', h1, rfl⟩ := mapO h
    apply hv.onLoc; intro a ha
    exact .loc (pl_is T h1 ha)
theorem trAV_is (T : ThOK W θ W0) {v v' : AV} {c : Value} (h : trAV θ v = some v') (hv : VR W0 v c) : VR W v' c := by
  induction v using Mine.AV.casesOn with
  | pick e us =>
    obtain ⟨e', h1, h⟩ := someBind h
    obtain ⟨us', h2, rfl⟩ := mapO h
    obtain ⟨x, u, g1, g2, g3, g4⟩ := hv.inv
    obtain ⟨u', z1, z2⟩ := eachO_at h2 g3
    exact .pick (sb_is T h1 g1) g2 z1 (trAV1_is T z2 g4)
  | _ => exact trAV1_is T (by exact h) hv
theorem trAVs_is (T : ThOK W θ W0) {us us' : List AV} {cs : List Value} (h : trAVs θ us = some us') (hv : All2 (VR W0) us cs) : All2 (VR W) us' cs := eachO_is (S := VR W) (fun _ _ _ h1 h2 => trAV_is T h1 h2) h hv
theorem trNs_is (T : ThOK W θ W0) {us us' : List (Str × AV)} {es : List DictEntry} (h : trNs θ us = some us') (hv : All2 (fun (f : Str × AV) (e : DictEntry) => (∃ t, e.key = .str f.1 t) ∧ VR W0 f.2 e.val) us es) : All2 (fun (f : Str × AV) (e : DictEntry) => (∃ t, e.key = .str f.1 t) ∧ VR W f.2 e.val) us' es :=
  eachO_is (fun a b c h1 h2 => by
    obtain ⟨v', h3, rfl⟩ := mapO h1
    exact ⟨h2.1, trAV_is T h3 h2.2⟩) h hv
theorem trDs_is (T : ThOK W θ W0) {us us' : List (KD × AV × AV)} {es : List DictEntry} (h : trDs θ us = some us') (hv : All2 (DR W0) us es) : All2 (DR W) us' es ∧ us'.map (·.1) = us.map (·.1) :=
  ⟨eachO_is (fun a b c h1 hx => by
    obtain ⟨k', h3, h2⟩ := someBind h1
    obtain ⟨v', h4, rfl⟩ := mapO h2
    exact ⟨by rw [← T.hs]; exact hx.hash, trAV_is T h3 hx.key, trAV_is T h4 hx.val, hx.dep⟩) h hv, eachO_map (fun a b h1 => by
    obtain ⟨k', h1, h2⟩ := someBind h1
    obtain ⟨v', h2, rfl⟩ := mapO h2
    rfl) h⟩
theorem trAO_is (T : ThOK W θ W0) {o o' : AO} {c : Obj} (h : trAO θ o = some o') (ho : OR W0 o c) : OR W o' c := by
  induction o using Mine.AO.casesOn <;> first | exact no_some h | skip
  · obtain ⟨vs, h1, rfl⟩ := mapO h
    obtain ⟨cs, rfl, hc⟩ := ho.inv
    exact .tup (trAVs_is T h1 hc)
  · obtain ⟨vs, h1, rfl⟩ := mapO h
    obtain ⟨cs, n, rfl, hc⟩ := ho.inv
    exact .lst (trAVs_is T h1 hc)
  · obtain ⟨d', h1, rfl⟩ := mapO h
    obtain ⟨dx, rfl, hd⟩ := ho.inv
    exact .inst (pl_is T h1 hd)
  · obtain ⟨fs, h1, rfl⟩ := mapO h
    obtain ⟨es, n, rfl, he⟩ := ho.inv
    exact .ns (trNs_is T h1 he)
  · obtain ⟨es, h1, rfl⟩ := mapO h
    obtain ⟨ds, rfl, hd, hn⟩ := ho.inv
    obtain ⟨g1, g2⟩ := trDs_is T h1 hd
    exact .dct g1 (by rw [g2]; exact hn)
  · obtain rfl := Option.some.inj h
    obtain rfl := ho.inv
    exact .barr _
end
noncomputable def trVI (θ : Th) (v : VI) : Option VI := match v.df with
  | none => some v
  | some dm => match dm.1.sb θ.lt with
    | some e => some { v with df := some (e, dm.2) }
    | none => none
noncomputable def trVIs (θ : Th) : List VI → Option (List VI)
  | [] => some []
  | v :: r => match trVI θ v, trVIs θ r with
    | some v', some r' => some (v' :: r')
    | _, _ => none
theorem trVI_is {ι ι0 : List Int} {θ : Th} (T : LtOK ι θ.lt ι0) {v v' : VI} {x : Int} (h : trVI θ v = some v') (hv : v.ok ι0 x) : v'.ok ι x := by
  unfold trVI at h
  split at h
  · rename_i hd
    obtain rfl := Option.some.inj h
    exact ⟨hv.1, hv.2.1, fun e m q => by rw [hd] at q; cases q⟩
  · rename_i dm hd
    split at h
    · rename_i e he
      obtain rfl := Option.some.inj h
      refine ⟨hv.1, hv.2.1, fun e1 m1 q => ?_⟩
      obtain ⟨rfl, rfl⟩ := Prod.mk.inj (Option.some.inj q)
      obtain ⟨y, y1, y2⟩ := hv.2.2 dm.1 dm.2 hd
      obtain ⟨z, z1, z2⟩ := IE.sb_ev T he
      rw [y1] at z1
      rw [← Option.some.inj z1] at z2
      exact ⟨y, z2, y2⟩
    · exact no_some h
theorem trVIs_is {ι ι0 : List Int} {θ : Th} (T : LtOK ι θ.lt ι0) : ∀ {vs vs' : List VI}, trVIs θ vs = some vs' → vs'.length = vs.length ∧ ∀ (i : Nat) (v' : VI), vs'[i]? = some v' → ∃ v, vs[i]? = some v ∧ ∀ x, v.ok ι0 x → v'.ok ι x
  | [], _, h => by
    obtain rfl := Option.some.inj h
    exact ⟨rfl, fun i v e => by simp at e⟩
  | v :: r, vs', h => by
    unfold trVIs at h
    split at h
    · rename_i v' r' h1 h2
      obtain rfl := Option.some.inj h
      obtain ⟨g1, g2⟩ := trVIs_is T h2
      refine ⟨congrArg Nat.succ g1, fun i u e => ?_⟩
      induction i using Nat.casesOn with
      | zero => obtain rfl := Option.some.inj e; exact ⟨v, rfl, fun x hx => trVI_is T h1 hx⟩
      | succ i => exact g2 i u e
    · exact no_some h
noncomputable def backHp (θ : Th) (P : Tr AO) : Nat → List Nat → Tr AO → Option (Tr AO)
  | _, [], t => some t
  | i, l :: r, t => match P.get i with
    | none => backHp θ P (i + 1) r (t.put 41 l none)
    | some o => match trAO θ o with
      | some o' => backHp θ P (i + 1) r (t.put 41 l (some o'))
      | none => none
theorem backHp_is {θ : Th} {P : Tr AO} : ∀ {pl : List Nat} {i : Nat} {t t' : Tr AO}, backHp θ P i pl t = some t' → (∀ l ∈ pl, l < 2 ^ 40) → nodupN pl = true → ∀ {x : Nat} {o' : AO}, t'.get x = some o' →
    (memN x pl = false ∧ t.get x = some o') ∨ ∃ j o, pl[j]? = some x ∧ P.get (i + j) = some o ∧ trAO θ o = some o'
  | [], i, t, t', h, _, _, x, o', ho => by
    obtain rfl := Option.some.inj h
    exact .inl ⟨rfl, ho⟩
  | l :: r, i, t, t', h, hb, hn, x, o', ho => by
    obtain ⟨n1, n2⟩ := an hn
    have hl := hb l (.head _)
    have go : ∀ v : Option AO, backHp θ P (i + 1) r (t.put 41 l v) = some t' → (∀ o', v = some o' → ∃ o, P.get i = some o ∧ trAO θ o = some o') →
        (memN x (l :: r) = false ∧ t.get x = some o') ∨ ∃ j o, (l :: r)[j]? = some x ∧ P.get (i + j) = some o ∧ trAO θ o = some o' := by
      intro v hh hv
      rcases backHp_is hh (fun y hy => hb y (.tail _ hy)) n2 ho with ⟨g1, g2⟩ | ⟨j, o, g1, g2, g3⟩
      · rw [Tr.get_put _ 40 _ _ _ hl] at g2
        by_cases q : x = l
        · rw [if_pos q] at g2
          obtain ⟨o, y1, y2⟩ := hv _ g2
          exact .inr ⟨0, o, by rw [q]; rfl, y1, y2⟩
        · rw [if_neg q] at g2
          refine .inl ⟨?_, g2⟩
          unfold memN
          rw [show Nat.beq x l = false by rw [BT.beq_eq]; exact decide_eq_false q]
          exact g1
      · exact .inr ⟨j + 1, o, g1, by rw [show i + (j + 1) = i + 1 + j by omega]; exact g2, g3⟩
    unfold backHp at h
    split at h
    · exact go none h (fun _ e => nomatch e)
    · rename_i o h1
      split at h
      · rename_i o2 h2
        exact go (some o2) h fun _ e => by rw [← Option.some.inj e]; exact ⟨o, h1, h2⟩
      · exact no_some h
noncomputable def upN : Nat → Nat → List Nat
  | _, 0 => []
  | i, n + 1 => i :: upN (i + 1) n
noncomputable def upV : Nat → Nat → List IE
  | _, 0 => []
  | i, n + 1 => IE.var i :: upV (i + 1) n
theorem upN_all {p : List Addr} : ∀ {X : List Addr} {i : Nat}, i = p.length → All2 (fun (l : Nat) (a : Addr) => (p ++ X)[l]? = some a) (upN i X.length) X
  | [], _, _ => .nil
  | x :: X, i, h => by
    have := upN_all (p := p ++ [x]) (X := X) (i := i + 1) (by rw [h, List.length_append]; rfl)
    rw [List.append_assoc] at this
    exact .cons (by rw [h]; simp) this
theorem upV_all {p : List Int} : ∀ {X : List Int} {i : Nat}, i = p.length → LtOK (p ++ X) (upV i X.length) X
  | [], _, _ => .nil
  | x :: X, i, h => by
    have := upV_all (p := p ++ [x]) (X := X) (i := i + 1) (by rw [h, List.length_append]; rfl)
    rw [List.append_assoc] at this
    exact .cons (by simp [IE.var, IE.ev, tsum, h]) this
/-- the shape's places and letters, the new ones too -/
noncomputable def Th.ext (θ : Th) (σ P : St) : Th := ⟨θ.pl ++ upN σ.nl (P.nl - θ.pl.length), θ.lt ++ upV σ.vi.length (P.vi.length - θ.lt.length)⟩
noncomputable def backSt (θ : Th) (σ P : St) : Option St := match Nat.ble (σ.nl + P.nl) 1000000000 && nodupN (θ.ext σ P).pl with
  | true => match backHp (θ.ext σ P) P.hp 0 (θ.ext σ P).pl σ.hp, trVIs (θ.ext σ P) (P.vi.drop θ.lt.length) with
    | some hp, some nv => some ⟨σ.lc, hp, σ.nl + (P.nl - θ.pl.length), σ.vi ++ nv⟩
    | _, _ => none
  | false => none
section
variable {os0 : (Array Nat → Int) × OsState} {h₀ : Gd} {L : Addr} {m : Str → Option Value} {W W0 W1 : Wd} {σ σ' P P1 : St} {s s' : Shared} {θ : Th}
theorem backSt_is (R : Rel os0 h₀ L m W σ s) (T : ThOK W θ W0) (R1 : Rel os0 h₀ L m W1 P1 s') (l01 : W0.le W1) (live : ∀ l o, P.hp.get l = some o → ∃ l' o', θ.pl[l]? = some l' ∧ σ.hp.get l' = some o')
    (kp : ∀ b o, s.heap.get? b = some o → b ≠ L → h₀.g.get? b = none → (∀ l o', P.hp.get l = some o' → W0.ρ[l]? ≠ some b) → s'.heap.get? b = some o ∧ ∀ l o', P1.hp.get l = some o' → W1.ρ[l]? ≠ some b) (h : backSt θ σ P1 = some σ') :
    ∃ W', W.le W' ∧ ThOK W' (θ.ext σ P1) W1 ∧ Rel os0 h₀ L m W' σ' s' := by
  unfold backSt at h
  split at h
  rotate_left
  · exact no_some h
  rename_i hc
  obtain ⟨hn, hnd⟩ := an hc
  have hn := Nat.le_of_ble_eq_true hn
  split at h
  rotate_left
  · exact no_some h
  rename_i hp nv h1 h2
  obtain rfl := Option.some.inj h
  obtain ⟨xr, hxr⟩ := l01.1
  obtain ⟨xi, hxi⟩ := l01.2
  have nr : W0.ρ.length = θ.pl.length := T.pl.length.symm
  have ni : W0.ι.length = θ.lt.length := T.lt.length.symm
  have dr : P1.nl - θ.pl.length = xr.length := by rw [← R1.len, ← hxr, List.length_append]; omega
  have di : P1.vi.length - θ.lt.length = xi.length := by rw [R1.vars.1, ← hxi, List.length_append]; omega
  have le : W.le ⟨W.ρ ++ xr, W.ι ++ xi, W.hs⟩ := ⟨List.prefix_append _ _, List.prefix_append _ _⟩
  have T' : ThOK ⟨W.ρ ++ xr, W.ι ++ xi, W.hs⟩ (θ.ext σ P1) W1 := by
    refine ⟨?_, ?_, R1.par.trans R.par.symm⟩
    · show All2 _ (θ.pl ++ upN σ.nl (P1.nl - θ.pl.length)) W1.ρ
      rw [← hxr, dr]
      exact (T.pl.imp fun _ _ q => pre_get le.1 q).append (upN_all R.len.symm)
    · show LtOK _ (θ.lt ++ upV σ.vi.length (P1.vi.length - θ.lt.length)) W1.ι
      rw [← hxi, di]
      exact (T.lt.imp fun _ _ q => IE.ev_mono le.2 q).append (upV_all R.vars.1)
  have hsz : (θ.ext σ P1).pl.length = W1.ρ.length := T'.pl.length
  have hbd : ∀ l ∈ (θ.ext σ P1).pl, l < 2 ^ 40 := by
    intro l hl
    obtain ⟨i, hi⟩ := List.getElem?_of_mem hl
    obtain ⟨a, _, g2⟩ := T'.pl.get hi
    have := (List.getElem?_eq_some_iff.mp g2).1
    have h3 : (W.ρ ++ xr).length = σ.nl + xr.length := by rw [List.length_append, R.len]
    have h4 : xr.length ≤ P1.nl := by rw [← R1.len, ← hxr, List.length_append]; omega
    have h5 : l < (W.ρ ++ xr).length := this
    rw [h3] at h5
    omega
  have cases' : ∀ x o', hp.get x = some o' → (σ.hp.get x = some o' ∧ memN x (θ.ext σ P1).pl = false) ∨ ∃ i o, (θ.ext σ P1).pl[i]? = some x ∧ P1.hp.get i = some o ∧ trAO (θ.ext σ P1) o = some o' := by
    intro x o' ho
    rcases backHp_is h1 hbd hnd ho with ⟨g1, g2⟩ | ⟨j, o, g1, g2, g3⟩
    · exact .inl ⟨g2, g1⟩
    · rw [Nat.zero_add] at g2
      exact .inr ⟨j, o, g1, g2, g3⟩
  have old : ∀ x o, σ.hp.get x = some o → memN x (θ.ext σ P1).pl = false → ∃ a c, W.ρ[x]? = some a ∧ OR W o c ∧ s'.heap.get? a = some c ∧ a ≠ L ∧ h₀.g.get? a = none ∧ ∀ l o', P1.hp.get l = some o' → W1.ρ[l]? ≠ some a := by
    intro x o hx hm
    obtain ⟨a, c, g1, g2, g3, g4, g5⟩ := R.led x o hx
    obtain ⟨k1, k2⟩ := kp a c g3 g4 g5 fun l o' hl e => by
      obtain ⟨l', o2, y1, y2⟩ := live l o' hl
      obtain ⟨b, z1, z2⟩ := T.pl.get y1
      rw [e] at z1
      rw [← Option.some.inj z1] at z2
      have := R.inj x l' o o2 hx y2 (g1.trans z2.symm)
      subst this
      have hm2 : memN x (θ.ext σ P1).pl = true := memN_of (i := l) (show (θ.pl ++ _)[l]? = some x by rw [List.getElem?_append_left (List.getElem?_eq_some_iff.mp y1).1]; exact y1)
      rw [hm2] at hm
      exact ff hm.symm
    exact ⟨a, c, g1, g2, k1, g4, g5, k2⟩
  refine ⟨_, le, T', R1.fr, fun x v e => let ⟨c, a, b⟩ := R.lcs x v e; ⟨c, a, b.mono le⟩, fun x o' ho => ?_, ?_, fun x y ox oy ex ey e => ?_, R1.gens, R1.os, ?_, R.scr.mono le, R.par⟩
  · rcases cases' x o' ho with ⟨g1, g2⟩ | ⟨i, o, g1, g2, g3⟩
    · obtain ⟨a, c, y1, y2, y3, y4, y5, _⟩ := old x o' g1 g2
      exact ⟨a, c, pre_get le.1 y1, y2.mono le rfl, y3, y4, y5⟩
    · obtain ⟨a, c, y1, y2, y3⟩ := R1.led i o g2
      obtain ⟨b, z1, z2⟩ := T'.pl.get g1
      rw [y1] at z1
      rw [← Option.some.inj z1] at z2
      exact ⟨a, c, z2, trAO_is T' g3 y2, y3⟩
  · show (W.ρ ++ xr).length = σ.nl + (P1.nl - θ.pl.length)
    rw [List.length_append, R.len, dr]
  · have e : (W.ρ ++ xr)[x]? = (W.ρ ++ xr)[y]? := e
    have mix : ∀ x y ox, σ.hp.get x = some ox → memN x (θ.ext σ P1).pl = false → (W.ρ ++ xr)[x]? = (W.ρ ++ xr)[y]? → ∀ i o, (θ.ext σ P1).pl[i]? = some y → P1.hp.get i = some o → False := by
      intro x y ox h1 h2 e i o h3 h4
      obtain ⟨a, c, y1, _, _, _, _, y6⟩ := old x ox h1 h2
      obtain ⟨b, z1, z2⟩ := T'.pl.get h3
      rw [pre_get le.1 y1] at e
      exact y6 i o h4 (z1.trans (z2.symm.trans e.symm))
    rcases cases' x ox ex with ⟨g1, g2⟩ | ⟨i, o, g1, g2, g3⟩
    · rcases cases' y oy ey with ⟨k1, k2⟩ | ⟨j, o2, k1, k2, k3⟩
      · obtain ⟨a, c, y1, _⟩ := R.led x _ g1
        obtain ⟨b, d, z1, _⟩ := R.led y _ k1
        refine R.inj x y _ _ g1 k1 ?_
        rw [pre_get le.1 y1, pre_get le.1 z1] at e
        rw [y1, z1, e]
      · exact (mix x y _ g1 g2 e j o2 k1 k2).elim
    · rcases cases' y oy ey with ⟨k1, k2⟩ | ⟨j, o2, k1, k2, k3⟩
      · exact (mix y x _ k1 k2 e.symm i o g1 g2).elim
      · obtain ⟨a, y1, y2⟩ := T'.pl.get g1
        obtain ⟨b, z1, z2⟩ := T'.pl.get k1
        have := R1.inj i j o o2 g2 k2 (by rw [y1, z1]; exact (y2.symm.trans (e.trans z2)))
        subst this
        rw [g1] at k1
        exact Option.some.inj k1
  · obtain ⟨q1, q2⟩ := trVIs_is T'.lt h2
    refine ⟨?_, fun i v e => ?_⟩
    · show (σ.vi ++ nv).length = (W.ι ++ xi).length
      rw [List.length_append, List.length_append, q1, List.length_drop, di, R.vars.1]
    · have e : (σ.vi ++ nv)[i]? = some v := e
      show ∃ x, (W.ι ++ xi)[i]? = some x ∧ v.ok (W.ι ++ xi) x
      by_cases hi : i < σ.vi.length
      · rw [List.getElem?_append_left hi] at e
        obtain ⟨x, y1, y2⟩ := R.vars.2 i v e
        exact ⟨x, pre_get le.2 y1, VI.ok_mono le.2 y2⟩
      · rw [List.getElem?_append_right (by omega)] at e
        obtain ⟨u, y1, y2⟩ := q2 _ v e
        rw [List.getElem?_drop] at y1
        obtain ⟨x, z1, z2⟩ := R1.vars.2 _ u y1
        refine ⟨x, ?_, y2 x z2⟩
        rw [← hxi, List.getElem?_append_right (by omega)] at z1
        rw [List.getElem?_append_right (by rw [← R.vars.1]; omega), ← R.vars.1, ← z1]
        congr 1
        omega
end
end Mine

namespace Mine
open PySem PySem.W PySem.Calls PyProof.Rows PySem.SeqAt
set_option maxRecDepth 100000

/-! ## a look for a shape's places and letters: nothing leans on it -/
structure Tp where
  pl : List (Option Nat)
  lt : List (Option IE)
  wk : List (Nat × Nat)
  bad : Bool
noncomputable def setN {α : Type} : List α → Nat → α → List α
  | [], _, _ => []
  | x :: r, i, y => match i with
    | 0 => y :: r
    | j + 1 => x :: setN r j y
noncomputable def uniI (t : Tp) (e0 e : IE) : Tp := match e0.ts with
  | [q] => match decide (q.2 = 1) with
    | true => match nthL t.lt q.1 with
      | some none => { t with lt := setN t.lt q.1 (some (e.sub (IE.lit e0.c))) }
      | _ => t
    | false => t
  | [] => match e.ts with
    | [] => match decide (e0.c = e.c) with
      | true => t
      | false => { t with bad := true }
    | _ => t
  | _ => t
noncomputable def idxA (v : AV) : List AV → Nat → Option Nat
  | [], _ => none
  | u :: r, i => match avEq1 u v with
    | true => some i
    | false => idxA v r (i + 1)
noncomputable def uniP (t : Tp) : List AV → List AV → Tp
  | .int e0 :: r, .int e :: s => uniP (uniI t e0 e) r s
  | _ :: r, _ :: s => uniP t r s
  | _, _ => t
noncomputable def uniV (t : Tp) (u v : AV) : Tp := match u with
  | .int e0 => match v with
    | .int e => uniI t e0 e
    | _ => t
  | .bz e0 => match v with
    | .bz e => uniI t e0 e
    | _ => t
  | .loc l0 => match v with
    | .loc l => match nthL t.pl l0 with
      | some none => ⟨setN t.pl l0 (some l), t.lt, (l0, l) :: t.wk, t.bad⟩
      | _ => t
    | _ => t
  | .pick e0 us => match v with
    | .pick e vs => uniP (uniI t e0 e) us vs
    | _ => match idxA v us 0 with
      | some i => uniI t e0 (IE.lit (i : Nat))
      | none => t
  | _ => t
noncomputable def uniVs (t : Tp) : List AV → List AV → Tp
  | u :: r, v :: s => uniVs (uniV t u v) r s
  | _, _ => t
noncomputable def uniO (t : Tp) (o0 o : AO) : Tp := match o0 with
  | .tup us => match o with
    | .tup vs => uniVs t us vs
    | _ => t
  | .lst us => match o with
    | .lst vs => uniVs t us vs
    | _ => t
  | .inst _ d0 => match o with
    | .inst _ d => uniV t (.loc d0) (.loc d)
    | _ => t
  | .ns fs => match o with
    | .ns gs => uniVs t (fs.map (·.2)) (gs.map (·.2))
    | _ => t
  | .dct es _ => match o with
    | .dct gs _ => uniVs (uniVs t (es.map (·.2.1)) (gs.map (·.2.1))) (es.map (·.2.2)) (gs.map (·.2.2))
    | _ => t
  | .cell (some u) => match o with
    | .cell (some v) => uniV t u v
    | _ => t
  | .rngSI _ e0 => match o with
    | .rngIt _ left => uniI t e0 (IE.lit left)
    | .rngSI _ e => uniI t e0 e
    | _ => t
  | _ => t
noncomputable def srch (P σ : St) : Nat → Tp → Tp
  | 0, t => t
  | n + 1, t => match t.bad with
   | true => t
   | false => match t.wk with
    | [] => t
    | q :: r => match P.hp.get q.1 with
      | some o0 => match σ.hp.get q.2 with
        | some o => srch P σ n (uniO { t with wk := r } o0 o)
        | none => srch P σ n { t with wk := r }
      | none => srch P σ n { t with wk := r }
noncomputable def fillN : List (Option Nat) → List Nat
  | [] => []
  | o :: r => (match o with
    | some n => n
    | none => 0) :: fillN r
noncomputable def fillI : List VI → List (Option IE) → List IE
  | v :: vi, o :: r => (match o with
    | some e => e
    | none => IE.lit v.lo) :: fillI vi r
  | _, _ => []
noncomputable def padN {α : Type} (x : α) : List α → Nat → List α
  | l, 0 => match l with
    | [] => []
    | _ => []
  | l, n + 1 => match l with
    | [] => x :: padN x [] n
    | y :: r => y :: padN x r n
/-- the first places and letters are given -/
noncomputable def findTh (pl : List Nat) (lt : List IE) (P : St) (us : List AV) (σ : St) (vs : List AV) : Th :=
  let t := srch P σ 100000 (uniVs ⟨padN none (pl.map some) P.nl, padN none (lt.map some) P.vi.length, pl.map fun i => (i, i), false⟩ us vs)
  ⟨fillN t.pl, fillI P.vi t.lt⟩

noncomputable def reAs (_ : List AV) (vs : List AV) (σ : St) (k : List AV → St → Bool) : Bool := k vs σ
theorem reAs_ok {os0 : (Array Nat → Int) × OsState} {h₀ : Gd} {L : Addr} {m : Str → Option Value} {s : Shared} {us vs : List AV} {cs : List Value} {W : Wd} {σ : St} {k : List AV → St → Bool} (R : Rel os0 h₀ L m W σ s) (hv : All2 (VR W) vs cs) (h : reAs us vs σ k = true) :
    ∃ W' vs' σ', W.le W' ∧ Rel os0 h₀ L m W' σ' s ∧ All2 (VR W') vs' cs ∧ k vs' σ' = true := ⟨W, vs, σ, W.le_refl, R, hv, h⟩

/-! ## calls of defs that are told -/
noncomputable def tryCon (C : Con) (lv : Nat) (vs : List AV) (σ : St) : Option Th := match Nat.ble C.lv lv with
  | true => match mAVs (findTh [0] [IE.var 0] C.st C.args σ vs) C.args vs && mSt (findTh [0] [IE.var 0] C.st C.args σ vs) C.st σ with
    | true => some (findTh [0] [IE.var 0] C.st C.args σ vs)
    | false => none
  | false => none
noncomputable def postsA (θ : Th) (σ : St) (k : AV → St → Bool) : List (AV × St) → Bool
  | [] => true
  | q :: r => match backSt θ σ q.2 with
    | some σ' => match trAV (θ.ext σ q.2) q.1 with
      | some v => k v σ' && postsA θ σ k r
      | none => false
    | none => false
noncomputable def callJ (S : SE) (lv : Nat) (ex : ExT) (a : Addr) (vs : List AV) (σ : St) (k : AV → St → Bool) : List Con → Bool
  | [] => callFn S ex a vs σ k
  | C :: r => match C.qk vs σ with
    | false => callJ S lv ex a vs σ k r
    | true => reAs C.args vs σ fun vs' σ' => match tryCon C lv vs' σ' with
      | some θ => postsA θ σ' k C.posts
      | none => callJ S lv ex a vs' σ' k r
theorem tryCon_is {C : Con} {lv : Nat} {vs : List AV} {σ : St} {θ : Th} (h : tryCon C lv vs σ = some θ) : C.lv ≤ lv ∧ mAVs θ C.args vs = true ∧ mSt θ C.st σ = true := by
  unfold tryCon at h
  split at h
  · rename_i h0
    split at h
    · rename_i h1
      obtain rfl := Option.some.inj h
      obtain ⟨g1, g2⟩ := an h1
      exact ⟨Nat.le_of_ble_eq_true h0, g1, g2⟩
    · exact no_some h
  · exact no_some h
theorem postsA_is {θ : Th} {σ : St} {k : AV → St → Bool} {q : AV × St} : ∀ {l : List (AV × St)}, postsA θ σ k l = true → q ∈ l → ∃ σ' v, backSt θ σ q.2 = some σ' ∧ trAV (θ.ext σ q.2) q.1 = some v ∧ k v σ' = true
  | [], _, hq => (List.not_mem_nil hq).elim
  | x :: r, h, hq => by
    unfold postsA at h
    split at h
    · rename_i σ' h1
      split at h
      · rename_i v h2
        obtain ⟨g1, g2⟩ := an h
        rcases List.mem_cons.mp hq with rfl | hq
        · exact ⟨σ', v, h1, h2, g1⟩
        · exact postsA_is g2 hq
      · exact ff h
    · exact ff h
section
variable {prog : Program} {w : World} {K : Frag} {p : Program} {loose : List Str} {mean : ExcName → Option Value} {mg mb : Str → Option Value} {os0 : (Array Nat → Int) × OsState}
theorem callJ_ok {S : SE} (hS : SEok K S) {n lv : Nat} (hlv : lv ≤ n) {ex : ExT} (hex : ExOK prog w K p loose mean mg mb os0 n ex) {A : Around} {base : Heap} {h₀ : Gd} {L : Addr} {m : Str → Option Value} {s : Shared}
    (f : Fc K p loose mean mg mb n A base h₀ L) (fd : A.depth + 1 + 3 * n ≤ 990) (fu : A.units + 3 + 12 * n ≤ 9800) {a : Addr} {cs : List Value} {k : AV → St → Bool} {R : Result → Shared → Prop} :
    ∀ {l : List Con} {W : Wd} {σ : St} {vs : List AV}, Rel os0 h₀ L m W σ s → All2 (VR W) vs cs → (∀ W' v c σ' s', W.le W' → Rel os0 h₀ L m W' σ' s' → VR W' v c → k v σ' = true → R (.ok (.ret c)) s') →
      (∀ C ∈ l, ConT prog w K p loose mean mg mb os0 C.lv a C) → callJ S lv ex a vs σ k l = true → codeX (model prog w) A (.call (.ref a) ⟨cs, []⟩) R s
  | [], _, _, _, Rl, hv, hQ, _, h => callFn_ok hS hex f fd fu Rl hv h hQ
  | C :: r, W, σ, vs, Rl, hv, hQ, hC, h => by
    unfold callJ at h
    rcases Bool.eq_false_or_eq_true (C.qk vs σ) with hqk | hqk
    rotate_left
    · rw [hqk] at h
      exact callJ_ok hS hlv hex f fd fu (l := r) Rl hv hQ (fun C' h' => hC C' (.tail _ h')) h
    rw [hqk] at h
    obtain ⟨Wa, vs', σa, la, Ra, hva, h⟩ := reAs_ok Rl hv h
    have hQ' := fun W' v c σ' s' l' => hQ W' v c σ' s' (W.le_trans la l')
    split at h
    · rename_i θ h1
      obtain ⟨g0, g1, g2⟩ := tryCon_is h1
      obtain ⟨W0, T, R0, live⟩ := mSt_is Ra g2
      have hle : C.lv ≤ n := Nat.le_trans g0 hlv
      refine cmono (hC C (.head _) A base h₀ L m W0 s cs (f.less hle) (by omega) (by omega) R0 (mAVs_is T g1 hva)) fun r s' ⟨q, c, W1, hq, hr, l01, hv', R1, kp⟩ => ?_
      subst hr
      obtain ⟨σ', v, y1, y2, y3⟩ := postsA_is h hq
      obtain ⟨W', z1, z2, z3⟩ := backSt_is Ra T R1 l01 live kp y1
      exact hQ' W' v c σ' s' z1 z3 (trAV_is z2 y2 hv') y3
    · exact callJ_ok hS hlv hex f fd fu (l := r) Ra hva hQ' (fun C' h' => hC C' (.tail _ h')) h
end
/-- a thing come of a call is one of those told -/
noncomputable def idN : Nat → Nat → List Nat → Bool
  | _, 0, _ => true
  | i, n + 1, l => match l with
    | [] => false
    | x :: r => Nat.beq x i && idN (i + 1) n r
theorem idN_is : ∀ {n i j : Nat} {l : List Nat}, idN i n l = true → j < n → l[j]? = some (i + j)
  | 0, _, j, _, _, hj => absurd hj (Nat.not_lt_zero _)
  | n + 1, i, j, l, h, hj => by
    induction l using List.casesOn with
    | nil => exact ff h
    | cons x r =>
      obtain ⟨h1, h2⟩ := an h
      induction j using Nat.casesOn with
      | zero => rw [Nat.eq_of_beq_eq_true h1]; rfl
      | succ j =>
        rw [List.getElem?_cons_succ, idN_is h2 (Nat.lt_of_succ_lt_succ hj)]
        congr 1
        omega
noncomputable def idI : Nat → Nat → List IE → Bool
  | _, 0, _ => true
  | i, n + 1, l => match l with
    | [] => false
    | x :: r => isame x (IE.var i) && idI (i + 1) n r
theorem idI_is : ∀ {n i j : Nat} {l : List IE}, idI i n l = true → j < n → ∃ e, l[j]? = some e ∧ isame e (IE.var (i + j)) = true
  | 0, _, j, _, _, hj => absurd hj (Nat.not_lt_zero _)
  | n + 1, i, j, l, h, hj => by
    induction l using List.casesOn with
    | nil => exact ff h
    | cons x r =>
      obtain ⟨h1, h2⟩ := an h
      induction j using Nat.casesOn with
      | zero => exact ⟨x, rfl, h1⟩
      | succ j =>
        obtain ⟨e, g1, g2⟩ := idI_is h2 (Nat.lt_of_succ_lt_succ hj)
        exact ⟨e, g1, by rw [show i + (j + 1) = i + 1 + j by omega]; exact g2⟩
noncomputable def fitQ (P : St) (v : AV) (σ : St) (q : AV × St) : Bool :=
  mAV (findTh (upN 0 P.nl) (upV 0 P.vi.length) q.2 [q.1] σ [v]) q.1 v && (mSt (findTh (upN 0 P.nl) (upV 0 P.vi.length) q.2 [q.1] σ [v]) q.2 σ &&
    (idN 0 P.nl (findTh (upN 0 P.nl) (upV 0 P.vi.length) q.2 [q.1] σ [v]).pl && idI 0 P.vi.length (findTh (upN 0 P.nl) (upV 0 P.vi.length) q.2 [q.1] σ [v]).lt))
noncomputable def fitQs (P : St) (v : AV) (σ : St) : List (AV × St) → Bool
  | [] => false
  | q :: r => match fitQ P v σ q with
    | true => true
    | false => fitQs P v σ r
theorem fitQs_is {P : St} {v : AV} {σ : St} : ∀ {l : List (AV × St)}, fitQs P v σ l = true → ∃ q, q ∈ l ∧ fitQ P v σ q = true
  | [], h => ff h
  | x :: r, h => by
    unfold fitQs at h
    split at h
    · rename_i h1
      exact ⟨x, .head _, h1⟩
    · obtain ⟨q, g1, g2⟩ := fitQs_is h
      exact ⟨q, .tail _ g1, g2⟩
theorem pre_of {α : Type} {a b : List α} (h : ∀ i, i < a.length → b[i]? = a[i]?) : a <+: b := by
  rw [List.prefix_iff_getElem?]
  intro i hi
  rw [h i hi, List.getElem?_eq_getElem hi]
section
variable {os0 : (Array Nat → Int) × OsState} {h₀ : Gd} {L : Addr} {m : Str → Option Value} {W W0 : Wd} {σ P : St} {s : Shared}
theorem fitQ_is {v : AV} {q : AV × St} {c : Value} (R : Rel os0 h₀ L m W σ s) (l0 : W0.le W) (n1 : W0.ρ.length = P.nl) (n2 : W0.ι.length = P.vi.length) (hv : VR W v c) (h : fitQ P v σ q = true) :
    ∃ W2, W0.le W2 ∧ VR W2 q.1 c ∧ Rel os0 h₀ L m W2 q.2 s ∧ ∀ l o, q.2.hp.get l = some o → ∃ l' o', W2.ρ[l]? = W.ρ[l']? ∧ σ.hp.get l' = some o' := by
  unfold fitQ at h
  generalize findTh (upN 0 P.nl) (upV 0 P.vi.length) q.2 [q.1] σ [v] = θ at h
  obtain ⟨h1, h⟩ := an h
  obtain ⟨h2, h⟩ := an h
  obtain ⟨h3, h4⟩ := an h
  obtain ⟨W2, T, R2, live⟩ := mSt_is R h2
  refine ⟨W2, ⟨pre_of fun i hi => ?_, pre_of fun i hi => ?_⟩, mAV_is T h1 hv, R2, fun l o ho => ?_⟩
  · have := idN_is h3 (n1 ▸ hi)
    rw [Nat.zero_add] at this
    obtain ⟨a, g1, g2⟩ := T.pl.get this
    rw [g1, ← g2]
    obtain ⟨t, ht⟩ := l0.1
    rw [← ht, List.getElem?_append_left hi]
  · obtain ⟨e, g1, g2⟩ := idI_is h4 (n2 ▸ hi)
    rw [Nat.zero_add] at g2
    obtain ⟨x, y1, y2⟩ := T.lt.get g1
    obtain ⟨t, ht⟩ := l0.2
    have z : W.ι[i]? = some W0.ι[i] := by rw [← ht, List.getElem?_append_left hi, List.getElem?_eq_getElem hi]
    rw [y1, List.getElem?_eq_getElem hi, isame_is g2 y2 (show (IE.var i).ev W.ι = some W0.ι[i] by simp [IE.var, IE.ev, tsum, z])]
  · obtain ⟨l', o', g1, g2⟩ := live l o ho
    obtain ⟨a, y1, y2⟩ := T.pl.get g1
    exact ⟨l', o', y1.trans y2.symm, g2⟩
end
end Mine

namespace Mine
open PySem PySem.W PySem.Calls PyProof.Rows PySem.SeqAt
set_option maxRecDepth 100000

/-! ## subscripts -/
noncomputable def objs : List AV → Bool
  | [] => false
  | v :: _ => match v with
    | .int _ => false
    | _ => true
/-- a place in a list -/
noncomputable def inB (σ : St) (e : IE) (n : Nat) : Bool := onO (e.lo σ.vi) fun a => onO (e.hi σ.vi) fun b => decide (0 ≤ a) && (decide (b < (n : Nat)) && decide (b < 1000000))
noncomputable def okN (n : Int) : Bool := decide (0 ≤ n) && decide (n < 1000000)
noncomputable def itemL (σ : St) (vs : List AV) (e : IE) (k : AV → St → Bool) : Bool :=
  match (match e.known σ.vi with | some _ => false | none => (objs vs || Nat.ble 12 vs.length) && vs.all plain1) with
  | true => match inB σ e vs.length with
    | true => k (.pick e vs) σ
    | false => false
  | false => splitI σ e fun n σ' => match okN n with
    | true => onO (nth vs n.toNat) fun v => k v σ'
    | false => false
/-- an item of the script: not below nought, or below it -/
noncomputable def itemS (σ : St) (e : IE) (k : AV → St → Bool) : Bool := onO (e.known σ.vi) fun n => match okN n with
  | true => onO (((IE.lit n).sub (IE.var 0)).neg? σ.vi) fun b => match b with
    | true => k (.int (IE.var σ.vi.length)) (σ.fresh ⟨0, none, none⟩) && k (.int ((IE.lit (-1)).sub (IE.var σ.vi.length))) (σ.fresh ⟨0, none, none⟩)
    | false => false
  | false => false
noncomputable def itemD (σ : St) (l : Nat) (i : AV) (k : AV → St → Bool) : Bool := onO (askA σ l i) fun q => onO q.2.2.2 fun j => onO (nth q.1 j) fun f => k f.2.2 σ
noncomputable def itemB (σ : St) (b : List UInt8) (e : IE) (k : AV → St → Bool) : Bool := onO (e.known σ.vi) fun n => match okN n && decide (b.length < 1000000) with
  | true => onO (nth b n.toNat) fun c => k (.int (IE.lit c.toNat)) σ
  | false => false
/-- an item by a number -/
noncomputable def itemI (σ : St) (l : Nat) (i : AV) (e : IE) (k : AV → St → Bool) : Bool := match σ.hp.get l with
  | none => match Nat.beq l 0 with
    | true => itemS σ e k
    | false => false
  | some o => match o with
    | .lst vs => itemL σ vs e k
    | .tup vs => itemL σ vs e k
    | .dct _ _ => itemD σ l i k
    | _ => false
noncomputable def itemA (σ : St) (o i : AV) (k : AV → St → Bool) : Bool := match o with
  | .loc l => match i with
    | .int e => itemI σ l i e k
    | _ => itemD σ l i k
  | .byts b => match i with
    | .int e => itemB σ b e k
    | _ => false
  | _ => false
noncomputable def notSlice : Expr → Bool
  | .Slice .. => false
  | _ => true
theorem sub_plain {slice : Expr} {o i : Value} (h : notSlice slice = true) : subscripted slice false o i = operate [o, i] (getItem o i) := by
  induction slice using PySem.Expr.casesOn <;> first | rfl | exact ff h

section
variable {os0 : (Array Nat → Int) × OsState} {h₀ : Gd} {L : Addr} {m : Str → Option Value} {W : Wd} {σ : St} {s : Shared}
theorem okN_is {n : Int} (h : okN n = true) : 0 ≤ n ∧ n < 1000000 := ⟨of_decide_eq_true (an h).1, of_decide_eq_true (an h).2⟩
theorem inB_is (R : Rel os0 h₀ L m W σ s) {e : IE} {n : Nat} {x : Int} (q : e.ev W.ι = some x) (h : inB σ e n = true) : 0 ≤ x ∧ x < n ∧ x < 1000000 := by
  refine Classical.byContradiction fun hgo => ?_
  obtain ⟨a, h1, h⟩ := onO_is h
  obtain ⟨b, h2, h⟩ := onO_is h
  obtain ⟨d1, h⟩ := an h
  obtain ⟨d2, d3⟩ := an h
  refine hgo ?_
  have l1 := IE.lo_le R.vars h1 q
  have l2 := IE.hi_ge R.vars h2 q
  exact ⟨Int.le_trans (of_decide_eq_true d1) l1, Int.lt_of_le_of_lt l2 (of_decide_eq_true d2), Int.lt_of_le_of_lt l2 (of_decide_eq_true d3)⟩
theorem itemL_ok (R : Rel os0 h₀ L m W σ s) {vs : List AV} {cs : List Value} {e : IE} {x : Int} {k : AV → St → Bool} (hx : All2 (VR W) vs cs) (q : e.ev W.ι = some x) (h : itemL σ vs e k = true) :
    0 ≤ x ∧ x < 1000000 ∧ ∃ c, cs[x.toNat]? = some c ∧ ∃ v σ', Rel os0 h₀ L m W σ' s ∧ VR W v c ∧ k v σ' = true := by
  unfold itemL at h
  split at h
  · obtain ⟨hd, h⟩ := mt h
    obtain ⟨d1, d2, d3⟩ := inB_is R q hd
    have hlt : x.toNat < vs.length := by omega
    obtain ⟨c, g1, g2⟩ := hx.get (List.getElem?_eq_getElem hlt)
    exact ⟨d1, d3, c, g1, _, σ, R, .pick q d1 (List.getElem?_eq_getElem hlt) g2, h⟩
  · obtain ⟨σ', R', hk⟩ := splitI_ok R q h
    obtain ⟨hd, hk⟩ := mt hk
    obtain ⟨v, hn, hk⟩ := onO_is hk
    rw [nth_is] at hn
    obtain ⟨c, h1, h2⟩ := hx.get hn
    exact ⟨(okN_is hd).1, (okN_is hd).2, c, h1, v, σ', R', h2, hk⟩
variable {prog : Program} {w : World} {A : Around} {E : Value → Shared → Prop}
theorem ints_at {vs : List Value} {ns : List Int} (h : IntsAre vs ns) : ∀ {i : Nat}, i < vs.length → ∃ y t, vs[i]? = some (.int y t) := by
  induction h with
  | nil => exact fun h => absurd h (Nat.not_lt_zero _)
  | cons y t _ ih =>
    intro i h
    induction i using Nat.casesOn with
    | zero => exact ⟨y, t, rfl⟩
    | succ i => exact ih (Nat.lt_of_succ_lt_succ h)
theorem itemD_ok (hw : os0.1 = w.params.strHash) (hu : A.units + 40 < cLine) (R : Rel os0 h₀ L m W σ s) {value slice : Expr} (hs : notSlice slice = true) {l : Nat} {a : Addr} {i : AV} {ci : Value} {k : AV → St → Bool} {Q : Value → Shared → Prop} (ea : W.ρ[l]? = some a) (hi : VR W i ci) (h : itemD σ l i k = true)
    (hQ : ∀ W' v c σ' s', W.le W' → Rel os0 h₀ L m W' σ' s' → VR W' v c → k v σ' = true → Q c s') : wpAny (model prog w) A (subscriptTail value slice (.ref a) ci) Q E s := by
  refine Classical.byContradiction fun hgo => ?_
  obtain ⟨⟨es, n, kd, r⟩, hk, h⟩ := onO_is h
  obtain ⟨j, rfl, h⟩ := onO_is (o := r) h
  obtain ⟨f, hn, h⟩ := onO_is h
  obtain ⟨ds, g1, g2, g3, g4, g5, g6, g7, g8, g9⟩ := askA_ok (prog := prog) (A := A.in1) hw R (by show A.units + 1 + 8 < cLine; omega) ea hi hk
  refine hgo ?_
  rw [nth_is] at hn
  obtain ⟨e, e1, e2⟩ := g2.get hn
  exact tail_any (dict_is g4) slot_dict_getitem.lookup (raw_item g9 rfl e1 (hQ _ _ _ _ _ W.le_refl (R.toks _) e2.val h)) (sub_plain hs)
theorem itemS_ok (R : Rel os0 h₀ L m W σ s) {value slice : Expr} (hs : notSlice slice = true) {a : Addr} {e : IE} {x : Int} {t : Tok} {k : AV → St → Bool} {Q : Value → Shared → Prop} (ea : W.ρ[0]? = some a) (ev : e.ev W.ι = some x) (h : itemS σ e k = true)
    (hQ : ∀ W' v c σ' s', W.le W' → Rel os0 h₀ L m W' σ' s' → VR W' v c → k v σ' = true → Q c s') : wpAny (model prog w) A (subscriptTail value slice (.ref a) (.int x t)) Q E s := by
  refine Classical.byContradiction fun hgo => ?_
  obtain ⟨n, hk, h⟩ := onO_is h
  obtain rfl := IE.known_is R.vars hk ev
  obtain ⟨hd, h⟩ := mt h
  obtain ⟨b, hneg, h⟩ := onO_is h
  refine hgo ?_
  induction b using Bool.casesOn with
  | false => exact ff h
  | true =>
    obtain ⟨d1, d2⟩ := okN_is hd
    obtain ⟨a', vs', ns, z1, z2, ⟨lo, z3, zc, zk, zd⟩, z4, z5⟩ := R.scr.2
    rw [ea] at z1
    obtain rfl := Option.some.inj z1
    obtain ⟨_, z3⟩ := R.fr.up z3
    have tx : s.heap.IsList a vs'.toArray := ⟨_, z3, zc, zk, zd⟩
    have e0 : (IE.var 0).ev W.ι = some ((ns.length : Nat) : Int) := ev_at z2
    have hlt := of_decide_eq_true (IE.neg_is R.vars hneg (IE.ev_sub (IE.ev_lit _ x) e0))
    have hl := z4.length
    obtain ⟨y, ty, hy⟩ := ints_at z4 (i := x.toNat) (by omega)
    obtain ⟨g1, g2⟩ := an h
    refine item_litK tx d1 (by omega) hy ?_ (sub_plain hs)
    by_cases q : 0 ≤ y
    · obtain ⟨R', e'⟩ := R.fresh (v := ⟨0, none, none⟩) (x := y) ⟨q, (fun h0 hh => nomatch hh), (fun e0 m0 h0 => nomatch h0)⟩
      exact hQ _ _ _ _ _ (W.le_more _) R' (.int _ e') g1
    · obtain ⟨R', e'⟩ := R.fresh (v := ⟨0, none, none⟩) (x := -1 - y) ⟨(by show 0 ≤ -1 - y; omega), (fun h0 hh => nomatch hh), (fun e0 m0 h0 => nomatch h0)⟩
      have e2 := IE.ev_sub (IE.ev_lit (W.more (-1 - y)).ι (-1)) e'
      rw [show -1 - (-1 - y) = y by omega] at e2
      exact hQ _ _ _ _ _ (W.le_more _) R' (.int _ e2) g2
theorem itemB_ok (R : Rel os0 h₀ L m W σ s) {value slice : Expr} (hs : notSlice slice = true) {b : List UInt8} {e : IE} {x : Int} {t u : Tok} {k : AV → St → Bool} {Q : Value → Shared → Prop} (ev : e.ev W.ι = some x) (h : itemB σ b e k = true)
    (hQ : ∀ W' v c σ' s', W.le W' → Rel os0 h₀ L m W' σ' s' → VR W' v c → k v σ' = true → Q c s') : wpAny (model prog w) A (subscriptTail value slice (.bytes b.toArray u) (.int x t)) Q E s := by
  refine Classical.byContradiction fun hgo => ?_
  obtain ⟨n, hk, h⟩ := onO_is h
  obtain rfl := IE.known_is R.vars hk ev
  obtain ⟨hd, h⟩ := mt h
  obtain ⟨hd, hb⟩ := an hd
  obtain ⟨c, hn, h⟩ := onO_is h
  refine hgo ?_
  rw [nth_is] at hn
  have hlt := (List.getElem?_eq_some_iff.mp hn).1
  have hb := of_decide_eq_true hb
  obtain ⟨d1, d2⟩ := okN_is hd
  refine tail_any (typeIs_bytes _ _ _) FB.slot_bytes_getitem.lookup (getItem_bytes (l := b) (by omega) d1 (by omega) ?_) (sub_plain hs)
  rw [show b.getD x.toNat 0 = c by rw [List.getD, hn]; rfl]
  exact hQ _ _ _ _ _ W.le_refl (R.toks _) (.int _ (IE.ev_lit _ _)) h
theorem itemA_ok (hw : os0.1 = w.params.strHash) (hu : A.units + 40 < cLine) (R : Rel os0 h₀ L m W σ s) {value slice : Expr} (hs : notSlice slice = true) {o i : AV} {co ci : Value} {k : AV → St → Bool} {Q : Value → Shared → Prop} (ho : VR W o co) (hi : VR W i ci) (h : itemA σ o i k = true)
    (hQ : ∀ W' v c σ' s', W.le W' → Rel os0 h₀ L m W' σ' s' → VR W' v c → k v σ' = true → Q c s') : wpAny (model prog w) A (subscriptTail value slice co ci) Q E s := by
  induction o using Mine.AV.casesOn with
  | loc l =>
    apply ho.onLoc; intro la ea
    induction i using Mine.AV.casesOn with
    | int e =>
      apply hi.onInt; intro x t ev
      have h : itemI σ l (.int e) e k = true := h
      unfold itemI at h
      cases hg : σ.hp.get l with
      | none =>
        rw [hg] at h
        obtain ⟨hb, h⟩ := mt h
        obtain rfl := Nat.eq_of_beq_eq_true hb
        exact itemS_ok R hs ea ev h hQ
      | some o =>
        rw [hg] at h
        obtain ⟨cc, k1, k2⟩ := R.ref hg ea
        induction o using Mine.AO.casesOn with
        | lst vs =>
          obtain ⟨cx, hx, tx⟩ := lst_at k1 k2
          obtain ⟨x0, x1, c, hc, v, σ', R', v', hk⟩ := itemL_ok R hx ev h
          exact item_litK tx x0 (by omega) hc (hQ _ _ _ _ _ W.le_refl R' v' hk) (sub_plain hs)
        | tup vs =>
          obtain ⟨cx, hx, tx⟩ := tup_at k1 k2
          obtain ⟨x0, x1, c, hc, v, σ', R', v', hk⟩ := itemL_ok R hx ev h
          have hlt := (List.getElem?_eq_some_iff.mp hc).1
          refine item_tupleT (k := x) (j := x.toNat) tx (by omega) (by omega) ?_ hc (hQ _ _ _ _ _ W.le_refl R' v' hk) (sub_plain hs)
          unfold seqIndex?
          simp only [if_neg (show ¬ x < 0 by omega)]
          rw [if_pos (by rw [decide_eq_true x0, Bool.true_and]; exact decide_eq_true (by omega))]
        | dct _ _ => exact itemD_ok hw hu R hs ea (.int t ev) h hQ
        | _ => exact ff h
    | _ => exact itemD_ok hw hu R hs ea hi h hQ
  | byts b =>
    apply ho.onByts; intro u
    induction i using Mine.AV.casesOn with
    | int e =>
      apply hi.onInt; intro x t ev
      exact itemB_ok R hs ev h hQ
    | _ => exact ff h
  | _ => exact ff h
end

/-! ## calls -/
noncomputable def noStars : List Expr → Bool
  | [] => true
  | e :: r => match notStar e with
    | true => noStars r
    | false => false
theorem noStars_any {pos : Pos} {env : Env} : ∀ {l : List Expr}, noStars l = true → (backTo pos (starEach l env)).any (fun x => x.1) = false ∧ (backTo pos (starEach l env)).all (fun x => !x.1) = true
  | [], _ => ⟨rfl, rfl⟩
  | e :: r, h => by
    unfold noStars at h
    obtain ⟨hs, h⟩ := mt h
    have ih := noStars_any (pos := pos) (env := env) h
    rw [star_no hs]
    exact ⟨by show (false || (backTo pos (starEach r env)).any (fun x => x.1)) = false; rw [ih.1]; rfl, by show (true && (backTo pos (starEach r env)).all (fun x => !x.1)) = true; rw [ih.2]; rfl⟩
/-- methods of built-in things -/
inductive MB where
  | app
  | rem
  | lpop
  | get
  | dpop
  | ext
noncomputable def MB.name : MB → String
  | .app => "list.append"
  | .rem => "list.remove"
  | .lpop => "list.pop"
  | .get => "dict.get"
  | .dpop => "dict.pop"
  | .ext => "bytearray.extend"
inductive Mth where
  | fn (a : Addr)
  | bi (b : MB)
noncomputable def mthV : Mth → Value
  | .fn a => .ref a
  | .bi b => .builtin b.name
noncomputable def sApp : Str := Str.ofString "append"
noncomputable def sRem : Str := Str.ofString "remove"
noncomputable def sPop : Str := Str.ofString "pop"
noncomputable def sGet : Str := Str.ofString "get"
noncomputable def sExt : Str := Str.ofString "extend"
noncomputable def mbOf (x : Str) : List (Str × MB) → Option MB
  | [] => none
  | p :: r => match sq x p.1 with
    | true => some p.2
    | false => mbOf x r
noncomputable def lstM : List (Str × MB) := [(sApp, .app), (sRem, .rem), (sPop, .lpop)]
noncomputable def dctM : List (Str × MB) := [(sGet, .get), (sPop, .dpop)]
noncomputable def barM : List (Str × MB) := [(sExt, .ext)]
/-- a method of an object -/
noncomputable def methI (S : SE) (σ : St) (C : Addr) (d : Nat) (x : Str) : Option Mth := (S.cl.get C).bind fun r => ((σ.hp.get d).bind nsOf).bind fun fs => match lk x fs with
  | some _ => none
  | none => (lk x r.met).bind fun a => (S.fn.get a).map fun _ => .fn a
noncomputable def methO (S : SE) (σ : St) (o : AO) (x : Str) : Option Mth := match o with
  | .inst C d => methI S σ C d x
  | .lst _ => (mbOf x lstM).map .bi
  | .dct _ _ => (mbOf x dctM).map .bi
  | .barr _ => (mbOf x barM).map .bi
  | _ => none
noncomputable def methA (S : SE) (σ : St) (v : AV) (x : Str) : Option Mth := match v with
  | .loc l => (σ.hp.get l).bind fun o => methO S σ o x
  | _ => none
/-- a call of a thing with a name -/
noncomputable def callV (S : SE) (lv : Nat) (ex : ExT) (v : AV) (vs : List AV) (σ : St) (k : AV → St → Bool) : Bool := match v with
  | .top a => match S.cl.get a with
    | some _ => callC S ex a vs σ k
    | none => match S.jn.get a with
      | some l => callJ S lv ex a vs σ k l
      | none => callFn S ex a vs σ k
  | .typ t => match vs with
    | [] => match t with
      | .bytearray => allocA σ (.barr []) k
      | _ => false
    | _ => callT t vs σ k
  | .blt i => match vs with
    | [] => false
    | _ => callB i vs σ k
  | _ => false
noncomputable def getD (σ : St) (l : Nat) (a d : AV) (k : AV → St → Bool) : Bool := onO (askA σ l a) fun q => match q.2.2.2 with
  | some j => onO (nth q.1 j) fun f => k f.2.2 σ
  | none => k d σ
noncomputable def popD (σ : St) (l : Nat) (a : AV) (k : AV → St → Bool) : Bool := onO (askA σ l a) fun q => onO q.2.2.2 fun j => onO (nth q.1 j) fun f => match Nat.ble q.1.length 1000 with
  | true => updA σ l (.dct (delL q.1 j) (q.2.1 + 1)) fun σ' => k f.2.2 σ'
  | false => false
noncomputable def remA (σ : St) (l : Nat) (v : AV) (k : AV → St → Bool) : Bool := match v with
  | .int e => onO ((σ.hp.get l).bind lstOf) fun xs => match Nat.ble xs.length 1000000 && allInt xs with
    | true => onO (remI σ.vi e xs) fun j => updA σ l (.lst (delL xs j)) fun σ' => k .none σ'
    | false => false
  | _ => false
noncomputable def lpopA (σ : St) (l : Nat) (v : AV) (k : AV → St → Bool) : Bool := match v with
  | .int e => onO ((σ.hp.get l).bind lstOf) fun xs => onO (e.known σ.vi) fun n => match decide (0 ≤ n) && Nat.ble xs.length 1000000 with
    | true => onO (nth xs n.toNat) fun x => updA σ l (.lst (delL xs n.toNat)) fun σ' => k x σ'
    | false => false
  | _ => false
noncomputable def appA (σ : St) (l : Nat) (x : AV) (k : AV → St → Bool) : Bool := onO ((σ.hp.get l).bind lstOf) fun xs => match Nat.ble xs.length 1000000 with
  | true => updA σ l (.lst (xs ++ [x])) fun σ' => k .none σ'
  | false => false
noncomputable def callMB (b : MB) (l : Nat) (vs : List AV) (σ : St) (k : AV → St → Bool) : Bool := match vs with
  | [x] => match b with
    | .app => appA σ l x k
    | .rem => remA σ l x k
    | .lpop => lpopA σ l x k
    | .get => getD σ l x .none k
    | .dpop => popD σ l x k
    | .ext => false
  | [x, y] => match b with
    | .get => getD σ l x y k
    | _ => false
  | _ => false
noncomputable def callM (S : SE) (ex : ExT) (mt : Mth) (v : AV) (vs : List AV) (σ : St) (k : AV → St → Bool) : Bool := match mt with
  | .fn a => callFn S ex a (v :: vs) σ k
  | .bi b => match v with
    | .loc l => callMB b l vs σ k
    | _ => false
noncomputable def sSuper : Str := Str.ofString "super"
/-- a call as a base: no call of the name super -/
noncomputable def notSuper : Expr → Bool
  | .Call f _ _ _ => match f with
    | .Name x _ => match sq x sSuper with
      | true => false
      | false => true
    | _ => true
  | _ => true
noncomputable def calleeOk (S : SE) (v : AV) (args : List Expr) : Bool := match v with
  | .top a => match S.cl.get a with
    | some _ => true
    | none => match S.fn.get a with
      | some _ => true
      | none => false
  | .typ t => match args with
    | [] => match t with
      | .bytearray => true
      | _ => false
    | _ => true
  | .blt _ => match args with
    | [] => false
    | _ => true
  | _ => false
noncomputable def okArgs (o : Expr) (args : List Expr) (apos pos : Pos) : Bool := noStars args && (notSuper o && (Nat.ble args.length 20 && Nat.beq apos.endLine pos.line))
noncomputable def evCallM (S : SE) (ev : EvT) (ex : ExT) (ae : AE) (name : Str) (args : List Expr) (k : AV → St → Bool) (v : AV) (σ : St) : Bool := onO (methA S σ v name) fun mt => evList ev ae args σ fun vs σ2 => callM S ex mt v vs σ2 k
noncomputable def evCallA (S : SE) (ev : EvT) (ex : ExT) (ae : AE) (ok : Bool) (o : Expr) (name : Str) (args : List Expr) (σ : St) (k : AV → St → Bool) : Bool := match ok with
  | false => false
  | true => ev ae o σ (evCallM S ev ex ae name args k)
noncomputable def evCallW (S : SE) (lv : Nat) (ev : EvT) (ex : ExT) (ae : AE) (args : List Expr) (k : AV → St → Bool) (v : AV) (σ : St) : Bool := match calleeOk S v args with
  | true => evList ev ae args σ fun vs σ2 => callV S lv ex v vs σ2 k
  | false => false
noncomputable def evCallN (S : SE) (lv : Nat) (ev : EvT) (ex : ExT) (ae : AE) (ok : Bool) (x : Str) (args : List Expr) (σ : St) (k : AV → St → Bool) : Bool := match ok with
  | false => false
  | true => evName S ae x σ (evCallW S lv ev ex ae args k)
theorem base_plain {o : Expr} {attr : Str} {env : Env} {whole : Sem Value} (h : notSuper o = true) : attributeBase o attr env whole = whole := by
  induction o using PySem.Expr.casesOn <;> first | rfl | skip
  rename_i f args kws cpos
  induction f using PySem.Expr.casesOn <;> first | rfl | skip
  rename_i x xp
  have hx : (x != Str.ofString "super") = true := by
    rw [bne_iff_ne]
    intro e
    unfold notSuper at h
    dsimp only at h
    rw [show sq x sSuper = true from by rw [e]; exact sq_refl _] at h
    exact ff h
  induction args using List.casesOn with
  | cons _ _ => rfl
  | nil =>
    induction kws using List.casesOn with
    | cons _ _ => rfl
    | nil =>
      show (if (x != Str.ofString "super" || attr == Str.ofString "__class__" || env.kindOf (Str.ofString "super") != some .globalImplicit || env.kindOf (Str.ofString "__class__") != some .free) = true then whole else _) = whole
      rw [if_pos (by rw [hx]; rfl)]
theorem attr_eq {o : Expr} {attr : Str} {pos : Pos} {env : Env} (h : notSuper o = true) : eval (o.Attribute attr pos) env = (do
    let o' ← eval o env
    standAt pos.atName
    let r ← holding [o'] (getAttr o' attr true)
    letTemporaryGo o o' r
    pure r) := by
  show (do
    let o' ← attributeBase o attr env (eval o env)
    standAt pos.atName
    let r ← holding [o'] (getAttr o' attr true)
    letTemporaryGo o o' r
    pure r) = _
  rw [base_plain h]
theorem mcall_eq {o : Expr} {name : Str} {apos pos : Pos} {args : List Expr} {env : Env} {pl : Value → Sem Bool} (h : notSuper o = true) (h1 : (backTo pos (starEach args env)).all (fun x => !x.1) = true) (h2 : args.length ≤ 20) (h3 : apos.endLine = pos.line)
    (hp : pl = fun _ => (do return (← importBound o env).getD true)) :
    eval ((o.Attribute name apos).Call args [] pos) env = (do
      let ov ← eval o env
      standAt apos.atName
      let __x ← holding [ov] (getMethod ov name (pl ov))
      match __x with
        | (f, first) => callWith pos f first (backTo pos (starEach args env)) (backToKw pos (keywordEach [] env))) := by
  subst hp
  have e : methodCallForm (args.length + 0) (backTo pos (starEach args env)) (backToKw pos (keywordEach [] env)) = true := by
    unfold methodCallForm
    rw [h1]
    have : backToKw pos (keywordEach [] env) = [] := rfl
    rw [this]
    simp
    omega
  show (do
    let ov ← attributeBase o name env (eval o env)
    standAt apos.atName
    methodCall o name apos pos env ov (args.length + 0) (backTo pos (starEach args env)) (backToKw pos (keywordEach [] env))) = _
  rw [base_plain h]
  congr 1
  funext ov
  congr 1
  funext _
  unfold methodCall
  rw [e]
  unfold calleeOf methodCallPos
  have e3 : (!true || apos.endLine == pos.line) = true := by rw [h3]; simp
  rw [if_pos rfl]
  congr 1
  funext x
  obtain ⟨f, first⟩ := x
  dsimp only
  rw [e3, if_pos rfl]
  rfl

theorem keepIn_fn {K : Frag} {a : Addr} {r : FnR} (h : FnOK K a r) : keepIn K (.ref a) = true := by
  obtain ⟨params, oc, od, osl, name, qual, dV, kV, doc, pm, an, cdv, ct, ho, _⟩ := h.obj
  simp only [keepIn, ho]

section
variable {prog : Program} {w : World} {K : Frag} {p : Program} {loose : List Str} {mean : ExcName → Option Value} {mg mb : Str → Option Value} {os0 : (Array Nat → Int) × OsState}
variable {n : Nat} {A : Around} {base : Heap} {h₀ : Gd} {env : Env} {ae : AE} {L : Addr} {E : Value → Shared → Prop} {m : Str → Option Value} {W : Wd} {σ : St} {s : Shared}

theorem callFnW_ok {S : SE} (G : EnvOK w os0 K S) {ex : ExT} (hex : ExOK prog w K p loose mean mg mb os0 n ex) (f : Fc K p loose mean mg mb (n + 1) A base h₀ L) {a : Addr} {vs : List AV} {cs : List Value} {k : AV → St → Bool} {Q : Value → Shared → Prop}
    (R : Rel os0 h₀ L m W σ s) (hv : All2 (VR W) vs cs) (h : callFn S ex a vs σ k = true) (hQ : ∀ W' v c σ' s', W.le W' → Rel os0 h₀ L m W' σ' s' → VR W' v c → k v σ' = true → Q c s') : wpX (model prog w) A (call (.ref a) cs) Q E s := by
  refine xcall ?_
  exact callFn_ok G.F hex (f.less (Nat.le_succ n)) (by have := f.hd; omega) (by have := f.hu; omega) R hv h hQ

theorem callV_ok {S : SE} (G : EnvOK w os0 K S) {lv : Nat} (hlv : lv ≤ n) {ex : ExT} (hex : ExOK prog w K p loose mean mg mb os0 n ex) (f : Fc K p loose mean mg mb (n + 1) A base h₀ L) {v : AV} {vs : List AV} {c : Value} {cs : List Value} {k : AV → St → Bool} {Q : Value → Shared → Prop}
    (R : Rel os0 h₀ L m W σ s) (hv : VR W v c) (hvs : All2 (VR W) vs cs) (h : callV S lv ex v vs σ k = true) (hQ : ∀ W' v c σ' s', W.le W' → Rel os0 h₀ L m W' σ' s' → VR W' v c → k v σ' = true → Q c s') : wpX (model prog w) A (call c cs) Q E s := by
  induction v using Mine.AV.casesOn with
  | top a =>
    obtain rfl := hv.inv
    unfold callV at h
    dsimp only at h
    split at h
    · exact callC_ok G hex f R hvs h hQ
    · split at h
      · rename_i l hjs
        refine xcall ?_
        exact callJ_ok G.F hlv hex (f.less (Nat.le_succ n)) (by have := f.hd; omega) (by have := f.hu; omega) (l := l) R hvs hQ (fun C hC => G.cons _ l C hjs hC prog p loose mean mg mb) h
      · exact callFnW_ok G hex f R hvs h hQ
  | typ t =>
    obtain rfl := hv.inv
    induction vs using List.casesOn with
    | nil =>
      obtain rfl := hvs.inv
      induction t using Mine.TI.casesOn with
      | bytearray =>
        refine call_ba fun h' h1 h2 => ?_
        obtain ⟨R', v', h'⟩ := R.came (t := s.toks) (a := s.heap.objs.size) (c := baOf []) h (fun b x e => (h2.2 b (Nat.ne_of_lt (Heap.lt_size e))).trans (Heap.get?_push_of_some _ e)) h1 (get_size_none _) (.barr [])
        exact hQ _ _ _ _ _ (W.le_grow _) R' v' h'
      | _ => exact ff h
    | cons _ _ => exact xof <| callT_ok f.hh R hvs h hQ
  | blt i =>
    obtain rfl := hv.inv
    induction vs using List.casesOn with
    | nil => exact ff h
    | cons _ _ => exact xof <| callB_ok G.wd f.room f.hh R hvs h hQ
  | _ => exact ff h

theorem mbOf_mem {x : Str} {b : MB} : ∀ {l : List (Str × MB)}, mbOf x l = some b → (x, b) ∈ l
  | [], h => by exact no_some h
  | p :: r, h => by
    unfold mbOf at h
    cases q : sq x p.1 with
    | true => rw [q] at h; obtain rfl := Option.some.inj h; rw [sq_eq q]; exact .head _
    | false => rw [q] at h; exact .tail _ (mbOf_mem h)
theorem lstM_ok {x : Str} {b : MB} (h : mbOf x lstM = some b) {a : Addr} {cs : List Value} {n : Nat} {pl : Sem Bool} {Q : Value × List Value → Shared → Prop} (hc : s.heap.get? a = some { cls := .type "list", data := .seq cs.toArray n }) (hQ : Q (.builtin b.name, [.ref a]) s) :
    wpAny (model prog w) A (getMethod (.ref a) x pl) Q E s := by
  have hT : s.TypeIs (.ref a) "list" := ⟨_, hc, rfl⟩
  have hd : ∀ c, Value.ref a = .ref c → ∃ o, s.heap.get? c = some o ∧ o.dict = none := fun c e => by cases e; exact ⟨_, hc, rfl⟩
  have := mbOf_mem h
  simp only [lstM, List.mem_cons, Prod.mk.injEq, List.not_mem_nil, or_false] at this
  rcases this with ⟨rfl, rfl⟩ | ⟨rfl, rfl⟩ | ⟨rfl, rfl⟩
  · exact getMethod_list_append hc rfl rfl hQ
  · exact getMethod_builtin hT PySem.F.plainAttrs_list PySem.F.slot_list_remove PySem.F.type_list_remove hd hQ
  · exact getMethod_builtin hT PySem.F.plainAttrs_list PySem.F.slot_list_pop PySem.F.type_list_pop hd hQ
theorem dctM_ok {x : Str} {b : MB} (h : mbOf x dctM = some b) {a : Addr} {ds : List DictEntry} {n : Nat} {pl : Sem Bool} {Q : Value × List Value → Shared → Prop} (hc : s.heap.get? a = some (dictOf ds n)) (hQ : Q (.builtin b.name, [.ref a]) s) :
    wpAny (model prog w) A (getMethod (.ref a) x pl) Q E s := by
  have hT : s.TypeIs (.ref a) "dict" := ⟨_, hc, rfl⟩
  have hd : ∀ c, Value.ref a = .ref c → ∃ o, s.heap.get? c = some o ∧ o.dict = none := fun c e => by cases e; exact ⟨_, hc, rfl⟩
  have := mbOf_mem h
  simp only [dctM, List.mem_cons, Prod.mk.injEq, List.not_mem_nil, or_false] at this
  rcases this with ⟨rfl, rfl⟩ | ⟨rfl, rfl⟩
  · exact getMethod_builtin hT PySem.F.plainAttrs_dict PySem.F.slot_dict_get PySem.F.type_dict_get hd hQ
  · exact getMethod_builtin hT PySem.F.plainAttrs_dict PySem.F.slot_dict_pop PySem.F.type_dict_pop hd hQ
theorem barM_ok {x : Str} {b : MB} (h : mbOf x barM = some b) {a : Addr} {c : List UInt8} {pl : Sem Bool} {Q : Value × List Value → Shared → Prop} (hc : s.heap.get? a = some (baOf c)) (hQ : Q (.builtin b.name, [.ref a]) s) :
    wpAny (model prog w) A (getMethod (.ref a) x pl) Q E s := by
  have := mbOf_mem h
  simp only [barM, List.mem_cons, Prod.mk.injEq, List.not_mem_nil, or_false] at this
  obtain ⟨rfl, rfl⟩ := this
  exact getMethod_builtin (ba_is hc) plainAttrs_ba slot_ba_ext type_ba_ext (fun c e => by cases e; exact ⟨_, hc, rfl⟩) hQ
theorem methI_is {S : SE} {C : Addr} {d : Nat} {x : Str} {mt : Mth} (h : methI S σ C d x = some mt) : ∃ r fs a fr, S.cl.get C = some r ∧ σ.hp.get d = some (.ns fs) ∧ lk x fs = none ∧ lk x r.met = some a ∧ S.fn.get a = some fr ∧ mt = .fn a := by
  refine Classical.byContradiction fun hgo => ?_
  obtain ⟨r, h1, h⟩ := someBind h
  obtain ⟨fs, h2, h⟩ := someBind h
  refine hgo ?_
  split at h
  · exact no_some h
  · rename_i h3
    obtain ⟨a, h4, h⟩ := someBind h
    obtain ⟨fr, h5, h6⟩ := Option.map_eq_some_iff.mp h
    exact ⟨r, fs, a, fr, h1, at_is nsOf_is h2, h3, h4, h5, h6.symm⟩
theorem methA_fn {S : SE} {v : AV} {x : Str} {a : Addr} (h : methA S σ v x = some (.fn a)) : ∃ r, S.fn.get a = some r := by
  induction v using Mine.AV.casesOn with
  | loc l =>
    obtain ⟨o, _, h⟩ := someBind (show ((σ.hp.get l).bind fun o => methO S σ o x) = _ from h)
    induction o using Mine.AO.casesOn with
    | inst C d =>
      obtain ⟨r, fs, b, fr, _, _, _, _, h5, h6⟩ := methI_is h
      cases h6
      exact ⟨fr, h5⟩
    | lst _ => obtain ⟨_, _, e⟩ := Option.map_eq_some_iff.mp h; cases e
    | dct _ _ => obtain ⟨_, _, e⟩ := Option.map_eq_some_iff.mp h; cases e
    | barr _ => obtain ⟨_, _, e⟩ := Option.map_eq_some_iff.mp h; cases e
    | _ => exact no_some h
  | _ => exact no_some h
theorem methA_ok {S : SE} (G : EnvOK w os0 K S) (R : Rel os0 h₀ L m W σ s) (XS : K.In s.heap) {v : AV} {c : Value} {x : Str} {mt : Mth} {pl : Sem Bool} {Q : Value × List Value → Shared → Prop} (hv : VR W v c) (h : methA S σ v x = some mt)
    (hQ : Q (mthV mt, [c]) s) : wpAny (model prog w) A (getMethod c x pl) Q E s := by
  induction v using Mine.AV.casesOn with
  | loc l =>
    obtain ⟨xa, rfl, ea⟩ := hv.inv
    obtain ⟨o, hg, h⟩ := someBind (show ((σ.hp.get l).bind fun o => methO S σ o x) = _ from h)
    obtain ⟨ci, k1, k2⟩ := R.ref hg ea
    induction o using Mine.AO.casesOn with
    | inst C d =>
      obtain ⟨r, fs, a, fr, hC, hd, hl, hm, hf, rfl⟩ := methI_is h
      obtain ⟨dx, es, kk, e1, e2, e3, e4, e5⟩ := R.inst hg hd ea
      have g := ns_get x e3
      rw [hl] at g
      have Y := G.C C r hC
      have me := Y.me x a hm
      exact method_fn XS e5 Y.ga Y.gt me.1 me.2 (by show ((getL x es).map _) = _; rw [g]; rfl) hQ
    | lst _ =>
      obtain ⟨b, hs, rfl⟩ := Option.map_eq_some_iff.mp h
      obtain ⟨_, _, rfl, hx⟩ := k1.inv
      exact lstM_ok hs k2 hQ
    | dct _ _ =>
      obtain ⟨b, hs, rfl⟩ := Option.map_eq_some_iff.mp h
      obtain ⟨_, rfl, _, _⟩ := k1.inv
      exact dctM_ok hs k2 hQ
    | barr _ =>
      obtain ⟨b, hs, rfl⟩ := Option.map_eq_some_iff.mp h
      obtain rfl := k1.inv
      exact barM_ok hs k2 hQ
    | _ => exact no_some h
  | _ => exact no_some h

section
variable {l : Nat} {xa : Addr} {x : AV} {cx : Value} {k : AV → St → Bool} {Q : Value → Shared → Prop} (R : Rel os0 h₀ L m W σ s) (ea : W.ρ[l]? = some xa) (hx : VR W x cx) (hQ : ∀ v c σ' s', Rel os0 h₀ L m W σ' s' → VR W v c → k v σ' = true → Q c s')
include R ea hx hQ
theorem appA_ok (h : appA σ l x k = true) : wpAny (model prog w) A (call (.builtin "list.append") [.ref xa, cx]) Q E s := by
  refine Classical.byContradiction fun hgo => ?_
  obtain ⟨xs, hg, h⟩ := onO_is h
  have hg := at_is lstOf_is hg
  obtain ⟨hb, h⟩ := mt h
  obtain ⟨ci, k1, k2⟩ := R.ref hg ea
  obtain ⟨cl, nn, rfl, hxx⟩ := k1.inv
  refine hgo ?_
  refine append_at k2 (fun h' hs ho' => ?_) (by rw [sizeLine_eq, List.size_toArray, ← hxx.length]; exact Nat.le_trans (Nat.le_of_ble_eq_true hb) (by decide))
  obtain ⟨R', hk⟩ := updA_ok (s' := { s with heap := h' }) R hg ea hs (show OR W (.lst (xs ++ [x])) (listOf (cl.toArray.push cx) (nn + 1)) from by rw [List.push_toArray]; exact .lst (hxx.append (.cons hx .nil))) ho' rfl rfl h
  exact hQ _ _ _ _ R' .none hk
theorem remA_ok (h : remA σ l x k = true) : wpAny (model prog w) A (call (.builtin "list.remove") [.ref xa, cx]) Q E s := by
  induction x using Mine.AV.casesOn with
  | int e =>
    apply hx.onInt; intro y t ev
    obtain ⟨xs, hg, h⟩ := onO_is (show onO ((σ.hp.get l).bind lstOf) _ = true from h)
    have hg := at_is lstOf_is hg
    obtain ⟨hb, h⟩ := mt h
    obtain ⟨b1, b2⟩ := an hb
    obtain ⟨j, hr, h⟩ := onO_is h
    obtain ⟨ci, k1, k2⟩ := R.ref hg ea
    obtain ⟨_, _, rfl, hxx⟩ := k1.inv
    refine raw_remove k2 (allInt_is hxx b2) (by rw [← hxx.length]; exact Nat.le_trans (Nat.le_of_ble_eq_true b1) (by decide)) (remI_is R.vars ev hxx hr) fun h' n' g1 g2 => ?_
    obtain ⟨R', hk⟩ := updA_ok (s' := { s with heap := h' }) R hg ea g2 (.lst (by rw [delL_is]; exact hxx.del j)) g1 rfl rfl h
    exact hQ _ _ _ _ R' .none hk
  | _ => exact ff h
theorem lpopA_ok (h : lpopA σ l x k = true) : wpAny (model prog w) A (call (.builtin "list.pop") [.ref xa, cx]) Q E s := by
  induction x using Mine.AV.casesOn with
  | int e =>
    apply hx.onInt; intro y t ev
    obtain ⟨xs, hg, h⟩ := onO_is (show onO ((σ.hp.get l).bind lstOf) _ = true from h)
    have hg := at_is lstOf_is hg
    obtain ⟨n, hk, h⟩ := onO_is h
    obtain rfl := IE.known_is R.vars hk ev
    obtain ⟨hb, h⟩ := mt h
    obtain ⟨b1, b2⟩ := an hb
    obtain ⟨v, hn, h⟩ := onO_is h
    rw [nth_is] at hn
    obtain ⟨ci, k1, k2⟩ := R.ref hg ea
    obtain ⟨_, _, rfl, hxx⟩ := k1.inv
    have hl := hxx.length
    have b2 := Nat.le_of_ble_eq_true b2
    obtain ⟨c, e1, e2⟩ := hxx.get hn
    have hlt := (List.getElem?_eq_some_iff.mp hn).1
    refine raw_pop k2 (by omega) (of_decide_eq_true b1) (by omega) e1 fun h' n' g1 g2 => ?_
    obtain ⟨R', hk⟩ := updA_ok (s' := { s with heap := h' }) R hg ea g2 (.lst (by rw [delL_is]; exact hxx.del y.toNat)) g1 rfl rfl h
    exact hQ _ _ _ _ R' e2 hk
  | _ => exact ff h
theorem getD_ok (hw : os0.1 = w.params.strHash) (hu : A.units + 40 < cLine) {d : AV} {cd : Value} (hd : VR W d cd) (h : getD σ l x d k = true) : wpAny (model prog w) A (call (.builtin "dict.get") [.ref xa, cx, cd]) Q E s ∧ (cd = .none → wpAny (model prog w) A (call (.builtin "dict.get") [.ref xa, cx]) Q E s) := by
  refine Classical.byContradiction fun hgo => ?_
  obtain ⟨⟨es, n, kd, r⟩, hk, h⟩ := onO_is h
  obtain ⟨ds, g1, g2, g3, g4, g5, g6, g7, g8, g9⟩ := askA_ok (prog := prog) (A := A.in1) hw R (by show A.units + 1 + 8 < cLine; omega) ea hx hk
  refine hgo ?_
  have fin : Q ((valR ds r).getD cd) { s with toks := s.toks + kd.drw } := by
    induction r using Option.casesOn with
    | none => exact hQ _ _ _ _ (R.toks _) hd h
    | some j =>
      obtain ⟨f, hn, h⟩ := onO_is (show onO (nth es j) _ = true from h)
      rw [nth_is] at hn
      obtain ⟨e, e1, e2⟩ := g2.get hn
      rw [valR_some e1]
      exact hQ _ _ _ _ (R.toks _) e2.val h
  exact ⟨raw_call_get2 g9 g5 fin, fun e => by subst e; exact raw_call_get1 g9 g5 fin⟩
omit R ea hx hQ in
theorem dr_nodup {α : Type} {l : List (KD × α)} (h : (l.map (·.1)).Nodup) (j : Nat) : ((l.eraseIdx j).map (·.1)).Nodup :=
  List.Nodup.sublist (List.Sublist.map _ (List.eraseIdx_sublist ..)) h
theorem popD_ok (hw : os0.1 = w.params.strHash) (hu : A.units + 40 < cLine) (h : popD σ l x k = true) : wpAny (model prog w) A (call (.builtin "dict.pop") [.ref xa, cx]) Q E s := by
  refine Classical.byContradiction fun hgo => ?_
  obtain ⟨⟨es, n, kd, r⟩, hk, h⟩ := onO_is h
  obtain ⟨j, rfl, h⟩ := onO_is (o := r) h
  obtain ⟨f, hn, h⟩ := onO_is h
  obtain ⟨hb, h⟩ := mt h
  obtain ⟨ds, g1, g2, g3, g4, g5, g6, g7, g8, g9⟩ := askA_ok (prog := prog) (A := A.in1) hw R (by show A.units + 1 + 8 < cLine; omega) ea hx hk
  refine hgo ?_
  rw [nth_is] at hn
  obtain ⟨e, e1, e2⟩ := g2.get hn
  refine raw_call_pop g9 (by have := g2.length; have : es.length ≤ 1000 := Nat.le_of_ble_eq_true hb; omega) g5 rfl e1 fun h' z1 z2 => ?_
  obtain ⟨R', hk⟩ := updA_ok (s' := { s with heap := h', toks := s.toks + kd.drw }) R g1 ea z2 (.dct (by rw [delL_is]; exact g2.del j) (by rw [delL_is]; exact dr_nodup g3 j)) z1 rfl rfl h
  exact hQ _ _ _ _ R' e2.val hk
end
theorem callMB_ok (hw : os0.1 = w.params.strHash) (hu : A.units + 40 < cLine) (R : Rel os0 h₀ L m W σ s) {b : MB} {l : Nat} {xa : Addr} {vs : List AV} {cs : List Value} {k : AV → St → Bool} {Q : Value → Shared → Prop} (ea : W.ρ[l]? = some xa) (hvs : All2 (VR W) vs cs) (h : callMB b l vs σ k = true)
    (hQ : ∀ v c σ' s', Rel os0 h₀ L m W σ' s' → VR W v c → k v σ' = true → Q c s') : wpX (model prog w) A (call (.builtin b.name) ([.ref xa] ++ cs)) Q E s := by
  induction vs using List.casesOn with
  | nil => exact ff h
  | cons x r =>
    apply hvs.onCons; intro cx _ hx ht
    induction r using List.casesOn with
    | nil =>
      obtain rfl := ht.inv
      induction b using Mine.MB.casesOn with
      | app => exact xof (appA_ok R ea hx hQ h)
      | rem => exact xof (remA_ok R ea hx hQ h)
      | lpop => exact xof (lpopA_ok R ea hx hQ h)
      | get => exact xof ((getD_ok R ea hx hQ hw hu .none h).2 rfl)
      | dpop => exact xof (popD_ok R ea hx hQ hw hu h)
      | ext => exact ff h
    | cons y r =>
      apply ht.onCons; intro cy _ hy ht
      induction r using List.casesOn with
      | cons _ _ => exact ff h
      | nil =>
        obtain rfl := ht.inv
        induction b using Mine.MB.casesOn with
        | get => exact xof (getD_ok R ea hx hQ hw hu hy h).1
        | _ => exact ff h
theorem callM_ok {S : SE} (G : EnvOK w os0 K S) {ex : ExT} (hex : ExOK prog w K p loose mean mg mb os0 n ex) (f : Fc K p loose mean mg mb (n + 1) A base h₀ L) {mt : Mth} {v : AV} {vs : List AV} {c : Value} {cs : List Value} {k : AV → St → Bool} {Q : Value → Shared → Prop}
    (R : Rel os0 h₀ L m W σ s) (hv : VR W v c) (hvs : All2 (VR W) vs cs) (h : callM S ex mt v vs σ k = true) (hQ : ∀ W' v c σ' s', W.le W' → Rel os0 h₀ L m W' σ' s' → VR W' v c → k v σ' = true → Q c s') :
    wpX (model prog w) A (call (mthV mt) ([c] ++ cs)) Q E s := by
  induction mt using Mine.Mth.casesOn with
  | fn a => exact callFnW_ok G hex f R (.cons hv hvs) h hQ
  | bi b =>
    induction v using Mine.AV.casesOn with
    | loc l =>
      apply hv.onLoc; intro xa ea
      exact callMB_ok G.wd f.room R ea hvs h fun v c σ' s' => hQ W v c σ' s' W.le_refl
    | _ => exact ff h

/-- the arguments, and then the call -/
theorem args_fst {e : Expr} {r : List Expr} (h : noStars (e :: r) = true) : notStar e = true ∧ noStars r = true := mt h
section
variable {S : SE} (G : EnvOK w os0 K S) {ev : EvT} (hev : EvOK prog w K p loose mean mg mb os0 n ev) (f : Fc K p loose mean mg mb (n + 1) A base h₀ L) (en : EnvR W L ae env)
  {args : List Expr} {pos : Pos} {Q : Value → Shared → Prop} (R : Rel os0 h₀ L m W σ s) (hs : noStars args = true) {cm : List AV → St → Bool} (h : evList ev ae args σ cm = true)
include G hev f en R hs h
theorem callAt_gen {mt : Mth} {c : Value} (hm : ∀ a, mt = .fn a → ∃ r, S.fn.get a = some r) (fin : ∀ m2 W2 vs cs σ2 s2, W.le W2 → Rel os0 h₀ L m2 W2 σ2 s2 → All2 (VR W2) vs cs → cm vs σ2 = true → wpX (model prog w) A (call (mthV mt) ([c] ++ cs)) Q E s2) :
    wpX (model prog w) A (callWith pos (mthV mt) [c] (backTo pos (starEach args env)) []) Q E s := by
  have f' := f.less (Nat.le_succ n)
  have X1 := f.now R.fr
  have main : ∀ Q' : List Value → Shared → Prop, (∀ m2 W2 vs cs σ2 s2, W.le W2 → Rel os0 h₀ L m2 W2 σ2 s2 → All2 (VR W2) vs cs → cm vs σ2 = true → Q' cs s2) → wpX (model prog w) A (spliced (backTo pos (starEach args env))) Q' E s :=
    fun Q' hq => evList_ok hev f' args en R h hq
  induction mt using Mine.Mth.casesOn with
  | bi b =>
    induction args using List.casesOn with
    | nil => exact callWith_method0 (fin m W [] [] σ s W.le_refl R .nil h)
    | cons e r => exact callWith_method1 (main _ fin) (star_no (args_fst hs).1) (noStars_any (args_fst hs).2).1
  | fn a =>
    obtain ⟨fr, hf⟩ := hm a rfl
    have hk := keepIn_fn (G.F.fn a fr hf)
    induction args using List.casesOn with
    | nil => exact callWith_K0 X1 hk (fin m W [] [] σ s W.le_refl R .nil h)
    | cons e r => exact callWith_K f.XB hk (main _ fun m2 W2 vs cs σ2 s2 l2 R2 v2 h2 => ⟨f.now R2.fr, fin _ _ _ _ _ _ l2 R2 v2 h2⟩) (star_no (args_fst hs).1) (noStars_any (args_fst hs).2).1
theorem callTop_gen {a : Addr} (hk : keepIn K (.ref a) = true) (fin : ∀ m2 W2 vs cs σ2 s2, W.le W2 → Rel os0 h₀ L m2 W2 σ2 s2 → All2 (VR W2) vs cs → cm vs σ2 = true → wpX (model prog w) A (call (.ref a) cs) Q E s2) :
    wpX (model prog w) A (callWith pos (.ref a) [] (backTo pos (starEach args env)) []) Q E s := by
  have f' := f.less (Nat.le_succ n)
  have X1 := f.now R.fr
  have main : ∀ Q' : List Value → Shared → Prop, (∀ m2 W2 vs cs σ2 s2, W.le W2 → Rel os0 h₀ L m2 W2 σ2 s2 → All2 (VR W2) vs cs → cm vs σ2 = true → Q' cs s2) → wpX (model prog w) A (spliced (backTo pos (starEach args env))) Q' E s :=
    fun Q' hq => evList_ok hev f' args en R h hq
  induction args using List.casesOn with
  | nil => exact callWith_K0 X1 hk (fin m W [] [] σ s W.le_refl R .nil h)
  | cons e r => exact callWith_K f.XB hk (main _ fun m2 W2 vs cs σ2 s2 l2 R2 v2 h2 => ⟨f.now R2.fr, fin _ _ _ _ _ _ l2 R2 v2 h2⟩) (star_no (args_fst hs).1) (noStars_any (args_fst hs).2).1
theorem callName_gen {v : AV} {c : Value} (hv : VR W v c) (hc : calleeOk S v args = true) (fin : ∀ m2 W2 vs cs σ2 s2, W.le W2 → Rel os0 h₀ L m2 W2 σ2 s2 → All2 (VR W2) vs cs → cm vs σ2 = true → wpX (model prog w) A (call c cs) Q E s2) :
    wpX (model prog w) A (callWith pos c [] (backTo pos (starEach args env)) []) Q E s := by
  have f' := f.less (Nat.le_succ n)
  have main : ∀ Q' : List Value → Shared → Prop, (∀ m2 W2 vs cs σ2 s2, W.le W2 → Rel os0 h₀ L m2 W2 σ2 s2 → All2 (VR W2) vs cs → cm vs σ2 = true → Q' cs s2) → wpX (model prog w) A (spliced (backTo pos (starEach args env))) Q' E s :=
    fun Q' hq => evList_ok hev f' args en R h hq
  induction v using Mine.AV.casesOn with
  | top a =>
    obtain rfl := hv.inv
    refine callTop_gen G hev f en R hs h ?_ fin
    unfold calleeOk at hc
    dsimp only at hc
    split at hc
    · rename_i r hC
      exact (G.C a r hC).ke
    · split at hc
      · rename_i fr hf
        exact keepIn_fn (G.F.fn a fr hf)
      · exact ff hc
  | typ t =>
    obtain rfl := hv.inv
    induction args using List.casesOn with
    | nil => exact callWith_type0 (fin m W [] [] σ s W.le_refl R .nil h)
    | cons e r => exact callWith_type1 (main _ fin) (star_no (args_fst hs).1) (noStars_any (args_fst hs).2).1
  | blt i =>
    obtain rfl := hv.inv
    induction args using List.casesOn with
    | nil => exact ff hc
    | cons e r => exact callWith_builtin1 (main _ fin) (star_no (args_fst hs).1) (noStars_any (args_fst hs).2).1
  | _ => exact ff hc
end
section
variable {S : SE} (G : EnvOK w os0 K S) {ev : EvT} (hev : EvOK prog w K p loose mean mg mb os0 n ev) (f : Fc K p loose mean mg mb (n + 1) A base h₀ L) (en : EnvR W L ae env)
  {args : List Expr} {pos : Pos} {Q : Value → Shared → Prop} (R : Rel os0 h₀ L m W σ s) (hs : noStars args = true)
include G hev f en R hs
theorem evCallA_gen {o : Expr} {name : Str} {apos : Pos} (hok : okArgs o args apos pos = true) {cm : Mth → AV → List AV → St → Bool} (h : ev ae o σ (fun v σ1 => onO (methA S σ1 v name) fun mt => evList ev ae args σ1 (cm mt v)) = true)
    (fin : ∀ m2 W2 mt v c vs cs σ2 s2, W.le W2 → Rel os0 h₀ L m2 W2 σ2 s2 → VR W2 v c → All2 (VR W2) vs cs → cm mt v vs σ2 = true → wpX (model prog w) A (call (mthV mt) ([c] ++ cs)) Q E s2) : wpX (model prog w) A (eval ((o.Attribute name apos).Call args [] pos) env) Q E s := by
  have f' := f.less (Nat.le_succ n)
  obtain ⟨_, hc⟩ := an hok
  obtain ⟨c1, c2⟩ := an hc
  obtain ⟨c2, c3⟩ := an c2
  refine methodCall_KW (pl := (do return (← importBound o env).getD true)) ?_ (mcall_eq (pl := fun _ => (do return (← importBound o env).getD true)) c1 (noStars_any hs).2 (Nat.le_of_ble_eq_true c2) (Nat.eq_of_beq_eq_true c3) rfl)
  refine hev A base h₀ L env ae m W s E f' en o σ _ _ R h fun m1 W1 v c σ1 s1 l1 R1 v1 h1 => ?_
  obtain ⟨mt, hm, h1⟩ := onO_is (show onO (methA S σ1 v name) _ = true from h1)
  refine xof (methA_ok G R1 (f.now R1.fr) v1 hm ?_)
  exact callAt_gen G hev f (en.mono l1) R1 hs h1 (fun a e => by subst e; exact methA_fn hm) fun m2 W2 vs cs σ2 s2 l2 R2 v2 h2 => fin _ _ _ _ _ _ _ _ _ (W.le_trans l1 l2) R2 (v1.mono l2) v2 h2
theorem evCallN_gen {x : Str} {xp : Pos} {cm : AV → List AV → St → Bool} (h : evName S ae x σ (fun v σ1 => match calleeOk S v args with | true => evList ev ae args σ1 (cm v) | false => false) = true)
    (fin : ∀ m2 W2 v c vs cs σ2 s2, W.le W2 → Rel os0 h₀ L m2 W2 σ2 s2 → VR W2 v c → All2 (VR W2) vs cs → cm v vs σ2 = true → wpX (model prog w) A (call c cs) Q E s2) : wpX (model prog w) A (eval ((Expr.Name x xp).Call args [] pos) env) Q E s := by
  have f' := f.less (Nat.le_succ n)
  show wpX _ _ (eval (.Name x xp) env >>= fun fv => callWith pos fv [] (backTo pos (starEach args env)) []) _ _ _
  refine xbind ?_
  refine xof <| evName_ok G.G f' en R h fun m1 W1 v c σ1 s1 l1 R1 v1 h1 => ?_
  obtain ⟨hce, h1⟩ := mt (show (match calleeOk S v args with | true => _ | false => false) = true from h1)
  exact callName_gen G hev f (en.mono l1) R1 hs h1 v1 hce fun m2 W2 vs cs σ2 s2 l2 R2 v2 h2 => fin _ _ _ _ _ _ _ _ (W.le_trans l1 l2) R2 (v1.mono l2) v2 h2
end
theorem evCallA_ok {S : SE} (G : EnvOK w os0 K S) {lv : Nat} (hlv : lv ≤ n) {ev : EvT} {ex : ExT} (hev : EvOK prog w K p loose mean mg mb os0 n ev) (hex : ExOK prog w K p loose mean mg mb os0 n ex) (f : Fc K p loose mean mg mb (n + 1) A base h₀ L) (en : EnvR W L ae env)
    {o : Expr} {name : Str} {apos : Pos} {args : List Expr} {pos : Pos} {k : AV → St → Bool} {Q : Value → Shared → Prop} (R : Rel os0 h₀ L m W σ s) (h : evCallA S ev ex ae (okArgs o args apos pos) o name args σ k = true)
    (hQ : ∀ m' W' v c σ' s', W.le W' → Rel os0 h₀ L m' W' σ' s' → VR W' v c → k v σ' = true → Q c s') : wpX (model prog w) A (eval ((o.Attribute name apos).Call args [] pos) env) Q E s := by
  obtain ⟨hok, h⟩ := mf h
  obtain ⟨hs, _⟩ := an hok
  exact evCallA_gen (cm := fun mt v vs σ2 => callM S ex mt v vs σ2 k) G hev f en R hs hok h fun m2 W2 mt v c vs cs σ2 s2 l2 R2 hv v2 h2 => callM_ok G hex f R2 hv v2 h2 fun W' v c σ' s' l3 => hQ _ _ _ _ _ _ (W.le_trans l2 l3)
theorem evCallN_ok {S : SE} (G : EnvOK w os0 K S) {lv : Nat} (hlv : lv ≤ n) {ev : EvT} {ex : ExT} (hev : EvOK prog w K p loose mean mg mb os0 n ev) (hex : ExOK prog w K p loose mean mg mb os0 n ex) (f : Fc K p loose mean mg mb (n + 1) A base h₀ L) (en : EnvR W L ae env)
    {x : Str} {xp : Pos} {args : List Expr} {pos : Pos} {k : AV → St → Bool} {Q : Value → Shared → Prop} (R : Rel os0 h₀ L m W σ s) (h : evCallN S lv ev ex ae (noStars args) x args σ k = true)
    (hQ : ∀ m' W' v c σ' s', W.le W' → Rel os0 h₀ L m' W' σ' s' → VR W' v c → k v σ' = true → Q c s') : wpX (model prog w) A (eval ((Expr.Name x xp).Call args [] pos) env) Q E s := by
  obtain ⟨hs, h⟩ := mf h
  exact evCallN_gen (cm := fun v vs σ2 => callV S lv ex v vs σ2 k) G hev f en R hs h fun m2 W2 v c vs cs σ2 s2 l2 R2 hv v2 h2 => callV_ok G hlv hex f R2 hv v2 h2 fun W' v c σ' s' l3 => hQ _ _ _ _ _ _ (W.le_trans l2 l3)
end
end Mine

namespace Mine
open PySem PySem.W PySem.Calls PyProof.Rows PySem.SeqAt
set_option maxRecDepth 100000

/-! ## operators -/
noncomputable def binLL (σ : St) (op : Operator) (i j : Nat) (k : AV → St → Bool) : Bool := match op with
  | .Add => onO (σ.hp.get i) fun o => onO (σ.hp.get j) fun u => match o with
    | .lst xs => onO (lstOf u) fun ys => match Nat.ble (xs.length + ys.length) 10000 with
      | true => allocA σ (.lst (xs ++ ys)) k
      | false => false
    | .tup xs => onO (tupOf u) fun ys => match Nat.ble (xs.length + ys.length) 10000 && (!xs.isEmpty && !ys.isEmpty) with
      | true => allocA σ (.tup (xs ++ ys)) k
      | false => false
    | _ => false
  | _ => false
noncomputable def binLI (σ : St) (op : Operator) (i : Nat) (e : IE) (k : AV → St → Bool) : Bool := match op with
  | .Mult => onO ((σ.hp.get i).bind lstOf) fun xs => onO (e.known σ.vi) fun n => match Nat.ble xs.length 100 && (decide (-100 ≤ n) && decide (n ≤ 1000)) with
    | true => allocA σ (.lst (List.replicate n.toNat xs).flatten) k
    | false => false
  | _ => false
noncomputable def binBB (σ : St) (op : Operator) (x y : List UInt8) (k : AV → St → Bool) : Bool := match op with
  | .Add => match Nat.ble (x.length + y.length) 1000000 with
    | true => k (.byts (x ++ y)) σ
    | false => false
  | _ => false
noncomputable def binA (σ : St) (op : Operator) (a b : AV) (k : AV → St → Bool) : Bool := match a with
  | .int x => match b with
    | .int y => binI σ op x y fun e σ' => k (.int e) σ'
    | _ => false
  | .loc i => match b with
    | .loc j => binLL σ op i j k
    | .int e => binLI σ op i e k
    | _ => false
  | .byts x => match b with
    | .byts y => binBB σ op x y k
    | _ => false
  | _ => false
noncomputable def opV (op : Operator) (n m : Int) : Option AV := match op with
  | .FloorDiv => match decide (0 < m) && small m with
    | true => some (.int (IE.lit (Int.fdiv n m)))
    | false => none
  | .Mod => match decide (0 < m) with
    | true => some (.int (IE.lit (Int.fmod n m)))
    | false => none
  | .BitAnd => some (.int (IE.lit (Builtin.bitAnd n m)))
  | _ => none
noncomputable def binF (σ : St) (op : Operator) (a b : AV) (k : AV → St → Bool) : Bool := forceA σ a fun a' σ3 => forceA σ3 b fun b' σ4 => binA σ4 op a' b' k
noncomputable def binK (σ : St) (op : Operator) (a b : AV) (k : AV → St → Bool) : Bool := onPI a b (opV op) (fun v => k v σ) fun _ => binF σ op a b k
noncomputable def iopA (σ : St) (op : Operator) (a b : AV) (k : AV → St → Bool) : Bool := match op with
  | .Add => int2 a b (fun x y => k (.int (x.add y)) σ) fun _ => false
  | .Sub => int2 a b (fun x y => k (.int (x.sub y)) σ) fun _ => false
  | _ => false
noncomputable def unA (σ : St) (op : UnaryOp) (a : AV) (k : AV → St → Bool) : Bool := match op with
  | .USub => onInt a fun x => k (.int (x.mulK (-1))) σ
  | .Not => truthA σ a fun r σ' => k (.bool (!r)) σ'
  | _ => false

/-! ## stores -/
noncomputable def stoL (ae : AE) (x : Str) (v : AV) (σ : St) (k : St → Bool) : Bool := match ae.own with
  | none => k { σ with lc := sto x v σ.lc }
  | some c => onO ((σ.hp.get c).bind envOf) fun fs => updA σ c (.env (sto x v fs)) k
noncomputable def stoC (ae : AE) (x : Str) (v : AV) (σ : St) (k : St → Bool) : Bool := onO (lk x ae.cl) fun c => onO ((σ.hp.get c).bind celOf) fun _ => updA σ c (.cell (some v)) k
noncomputable def stoA (ae : AE) (x : Str) (v : AV) (σ : St) (k : St → Bool) : Bool := onO (lk x ae.sc.names) fun t => match t with
  | .local => stoL ae x v σ k
  | .cell => stoC ae x v σ k
  | _ => false
noncomputable def setL : List AV → Nat → AV → List AV
  | [], _, _ => []
  | x :: r, i, v => match i with
    | 0 => v :: r
    | j + 1 => x :: setL r j v
theorem setL_is : ∀ {l : List AV} {i : Nat} {v : AV}, setL l i v = l.set i v
  | [], _, _ => rfl
  | _ :: _, 0, _ => rfl
  | x :: r, i + 1, v => congrArg (x :: ·) (setL_is (l := r) (i := i))
noncomputable def modL (es : List (KD × AV × AV)) (i : Nat) (v : AV) : List (KD × AV × AV) := match es with
  | [] => []
  | f :: r => match i with
    | 0 => (f.1, f.2.1, v) :: r
    | j + 1 => f :: modL r j v
/-- d[i] = v -/
noncomputable def putK (σ : St) (l : Nat) (i v : AV) (k : St → Bool) (es : List (KD × AV × AV)) (n : Nat) (kd : KD) (r : Option Nat) : Bool := match r with
  | some j => updA σ l (.dct (modL es j v) n) k
  | none => updA σ l (.dct (es ++ [(kd, i, v)]) (n + 1)) k
noncomputable def putA (σ : St) (l : Nat) (i v : AV) (k : St → Bool) : Bool := onO (askA σ l i) fun q => match Nat.ble q.1.length 1000 with
  | true => putK σ l i v k q.1 q.2.1 q.2.2.1 q.2.2.2
  | false => false
/-- o[i] = v -/
noncomputable def setLA (σ : St) (l : Nat) (vs : List AV) (e : IE) (v : AV) (k : St → Bool) : Bool := onO (e.known σ.vi) fun n => match decide (0 ≤ n) && (decide (n < 1000000) && decide (n < (vs.length : Nat))) with
  | true => updA σ l (.lst (setL vs n.toNat v)) k
  | false => false
noncomputable def setItL (σ : St) (l : Nat) (i v : AV) (e : IE) (k : St → Bool) : Bool := match (σ.hp.get l).bind lstOf with
  | some vs => setLA σ l vs e v k
  | none => putA σ l i v k
noncomputable def setItA (σ : St) (o i v : AV) (k : St → Bool) : Bool := match o with
  | .loc l => match i with
    | .int e => setItL σ l i v e k
    | _ => putA σ l i v k
  | _ => false
/-- names that take the things of a tuple -/
noncomputable def asgN (ae : AE) : List Expr → List AV → St → (St → Bool) → Bool
  | [], vs, σ, k => match vs with
    | [] => k σ
    | _ => false
  | t :: ts, vs, σ, k => match vs with
    | [] => false
    | v :: r => match t with
      | .Name x _ => stoA ae x v σ fun σ' => asgN ae ts r σ' k
      | _ => false
noncomputable def allNames : List Expr → Bool
  | [] => true
  | t :: r => match t with
    | .Name .. => allNames r
    | _ => false
noncomputable def asgA (ae : AE) (t : Expr) (v : AV) (σ : St) (k : St → Bool) : Bool := match t with
  | .Name x _ => stoA ae x v σ k
  | .Tuple elts _ _ => match v with
    | .loc l => onO ((σ.hp.get l).bind tupOf) fun vs => match Nat.beq vs.length elts.length with
      | true => match allNames elts with
        | true => asgN ae elts vs σ k
        | false => false
      | false => false
    | _ => false
  | _ => false

section
variable {prog : Program} {w : World} {A : Around} {E : Value → Shared → Prop} {os0 : (Array Nat → Int) × OsState} {h₀ : Gd} {L : Addr} {m : Str → Option Value} {W : Wd} {σ : St} {s : Shared} {env : Env} {ae : AE}

theorem rep_all {vs : List AV} {cs : List Value} (h : All2 (VR W) vs cs) : ∀ n, All2 (VR W) (List.replicate n vs).flatten (List.replicate n cs).flatten
  | 0 => .nil
  | n + 1 => by
    rw [List.replicate_succ, List.replicate_succ, List.flatten_cons, List.flatten_cons]
    exact h.append (rep_all h n)
theorem ne_nil_of {α β : Type} {S : α → β → Prop} {xs : List α} {ys : List β} (h : All2 S xs ys) (hn : (!xs.isEmpty) = true) : ys ≠ [] := by
  intro e
  subst e
  induction xs using List.casesOn with
  | nil => exact ff hn
  | cons _ _ => exact absurd h.length (Nat.succ_ne_zero _)
theorem Rel.laid (R : Rel os0 h₀ L m W σ s) {o : AO} {c : Obj} {k : AV → St → Bool} {h' : Heap} {a : Addr} {news : List (Addr × Obj)} (C : Cov W σ news) (h : Mine.allocA σ o k = true) (F : Gr h₀ L h' m) (N : News h₀.g L h' ((a, c) :: news)) (hl : ∀ p ∈ news, p.1 ≠ a) (ho : ∀ W', W.le W' → OR W' o c) :
    Rel os0 h₀ L m (W.grow a) (σ.alloc o) { s with heap := h' } ∧ VR (W.grow a) (.loc σ.nl) (.ref a) ∧ k (.loc σ.nl) (σ.alloc o) = true := by
  obtain ⟨hn, h⟩ := mt h
  exact ⟨(R.join (s' := { s with heap := h' }) (m' := m) (Nat.lt_of_le_of_lt (Nat.le_of_ble_eq_true hn) (by decide)) C F N hl (ho _ (W.le_grow _)) (fun x v e => let ⟨c, a, b⟩ := R.lcs x v e; ⟨c, a, b.mono (W.le_grow _)⟩) rfl rfl).1, .loc (R.here _), h⟩
section
variable {Q : Value → Shared → Prop} {k : AV → St → Bool} {ca cb : Value} (R : Rel os0 h₀ L m W σ s) (hQ : ∀ W' v c σ' s', W.le W' → Rel os0 h₀ L m W' σ' s' → VR W' v c → k v σ' = true → Q c s')
include R hQ
theorem add_lsts {i j : Nat} {a b : Addr} {xs ys : List AV} (ha : W.ρ[i]? = some a) (hb : W.ρ[j]? = some b) (hi : σ.hp.get i = some (.lst xs)) (hj : σ.hp.get j = some (.lst ys)) (hl : xs.length + ys.length ≤ 10000) (h : allocA σ (.lst (xs ++ ys)) k = true) :
    wpAny (model prog w) A (binaryOp .Add (.ref a) (.ref b)) Q E s := by
  refine Classical.byContradiction fun hgo => ?_
  obtain ⟨ci, k1, k2⟩ := R.ref hi ha
  obtain ⟨cj, k3, k4⟩ := R.ref hj hb
  obtain ⟨news, N, C, I, D⟩ := R.toNews
  obtain ⟨cx, hx, tx⟩ := lst_at k1 k2
  obtain ⟨cy, hy, ty⟩ := lst_at k3 k4
  refine hgo ?_
  obtain ⟨gt, T, F⟩ := R.fr
  refine add_arrays F (newsTurn T N) tx ty (fun h' F' N' => ?_) (by rw [sizeLine_eq, List.size_toArray, List.size_toArray, ← hx.length, ← hy.length]; exact Nat.le_trans hl (by decide))
  obtain ⟨R', v', hk⟩ := R.laid C h (Gr.mk T F') (newsBack T N') (fun p hp => Nat.ne_of_lt (Heap.lt_size (N p hp).1)) fun W' lw => .lst ((hx.append hy).imp fun _ _ q => q.mono lw)
  exact hQ _ _ _ _ _ (W.le_grow _) R' v' hk
theorem add_tups (hh : A.handled = none) {i j : Nat} {a b : Addr} {xs ys : List AV} (ha : W.ρ[i]? = some a) (hb : W.ρ[j]? = some b) (hi : σ.hp.get i = some (.tup xs)) (hj : σ.hp.get j = some (.tup ys)) (hl : xs.length + ys.length ≤ 10000) (n1 : (!xs.isEmpty) = true) (n2 : (!ys.isEmpty) = true) (h : allocA σ (.tup (xs ++ ys)) k = true) :
    wpAny (model prog w) A (binaryOp .Add (.ref a) (.ref b)) Q E s := by
  refine Classical.byContradiction fun hgo => ?_
  obtain ⟨ci, k1, k2⟩ := R.ref hi ha
  obtain ⟨cj, k3, k4⟩ := R.ref hj hb
  obtain ⟨news, N, C, I, D⟩ := R.toNews
  obtain ⟨cx, hx, tx⟩ := tup_at k1 k2
  obtain ⟨cy, hy, ty⟩ := tup_at k3 k4
  refine hgo ?_
  obtain ⟨gt, T, F⟩ := R.fr
  refine kde_addT F (newsTurn T N) tx ty (ne_nil_of hx n1) (ne_nil_of hy n2) (by rw [← hx.length, ← hy.length]; exact Nat.le_trans hl (by decide)) rfl fun D' h' F' N' lt => ?_
  obtain ⟨R', v', hk⟩ := R.laid C h (Gr.mk T F') (newsBack T N') (fun p hp => Nat.ne_of_lt (lt p hp)) fun W' lw => .tup ((hx.append hy).imp fun _ _ q => q.mono lw)
  exact hQ _ _ _ _ _ (W.le_grow _) R' v' hk
theorem mul_lst {i : Nat} {a : Addr} {x : Int} {u : Tok} {xs : List AV} (ha : W.ρ[i]? = some a) (hi : σ.hp.get i = some (.lst xs)) (b1 : xs.length ≤ 100) (b2 : -100 ≤ x) (b3 : x ≤ 1000) (h : allocA σ (.lst (List.replicate x.toNat xs).flatten) k = true) :
    wpAny (model prog w) A (binaryOp .Mult (.ref a) (.int x u)) Q E s := by
  refine Classical.byContradiction fun hgo => ?_
  obtain ⟨ci, k1, k2⟩ := R.ref hi ha
  obtain ⟨news, N, C, I, D⟩ := R.toNews
  obtain ⟨_, _, rfl, hx⟩ := k1.inv
  refine hgo ?_
  have hl := hx.length
  obtain ⟨gt, T, F⟩ := R.fr
  refine mul_list F (newsTurn T N) k2 (by omega) (by omega) ?_ fun h' F' N' => ?_
  · rw [List.size_toArray, ← hl]
    exact Nat.le_trans (Nat.mul_le_mul b1 (Int.toNat_le.mpr b3)) (by decide)
  · rw [listMul_foldl_if] at N'
    obtain ⟨R', v', hk⟩ := R.laid C h (Gr.mk T F') (newsBack T N') (fun p hp => Nat.ne_of_lt (Heap.lt_size (N p hp).1)) fun W' lw => .lst ((rep_all hx x.toNat).imp fun _ _ q => q.mono lw)
    exact hQ _ _ _ _ _ (W.le_grow _) R' v' hk
end
theorem binLL_ok (hh : A.handled = none) (R : Rel os0 h₀ L m W σ s) {op : Operator} {i j : Nat} {x y : Addr} {k : AV → St → Bool} {Q : Value → Shared → Prop} (ea : W.ρ[i]? = some x) (eb : W.ρ[j]? = some y) (h : binLL σ op i j k = true)
    (hQ : ∀ W' v c σ' s', W.le W' → Rel os0 h₀ L m W' σ' s' → VR W' v c → k v σ' = true → Q c s') : wpAny (model prog w) A (binaryOp op (.ref x) (.ref y)) Q E s := by
  induction op using PySem.Operator.casesOn with
  | Add =>
    obtain ⟨o, h1, h⟩ := onO_is (show onO (σ.hp.get i) _ = true from h)
    obtain ⟨u, h2, h⟩ := onO_is h
    induction o using Mine.AO.casesOn with
    | lst xs =>
      obtain ⟨ys, hy, h⟩ := onO_is (show onO (lstOf u) _ = true from h)
      obtain rfl := lstOf_is hy
      obtain ⟨hb, h⟩ := mt h
      exact add_lsts R hQ ea eb h1 h2 (Nat.le_of_ble_eq_true hb) h
    | tup xs =>
      obtain ⟨ys, hy, h⟩ := onO_is (show onO (tupOf u) _ = true from h)
      obtain rfl := tupOf_is hy
      obtain ⟨hb, h⟩ := mt h
      obtain ⟨hb, hne⟩ := an hb
      obtain ⟨n1, n2⟩ := an hne
      exact add_tups R hQ hh ea eb h1 h2 (Nat.le_of_ble_eq_true hb) n1 n2 h
    | _ => exact ff h
  | _ => exact ff h
theorem binLI_ok (R : Rel os0 h₀ L m W σ s) {op : Operator} {i : Nat} {e : IE} {x : Addr} {y : Int} {u : Tok} {k : AV → St → Bool} {Q : Value → Shared → Prop} (ea : W.ρ[i]? = some x) (eb : e.ev W.ι = some y) (h : binLI σ op i e k = true)
    (hQ : ∀ W' v c σ' s', W.le W' → Rel os0 h₀ L m W' σ' s' → VR W' v c → k v σ' = true → Q c s') : wpAny (model prog w) A (binaryOp op (.ref x) (.int y u)) Q E s := by
  induction op using PySem.Operator.casesOn with
  | Mult =>
    obtain ⟨xs, h1, h⟩ := onO_is (show onO ((σ.hp.get i).bind lstOf) _ = true from h)
    obtain ⟨n, hk, h⟩ := onO_is h
    obtain rfl := IE.known_is R.vars hk eb
    obtain ⟨hb, h⟩ := mt h
    obtain ⟨b1, b2⟩ := an hb
    obtain ⟨b2, b3⟩ := an b2
    exact mul_lst R hQ ea (at_is lstOf_is h1) (Nat.le_of_ble_eq_true b1) (of_decide_eq_true b2) (of_decide_eq_true b3) h
  | _ => exact ff h
theorem binBB_ok (R : Rel os0 h₀ L m W σ s) {op : Operator} {x y : List UInt8} {t u : Tok} {k : AV → St → Bool} {Q : Value → Shared → Prop} (h : binBB σ op x y k = true)
    (hQ : ∀ W' v c σ' s', W.le W' → Rel os0 h₀ L m W' σ' s' → VR W' v c → k v σ' = true → Q c s') : wpAny (model prog w) A (binaryOp op (.bytes x.toArray t) (.bytes y.toArray u)) Q E s := by
  induction op using PySem.Operator.casesOn with
  | Add =>
    obtain ⟨hb, h⟩ := mt h
    refine KBy.add_bytes (by rw [List.size_toArray, List.size_toArray]; exact Nat.le_trans (Nat.le_of_ble_eq_true hb) (by decide)) fun t' kk => ?_
    exact hQ _ _ _ _ _ W.le_refl (R.toks _) (.byts _ (by simp)) h
  | _ => exact ff h
theorem binA_ok (hh : A.handled = none) (R : Rel os0 h₀ L m W σ s) {op : Operator} {a b : AV} {ca cb : Value} {k : AV → St → Bool} {Q : Value → Shared → Prop} (ha : VR W a ca) (hb : VR W b cb) (h : binA σ op a b k = true)
    (hQ : ∀ W' v c σ' s', W.le W' → Rel os0 h₀ L m W' σ' s' → VR W' v c → k v σ' = true → Q c s') : wpAny (model prog w) A (binaryOp op ca cb) Q E s := by
  induction a using Mine.AV.casesOn with
  | int x =>
    apply ha.onInt; intro _ t ea
    induction b using Mine.AV.casesOn with
    | int y =>
      apply hb.onInt; intro _ u eb
      exact binI_ok R ea eb (show binI σ op x y (fun e σ' => k (.int e) σ') = true from h) fun W' e' σ' s' z tk l1 R' e1 hk => hQ _ _ _ _ _ l1 R' (.int _ e1) hk
    | _ => exact ff h
  | loc i =>
    apply ha.onLoc; intro _ ea
    induction b using Mine.AV.casesOn with
    | loc j => apply hb.onLoc; intro _ eb; exact binLL_ok hh R ea eb h hQ
    | int e => apply hb.onInt; intro _ _ eb; exact binLI_ok R ea eb h hQ
    | _ => exact ff h
  | byts x =>
    apply ha.onByts; intro _
    induction b using Mine.AV.casesOn with
    | byts y => apply hb.onByts; intro _; exact binBB_ok R h hQ
    | _ => exact ff h
  | _ => exact ff h

theorem binK_ok (hh : A.handled = none) (R : Rel os0 h₀ L m W σ s) {op : Operator} {a b : AV} {ca cb : Value} {k : AV → St → Bool} {Q : Value → Shared → Prop} (ha : VR W a ca) (hb : VR W b cb) (h : binK σ op a b k = true)
    (hQ : ∀ W' v c σ' s', W.le W' → Rel os0 h₀ L m W' σ' s' → VR W' v c → k v σ' = true → Q c s') : wpAny (model prog w) A (binaryOp op ca cb) Q E s := by
  have other : binF σ op a b k = true → wpAny (model prog w) A (binaryOp op ca cb) Q E s := fun h => by
    obtain ⟨a', σ1, R1, ha', h1⟩ := forceA_ok R ha h
    obtain ⟨b', σ2, R2, hb', h2⟩ := forceA_ok R1 hb h1
    exact binA_ok hh R2 ha' hb' h2 hQ
  rcases onPI_is ha hb (show onPI a b (opV op) (fun v => k v σ) (fun _ => binF σ op a b k) = true from h) with h | ⟨n, m, t, u, w, x, ws, rfl, rfl, hw, hp, hk⟩
  · exact other h
  · have fin : ∀ {r : Int}, w = .int (IE.lit r) → Q (.int r s.toks) { s with toks := s.toks + 1 } := fun e => hQ _ _ _ _ _ W.le_refl (R.toks _) (hp _ (e ▸ .int _ (IE.ev_lit _ _))) hk
    induction op using PySem.Operator.casesOn with
    | FloorDiv =>
      replace hw : (match decide (0 < m) && small m with
        | true => some (AV.int (IE.lit (Int.fdiv n m)))
        | false => none) = some w := hw
      cases q : decide (0 < m) && small m with
      | false => rw [q] at hw; exact no_some hw
      | true =>
        rw [q] at hw
        obtain ⟨q1, q2⟩ := an q
        have q1 := of_decide_eq_true q1
        exact floordiv_int (by omega) (fin (Option.some.inj hw).symm) (.inl (no_pylong q2))
    | Mod =>
      replace hw : (match decide (0 < m) with
        | true => some (AV.int (IE.lit (Int.fmod n m)))
        | false => none) = some w := hw
      cases q : decide (0 < m) with
      | false => rw [q] at hw; exact no_some hw
      | true =>
        rw [q] at hw
        have q1 := of_decide_eq_true q
        exact mod_int' (by omega) (fin (Option.some.inj hw).symm)
    | BitAnd => exact and_int (fin (Option.some.inj hw).symm)
    | _ => exact no_some hw
theorem iopA_ok (R : Rel os0 h₀ L m W σ s) {op : Operator} {a b : AV} {ca cb : Value} {k : AV → St → Bool} {Q : Value → Shared → Prop} (ha : VR W a ca) (hb : VR W b cb) (h : iopA σ op a b k = true)
    (hQ : ∀ v c s', Rel os0 h₀ L m W σ s' → VR W v c → k v σ = true → Q c s') : wpAny (model prog w) A (inplaceOp op ca cb) Q E s := by
  induction op using PySem.Operator.casesOn with
  | Add =>
    rcases int2_is (show int2 a b (fun x y => k (.int (x.add y)) σ) (fun _ => false) = true from h) with ⟨x, y, rfl, rfl, h⟩ | h
    · apply ha.onInt; intro _ t ea
      apply hb.onInt; intro _ u eb
      exact AutoIntOps.iadd_0 (hQ _ _ _ (R.toks _) (.int _ (IE.ev_add ea eb)) h)
    · exact ff h
  | Sub =>
    rcases int2_is (show int2 a b (fun x y => k (.int (x.sub y)) σ) (fun _ => false) = true from h) with ⟨x, y, rfl, rfl, h⟩ | h
    · apply ha.onInt; intro _ t ea
      apply hb.onInt; intro _ u eb
      exact AutoIntOps.isub_0 (hQ _ _ _ (R.toks _) (.int _ (IE.ev_sub ea eb)) h)
    · exact ff h
  | _ => exact ff h

theorem unA_ok (R : Rel os0 h₀ L m W σ s) {op : UnaryOp} {a : AV} {ca : Value} {k : AV → St → Bool} {Q : Value → Shared → Prop} (ha : VR W a ca) (h : unA σ op a k = true)
    (hQ : ∀ v c σ' s', Rel os0 h₀ L m W σ' s' → VR W v c → k v σ' = true → Q c s') : wpAny (model prog w) A (unaryOp op ca) Q E s := by
  induction op using PySem.UnaryOp.casesOn with
  | USub =>
    obtain ⟨e, rfl, h'⟩ := onInt_is (show onInt a _ = true from h)
    apply ha.onInt; intro x t ea
    exact neg_int (hQ _ _ _ _ (R.toks _) (.int _ (by rw [IE.ev_mulK ea, Int.neg_one_mul])) h')
  | Not => exact not_of (truthA_ok R ha h fun r σ' s' R' hk => hQ _ _ _ _ R' (.bool _) hk)
  | _ => exact ff h

theorem Rel.setLc (R : Rel os0 h₀ L m W σ s) {h' : Heap} {x : Str} {v : AV} {c : Value} (hv : VR W v c) (hn : h'.Ns L fun y => if y = x then some c else m y) (hs : Heap.SameBut L s.heap h') (t : Nat) :
    Rel os0 h₀ L (fun y => if y = x then some c else m y) W { σ with lc := sto x v σ.lc } { s with heap := h', toks := t } := by
  obtain ⟨news, N, C, I, D⟩ := R.toNews
  refine R.anew (σ' := { σ with lc := sto x v σ.lc }) (R.fr.set hn hs) (N.set hs) C (fun y u e => ?_) rfl rfl rfl rfl rfl R.scr
  rw [lk_sto] at e
  by_cases q : y = x
  · rw [if_pos q] at e
    obtain rfl := Option.some.inj e
    exact ⟨c, by rw [if_pos q], hv⟩
  · rw [if_neg q] at e
    obtain ⟨c', h1, h2⟩ := R.lcs y u e
    exact ⟨c', by rw [if_neg q]; exact h1, h2⟩

theorem envOR {fs : List (Str × AV)} {es : Array DictEntry} {ep : Nat} {m' : Str → Option Value} {x : Str} {v : AV} {c : Value} {o : Obj} (hv : VR W v c) (h : ∀ y u, lk y fs = some u → ∃ c, m' y = some c ∧ VR W u c) (y1 : o.data = .dict es ep) (y2 : StrKeys es)
    (y3 : ∀ y, nsFind es y = if y = x then some c else m' y) : OR W (.env (sto x v fs)) o := .env y1 y2 y3 fun y u e => by
  rw [lk_sto] at e
  by_cases q : y = x
  · rw [if_pos q] at e ⊢
    rw [← Option.some.inj e]
    exact ⟨c, rfl, hv⟩
  · rw [if_neg q] at e ⊢
    exact h y u e
theorem stoL_ok (en : EnvR W L ae env) (R : Rel os0 h₀ L m W σ s) {x : Str} {v : AV} {c : Value} {k : St → Bool} {Q : Unit → Shared → Prop} (hv : VR W v c) (hk : env.kindOf x = some .local) (h : stoL ae x v σ k = true)
    (hQ : ∀ m' σ' s', Rel os0 h₀ L m' W σ' s' → k σ' = true → Q () s') : wpAny (model prog w) A (storeName env x c) Q E s := by
  have hp : (env.scope.kind == .class || (env.scope.kind == .module && env.locals != env.globals)) = false := by rw [en.sc, en.kd]; rfl
  have own := en.own
  unfold stoL at h
  split at h
  · rename_i ho
    rw [ho] at own
    refine wpAny_storeName_local hk (by rw [own]; exact R.fr.ns) (fun h' hn hs => ?_) hp
    rw [own] at hn hs
    exact hQ _ _ _ (R.setLc hv hn hs _) h
  · rename_i cl ho
    rw [ho] at own
    obtain ⟨fs, h1, h⟩ := onO_is h
    have h1 := at_is envOf_is h1
    obtain ⟨o, k1, k2⟩ := R.ref h1 own
    obtain ⟨_, _, _, e1, e2, e3, e4⟩ := k1.inv
    refine wpAny_storeName_local hk ⟨_, _, _, k2, e1, e2, e3⟩ (fun h' hn hs => ?_) hp
    obtain ⟨o', es', ep', y1, y2, y3, y4⟩ := hn
    obtain ⟨R', hk'⟩ := updA_ok (s' := { s with heap := h', toks := s.toks + 1 }) R h1 own hs (envOR hv e4 y2 y3 y4) y1 rfl rfl h
    exact hQ _ _ _ R' hk'
theorem stoC_ok (en : EnvR W L ae env) (R : Rel os0 h₀ L m W σ s) {x : Str} {v : AV} {c : Value} {k : St → Bool} {Q : Unit → Shared → Prop} (hv : VR W v c) (hk : env.kindOf x = some .cell) (h : stoC ae x v σ k = true)
    (hQ : ∀ m' σ' s', Rel os0 h₀ L m' W σ' s' → k σ' = true → Q () s') : wpAny (model prog w) A (storeName env x c) Q E s := by
  refine Classical.byContradiction fun hgo => ?_
  obtain ⟨l, hc, h⟩ := onO_is h
  obtain ⟨v₀, h1, h⟩ := onO_is h
  have h1 := at_is celOf_is h1
  obtain ⟨b, z1, z2⟩ := en.cl x l hc
  obtain ⟨o, k1, k2⟩ := R.ref h1 z1
  refine hgo ?_
  have key : ∀ u, o.data = .cell u → wpAny (model prog w) A (storeName env x c) Q E s := by
    intro u e1
    refine wpAny_storeName_cell (by rw [en.sc]; exact en.kd) hk z2 ⟨_, k2, e1⟩ fun h' hc' hs => ?_
    obtain ⟨o', y1, y2⟩ := hc'
    obtain ⟨R', hk'⟩ := updA_ok (s' := { s with heap := h' }) R h1 z1 hs (.cell y2 hv) y1 rfl rfl h
    exact hQ _ _ _ R' hk'
  induction v₀ using Option.casesOn with
  | some u => obtain ⟨cv, e1, _⟩ := k1.inv; exact key _ e1
  | none => exact key _ k1.inv
theorem stoA_ok (en : EnvR W L ae env) (R : Rel os0 h₀ L m W σ s) {x : Str} {v : AV} {c : Value} {k : St → Bool} {Q : Unit → Shared → Prop} (hv : VR W v c) (h : stoA ae x v σ k = true)
    (hQ : ∀ m' σ' s', Rel os0 h₀ L m' W σ' s' → k σ' = true → Q () s') : wpAny (model prog w) A (storeName env x c) Q E s := by
  obtain ⟨t, e, h⟩ := onO_is h
  have hk : env.kindOf x = some t := by
    show env.scope.names.lookup x = _
    rw [en.sc, ← lk_eq]; exact e
  induction t using PySem.NameKind.casesOn with
  | «local» => exact stoL_ok en R hv hk h hQ
  | cell => exact stoC_ok en R hv hk h hQ
  | _ => exact ff h

theorem modL_keys : ∀ {es : List (KD × AV × AV)} {i : Nat} {v : AV}, (modL es i v).map (·.1) = es.map (·.1)
  | [], _, _ => rfl
  | _ :: _, 0, _ => rfl
  | f :: r, i + 1, v => by
    show f.1 :: (modL r i v).map (·.1) = _
    rw [modL_keys]; rfl
theorem modL_is {v : AV} {c : Value} (hv : VR W v c) : ∀ {es : List (KD × AV × AV)} {ds : List DictEntry} {i : Nat}, All2 (DR W) es ds → All2 (DR W) (modL es i v) (ds.modify i (DictEntry.new c))
  | _, _, _, .nil => by simp [modL, All2.nil]
  | _, _, 0, .cons h t => by
    rw [List.modify_zero_cons]
    exact .cons ⟨h.hash, h.key, hv, h.dep⟩ t
  | _, _, i + 1, .cons h t => by
    rw [List.modify_succ_cons]
    exact .cons h (modL_is hv t)
theorem nodup_put {es : List (KD × AV × AV)} {kd : KD} {i v : AV} (h : (es.map (·.1)).Nodup) (hk : kfind kd (es.map (·.1)) = none) : ((es ++ [(kd, i, v)]).map (·.1)).Nodup := by
  rw [List.map_append, List.nodup_append]
  refine ⟨h, List.nodup_cons.mpr ⟨List.not_mem_nil, .nil⟩, fun x hx y hy e => ?_⟩
  rw [List.map_cons, List.map_nil] at hy
  rw [e, List.mem_singleton.mp hy] at hx
  exact kfind_none hk hx
/-- what a dict is behind a store -/
theorem put_fin {l : Nat} {a : Addr} {i v : AV} {ci cv : Value} {es : List (KD × AV × AV)} {ds : List DictEntry} {n t : Nat} {kd : KD} {r : Option Nat} {h' : Heap} {k : St → Bool} {o' : Obj} (R : Rel os0 h₀ L m W σ s) (g1 : σ.hp.get l = some (.dct es n)) (ea : W.ρ[l]? = some a) (g2 : All2 (DR W) es ds) (g3 : (es.map (·.1)).Nodup) (g6 : kd.dep ≤ 8) (g7 : r = kfind kd (es.map (·.1)))
    (hi : VR W i ci) (hv : VR W v cv) (z1 : h'.get? a = some o') (z2 : Heap.SameBut a s.heap h') (ho : o' = putD ds n (khash W.hs kd) ci cv r)
    (h : putK σ l i v k es n kd r = true) : ∃ σ', Rel os0 h₀ L m W σ' { s with heap := h', toks := t } ∧ k σ' = true := by
  subst ho
  induction r using Option.casesOn with
  | some j =>
    obtain ⟨R', hk⟩ := updA_ok (s' := { s with heap := h', toks := t }) R g1 ea z2 (.dct (modL_is hv g2) (by rw [modL_keys]; exact g3)) z1 rfl rfl h
    exact ⟨_, R', hk⟩
  | none =>
    obtain ⟨R', hk⟩ := updA_ok (s' := { s with heap := h', toks := t }) R g1 ea z2 (.dct (g2.append (.cons ⟨rfl, hi, hv, g6⟩ .nil)) (nodup_put g3 g7.symm)) z1 rfl rfl h
    exact ⟨_, R', hk⟩
theorem putA_ok (hw : os0.1 = w.params.strHash) (hu : A.units + 40 < cLine) (R : Rel os0 h₀ L m W σ s) {l : Nat} {a : Addr} {i v : AV} {ci cv : Value} {k : St → Bool} {Q : Unit → Shared → Prop} (ea : W.ρ[l]? = some a) (hi : VR W i ci) (hv : VR W v cv) (h : putA σ l i v k = true)
    (hQ : ∀ σ' s', Rel os0 h₀ L m W σ' s' → k σ' = true → Q () s') : wpAny (model prog w) A (setItem (.ref a) ci cv) Q E s := by
  refine Classical.byContradiction fun hgo => ?_
  obtain ⟨⟨es, n, kd, r⟩, hk, h⟩ := onO_is h
  obtain ⟨hb, h⟩ := mt h
  obtain ⟨ds, g1, g2, g3, g4, g5, g6, g7, g8, g9⟩ := askA_ok (prog := prog) (A := A.in1) hw R (by show A.units + 1 + 8 < cLine; omega) ea hi hk
  refine hgo ?_
  refine raw_set g9 (by have := g2.length; have : es.length ≤ 1000 := Nat.le_of_ble_eq_true hb; omega) fun h' z1 z2 => ?_
  obtain ⟨σ', R', hk⟩ := put_fin (t := s.toks + kd.drw) R g1 ea g2 g3 g6 g7 hi hv z1 z2 (by rw [g8]) h
  exact hQ _ _ R' hk
theorem setLA_ok (R : Rel os0 h₀ L m W σ s) {l : Nat} {a : Addr} {vs : List AV} {e : IE} {x : Int} {t : Tok} {v : AV} {cv : Value} {k : St → Bool} {Q : Unit → Shared → Prop} (ea : W.ρ[l]? = some a) (h1 : σ.hp.get l = some (.lst vs)) (ev : e.ev W.ι = some x) (hv : VR W v cv) (h : setLA σ l vs e v k = true)
    (hQ : ∀ σ' s', Rel os0 h₀ L m W σ' s' → k σ' = true → Q () s') : wpAny (model prog w) A (setItem (.ref a) (.int x t) cv) Q E s := by
  refine Classical.byContradiction fun hgo => ?_
  obtain ⟨n, hk, h⟩ := onO_is h
  obtain rfl := IE.known_is R.vars hk ev
  obtain ⟨hd, h⟩ := mt h
  obtain ⟨d1, hd⟩ := an hd
  obtain ⟨d2, d3⟩ := an hd
  have d1 := of_decide_eq_true d1
  have d2 := of_decide_eq_true d2
  have d3 := of_decide_eq_true d3
  obtain ⟨ci, k1, k2⟩ := R.ref h1 ea
  obtain ⟨cs, nn, rfl, hx⟩ := k1.inv
  refine hgo ?_
  have hl := hx.length
  refine ki_setAt k2 d1 (by omega) (by rw [List.size_toArray]; omega) ?_
  have hg := Heap.get?_update_self (Obj.mapSeq (·.setIfInBounds x.toNat cv)) k2 (by rfl)
  have e : Obj.mapSeq (·.setIfInBounds x.toNat cv) (listOf cs.toArray nn) = { cls := .type "list", data := .seq (cs.set x.toNat cv).toArray nn } := by
    simp [Obj.mapSeq]
  obtain ⟨R', hk'⟩ := updA_ok (s' := { s with heap := s.heap.update _ (Obj.mapSeq (·.setIfInBounds x.toNat cv)) }) R h1 ea (Heap.SameBut.update ..) (o' := .lst (setL vs x.toNat v)) (c := Obj.mapSeq (·.setIfInBounds x.toNat cv) (listOf cs.toArray nn)) (by rw [setL_is, e]; exact .lst (hx.set _ hv)) hg rfl rfl h
  exact hQ _ _ R' hk'
theorem setItA_ok (hw : os0.1 = w.params.strHash) (hu : A.units + 40 < cLine) (R : Rel os0 h₀ L m W σ s) {o i v : AV} {co ci cv : Value} {k : St → Bool} {Q : Unit → Shared → Prop} (ho : VR W o co) (hi : VR W i ci) (hv : VR W v cv) (h : setItA σ o i v k = true)
    (hQ : ∀ σ' s', Rel os0 h₀ L m W σ' s' → k σ' = true → Q () s') : wpAny (model prog w) A (setItem co ci cv) Q E s := by
  induction o using Mine.AV.casesOn with
  | loc l =>
    apply ho.onLoc; intro _ ea
    induction i using Mine.AV.casesOn with
    | int e =>
      have h : setItL σ l (.int e) v e k = true := h
      unfold setItL at h
      split at h
      · rename_i vs h1
        apply hi.onInt; intro x t ev
        exact setLA_ok R ea (at_is lstOf_is h1) ev hv h hQ
      · exact putA_ok hw hu R ea hi hv h hQ
    | _ => exact putA_ok hw hu R ea hi hv h hQ
  | _ => exact ff h

theorem asgN_ok : ∀ {ts : List Expr} {vs : List AV} {cs : List Value} {m : Str → Option Value} {σ : St} {s : Shared} {k : St → Bool} {Q : Unit → Shared → Prop}, EnvR W L ae env → Rel os0 h₀ L m W σ s → All2 (VR W) vs cs → asgN ae ts vs σ k = true →
    (∀ m' σ' s', Rel os0 h₀ L m' W σ' s' → k σ' = true → Q () s') → wpAny (model prog w) A (assignInOrder ((assignEach ts env).map (·.2)) cs) Q E s
  | [], vs, cs, m, σ, s, k, Q, en, R, hv, h, hQ => by
    induction vs using List.casesOn with
    | nil => obtain rfl := hv.inv; exact wpAny_pure (hQ _ _ _ R h)
    | cons _ _ => exact ff h
  | t :: ts, vs, cs, m, σ, s, k, Q, en, R, hv, h, hQ => by
    induction vs using List.casesOn with
    | nil => exact ff h
    | cons v r =>
      apply hv.onCons; intro c cr hx hr
      induction t using PySem.Expr.casesOn with
      | Name x xp => exact wpAny_bind (wpAny_holding (wpAny_assign_Name (stoA_ok en R hx h fun m' σ' s' R' hk => asgN_ok en R' hr hk hQ)))
      | _ => exact ff h
theorem allNames_is : ∀ {ts : List Expr}, allNames ts = true → (assignEach ts env).length = ts.length ∧ (assignEach ts env).findIdx? (fun x => x.1) = none
  | [], _ => ⟨rfl, rfl⟩
  | t :: r, h => by
    induction t using PySem.Expr.casesOn with
    | Name x p =>
      obtain ⟨h1, h2⟩ := allNames_is (ts := r) h
      exact ⟨congrArg Nat.succ h1, by show List.findIdx? _ ((false, assign (.Name x p) env) :: assignEach r env) = none; rw [List.findIdx?_cons, h2]; rfl⟩
    | _ => exact ff h
theorem asgT1_ok (hh : A.handled = none) (en : EnvR W L ae env) (R : Rel os0 h₀ L m W σ s) {elts : List Expr} {q : Nat} {tp : Pos} {l : Nat} {a : Addr} {vs : List AV} {k : St → Bool} {Q : Unit → Shared → Prop} (ea : W.ρ[l]? = some a) (h1 : σ.hp.get l = some (.tup vs)) (hb : vs.length = elts.length) (hn : allNames elts = true) (h : asgN ae elts vs σ k = true)
    (hQ : ∀ m' σ' s', Rel os0 h₀ L m' W σ' s' → k σ' = true → Q () s') : wpAny (model prog w) A (assign (.Tuple elts q tp) env (.ref a)) Q E s := by
  refine Classical.byContradiction fun hgo => ?_
  obtain ⟨ci, k1, k2⟩ := R.ref h1 ea
  obtain ⟨cx, hx, tx⟩ := tup_at k1 k2
  obtain ⟨n1, n2⟩ := allNames_is (env := env) hn
  refine hgo ?_
  refine wpAny_assign_Tuple hh tx (by rw [n1, List.size_toArray, ← hx.length, hb]) n2 fun h' he => ?_
  have hk : ∀ b o, s.heap.get? b = some o → h'.get? b = some o := fun b o e => he b o (Nat.ne_of_lt (Heap.lt_size e)) e
  exact asgN_ok en (R.kept (t := s.toks) hk) hx h hQ
theorem asgA_ok (hh : A.handled = none) (en : EnvR W L ae env) (R : Rel os0 h₀ L m W σ s) {t : Expr} {v : AV} {c : Value} {k : St → Bool} {Q : Unit → Shared → Prop} (hv : VR W v c) (h : asgA ae t v σ k = true)
    (hQ : ∀ m' σ' s', Rel os0 h₀ L m' W σ' s' → k σ' = true → Q () s') : wpAny (model prog w) A (assign t env c) Q E s := by
  induction t using PySem.Expr.casesOn with
  | Name x p => exact wpAny_assign_Name (stoA_ok en R hv h hQ)
  | Tuple elts q tp =>
    induction v using Mine.AV.casesOn with
    | loc l =>
      apply hv.onLoc; intro a ea
      obtain ⟨vs, h1, h⟩ := onO_is (show onO ((σ.hp.get l).bind tupOf) _ = true from h)
      obtain ⟨hb, h⟩ := mt h
      obtain ⟨hn, h⟩ := mt h
      exact asgT1_ok hh en R ea (at_is tupOf_is h1) (Nat.eq_of_beq_eq_true hb) hn h hQ
    | _ => exact ff h
  | _ => exact ff h
end
end Mine

namespace Mine
open PySem PySem.W PySem.Calls PyProof.Rows PySem.SeqAt
open Sem (wp)
set_option maxRecDepth 100000

/-! ## tuples assigned -/
section
variable {M : Model} {A : Around} {E : Value → Shared → Prop} {s : Shared} {env : Env}
theorem xAssign_swapped {elts k tpos value pos} {names : List Str} {Q : Flow → Shared → Prop}
    (h : wpX M A (eval value env) (fun v s₁ => wpX M A (unpackItems v names.length none) (fun items s₂ =>
      wpX M A (assignInOrder (names.reverse.map fun n => bindName env n) items.reverse) (fun _ => Q .next) E s₂) E s₁) E s)
    (hs : swapsWithSole [.Tuple elts k tpos] value pos.line env = pure false) (hw : swappedStores [.Tuple elts k tpos] value env = pure (some names)) :
    wpX M A (exec (.Assign [.Tuple elts k tpos] value pos) env) Q E s := by
  rw [exec_Assign]
  refine xstand ?_
  rw [hs]
  refine xbind (xpure ?_)
  rw [if_neg (by decide)]
  refine xbind (xmono h (fun v s₁ h₁ => ?_) fun _ _ x => x)
  rw [hw]
  refine xbind (xpure ?_)
  show wpX M A (do rule "assign.swapped-stores"; let items ← unpackItems v names.length none; assignInOrder (names.reverse.map fun n => bindName env n) items.reverse; pure .next) Q E s₁
  exact xleaf (wpAny_rule (xbind (xmono h₁ (fun items s₂ h₂ => xbind (xmono h₂ (fun _ _ x => xpure x) fun _ _ x => x)) fun _ _ x => x)))
theorem xassign_Attribute {o : Expr} {attr : Str} {pos : Pos} {v : Value} {Q : Unit → Shared → Prop} (h : wpX M A (eval o env) (fun ov s₂ => wpX M A (setAttr ov attr v) Q E s₂) E s) : wpX M A (assign (.Attribute o attr pos) env v) Q E s := fun Γ p hΓ hN => by
  simp only [assign_Attribute, Sem.wp_bind', Sem.wp_holding, Sem.wp_cmd_standAt, Sem.wp_release, Sem.wp_pure']
  exact Sem.wp_mono M Γ _ (fun ov _ s₂ h₂ => h₂ Γ _ hΓ hN) (fun _ _ _ h' => h') _ _ (h Γ _ hΓ hN)
end
section
variable {prog : Program} {w : World} {A : Around} {E : Value → Shared → Prop} {s : Shared} {env : Env}
theorem xassign_Tuple {elts : List Expr} {x1} {pos : Pos} {t : Addr} {items : Array Value} {Q : Unit → Shared → Prop} (hh : A.handled = none) (ht : s.heap.IsTuple t items)
    (hn : (assignEach elts env).length = items.size) (hstar : (assignEach elts env).findIdx? (·.1) = none)
    (h : ∀ h', Heap.ExtBut s.heap.objs.size s.heap h' → wpX (model prog w) A (assignInOrder ((assignEach elts env).map (·.2)) items.toList) Q E { s with heap := h' }) :
    wpX (model prog w) A (assign (.Tuple elts x1 pos) env (.ref t)) Q E s := by
  rw [arm_assign_Tuple]
  refine xstand ?_
  unfold unpack
  rw [hn, hstar]
  exact xbind (xhold (xof (PySem.wpAny_unpackItems_tuple hh ht h)))
end

/-- the names of one line among the targets -/
noncomputable def swNames (names : List (Str × NameKind)) (line : Nat) : List Expr → List Str
  | [] => []
  | t :: r => match t with
    | .Name id pos => match lk id names with
      | some .local => match Nat.beq pos.line line with
        | true => id :: swNames names line r
        | false => swNames names line r
      | _ => swNames names line r
    | _ => swNames names line r
noncomputable def apartS : List Str → Bool
  | [] => true
  | x :: r => match memS x r with
    | true => false
    | false => apartS r
noncomputable def anyStar : List Expr → Bool
  | [] => false
  | t :: r => match notStar t with
    | true => anyStar r
    | false => true
noncomputable def lineOf : List Expr → Nat
  | [] => 0
  | t :: _ => t.pos.line
/-- the names that are stored from behind, if it is so; nothing, if it is not known -/
noncomputable def swapR (ae : AE) (ts vs : List Expr) : Option (Option (List Str)) :=
  match (Nat.beq ts.length 2 || Nat.beq ts.length 3) && Nat.beq vs.length ts.length with
  | false => some none
  | true => match anyStar vs with
    | true => some none
    | false => match Nat.beq (swNames ae.sc.names (lineOf ts) ts).length ts.length with
      | false => some none
      | true => match apartS (swNames ae.sc.names (lineOf ts) ts) with
        | false => none
        | true => match vs.all (foldedForSure 8) with
          | true => some none
          | false => match vs.all (constantsAlone 8) with
            | true => none
            | false => some (some (swNames ae.sc.names (lineOf ts) ts))
theorem swNames_is {env : Env} {line : Nat} : ∀ {ts : List Expr}, (ts.filterMap fun
    | .Name id pos => if env.kindOf id == some .local && pos.line == line then some id else none
    | _ => none) = swNames env.scope.names line ts
  | [] => rfl
  | t :: r => by
    rw [List.filterMap_cons, swNames_is (ts := r)]
    conv => rhs; unfold swNames
    generalize swNames env.scope.names line r = z
    induction t using PySem.Expr.casesOn <;> first | rfl | skip
    rename_i id pos
    dsimp only
    have e : lk id env.scope.names = env.kindOf id := lk_eq id _
    rw [e]
    cases hk : env.kindOf id with
    | none => rfl
    | some kd =>
      induction kd using PySem.NameKind.casesOn <;> first | rfl | skip
      have : (some NameKind.local == some NameKind.local) = true := rfl
      rw [this, Bool.true_and, BT.beq_eq]
      by_cases q : pos.line = line
      · simp [q]
      · simp [q]
theorem anyStar_is : ∀ {vs : List Expr}, (vs.any fun | .Starred .. => true | _ => false) = anyStar vs
  | [] => rfl
  | t :: r => by
    rw [List.any_cons, anyStar_is (vs := r)]
    conv => rhs; unfold anyStar
    generalize anyStar r = z
    induction t using PySem.Expr.casesOn <;> rfl
theorem apart_is : ∀ {l : List Str}, apartS l = true → l.length ≤ 3 → l.eraseDups.length = l.length
  | [], _, _ => rfl
  | [a], _, _ => by simp [List.eraseDups_cons]
  | [a, b], h, _ => by
    have hab : a ≠ b := fun e => by subst e; simp [apartS, memS, sq_refl] at h
    simp [List.eraseDups_cons, List.filter_cons, hab.symm]
  | [a, b, c], h, _ => by
    have hab : a ≠ b := fun e => by subst e; simp [apartS, memS, sq_refl] at h
    have hac : a ≠ c := fun e => by
      subst e
      by_cases q : a = b
      · exact hab q
      · simp [apartS, memS, sq_refl, sq_ne q] at h
    have hbc : b ≠ c := fun e => by
      subst e
      simp [apartS, memS, sq_refl] at h
      split at h <;> simp at h
    simp [List.eraseDups_cons, List.filter_cons, hab.symm, hac.symm, hbc.symm]
  | _ :: _ :: _ :: _ :: _, _, h => by simp at h
theorem swapR_is {W : Wd} {L : Addr} {ae : AE} {env : Env} (en : EnvR W L ae env) {ts vs : List Expr} {k k' : Nat} {p p' : Pos} {r : Option (List Str)} (h : swapR ae ts vs = some r) : swappedStores [.Tuple ts k p] (.Tuple vs k' p') env = pure r := by
  have hkd : env.scope.kind = .function := by rw [en.sc]; exact en.kd
  have hb : env.blockKind = .function := by unfold Env.blockKind; rw [hkd]; simp [ScopeKind.isAnnotationScope]
  have e1 : (!(ts.length == 2 || ts.length == 3) || vs.length != ts.length || env.blockKind != .function) = !((Nat.beq ts.length 2 || Nat.beq ts.length 3) && Nat.beq vs.length ts.length) := by
    rw [hb]
    simp only [BT.beq_eq]
    by_cases q1 : ts.length = 2 <;> by_cases q2 : ts.length = 3 <;> by_cases q3 : vs.length = ts.length <;> simp_all
  unfold swappedStores
  dsimp only
  rw [e1]
  unfold swapR at h
  have en2 : swNames env.scope.names = swNames ae.sc.names := by rw [en.sc]
  cases c1 : (Nat.beq ts.length 2 || Nat.beq ts.length 3) && Nat.beq vs.length ts.length with
  | false => rw [c1] at h; obtain rfl := Option.some.inj h; rfl
  | true =>
    rw [c1] at h
    dsimp only at h
    simp only [Bool.not_true, Bool.false_eq_true, if_false]
    generalize hA : vs.any _ = z1
    have hA := hA.symm.trans (anyStar_is (vs := vs))
    subst hA
    cases c2 : anyStar vs with
    | true => rw [c2] at h; obtain rfl := Option.some.inj h; rfl
    | false =>
      rw [c2] at h
      dsimp only at h
      simp only [Bool.false_eq_true, if_false]
      have hl : ((ts.head?.map (·.pos.line)).getD 0) = lineOf ts := by induction ts using List.casesOn <;> rfl
      rw [hl]
      generalize hB : ts.filterMap _ = z2
      have hB := hB.symm.trans (swNames_is (env := env) (line := lineOf ts) (ts := ts))
      rw [en2] at hB
      subst hB
      cases c3 : Nat.beq (swNames ae.sc.names (lineOf ts) ts).length ts.length with
      | false =>
        rw [c3] at h
        obtain rfl := Option.some.inj h
        rw [BT.beq_eq] at c3
        have c3 := of_decide_eq_false c3
        rw [if_pos (by simp [c3])]
      | true =>
        rw [c3] at h
        dsimp only at h
        have c3 := Nat.eq_of_beq_eq_true c3
        cases c4 : apartS (swNames ae.sc.names (lineOf ts) ts) with
        | false => rw [c4] at h; exact no_some h
        | true =>
          rw [c4] at h
          dsimp only at h
          have h3 : ts.length ≤ 3 := by
            obtain ⟨q1, _⟩ := Bool.and_eq_true_iff.mp c1
            rcases Bool.or_eq_true_iff.mp q1 with q | q <;> rw [Nat.eq_of_beq_eq_true q] <;> omega
          have c5 := apart_is c4 (by omega)
          rw [if_neg (by simp [c3, c5])]
          cases c6 : vs.all (foldedForSure 8) with
          | true => rw [c6] at h; obtain rfl := Option.some.inj h; rfl
          | false =>
            rw [c6] at h
            dsimp only at h
            simp only [Bool.false_eq_true, if_false]
            cases c7 : vs.all (constantsAlone 8) with
            | true => rw [c7] at h; exact no_some h
            | false => rw [c7] at h; obtain rfl := Option.some.inj h; rfl
noncomputable def asgR (ae : AE) : List Str → List AV → St → (St → Bool) → Bool
  | [], vs, σ, k => match vs with
    | [] => k σ
    | _ => false
  | n :: ns, vs, σ, k => match vs with
    | [] => false
    | v :: r => stoA ae n v σ fun σ' => asgR ae ns r σ' k
section
variable {prog : Program} {w : World} {A : Around} {E : Value → Shared → Prop} {os0 : (Array Nat → Int) × OsState} {h₀ : Gd} {L : Addr} {m : Str → Option Value} {W : Wd} {σ : St} {s : Shared} {env : Env} {ae : AE}
theorem asgR_ok : ∀ {ns : List Str} {vs : List AV} {cs : List Value} {m : Str → Option Value} {σ : St} {s : Shared} {k : St → Bool} {Q : Unit → Shared → Prop}, EnvR W L ae env → Rel os0 h₀ L m W σ s → All2 (VR W) vs cs → asgR ae ns vs σ k = true →
    (∀ m' σ' s', Rel os0 h₀ L m' W σ' s' → k σ' = true → Q () s') → wpAny (model prog w) A (assignInOrder (ns.map fun n => bindName env n) cs) Q E s
  | [], vs, cs, m, σ, s, k, Q, en, R, hv, h, hQ => by
    unfold asgR at h
    cases hv with
    | nil => exact wpAny_pure (hQ _ _ _ R h)
    | cons _ _ => exact ff h
  | n :: ns, vs, cs, m, σ, s, k, Q, en, R, hv, h, hQ => by
    unfold asgR at h
    cases hv with
    | nil => exact ff h
    | cons hx hr =>
      show wpAny _ _ (holding _ (bindName env n _) >>= fun _ => assignInOrder (ns.map fun n => bindName env n) _) _ _ _
      refine wpAny_bind (wpAny_holding (wpAny_bindName (stoA_ok en R hx h fun m' σ' s' R' hk => ?_)))
      exact asgR_ok en R' hr hk hQ
end
end Mine

namespace Mine
open PySem PySem.W PySem.Calls PyProof.Rows PySem.SeqAt
set_option maxRecDepth 100000

theorem alloc_get {σ : St} {o : AO} (h : σ.nl < 2 ^ 40) (l : Nat) : (σ.alloc o).hp.get l = if l = σ.nl then some o else σ.hp.get l := by
  unfold St.alloc
  exact Tr.get_put _ 40 _ _ _ h
theorem upd_get {σ : St} {i : Nat} {o : AO} (h : i < 2 ^ 40) (l : Nat) : (σ.upd i o).hp.get l = if l = i then some o else σ.hp.get l := by
  unfold St.upd
  exact Tr.get_put _ 40 _ _ _ h
/-! ## comprehensions -/
noncomputable def relL (outer : List (Str × NameKind)) : List (Str × NameKind) → List (Str × NameKind)
  | [] => []
  | x :: r => match x.2 with
    | .free => match lk x.1 outer with
      | some .cell => (x.1, .cell) :: relL outer r
      | _ => x :: relL outer r
    | _ => x :: relL outer r
theorem relL_is {env : Env} {names : List (Str × NameKind)} (hk : env.scope.kind = .function) : relL env.scope.names names = names.map fun (n, k) => if (k == .free && env.scope.kind == .function && env.kindOf n == some .cell) then (n, .cell) else (n, k) := by
  induction names with
  | nil => rfl
  | cons x r ih =>
    obtain ⟨n, k⟩ := x
    unfold relL
    rw [List.map_cons, ← ih]
    have e : lk n env.scope.names = env.kindOf n := lk_eq n _
    induction k using PySem.NameKind.casesOn <;> first | rfl | skip
    dsimp only
    rw [e, hk]
    cases q : env.kindOf n with
    | none => rfl
    | some t => induction t using PySem.NameKind.casesOn <;> rfl
noncomputable def relSc (outer : List (Str × NameKind)) (sc : Scope) : Scope := { sc with names := relL outer sc.names }
theorem relSc_is {env : Env} {sc : Scope} (hk : env.scope.kind = .function) : relSc env.scope.names sc = relabel sc env := by
  unfold relSc relabel
  rw [relL_is hk]
/-- the cells a comprehension sees -/
noncomputable def clA (cl : List (Str × Nat)) : List (Str × NameKind) → List (Str × Nat) → Option (List (Str × Nat))
  | [], acc => some acc
  | x :: r, acc => match x.2 with
    | .free => match lk x.1 cl with
      | some l => clA cl r ((x.1, l) :: acc)
      | none => none
    | _ => clA cl r acc
theorem forIn_fold {α β : Type} {g : α → β → β} {f : α → β → Sem (ForInStep β)} : ∀ (l : List α) (b : β), (∀ x ∈ l, ∀ c, f x c = pure (.yield (g x c))) → (forIn l b f : Sem β) = pure (l.foldl (fun c x => g x c) b)
  | [], b, _ => rfl
  | x :: r, b, h => by
    rw [List.forIn_cons, h x (.head _) b]
    exact forIn_fold r _ fun y hy => h y (.tail _ hy)
noncomputable def cellStep (env : Env) (x : Str × NameKind) (c : List (Str × Addr)) : List (Str × Addr) := if x.2 = .free then (match env.cells.lookup x.1 with | some a => (x.1, a) :: c | none => c) else c
theorem closure_is {scope : Scope} {env : Env} (h : ∀ x ∈ scope.names, x.2 = .free → (env.cells.lookup x.1).isSome = true) : closureFor scope env = pure (scope.names.foldl (fun c x => cellStep env x c) []) := by
  simp only [closureFor]
  rw [forIn_fold (g := cellStep env) scope.names [] (fun x hx c => by
    obtain ⟨n, kind⟩ := x
    by_cases q : kind = .free
    · subst q
      obtain ⟨a, ha⟩ := Option.isSome_iff_exists.mp (h _ hx rfl)
      simp only [cellStep, cellOf]
      have ha : env.cells.lookup n = some a := ha
      rw [ha]
      rfl
    · have : (kind == NameKind.free) = false := by simpa using q
      simp only [this, Bool.false_eq_true, if_false, cellStep, if_neg q])]
  rfl
theorem clA_ok {W : Wd} {L : Addr} {ae : AE} {env : Env} (en : EnvR W L ae env) : ∀ {names : List (Str × NameKind)} {acc cl : List (Str × Nat)} {bacc : List (Str × Addr)}, clA ae.cl names acc = some cl → All2 (fun (x : Str × Nat) (y : Str × Addr) => x.1 = y.1 ∧ W.ρ[x.2]? = some y.2) acc bacc →
    (∀ x ∈ names, x.2 = .free → (env.cells.lookup x.1).isSome = true) ∧ All2 (fun (x : Str × Nat) (y : Str × Addr) => x.1 = y.1 ∧ W.ρ[x.2]? = some y.2) cl (names.foldl (fun c x => cellStep env x c) bacc)
  | [], acc, cl, bacc, h, ha => by
    unfold clA at h
    obtain rfl := Option.some.inj h
    exact ⟨fun x hx => (nomatch hx), ha⟩
  | x :: r, acc, cl, bacc, h, ha => by
    unfold clA at h
    obtain ⟨n, k⟩ := x
    by_cases q : k = .free
    · subst q
      dsimp only at h
      cases hl : lk n ae.cl with
      | none => rw [hl] at h; exact no_some h
      | some l =>
        rw [hl] at h
        obtain ⟨b, h1, h2⟩ := en.cl n l hl
        have e : cellStep env (n, NameKind.free) bacc = (n, b) :: bacc := by unfold cellStep; rw [if_pos rfl, h2]
        obtain ⟨i1, i2⟩ := clA_ok en h (.cons ⟨rfl, h1⟩ ha) (bacc := (n, b) :: bacc)
        refine ⟨fun y hy hf => ?_, by rw [List.foldl_cons, e]; exact i2⟩
        rcases List.mem_cons.mp hy with rfl | hy
        · rw [h2]; rfl
        · exact i1 y hy hf
    · have h' : clA ae.cl r acc = some cl := by induction k using PySem.NameKind.casesOn <;> first | exact h | exact absurd rfl q
      have e : cellStep env (n, k) bacc = bacc := by unfold cellStep; rw [if_neg q]
      obtain ⟨i1, i2⟩ := clA_ok en h' ha
      refine ⟨fun y hy hf => ?_, by rw [List.foldl_cons, e]; exact i2⟩
      rcases List.mem_cons.mp hy with rfl | hy
      · exact absurd hf q
      · exact i1 y hy hf
theorem all2_lk {W : Wd} {x : Str} {l : Nat} {cl : List (Str × Nat)} {bl : List (Str × Addr)} (h : All2 (fun (x : Str × Nat) (y : Str × Addr) => x.1 = y.1 ∧ W.ρ[x.2]? = some y.2) cl bl) (e : lk x cl = some l) : ∃ b, W.ρ[l]? = some b ∧ bl.lookup x = some b := by
  induction h with
  | nil => exact no_some e
  | @cons p q r t h _ ih =>
    rw [lk_cons] at e
    rw [List.lookup_cons]
    by_cases hs : x = p.1
    · rw [if_pos hs] at e
      rw [beq_iff_eq.mpr (hs.trans h.1), ← Option.some.inj e]
      exact ⟨_, h.2, rfl⟩
    · rw [if_neg hs] at e
      rw [beq_eq_false_iff_ne.mpr fun z => hs (z.trans h.1.symm)]
      exact ih e
/-- a comprehension's scope is as it should be -/
noncomputable def scOK (names : List (Str × NameKind)) : List (Str × NameKind) → Bool
  | [] => true
  | x :: r => match x.2 with
    | .local => match lk x.1 names with
      | some .local => scOK names r
      | _ => false
    | .cell => false
    | _ => scOK names r
theorem scOK_is {names : List (Str × NameKind)} : ∀ {l : List (Str × NameKind)}, scOK names l = true → (∀ x ∈ l, x.2 = .local → names.lookup x.1 = some .local) ∧ ∀ x ∈ l, x.2 ≠ .cell
  | [], _ => ⟨fun x hx => (nomatch hx), fun x hx => (nomatch hx)⟩
  | x :: r, h => by
    obtain ⟨n, k⟩ := x
    unfold scOK at h
    induction k using PySem.NameKind.casesOn with
    | «local» =>
      dsimp only at h
      split at h
      · rename_i hl
        obtain ⟨i1, i2⟩ := scOK_is h
        refine ⟨fun y hy hk => ?_, fun y hy => ?_⟩
        · rcases List.mem_cons.mp hy with rfl | hy
          · rw [← lk_eq]; exact hl
          · exact i1 y hy hk
        · rcases List.mem_cons.mp hy with rfl | hy
          · exact fun e => nomatch e
          · exact i2 y hy
      · exact ff h
    | cell => exact ff h
    | free =>
      obtain ⟨i1, i2⟩ := scOK_is h
      exact ⟨fun y hy hk => by rcases List.mem_cons.mp hy with rfl | hy; cases hk; exact i1 y hy hk, fun y hy => by rcases List.mem_cons.mp hy with rfl | hy; exact (fun e => nomatch e); exact i2 y hy⟩
    | globalExplicit =>
      obtain ⟨i1, i2⟩ := scOK_is h
      exact ⟨fun y hy hk => by rcases List.mem_cons.mp hy with rfl | hy; cases hk; exact i1 y hy hk, fun y hy => by rcases List.mem_cons.mp hy with rfl | hy; exact (fun e => nomatch e); exact i2 y hy⟩
    | globalImplicit =>
      obtain ⟨i1, i2⟩ := scOK_is h
      exact ⟨fun y hy hk => by rcases List.mem_cons.mp hy with rfl | hy; cases hk; exact i1 y hy hk, fun y hy => by rcases List.mem_cons.mp hy with rfl | hy; exact (fun e => nomatch e); exact i2 y hy⟩

noncomputable def itO (r : Bool) (o : AO) : Bool := match o with
  | .lstIt .. => true
  | .tupIt .. => true
  | .keyIt .. => true
  | .rngIt .. => r
  | _ => false
noncomputable def ownA (target : Expr) (it : AV) (σ : St) : Bool := match target with
  | .Name .. => true
  | .Tuple .. => onLoc it fun i => onO (σ.hp.get i) (itO false)
  | _ => false
noncomputable def isIt (it : AV) (σ : St) : Bool := onLoc it fun i => onO (σ.hp.get i) (itO true)

section
variable {prog : Program} {w : World} {A : Around} {E : Value → Shared → Prop} {os0 : (Array Nat → Int) × OsState} {h₀ : Gd} {L : Addr} {m : Str → Option Value} {W : Wd} {σ : St} {s : Shared} {env : Env} {ae : AE}
theorem go_plain {M : Model} {elts : List Expr} {x1 : Nat} {pos : Pos} {r a : Addr} {n : String} {o : Obj} {vs : Array Value} {Q : Unit → Shared → Prop} (ho : s.heap.get? r = some o) (hc : o.cls = .type n) (hd : o.data = .fields vs)
    (hn : ["enumerate", "zip", "dict_itemiterator", "dict_reverseitemiterator", "odict_iterator", "itertools.zip_longest", "itertools.pairwise"].contains n = false) (h : Q () s) : wpAny M A (letOwnedTupleGo (.Tuple elts x1 pos) (.ref r) (.ref a)) Q E s := by
  show wpAny M A (load r >>= _) _ _ _
  refine wpAny_bind (wpAny_load ho ?_)
  rw [hc, hd]
  dsimp only
  rw [hn]
  exact wpAny_pure h
theorem ownA_ok (R : Rel os0 h₀ L m W σ s) {M : Model} {target : Expr} {it x : AV} {ci cx : Value} {Q : Unit → Shared → Prop} (hi : VR W it ci) (_hx : VR W x cx) (h : ownA target it σ = true) (hQ : Q () s) : wpAny M A (letOwnedTupleGo target ci cx) Q E s := by
  induction target using PySem.Expr.casesOn <;> first | exact ff h | exact wpAny_pure hQ | skip
  obtain ⟨i, rfl, h⟩ := onLoc_is (show onLoc it _ = true from h)
  apply hi.onLoc; intro _ ea
  induction cx using PySem.Value.casesOn <;> first | exact wpAny_pure hQ | skip
  obtain ⟨o, h1, h⟩ := onO_is h
  obtain ⟨oc, k1, k2⟩ := R.ref h1 ea
  induction o using Mine.AO.casesOn <;> first | exact ff h | skip
  · obtain ⟨_, f0, f1, f2⟩ := k1.inv
    exact go_plain k2 f1 f2 (by decide) hQ
  · obtain ⟨_, f0, f1, f2⟩ := k1.inv
    exact go_plain k2 f1 f2 (by decide) hQ
  · obtain ⟨_, rfl, f0⟩ := k1.inv
    exact go_plain k2 rfl rfl (by decide) hQ
theorem isIt_ok (R : Rel os0 h₀ L m W σ s) {it : AV} {ci : Value} {Q : Value → Shared → Prop} (hi : VR W it ci) (h : isIt it σ = true) (hQ : Q ci s) : wpAny (model prog w) A (pyIter ci) Q E s := by
  obtain ⟨i, rfl, h⟩ := onLoc_is h
  obtain ⟨_, rfl, ea⟩ := hi.inv
  obtain ⟨o, h1, h⟩ := onO_is h
  obtain ⟨oc, k1, k2⟩ := R.ref h1 ea
  induction o using Mine.AO.casesOn <;> first | exact ff h | skip
  · obtain rfl := k1.inv
    exact wpAny_pyIter_rangeiter k2 hQ
  · obtain ⟨_, f0, f1, f2⟩ := k1.inv
    exact wpAny_pyIter_listiter ⟨_, k2, f1, f2⟩ hQ
  · obtain ⟨_, f0, f1, f2⟩ := k1.inv
    exact wpAny_pyIter_tupleiter ⟨_, k2, f1, f2⟩ hQ
  · obtain ⟨_, rfl, f0⟩ := k1.inv
    exact wpAny_pyIter_keyiter ⟨_, k2, rfl, rfl⟩ hQ
theorem Rel.congr (R : Rel os0 h₀ L m W σ s) {σ' : St} (h1 : ∀ l, σ'.hp.get l = σ.hp.get l) (h2 : σ'.lc = σ.lc) (h3 : σ'.nl = σ.nl) (h4 : σ'.vi = σ.vi) : Rel os0 h₀ L m W σ' s :=
  ⟨R.fr, by rw [h2]; exact R.lcs, fun l o e => R.led l o (by rw [← h1]; exact e), by rw [h3]; exact R.len, fun l l' o o' e e' => R.inj l l' o o' (by rw [← h1]; exact e) (by rw [← h1]; exact e'), R.gens, R.os, by rw [h4]; exact R.vars, R.scr, R.par⟩
end

abbrev compTs (ifs : List Expr) (env : Env) : Sem Bool := forIn ifs true fun c r => if r = true then do let ok ← isTrue c env (eval c env); pure (ForInStep.yield ok) else pure (ForInStep.yield r)
theorem compLoop_any {prog : Program} {w : World} {A : Around} {R : Result → Shared → Prop} {s : Shared} {elt target iter : Expr} {ifs : List Expr} {scope : Scope} {pos : Pos} {it acc : Value} {env : Env} (I : Nat → Shared → Prop)
    (turn : ∀ n s, I n s → wpX (model prog w) A (pyNext it) (fun r s₁ => match r with
      | none => R (.ok .next) s₁
      | some v => wpX (model prog w) A (letOwnedTupleGo target it v) (fun _ s₁' => wpX (model prog w) A (assign target env v) (fun _ s₂ => wpX (model prog w) A (compTs ifs env) (fun ok s₂' =>
          if ok = true then wpX (model prog w) A (eval elt env) (fun x s₃ =>
          wpX (model prog w) A (call (.builtin "list.append") [acc, x]) (fun _ s₄ => ∃ m, m < n ∧ I m s₄) noE s₃) noE s₂' else ∃ m, m < n ∧ I m s₂') noE s₂) noE s₁') noE s₁) noE s)
    (n : Nat) (h : I n s) : codeX (model prog w) A (.compLoop (.ListComp elt [⟨target, iter, ifs, 0⟩] scope pos) 0 it acc env) R s := by
  refine cloop rfl rfl I (fun n s hI => ?_) n h
  show wpX _ _ ((compTurn (.ListComp elt [⟨target, iter, ifs, 0⟩] scope pos) 0 it acc env).onRaise (fun x => do noteFrame x env; theTreesLotGoes x)) _ _ s
  refine xonRaise (xno ?_)
  rw [compTurn_list]
  refine xstand (xbind (xmono (turn n s hI) (fun r s₁ h₁ => ?_) fun _ _ h' => h'))
  induction r using Option.casesOn with
  | none => exact xpure h₁
  | some v =>
    refine xbind (xmono h₁ (fun _ s₁' h₁' => ?_) fun _ _ h' => h')
    refine xbind (xmono h₁' (fun _ s₂ h₂ => ?_) fun _ _ h' => h')
    refine xbind (xmono h₂ (fun ok s₂' h₂' => ?_) fun _ _ h' => h')
    induction ok using Bool.casesOn with
    | false => exact xpure (.inl ⟨rfl, h₂'⟩)
    | true =>
      exact xbind (xbind (xmono h₂' (fun x s₃ h₃ => xbind (xmono h₃
        (fun _ s₄ h₄ => xpure (xpure (.inl ⟨rfl, h₄⟩))) fun _ _ h' => h')) fun _ _ h' => h'))

noncomputable def ifsA (is : IsT) (ae : AE) (ifs : List Expr) (σ : St) (k : Bool → St → Bool) : Bool := match ifs with
  | [] => k true σ
  | c :: r => match r with
    | [] => is ae c σ k
    | _ => false
noncomputable def compL (S : SE) (ev : EvT) (is : IsT) (ex : ExT) (ae' : AE) (target elt : Expr) (ifs : List Expr) (it acc : AV) : Nat → St → (St → Bool) → Bool
  | 0, _, _ => false
  | t + 1, σ, k => nextA σ it fun o σ1 => match o with
    | none => k σ1
    | some x => match ownA target it σ1 with
      | true => asgA ae' target x σ1 fun σ2 => ifsA is ae' ifs σ2 fun ok σ2' => match ok with
        | true => ev ae' elt σ2' fun y σ3 => callM S ex (.bi .app) acc [y] σ3 fun _ σ4 => compL S ev is ex ae' target elt ifs it acc t σ4 k
        | false => compL S ev is ex ae' target elt ifs it acc t σ2' k
      | false => false
noncomputable def notSet : Expr → Bool
  | .Set .. => false
  | _ => true
theorem iter_plain {e : Expr} {env : Env} (h : notSet e = true) (x : Value) : foldedSetIterable e env x = pure x := by
  induction e using PySem.Expr.casesOn <;> first | rfl | exact ff h
noncomputable def compK (c : Nat) (acc : AV) (k : AV → Nat → St → Bool) (σ : St) : Bool := onO ((σ.hp.get c).bind envOf) fun _ => k acc c σ
noncomputable def compAE (ae : AE) (scope : Scope) (cl : List (Str × Nat)) (c : Nat) : AE := ⟨relSc ae.sc.names scope, some c, cl⟩
noncomputable def compEnv (scope : Scope) (C : Addr) (env : Env) : Env := { newEnv scope C env.globals (scope.names.foldl (fun c x => cellStep env x c) []) env.qual none .none (some env) builtinsNs with scope := relabel scope env }
noncomputable def compB (S : SE) (ev : EvT) (is : IsT) (ex : ExT) (ae' : AE) (elt target : Expr) (ifs : List Expr) (it acc : AV) (c : Nat) (σ : St) (k : AV → Nat → St → Bool) : Bool := match isIt it σ with
  | true => compL S ev is ex ae' target elt ifs it acc 1000 σ (compK c acc k)
  | false => false
noncomputable def compG (S : SE) (ev : EvT) (is : IsT) (ex : ExT) (ae : AE) (elt target : Expr) (ifs : List Expr) (scope : Scope) (cl : List (Str × Nat)) (k : AV → Nat → St → Bool) (it : AV) (σ : St) : Bool := allocA σ (.lst []) fun acc σ3 => allocA σ3 (.env []) fun ce σ4 => match ce with
  | .loc c => compB S ev is ex (compAE ae scope cl c) elt target ifs it acc c σ4 k
  | _ => false
/-- the comprehension up to its end: the list's place, its names' place -/
noncomputable def compA (S : SE) (ev : EvT) (is : IsT) (ex : ExT) (ae : AE) (elt target iter : Expr) (ifs : List Expr) (scope : Scope) (σ : St) (k : AV → Nat → St → Bool) : Bool := match notSet iter && scOK scope.names scope.names with
  | false => false
  | true => match scope.kind with
    | .function => onO (clA ae.cl scope.names []) fun cl => ev ae iter σ fun v σ1 => iterA σ1 v (compG S ev is ex ae elt target ifs scope cl k)
    | _ => false

section
variable {prog : Program} {w : World} {K : Frag} {p : Program} {loose : List Str} {mean : ExcName → Option Value} {mg mb : Str → Option Value} {os0 : (Array Nat → Int) × OsState}
variable {n : Nat} {A : Around} {base : Heap} {h₀ : Gd} {env : Env} {ae : AE} {L : Addr} {E : Value → Shared → Prop} {m : Str → Option Value} {W : Wd} {σ : St} {s : Shared}

theorem sm_of {S : SE} (G : EnvOK w os0 K S) (X : K.In h₀.g) : (h₀.g.get? sysModules).isSome = true := by
  obtain ⟨o, ho⟩ := Option.isSome_iff_exists.mp G.sm
  rw [X _ _ ho]; rfl
theorem ifsA_ok {is : IsT} (his : IsOK prog w K p loose mean mg mb os0 n is) (f : Fc K p loose mean mg mb n A base h₀ L) (en : EnvR W L ae env) {ifs : List Expr} {k : Bool → St → Bool} {Q : Bool → Shared → Prop} (R : Rel os0 h₀ L m W σ s) (h : ifsA is ae ifs σ k = true)
    (hQ : ∀ m' W' r σ' s', W.le W' → Rel os0 h₀ L m' W' σ' s' → k r σ' = true → Q r s') : wpX (model prog w) A (compTs ifs env) Q E s := by
  unfold ifsA at h
  split at h
  · exact xpure (hQ _ _ _ _ _ W.le_refl R h)
  · split at h
    · unfold compTs
      simp only [List.forIn_cons, List.forIn_nil, if_true]
      exact xbind (xbind (xmono (his A base h₀ L env ae m W s E f en _ σ _ _ R h hQ) (fun b s' hb => xpure (xpure hb)) fun _ _ x => x))
    · exact ff h
theorem comp_env (R : Rel os0 h₀ L m W σ s) (en : EnvR W L ae env) {scope : Scope} {cl : List (Str × Nat)} (hk : scope.kind = .function) (hkd : env.scope.kind = .function) (hcells : ∀ x ∈ scope.names, x.2 ≠ .cell)
    (hall : All2 (fun (x : Str × Nat) (y : Str × Addr) => x.1 = y.1 ∧ W.ρ[x.2]? = some y.2) cl (scope.names.foldl (fun c x => cellStep env x c) [])) {k : AV → St → Bool} {Q : Env → Shared → Prop} (h : Mine.allocA σ (.env []) k = true)
    (hQ : ∀ W' C σ' s', W.le W' → Rel os0 h₀ L m W' σ' s' → W'.ρ[σ.nl]? = some C → EnvR W' L (compAE ae scope cl σ.nl) (compEnv scope C env) → k (.loc σ.nl) σ' = true → Q (newEnv scope C env.globals (scope.names.foldl (fun c x => cellStep env x c) []) env.qual none .none (some env) builtinsNs) s') :
    wpAny (model prog w) A (newFunctionEnv scope env.globals (scope.names.foldl (fun c x => cellStep env x c) []) [] env.qual none .none (some env)) Q E s := by
  refine wpAny_newFunctionEnv hcells (fun y hy => absurd hy List.not_mem_nil) (fun h' hns hsb => ?_) hk
  obtain ⟨R4, v4, h4⟩ := R.allocA (o := .env []) (c := { cls := .type "dict", data := .dict #[] }) h (.env (es := #[]) (ep := 0) (m := nsFind #[]) rfl (fun e he => absurd he (Array.not_mem_empty e)) (fun _ => rfl) (fun x v e => no_some e))
  have hb := Nat.le_of_ble_eq_true (mt h).1
  have hb40 : σ.nl < 2 ^ 40 := Nat.lt_of_le_of_lt hb (by decide)
  have hget : (σ.alloc (.env [])).hp.get σ.nl = some (.env []) := by rw [alloc_get hb40, if_pos rfl]
  obtain ⟨oC, es, ep, y1, y2, y3, y4⟩ := hns
  have hown := R.here s.heap.objs.size
  refine hQ _ _ (σ.alloc (.env [])) _ (W.le_grow _) ((R4.same (s' := { s with heap := h', toks := s.toks + 0 }) (o := .env []) hown hget (Nat.lt_of_le_of_lt (Nat.succ_le_succ hb) (by decide)) hsb (.env y2 y3 y4 fun x v e => no_some e) y1 rfl rfl).congr (fun l => ?_) rfl rfl rfl) hown ⟨?_, en.gl, en.bu, en.fr, hown, fun x l e => ?_, hk⟩ h4
  · rw [upd_get hb40]
    by_cases q : l = σ.nl
    · rw [if_pos q, q]; exact hget
    · rw [if_neg q]
  · show relabel scope env = relSc ae.sc.names scope
    rw [← relSc_is hkd, en.sc]
  · obtain ⟨b, z1, z2⟩ := all2_lk hall e
    exact ⟨b, pre_get (W.le_grow _).1 z1, z2⟩
section
variable {S : SE} (G : EnvOK w os0 K S) {ev : EvT} {is : IsT} {ex : ExT} (hev : EvOK prog w K p loose mean mg mb os0 n ev) (his : IsOK prog w K p loose mean mg mb os0 n is) (hex : ExOK prog w K p loose mean mg mb os0 n ex) (f : Fc K p loose mean mg mb (n + 1) A base h₀ L)
  {elt target iter : Expr} {ifs : List Expr} {scope : Scope} {pos : Pos} {it acc : AV} {ci ca : Value}
include G hev his hex f
theorem comp_turn {W₀ : Wd} {t : Nat} {k : St → Bool} {R : Result → Shared → Prop} (en : EnvR W L ae env) (Rl : Rel os0 h₀ L m W σ s) (vi : VR W it ci) (va : VR W acc ca) (lw : W₀.le W)
    (h : compL S ev is ex ae target elt ifs it acc (t + 1) σ k = true) (hQ : ∀ σ' s', Rel os0 h₀ L m W σ' s' → k σ' = true → R (.ok .next) s') : wpX (model prog w) A (pyNext ci) (fun r s₁ => match r with
      | none => R (.ok .next) s₁
      | some v => wpX (model prog w) A (letOwnedTupleGo target ci v) (fun _ s₁' => wpX (model prog w) A (assign target env v) (fun _ s₂ => wpX (model prog w) A (compTs ifs env) (fun ok s₂' =>
          if ok = true then wpX (model prog w) A (eval elt env) (fun x s₃ =>
          wpX (model prog w) A (call (.builtin "list.append") [ca, x]) (fun _ s₄ => ∃ i, i < t + 1 ∧ ∃ m' W' σ', W₀.le W' ∧ Rel os0 h₀ L m' W' σ' s₄ ∧ compL S ev is ex ae target elt ifs it acc i σ' k = true) noE s₃) noE s₂' else ∃ i, i < t + 1 ∧ ∃ m' W' σ', W₀.le W' ∧ Rel os0 h₀ L m' W' σ' s₂' ∧ compL S ev is ex ae target elt ifs it acc i σ' k = true) noE s₂) noE s₁') noE s₁) noE s := by
  have f' := f.less (Nat.le_succ n)
  refine xof <| nextA_ok f.hh Rl vi (show nextA σ it _ = true from h) fun σ'' s'' R'' => ⟨fun x cx vx hx => ?_, hQ _ _ R''⟩
  obtain ⟨ho, hx⟩ := mt hx
  refine xof <| ownA_ok R'' vi vx ho ?_
  refine xof <| asgA_ok f.hh en R'' vx hx fun m6 σ6 s6 R6 h6 => ?_
  refine ifsA_ok his f' en R6 h6 fun m6' W6' ok σ6' s6' l6 R6' h6' => ?_
  induction ok using Bool.casesOn with
  | false => exact (if_neg Bool.false_ne_true).mpr ⟨t, Nat.lt_succ_self t, m6', W6', σ6', Wd.le_trans lw l6, R6', h6'⟩
  | true =>
  refine (if_pos rfl).mpr ?_
  refine hev A base h₀ L _ _ m6' W6' s6' _ f' (en.mono l6) elt σ6' _ _ R6' h6' fun m7 W7 y cy σ7 s7 l7 R7 v7 h7 => ?_
  refine callM_ok G hex f R7 (va.mono (Wd.le_trans l6 l7)) (.cons v7 .nil) h7 fun W8 v8 c8 σ8 s8 l8 R8 _ h8 => ?_
  exact ⟨t, Nat.lt_succ_self t, m7, W8, σ8, Wd.le_trans lw (Wd.le_trans l6 (Wd.le_trans l7 l8)), R8, h8⟩
theorem comp_loop {k : St → Bool} {R : Result → Shared → Prop} (en : EnvR W L ae env) (Rl : Rel os0 h₀ L m W σ s) (vi : VR W it ci) (va : VR W acc ca)
    (h : compL S ev is ex ae target elt ifs it acc 1000 σ k = true) (hQ : ∀ m' W' σ' s', W.le W' → Rel os0 h₀ L m' W' σ' s' → k σ' = true → R (.ok .next) s') :
    codeX (model prog w) A (.compLoop (.ListComp elt [⟨target, iter, ifs, 0⟩] scope pos) 0 ci ca env) R s := by
  refine compLoop_any (fun t s' => ∃ m' W' σ', W.le W' ∧ Rel os0 h₀ L m' W' σ' s' ∧ compL S ev is ex ae target elt ifs it acc t σ' k = true) (fun t s' ⟨m', W', σ', lw, R', hL⟩ => ?_) 1000 ⟨m, W, σ, W.le_refl, Rl, h⟩
  induction t using Nat.casesOn with
  | zero => exact ff hL
  | succ t => exact comp_turn G hev his hex f (en.mono lw) R' (vi.mono lw) (va.mono lw) lw hL fun σ' s' R2 hk => hQ _ _ _ _ lw R2 hk
theorem compA_ok (en : EnvR W L ae env) {k : AV → Nat → St → Bool} {use : Option (Value → Sem Unit)} {Q : Value → Shared → Prop} (R : Rel os0 h₀ L m W σ s) (h : compA S ev is ex ae elt target iter ifs scope σ k = true)
    (hQ : ∀ m' W' acc ca c C σ' s', W.le W' → Rel os0 h₀ L m' W' σ' s' → VR W' acc ca → W'.ρ[c]? = some C → (∃ fs, σ'.hp.get c = some (.env fs)) → k acc c σ' = true → compPost (model prog w) A E use Q ca C (.ok .next) s') :
    wpX (model prog w) A (comprehension (.ListComp elt [⟨target, iter, ifs, 0⟩] scope pos) scope env iter.pos (newList []) false (eval iter env) use) Q E s := by
  refine Classical.byContradiction fun hgo => ?_
  have hkd : env.scope.kind = .function := by rw [en.sc]; exact en.kd
  obtain ⟨hc, h⟩ := mf h
  obtain ⟨c1, c2⟩ := an hc
  obtain ⟨hnames, hcells⟩ := scOK_is c2
  refine hgo ?_
  have hfk : scope.kind = .function := by
    cases hfk : scope.kind <;> (rw [hfk] at h) <;> first | rfl | exact ff h
  rw [hfk] at h
  obtain ⟨cl, hcl, h⟩ := onO_is (show onO (clA ae.cl scope.names []) _ = true from h)
  obtain ⟨hfree, hall⟩ := clA_ok en hcl .nil
  refine comprehension_free' rfl (iter_plain c1) (closure_is hfree) hfk hnames ?_
  refine hev A base h₀ L env ae m W s E (f.less (Nat.le_succ n)) en iter σ _ _ R h fun m1 W1 v c σ1 s1 l1 R1 v1 h1 => ?_
  refine xof <| iterA_ok R1 v1 h1 fun W2 it ci σ2 s2 l2 R2 v2 h2 => ?_
  refine xof (wpAny_newObj_type ?_)
  obtain ⟨R3, v3, h3⟩ := R2.allocA (c := { cls := .type "list", data := .seq ([] : List Value).toArray }) (show Mine.allocA σ2 (.lst []) _ = true from h2) (.lst .nil)
  have l3 := W2.le_grow s2.heap.objs.size
  have l03 := W.le_trans l1 (Wd.le_trans l2 l3)
  refine xof (comp_env R3 (en.mono l03) hfk hkd hcells (hall.imp fun _ _ q => ⟨q.1, pre_get l03.1 q.2⟩) h3 fun W5 C σ5 s5 l5 R5 hown en5 h5 => ?_)
  obtain ⟨hit, h5⟩ := mt (show compB S ev is ex _ elt target ifs it _ _ σ5 k = true from h5)
  have v2' := v2.mono (Wd.le_trans l3 l5)
  refine ccompStart (comp_loop G hev his hex f en5 R5 v2' (v3.mono l5) h5 ?_) (xof (isIt_ok R5 v2' hit (comp_loop G hev his hex f en5 R5 v2' (v3.mono l5) h5 ?_))) <;>
  · intro m' W' σ' s' lw R' hk
    obtain ⟨fs, hfs, hk⟩ := onO_is hk
    exact hQ m' W' _ _ _ C σ' s' (W.le_trans l03 (Wd.le_trans l5 lw)) R' ((v3.mono l5).mono lw) (pre_get lw.1 hown) ⟨_, at_is envOf_is hfs⟩ hk
end
end
end Mine

namespace Mine
open PySem PySem.W PySem.Calls PyProof.Rows PySem.SeqAt
open Sem (wp)
set_option maxRecDepth 100000

/-! ## displays of dicts -/
section
variable {prog : Program} {w : World} {A : Around} {E : Value → Shared → Prop} {s : Shared} {d : Addr} {ds : List DictEntry} {n : Nat} {v : Value} {hsh : Int} {dr : Nat} {r : Option Nat}
theorem raw_dictSet {x : Value} (K : KAt prog w A s d ds n v hsh dr r) (hz : ds.length ≤ 1000) {Q : Unit → Shared → Prop} (h : ∀ h', h'.get? d = some (putD ds n hsh v x r) → Heap.SameBut d s.heap h' → Q () { s with heap := h', toks := s.toks + dr }) : wpAny (model prog w) A (dictSet d v x) Q E s := by
  have hsz : ds.toArray.size ≤ sizeLine := by rw [sizeLine_eq]; simp; omega
  unfold dictSet
  try with_reducible refine wpAny_holding ?_
  refine wpAny_bind (K.hash _ _ ?_)
  unfold dictSetHashed
  try with_reducible refine wpAny_holding ?_
  refine wpAny_bind (K.find _ _ _ ?_)
  cases hr : r with
  | some i =>
    rw [hr] at h
    refine wpAny_bind (wpAny_rule (wpAny_bind (wpAny_updateDict (s := { s with toks := s.toks + dr }) (o := dictOf ds n) (es := ds.toArray) K.obj rfl (wpAny_point (h _ ?_ (Heap.SameBut.update ..))))))
    rw [Heap.get?_update_self _ K.obj (by rfl)]
    congr 1
    show ({ cls := _, data := Data.dict (ds.toArray.modify i _) n } : Obj) = dictOf (ds.modify i (DictEntry.new x)) n
    have : (ds.toArray.modify i fun e => { e with val := x }) = (ds.modify i (DictEntry.new x)).toArray := by
      apply Array.toList_inj.mp
      simp
      rfl
    rw [this]
  | none =>
    rw [hr] at h
    refine wpAny_bind (wpAny_rule (wpAny_updateDictKeys (hz := hsz) (s := { s with toks := s.toks + dr }) (o := dictOf ds n) (es := ds.toArray) K.obj rfl (h _ ?_ (Heap.SameBut.update ..))))
    rw [Heap.get?_update_self _ K.obj (by rfl)]
    congr 1
    show ({ cls := _, data := Data.dict (ds.toArray.push _) (n + 1) } : Obj) = dictOf (ds ++ [_]) (n + 1)
    simp
end
section
variable {prog : Program} {w : World} {A : Around} {E : Value → Shared → Prop} {os0 : (Array Nat → Int) × OsState} {h₀ : Gd} {L : Addr} {m : Str → Option Value} {W : Wd} {σ : St} {s : Shared}
theorem putA_set (hw : os0.1 = w.params.strHash) (hu : A.units + 40 < cLine) (R : Rel os0 h₀ L m W σ s) {l : Nat} {a : Addr} {i v : AV} {ci cv : Value} {k : St → Bool} {Q : Unit → Shared → Prop} (ea : W.ρ[l]? = some a) (hi : VR W i ci) (hv : VR W v cv) (h : putA σ l i v k = true)
    (hQ : ∀ σ' s', Rel os0 h₀ L m W σ' s' → k σ' = true → Q () s') : wpAny (model prog w) A (dictSet a ci cv) Q E s := by
  refine Classical.byContradiction fun hgo => ?_
  obtain ⟨⟨es, n, kd, r⟩, hk, h⟩ := onO_is h
  obtain ⟨hb, h⟩ := mt h
  obtain ⟨ds, g1, g2, g3, g4, g5, g6, g7, g8, g9⟩ := askA_ok (prog := prog) (A := A) hw R (by omega) ea hi hk
  refine hgo ?_
  refine raw_dictSet g9 (g2.length ▸ Nat.le_of_ble_eq_true hb) fun h' z1 z2 => ?_
  obtain ⟨σ', R', hk⟩ := put_fin (t := s.toks + kd.drw) R g1 ea g2 g3 g6 g7 hi hv z1 z2 (by rw [g8]) h
  exact hQ _ _ R' hk
/-- pairs put into a dict, one by one -/
noncomputable def putsA (l : Nat) : List (AV × AV) → St → (St → Bool) → Bool
  | [], σ, k => k σ
  | p :: r, σ, k => putA σ l p.1 p.2 fun σ1 => putsA l r σ1 k
abbrev PR (W : Wd) (p : AV × AV) (q : Value × Value) : Prop := VR W p.1 q.1 ∧ VR W p.2 q.2
theorem putsA_ok (hw : os0.1 = w.params.strHash) (hu : A.units + 40 < cLine) {l : Nat} {a : Addr} (ea : W.ρ[l]? = some a) : ∀ {ps : List (AV × AV)} {qs : List (Value × Value)} {σ : St} {s : Shared} {k : St → Bool} {Q : PUnit → Shared → Prop}, Rel os0 h₀ L m W σ s → All2 (PR W) ps qs → putsA l ps σ k = true →
    (∀ σ' s', Rel os0 h₀ L m W σ' s' → k σ' = true → Q PUnit.unit s') →
    wpAny (model prog w) A (forIn qs PUnit.unit fun (x : Value × Value) (_ : PUnit) => (do dictSet a x.1 x.2; pure (ForInStep.yield PUnit.unit) : Sem (ForInStep PUnit))) Q E s
  | [], qs, σ, s, k, Q, R, v, h, hQ => by
    obtain rfl := v.inv
    exact wpAny_pure (hQ _ _ R h)
  | p :: ps, qs, σ, s, k, Q, R, v, h, hQ => by
    apply v.onCons; intro q qr hp t
    rw [List.forIn_cons]
    exact wpAny_bind (wpAny_bind (putA_set hw hu R ea hp.1 hp.2 h fun σ' s' R' hk => wpAny_pure (putsA_ok hw hu ea R' t hk hQ)))
end
section
variable {M : Model} {A : Around} {E : Value → Shared → Prop} {s : Shared} {env : Env}
theorem xPairs_cons {k v : Sem Value} {rest : List (Sem Value × Sem Value)} {Q : List (Value × Value) → Shared → Prop}
    (h : wpX M A k (fun kv s₁ => wpX M A v (fun vv s₂ => wpX M A (evalPairs rest) (fun vs s₃ => Q ((kv, vv) :: vs) s₃) E s₂) E s₁) E s) :
    wpX M A (evalPairs ((k, v) :: rest)) Q E s := by
  rw [evalPairs]
  refine xbind (xmono h (fun kv s₁ h₁ => ?_) fun _ _ e => e)
  refine xbind (xhold (xmono h₁ (fun vv s₂ h₂ => ?_) fun _ _ e => e))
  exact xbind (xhold (xmono h₂ (fun vs s₃ h₃ => xpure h₃) fun _ _ e => e))
/-- what a dict's display evaluates -/
noncomputable def pairsOf (env : Env) (pos : Pos) : List (Option Expr) → List Expr → List (Sem Value × Sem Value)
  | some k :: ks, v :: vs => (eval k env, (do let x ← eval v env; standAt pos; pure x)) :: pairsOf env pos ks vs
  | _, _ => []
noncomputable def allKeys : List (Option Expr) → List Expr → Bool
  | [], vs => match vs with
    | [] => true
    | _ => false
  | k :: ks, vs => match k with
    | none => false
    | some _ => match vs with
      | [] => false
      | _ :: r => allKeys ks r
theorem pairs_are {pos : Pos} : ∀ {ks : List (Option Expr)} {vs : List Expr}, allKeys ks vs = true → (evalEachOpt ks env).zip ((evalEach vs env).map fun v => do let x ← v; standAt pos; pure x) = (pairsOf env pos ks vs).map (fun p => (some p.1, p.2)) ∧ (pairsOf env pos ks vs).length = ks.length
  | [], vs, h => by
    induction vs using List.casesOn with
    | nil => exact ⟨rfl, rfl⟩
    | cons _ _ => exact ff h
  | k :: ks, vs, h => by
    induction k using Option.casesOn with
    | none => exact ff h
    | some k =>
      induction vs using List.casesOn with
      | nil => exact ff h
      | cons v vs =>
        obtain ⟨h1, h2⟩ := pairs_are (ks := ks) (vs := vs) (pos := pos) h
        refine ⟨?_, congrArg (· + 1) h2⟩
        show (some (eval k env), _) :: _ = (some (eval k env), _) :: _
        rw [← h1]
        rfl
theorem xDict {ks : List (Option Expr)} {vs : List Expr} {pos : Pos} {Q : Value → Shared → Prop} (hk : allKeys ks vs = true) (h0 : ks ≠ []) (hlen : ks.length ≤ 15)
    (h : wpX M A (evalPairs (pairsOf env pos ks vs)) (fun ps s₁ => wpAny M A (forIn ps PUnit.unit fun (x : Value × Value) (_ : PUnit) => (do dictSet s.heap.objs.size x.1 x.2; pure (ForInStep.yield PUnit.unit) : Sem (ForInStep PUnit))) (fun _ s' => Q (.ref s.heap.objs.size) s') E s₁) E
      { s with heap := s.heap.push { cls := .type "dict", data := .dict #[] } }) : wpX M A (eval (.Dict ks vs pos) env) Q E s := by
  obtain ⟨p1, p2⟩ := pairs_are (env := env) (pos := pos) hk
  rw [arm_eval_Dict, p1, dictDisplay_pairs _ (by intro e; rw [e] at p2; exact h0 (List.length_eq_zero_iff.mp p2.symm)) (by omega)]
  refine xstand (xbind ?_)
  unfold subDict
  refine xleaf (wpAny_alloc ?_)
  refine xbind (xhold ?_)
  rw [if_pos (by omega)]
  refine xbind (xmono h (fun ps s₁ h₁ => ?_) fun _ _ e => e)
  refine xhold ?_
  exact xleaf (wpAny_mono h₁ (fun _ s' q => xpure (xpure (xpure q))) fun _ _ e => e)
end
noncomputable def evPairs (ev : EvT) (ae : AE) : List (Option Expr) → List Expr → St → (List (AV × AV) → St → Bool) → Bool
  | [], _, σ, k => k [] σ
  | ko :: ks, vs, σ, k => match ko with
    | none => false
    | some ke => match vs with
      | [] => false
      | ve :: r => ev ae ke σ fun a σ1 => ev ae ve σ1 fun b σ2 => evPairs ev ae ks r σ2 fun ps σ3 => k ((a, b) :: ps) σ3
noncomputable def evDict (ev : EvT) (ae : AE) (ks : List (Option Expr)) (vs : List Expr) (σ : St) (k : AV → St → Bool) : Bool := match allKeys ks vs && (Nat.ble 1 ks.length && Nat.ble ks.length 15) with
  | false => false
  | true => allocA σ (.dct [] 0) fun dv σ1 => match dv with
    | .loc l => evPairs ev ae ks vs σ1 fun ps σ2 => putsA l ps σ2 fun σ3 => k dv σ3
    | _ => false
section
variable {prog : Program} {w : World} {K : Frag} {p : Program} {loose : List Str} {mean : ExcName → Option Value} {mg mb : Str → Option Value} {os0 : (Array Nat → Int) × OsState}
variable {n : Nat} {A : Around} {base : Heap} {h₀ : Gd} {env : Env} {ae : AE} {L : Addr} {E : Value → Shared → Prop} {m : Str → Option Value} {W : Wd} {σ : St} {s : Shared}
theorem evPairs_ok {ev : EvT} (hev : EvOK prog w K p loose mean mg mb os0 n ev) (f : Fc K p loose mean mg mb n A base h₀ L) {pos : Pos} : ∀ (ks : List (Option Expr)) (vs : List Expr) {m : Str → Option Value} {W : Wd} {σ : St} {s : Shared} {k : List (AV × AV) → St → Bool} {Q : List (Value × Value) → Shared → Prop},
    EnvR W L ae env → Rel os0 h₀ L m W σ s → evPairs ev ae ks vs σ k = true → (∀ m' W' ps qs σ' s', W.le W' → Rel os0 h₀ L m' W' σ' s' → All2 (PR W') ps qs → k ps σ' = true → Q qs s') → wpX (model prog w) A (evalPairs (pairsOf env pos ks vs)) Q E s
  | [], vs, m, W, σ, s, k, Q, en, R, h, hQ => by
    have : pairsOf env pos [] vs = [] := by induction vs using List.casesOn <;> rfl
    rw [this]
    exact xpure (hQ _ _ _ _ _ _ W.le_refl R .nil h)
  | ko :: ks, vs, m, W, σ, s, k, Q, en, R, h, hQ => by
    induction ko using Option.casesOn with
    | none => exact ff h
    | some ke =>
      induction vs using List.casesOn with
      | nil => exact ff h
      | cons ve r =>
        show wpX _ _ (evalPairs ((eval ke env, (do let x ← eval ve env; standAt pos; pure x)) :: pairsOf env pos ks r)) _ _ _
        refine xPairs_cons (hev A base h₀ L env ae m W s E f en ke σ _ _ R (show ev ae ke σ _ = true from h) fun m1 W1 a ca σ1 s1 l1 R1 v1 h1 => ?_)
        refine xbind (hev A base h₀ L env ae m1 W1 s1 E f (en.mono l1) ve σ1 _ _ R1 h1 fun m2 W2 b cb σ2 s2 l2 R2 v2 h2 => xstand (xpure ?_))
        refine evPairs_ok hev f ks r (en.mono (W.le_trans l1 l2)) R2 h2 fun m3 W3 ps qs σ3 s3 l3 R3 v3 h3 => ?_
        exact hQ _ _ _ _ _ _ (W.le_trans l1 (W1.le_trans l2 l3)) R3 (.cons ⟨v1.mono (W1.le_trans l2 l3), v2.mono l3⟩ v3) h3
theorem evDict_ok (hw : os0.1 = w.params.strHash) {ev : EvT} (hev : EvOK prog w K p loose mean mg mb os0 n ev) (f : Fc K p loose mean mg mb n A base h₀ L) (en : EnvR W L ae env) {ks : List (Option Expr)} {vs : List Expr} {pos : Pos} {k : AV → St → Bool} {Q : Value → Shared → Prop} (R : Rel os0 h₀ L m W σ s) (h : evDict ev ae ks vs σ k = true)
    (hQ : ∀ m' W' v c σ' s', W.le W' → Rel os0 h₀ L m' W' σ' s' → VR W' v c → k v σ' = true → Q c s') : wpX (model prog w) A (eval (.Dict ks vs pos) env) Q E s := by
  refine Classical.byContradiction fun hgo => ?_
  obtain ⟨hc, h⟩ := mf h
  obtain ⟨c1, c2⟩ := an hc
  obtain ⟨c2, c3⟩ := an c2
  obtain ⟨R1, v1, h1⟩ := R.allocA (c := { cls := .type "dict", data := .dict #[] }) (show Mine.allocA σ (.dct [] 0) _ = true from h) (.dct .nil .nil)
  refine hgo ?_
  refine xDict c1 (fun e => by rw [e] at c2; exact ff c2) (Nat.le_of_ble_eq_true c3) ?_
  refine evPairs_ok hev f ks vs (en.mono (W.le_grow _)) R1 h1 fun m2 W2 ps qs σ2 s2 l2 R2 v2 h2 => ?_
  have ea := pre_get l2.1 (R.here s.heap.objs.size)
  exact putsA_ok hw f.room ea R2 v2 h2 fun σ3 s3 R3 h3 => hQ _ _ _ _ _ _ (W.le_trans (W.le_grow _) l2) R3 (.loc ea) h3
end
end Mine

namespace Mine
open PySem PySem.W PySem.Calls PyProof.Rows PySem.SeqAt
set_option maxRecDepth 100000

structure IP where
  ev : EvT
  is : IsT
  ex : ExT
  lv : Nat

noncomputable def noSets : List Expr → Bool
  | [] => true
  | e :: r => match notSet e with
    | true => noSets r
    | false => false
theorem noSets_last : ∀ {ops : List CmpOp} {rs : List Expr}, noSets rs = true → lastMarks ops rs = false
  | [], _, _ => by unfold lastMarks; rfl
  | _ :: ops, [], _ => by induction ops using List.casesOn <;> rfl
  | [op], [e], h => by
    unfold noSets at h
    cases he : notSet e with
    | false => rw [he] at h; exact ff h
    | true => induction e using PySem.Expr.casesOn <;> first | rfl | exact ff he
  | [op], e :: e' :: r, h => by
    unfold noSets at h
    obtain ⟨he, h⟩ := mt h
    show lastMarks [] (e' :: r) = false; unfold lastMarks; rfl
  | op :: op' :: ops, [e], h => by show lastMarks (op' :: ops) [] = false; induction ops using List.casesOn <;> rfl
  | op :: op' :: ops, e :: e' :: r, h => by
    unfold noSets at h
    obtain ⟨he, h⟩ := mt h
    show lastMarks (op' :: ops) (e' :: r) = false
    exact noSets_last h
theorem notSet_marks {op : CmpOp} {e : Expr} (h : notSet e = true) : behindInMarks op e = false := by
  induction e using PySem.Expr.casesOn <;> first | rfl | exact ff h

noncomputable def boolA (ev : EvT) (ae : AE) (op : BoolOp) : List Expr → St → (AV → St → Bool) → Bool
  | [], _, _ => false
  | e :: r, σ, k => match r with
    | [] => ev ae e σ k
    | _ => ev ae e σ fun v σ1 => truthA σ1 v fun b σ2 => match op with
      | .And => match b with
        | true => boolA ev ae op r σ2 k
        | false => k v σ2
      | .Or => match b with
        | true => k v σ2
        | false => boolA ev ae op r σ2 k
noncomputable def boolT (is : IsT) (ae : AE) (op : BoolOp) : List Expr → St → (Bool → St → Bool) → Bool
  | [], σ, k => match op with
    | .And => k true σ
    | .Or => k false σ
  | e :: r, σ, k => is ae e σ fun b σ1 => match op with
    | .And => match b with
      | true => boolT is ae op r σ1 k
      | false => k false σ1
    | .Or => match b with
      | true => k true σ1
      | false => boolT is ae op r σ1 k

/-- an attribute: a property's is asked of its maker -/
noncomputable def getX5 (k : AV → St → Bool) (u : AV) (σ : St) : Bool := match plainV u with
  | true => k u σ
  | false => false
noncomputable def getX4 (S : SE) (ex : ExT) (σ : St) (v : AV) (k : AV → St → Bool) (g : Addr) (p : AO) : Bool := onNs p fun _ => callFn S ex g [v] σ (getX5 k)
noncomputable def getX3 (S : SE) (ex : ExT) (σ : St) (v : AV) (x : Str) (k : AV → St → Bool) (d : Nat) (q : Option (Addr × Addr)) : Bool := match q with
  | some q => onO (σ.hp.get d) (getX4 S ex σ v k q.2)
  | none => getA S σ v x k
noncomputable def getX2 (S : SE) (ex : ExT) (σ : St) (v : AV) (x : Str) (k : AV → St → Bool) (d : Nat) (r : ClR) : Bool := getX3 S ex σ v x k d (lk x r.prp)
noncomputable def getX1 (S : SE) (ex : ExT) (σ : St) (v : AV) (x : Str) (k : AV → St → Bool) (C : Addr) (d : Nat) : Bool := onO (S.cl.get C) (getX2 S ex σ v x k d)
noncomputable def getX0 (S : SE) (ex : ExT) (σ : St) (v : AV) (x : Str) (k : AV → St → Bool) (o : AO) : Bool := onInst o (getX1 S ex σ v x k)
noncomputable def getX (S : SE) (ex : ExT) (σ : St) (v : AV) (x : Str) (k : AV → St → Bool) : Bool := onLoc v fun l => onO (σ.hp.get l) (getX0 S ex σ v x k)
noncomputable def evAttr (S : SE) (I : IP) (ae : AE) (o : Expr) (a : Str) (σ : St) (k : AV → St → Bool) : Bool := match notSuper o with
  | false => false
  | true => I.ev ae o σ fun v σ1 => getX S I.ex σ1 v a k
noncomputable def evSlc (_ : IP) (_ : AE) (_ : Expr) (_ _ : Option Expr) (_ : St) (_ : AV → St → Bool) : Bool := false
noncomputable def evSub (I : IP) (ae : AE) (ok : Bool) (v i : Expr) (σ : St) (k : AV → St → Bool) : Bool := match ok with
  | false => false
  | true => I.ev ae v σ fun a σ1 => I.ev ae i σ1 fun b σ2 => itemA σ2 a b k
noncomputable def cmpOK (ops : List CmpOp) (rs : List Expr) : Bool := noSets rs && (Nat.ble 1 ops.length && Nat.beq ops.length rs.length)
noncomputable def evCmp (I : IP) (ae : AE) (l : Expr) (ops : List CmpOp) (rs : List Expr) (σ : St) (k : AV → St → Bool) : Bool := match cmpOK ops rs with
  | false => false
  | true => I.ev ae l σ fun a σ1 => match ops, rs with
    | [op], [r] => I.ev ae r σ1 fun b σ2 => cmpV σ2 op a b k
    | _, _ => chA I.ev ae a ops rs σ1 k
noncomputable def evComp (S : SE) (I : IP) (ae : AE) (elt : Expr) (gens : List Comprehension) (sc : Scope) (σ : St) (k : AV → St → Bool) : Bool := match gens with
  | [] => false
  | g :: r => match r with
    | [] => match decide (g.is_async = 0) with
      | true => compA S I.ev I.is I.ex ae elt g.target g.iter g.ifs sc σ fun acc c σ1 => dropA σ1 c fun σ2 => k acc σ2
      | false => false
    | _ :: _ => false
noncomputable def evIf (I : IP) (ae : AE) (t b o : Expr) (σ : St) (k : AV → St → Bool) : Bool := I.is ae t σ fun r σ1 => match r with
  | true => I.ev ae b σ1 k
  | false => I.ev ae o σ1 k
noncomputable def evLit (I : IP) (ae : AE) (es : List Expr) (tup : Bool) (σ : St) (k : AV → St → Bool) : Bool := evList I.ev ae es σ fun vs σ1 => match Nat.ble vs.length 1000 with
  | false => false
  | true => match tup with
    | true => allocA σ1 (.tup vs) k
    | false => allocA σ1 (.lst vs) k
noncomputable def evBin (I : IP) (ae : AE) (l : Expr) (op : Operator) (r : Expr) (σ : St) (k : AV → St → Bool) : Bool := I.ev ae l σ fun a σ1 => I.ev ae r σ1 fun b σ2 => binK σ2 op a b k
noncomputable def evUn (I : IP) (ae : AE) (op : UnaryOp) (x : Expr) (σ : St) (k : AV → St → Bool) : Bool := I.ev ae x σ fun a σ1 => unA σ1 op a k
/-- what an expression is, at one look -/
inductive EV where
  | name (x : Str)
  | cst (c : Const)
  | attr (o : Expr) (a : Str)
  | bin (l : Expr) (op : Operator) (r : Expr)
  | un (op : UnaryOp) (x : Expr)
  | ife (t b o : Expr)
  | boo (op : BoolOp) (vs : List Expr)
  | cmp (l : Expr) (ops : List CmpOp) (rs : List Expr)
  | callA (ok : Bool) (o : Expr) (x : Str) (args : List Expr)
  | callN (ok : Bool) (x : Str) (args : List Expr)
  | sub (ok : Bool) (v i : Expr)
  | slc (v : Expr) (lo hi : Option Expr)
  | lst (es : List Expr)
  | tup (es : List Expr)
  | dct (ks : List (Option Expr)) (vs : List Expr)
  | lc (elt : Expr) (gens : List Comprehension) (sc : Scope)
  | no
noncomputable def viewE (e : Expr) : EV := match e with
  | .Name x _ => .name x
  | .Constant c _ _ => .cst c
  | .Attribute o a _ => .attr o a
  | .BinOp l op r _ => .bin l op r
  | .UnaryOp op x _ => .un op x
  | .IfExp t b o _ => .ife t b o
  | .BoolOp op vs _ => .boo op vs
  | .Compare l ops rs _ => .cmp l ops rs
  | .Call f args kws pos => match kws with
    | [] => match f with
      | .Attribute o x apos => .callA (okArgs o args apos pos) o x args
      | .Name x _ => .callN (noStars args) x args
      | _ => .no
    | _ :: _ => .no
  | .Subscript v i _ => match i with
    | .Slice lo hi st _ => match st with
      | none => .slc v lo hi
      | some _ => .no
    | _ => .sub (notSlice i) v i
  | .List es _ => .lst es
  | .Tuple es _ _ => .tup es
  | .Dict ks vs _ => .dct ks vs
  | .ListComp elt gens sc _ => .lc elt gens sc
  | _ => .no
theorem view_sub (v i : Expr) (pos : Pos) : (∃ lo hi sp, i = .Slice lo hi none sp ∧ viewE (.Subscript v i pos) = .slc v lo hi) ∨ viewE (.Subscript v i pos) = .sub (notSlice i) v i ∨ viewE (.Subscript v i pos) = .no := by
  induction i using PySem.Expr.casesOn with
  | Slice lo hi st sp =>
    induction st using Option.casesOn with
    | none => exact .inl ⟨_, _, _, rfl, rfl⟩
    | some _ => exact .inr (.inr rfl)
  | _ => exact .inr (.inl rfl)
theorem view_call (f : Expr) (args : List Expr) (pos : Pos) : (∃ o x apos, f = .Attribute o x apos ∧ viewE (.Call f args [] pos) = .callA (okArgs o args apos pos) o x args) ∨ (∃ x xp, f = .Name x xp ∧ viewE (.Call f args [] pos) = .callN (noStars args) x args) ∨ viewE (.Call f args [] pos) = .no := by
  induction f using PySem.Expr.casesOn with
  | Attribute o x apos => exact .inl ⟨_, _, _, rfl, rfl⟩
  | Name x xp => exact .inr (.inl ⟨_, _, rfl, rfl⟩)
  | _ => exact .inr (.inr rfl)
noncomputable def evDct (I : IP) (ae : AE) (ks : List (Option Expr)) (vs : List Expr) (σ : St) (k : AV → St → Bool) : Bool := match ks with
  | [] => match vs with
    | [] => allocA σ (.dct [] 0) k
    | _ :: _ => false
  | _ :: _ => evDict I.ev ae ks vs σ k
noncomputable def evV_name (x : Str) (S : SE) (I : IP) (ae : AE) (σ : St) (k : (AV → St → Bool)) : Bool := evName S ae x σ k
noncomputable def evV_cst (c : Const) (S : SE) (I : IP) (ae : AE) (σ : St) (k : (AV → St → Bool)) : Bool := evConst c σ k
noncomputable def evV_attr (o : Expr) (a : Str) (S : SE) (I : IP) (ae : AE) (σ : St) (k : (AV → St → Bool)) : Bool := evAttr S I ae o a σ k
noncomputable def evV_bin (l : Expr) (op : Operator) (r : Expr) (S : SE) (I : IP) (ae : AE) (σ : St) (k : (AV → St → Bool)) : Bool := evBin I ae l op r σ k
noncomputable def evV_un (op : UnaryOp) (x : Expr) (S : SE) (I : IP) (ae : AE) (σ : St) (k : (AV → St → Bool)) : Bool := evUn I ae op x σ k
noncomputable def evV_ife (t : Expr) (b : Expr) (o : Expr) (S : SE) (I : IP) (ae : AE) (σ : St) (k : (AV → St → Bool)) : Bool := evIf I ae t b o σ k
noncomputable def evV_boo (op : BoolOp) (vs : List Expr) (S : SE) (I : IP) (ae : AE) (σ : St) (k : (AV → St → Bool)) : Bool := boolA I.ev ae op vs σ k
noncomputable def evV_cmp (l : Expr) (ops : List CmpOp) (rs : List Expr) (S : SE) (I : IP) (ae : AE) (σ : St) (k : (AV → St → Bool)) : Bool := evCmp I ae l ops rs σ k
noncomputable def evV_callA (ok : Bool) (o : Expr) (x : Str) (args : List Expr) (S : SE) (I : IP) (ae : AE) (σ : St) (k : (AV → St → Bool)) : Bool := evCallA S I.ev I.ex ae ok o x args σ k
noncomputable def evV_callN (ok : Bool) (x : Str) (args : List Expr) (S : SE) (I : IP) (ae : AE) (σ : St) (k : (AV → St → Bool)) : Bool := evCallN S I.lv I.ev I.ex ae ok x args σ k
noncomputable def evV_sub (ok : Bool) (v : Expr) (i : Expr) (S : SE) (I : IP) (ae : AE) (σ : St) (k : (AV → St → Bool)) : Bool := evSub I ae ok v i σ k
noncomputable def evV_slc (v : Expr) (lo : Option Expr) (hi : Option Expr) (S : SE) (I : IP) (ae : AE) (σ : St) (k : (AV → St → Bool)) : Bool := evSlc I ae v lo hi σ k
noncomputable def evV_lst (es : List Expr) (S : SE) (I : IP) (ae : AE) (σ : St) (k : (AV → St → Bool)) : Bool := evLit I ae es false σ k
noncomputable def evV_tup (es : List Expr) (S : SE) (I : IP) (ae : AE) (σ : St) (k : (AV → St → Bool)) : Bool := evLit I ae es true σ k
noncomputable def evV_dct (ks : List (Option Expr)) (vs : List Expr) (S : SE) (I : IP) (ae : AE) (σ : St) (k : (AV → St → Bool)) : Bool := evDct I ae ks vs σ k
noncomputable def evV_lc (elt : Expr) (gens : List Comprehension) (sc : Scope) (S : SE) (I : IP) (ae : AE) (σ : St) (k : (AV → St → Bool)) : Bool := evComp S I ae elt gens sc σ k
noncomputable def evV_no (S : SE) (I : IP) (ae : AE) (σ : St) (k : (AV → St → Bool)) : Bool := false
noncomputable def evV (S : SE) (I : IP) (ae : AE) (v : EV) (σ : St) (k : AV → St → Bool) : Bool := EV.rec (motive := fun _ => SE → IP → AE → St → (AV → St → Bool) → Bool) evV_name evV_cst evV_attr evV_bin evV_un evV_ife evV_boo evV_cmp evV_callA evV_callN evV_sub evV_slc evV_lst evV_tup evV_dct evV_lc evV_no v S I ae σ k
noncomputable def evStep (S : SE) (I : IP) : EvT := fun ae e σ k => evV S I ae (viewE e) σ k

noncomputable def isCmp (I : IP) (ae : AE) (l : Expr) (ops : List CmpOp) (rs : List Expr) (σ : St) (k : Bool → St → Bool) : Bool := match cmpOK ops rs with
  | false => false
  | true => I.ev ae l σ fun a σ1 => chA I.ev ae a ops rs σ1 fun c σ2 => truthA σ2 c k
noncomputable def isNot (I : IP) (ae : AE) (op : UnaryOp) (x : Expr) (σ : St) (k : Bool → St → Bool) : Bool := match op with
  | .Not => I.is ae x σ fun r σ1 => k (!r) σ1
  | _ => false
noncomputable def isIf (I : IP) (ae : AE) (t b o : Expr) (σ : St) (k : Bool → St → Bool) : Bool := I.is ae t σ fun r σ1 => match r with
    | true => I.is ae b σ1 k
    | false => I.is ae o σ1 k
noncomputable def isEv (I : IP) (ae : AE) (e : Expr) (σ : St) (k : Bool → St → Bool) : Bool := I.ev ae e σ fun v σ1 => truthA σ1 v k
noncomputable def isV_name (z0 : Str) (I : IP) (ae : AE) (e : Expr) (σ : St) (k : (Bool → St → Bool)) : Bool := isEv I ae e σ k
noncomputable def isV_cst (z0 : Const) (I : IP) (ae : AE) (e : Expr) (σ : St) (k : (Bool → St → Bool)) : Bool := isEv I ae e σ k
noncomputable def isV_attr (z0 : Expr) (z1 : Str) (I : IP) (ae : AE) (e : Expr) (σ : St) (k : (Bool → St → Bool)) : Bool := isEv I ae e σ k
noncomputable def isV_bin (z0 : Expr) (z1 : Operator) (z2 : Expr) (I : IP) (ae : AE) (e : Expr) (σ : St) (k : (Bool → St → Bool)) : Bool := isEv I ae e σ k
noncomputable def isV_un (op : UnaryOp) (x : Expr) (I : IP) (ae : AE) (e : Expr) (σ : St) (k : (Bool → St → Bool)) : Bool := isNot I ae op x σ k
noncomputable def isV_ife (t : Expr) (b : Expr) (o : Expr) (I : IP) (ae : AE) (e : Expr) (σ : St) (k : (Bool → St → Bool)) : Bool := isIf I ae t b o σ k
noncomputable def isV_boo (op : BoolOp) (vs : List Expr) (I : IP) (ae : AE) (e : Expr) (σ : St) (k : (Bool → St → Bool)) : Bool := boolT I.is ae op vs σ k
noncomputable def isV_cmp (l : Expr) (ops : List CmpOp) (rs : List Expr) (I : IP) (ae : AE) (e : Expr) (σ : St) (k : (Bool → St → Bool)) : Bool := isCmp I ae l ops rs σ k
noncomputable def isV_callA (z0 : Bool) (z1 : Expr) (z2 : Str) (z3 : List Expr) (I : IP) (ae : AE) (e : Expr) (σ : St) (k : (Bool → St → Bool)) : Bool := isEv I ae e σ k
noncomputable def isV_callN (z0 : Bool) (z1 : Str) (z2 : List Expr) (I : IP) (ae : AE) (e : Expr) (σ : St) (k : (Bool → St → Bool)) : Bool := isEv I ae e σ k
noncomputable def isV_sub (z0 : Bool) (z1 : Expr) (z2 : Expr) (I : IP) (ae : AE) (e : Expr) (σ : St) (k : (Bool → St → Bool)) : Bool := isEv I ae e σ k
noncomputable def isV_slc (z0 : Expr) (z1 : Option Expr) (z2 : Option Expr) (I : IP) (ae : AE) (e : Expr) (σ : St) (k : (Bool → St → Bool)) : Bool := isEv I ae e σ k
noncomputable def isV_lst (z0 : List Expr) (I : IP) (ae : AE) (e : Expr) (σ : St) (k : (Bool → St → Bool)) : Bool := false
noncomputable def isV_tup (z0 : List Expr) (I : IP) (ae : AE) (e : Expr) (σ : St) (k : (Bool → St → Bool)) : Bool := false
noncomputable def isV_dct (z0 : List (Option Expr)) (z1 : List Expr) (I : IP) (ae : AE) (e : Expr) (σ : St) (k : (Bool → St → Bool)) : Bool := false
noncomputable def isV_lc (z0 : Expr) (z1 : List Comprehension) (z2 : Scope) (I : IP) (ae : AE) (e : Expr) (σ : St) (k : (Bool → St → Bool)) : Bool := false
noncomputable def isV_no (I : IP) (ae : AE) (e : Expr) (σ : St) (k : (Bool → St → Bool)) : Bool := false
noncomputable def isV (I : IP) (ae : AE) (e : Expr) (v : EV) (σ : St) (k : Bool → St → Bool) : Bool := EV.rec (motive := fun _ => IP → AE → Expr → St → (Bool → St → Bool) → Bool) isV_name isV_cst isV_attr isV_bin isV_un isV_ife isV_boo isV_cmp isV_callA isV_callN isV_sub isV_slc isV_lst isV_tup isV_dct isV_lc isV_no v I ae e σ k
noncomputable def isStep (I : IP) : IsT := fun ae e σ k => isV I ae e (viewE e) σ k

section
variable {prog : Program} {w : World} {K : Frag} {p : Program} {loose : List Str} {mean : ExcName → Option Value} {mg mb : Str → Option Value} {os0 : (Array Nat → Int) × OsState}
variable {n : Nat} {A : Around} {base : Heap} {h₀ : Gd} {env : Env} {ae : AE} {L : Addr} {E : Value → Shared → Prop} {m : Str → Option Value} {W : Wd} {σ : St} {s : Shared}

theorem boolA_ok {ev : EvT} (hev : EvOK prog w K p loose mean mg mb os0 n ev) (f : Fc K p loose mean mg mb n A base h₀ L) {op : BoolOp} {pos : Pos} :
    ∀ (es : List Expr) {m : Str → Option Value} {W : Wd} {σ : St} {s : Shared} {k : AV → St → Bool} {Q : Value → Shared → Prop}, EnvR W L ae env → Rel os0 h₀ L m W σ s → boolA ev ae op es σ k = true →
      (∀ m' W' v c σ' s', W.le W' → Rel os0 h₀ L m' W' σ' s' → VR W' v c → k v σ' = true → Q c s') → wpX (model prog w) A (eval (.BoolOp op es pos) env) Q E s
  | [], m, W, σ, s, k, Q, en, R, h, hQ => by unfold boolA at h; exact ff h
  | [e], m, W, σ, s, k, Q, en, R, h, hQ => by
    unfold boolA at h
    exact BoolOp_one (hev A base h₀ L env ae m W s E f en e σ _ _ R h hQ)
  | e :: e' :: r, m, W, σ, s, k, Q, en, R, h, hQ => by
    unfold boolA at h
    have main : wpX (model prog w) A (eval e env) (fun v s₁ => wpX (model prog w) A (truthy v) (fun c s₂ => match op with
        | .And => if c = true then wpX (model prog w) A (eval (.BoolOp .And (e' :: r) pos) env) Q E s₂ else Q v s₂
        | .Or => if c = true then Q v s₂ else wpX (model prog w) A (eval (.BoolOp .Or (e' :: r) pos) env) Q E s₂) E s₁) E s := by
      refine hev A base h₀ L env ae m W s E f en e σ _ _ R h fun m1 W1 v c σ1 s1 l1 R1 v1 h1 => ?_
      refine xof <| truthA_ok R1 v1 h1 fun b σ2 s2 R2 h2 => ?_
      induction op using PySem.BoolOp.casesOn with
      | And =>
        induction b using Bool.casesOn with
        | true =>
          rw [if_pos rfl]
          exact boolA_ok hev f (e' :: r) (en.mono l1) R2 h2 fun m' W' v' c' σ' s' l' => hQ m' W' v' c' σ' s' (W.le_trans l1 l')
        | false =>
          rw [if_neg (by decide)]
          exact hQ _ _ _ _ _ _ l1 R2 v1 h2
      | Or =>
        induction b using Bool.casesOn with
        | true =>
          rw [if_pos rfl]
          exact hQ _ _ _ _ _ _ l1 R2 v1 h2
        | false =>
          rw [if_neg (by decide)]
          exact boolA_ok hev f (e' :: r) (en.mono l1) R2 h2 fun m' W' v' c' σ' s' l' => hQ m' W' v' c' σ' s' (W.le_trans l1 l')
    induction op using PySem.BoolOp.casesOn with
    | And => exact BoolOp_and main
    | Or => exact BoolOp_or main
theorem boolT_ok {is : IsT} (his : IsOK prog w K p loose mean mg mb os0 n is) (f : Fc K p loose mean mg mb n A base h₀ L) {op : BoolOp} {pos : Pos} {whole : Sem Value} :
    ∀ (es : List Expr) {m : Str → Option Value} {W : Wd} {σ : St} {s : Shared} {k : Bool → St → Bool} {Q : Bool → Shared → Prop}, EnvR W L ae env → Rel os0 h₀ L m W σ s → boolT is ae op es σ k = true →
      (∀ m' W' r σ' s', W.le W' → Rel os0 h₀ L m' W' σ' s' → k r σ' = true → Q r s') → wpX (model prog w) A (PySem.isTrue (.BoolOp op es pos) env whole) Q E s
  | [], m, W, σ, s, k, Q, en, R, h, hQ => by
    unfold boolT at h
    induction op using PySem.BoolOp.casesOn with
    | And => exact xof <| isTrue_and_nil (hQ _ _ _ _ _ W.le_refl R h)
    | Or => exact xof <| isTrue_or_nil (hQ _ _ _ _ _ W.le_refl R h)
  | e :: r, m, W, σ, s, k, Q, en, R, h, hQ => by
    unfold boolT at h
    induction op using PySem.BoolOp.casesOn with
    | And =>
      refine isTrue_and (his A base h₀ L env ae m W s E f en e σ _ _ R h fun m1 W1 b σ1 s1 l1 R1 h1 => ?_)
      induction b using Bool.casesOn with
      | true =>
        rw [if_pos rfl]
        exact boolT_ok his f r (en.mono l1) R1 h1 fun m' W' v' σ' s' l' => hQ m' W' v' σ' s' (W.le_trans l1 l')
      | false =>
        rw [if_neg (by decide)]
        exact hQ _ _ _ _ _ l1 R1 h1
    | Or =>
      refine isTrue_or (his A base h₀ L env ae m W s E f en e σ _ _ R h fun m1 W1 b σ1 s1 l1 R1 h1 => ?_)
      induction b using Bool.casesOn with
      | true =>
        rw [if_pos rfl]
        exact hQ _ _ _ _ _ l1 R1 h1
      | false =>
        rw [if_neg (by decide)]
        exact boolT_ok his f r (en.mono l1) R1 h1 fun m' W' v' σ' s' l' => hQ m' W' v' σ' s' (W.le_trans l1 l')

structure Snd (prog : Program) (w : World) (K : Frag) (p : Program) (loose : List Str) (mean : ExcName → Option Value) (mg mb : Str → Option Value) (os0 : (Array Nat → Int) × OsState) (n : Nat) (I : IP) : Prop where
  ev : EvOK prog w K p loose mean mg mb os0 n I.ev
  is : IsOK prog w K p loose mean mg mb os0 n I.is
  ex : ExOK prog w K p loose mean mg mb os0 n I.ex
  lv : I.lv ≤ n

theorem getX_ok {S : SE} (G : EnvOK w os0 K S) {ex : ExT} (hex : ExOK prog w K p loose mean mg mb os0 n ex) (f : Fc K p loose mean mg mb (n + 1) A base h₀ L) (R : Rel os0 h₀ L m W σ s) {v : AV} {c : Value} {x : Str} {k : AV → St → Bool} {Q : Value → Shared → Prop} {b : Bool} (hv : VR W v c) (h : getX S ex σ v x k = true)
    (hQ : ∀ W' v c σ' s', W.le W' → Rel os0 h₀ L m W' σ' s' → VR W' v c → k v σ' = true → Q c s') : wpX (model prog w) A (getAttr c x b) Q E s := by
  obtain ⟨l, rfl, h⟩ := onLoc_is h
  obtain ⟨o, h1, h⟩ := onO_is h
  obtain ⟨C, d, rfl, h⟩ := onInst_is (show onInst o _ = true from h)
  obtain ⟨r, hC, h⟩ := onO_is (show onO (S.cl.get C) _ = true from h)
  replace h : getX3 S ex σ (.loc l) x k d (lk x r.prp) = true := h
  cases hp : lk x r.prp with
  | none =>
    rw [hp] at h
    exact xof <| getA_ok G R (f.now R.fr) hv h fun v c s' R' hv hk => hQ _ _ _ _ _ W.le_refl R' hv hk
  | some q =>
  rw [hp] at h
  obtain ⟨p, h2, h⟩ := onO_is (show onO (σ.hp.get d) _ = true from h)
  obtain ⟨fs, rfl, h⟩ := onNs_is (show onNs p _ = true from h)
  cases hv with
  | loc ea =>
    obtain ⟨dx, es, kk, e1, e2, e3, e4, e5⟩ := R.inst h1 h2 ea
    have Y := G.C C r hC
    have XS := f.now R.fr
    obtain ⟨p1, p2, p3, rest, p4⟩ := Y.pr x q hp
    have hcl : (clsIn K C).isSome = true := by
      have := Y.hd
      cases q : clsIn K C with
      | none => rw [q] at this; exact ff this
      | some _ => rfl
    have f' : Fc K p loose mean mg mb n A.in1 base h₀ L :=
      ⟨let ⟨A₀, fe, ou, B, h1, h2, h3⟩ := f.fs; ⟨A₀, fe, ou, B, h1, h2, h3⟩, f.XB, f.TB, f.hh, by show A.depth + _ ≤ _; have := f.hd; omega, by show A.units + 1 + _ ≤ _; have := f.hu; omega⟩
    refine xget_prop XS e5 Y.ga (findObj_data hcl p1 p2 p3) Y.gt p4 ?_
    refine callFn_ok G.F hex f' (by show A.depth + 1 + 3 * n ≤ 990; have := f.hd; omega) (by show A.units + 1 + 3 + 12 * n ≤ 9800; have := f.hu; omega) (R.toks _) (.cons (.loc ea) .nil) h fun W' v c σ' s' lw R' hv hk => ?_
    obtain ⟨hpl, hk⟩ := mt hk
    exact ⟨plainV_is hv hpl, hQ _ _ _ _ _ lw R' hv hk⟩
theorem evAttr_ok {S : SE} (G : EnvOK w os0 K S) {I : IP} (H : Snd prog w K p loose mean mg mb os0 n I) (f : Fc K p loose mean mg mb (n + 1) A base h₀ L) (en : EnvR W L ae env) {o : Expr} {a : Str} {pos : Pos} {k : AV → St → Bool} {Q : Value → Shared → Prop} (R : Rel os0 h₀ L m W σ s) (h : evAttr S I ae o a σ k = true)
    (hQ : ∀ m' W' v c σ' s', W.le W' → Rel os0 h₀ L m' W' σ' s' → VR W' v c → k v σ' = true → Q c s') : wpX (model prog w) A (eval (.Attribute o a pos) env) Q E s := by
  obtain ⟨hn, h⟩ := mf h
  refine Attribute_any_ (H.ev A base h₀ L env ae m W s E (f.less (Nat.le_succ n)) en o σ _ _ R h fun m1 W1 v c σ1 s1 l1 R1 v1 h1 => ?_) (attr_eq hn)
  exact getX_ok G H.ex f R1 v1 h1 fun W' v c σ' s' l2 R' hv hk => hQ _ _ _ _ _ _ (W.le_trans l1 l2) R' hv hk
theorem len_one {α : Type} {l : List α} (h : Nat.beq 1 l.length = true) : ∃ x, l = [x] := by
  induction l using List.casesOn with
  | nil => exact ff h
  | cons x r =>
    induction r using List.casesOn with
    | nil => exact ⟨x, rfl⟩
    | cons _ _ => exact ff h
theorem noSets_mark {r : Expr} {op : CmpOp} (h : noSets [r] = true) : behindInMarks op r = false := notSet_marks (mt h).1
theorem evCmp_ok {S : SE} (G : EnvOK w os0 K S) {I : IP} (H : Snd prog w K p loose mean mg mb os0 n I) (f : Fc K p loose mean mg mb (n + 1) A base h₀ L) (en : EnvR W L ae env) {l : Expr} {ops : List CmpOp} {rs : List Expr} {pos : Pos} {k : AV → St → Bool} {Q : Value → Shared → Prop} (R : Rel os0 h₀ L m W σ s) (h : evCmp I ae l ops rs σ k = true)
    (hQ : ∀ m' W' v c σ' s', W.le W' → Rel os0 h₀ L m' W' σ' s' → VR W' v c → k v σ' = true → Q c s') : wpX (model prog w) A (eval (.Compare l ops rs pos) env) Q E s := by
  have f' := f.less (Nat.le_succ n)
  obtain ⟨hc, h⟩ := mf h
  obtain ⟨hn, hn2⟩ := an hc
  obtain ⟨n1, n2⟩ := an hn2
  clear hc hn2
  induction ops using List.casesOn with
  | nil => exact ff n1
  | cons op ops =>
    induction rs using List.casesOn with
    | nil => exact ff n2
    | cons r rs =>
      induction ops using List.casesOn with
      | nil =>
        induction rs using List.casesOn with
        | cons _ _ => exact ff n2
        | nil =>
          refine Compare1 (H.ev A base h₀ L env ae m W s E f' en l σ _ _ R h fun m1 W1 v c σ1 s1 l1 R1 v1 h1 => ?_) (noSets_mark hn)
          refine H.ev A base h₀ L env ae m1 W1 s1 E f' (en.mono l1) r σ1 _ _ R1 h1 fun m2 W2 v' c' σ2 s2 l2 R2 v2 h2 => ?_
          exact xof <| cmpV_ok G.wd R2 f.room (v1.mono l2) v2 h2 fun σ' v c s3 R' hv hk => hQ _ _ _ _ _ _ (W.le_trans l1 l2) R' hv hk
      | cons op' ops =>
        induction rs using List.casesOn with
        | nil => exact ff n2
        | cons r' rs =>
          refine Compare_chain (H.ev A base h₀ L env ae m W s E f' en l σ _ _ R h fun m1 W1 v c σ1 s1 l1 R1 v1 h1 => ?_) (noSets_last hn)
          exact chA_ok G.wd H.ev f' (op :: op' :: ops) (r :: r' :: rs) (en.mono l1) R1 v1 h1 fun m' W' v c σ' s' l' => hQ m' W' v c σ' s' (W.le_trans l1 l')
theorem evSub_ok {S : SE} (G : EnvOK w os0 K S) {I : IP} (H : Snd prog w K p loose mean mg mb os0 n I) (f : Fc K p loose mean mg mb (n + 1) A base h₀ L) (en : EnvR W L ae env) {v i : Expr} {pos : Pos} {k : AV → St → Bool} {Q : Value → Shared → Prop} (R : Rel os0 h₀ L m W σ s) (h : evSub I ae (notSlice i) v i σ k = true)
    (hQ : ∀ m' W' v c σ' s', W.le W' → Rel os0 h₀ L m' W' σ' s' → VR W' v c → k v σ' = true → Q c s') : wpX (model prog w) A (eval (.Subscript v i pos) env) Q E s := by
  have f' := f.less (Nat.le_succ n)
  obtain ⟨hn, h⟩ := mf h
  refine Subscript_ (H.ev A base h₀ L env ae m W s E f' en _ σ _ _ R h fun m1 W1 v c σ1 s1 l1 R1 v1 h1 => ?_)
  refine H.ev A base h₀ L env ae m1 W1 s1 E f' (en.mono l1) _ σ1 _ _ R1 h1 fun m2 W2 v' c' σ2 s2 l2 R2 v2 h2 => ?_
  exact xof <| itemA_ok G.wd f.room R2 hn (v1.mono l2) v2 h2 fun W' v c σ' s' l3 => hQ _ _ _ _ _ _ (W.le_trans l1 (W1.le_trans l2 l3))
theorem lit_new {cls : String} {o : AO} {vs : List AV} {cs : List Value} {k : AV → St → Bool} {Q : Value → Shared → Prop} (R : Rel os0 h₀ L m W σ s) (v1 : All2 (VR W) vs cs) (h : (match Nat.ble vs.length 1000 with
      | false => false
      | true => allocA σ o k) = true) (ho : ∀ W', W.le W' → OR W' o { cls := .type cls, data := .seq cs.toArray }) (hQ : ∀ W' v c σ' s', W.le W' → Rel os0 h₀ L m W' σ' s' → VR W' v c → k v σ' = true → Q c s') : wpX (model prog w) A (newObj (.type cls) (.seq cs.toArray)) Q E s := by
  obtain ⟨hn, h⟩ := mf h
  refine xof (wpAny_newObj_type ?_ (by show cs.toArray.size ≤ sizeLine; rw [sizeLine_eq, List.size_toArray, ← v1.length]; exact Nat.le_trans (Nat.le_of_ble_eq_true hn) (by decide)))
  obtain ⟨R', v', h'⟩ := R.allocA (c := { cls := .type cls, data := .seq cs.toArray }) h (ho _ (W.le_grow _))
  exact hQ _ _ _ _ _ (W.le_grow _) R' v' h'
theorem evComp_ok {S : SE} (G : EnvOK w os0 K S) {I : IP} (H : Snd prog w K p loose mean mg mb os0 n I) (f : Fc K p loose mean mg mb (n + 1) A base h₀ L) (en : EnvR W L ae env) {elt : Expr} {gens : List Comprehension} {sc : Scope} {pos : Pos} {k : AV → St → Bool} {Q : Value → Shared → Prop} (R : Rel os0 h₀ L m W σ s) (h : evComp S I ae elt gens sc σ k = true)
    (hQ : ∀ m' W' v c σ' s', W.le W' → Rel os0 h₀ L m' W' σ' s' → VR W' v c → k v σ' = true → Q c s') : wpX (model prog w) A (eval (.ListComp elt gens sc pos) env) Q E s := by
  induction gens using List.casesOn with
  | nil => exact ff h
  | cons g r =>
    induction r using List.casesOn with
    | cons _ _ => exact ff h
    | nil =>
    obtain ⟨t, i, ifs, isa⟩ := g
    obtain ⟨ha, h⟩ := mt (show (match decide (isa = 0) with | true => _ | false => false) = true from h)
    obtain rfl := of_decide_eq_true ha
    rw [eval_ListComp]
    refine compA_ok G H.ev H.is H.ex f en (use := none) R h fun m' W' acc ca c C σ' s' l' R' va hc hfs hk => ?_
    obtain ⟨fs, hfs⟩ := hfs
    obtain ⟨o, k1, k2⟩ := R'.ref hfs hc
    obtain ⟨_, _, _, e1, e2, e3, e4⟩ := k1.inv
    refine ⟨_, ⟨_, _, _, k2, e1, e2, e3⟩, fun h'' hs => ?_⟩
    obtain ⟨R2, hk2⟩ := dropA_ok (s' := { s' with heap := h'' }) R' hfs hc hs.extBut rfl rfl hk
    exact hQ _ _ _ _ _ _ l' R2 va hk2
theorem evStep_ok {S : SE} (G : EnvOK w os0 K S) {I : IP} (H : Snd prog w K p loose mean mg mb os0 n I) : EvOK prog w K p loose mean mg mb os0 (n + 1) (evStep S I) := by
  intro A base h₀ L env ae m W s E f en e σ k Q R h hQ
  have f' := f.less (Nat.le_succ n)
  induction e using PySem.Expr.casesOn with
  | Name x p => exact xof <| evName_ok G.G f' en R h hQ
  | Constant c p q => exact xof (evConst_ok R h hQ)
  | Attribute o a pos => exact evAttr_ok G H f en R h hQ
  | BinOp l op r pos =>
    refine BinOp' (H.ev A base h₀ L env ae m W s E f' en _ σ _ _ R h fun m1 W1 v c σ1 s1 l1 R1 v1 h1 => ?_)
    refine H.ev A base h₀ L env ae m1 W1 s1 E f' (en.mono l1) _ σ1 _ _ R1 h1 fun m2 W2 v' c' σ2 s2 l2 R2 v2 h2 => ?_
    exact xof <| binK_ok f.hh R2 (v1.mono l2) v2 h2 fun W' v c σ' s' l3 => hQ _ _ _ _ _ _ (W.le_trans l1 (W1.le_trans l2 l3))
  | UnaryOp op x pos =>
    refine UnaryOp_ (H.ev A base h₀ L env ae m W s E f' en _ σ _ _ R h fun m1 W1 v c σ1 s1 l1 R1 v1 h1 => ?_)
    exact xof <| unA_ok R1 v1 h1 fun v c σ' s' R' hv hk => hQ _ _ _ _ _ _ l1 R' hv hk
  | IfExp t b o pos =>
    refine IfExp_ (H.is A base h₀ L env ae m W s E f' en _ σ _ _ R h fun m1 W1 r σ1 s1 l1 R1 h1 => ?_)
    induction r using Bool.casesOn with
    | true => rw [if_pos rfl]; exact H.ev A base h₀ L env ae m1 W1 s1 E f' (en.mono l1) _ σ1 _ _ R1 h1 fun m' W' v c σ' s' l' => hQ m' W' v c σ' s' (W.le_trans l1 l')
    | false => rw [if_neg Bool.false_ne_true]; exact H.ev A base h₀ L env ae m1 W1 s1 E f' (en.mono l1) _ σ1 _ _ R1 h1 fun m' W' v c σ' s' l' => hQ m' W' v c σ' s' (W.le_trans l1 l')
  | BoolOp op vs pos => exact boolA_ok H.ev f' _ en R h hQ
  | Compare l ops rs pos => exact evCmp_ok G H f en R h hQ
  | Call fn args kws pos =>
    induction kws using List.casesOn with
    | nil =>
      replace h : evV S I ae (viewE (.Call fn args [] pos)) σ k = true := h
      rcases view_call fn args pos with ⟨o, x, apos, rfl, e⟩ | ⟨x, xp, rfl, e⟩ | e
      · exact evCallA_ok G H.lv H.ev H.ex f en R h hQ
      · exact evCallN_ok G H.lv H.ev H.ex f en R h hQ
      · rw [e] at h; exact ff h
    | cons _ _ => exact ff h
  | Subscript v i pos =>
    replace h : evV S I ae (viewE (.Subscript v i pos)) σ k = true := h
    rcases view_sub v i pos with ⟨lo, hi, sp, rfl, e⟩ | e | e
    · exact ff h
    · rw [e] at h; exact evSub_ok G H f en R h hQ
    · rw [e] at h; exact ff h
  | List es pos => exact List_ (evList_ok H.ev f' es en R h fun m1 W1 vs cs σ1 s1 l1 R1 v1 h1 => lit_new (o := .lst vs) R1 v1 h1 (fun W' l => .lst (v1.imp fun _ _ q => q.mono l)) fun W' v c σ' s' l2 => hQ m1 W' v c σ' s' (W.le_trans l1 l2))
  | Tuple es kk pos => exact Tuple_ (evList_ok H.ev f' es en R h fun m1 W1 vs cs σ1 s1 l1 R1 v1 h1 => lit_new (o := .tup vs) R1 v1 h1 (fun W' l => .tup (v1.imp fun _ _ q => q.mono l)) fun W' v c σ' s' l2 => hQ m1 W' v c σ' s' (W.le_trans l1 l2))
  | Dict ks vs pos =>
    induction ks using List.casesOn with
    | cons _ _ =>
      exact evDict_ok G.wd H.ev f' en R h hQ
    | nil =>
      induction vs using List.casesOn with
      | cons _ _ => exact ff h
      | nil =>
        refine xof (wpAny_Dict_empty ?_)
        obtain ⟨R', v', h'⟩ := R.allocA (c := { cls := .type "dict", data := .dict #[] }) h (.dct .nil .nil)
        exact hQ _ _ _ _ _ _ (W.le_grow _) R' v' h'
  | ListComp elt gens sc pos => exact evComp_ok G H f en R h hQ
  | _ => exact ff h
end
end Mine

namespace Mine
open PySem PySem.W PySem.Calls PyProof.Rows PySem.SeqAt
set_option maxRecDepth 100000

/-! ## statements -/
noncomputable def notComp : Expr → Bool
  | .ListComp .. => false
  | .SetComp .. => false
  | .DictComp .. => false
  | _ => true
theorem swaps_no {e : Expr} {t : Option Expr} {l : Nat} {env : Env} (h : notComp e = true) : swapsWith e t l env = pure false := by
  induction e using PySem.Expr.casesOn <;> first | rfl | exact ff h
noncomputable def notName : Expr → Bool
  | .Name .. => false
  | _ => true
theorem swaps_other {e t : Expr} {l : Nat} {env : Env} (h : notName t = true) : swapsWith e (some t) l env = pure false := by
  have key : ∀ {α : Type} {x y : α} {f : Str → Pos → α}, (match some t with | none => x | some (.Name a b) => f a b | some _ => y) = y := by
    intro α x y f
    induction t using PySem.Expr.casesOn <;> first | rfl | exact ff h
  induction e using PySem.Expr.casesOn <;> first | rfl | exact key
noncomputable def notTup : Expr → Bool
  | .Tuple .. => false
  | _ => true
theorem swapped_no {t e : Expr} {env : Env} (h : notTup e = true) : swappedStores [t] e env = pure none := by
  induction t using PySem.Expr.casesOn with
  | Tuple ts k p => induction e using PySem.Expr.casesOn <;> first | rfl | exact ff h
  | List ts p => induction e using PySem.Expr.casesOn <;> first | rfl | exact ff h
  | _ => rfl

noncomputable def swapA (ae : AE) (t : Str) (pos : Pos) (vpos : Pos) (sc : Scope) : Bool := onO (lk t ae.sc.names) fun q => match q with
  | .local => match Nat.beq pos.line vpos.line with
    | true => (lk t sc.names).isNone
    | false => false
  | _ => false
noncomputable def forL (I : IP) (ae : AE) (t : Expr) (it : AV) (body orelse : List Stmt) : Nat → St → (Fl → St → Bool) → Bool
  | 0, _, _ => false
  | n + 1, σ, k => nextA σ it fun o σ1 => match o with
    | none => I.ex ae orelse σ1 k
    | some x => match ownA t it σ1 with
      | true => asgA ae t x σ1 fun σ2 => I.ex ae body σ2 fun f σ3 => match f with
        | .next => forL I ae t it body orelse n σ3 k
        | .cont => forL I ae t it body orelse n σ3 k
        | .brk => k .next σ3
        | .ret v => k (.ret v) σ3
      | false => false
noncomputable def stFor (I : IP) (ae : AE) (t i : Expr) (body orelse : List Stmt) (σ : St) (k : Fl → St → Bool) : Bool := match notSet i with
  | false => false
  | true => I.ev ae i σ fun v σ1 => iterA σ1 v fun it σ2 => forL I ae t it body orelse 1000 σ2 k
noncomputable def stIf (I : IP) (ae : AE) (t : Expr) (b o : List Stmt) (σ : St) (k : Fl → St → Bool) : Bool := I.is ae t σ fun r σ1 => match r with
  | true => I.ex ae b σ1 k
  | false => I.ex ae o σ1 k
noncomputable def stNameK (c : Nat) (k : Fl → St → Bool) (σ : St) : Bool := onO ((σ.hp.get c).bind envOf) fun _ => dropA σ c fun σ3 => k .next σ3
noncomputable def stNameC (S : SE) (I : IP) (ae : AE) (x : Str) (xp : Pos) (elt : Expr) (gens : List Comprehension) (sc : Scope) (pos : Pos) (σ : St) (k : Fl → St → Bool) : Bool := match gens with
  | [] => false
  | g :: r => match r.isEmpty && (g.ifs.isEmpty && (decide (g.is_async = 0) && swapA ae x xp pos sc)) with
    | true => compA S I.ev I.is I.ex ae elt g.target g.iter [] sc σ fun acc c σ1 => stoA ae x acc σ1 (stNameK c k)
    | false => false
noncomputable def stName (S : SE) (I : IP) (ae : AE) (x : Str) (e : Expr) (σ : St) (k : Fl → St → Bool) : Bool := I.ev ae e σ fun v σ1 => stoA ae x v σ1 fun σ2 => k .next σ2
noncomputable def stAttr (S : SE) (I : IP) (ae : AE) (o : Expr) (a : Str) (e : Expr) (σ : St) (k : Fl → St → Bool) : Bool :=
  I.ev ae e σ fun v σ1 => I.ev ae o σ1 fun w σ2 => setA S σ2 w a v fun σ3 => k .next σ3
noncomputable def stSub (I : IP) (ae : AE) (o i : Expr) (e : Expr) (σ : St) (k : Fl → St → Bool) : Bool :=
  I.ev ae e σ fun v σ1 => I.ev ae o σ1 fun w σ2 => I.ev ae i σ2 fun j σ3 => setItA σ3 w j v fun σ4 => k .next σ4
/-- names and attributes that take the things of a tuple -/
noncomputable def asgT (S : SE) (I : IP) (ae : AE) : List Expr → List AV → St → (St → Bool) → Bool
  | [], vs, σ, k => match vs with
    | [] => k σ
    | _ => false
  | t :: ts, vs, σ, k => match vs with
    | [] => false
    | v :: r => match t with
      | .Name x _ => stoA ae x v σ fun σ' => asgT S I ae ts r σ' k
      | .Attribute o a _ => I.ev ae o σ fun w σ1 => setA S σ1 w a v fun σ2 => asgT S I ae ts r σ2 k
      | _ => false
noncomputable def allTgts : List Expr → Bool
  | [] => true
  | t :: r => match t with
    | .Name .. => allTgts r
    | .Attribute .. => allTgts r
    | _ => false
noncomputable def tupT (S : SE) (I : IP) (ae : AE) (elts : List Expr) (v : AV) (σ : St) (k : St → Bool) : Bool := match v with
  | .loc l => onO ((σ.hp.get l).bind tupOf) fun vs => match Nat.beq vs.length elts.length && allTgts elts with
    | true => asgT S I ae elts vs σ k
    | false => false
  | _ => false
noncomputable def tupR (ae : AE) (names : List Str) (v : AV) (σ : St) (k : St → Bool) : Bool := match v with
  | .loc l => onO ((σ.hp.get l).bind tupOf) fun vs => match Nat.beq vs.length names.length with
    | true => asgR ae names.reverse vs.reverse σ k
    | false => false
  | _ => false
noncomputable def stTup (S : SE) (I : IP) (ae : AE) (elts : List Expr) (e : Expr) (σ : St) (k : Fl → St → Bool) : Bool := match e with
  | .Tuple vs _ _ => onO (swapR ae elts vs) fun r => I.ev ae e σ fun v σ1 => match r with
    | none => tupT S I ae elts v σ1 fun σ2 => k .next σ2
    | some names => tupR ae names v σ1 fun σ2 => k .next σ2
  | _ => I.ev ae e σ fun v σ1 => tupT S I ae elts v σ1 fun σ2 => k .next σ2
noncomputable def whL (I : IP) (ae : AE) (t : Expr) (body orelse : List Stmt) : Nat → St → (Fl → St → Bool) → Bool
  | 0, _, _ => false
  | n + 1, σ, k => I.is ae t σ fun b σ1 => match b with
    | true => I.ex ae body σ1 fun f σ2 => match f with
      | .next => whL I ae t body orelse n σ2 k
      | .cont => whL I ae t body orelse n σ2 k
      | .brk => k .next σ2
      | .ret v => k (.ret v) σ2
    | false => I.ex ae orelse σ1 k
noncomputable def stAug (I : IP) (ae : AE) (x : Str) (op : Operator) (e : Expr) (σ : St) (k : Fl → St → Bool) : Bool := match ae.own with
  | some _ => false
  | none => onO (lk x ae.sc.names) fun q => match q with
    | .local => onO (lk x σ.lc) fun old => I.ev ae e σ fun v σ1 => iopA σ1 op old v fun r σ2 => stoA ae x r σ2 fun σ3 => k .next σ3
    | _ => false
noncomputable def stAugA (S : SE) (I : IP) (ae : AE) (o : Expr) (a : Str) (op : Operator) (e : Expr) (σ : St) (k : Fl → St → Bool) : Bool :=
  I.ev ae o σ fun ov σ1 => getA S σ1 ov a fun old σ2 => I.ev ae e σ2 fun v σ3 => iopA σ3 op old v fun r σ4 => setA S σ4 ov a r fun σ5 => k .next σ5
/-- what a statement is, at one look -/
inductive SV where
  | asgN (x : Str) (e : Expr)
  | asgC (x : Str) (xp : Pos) (elt : Expr) (gens : List Comprehension) (sc : Scope) (pos : Pos)
  | asgA (o : Expr) (a : Str) (e : Expr)
  | asgS (o i e : Expr)
  | asgT (elts : List Expr) (e : Expr)
  | ifS (t : Expr) (b o : List Stmt)
  | ret (e : Expr)
  | ret0
  | expr (e : Expr)
  | forS (t i : Expr) (b o : List Stmt)
  | augN (x : Str) (op : Operator) (e : Expr)
  | augA (o : Expr) (a : Str) (op : Operator) (e : Expr)
  | whi (t : Expr) (b o : List Stmt)
  | fl (f : Fl)
  | tryS (e : Expr) (x : Str)
  | no
noncomputable def viewN (x : Str) (xp : Pos) (e : Expr) : SV := match e with
  | .ListComp elt gens sc pos => .asgC x xp elt gens sc pos
  | .SetComp .. => .no
  | .DictComp .. => .no
  | _ => .asgN x e
noncomputable def viewS (st : Stmt) : SV := match st with
  | .Assign ts e _ => match ts with
    | [] => .no
    | t :: r => match r with
      | [] => match t with
        | .Name x xp => viewN x xp e
        | .Attribute o a _ => .asgA o a e
        | .Subscript o i _ => .asgS o i e
        | .Tuple elts _ _ => .asgT elts e
        | _ => .no
      | _ :: _ => .no
  | .If t b o _ => .ifS t b o
  | .Return o _ => match o with
    | some e => .ret e
    | none => .ret0
  | .Expr e _ => .expr e
  | .For t i b o _ => .forS t i b o
  | .AugAssign t op e _ => match t with
    | .Name x _ => .augN x op e
    | .Attribute o a _ => .augA o a op e
    | _ => .no
  | .While t b o _ => .whi t b o
  | .Pass _ => .fl .next
  | .Break _ => .fl .brk
  | .Continue _ => .fl .cont
  | _ => .no
noncomputable def stRet (I : IP) (ae : AE) (e : Expr) (σ : St) (k : Fl → St → Bool) : Bool := I.ev ae e σ fun v σ1 => k (.ret v) σ1
noncomputable def stExpr (I : IP) (ae : AE) (e : Expr) (σ : St) (k : Fl → St → Bool) : Bool := match notComp e with
  | true => I.ev ae e σ fun _ σ1 => k .next σ1
  | false => false
noncomputable def stTry (_ : SE) (_ : IP) (_ : AE) (_ : Expr) (_ : Str) (_ : St) (_ : Fl → St → Bool) : Bool := false
noncomputable def stV_asgN (x : Str) (e : Expr) (S : SE) (I : IP) (ae : AE) (σ : St) (k : (Fl → St → Bool)) : Bool := stName S I ae x e σ k
noncomputable def stV_asgC (x : Str) (xp : Pos) (elt : Expr) (gens : List Comprehension) (sc : Scope) (pos : Pos) (S : SE) (I : IP) (ae : AE) (σ : St) (k : (Fl → St → Bool)) : Bool := stNameC S I ae x xp elt gens sc pos σ k
noncomputable def stV_asgA (o : Expr) (a : Str) (e : Expr) (S : SE) (I : IP) (ae : AE) (σ : St) (k : (Fl → St → Bool)) : Bool := stAttr S I ae o a e σ k
noncomputable def stV_asgS (o : Expr) (i : Expr) (e : Expr) (S : SE) (I : IP) (ae : AE) (σ : St) (k : (Fl → St → Bool)) : Bool := stSub I ae o i e σ k
noncomputable def stV_asgT (elts : List Expr) (e : Expr) (S : SE) (I : IP) (ae : AE) (σ : St) (k : (Fl → St → Bool)) : Bool := stTup S I ae elts e σ k
noncomputable def stV_ifS (t : Expr) (b : List Stmt) (o : List Stmt) (S : SE) (I : IP) (ae : AE) (σ : St) (k : (Fl → St → Bool)) : Bool := stIf I ae t b o σ k
noncomputable def stV_ret (e : Expr) (S : SE) (I : IP) (ae : AE) (σ : St) (k : (Fl → St → Bool)) : Bool := stRet I ae e σ k
noncomputable def stV_ret0 (S : SE) (I : IP) (ae : AE) (σ : St) (k : (Fl → St → Bool)) : Bool := k (.ret .none) σ
noncomputable def stV_expr (e : Expr) (S : SE) (I : IP) (ae : AE) (σ : St) (k : (Fl → St → Bool)) : Bool := stExpr I ae e σ k
noncomputable def stV_forS (t : Expr) (i : Expr) (b : List Stmt) (o : List Stmt) (S : SE) (I : IP) (ae : AE) (σ : St) (k : (Fl → St → Bool)) : Bool := stFor I ae t i b o σ k
noncomputable def stV_augN (x : Str) (op : Operator) (e : Expr) (S : SE) (I : IP) (ae : AE) (σ : St) (k : (Fl → St → Bool)) : Bool := stAug I ae x op e σ k
noncomputable def stV_augA (o : Expr) (a : Str) (op : Operator) (e : Expr) (S : SE) (I : IP) (ae : AE) (σ : St) (k : (Fl → St → Bool)) : Bool := stAugA S I ae o a op e σ k
noncomputable def stV_whi (t : Expr) (b : List Stmt) (o : List Stmt) (S : SE) (I : IP) (ae : AE) (σ : St) (k : (Fl → St → Bool)) : Bool := whL I ae t b o 1000 σ k
noncomputable def stV_fl (f : Fl) (S : SE) (I : IP) (ae : AE) (σ : St) (k : (Fl → St → Bool)) : Bool := k f σ
noncomputable def stV_tryS (e : Expr) (x : Str) (S : SE) (I : IP) (ae : AE) (σ : St) (k : (Fl → St → Bool)) : Bool := stTry S I ae e x σ k
noncomputable def stV_no (S : SE) (I : IP) (ae : AE) (σ : St) (k : (Fl → St → Bool)) : Bool := false
noncomputable def stV (S : SE) (I : IP) (ae : AE) (v : SV) (σ : St) (k : Fl → St → Bool) : Bool := SV.rec (motive := fun _ => SE → IP → AE → St → (Fl → St → Bool) → Bool) stV_asgN stV_asgC stV_asgA stV_asgS stV_asgT stV_ifS stV_ret stV_ret0 stV_expr stV_forS stV_augN stV_augA stV_whi stV_fl stV_tryS stV_no v S I ae σ k
noncomputable def stStep (S : SE) (I : IP) (ae : AE) (st : Stmt) (σ : St) (k : Fl → St → Bool) : Bool := stV S I ae (viewS st) σ k
noncomputable def exK (ih : St → (Fl → St → Bool) → Bool) (k : Fl → St → Bool) (f : Fl) (σ : St) : Bool := Fl.rec (motive := fun _ => (St → (Fl → St → Bool) → Bool) → (Fl → St → Bool) → St → Bool) (fun ih k σ => ih σ k) (fun _ k σ => k .brk σ) (fun _ k σ => k .cont σ) (fun v _ k σ => k (.ret v) σ) f ih k σ
noncomputable def exL (S : SE) (I : IP) (ae : AE) (l : List Stmt) : St → (Fl → St → Bool) → Bool := List.rec (motive := fun _ => St → (Fl → St → Bool) → Bool) (fun σ k => k .next σ) (fun st _ ih σ k => stStep S I ae st σ (exK ih k)) l
noncomputable def step (S : SE) (I : IP) : IP := ⟨evStep S I, isStep I, exL S I, I.lv + 1
  ⟩
noncomputable def ip (S : SE) : Nat → IP
  | 0 => ⟨fun _ _ _ _ => false, fun _ _ _ _ => false, fun _ _ _ _ => false, 0
    ⟩
  | n + 1 => step S (ip S n)

section
variable {prog : Program} {w : World} {K : Frag} {p : Program} {loose : List Str} {mean : ExcName → Option Value} {mg mb : Str → Option Value} {os0 : (Array Nat → Int) × OsState}
variable {n : Nat} {A : Around} {base : Heap} {h₀ : Gd} {env : Env} {ae : AE} {L : Addr} {E : Value → Shared → Prop} {m : Str → Option Value} {W : Wd} {σ : St} {s : Shared}

theorem isCmp_ok {S : SE} (G : EnvOK w os0 K S) {I : IP} (H : Snd prog w K p loose mean mg mb os0 n I) (f : Fc K p loose mean mg mb (n + 1) A base h₀ L) (en : EnvR W L ae env) {l : Expr} {ops : List CmpOp} {rs : List Expr} {pos : Pos} {k : Bool → St → Bool} {Q : Bool → Shared → Prop} (R : Rel os0 h₀ L m W σ s) (h : isCmp I ae l ops rs σ k = true)
    (hQ : ∀ m' W' r σ' s', W.le W' → Rel os0 h₀ L m' W' σ' s' → k r σ' = true → Q r s') : wpX (model prog w) A (PySem.isTrue (.Compare l ops rs pos) env (eval (.Compare l ops rs pos) env)) Q E s := by
  have f' := f.less (Nat.le_succ n)
  obtain ⟨hc, h⟩ := mf h
  obtain ⟨hn, hn2⟩ := an hc
  obtain ⟨n1, n2⟩ := an hn2
  clear hc hn2
  induction ops using List.casesOn with
  | nil => exact ff n1
  | cons op ops =>
    induction rs using List.casesOn with
    | nil => exact ff n2
    | cons r rs =>
      induction ops using List.casesOn with
      | nil =>
        induction rs using List.casesOn with
        | cons _ _ => exact ff n2
        | nil =>
          refine isTrue_Compare1' (H.ev A base h₀ L env ae m W s E f' en l σ _ _ R h fun m1 W1 v c σ1 s1 l1 R1 v1 h1 => ?_) (noSets_mark hn)
          refine H.ev A base h₀ L env ae m1 W1 s1 E f' (en.mono l1) r σ1 _ _ R1 (show I.ev ae r σ1 _ = true from h1) fun m2 W2 v' c' σ2 s2 l2 R2 v2 h2 => ?_
          refine xof <| cmpA_ok G.wd R2 f.room (v1.mono l2) v2 h2 fun σ' v c s3 R' hv hk => ?_
          exact xof (truthA_ok R' hv hk fun r σ'' s4 R4 hk4 => hQ _ _ _ _ _ (W.le_trans l1 l2) R4 hk4)
      | cons op' ops =>
        induction rs using List.casesOn with
        | nil => exact ff n2
        | cons r' rs =>
          refine isTrue_chain (H.ev A base h₀ L env ae m W s E f' en l σ _ _ R h fun m1 W1 v c σ1 s1 l1 R1 v1 h1 => ?_) (noSets_last hn)
          exact chT_ok G.wd H.ev f' (op :: op' :: ops) (r :: r' :: rs) (en.mono l1) R1 v1 h1 fun m' W' v σ' s' l' => hQ m' W' v σ' s' (W.le_trans l1 l')
theorem isStep_ok {S : SE} (G : EnvOK w os0 K S) {I : IP} (H : Snd prog w K p loose mean mg mb os0 n I) : IsOK prog w K p loose mean mg mb os0 (n + 1) (isStep I) := by
  intro A base h₀ L env ae m W s E f en e σ k Q R h hQ
  have f' := f.less (Nat.le_succ n)
  have plain : ∀ (he : PySem.isTrue e env (eval e env) = (do let v ← eval e env; standAt e.pos; holding [v] (truthy v))), I.ev ae e σ (fun v σ1 => truthA σ1 v k) = true → wpX (model prog w) A (PySem.isTrue e env (eval e env)) Q E s := by
    intro he h
    refine isTrue_plain (H.ev A base h₀ L env ae m W s E f' en e σ _ _ R h fun m1 W1 v c σ1 s1 l1 R1 v1 h1 => ?_) he
    exact xof <| truthA_ok R1 v1 h1 fun b σ2 s2 R2 h2 => hQ _ _ _ _ _ l1 R2 h2
  induction e using PySem.Expr.casesOn with
  | UnaryOp op x pos =>
    induction op using PySem.UnaryOp.casesOn with
    | Not => exact isTrue_not (H.is A base h₀ L env ae m W s E f' en _ σ _ _ R h fun m1 W1 r σ1 s1 l1 R1 h1 => hQ _ _ _ _ _ l1 R1 h1)
    | _ => exact ff h
  | BoolOp op vs pos => exact boolT_ok H.is f' _ en R h hQ
  | IfExp t b o pos =>
    refine isTrue_IfExp (H.is A base h₀ L env ae m W s E f' en _ σ _ _ R h fun m1 W1 r σ1 s1 l1 R1 h1 => ?_)
    induction r using Bool.casesOn with
    | true => rw [if_pos rfl]; exact H.is A base h₀ L env ae m1 W1 s1 E f' (en.mono l1) _ σ1 _ _ R1 h1 fun m' W' v σ' s' l' => hQ m' W' v σ' s' (W.le_trans l1 l')
    | false => rw [if_neg Bool.false_ne_true]; exact H.is A base h₀ L env ae m1 W1 s1 E f' (en.mono l1) _ σ1 _ _ R1 h1 fun m' W' v σ' s' l' => hQ m' W' v σ' s' (W.le_trans l1 l')
  | Compare l ops rs pos => exact isCmp_ok G H f en R h hQ
  | Name x p => exact plain rfl h
  | Constant c p q => exact plain rfl h
  | Attribute o a pos => exact plain rfl h
  | Call fn args kws pos =>
    induction kws using List.casesOn with
    | nil =>
      replace h : isV I ae (.Call fn args [] pos) (viewE (.Call fn args [] pos)) σ k = true := h
      refine plain rfl ?_
      rcases view_call fn args pos with ⟨o, x, apos, rfl, e⟩ | ⟨x, xp, rfl, e⟩ | e
      · exact h
      · exact h
      · rw [e] at h; exact ff h
    | cons _ _ => exact ff h
  | Subscript v i pos =>
    replace h : isV I ae (.Subscript v i pos) (viewE (.Subscript v i pos)) σ k = true := h
    refine plain rfl ?_
    rcases view_sub v i pos with ⟨lo, hi, sp, rfl, e⟩ | e | e
    · exact h
    · rw [e] at h; exact h
    · rw [e] at h; exact ff h
  | BinOp l op r pos => exact plain rfl h
  | _ => exact ff h

theorem forL_ok {I : IP} (H : Snd prog w K p loose mean mg mb os0 n I) (f : Fc K p loose mean mg mb n A base h₀ L) (en : EnvR W L ae env) {t : Expr} {it : AV} {ci : Value} {body orelse : List Stmt} {N : Nat} {k : Fl → St → Bool} {R : Result → Shared → Prop}
    (Rl : Rel os0 h₀ L m W σ s) (hi : VR W it ci) (h : forL I ae t it body orelse N σ k = true) (hR : ∀ m' W' f g σ' s', W.le W' → Rel os0 h₀ L m' W' σ' s' → FR W' f g → k f σ' = true → R (.ok g) s') :
    codeX (model prog w) A (.forLoop t ci body orelse env) R s := by
  refine cforLoop (fun N s' => ∃ m' W' σ', W.le W' ∧ Rel os0 h₀ L m' W' σ' s' ∧ forL I ae t it body orelse N σ' k = true) (fun N s' ⟨m', W', σ', lw, R', hL⟩ => ?_) N ⟨m, W, σ, W.le_refl, Rl, h⟩
  induction N using Nat.casesOn with
  | zero => exact ff hL
  | succ N =>
    refine xof <| nextA_ok f.hh R' (hi.mono lw) (show nextA σ' it _ = true from hL) fun σ'' s'' R'' => ⟨fun x cx vx hx => ?_, fun hx => ?_⟩
    · obtain ⟨ho, hx⟩ := mt hx
      refine xof <| ownA_ok R'' (hi.mono lw) vx ho ?_
      refine xof <| asgA_ok f.hh (en.mono lw) R'' vx hx fun m6 σ6 s6 R6 h6 => ?_
      refine H.ex A base h₀ L env ae m6 W' s6 _ f (en.mono lw) body σ6 _ _ R6 h6 fun m7 W7 fl gl σ7 s7 l7 R7 hf h7 => ?_
      cases hf with
      | next => exact ⟨N, Nat.lt_succ_self N, m7, W7, σ7, W.le_trans lw l7, R7, h7⟩
      | cont => exact ⟨N, Nat.lt_succ_self N, m7, W7, σ7, W.le_trans lw l7, R7, h7⟩
      | brk => exact hR _ _ _ _ _ _ (W.le_trans lw l7) R7 .next h7
      | ret hv => exact hR _ _ _ _ _ _ (W.le_trans lw l7) R7 (.ret hv) h7
    · exact H.ex A base h₀ L env ae m' W' s'' _ f (en.mono lw) orelse σ'' _ _ R'' hx fun m7 W7 fl gl σ7 s7 l7 R7 hf h7 => hR _ _ _ _ _ _ (W.le_trans lw l7) R7 hf h7

theorem swap_is (en : EnvR W L ae env) {x : Str} {xp vpos : Pos} {elt : Expr} {gens : List Comprehension} {sc : Scope} {l : Nat} (hs : swapA ae x xp vpos sc = true) : swapsWith (.ListComp elt gens sc vpos) (some (.Name x xp)) l env = pure true := by
  obtain ⟨q, hl, hs⟩ := onO_is hs
  have e0 : q = .local := by induction q using PySem.NameKind.casesOn <;> first | rfl | exact ff hs
  subst e0
  obtain ⟨hb, hno⟩ := mt hs
  have e1 : env.kindOf x = some .local := by
    show env.scope.names.lookup x = _
    rw [en.sc, ← lk_eq]; exact hl
  have e2 : (sc.names.any fun y => y.1 == x && (y.2 == .local || y.2 == .cell)) = false := by
    have hno := Option.isNone_iff_eq_none.mp hno
    rw [lk_eq, List.lookup_eq_none_iff] at hno
    rw [List.any_eq_false]
    intro y hy
    have q : (y.1 == x) = false := by
      rw [beq_eq_false_iff_ne]
      intro z
      exact (by simpa using hno y hy : ¬ x = y.1) z.symm
    rw [q]
    exact Bool.false_ne_true
  show pure (env.blockKind == .function && env.kindOf x == some .local && xp.line == vpos.line && !(sc.names.any fun y => y.1 == x && (y.2 == .local || y.2 == .cell))) = _
  have e3 : env.blockKind = .function := by
    unfold Env.blockKind
    rw [en.sc, en.kd]; rfl
  rw [e1, e2, e3, Nat.eq_of_beq_eq_true hb, show (vpos.line == vpos.line) = true from beq_self_eq_true _]
  rfl
theorem stNameC_ok {S : SE} (G : EnvOK w os0 K S) {I : IP} (H : Snd prog w K p loose mean mg mb os0 n I) (f : Fc K p loose mean mg mb (n + 1) A base h₀ L) (en : EnvR W L ae env) {x : Str} {xp pos vpos : Pos} {elt : Expr} {gens : List Comprehension} {sc : Scope} {k : Fl → St → Bool} {Q : Flow → Shared → Prop}
    (R : Rel os0 h₀ L m W σ s) (h : stNameC S I ae x xp elt gens sc vpos σ k = true) (hQ : ∀ m' W' f g σ' s', W.le W' → Rel os0 h₀ L m' W' σ' s' → FR W' f g → k f σ' = true → Q g s') : wpX (model prog w) A (exec (.Assign [.Name x xp] (.ListComp elt gens sc vpos) pos) env) Q E s := by
  induction gens using List.casesOn with
  | nil => exact ff h
  | cons g r =>
    obtain ⟨hc, hk0⟩ := mt h
    obtain ⟨h1, hc⟩ := an hc
    obtain ⟨h2, hc⟩ := an hc
    obtain ⟨h3, hs⟩ := an hc
    obtain ⟨t, i, ifs, z⟩ := g
    obtain rfl : r = [] := List.isEmpty_iff.mp h1
    obtain rfl : ifs = [] := List.isEmpty_iff.mp h2
    obtain rfl : z = 0 := of_decide_eq_true h3
    rw [exec_Assign_Name_used _ _ _ _ (swap_is en hs)]
    refine xstand (xbind ?_)
    show wpX _ A (do let _ ← comprehension (.ListComp elt [⟨t, i, [], 0⟩] sc vpos) sc env i.pos (newList []) false (eval i env) (some (assign (.Name x xp) env))) _ _ s
    refine xbind (xmono (compA_ok G H.ev H.is H.ex f en (use := some (assign (.Name x xp) env)) (Q := fun _ s' => Q .next s') R (show compA S I.ev I.is I.ex ae elt t i [] sc σ (fun acc c σ1 => stoA ae x acc σ1 (stNameK c k)) = true from hk0) fun m' W' acc ca c C σ' s' l' R' va hc hfs hk => ?_) (fun _ s' hq => xpure (xpure hq)) fun _ _ e => e)
    refine wpAny_assign_Name (stoA_ok (en.mono l') R' va hk fun m2 σ2 s2 R2 h2 => ?_)
    obtain ⟨fs2, hf2, h2⟩ := onO_is h2
    have hf2 := at_is envOf_is hf2
    obtain ⟨o, k1, k2⟩ := R2.ref hf2 hc
    obtain ⟨_, _, _, e1, e2, e3, e4⟩ := k1.inv
    refine ⟨_, ⟨_, _, _, k2, e1, e2, e3⟩, fun h'' hs => ?_⟩
    obtain ⟨R3, hk3⟩ := dropA_ok (s' := { s2 with heap := h'' }) R2 hf2 hc hs.extBut rfl rfl h2
    exact hQ _ _ _ _ _ _ l' R3 .next hk3

theorem stName_ok {S : SE} (G : EnvOK w os0 K S) {I : IP} (H : Snd prog w K p loose mean mg mb os0 n I) (f : Fc K p loose mean mg mb (n + 1) A base h₀ L) (en : EnvR W L ae env) {x : Str} {xp pos : Pos} {e : Expr} {k : Fl → St → Bool} {Q : Flow → Shared → Prop}
    (R : Rel os0 h₀ L m W σ s) (h : stV S I ae (viewN x xp e) σ k = true) (hQ : ∀ m' W' f g σ' s', W.le W' → Rel os0 h₀ L m' W' σ' s' → FR W' f g → k f σ' = true → Q g s') : wpX (model prog w) A (exec (.Assign [.Name x xp] e pos) env) Q E s := by
  have plain : ∀ (_ : notComp e = true), I.ev ae e σ (fun v σ1 => stoA ae x v σ1 fun σ2 => k .next σ2) = true → wpX (model prog w) A (exec (.Assign [.Name x xp] e pos) env) Q E s := by
    intro hn h
    refine Assign_Name' (H.ev A base h₀ L env ae m W s E (f.less (Nat.le_succ n)) en e σ _ _ R h fun m1 W1 v c σ1 s1 l1 R1 v1 h1 => ?_) (swaps_no hn)
    exact xof <| stoA_ok (en.mono l1) R1 v1 h1 fun m' σ' s' R' hk => hQ _ _ _ _ _ _ l1 R' .next hk
  induction e using PySem.Expr.casesOn with
  | ListComp elt gens sc vpos => exact stNameC_ok G H f en R h hQ
  | SetComp => exact ff h
  | DictComp => exact ff h
  | _ => exact plain rfl h

theorem asgT_ok {S : SE} (G : EnvOK w os0 K S) {I : IP} (H : Snd prog w K p loose mean mg mb os0 n I) (f : Fc K p loose mean mg mb n A base h₀ L) : ∀ {ts : List Expr} {vs : List AV} {cs : List Value} {m : Str → Option Value} {W : Wd} {σ : St} {s : Shared} {k : St → Bool} {Q : Unit → Shared → Prop}, EnvR W L ae env → Rel os0 h₀ L m W σ s → All2 (VR W) vs cs → asgT S I ae ts vs σ k = true →
    (∀ m' W' σ' s', W.le W' → Rel os0 h₀ L m' W' σ' s' → k σ' = true → Q () s') → wpX (model prog w) A (assignInOrder ((assignEach ts env).map (·.2)) cs) Q E s
  | [], vs, cs, m, W, σ, s, k, Q, en, R, hv, h, hQ => by
    induction vs using List.casesOn with
    | nil => obtain rfl := hv.inv; exact xpure (hQ _ _ _ _ W.le_refl R h)
    | cons _ _ => exact ff h
  | t :: ts, vs, cs, m, W, σ, s, k, Q, en, R, hv, h, hQ => by
    induction vs using List.casesOn with
    | nil => exact ff h
    | cons v r =>
      apply hv.onCons; intro c cr hx hr
      induction t using PySem.Expr.casesOn with
      | Name x xp =>
        refine xbind (xhold (xof (wpAny_assign_Name (stoA_ok en R hx (show stoA ae x v σ _ = true from h) fun m' σ' s' R' hk => ?_))))
        exact asgT_ok G H f en R' hr hk hQ
      | Attribute o a ap =>
        refine xbind (xhold (xassign_Attribute (H.ev A base h₀ L env ae m W s E f en o σ _ _ R (show I.ev ae o σ _ = true from h) fun m1 W1 w1 cw σ1 s1 l1 R1 v1 h1 => ?_)))
        refine xof <| setA_ok G R1 (f.now R1.fr) v1 (hx.mono l1) h1 fun σ2 s2 R2 hk => ?_
        exact asgT_ok G H f (en.mono l1) R2 (hr.imp fun _ _ q => q.mono l1) hk fun m' W' σ' s' l' => hQ m' W' σ' s' (W.le_trans l1 l')
      | _ => exact ff h
theorem allTgts_is : ∀ {ts : List Expr}, allTgts ts = true → (assignEach ts env).length = ts.length ∧ (assignEach ts env).findIdx? (fun x => x.1) = none
  | [], _ => ⟨rfl, rfl⟩
  | t :: r, h => by
    induction t using PySem.Expr.casesOn with
    | Name x p =>
      obtain ⟨h1, h2⟩ := allTgts_is (ts := r) h
      exact ⟨congrArg Nat.succ h1, by show List.findIdx? _ ((false, assign (.Name x p) env) :: assignEach r env) = none; rw [List.findIdx?_cons, h2]; rfl⟩
    | Attribute o a p =>
      obtain ⟨h1, h2⟩ := allTgts_is (ts := r) h
      exact ⟨congrArg Nat.succ h1, by show List.findIdx? _ ((false, assign (.Attribute o a p) env) :: assignEach r env) = none; rw [List.findIdx?_cons, h2]; rfl⟩
    | _ => exact ff h
theorem tupT_ok {S : SE} (G : EnvOK w os0 K S) {I : IP} (H : Snd prog w K p loose mean mg mb os0 n I) (f : Fc K p loose mean mg mb n A base h₀ L) (en : EnvR W L ae env) {elts : List Expr} {kk : Nat} {tp : Pos} {v : AV} {c : Value} {k : St → Bool} {Q : Unit → Shared → Prop} (R : Rel os0 h₀ L m W σ s) (hv : VR W v c) (h : tupT S I ae elts v σ k = true)
    (hQ : ∀ m' W' σ' s', W.le W' → Rel os0 h₀ L m' W' σ' s' → k σ' = true → Q () s') : wpX (model prog w) A (assign (.Tuple elts kk tp) env c) Q E s := by
  induction v using Mine.AV.casesOn with
  | loc l =>
    apply hv.onLoc; intro _ ea
    obtain ⟨vs, h1, h⟩ := onO_is (show onO ((σ.hp.get l).bind tupOf) _ = true from h)
    obtain ⟨hb, h⟩ := mt h
    obtain ⟨b1, b2⟩ := an hb
    obtain ⟨ci, k1, k2⟩ := R.ref (at_is tupOf_is h1) ea
    obtain ⟨cx, hx, tx⟩ := tup_at k1 k2
    obtain ⟨n1, n2⟩ := allTgts_is (env := env) b2
    refine xassign_Tuple f.hh tx (by rw [n1, List.size_toArray, ← hx.length, Nat.eq_of_beq_eq_true b1]) n2 fun h' he => ?_
    have hk : ∀ b o, s.heap.get? b = some o → h'.get? b = some o := fun b o e => he b o (Nat.ne_of_lt (Heap.lt_size e)) e
    exact asgT_ok G H f en (R.kept (t := s.toks) hk) hx h hQ
  | _ => exact ff h
theorem all2_rev {α β : Type} {R : α → β → Prop} : ∀ {as : List α} {bs : List β}, All2 R as bs → All2 R as.reverse bs.reverse
  | _, _, .nil => .nil
  | _, _, .cons h t => by
    rw [List.reverse_cons, List.reverse_cons]
    exact (all2_rev t).append (.cons h .nil)
theorem tupR_ok (f : Fc K p loose mean mg mb n A base h₀ L) (en : EnvR W L ae env) {names : List Str} {v : AV} {c : Value} {k : St → Bool} {Q : Flow → Shared → Prop} (R : Rel os0 h₀ L m W σ s) (hv : VR W v c) (h : tupR ae names v σ k = true)
    (hQ : ∀ m' σ' s', Rel os0 h₀ L m' W σ' s' → k σ' = true → Q .next s') : wpX (model prog w) A (unpackItems c names.length none) (fun items s₂ => wpX (model prog w) A (assignInOrder (names.reverse.map fun n => bindName env n) items.reverse) (fun _ => Q .next) E s₂) E s := by
  induction v using Mine.AV.casesOn with
  | loc l =>
    apply hv.onLoc; intro _ ea
    obtain ⟨us, h2, h⟩ := onO_is (show onO ((σ.hp.get l).bind tupOf) _ = true from h)
    obtain ⟨hb, h⟩ := mt h
    obtain ⟨ci, k1, k2⟩ := R.ref (at_is tupOf_is h2) ea
    obtain ⟨cx, hx, tx⟩ := tup_at k1 k2
    have en2 : names.length = cx.toArray.size := by rw [List.size_toArray, ← hx.length, Nat.eq_of_beq_eq_true hb]
    rw [en2]
    refine xof (PySem.wpAny_unpackItems_tuple f.hh tx fun h' he => ?_)
    have hk : ∀ b o, s.heap.get? b = some o → h'.get? b = some o := fun b o e => he b o (Nat.ne_of_lt (Heap.lt_size e)) e
    exact xof (asgR_ok en (R.kept (t := s.toks) hk) (all2_rev hx) h hQ)
  | _ => exact ff h
theorem stTup_ok {S : SE} (G : EnvOK w os0 K S) {I : IP} (H : Snd prog w K p loose mean mg mb os0 n I) (f : Fc K p loose mean mg mb (n + 1) A base h₀ L) (en : EnvR W L ae env) {elts : List Expr} {kk : Nat} {tp pos : Pos} {e : Expr} {k : Fl → St → Bool} {Q : Flow → Shared → Prop}
    (R : Rel os0 h₀ L m W σ s) (h : stTup S I ae elts e σ k = true) (hQ : ∀ m' W' f g σ' s', W.le W' → Rel os0 h₀ L m' W' σ' s' → FR W' f g → k f σ' = true → Q g s') : wpX (model prog w) A (exec (.Assign [.Tuple elts kk tp] e pos) env) Q E s := by
  have f' := f.less (Nat.le_succ n)
  have plain : ∀ (_ : swappedStores [.Tuple elts kk tp] e env = pure none), I.ev ae e σ (fun v σ1 => tupT S I ae elts v σ1 fun σ2 => k .next σ2) = true → wpX (model prog w) A (exec (.Assign [.Tuple elts kk tp] e pos) env) Q E s := by
    intro hs h
    refine Assign_Tuple (H.ev A base h₀ L env ae m W s E f' en e σ _ _ R h fun m1 W1 v c σ1 s1 l1 R1 v1 h1 => ?_) (by rw [swapsWithSole]; exact swaps_other rfl) hs
    exact tupT_ok G H f' (en.mono l1) R1 v1 h1 fun m' W' σ' s' l' R' hk => hQ _ _ _ _ _ _ (W.le_trans l1 l') R' .next hk
  induction e using PySem.Expr.casesOn with
  | Tuple vs vk vp =>
    obtain ⟨r, hr, h⟩ := onO_is (show onO (swapR ae elts vs) _ = true from h)
    have hs := swapR_is (k := kk) (k' := vk) (p := tp) (p' := vp) en hr
    induction r using Option.casesOn with
    | none => exact plain hs h
    | some names =>
      refine xAssign_swapped (H.ev A base h₀ L env ae m W s E f' en _ σ _ _ R h fun m1 W1 v c σ1 s1 l1 R1 v1 h1 => ?_) (by rw [swapsWithSole]; exact swaps_other rfl) hs
      exact tupR_ok f' (en.mono l1) R1 v1 h1 fun m' σ' s' R' hk => hQ _ _ _ _ _ _ l1 R' .next hk
  | _ => exact plain (swapped_no rfl) h
theorem whL_ok {I : IP} (H : Snd prog w K p loose mean mg mb os0 n I) (f : Fc K p loose mean mg mb n A base h₀ L) (en : EnvR W L ae env) {t : Expr} {body orelse : List Stmt} {N : Nat} {k : Fl → St → Bool} {R : Result → Shared → Prop}
    (Rl : Rel os0 h₀ L m W σ s) (h : whL I ae t body orelse N σ k = true) (hR : ∀ m' W' f g σ' s', W.le W' → Rel os0 h₀ L m' W' σ' s' → FR W' f g → k f σ' = true → R (.ok g) s') :
    codeX (model prog w) A (.whileLoop t body orelse env) R s := by
  refine cwhile (fun N s' => ∃ m' W' σ', W.le W' ∧ Rel os0 h₀ L m' W' σ' s' ∧ whL I ae t body orelse N σ' k = true) (fun N s' ⟨m', W', σ', lw, R', hL⟩ => ?_) N ⟨m, W, σ, W.le_refl, Rl, h⟩
  induction N using Nat.casesOn with
  | zero => exact ff hL
  | succ N =>
    refine H.is A base h₀ L env ae m' W' s' _ f (en.mono lw) t σ' _ _ R' (show I.is ae t σ' _ = true from hL) fun m1 W1 b σ1 s1 l1 R1 h1 => ?_
    have l01 := W.le_trans lw l1
    induction b using Bool.casesOn with
    | true =>
      rw [if_pos rfl]
      refine H.ex A base h₀ L env ae m1 W1 s1 _ f (en.mono l01) body σ1 _ _ R1 h1 fun m7 W7 fl gl σ7 s7 l7 R7 hf h7 => ?_
      cases hf with
      | next => exact ⟨N, Nat.lt_succ_self N, m7, W7, σ7, W.le_trans l01 l7, R7, h7⟩
      | cont => exact ⟨N, Nat.lt_succ_self N, m7, W7, σ7, W.le_trans l01 l7, R7, h7⟩
      | brk => exact hR _ _ _ _ _ _ (W.le_trans l01 l7) R7 .next h7
      | ret hv => exact hR _ _ _ _ _ _ (W.le_trans l01 l7) R7 (.ret hv) h7
    | false =>
      rw [if_neg Bool.false_ne_true]
      exact H.ex A base h₀ L env ae m1 W1 s1 _ f (en.mono l01) orelse σ1 _ _ R1 h1 fun m7 W7 fl gl σ7 s7 l7 R7 hf h7 => hR _ _ _ _ _ _ (W.le_trans l01 l7) R7 hf h7
theorem stAsg_ok {S : SE} (G : EnvOK w os0 K S) {I : IP} (H : Snd prog w K p loose mean mg mb os0 n I) (f : Fc K p loose mean mg mb (n + 1) A base h₀ L) (en : EnvR W L ae env) {t e : Expr} {pos : Pos} {k : Fl → St → Bool} {Q : Flow → Shared → Prop}
    (R : Rel os0 h₀ L m W σ s) (h : stV S I ae (viewS (.Assign [t] e pos)) σ k = true) (hQ : ∀ m' W' f g σ' s', W.le W' → Rel os0 h₀ L m' W' σ' s' → FR W' f g → k f σ' = true → Q g s') : wpX (model prog w) A (exec (.Assign [t] e pos) env) Q E s := by
  have f' := f.less (Nat.le_succ n)
  induction t using PySem.Expr.casesOn with
  | Name x p => exact stName_ok G H f en R h hQ
  | Attribute o a p =>
    refine Assign_Attribute' (H.ev A base h₀ L env ae m W s E f' en e σ _ _ R h fun m1 W1 v c σ1 s1 l1 R1 v1 h1 => ?_) (swaps_other rfl)
    refine H.ev A base h₀ L env ae m1 W1 s1 E f' (en.mono l1) _ σ1 _ _ R1 h1 fun m2 W2 v' c' σ2 s2 l2 R2 v2 h2 => ?_
    exact xof <| setA_ok G R2 (f.now R2.fr) v2 (v1.mono l2) h2 fun σ' s' R' hk => hQ _ _ _ _ _ _ (W.le_trans l1 l2) R' .next hk
  | Subscript o i p =>
    refine Assign_Subscript' (H.ev A base h₀ L env ae m W s E f' en e σ _ _ R h fun m1 W1 v c σ1 s1 l1 R1 v1 h1 => ?_) (swaps_other rfl)
    refine H.ev A base h₀ L env ae m1 W1 s1 E f' (en.mono l1) _ σ1 _ _ R1 h1 fun m2 W2 v' c' σ2 s2 l2 R2 v2 h2 => ?_
    refine H.ev A base h₀ L env ae m2 W2 s2 E f' (en.mono (W.le_trans l1 l2)) _ σ2 _ _ R2 h2 fun m3 W3 v'' c'' σ3 s3 l3 R3 v3 h3 => ?_
    exact xof <| setItA_ok G.wd f.room R3 (v2.mono l3) v3 (v1.mono (W1.le_trans l2 l3)) h3 fun σ' s' R' hk => hQ _ _ _ _ _ _ (W.le_trans l1 (W1.le_trans l2 l3)) R' .next hk
  | Tuple elts kk p => exact stTup_ok G H f en R h hQ
  | _ => exact ff h
theorem stAugN_ok {I : IP} (H : Snd prog w K p loose mean mg mb os0 n I) (f : Fc K p loose mean mg mb (n + 1) A base h₀ L) (en : EnvR W L ae env) {x : Str} {xp pos : Pos} {op : Operator} {e : Expr} {k : Fl → St → Bool} {Q : Flow → Shared → Prop}
    (R : Rel os0 h₀ L m W σ s) (h : stAug I ae x op e σ k = true) (hQ : ∀ m' W' f g σ' s', W.le W' → Rel os0 h₀ L m' W' σ' s' → FR W' f g → k f σ' = true → Q g s') : wpX (model prog w) A (exec (.AugAssign (.Name x xp) op e pos) env) Q E s := by
  have h : (match ae.own with
    | some _ => false
    | none => onO (lk x ae.sc.names) fun q => match q with
      | .local => onO (lk x σ.lc) fun old => I.ev ae e σ fun v σ1 => iopA σ1 op old v fun r σ2 => stoA ae x r σ2 fun σ3 => k .next σ3
      | _ => false) = true := h
  have own := en.own
  cases ho : ae.own with
  | some _ => rw [ho] at h; exact ff h
  | none =>
    rw [ho] at own h
    obtain ⟨q, hl, h⟩ := onO_is h
    induction q using PySem.NameKind.casesOn with
    | «local» =>
      obtain ⟨old, hx, h⟩ := onO_is h
      have hko : env.kindOf x = some .local := by
        show env.scope.names.lookup x = _
        rw [en.sc, ← lk_eq]; exact hl
      obtain ⟨c0, z1, z2⟩ := R.lcs x old hx
      refine AugAssign_Name' (xof (wpAny_loadName_local (by rw [en.sc]; exact en.kd) hko (by rw [show env.locals = L from own]; exact R.fr.ns) z1 ?_))
      refine H.ev A base h₀ L env ae m W s E (f.less (Nat.le_succ n)) en e σ _ _ R h fun m1 W1 v c σ1 s1 l1 R1 v1 h1 => ?_
      refine xof <| iopA_ok R1 (z2.mono l1) v1 h1 fun r c2 s2 R2 v2 h2 => ?_
      exact xof <| stoA_ok (en.mono l1) R2 v2 h2 fun m' σ' s' R' hk => hQ _ _ _ _ _ _ l1 R' .next hk
    | _ => exact ff h
theorem stAugA_ok {S : SE} (G : EnvOK w os0 K S) {I : IP} (H : Snd prog w K p loose mean mg mb os0 n I) (f : Fc K p loose mean mg mb (n + 1) A base h₀ L) (en : EnvR W L ae env) {o : Expr} {a : Str} {xp pos : Pos} {op : Operator} {e : Expr} {k : Fl → St → Bool} {Q : Flow → Shared → Prop}
    (R : Rel os0 h₀ L m W σ s) (h : stAugA S I ae o a op e σ k = true) (hQ : ∀ m' W' f g σ' s', W.le W' → Rel os0 h₀ L m' W' σ' s' → FR W' f g → k f σ' = true → Q g s') : wpX (model prog w) A (exec (.AugAssign (.Attribute o a xp) op e pos) env) Q E s := by
  have f' := f.less (Nat.le_succ n)
  refine AugAssign_Attribute' (H.ev A base h₀ L env ae m W s E f' en _ σ _ _ R h fun m1 W1 v c σ1 s1 l1 R1 v1 h1 => ?_)
  refine xof <| getA_ok G R1 (f.now R1.fr) v1 h1 fun old co s2 R2 v2 h2 => ?_
  refine H.ev A base h₀ L env ae m1 W1 s2 E f' (en.mono l1) e σ1 _ _ R2 h2 fun m3 W3 v' c' σ3 s3 l3 R3 v3 h3 => ?_
  refine xof <| iopA_ok R3 (v2.mono l3) v3 h3 fun r c4 s4 R4 v4 h4 => ?_
  exact xof <| setA_ok G R4 (f.now R4.fr) (v1.mono l3) v4 h4 fun σ' s' R' hk => hQ _ _ _ _ _ _ (W.le_trans l1 l3) R' .next hk
theorem stStep_ok {S : SE} (G : EnvOK w os0 K S) {I : IP} (H : Snd prog w K p loose mean mg mb os0 n I) (f : Fc K p loose mean mg mb (n + 1) A base h₀ L) (en : EnvR W L ae env) {st : Stmt} {k : Fl → St → Bool} {Q : Flow → Shared → Prop}
    (R : Rel os0 h₀ L m W σ s) (h : stStep S I ae st σ k = true) (hQ : ∀ m' W' f g σ' s', W.le W' → Rel os0 h₀ L m' W' σ' s' → FR W' f g → k f σ' = true → Q g s') : wpX (model prog w) A (exec st env) Q E s := by
  have f' := f.less (Nat.le_succ n)
  have hkd : env.scope.kind = .function := by rw [en.sc]; exact en.kd
  induction st using PySem.Stmt.casesOn with
  | Assign ts e pos =>
    induction ts using List.casesOn with
    | nil => exact ff h
    | cons t r =>
      induction r using List.casesOn with
      | nil => exact stAsg_ok G H f en R h hQ
      | cons _ _ => exact ff h
  | If t b o pos =>
    refine If' (H.is A base h₀ L env ae m W s E f' en _ σ _ _ R h fun m1 W1 r σ1 s1 l1 R1 h1 => ?_)
    induction r using Bool.casesOn with
    | true => rw [if_pos rfl]; exact H.ex A base h₀ L env ae m1 W1 s1 E f' (en.mono l1) _ σ1 _ _ R1 h1 fun m' W' f g σ' s' l' => hQ m' W' f g σ' s' (W.le_trans l1 l')
    | false => rw [if_neg Bool.false_ne_true]; exact H.ex A base h₀ L env ae m1 W1 s1 E f' (en.mono l1) _ σ1 _ _ R1 h1 fun m' W' f g σ' s' l' => hQ m' W' f g σ' s' (W.le_trans l1 l')
  | Return v pos =>
    induction v using Option.casesOn with
    | some e => exact Return_some' (H.ev A base h₀ L env ae m W s E f' en _ σ _ _ R h fun m1 W1 v c σ1 s1 l1 R1 v1 h1 => hQ _ _ _ _ _ _ l1 R1 (.ret v1) h1)
    | none => exact xof <| wpAny_Return_none (hQ _ _ _ _ _ _ W.le_refl R (.ret .none) h)
  | Expr e pos =>
    obtain ⟨hn, h⟩ := mt h
    exact Expr_any' (H.ev A base h₀ L env ae m W s E f' en e σ _ _ R h fun m1 W1 v c σ1 s1 l1 R1 v1 h1 => hQ _ _ _ _ _ _ l1 R1 .next h1) (by unfold interactive; rw [hkd]; rfl) (swaps_no hn)
  | For t i b o pos =>
    obtain ⟨hn, h⟩ := mf h
    refine For' (H.ev A base h₀ L env ae m W s E f' en i σ _ _ R h fun m1 W1 v c σ1 s1 l1 R1 v1 h1 => ?_) (iter_plain hn)
    refine xof <| iterA_ok R1 v1 h1 fun W2 it ci σ2 s2 l2 R2 v2 h2 => ?_
    exact forL_ok H f' (en.mono (W.le_trans l1 l2)) R2 v2 h2 fun m' W' f g σ' s' l' => hQ m' W' f g σ' s' (W.le_trans l1 (W1.le_trans l2 l'))
  | AugAssign t op e pos =>
    induction t using PySem.Expr.casesOn with
    | Name x xp => exact stAugN_ok H f en R h hQ
    | Attribute o a xp => exact stAugA_ok G H f en R h hQ
    | _ => exact ff h
  | While t b o pos => exact While' (whL_ok H f' en R h fun m' W' f g σ' s' l' R' hf hk => hQ m' W' f g σ' s' l' R' hf hk)
  | Pass pos => exact xof <| wpAny_Pass (hQ _ _ _ _ _ _ W.le_refl R .next h)
  | Break pos => exact xof <| wpAny_Break (hQ _ _ _ _ _ _ W.le_refl R .brk h)
  | Continue pos => exact xof <| wpAny_Continue (hQ _ _ _ _ _ _ W.le_refl R .cont h)
  | _ => exact ff h

theorem exL_ok {S : SE} (G : EnvOK w os0 K S) {I : IP} (H : Snd prog w K p loose mean mg mb os0 n I) : ExOK prog w K p loose mean mg mb os0 (n + 1) (exL S I) := by
  intro A base h₀ L env ae m W s E f en l
  induction l generalizing m W s with
  | nil =>
    intro σ k Q R h hQ
    exact xof <| wpAny_execs_nil (hQ _ _ _ _ _ _ W.le_refl R .next h)
  | cons st r ih =>
    intro σ k Q R h hQ
    refine execs_cons' (stStep_ok G H f en R (show stStep S I ae st σ _ = true from h) fun m1 W1 fl gl σ1 s1 l1 R1 hf h1 => ?_)
    cases hf with
    | next => exact ih m1 W1 s1 (en.mono l1) σ1 k Q R1 h1 fun m' W' f g σ' s' l' => hQ m' W' f g σ' s' (W.le_trans l1 l')
    | brk => exact hQ _ _ _ _ _ _ l1 R1 .brk h1
    | cont => exact hQ _ _ _ _ _ _ l1 R1 .cont h1
    | ret hv => exact hQ _ _ _ _ _ _ l1 R1 (.ret hv) h1

/-- the interpreter tells the truth -/
theorem ip_ok {S : SE} (G : EnvOK w os0 K S) : ∀ n, Snd prog w K p loose mean mg mb os0 n (ip S n)
  | 0 => ⟨fun _ _ _ _ _ _ _ _ _ _ _ _ _ _ _ _ _ h => (nomatch h), fun _ _ _ _ _ _ _ _ _ _ _ _ _ _ _ _ _ h => (nomatch h), fun _ _ _ _ _ _ _ _ _ _ _ _ _ _ _ _ _ h => (nomatch h), Nat.le_refl 0
    ⟩
  | n + 1 => ⟨evStep_ok G (ip_ok G n), isStep_ok G (ip_ok G n), exL_ok G (ip_ok G n), Nat.succ_le_succ (ip_ok G n).lv
    ⟩
end
end Mine

namespace Mine
open PySem PySem.W PySem.Calls PyProof.Rows PySem.SeqAt
set_option maxRecDepth 100000

/-! ## a def told once -/
noncomputable def conB (S : SE) (a : Addr) (C : Con) : Bool := callFn S (ip S C.lv).ex a C.args C.st fun v σ' => fitQs C.st v σ' C.posts
theorem con_of {w : World} {os0 : (Array Nat → Int) × OsState} {K : Frag} {S : SE} (G : EnvOK w os0 K S) {a : Addr} {C : Con} (h : conB S a C = true) :
    ∀ (prog p : Program) (loose : List Str) (mean : ExcName → Option Value) (mg mb : Str → Option Value), ConT prog w K p loose mean mg mb os0 C.lv a C := by
  intro prog p loose mean mg mb A base h₀ L m W s cs f fd fu R hcs
  refine callFnK_ok G.F (ip_ok (prog := prog) (w := w) (p := p) (loose := loose) (mean := mean) (mg := mg) (mb := mb) (os0 := os0) G C.lv).ex f fd fu R hcs h fun W' v c σ' s' lw R' hv' hk keep => ?_
  obtain ⟨q, hq, hf⟩ := fitQs_is hk
  obtain ⟨W2, l2, v2, R2, live⟩ := fitQ_is R' lw R.len R.vars.1.symm hv' hf
  refine ⟨q, c, W2, hq, rfl, l2, v2, R2, fun b o hb nL nh hn => ?_⟩
  obtain ⟨k1, k2⟩ := keep b o hb nL nh hn
  refine ⟨k1, fun l o' hl e => ?_⟩
  obtain ⟨l', o2, g1, g2⟩ := live l o' hl
  exact k2 l' o2 g2 (g1.symm.trans e)
/-- one more def told -/
noncomputable def SE.tell (S : SE) (a : Addr) (C : Con) : SE := { S with jn := S.jn.put 41 a (some (C :: match S.jn.get a with | some l => l | none => [])) }
theorem EnvOK.told {w : World} {os0 : (Array Nat → Int) × OsState} {K : Frag} {S : SE} (G : EnvOK w os0 K S) {a : Addr} {C : Con} (ha : a ≤ 1000000000) (h : conB S a C = true) : EnvOK w os0 K (S.tell a C) := by
  refine ⟨G.wd, ⟨G.G.gl, G.G.bl⟩, ⟨G.F.fn⟩, G.C, G.sm, fun b l C' hb hC => ?_
    ⟩
  have hb : (S.jn.put 41 a (some (C :: match S.jn.get a with | some l => l | none => []))).get b = some l := hb
  rw [Tr.get_put _ 40 _ _ _ (Nat.lt_of_le_of_lt ha (by decide))] at hb
  by_cases e : b = a
  · rw [if_pos e] at hb
    subst e
    rw [← Option.some.inj hb] at hC
    rcases List.mem_cons.mp hC with rfl | hC
    · exact con_of G h
    · split at hC
      · rename_i l' h1
        exact G.cons b l' C' h1 hC
      · exact (List.not_mem_nil hC).elim
  · rw [if_neg e] at hb
    exact G.cons b l C' hb hC
/-! ## shapes in common use -/
noncomputable def putsO : Nat → List AO → Tr AO → Tr AO
  | _, [], t => t
  | i, o :: r, t => putsO (i + 1) r (t.put 41 i (some o))
/-- the places 1, 2, .. and the letters 1, 2, .. -/
noncomputable def stOf (os : List AO) (vi : List VI) : St := ⟨[], putsO 1 os .nil, os.length + 1, ⟨0, none, none⟩ :: vi⟩
noncomputable def picksOf : Nat → List (List AV) → List AV
  | _, [] => []
  | i, m :: ms => .pick (IE.var i) m :: picksOf (i + 1) ms
noncomputable def viOf : List (List AV) → List VI
  | [] => []
  | m :: ms => ⟨0, some ((m.length : Int) - 1), none⟩ :: viOf ms
/-- whichever things of the menus it is given: True, and nothing else -/
noncomputable def anyQ (_ : List AV) (_ : St) : Bool := true
/-- the thing at a place is just this number -/
noncomputable def litQ (i : Nat) (n : Int) (vs : List AV) (_ : St) : Bool := onO (nth vs i) fun v => match v with
  | .int e => match e.num with
    | some m => decide (m = n)
    | none => true
  | _ => true
noncomputable def conMenu (lv : Nat) (ms : List (List AV)) : Con := ⟨picksOf 1 ms, stOf [] (viOf ms), [(.bool true, stOf [] (viOf ms))], lv, anyQ⟩
noncomputable def lPos : VI := ⟨0, none, none⟩
noncomputable def lMix : VI := ⟨0, some 2147483646, none⟩
noncomputable def conPool : Con := ⟨[.loc 0, .int (IE.lit 0)], stOf [] [], [(.loc 1, stOf [.lst [.int (IE.var 1), .int (IE.var 2)]] [lPos, lMix])], 20, anyQ⟩
noncomputable def conTake (top : Int) : Con := ⟨[.loc 1, .int (IE.lit top)], stOf [.lst [.int (IE.var 1), .int (IE.var 2)]] [lPos, lMix],
  [(.int (IE.var 5), stOf [.lst [.int (IE.var 3), .int (IE.var 4)]] [lPos, lMix, lPos, lMix, ⟨0, some (top - 1), none⟩])], 20, litQ 1 top⟩
end Mine

namespace Mine
open PySem PySem.W PySem.Calls PyProof.Rows PySem.SeqAt
set_option maxRecDepth 100000

/-! ## what the tree behind the top says of the text's defs and classes -/
theorem lookup_cons_ne {α β : Type} [BEq α] [LawfulBEq α] {a b : α} {v : β} {l : List (α × β)} (h : a ≠ b) : ((b, v) :: l).lookup a = l.lookup a := by
  rw [List.lookup_cons, beq_eq_false_iff_ne.mpr h]
noncomputable def kAt (r : SharedT) (a : Nat) : Option Obj := match Nat.blt a r.n with
  | true => match r.tree.get a with
    | some o => alive o
    | none => none
  | false => none
noncomputable def kOf (r : SharedT) : List Nat → Frag
  | [] => []
  | a :: l => match kAt r a with
    | some o => (a, o) :: kOf r l
    | none => kOf r l
theorem kAt_is {r : SharedT} {a : Nat} {o : Obj} (h : kAt r a = some o) : r.abs.heap.get? a = some o := by
  delta kAt at h
  cases hb : Nat.blt a r.n with
  | false => rw [hb] at h; exact no_some h
  | true =>
    rw [hb] at h
    cases h1 : r.tree.get a with
    | none => rw [h1] at h; exact no_some h
    | some o1 =>
      rw [h1] at h
      exact (abs_get (Nat.le_of_ble_eq_true hb) h1).trans h
theorem kOf_in (r : SharedT) : ∀ l : List Nat, (kOf r l).In r.abs.heap
  | [], a, o, h => no_some h
  | b :: l, a, o, h => by
    have h : (match kAt r b with | some o => (b, o) :: kOf r l | none => kOf r l : Frag).lookup a = some o := h
    cases hk : kAt r b with
    | none => rw [hk] at h; exact kOf_in r l a o h
    | some o1 =>
      rw [hk] at h
      by_cases e : a = b
      · subst e
        rw [List.lookup_cons_self] at h
        rw [← Option.some.inj h]
        exact kAt_is hk
      · exact kOf_in r l a o ((lookup_cons_ne e).symm.trans h)

/-- a def's own text, out of its object -/
noncomputable def fnView (o : Obj) : Option (Arguments × FuncBody × Scope × List (Str × Addr)) := match o with
  | ⟨_, _, .func fd, _⟩ => some (fd.params, fd.body, fd.scope, fd.closure)
  | _ => none
structure FnD where
  a : Addr
  args : Arguments
  r : FnR
noncomputable def ofStmt (a : Addr) (dfl : List AV) : Stmt → FnD
  | .FunctionDef _ args body _ _ _ sc _ _ _ => ⟨a, args, args.args.map (·.arg), body, sc, dfl, (cellsFrom 0 sc.names []).map (·.1)⟩
  | _ => ⟨a, ⟨[], [], none, [], [], none, []⟩, ⟨[], [], ⟨.function, [], false, false, []⟩, [], []⟩⟩
noncomputable def stAt (l : List Stmt) (i : Nat) : Stmt := match nth l i with
  | some s => s
  | none => .Pass ⟨0, 0, 0, 0⟩
noncomputable def stIn (s : Stmt) (j : Nat) : Stmt := match s with
  | .ClassDef _ _ _ body _ _ _ _ _ _ _ => stAt body j
  | _ => .Pass ⟨0, 0, 0, 0⟩

noncomputable def avOf (c : Value) : Option AV := match c with
  | .none => some .none
  | .bool b => some (.bool b)
  | .int x _ => some (.int (IE.lit x))
  | .str x _ => some (.str x)
  | .bytes x _ => some (.byts x.toList)
  | .ref a => some (.top a)
  | _ => none
theorem avOf_is {c : Value} {v : AV} (h : avOf c = some v) : VR W00 v c := by
  induction c using PySem.Value.casesOn with
  | none => rw [← Option.some.inj h]; exact .none
  | bool b => rw [← Option.some.inj h]; exact .bool _
  | int x u => rw [← Option.some.inj h]; exact .int _ (IE.ev_lit ..)
  | str x u => rw [← Option.some.inj h]; exact .str _ _
  | bytes x u => rw [← Option.some.inj h]; exact .byts _ rfl
  | ref a => rw [← Option.some.inj h]; exact .top _
  | _ => exact no_some h
noncomputable def avB (v : AV) (c : Value) : Bool := onO (avOf c) fun u => avEq1 v u
theorem avB_is {v : AV} {c : Value} (h : avB v c = true) : VR W00 v c := by
  obtain ⟨u, h1, h2⟩ := onO_is h
  exact avEq1_is h2 ▸ avOf_is h1
noncomputable def avsB : List AV → List Value → Bool
  | [], [] => true
  | v :: r, c :: t => avB v c && avsB r t
  | _, _ => false
theorem avsB_is : ∀ {vs : List AV} {cs : List Value}, avsB vs cs = true → All2 (VR W00) vs cs
  | [], [], _ => .nil
  | [], _ :: _, h => by exact ff h
  | _ :: _, [], h => by exact ff h
  | v :: r, c :: t, h => by
    obtain ⟨h1, h2⟩ := Bool.and_eq_true_iff.mp h
    exact .cons (avB_is h1) (avsB_is h2)
noncomputable def nodupS : List Str → Bool
  | [] => true
  | x :: r => !memS x r && nodupS r
theorem nodupS_is : ∀ {l : List Str}, nodupS l = true → l.Nodup
  | [], _ => .nil
  | x :: r, h => by
    obtain ⟨h1, h2⟩ := Bool.and_eq_true_iff.mp h
    rw [List.nodup_cons]
    refine ⟨fun hm => ?_, nodupS_is h2⟩
    rw [memS_of hm] at h1
    exact ff h1
noncomputable def eqS : List Str → List Str → Bool
  | [], [] => true
  | x :: r, y :: t => sq x y && eqS r t
  | _, _ => false
theorem eqS_is : ∀ {a b : List Str}, eqS a b = true → a = b
  | [], [], _ => rfl
  | [], _ :: _, h => by exact ff h
  | _ :: _, [], h => by exact ff h
  | x :: r, y :: t, h => by
    obtain ⟨h1, h2⟩ := Bool.and_eq_true_iff.mp h
    rw [sq_eq h1, eqS_is h2]
/-- the object's side -/
noncomputable def funcOf (o : Obj) : Option FuncData := match o.cls with
  | .type _ => match o.data with
    | .func fd => some fd
    | _ => none
  | _ => none
theorem funcOf_is {o : Obj} {fd : FuncData} (h : funcOf o = some fd) : ∃ t od osl, o = ⟨.type t, od, .func fd, osl⟩ := by
  obtain ⟨oc, od, odt, osl⟩ := o
  induction oc using PySem.Value.casesOn with
  | type t => induction odt using PySem.Data.casesOn with
    | func f => rw [← Option.some.inj (show some f = some fd from h)]; exact ⟨_, _, _, rfl⟩
    | _ => exact no_some h
  | _ => exact no_some h
noncomputable def seqOf (o : Obj) : Option (Array Value) := match o.data with
  | .seq ds _ => some ds
  | _ => none
theorem seqOf_is {o : Obj} {ds : Array Value} (h : seqOf o = some ds) : ∃ n, o.data = .seq ds n := by
  obtain ⟨oc, od, odt, osl⟩ := o
  induction odt using PySem.Data.casesOn with
  | seq d n => rw [← Option.some.inj (show some d = some ds from h)]; exact ⟨_, rfl⟩
  | _ => exact no_some h
noncomputable def dflB (K : Frag) (d : FnD) (v : Value) : Bool := match v with
  | .none => d.r.dfl.isEmpty
  | .ref T => onO ((K.lookup T).bind seqOf) fun ds => avsB d.r.dfl ds.toList
  | _ => false
theorem dflB_is {K : Frag} {d : FnD} {v : Value} (h : dflB K d v = true) : (v = .none ∧ d.r.dfl = []) ∨ ∃ T o n ds, v = .ref T ∧ K.lookup T = some o ∧ o.data = .seq (List.toArray ds) n ∧ All2 (VR W00) d.r.dfl ds := by
  induction v using PySem.Value.casesOn with
  | none => exact .inl ⟨rfl, List.isEmpty_iff.mp h⟩
  | ref T =>
    obtain ⟨ds, e, h⟩ := onO_is (show onO ((K.lookup T).bind seqOf) _ = true from h)
    obtain ⟨o, e1, e2⟩ := Option.bind_eq_some_iff.mp e
    obtain ⟨n, e3⟩ := seqOf_is e2
    exact .inr ⟨T, o, n, ds.toList, rfl, e1, e3, avsB_is h⟩
  | _ => exact ff h
noncomputable def objB (K : Frag) (d : FnD) : Bool := onO ((K.lookup d.a).bind funcOf) fun fd => Nat.beq fd.globals mainGlobals && (Nat.beq fd.builtins builtinsNs && (codeIn K fd.code fd.qualname && (dflB K d fd.defaults && isFn K (.ref d.a))))
noncomputable def kindF : ScopeKind → Bool
  | .function => true
  | _ => false
theorem kindF_is {k : ScopeKind} (h : kindF k = true) : k = .function := by
  induction k using PySem.ScopeKind.casesOn <;> first | rfl | exact ff h
theorem not_is {b : Bool} (h : (!b) = true) : b = false := by
  induction b using Bool.casesOn with
  | false => rfl
  | true => exact ff h
noncomputable def argsB (a : Arguments) (ps : List Str) : Bool := a.posonlyargs.isEmpty && (a.vararg.isNone && (a.kwonlyargs.isEmpty && (a.kwarg.isNone && eqS (a.args.map (·.arg)) ps)))
theorem argsB_is {a : Arguments} {ps : List Str} (h : argsB a ps = true) : a.posonlyargs = [] ∧ a.args.map (·.arg) = ps ∧ a.kwonlyargs = [] ∧ a.vararg = none ∧ a.kwarg = none := by
  refine Classical.byContradiction fun hgo => ?_
  obtain ⟨h1, h⟩ := an h
  obtain ⟨h2, h⟩ := an h
  obtain ⟨h3, h⟩ := an h
  obtain ⟨h4, h5⟩ := an h
  refine hgo ?_
  exact ⟨List.isEmpty_iff.mp h1, eqS_is h5, List.isEmpty_iff.mp h3, Option.isNone_iff_eq_none.mp h2, Option.isNone_iff_eq_none.mp h4⟩
noncomputable def lcB (d : FnD) (x : Str) : Bool := onO (lk x d.r.sc.names) fun q => match q with
  | .local => !memS x d.r.cn
  | .cell => true
  | _ => false
theorem lcB_is {d : FnD} {x : Str} (h : lcB d x = true) : (memS x d.r.cn = false ∧ d.r.sc.names.lookup x = some .local) ∨ d.r.sc.names.lookup x = some .cell := by
  obtain ⟨q, e, h⟩ := onO_is h
  rw [lk_eq] at e
  induction q using PySem.NameKind.casesOn with
  | «local» => exact .inl ⟨not_is h, e⟩
  | cell => exact .inr e
  | _ => exact ff h
/-- the text's side of a def: no object in sight -/
noncomputable def txtB (d : FnD) : Bool := argsB d.args d.r.ps && (nodupS d.r.ps && (Nat.ble d.r.dfl.length d.r.ps.length && ((d.r.ps.all (lcB d)) && (kindF d.r.sc.kind && (!d.r.sc.isCoroutine && (!d.r.sc.isGenerator && (eqS ((cellsFrom 0 d.r.sc.names []).map (·.1)) d.r.cn && nodupS d.r.cn)))))))
theorem fnOK_of {K : Frag} {d : FnD} (h1 : txtB d = true) (h2 : objB K d = true) (h3 : (K.lookup d.a).bind fnView = some (d.args, .stmts d.r.body, d.r.sc, [])) : FnOK K d.a d.r := by
  refine Classical.byContradiction fun hgo => ?_
  obtain ⟨ha, h1⟩ := an h1
  obtain ⟨hn, h1⟩ := an h1
  obtain ⟨hd, h1⟩ := an h1
  obtain ⟨hl, h1⟩ := an h1
  obtain ⟨hk, h1⟩ := an h1
  obtain ⟨hc, h1⟩ := an h1
  obtain ⟨hg, h1⟩ := an h1
  obtain ⟨hcs, hcn⟩ := an h1
  obtain ⟨fd, e, h2⟩ := onO_is h2
  obtain ⟨o, e1, e2⟩ := Option.bind_eq_some_iff.mp e
  obtain ⟨t, od, osl, rfl⟩ := funcOf_is e2
  obtain ⟨g1, h2⟩ := an h2
  obtain ⟨g2, h2⟩ := an h2
  obtain ⟨g3, h2⟩ := an h2
  obtain ⟨g4, g5⟩ := an h2
  refine hgo ?_
  rw [e1] at h3
  obtain ⟨name, qual, params, body, scope, globals, closure, dV, kV, doc, pm, an, cdv, ct, bu⟩ := fd
  obtain ⟨q1, h3⟩ := Prod.mk.inj (Option.some.inj h3)
  obtain ⟨q2, h3⟩ := Prod.mk.inj h3
  obtain ⟨q3, q4⟩ := Prod.mk.inj h3
  have q5 : globals = mainGlobals := Nat.eq_of_beq_eq_true g1
  have q6 : bu = builtinsNs := Nat.eq_of_beq_eq_true g2
  subst q1 q2 q3 q4 q5 q6
  obtain ⟨a1, a2, a3, a4, a5⟩ := argsB_is ha
  exact ⟨⟨d.args, .type t, od, osl, name, qual, dV, kV, doc, pm, an, cdv, ct, e1, g3, a1, a2, a3, a4, a5, dflB_is g4⟩, nodupS_is hn, Nat.le_of_ble_eq_true hd, fun x hx => lcB_is (List.all_eq_true.mp hl x hx), kindF_is hk, not_is hc, not_is hg, eqS_is hcs, nodupS_is hcn⟩

/-! ## classes -/
/-- a name looked up where all keys are texts -/
noncomputable def nsQ (x : Str) : List DictEntry → Option (Option Value)
  | [] => some none
  | e :: r => match e.key with
    | .str y _ => match sq x y with
      | true => some (some e.val)
      | false => nsQ x r
    | _ => none
theorem nsQ_step (x y : Str) (t : Tok) (hsh : Int) (v : Value) (r : List DictEntry) : nsQ x (⟨hsh, .str y t, v⟩ :: r) = match sq x y with | true => some (some v) | false => nsQ x r := rfl
theorem nsQ_is {x : Str} : ∀ {es : List DictEntry} {r : Option Value}, nsQ x es = some r → (match es.find? (·.key.isStr x) with
    | some e => some (some e.val)
    | none => if es.any (·.refKey) then none else some none) = some r
  | [], r, h => h
  | ⟨hsh, k, v⟩ :: es, r, h => by
    induction k using PySem.Value.casesOn <;> first | exact no_some h | skip
    rename_i y t
    rw [nsQ_step] at h
    rw [List.find?_cons, List.any_cons]
    have e1 : Value.isStr (.str y t) x = (y == x) := rfl
    have e2 : DictEntry.refKey ⟨hsh, .str y t, v⟩ = false := rfl
    rw [e1, e2, Bool.false_or]
    cases q : sq x y with
    | true =>
      rw [q] at h
      rw [← sq_eq q, beq_self_eq_true]
      exact h
    | false =>
      rw [q] at h
      rw [show (y == x) = false from beq_eq_false_iff_ne.mpr fun e => by rw [e, sq_refl] at q; exact ff q.symm]
      exact nsQ_is h
noncomputable def dictD (o : Obj) : Option (List DictEntry) := match o.data with
  | .dict es _ => some es.toList
  | _ => none
noncomputable def nsF (K : Frag) (ns : Addr) (x : Str) : Option (Option Value) := ((K.lookup ns).bind dictD).bind (nsQ x)
theorem nsF_is {K : Frag} {ns : Addr} {x : Str} {r : Option Value} (h : nsF K ns x = some r) : nsIn K ns x = some r := by
  obtain ⟨l, h1, h2⟩ := Option.bind_eq_some_iff.mp h
  obtain ⟨o, h3, h4⟩ := Option.bind_eq_some_iff.mp h1
  obtain ⟨c, d, dt, sl⟩ := o
  unfold nsIn
  rw [h3]
  induction dt using PySem.Data.casesOn <;> first | exact no_some h4 | skip
  obtain rfl := Option.some.inj h4
  exact nsQ_is h2
noncomputable def ownF (K : Frag) (x : Str) (v : Value) : Option (Option Value) := match v with
  | .ref a => (clsIn K a).bind fun cd => nsF K cd.ns x
  | .type n => some (fastBuiltinOwn n x)
  | _ => none
noncomputable def alongF (K : Frag) (x : Str) : List Value → Option (Option Value)
  | [] => some none
  | c :: r => (ownF K x c).bind fun o => match o with
    | some v => some (some v)
    | none => alongF K x r
theorem clsIn_is {K : Frag} {a : Addr} {cd : ClassData} (h : clsIn K a = some cd) : ∃ c d sl, K.lookup a = some ⟨c, d, .cls cd, sl⟩ := by
  unfold clsIn at h
  cases e : K.lookup a with
  | none => rw [e] at h; exact no_some h
  | some o =>
    rw [e] at h
    obtain ⟨c, d, dt, sl⟩ := o
    induction dt using PySem.Data.casesOn <;> first | exact no_some h | skip
    rw [Option.some.inj (show some _ = some cd from h)]
    exact ⟨_, _, _, rfl⟩
theorem ownF_is {K : Frag} {x : Str} {v : Value} {r : Option Value} (h : ownF K x v = some r) : ownIn K x v = some r := by
  induction v using PySem.Value.casesOn <;> first | exact no_some h | exact h | skip
  obtain ⟨cd, h1, h2⟩ := Option.bind_eq_some_iff.mp h
  obtain ⟨c, d, sl, e⟩ := clsIn_is h1
  unfold ownIn
  dsimp only
  rw [e]
  exact nsF_is h2
theorem alongF_is {K : Frag} {x : Str} : ∀ {l : List Value} {r : Option Value}, alongF K x l = some r → alongIn K x l = some r
  | [], _, h => h
  | c :: l, r, h => by
    obtain ⟨o, h1, h2⟩ := Option.bind_eq_some_iff.mp h
    unfold alongIn
    rw [ownF_is h1]
    induction o using Option.casesOn with
    | none => exact alongF_is h2
    | some v => exact h2
noncomputable def findF (K : Frag) (C : Addr) (x : Str) : Option (Option Value) := (clsIn K C).bind fun cd => alongF K x cd.mro
theorem findF_is {K : Frag} {C : Addr} {x : Str} {r : Option Value} (h : findF K C x = some r) : findIn K (.ref C) x = some r := by
  obtain ⟨cd, h1, h2⟩ := Option.bind_eq_some_iff.mp h
  obtain ⟨c, d, sl, e⟩ := clsIn_is h1
  unfold findIn
  dsimp only
  rw [e]
  exact alongF_is h2
noncomputable def refV (v : Option Value) : Option Addr := match v with
  | some v => match v with
    | .ref b => some b
    | _ => none
  | none => none
theorem refV_is {v : Option Value} {a : Addr} (h : refV v = some a) : v = some (.ref a) := by
  induction v using Option.casesOn with
  | none => exact no_some h
  | some v => induction v using PySem.Value.casesOn with
    | ref b => rw [Option.some.inj (show some b = some a from h)]
    | _ => exact no_some h
noncomputable def bltV (v : Option Value) : Option String := match v with
  | some v => match v with
    | .builtin b => some b
    | _ => none
  | none => none
theorem bltV_is {v : Option Value} {a : String} (h : bltV v = some a) : v = some (.builtin a) := by
  induction v using Option.casesOn with
  | none => exact no_some h
  | some v => induction v using PySem.Value.casesOn with
    | builtin b => rw [Option.some.inj (show some b = some a from h)]
    | _ => exact no_some h
noncomputable def isRef (o : Option (Option Value)) (a : Addr) : Bool := onO (o.bind refV) fun b => Nat.beq b a
noncomputable def isNN (o : Option (Option Value)) : Bool := onO o fun v => v.isNone
noncomputable def isBl (o : Option (Option Value)) (i : String) : Bool := onO (o.bind bltV) fun j => j == i
theorem isRef_is {o : Option (Option Value)} {a : Addr} (h : isRef o a = true) : o = some (some (.ref a)) := by
  obtain ⟨b, e, h⟩ := onO_is h
  obtain ⟨v, e1, e2⟩ := Option.bind_eq_some_iff.mp e
  rw [e1, refV_is e2, Nat.eq_of_beq_eq_true h]
theorem isNN_is {o : Option (Option Value)} (h : isNN o = true) : o = some none := by
  obtain ⟨v, e, h⟩ := onO_is h
  rw [e, Option.isNone_iff_eq_none.mp h]
theorem isBl_is {o : Option (Option Value)} {i : String} (h : isBl o i = true) : o = some (some (.builtin i)) := by
  obtain ⟨b, e, h⟩ := onO_is h
  obtain ⟨v, e1, e2⟩ := Option.bind_eq_some_iff.mp e
  rw [e1, bltV_is e2, beq_iff_eq.mp h]
noncomputable def prpB (K : Frag) (C : Addr) (x : Str × Addr × Addr) : Bool := isRef (findF K C x.1) x.2.1 && (isBl (specialIn K (.ref x.2.1) (Str.ofString "__get__")) "property.__get__" && (onO (takesIn K (.ref x.2.1)) (fun b => b) && onO ((recIn K x.2.1 "property").bind fun l => refV l.head?) fun g => Nat.beq g x.2.2))
theorem prpB_is {K : Frag} {C : Addr} {x : Str × Addr × Addr} (h : prpB K C x = true) : findIn K (.ref C) x.1 = some (some (.ref x.2.1)) ∧ specialIn K (.ref x.2.1) (Str.ofString "__get__") = some (some (.builtin "property.__get__")) ∧ takesIn K (.ref x.2.1) = some true ∧ ∃ r, recIn K x.2.1 "property" = some (.ref x.2.2 :: r) := by
  refine Classical.byContradiction fun hgo => ?_
  obtain ⟨z1, h⟩ := an h
  obtain ⟨z2, h⟩ := an h
  obtain ⟨z3, z4⟩ := an h
  obtain ⟨b, e3, z3⟩ := onO_is z3
  obtain ⟨g, e4, z4⟩ := onO_is z4
  obtain ⟨l, e5, e6⟩ := Option.bind_eq_some_iff.mp e4
  refine hgo ?_
  refine ⟨findF_is (isRef_is z1), isBl_is z2, by rw [e3]; exact congrArg some z3, ?_⟩
  induction l using List.casesOn with
  | nil => exact no_some e6
  | cons v r =>
    rw [e5, Option.some.inj (refV_is e6), Nat.eq_of_beq_eq_true z4]
    exact ⟨r, rfl⟩
noncomputable def clsB (K : Frag) (C : Addr) (r : ClR) : Bool :=
  makesIn K C && (isRef (findF K C (Str.ofString "__init__")) r.init && (isFn K (.ref r.init) && (isBl (findF K C (Str.ofString "__getattribute__")) "object.__getattribute__" &&
    (isNN (findF K C (Str.ofString "__getattr__")) && (isBl (findF K C (Str.ofString "__setattr__")) "object.__setattr__" && (plainOver K C && (Option.any (fun x => x.hasDict) (clsIn K C) &&
      ((r.fld.all fun x => isNN (findF K C x)) && ((r.met.all fun x => isRef (findF K C x.1) x.2 && isFn K (.ref x.2)) && (keepIn K (.ref C) && r.prp.all (prpB K C)))))))))))
theorem clOK_of {K : Frag} {C : Addr} {r : ClR} (h : clsB K C r = true) : ClOK K C r := by
  refine Classical.byContradiction fun hgo => ?_
  obtain ⟨h1, h⟩ := an h
  obtain ⟨h2, h⟩ := an h
  obtain ⟨h3, h⟩ := an h
  obtain ⟨h4, h⟩ := an h
  obtain ⟨h5, h⟩ := an h
  obtain ⟨h6, h⟩ := an h
  obtain ⟨h7, h⟩ := an h
  obtain ⟨h8, h⟩ := an h
  obtain ⟨h9, h⟩ := an h
  obtain ⟨h10, h⟩ := an h
  obtain ⟨h11, h12⟩ := an h
  refine hgo ?_
  exact ⟨h1, findF_is (isRef_is h2), h3, findF_is (isBl_is h4), findF_is (isNN_is h5), findF_is (isBl_is h6), h7, h8, fun x hx => findF_is (isNN_is (List.all_eq_true.mp h9 x hx)), fun x a hx => (an (List.all_eq_true.mp h10 (x, a) (lk_mem hx))).imp (fun q => findF_is (isRef_is q)) beq_iff_eq.mp, h11, fun x q hx => prpB_is (List.all_eq_true.mp h12 (x, q) (lk_mem hx))⟩

/-! ## names -/
noncomputable def blTable : List (Str × AV) := [(Str.ofString "len", .blt .len), (Str.ofString "max", .blt .max), (Str.ofString "min", .blt .min), (Str.ofString "sorted", .blt .sorted), (Str.ofString "any", .blt .any),
  (Str.ofString "int", .typ .int), (Str.ofString "bytes", .typ .bytes), (Str.ofString "range", .typ .range), (Str.ofString "list", .typ .list), (Str.ofString "str", .typ .str), (Str.ofString "bool", .typ .bool), (Str.ofString "bytearray", .typ .bytearray)]
theorem bl_row {x x' : Str} {v v' : AV} {r : List (Str × AV)} (h : (x, v) ∈ (x', v') :: r) (h1 : x' ≠ Str.ofString "__name__") {c : Value} (h2 : bootBuiltins x' = some c) (h3 : VR W00 v' c) (hr : (x, v) ∈ r → x ≠ Str.ofString "__name__" ∧ ∃ c, bootBuiltins x = some c ∧ VR W00 v c) : x ≠ Str.ofString "__name__" ∧ ∃ c, bootBuiltins x = some c ∧ VR W00 v c := by
  rcases List.mem_cons.mp h with e | h
  · obtain ⟨rfl, rfl⟩ := Prod.mk.inj e
    exact ⟨h1, c, h2, h3⟩
  · exact hr h
theorem blTable_ok : ∀ x v, (x, v) ∈ blTable → x ≠ Str.ofString "__name__" ∧ ∃ c, bootBuiltins x = some c ∧ VR W00 v c := by
  intro x v h
  refine bl_row h (by decide +kernel) (c := .builtin "len") (by decide +kernel) (.blt .len) fun h => ?_
  refine bl_row h (by decide +kernel) (c := .builtin "max") (by decide +kernel) (.blt .max) fun h => ?_
  refine bl_row h (by decide +kernel) (c := .builtin "min") (by decide +kernel) (.blt .min) fun h => ?_
  refine bl_row h (by decide +kernel) (c := .builtin "sorted") (by decide +kernel) (.blt .sorted) fun h => ?_
  refine bl_row h (by decide +kernel) (c := .builtin "any") (by decide +kernel) (.blt .any) fun h => ?_
  refine bl_row h (by decide +kernel) (c := .type "int") (by decide +kernel) (.typ .int) fun h => ?_
  refine bl_row h (by decide +kernel) (c := .type "bytes") (by decide +kernel) (.typ .bytes) fun h => ?_
  refine bl_row h (by decide +kernel) (c := .type "range") (by decide +kernel) (.typ .range) fun h => ?_
  refine bl_row h (by decide +kernel) (c := .type "list") (by decide +kernel) (.typ .list) fun h => ?_
  refine bl_row h (by decide +kernel) (c := .type "str") (by decide +kernel) (.typ .str) fun h => ?_
  refine bl_row h (by decide +kernel) (c := .type "bool") (by decide +kernel) (.typ .bool) fun h => ?_
  refine bl_row h (by decide +kernel) (c := .type "bytearray") (by decide +kernel) (.typ .bytearray) fun h => ?_
  exact absurd h List.not_mem_nil
noncomputable def glB (K : Frag) (gl : List (Str × AV)) : Bool := (gl.all fun x => onO ((nsF K mainGlobals x.1).bind id) fun c => avB x.2 c) && blTable.all fun x => isNN (nsF K mainGlobals x.1)
structure Desc where
  gl : List (Str × AV)
  fns : List FnD
  cls : List (Addr × ClR)
  xc : Option (Addr × Addr)
noncomputable def trOf {α : Type} : List (Nat × α) → Tr α
  | [] => .nil
  | p :: r => (trOf r).put 41 p.1 (some p.2)
theorem trOf_get {α : Type} : ∀ {l : List (Nat × α)}, (l.all fun p => Nat.ble p.1 1000000000) = true → ∀ {a : Nat} {x : α}, (trOf l).get a = some x → (a, x) ∈ l
  | [], _, a, x, h => by exact no_some h
  | p :: r, hb, a, x, h => by
    obtain ⟨b1, b2⟩ := an hb
    have h : ((trOf r).put 41 p.1 (some p.2)).get a = some x := h
    rw [Tr.get_put _ 40 _ _ _ (Nat.lt_of_le_of_lt (Nat.le_of_ble_eq_true b1) (by decide))] at h
    by_cases e : a = p.1
    · rw [if_pos e] at h
      rw [e, ← Option.some.inj h]; exact .head _
    · rw [if_neg e] at h
      exact .tail _ (trOf_get b2 h)
noncomputable def seOf (D : Desc) : SE := ⟨D.gl, blTable, trOf (D.fns.map fun d => (d.a, d.r)), trOf D.cls, .nil, D.xc⟩
noncomputable def smallB (D : Desc) : Bool := ((D.fns.map fun d => (d.a, d.r)).all fun p => Nat.ble p.1 1000000000) && (D.cls.all fun p => Nat.ble p.1 1000000000)
/-- all looks at the objects -/
noncomputable def envB1 (K : Frag) (D : Desc) : Bool := glB K D.gl && D.fns.all fun d => objB K d
noncomputable def envB2 (K : Frag) (D : Desc) : Bool := (D.cls.all fun c => clsB K c.1 c.2) && ((K.lookup sysModules).isSome && true)
noncomputable def envB (K : Frag) (D : Desc) : Bool := envB1 K D && envB2 K D
noncomputable def fnTab (D : Desc) : List (Option (Arguments × FuncBody × Scope × List (Str × Addr))) := D.fns.map fun d => some (d.args, .stmts d.r.body, d.r.sc, [])
noncomputable def fnLook (K : Frag) (D : Desc) : List (Option (Arguments × FuncBody × Scope × List (Str × Addr))) := D.fns.map fun d => (K.lookup d.a).bind fnView
theorem map_same {α β : Type} {f g : α → β} : ∀ {l : List α}, l.map f = l.map g → ∀ x ∈ l, f x = g x
  | [], _, x, h => (nomatch h)
  | y :: r, e, x, h => by
    rw [List.map_cons, List.map_cons] at e
    obtain ⟨e1, e2⟩ := List.cons.inj e
    rcases List.mem_cons.mp h with rfl | h
    · exact e1
    · exact map_same e2 x h
theorem envOK_of {K : Frag} {D : Desc} (h : envB K D = true) (hs : smallB D = true) (ht : (D.fns.all txtB) = true) (hl : fnLook K D = fnTab D) (w : World) (os : OsState) : EnvOK w (w.params.strHash, os) K (seOf D) := by
  refine Classical.byContradiction fun hgo => ?_
  obtain ⟨h12, h345⟩ := an h
  obtain ⟨h1, h2⟩ := an h12
  obtain ⟨h3, h45⟩ := an h345
  obtain ⟨h4, h5⟩ := an h45
  obtain ⟨s1, s2⟩ := an hs
  obtain ⟨g1, g2⟩ := an h1
  refine hgo ?_
  refine ⟨rfl, ⟨fun x v hx => ?_, fun x v hx => ?_⟩, ⟨fun a r hr => ?_⟩, fun a r hr => clOK_of (List.all_eq_true.mp h3 (a, r) (trOf_get s2 hr)), h4, fun a l C hl => (nomatch hl)
    ⟩
  · obtain ⟨c, e, hc⟩ := onO_is (List.all_eq_true.mp g1 (x, v) (lk_mem hx))
    obtain ⟨o, e1, e2⟩ := Option.bind_eq_some_iff.mp e
    exact ⟨c, nsF_is (e1.trans (congrArg some e2)), avB_is hc⟩
  · obtain ⟨z1, z2⟩ := blTable_ok x v (lk_mem hx)
    exact ⟨nsF_is (isNN_is (List.all_eq_true.mp g2 (x, v) (lk_mem hx))), z1, z2⟩
  · obtain ⟨d, hd, e⟩ := List.mem_map.mp (trOf_get s1 hr)
    obtain ⟨rfl, rfl⟩ := Prod.mk.inj e
    exact fnOK_of (List.all_eq_true.mp ht d hd) (List.all_eq_true.mp h2 d hd) (map_same hl d hd)
end Mine

namespace Mine
open PySem PySem.W PySem.Calls PyProof.Rows PySem.SeqAt
open Sem (wp)
set_option maxRecDepth 100000

theorem ccall_def {prog : Program} {w : World} {A : Around} {s : Shared} {R : Result → Shared → Prop} {a : Addr} {o : Obj} {fd : FuncData} {body : List Stmt} {args : Args} {binds : List (Str × Value)}
    (hroom : A.depth < recursionLimit) (ho : s.heap.get? a = some o) (hdata : o.data = .func fd) (hlim : s.heap.NoLimit) (hcd : s.heap.CodeRec fd.code fd.qualname)
    (hbody : fd.body = .stmts body) (hbind : BindsTo s fd args binds)
    (hcell : ∀ x ∈ fd.scope.names, x.2 ≠ .cell) (hloc : ∀ x ∈ binds, fd.scope.names.lookup x.1 = some .local)
    (h : ∀ h₀, h₀.Ns s.heap.objs.size (fun x => binds.reverse.lookup x) → (∀ b o, s.heap.get? b = some o → h₀.get? b = some o) →
      wpX (model prog w) (A.deeper (callEnv fd s.heap.objs.size a)) (execs body (callEnv fd s.heap.objs.size a)) (fun f s' => R (.ok (.ret (match f with | .ret v => v | _ => .none))) s') noE
        { s with heap := h₀, toks := s.toks + binds.length })
    (hco : fd.scope.isCoroutine = false := by rfl) (hgen : fd.scope.isGenerator = false := by rfl) (hk : fd.scope.kind = .function := by rfl) : codeX (model prog w) A (.call (.ref a) args) R s := by
  refine ccall_function hroom ho hdata hco hgen hbody hcd (hbind _ _ _ _ ?_)
  refine wpAny_newFunctionEnv hcell hloc (fun h₀ hns₀ hsb₀ => ⟨hlim.fresh _ hsb₀, cfunc (h h₀ hns₀ fun b o e => ?_)⟩) hk
  exact hsb₀.extBut b o (Nat.ne_of_lt (Heap.lt_size e)) (Heap.get?_push_of_some _ e)
/-! ## from the caller's own stack -/
theorem caller_ND : ND (⟨.builtin "claim.caller" {}, none, none, [], none⟩ : Ctx) := ⟨by show (!(Builtin.Bytes.decodersThatHold.contains "claim.caller") && !(heldBy.contains "claim.caller")) = true; decide +kernel, fun _ hx => nomatch hx⟩
theorem thread_endsX {prog : Program} {w : World} {t : Sem Fin} {s : Shared} {R : Result → Shared → Prop} (hreg : s.asleep)
    (h : wpX (model prog w) callerA t (fun fin s' => ∃ f, fin = .done f ∧ (R (.ok f) s' ∧ leftWithCleanup s'.gens = false)) (fun e s' => R (.error e) s' ∧ leftWithCleanup s'.gens = false) s) :
    ∃ n r s' s'', runN (denote table) prog w n s ⟨t, .builtin "claim.caller" {}, default, []⟩ = .halted (outcomeOf r) s' ∧
      schedN (denote table) prog w n (.single s ⟨t, .builtin "claim.caller" {}, default, []⟩) = .halted (outcomeOf r) s' ∧ s'.forget = s''.forget ∧ R r s'' := by
  have h' : wp (model prog w) ⟨.builtin "claim.caller" {}, none, none, [], none⟩ t (Sem.finPost (model prog w) ⟨.builtin "claim.caller" {}, none, none, [], none⟩ (fun r s' => R r s' ∧ leftWithCleanup s'.gens = false)) (fun e _ s' => R (.error e) s' ∧ leftWithCleanup s'.gens = false) default s := by
    refine Sem.wp_mono (model prog w) _ t (fun fin p' s' h' => ?_) (fun _ _ _ h' => h') default s (h _ default caller_in caller_ND)
    obtain ⟨f, rfl, hf⟩ := h'
    exact hf
  obtain ⟨n, r, s₁, s₂, hs, hn, hfo, hR⟩ := wp_halts_full (M := model prog w) (R := R) hreg h'
  exact ⟨n, r, s₂, s₁, hn, hs, hfo, hR⟩
theorem callFromX {c : ClaimW} {tree : List Value → Sem Fin} {w : World} {s : Shared} {free : Addr → Prop} {gens : Prop} {kept : Heap → Prop} (hz : s.asleep) (hgens : s.gens = #[])
    (hspec : ∀ args, c.pre args = true → WData.layableAll args = true →
      ∀ ord : List DictEntry → List DictEntry, (∀ l, (ord l).Perm l) →
      ∃ vs s₁, layAllW c.records (classAt s.heap) w.params ord args s = some (vs, s₁) ∧
        wpX (model c.prog w) callerA (tree vs) (fun fin s' => ∃ f, fin = .done f ∧ (c.Ends s args vs s₁ (.ok f) s' ∧ s'.os = s.os ∧ AllBare s'.gens ∧ kept s'.heap))
          (fun e s' => c.Ends s args vs s₁ (.error e) s' ∧ s'.os = s.os ∧ AllBare s'.gens ∧ kept s'.heap) s₁) :
    c.CallFrom (fun vs => ⟨tree vs, .builtin "claim.caller" {}, default, []⟩) w free gens kept s := by
  intro args hpre hlay ord hord
  refine Classical.byContradiction fun hgo => ?_
  obtain ⟨vs, s₁, hlaid, hcode⟩ := hspec args hpre hlay ord hord
  have hal := layAllW_rest _ _ _ hlaid
  obtain ⟨k, r, s', s'', hrun, hsched, hfo, hcase, hos, hkp⟩ := thread_endsX (prog := c.prog) (w := w) (t := tree vs) (s := s₁)
    (R := fun r s' => c.Ends s args vs s₁ r s' ∧ s'.os = s.os ∧ kept s'.heap)
    (Shared.asleep_of_life hal.2.2.2 hz)
    (xmono hcode (by
      rintro fin s' ⟨f, e, h1, h2, h3, h4⟩
      exact ⟨f, e, ⟨h1, h2, h4⟩, leftWithCleanup_false_of_bare h3⟩) (by
      rintro e s' ⟨h1, h2, h3, h4⟩
      exact ⟨⟨h1, h2, h4⟩, leftWithCleanup_false_of_bare h3⟩))
  obtain ⟨eh, _, _, eo, _⟩ := Shared.forget_eq hfo
  have hcase := hcase.congr eh
  have hkp : kept s'.heap := by first | exact eh ▸ hkp | (rw [eh] at hkp; exact hkp) | (rw [← eh] at hkp; exact hkp)
  rw [← eo] at hos
  have hlife : s'.heap.life = s.heap.life := (runN_life _ _ _ hrun).trans hal.2.2.2
  refine hgo ⟨vs, s₁, hlaid, k, _, s', hsched, ?_, (fun _ i x hx => by rw [hgens] at hx; simp at hx), hkp, by rw [hlife], Shared.rest_eq hos⟩
  refine Classical.byContradiction fun hg2 => ?_
  rcases hcase with ⟨v, rfl, d1, d2, d3, d4, d5⟩ | ⟨e, ob, cls, rfl, d1, d2, d3, d4, d5⟩
  · exact hg2 (.inl ⟨v, rfl, d1, d2, d3, fun b o y _ => d4 b o y, d5⟩)
  · exact hg2 (.inr ⟨e, ob, cls, rfl, d1, d2, d3, d4, fun b o y _ => d5 b o y⟩)
theorem open_anyX' {r : RowW} {run : Value → List Value → Sem Value} {tree : List Value → Sem Fin} {q : Program} {loose defs kps : List Str} {writes : Bool} {Xt : Shared → Bool} {XP : (Str → Option Value) → Heap → Prop} {α : Type} {Yf : Shared → α} {Ya : World → α} {N : Nat}
    (left : LeftO r.prog q loose Xt Yf Ya N) (hX : ∀ s, Xt s = true → XP (s.heap.nsMap mainGlobals) s.heap) (hXk : ∀ mg h h', XP mg h → (∀ b o, h.get? b = some o → h'.get? b = some o) → XP mg h')
    (hRf : ∀ s, Xt s = true → RecFacts r.records s.heap) (hwr : (!writes || r.records.isEmpty) = true) (ok : (chainsOk q && opensWell r.prog && (frees r && r.within.isEmpty)) = true) (hb : r.prog.bare) (hw : r.promised)
    (ht : ∀ vs (w : World) (s : Shared) mg f (Q : Fin → Shared → Prop) (E : Value → Shared → Prop), s.heap.Ns mainGlobals mg → mg r.name = some f → wpX (model r.prog w) callerA (run f vs) (fun v s' => Q (.done (.ret v)) s') E s → wpX (model r.prog w) callerA (tree vs) Q E s)
    (pin : ∀ w s, s.heap.isNs mainGlobals = true → Ground q loose [] XP w s (s.heap.nsMap mainGlobals) (s.heap.nsMap builtinsNs) s.heap → ∀ n ∈ defs, isTheDefsW r.prog s.heap n)
    (call : ∀ (w : World) (s₀ s₁ : Shared) (mg mb : Str → Option Value), Ground q loose r.records XP w s₀ mg mb s₁.heap → Yf s₀ = Ya w → ∀ (args : List WData) (vs : List Value) (as : List Addr),
      r.claim.pre args = true → WData.layableAll args = true → Laid r.records w s₀ s₁ args vs as → sysModules < s₀.heap.objs.size → ∃ f, mg r.name = some f ∧
        wpX (model r.prog w) callerA (run f vs) (fun v s' => GoodWG r.claim (classAt s₀.heap) (ExcName.means s₀.heap) args s₁ (.ok (.ret v)) s')
          (fun e s' => GoodWG r.claim (classAt s₀.heap) (ExcName.means s₀.heap) args s₁ (.error e) s') s₁) : r.claim.HoldsOpenBy (fun vs => ⟨tree vs, .builtin "claim.caller" {}, default, []⟩) defs kps writes := by
  obtain ⟨ok, k5⟩ := Bool.and_eq_true_iff.mp ok
  obtain ⟨hch, o1⟩ := Bool.and_eq_true_iff.mp ok
  obtain ⟨k5, k6⟩ := Bool.and_eq_true_iff.mp k5
  obtain ⟨hsame, hu, ha, hap, hm⟩ := frees_parts k5
  refine ⟨⟨hb, o1, by show r.makers.map _ = []; rw [hm]; rfl⟩, hw.witness, fun w => ⟨(left.behind hX hch w).1, fun s' hs' => ?_⟩⟩
  refine Classical.byContradiction fun hgo => ?_
  obtain ⟨s₀, hf, hg0, s, hT, hz, hgens, hg, G00, y⟩ := (left.behind (XP := fun mg h => XP mg h ∧ RecFacts r.records h) (fun s hs => ⟨hX s hs, hRf s hs⟩) hch w).2 s' hs'
  have G0 : Ground q loose [] XP w s (s.heap.nsMap mainGlobals) (s.heap.nsMap builtinsNs) s.heap := ⟨G00.T, G00.B, G00.D, G00.TE, G00.TD, G00.W, G00.X.1, G00.cls, G00.has, G00.apart, G00.once, G00.K⟩
  have RF := G00.X.2
  have hT' := hT
  refine hgo ⟨s₀, hf, hg0, s, hT, pin w s hg G0, RF.1, RF.2.1, ?_⟩
  have hgens : s.gens = #[] := Array.eq_empty_of_size_eq_zero (beq_iff_eq.mp hgens)
  have G : Ground q loose r.records XP w s _ _ s.heap := RF.ground G0
  refine callFromX (c := r.claim) hz hgens fun args hpre hlay ord hord => ?_
  obtain ⟨⟨vs, s₁⟩, hlaid⟩ := Option.isSome_iff_exists.mp (layAllW_isSome (P := w.params) (ord := ord) G.has args r.args s (pre_splitW hpre).1)
  have keeps := layAllW_keeps _ _ _ hlaid
  have hal := layAllW_rest _ _ _ hlaid
  obtain ⟨as, hrd, hin, hold⟩ := reads_layAllW hord _ _ _ hlaid hlay s₁.heap (fun _ _ e => e)
  have L : Laid r.records w s s₁ args vs as := ⟨⟨ord, hord, hlaid⟩, hrd, hin, hold, keeps, hal.1.trans hgens, hal.2.2.1⟩
  have G₁ := G.keeps hXk keeps
  obtain ⟨f, hf, h⟩ := call w s s₁ _ _ G₁ y args vs as hpre hlay L G.low
  have hi := ident_freeW hu ha hap
  have hwi : r.claim.within = [] := List.isEmpty_iff.mp k6
  exact ⟨vs, s₁, hlaid, ht vs w s₁ _ f _ _ G₁.T.g hf (xmono h (fun v s' g => ⟨_, rfl, have z := g.laid (c := r.claim) hsame hwi hi L; ⟨z.1, z.2.1, z.2.2, fun q => ⟨namesKept_of hT' hg kps keeps g.2.1.old, noTable hwr q⟩⟩⟩) fun e s' g => have z := g.laid (c := r.claim) hsame hwi hi L; ⟨z.1, z.2.1, z.2.2, fun q => ⟨namesKept_of hT' hg kps keeps g.2.1.old, noTable hwr q⟩⟩)⟩
noncomputable def WalkX' (q : Program) (loose : List Str) (XP : (Str → Option Value) → Heap → Prop) {α : Type} (Yf : Shared → α) (Ya : World → α) (r : RowW) (d : DefRec) (kwd : List (Str × Expr)) : Prop :=
  ∀ (w : World) (s₀ s₁ : Shared) (mg mb : Str → Option Value), Ground q loose r.records XP w s₀ mg mb s₁.heap → Yf s₀ = Ya w → ∀ (a : Addr) (o : Obj) (pm cd doc dV kV : Value), s₁.heap.get? a = some o →
    o.data = .func { docDef d.name d.params d.body d.scope pm cd doc with defaults := dV, kwdefaults := kV } → s₁.heap.CodeRec cd d.name → Dflts mg s₁.heap d.params kwd dV kV → mg d.name = some (.ref a) → s₁.gens = #[] →
    ∀ (args : List WData) (vals : List Value) (as : List Addr), Laid r.records w s₀ s₁ args vals as → r.claim.pre args = true → WData.layableAll args = true → ReadsAllW r.records (classAt s₀.heap) s₁.heap vals args as → WellAll w.params s₁.heap vals args → (∀ a ∈ as, (a == sysModules) = false) →
      wpX (model r.prog w) callerA (PySem.call (.ref a) vals) (fun v s' => GoodWG r.claim (classAt s₀.heap) (ExcName.means s₀.heap) args s₁ (.ok (.ret v)) s')
        (fun e s' => GoodWG r.claim (classAt s₀.heap) (ExcName.means s₀.heap) args s₁ (.error e) s') s₁
theorem holds_openX' {r : OpenRow} {q : Program} {loose : List Str} {Xt : Shared → Bool} {XP : (Str → Option Value) → Heap → Prop} {α : Type} {Yf : Shared → α} {Ya : World → α} {d : DefRec} {kwd : List (Str × Expr)} {N : Nat}
    (left : LeftO r.prog q loose Xt Yf Ya N)
    (hX : ∀ s, Xt s = true → XP (s.heap.nsMap mainGlobals) s.heap) (hXk : ∀ mg h h', XP mg h → (∀ b o, h.get? b = some o → h'.get? b = some o) → XP mg h')
    (hdef : defOf q r.name = some (d, kwd)) (hp : r.prog.theDef r.name = some (d.params, d.body, d.scope)) (hk : kwWritten? d.params.kwonlyargs d.params.kw_defaults = some kwd) (hRf : ∀ s, Xt s = true → RecFacts r.records s.heap) (hwr : (!r.writes || r.records.isEmpty) = true)
    (k1 : r.wellSaid = true) (ok : (chainsOk q && opensWell r.prog && (frees r.toRowW && r.within.isEmpty)) = true) (hb : r.prog.bare) (hw : r.toRowW.promised)
    (call : WalkX' q loose XP Yf Ya r.toRowW d kwd) : r.Holds := by
  refine ⟨k1, hw, open_anyX' (r := r.toRowW) (run := fun f vs => PySem.call f vs) (tree := fun vs => do match ← nsGet mainNs r.name with
      | some f => do ret (← PySem.call f vs)
      | none => unsupported "claim.caller:no-such-global") left hX hXk hRf hwr ok hb hw
    (fun vs w s mg f Q E hg hf h => xleaf (wpAny_nsGet hg (by rw [hf]; exact xbind (xmono h (fun _ _ x => xpure x) fun _ _ x => x))))
    (fun w s hg G n hn => ?_) fun w s₀ s₁ mg mb G Y args vs as hpre hlay L low => ?_⟩
  · obtain rfl : n = r.name := by split at hn <;> simp_all
    exact pinned_of_view hg G hdef hp hk
  · obtain ⟨a, o, pm, cd, doc, dV, kV, h1, h2, h3, h4, h5⟩ := G.fn hdef
    exact ⟨.ref a, h1, call w s₀ s₁ mg mb G Y a o pm cd doc dV kV h2 h3 h4 h5 (defOf_name hdef ▸ h1) L.gens args vs as L hpre hlay L.reads L.well (L.low low)⟩
end Mine

namespace Mine
open PySem PySem.W PySem.Calls PyProof.Rows PySem.SeqAt
set_option maxRecDepth 100000

noncomputable def fin (f : Fl) (_ : St) : Bool := match f with
  | .ret (.bool b) => b
  | _ => false
end Mine

namespace Mine
open PySem PySem.W PySem.Calls PyProof.Rows PySem.SeqAt
set_option maxRecDepth 100000

noncomputable def lawStC (x : Str) (cn : List Str) : St := ⟨lcOf cn [(x, .loc 0)], .nil, 1, [⟨0, none, none⟩]⟩
/-- the law's body is run to its end, which is True -/
noncomputable def LawEx (prog : Program) (w : World) (K : Frag) (p : Program) (loose : List Str) (mean : ExcName → Option Value) (mg mb : Str → Option Value) (os0 : (Array Nat → Int) × OsState) (n : Nat) (r : FnR) (kk : List (Str × Nat) → St → Bool) : Prop :=
  ∀ (A : Around) (base : Heap) (h₀ : Gd) (L : Addr) (env : Env) (cl : List (Str × Nat)) (m : Str → Option Value) (W : Wd) (σ : St) (s : Shared) (E : Value → Shared → Prop), Fc K p loose mean mg mb n A base h₀ L → EnvR W L ⟨r.sc, none, cl⟩ env → Rel os0 h₀ L m W σ s → kk cl σ = true →
    wpX (model prog w) A (execs r.body env) (fun g s' => ∃ m' W' σ', g = .ret (.bool true) ∧ Rel os0 h₀ L m' W' σ' s') E s
theorem fin_is {os0 : (Array Nat → Int) × OsState} {h₀ : Gd} {L : Addr} {m : Str → Option Value} {W : Wd} {σ : St} {s : Shared} {f : Fl} {g : Flow} (R : Rel os0 h₀ L m W σ s) (hf : FR W f g) (hk : fin f σ = true) : ∃ m' W' σ', g = .ret (.bool true) ∧ Rel os0 h₀ L m' W' σ' s := by
  unfold fin at hk
  split at hk
  · cases hf with
    | ret hv =>
      cases hv
      rw [show _ = true from hk]
      exact ⟨_, _, _, rfl, R⟩
  · exact ff hk
theorem law_one {w : World} {os0 : (Array Nat → Int) × OsState} {K : Frag} {S : SE} (G : EnvOK w os0 K S) {prog p : Program} {loose : List Str} {mean : ExcName → Option Value} {mg mb : Str → Option Value} {n : Nat} {r : FnR} : LawEx prog w K p loose mean mg mb os0 n r (fun cl σ => (ip S n).ex ⟨r.sc, none, cl⟩ r.body σ fin) :=
  fun A base h₀ L env cl m W σ s E f en R h => (ip_ok G n).ex A base h₀ L env _ m W s E f en _ σ _ _ R h fun _ _ _ _ _ _ _ R' hf hk => fin_is R' hf hk
/-- the law's call, cells too -/
theorem law_endsG {prog p : Program} {loose : List Str} {mean : ExcName → Option Value} {mg mb : Str → Option Value} {w : World} {s₁ : Shared} {fa a : Addr} {c : ClaimW} {cl : Str → Option Addr} {mean' : ExcName → Option Value} {args : List WData} {K : Frag} {S : SE} {n : Nat} {r : FnR} {x : Str} {vs : List Value} {ns : List Int}
    (G : EnvOK w (w.params.strHash, s₁.os) K S) (X : K.In s₁.heap) (T : Top p loose mean mg mb s₁.heap) (hg : s₁.gens = #[]) (hF : FnOK K fa r) (hps : r.ps = [x]) (hdf : r.dfl = []) (hn : n ≤ 200)
    (hl : s₁.heap.IsList a vs.toArray) (hi : IntsAre vs ns) (hlen : ns.length ≤ 2 ^ 40) {kk : List (Str × Nat) → St → Bool} (run : mkCells [(x, .loc 0)] r.cn [] (lawStC x r.cn) kk = true)
    (hex : LawEx prog w K p loose mean mg mb (w.params.strHash, s₁.os) n r kk)
    (hr : ∀ e, c.raises args e = false) (hp : c.post args (.bool true) args = true) :
    wpX (model prog w) callerA (call (.ref fa) [.ref a]) (fun v s' => GoodWG c cl mean' args s₁ (.ok (.ret v)) s') (fun e s' => GoodWG c cl mean' args s₁ (.error e) s') s₁ := by
  refine xcall ?_
  obtain ⟨⟨params, oc, od, osl, name, fq, dV, kV, doc, pm, an, cdv, ct, ho, hcd, p1, p2, p3, p4, p5, hdf'⟩, nd, dl, hlc, kd, co, gn, hcs, hcn⟩ := hF
  have hlx := hlc x (by rw [hps]; exact .head _)
  have hbind : BindsTo s₁ (fnOf name fq params r.body r.sc dV kV doc pm an cdv ct) ⟨[.ref a], []⟩ (r.ps.zip ([Value.ref a] ++ ([] : List Value).drop (([Value.ref a] : List Value).length + ([] : List Value).length - r.ps.length))) := by
    refine binds_simple p1 p2 p3 p4 p5 ?_ nd (by rw [hps]; exact Nat.le_refl _) (by rw [hps]; exact Nat.le_refl _) (by simp)
    rcases hdf' with ⟨h1, _⟩ | ⟨T, o, n', ds, h1, h2, h3, h4⟩
    · exact .inl ⟨h1, rfl⟩
    · rw [hdf] at h4
      cases h4
      exact .inr ⟨T, o, n', h1, X _ _ h2, h3⟩
  have hz : r.ps.zip ([Value.ref a] ++ ([] : List Value).drop (([Value.ref a] : List Value).length + ([] : List Value).length - r.ps.length)) = [(x, .ref a)] := by rw [hps]; rfl
  rw [hz] at hbind
  refine ccall_function (show callerA.depth < recursionLimit by decide) (X _ _ ho) rfl co gn rfl (codeRec_of X hcd) (hbind _ _ _ _ ?_)
  refine wpAny_newFunctionEnv_cells kd (fun y hy => by
    rw [List.mem_singleton.mp hy]
    exact hlx.imp (·.2) fun e => ⟨e, cellsFrom_some r.sc.names _ [] (.inl e)⟩) fun env' he s' xx => ?_
  subst he
  refine ⟨T.nolimit.keeps xx.toInCall.keep, cfunc ?_⟩
  obtain ⟨h₁, tk, rfl, _⟩ := xx.done
  have hk₁ := xx.toInCall.keep
  have hnm : (cellsFrom (s₁.heap.objs.size + 1) r.sc.names []).map (·.1) = r.cn := (cellsFrom_names r.sc.names (s₁.heap.objs.size + 1) 0 [] [] rfl).trans hcs
  obtain ⟨cells, NC, CA⟩ := Cl.news (h₀ := s₁.heap) (Nat.le_refl _) fun n c hm => ⟨xx.cell n c (lookup_of_mem_nodup (hnm ▸ hcn) hm), xx.above n c hm⟩
  have CA : CellsAre (bindC (envOfC fq r.sc s₁.heap.objs.size fa cdv).kindOf [(x, Value.ref a)] fun _ => none) (cellsFrom (s₁.heap.objs.size + 1) r.sc.names []) cells := CA
  have hsm := sm_of (h₀ := ⟨s₁.heap, []⟩) G X
  have F0 : Fr s₁.heap s₁.heap.objs.size h₁ (bindL (envOfC fq r.sc s₁.heap.objs.size fa cdv).kindOf [(x, Value.ref a)] fun _ => none) := ⟨xx.toInCall.ns, hk₁, Nat.le_refl _⟩
  have bnd : ([(x, Value.ref a)].map (·.1)).Nodup := List.nodup_cons.mpr ⟨List.not_mem_nil, .nil⟩
  have lk1 : ∀ y v, lk y [(x, AV.loc 0)] = some v → y = x ∧ v = .loc 0 := by
    intro y v e
    rw [lk_step] at e
    dsimp only at e
    cases q : sq y x with
    | true => rw [q] at e; obtain rfl := Option.some.inj e; exact ⟨sq_eq q, rfl⟩
    | false => rw [q] at e; exact no_some e
  have hlk : ([(x, Value.ref a)] : List (Str × Value)).lookup x = some (.ref a) := by simp
  have R0 : Rel (w.params.strHash, s₁.os) ⟨s₁.heap, []⟩ s₁.heap.objs.size (bindL (envOfC fq r.sc s₁.heap.objs.size fa cdv).kindOf [(x, Value.ref a)] fun _ => none) ⟨[a], [((ns.length : Nat) : Int)], w.params.strHash⟩ (lawStC x r.cn) { s₁ with heap := h₁, toks := tk } := by
    refine ⟨⟨s₁.heap, KtsTurn.refl, F0⟩, fun y v e => ?_, (fun l o e => nomatch e), rfl, (fun l l' o o' e => nomatch e), hg, rfl, ⟨rfl, fun i v e => ?_⟩, ⟨hsm, a, vs, ns, rfl, rfl, hl, hi, hlen⟩, rfl⟩
    · obtain ⟨e1, e2⟩ := lcOf_lk (show lk y (lcOf r.cn [(x, .loc 0)]) = some v from e)
      obtain ⟨rfl, rfl⟩ := lk1 y v e1
      refine ⟨.ref a, ?_, .loc rfl⟩
      have hk : r.sc.names.lookup y = some .local := by
        rcases hlx with z | z
        · exact z.2
        · exfalso
          have : ((cellsFrom 0 r.sc.names []).lookup y).isSome = true := cellsFrom_some r.sc.names 0 [] (.inl z)
          obtain ⟨q, hq⟩ := Option.isSome_iff_exists.mp this
          have hm : y ∈ r.cn := hcs ▸ List.mem_map_of_mem (f := (·.1)) (lookup_mem hq)
          rw [memS_of hm] at e2
          exact ff e2.symm
      rw [bindL_is bnd, if_pos (show (envOfC fq r.sc s₁.heap.objs.size fa cdv).kindOf y = some .local from hk), hlk]
    · induction i using Nat.casesOn with
      | zero =>
        obtain rfl := Option.some.inj e
        exact ⟨_, rfl, Int.natCast_nonneg _, (fun h hh => nomatch hh), (fun e0 m0 h0 => nomatch h0)⟩
      | succ i => exact no_some e
  have N0 : News s₁.heap s₁.heap.objs.size h₁ cells := fun p hp => NC p hp
  have hA1 := cellsFrom_addr (lo := s₁.heap.objs.size + 1) r.sc.names (s₁.heap.objs.size + 1) [] (Nat.le_refl _) .nil (fun _ hq => nomatch hq)
  have hce : (cells.map (·.1)).Nodup := by rw [CellsAre.addrs CA]; exact hA1.1
  have run' : mkCells [(x, .loc 0)] ((cellsFrom (s₁.heap.objs.size + 1) r.sc.names []).map (·.1)) [] (lawStC x r.cn) kk = true := by rw [hnm]; exact run
  obtain ⟨W1, σ1, cl1, l1, R1, hcl1, hk1⟩ := mkCells_ok (cl := []) (all := cells) (done := []) (cs₀ := cellsFrom (s₁.heap.objs.size + 1) r.sc.names []) (W₀ := ⟨[a], [((ns.length : Nat) : Int)], w.params.strHash⟩) N0 (fun n' hn' => by
      constructor
      · intro v e
        obtain ⟨rfl, rfl⟩ := lk1 n' v e
        by_cases hk : (envOfC fq r.sc s₁.heap.objs.size fa cdv).kindOf n' = some .local
        · exfalso
          rw [hnm] at hn'
          rcases hlx with z | z
          · rw [memS_of hn'] at z; cases z.1
          · rw [show r.sc.names.lookup n' = some .local from hk] at z; cases z
        · exact ⟨.ref a, by rw [bindC_is bnd, if_neg hk, hlk], .loc rfl⟩
      · intro e
        have hne : n' ≠ x := fun q => by
          subst q
          rw [lk_step] at e
          rw [sq_refl] at e
          exact no_some e.symm
        rw [bindC_is bnd]
        have : ([(x, Value.ref a)] : List (Str × Value)).lookup n' = none := by
          rw [List.lookup_cons, beq_eq_false_iff_ne.mpr hne]; rfl
        rw [this]
        split <;> rfl) CA (fun p hp => hp) (fun p hp => absurd hp List.not_mem_nil) (fun _ hq => hq) hce (fun p hp => absurd hp List.not_mem_nil) (Wd.le_refl _) R0 (fun l o e => nomatch e) (fun _ _ hm => absurd hm List.not_mem_nil) run'
  have f0 : Fc K p loose mean mg mb n (callerA.deeper (envOfC fq r.sc s₁.heap.objs.size fa cdv)) s₁.heap ⟨s₁.heap, []⟩ s₁.heap.objs.size := by
    refine ⟨⟨callerA, _, _, below_caller s₁.heap, Around.frames_deeper rfl, rfl, kd, rfl⟩, X, T, rfl, ?_, ?_⟩
    · show callerA.depth + 1 + 3 * n ≤ 990
      have : callerA.depth ≤ 301 := by decide
      omega
    · show callerA.units + 3 + 12 * n ≤ 9800
      have : callerA.units ≤ 200 := by decide
      omega
  have en0 : EnvR W1 s₁.heap.objs.size ⟨r.sc, none, cl1⟩ (envOfC fq r.sc s₁.heap.objs.size fa cdv) := by
    refine ⟨rfl, rfl, rfl, rfl, rfl, fun y l e => ?_, kd⟩
    obtain ⟨b, h1, h2⟩ := hcl1 y l (lk_mem e)
    exact ⟨b, h1, lookup_of_mem_nodup (hnm ▸ hcn) h2⟩
  refine xmono (hex _ _ _ _ _ _ _ _ _ _ _ f0 en0 R1 hk1) (fun g s' hg => ?_) fun _ _ e => e
  obtain ⟨m', W', σ', rfl, R'⟩ := hg
  obtain ⟨g', T', F'⟩ := R'.fr
  exact GoodW.toG (goodW_bool ⟨F'.ns, fun b o e => F'.keep _ _ (T'.other b o e List.not_mem_nil), T'.size ▸ F'.above⟩ R'.gens hr hp R'.os)
end Mine

namespace Mine
open PySem PySem.W PySem.Calls PyProof.Rows PySem.SeqAt
set_option maxRecDepth 100000
/-! ## the law's body in two parts: what it comes to behind the first one is told -/
structure Sg where
  cl : List (Str × Nat)
  xs : List Str
  us : List AV
  st : St
  sp : Nat
  lo : Int
  n : Nat
noncomputable def Sg.args (q : Sg) : List AV := q.cl.map (fun x => .loc x.2) ++ q.us
noncomputable def Sg.at (q : Sg) : St := { q.st with lc := q.xs.zip q.us }
/-- one letter known -/
noncomputable def Sg.one (q : Sg) (i : Nat) : St := q.at.isZero ((IE.var q.sp).sub (IE.lit (q.lo + i)))
noncomputable def valsOf (lc : List (Str × AV)) : List Str → Option (List AV)
  | [] => some []
  | x :: r => (lk x lc).bind fun v => (valsOf lc r).map (v :: ·)
noncomputable def cellsOf (cl : List (Str × Nat)) : List (Str × Nat) → Option (List AV)
  | [] => some []
  | x :: r => (lk x.1 cl).bind fun l => (cellsOf cl r).map (.loc l :: ·)
noncomputable def Sg.fits (cl : List (Str × Nat)) (σ : St) (q : Sg) : Bool := onO (cellsOf cl q.cl) fun ks => onO (valsOf σ.lc q.xs) fun vs => (tryCon ⟨q.args, q.st, [], 0, fun _ _ => true⟩ 0 (ks ++ vs) σ).isSome
noncomputable def midS (cl : List (Str × Nat)) (qs : List Sg) (f : Fl) (σ : St) : Bool := match f with
  | .next => qs.any (Sg.fits cl σ)
  | _ => false
section
variable {prog : Program} {w : World} {K : Frag} {p : Program} {loose : List Str} {mean : ExcName → Option Value} {mg mb : Str → Option Value} {os0 : (Array Nat → Int) × OsState}
variable {n : Nat} {A : Around} {base : Heap} {h₀ : Gd} {env : Env} {ae : AE} {L : Addr} {E : Value → Shared → Prop} {m : Str → Option Value} {W : Wd} {σ : St} {s : Shared}
theorem exL_app {S : SE} (G : EnvOK w os0 K S) {I : IP} (H : Snd prog w K p loose mean mg mb os0 n I) (f : Fc K p loose mean mg mb (n + 1) A base h₀ L) {post : List Stmt} {mid : Fl → St → Bool} {Q : Flow → Shared → Prop} (hm : ∀ f σ, mid f σ = true → f = .next) :
    ∀ {pre : List Stmt} {m : Str → Option Value} {W : Wd} {σ : St} {s : Shared}, EnvR W L ae env → Rel os0 h₀ L m W σ s → exL S I ae pre σ mid = true →
      (∀ m' W' σ' s', W.le W' → EnvR W' L ae env → Rel os0 h₀ L m' W' σ' s' → mid .next σ' = true → wpX (model prog w) A (execs post env) Q E s') → wpX (model prog w) A (execs (pre ++ post) env) Q E s
  | [], m, W, σ, s, en, R, h, hQ => hQ _ _ _ _ W.le_refl en R h
  | st :: r, m, W, σ, s, en, R, h, hQ => by
    refine execs_cons' (stStep_ok G H f en R (show stStep S I ae st σ _ = true from h) fun m1 W1 fl gl σ1 s1 l1 R1 hf h1 => ?_)
    cases hf with
    | next => exact exL_app G H f hm (en.mono l1) R1 h1 fun m' W' σ' s' l' => hQ m' W' σ' s' (W.le_trans l1 l')
    | brk => exact nomatch hm _ _ h1
    | cont => exact nomatch hm _ _ h1
    | ret hv => exact nomatch hm _ _ h1
theorem vals_is {lc : List (Str × AV)} (hl : ∀ x v, lk x lc = some v → ∃ c, m x = some c ∧ VR W v c) : ∀ {xs : List Str} {vs : List AV}, valsOf lc xs = some vs → ∃ cs, All2 (VR W) vs cs ∧ All2 (fun x c => m x = some c) xs cs
  | [], vs, h => by
    obtain rfl := Option.some.inj h
    exact ⟨[], .nil, .nil⟩
  | x :: r, vs, h => by
    obtain ⟨v, h1, h⟩ := someBind h
    obtain ⟨t, h2, rfl⟩ := Option.map_eq_some_iff.mp h
    obtain ⟨c, g1, g2⟩ := hl x v h1
    obtain ⟨cs, k1, k2⟩ := vals_is hl h2
    exact ⟨c :: cs, .cons g2 k1, .cons g1 k2⟩
theorem zips_is {y : Str} {u : AV} : ∀ {xs : List Str} {us : List AV} {cs : List Value}, All2 (VR W) us cs → All2 (fun x c => m x = some c) xs cs → lk y (xs.zip us) = some u → ∃ c, m y = some c ∧ VR W u c
  | [], _, _, _, _, h => by exact no_some h
  | _ :: _, _, _, .nil, _, h => by exact no_some h
  | x :: xs, _, _, .cons hu tu, .cons hx tx, h => by
    rw [List.zip_cons_cons, lk_step] at h
    cases q : sq y x with
    | true => rw [q] at h; obtain rfl := Option.some.inj h; rw [sq_eq q]; exact ⟨_, hx, hu⟩
    | false => rw [q] at h; exact zips_is tu tx h
theorem All2.append_inv {α β : Type} {R : α → β → Prop} : ∀ {as as' : List α} {bs : List β}, All2 R (as ++ as') bs → ∃ b1 b2, bs = b1 ++ b2 ∧ All2 R as b1 ∧ All2 R as' b2
  | [], _, bs, h => ⟨[], bs, rfl, .nil, h⟩
  | a :: as, as', bs, h => by
    apply All2.onCons (show All2 R (a :: (as ++ as')) bs from h); intro b r hb ht
    obtain ⟨b1, b2, rfl, g1, g2⟩ := All2.append_inv ht
    exact ⟨b :: b1, b2, rfl, .cons hb g1, g2⟩
theorem cells_is {cl : List (Str × Nat)} {cells : List (Str × Addr)} (hl : ∀ x l, lk x cl = some l → ∃ b, W.ρ[l]? = some b ∧ cells.lookup x = some b) : ∀ {qc : List (Str × Nat)} {vs : List AV}, cellsOf cl qc = some vs → ∃ cs, All2 (VR W) vs cs ∧ All2 (fun x c => ∃ b, c = .ref b ∧ cells.lookup x.1 = some b) qc cs
  | [], vs, h => by
    obtain rfl := Option.some.inj h
    exact ⟨[], .nil, .nil⟩
  | x :: r, vs, h => by
    obtain ⟨l, h1, h⟩ := someBind h
    obtain ⟨t, h2, rfl⟩ := Option.map_eq_some_iff.mp h
    obtain ⟨b, g1, g2⟩ := hl _ _ h1
    obtain ⟨cs, k1, k2⟩ := cells_is hl h2
    exact ⟨.ref b :: cs, .cons (.loc g1) k1, .cons ⟨b, rfl, g2⟩ k2⟩
theorem cellz_is {cells : List (Str × Addr)} {y : Str} {l : Nat} : ∀ {qc : List (Str × Nat)} {cs : List Value}, All2 (VR W) (qc.map fun x => .loc x.2) cs → All2 (fun x c => ∃ b, c = .ref b ∧ cells.lookup x.1 = some b) qc cs → lk y qc = some l → ∃ b, W.ρ[l]? = some b ∧ cells.lookup y = some b
  | [], _, _, _, h => by exact no_some h
  | x :: xs, _, .cons hu tu, .cons hx tx, h => by
    rw [lk_step] at h
    cases q : sq y x.1 with
    | true =>
      rw [q] at h
      obtain rfl := Option.some.inj h
      obtain ⟨b, rfl, hb⟩ := hx
      obtain ⟨a, e, ha⟩ := hu.inv
      cases e
      exact ⟨b, ha, by rw [sq_eq q]; exact hb⟩
    | false => rw [q] at h; exact cellz_is tu tx h
theorem fits_is {q : Sg} {cl : List (Str × Nat)} {sc : Scope} (en : EnvR W L ⟨sc, none, cl⟩ env) (R : Rel os0 h₀ L m W σ s) (h : q.fits cl σ = true) : ∃ W2, EnvR W2 L ⟨sc, none, q.cl⟩ env ∧ Rel os0 h₀ L m W2 q.at s := by
  obtain ⟨ks, hc, h⟩ := onO_is h
  obtain ⟨vs, hv, h⟩ := onO_is h
  obtain ⟨θ, hθ⟩ := Option.isSome_iff_exists.mp h
  obtain ⟨_, h1, h2⟩ := tryCon_is hθ
  obtain ⟨W2, T, R2, _⟩ := mSt_is R h2
  obtain ⟨cs, v1, v2⟩ := vals_is R.lcs hv
  obtain ⟨bs, k1, k2⟩ := cells_is en.cl hc
  obtain ⟨b1, b2, e, g1, g2⟩ := All2.append_inv (mAVs_is T h1 (k1.append v1))
  have hb : bs.length = b1.length := by rw [← k2.length, ← g1.length, List.length_map]
  obtain ⟨rfl, rfl⟩ := List.append_inj e hb
  refine ⟨W2, ⟨en.sc, en.gl, en.bu, en.fr, en.own, fun x l hx => cellz_is g1 k2 hx, en.kd⟩, ⟨R2.fr, fun x v hx => zips_is g2 v2 hx, R2.led, R2.len, R2.inj, R2.gens, R2.os, R2.vars, R2.scr, R2.par⟩⟩
/-- a letter of a small span -/
theorem Rel.oneOf {q : Sg} (R : Rel os0 h₀ L m W q.at s) (hb : bndB q.st.vi (IE.var q.sp) q.lo (some (q.lo + (q.n : Nat) - 1)) = true) : ∃ i, i < q.n ∧ Rel os0 h₀ L m W (q.one i) s := by
  have hv : ∃ v, q.st.vi[q.sp]? = some v := by
    cases e : q.st.vi[q.sp]? with
    | some v => exact ⟨v, rfl⟩
    | none =>
      unfold bndB IE.lo IE.var tlo at hb
      rw [e] at hb
      exact ff hb
  obtain ⟨v, hv⟩ := hv
  obtain ⟨x, hx, _⟩ := R.vars.2 q.sp v hv
  obtain ⟨b1, b2⟩ := bndB_is R.vars hb (ev_at hx)
  have b2 := b2 _ rfl
  have hi : (((x - q.lo).toNat : Nat) : Int) = x - q.lo := Int.toNat_of_nonneg (by omega)
  refine ⟨(x - q.lo).toNat, by omega, R.vars' (St.isZero_same _ _) (St.isZero_ok R.vars (IE.ev_sub (ev_at hx) (IE.ev_lit _ _)) ?_)⟩
  rw [hi]
  omega
theorem law_two {S : SE} (G : EnvOK w os0 K S) {n : Nat} {r : FnR} {pre post : List Stmt} {qs : List Sg} (hb : r.body = pre ++ post)
    (hq : ∀ q ∈ qs, bndB q.st.vi (IE.var q.sp) q.lo (some (q.lo + (q.n : Nat) - 1)) = true ∧ ∀ i, i < q.n → exL S (ip S n) ⟨r.sc, none, q.cl⟩ post (q.one i) fin = true) :
    LawEx prog w K p loose mean mg mb os0 (n + 1) r (fun cl σ => exL S (ip S n) ⟨r.sc, none, cl⟩ pre σ (midS cl qs)) := fun A base h₀ L env cl m W σ s E f en R h => by
  rw [hb]
  refine exL_app G (ip_ok G n) f (fun f σ h => ?_) en R h fun m' W' σ' s' _ en' R' hk => ?_
  · cases f <;> first | rfl | exact ff h
  · obtain ⟨q, hqm, hf⟩ := List.any_eq_true.mp (show qs.any (Sg.fits cl σ') = true from hk)
    obtain ⟨W2, en2, R2⟩ := fits_is en' R' hf
    obtain ⟨hb, hr⟩ := hq q hqm
    obtain ⟨i, hi, R3⟩ := R2.oneOf hb
    exact exL_ok G (ip_ok G n) A base h₀ L env _ m' W2 s' E f en2 post _ _ _ R3 (hr i hi) fun _ _ _ _ _ _ _ R' hf hk => fin_is R' hf hk
end
end Mine

namespace Mine
open PySem PySem.W PySem.Calls PyProof.Rows PySem.SeqAt
set_option maxRecDepth 100000
/-! ## a loop in turns: what holds where a turn begins is told, each turn is run by itself -/
structure Lq where
  xs : List Str
  us : List AV
  it : Nat
  st : St
noncomputable def Lq.at (q : Lq) : St := { q.st with lc := q.xs.zip q.us }
noncomputable def Lq.fits (it : AV) (σ : St) (q : Lq) : Bool := onO (valsOf σ.lc q.xs) fun vs => (tryCon ⟨.loc q.it :: q.us, q.st, [], 0, fun _ _ => true⟩ 0 (it :: vs) σ).isSome
/-- one turn, from one such state to others; or the end, and the rest -/
noncomputable def turnB (I : IP) (ae : AE) (t : Expr) (body orelse : List Stmt) (endB : St → Bool) (q : Lq) (ns : List Lq) : Bool := nextA q.at (.loc q.it) fun o σ1 => match o with
  | none => I.ex ae orelse σ1 fun f σ2 => match f with
    | .next => endB σ2
    | _ => false
  | some x => match ownA t (.loc q.it) σ1 with
    | true => asgA ae t x σ1 fun σ2 => I.ex ae body σ2 fun f σ3 => match f with
      | .next => ns.any (Lq.fits (.loc q.it) σ3)
      | _ => false
    | false => false
noncomputable def GoodN (I : IP) (ae : AE) (t : Expr) (body orelse : List Stmt) (endB : St → Bool) : Nat → Lq → Prop
  | 0, _ => False
  | n + 1, q => ∃ ns, turnB I ae t body orelse endB q ns = true ∧ ∀ q' ∈ ns, GoodN I ae t body orelse endB n q'
section
variable {prog : Program} {w : World} {K : Frag} {p : Program} {loose : List Str} {mean : ExcName → Option Value} {mg mb : Str → Option Value} {os0 : (Array Nat → Int) × OsState}
variable {n : Nat} {A : Around} {base : Heap} {h₀ : Gd} {env : Env} {ae : AE} {L : Addr} {E : Value → Shared → Prop} {m : Str → Option Value} {W : Wd} {σ : St} {s : Shared}
theorem Lq.fits_is {q : Lq} {it : AV} {ci : Value} (R : Rel os0 h₀ L m W σ s) (hv : VR W it ci) (h : q.fits it σ = true) : ∃ W2, Rel os0 h₀ L m W2 q.at s ∧ VR W2 (.loc q.it) ci := by
  obtain ⟨vs, hvs, h⟩ := onO_is h
  obtain ⟨θ, hθ⟩ := Option.isSome_iff_exists.mp h
  obtain ⟨_, h1, h2⟩ := tryCon_is hθ
  obtain ⟨W2, T, R2, _⟩ := mSt_is R h2
  obtain ⟨cs, v1, v2⟩ := vals_is R.lcs hvs
  obtain ⟨_, _, e, g0, g1⟩ := All2.inv (mAVs_is T h1 (.cons hv v1))
  obtain ⟨rfl, rfl⟩ := List.cons.inj e
  exact ⟨W2, ⟨R2.fr, fun x v hx => zips_is g1 v2 hx, R2.led, R2.len, R2.inj, R2.gens, R2.os, R2.vars, R2.scr, R2.par⟩, g0⟩
theorem EnvR.bare {sc : Scope} {cl : List (Str × Nat)} {W' : Wd} (en : EnvR W L ⟨sc, none, cl⟩ env) : EnvR W' L ⟨sc, none, []⟩ env := ⟨en.sc, en.gl, en.bu, en.fr, en.own, fun x l hx => by exact no_some hx, en.kd⟩
theorem turns_ok {I : IP} (H : Snd prog w K p loose mean mg mb os0 n I) (f : Fc K p loose mean mg mb n A base h₀ L) {sc : Scope} (en : EnvR W L ⟨sc, none, []⟩ env) {t : Expr} {ci : Value} {body orelse : List Stmt} {endB : St → Bool} {N : Nat} {q : Lq} {R : Result → Shared → Prop}
    (Rl : Rel os0 h₀ L m W q.at s) (hi : VR W (.loc q.it) ci) (h : GoodN I ⟨sc, none, []⟩ t body orelse endB N q) (hR : ∀ m' W' σ' s', Rel os0 h₀ L m' W' σ' s' → endB σ' = true → R (.ok .next) s') :
    codeX (model prog w) A (.forLoop t ci body orelse env) R s := by
  refine cforLoop (fun N s' => ∃ m' W' q, Rel os0 h₀ L m' W' (Lq.at q) s' ∧ VR W' (.loc q.it) ci ∧ GoodN I ⟨sc, none, []⟩ t body orelse endB N q) (fun N s' ⟨m', W', q, R', hi', hG⟩ => ?_) N ⟨m, W, q, Rl, hi, h⟩
  induction N using Nat.casesOn with
  | zero => exact hG.elim
  | succ N =>
    obtain ⟨ns, hT, hN⟩ := hG
    have en' : EnvR W' L ⟨sc, none, []⟩ env := en.bare
    refine xof <| nextA_ok f.hh R' hi' (show nextA q.at (.loc q.it) _ = true from hT) fun σ'' s'' R'' => ⟨fun x cx vx hx => ?_, fun hx => ?_⟩
    · obtain ⟨ho, hx⟩ := mt hx
      refine xof <| ownA_ok R'' hi' vx ho ?_
      refine xof <| asgA_ok f.hh en' R'' vx hx fun m6 σ6 s6 R6 h6 => ?_
      refine H.ex A base h₀ L env _ m6 W' s6 _ f en' body σ6 _ _ R6 h6 fun m7 W7 fl gl σ7 s7 l7 R7 hf h7 => ?_
      cases hf with
      | next =>
        obtain ⟨q', hq', hfit⟩ := List.any_eq_true.mp (show ns.any (Lq.fits (.loc q.it) σ7) = true from h7)
        obtain ⟨W8, R8, v8⟩ := Lq.fits_is R7 (hi'.mono l7) hfit
        exact ⟨N, Nat.lt_succ_self N, m7, W8, q', R8, v8, hN q' hq'⟩
      | cont => exact ff h7
      | brk => exact ff h7
      | ret hv => exact ff h7
    · refine H.ex A base h₀ L env _ m' W' s'' _ f en' orelse σ'' _ _ R'' hx fun m7 W7 fl gl σ7 s7 l7 R7 hf h7 => ?_
      cases hf with
      | next => exact hR _ _ _ _ R7 h7
      | brk => exact ff h7
      | cont => exact ff h7
      | ret hv => exact ff h7
/-- the law's body: statements, the loop, the rest -/
noncomputable def startB (I : IP) (ae : AE) (i : Expr) (qs : List Lq) (f : Fl) (σ : St) : Bool := match f with
  | .next => match notSet i with
    | true => I.ev ae i σ fun v σ1 => iterA σ1 v fun it σ2 => qs.any (Lq.fits it σ2)
    | false => false
  | _ => false
theorem law_for {S : SE} (G : EnvOK w os0 K S) {n N : Nat} {r : FnR} {pre rest : List Stmt} {t i : Expr} {body orelse : List Stmt} {pos : Pos} {qs : List Lq} (hb : r.body = pre ++ (.For t i body orelse pos :: rest))
    (hq : ∀ q ∈ qs, GoodN (ip S n) ⟨r.sc, none, []⟩ t body orelse (fun σ => exL S (ip S n) ⟨r.sc, none, []⟩ rest σ fin) N q) :
    LawEx prog w K p loose mean mg mb os0 (n + 1) r (fun cl σ => exL S (ip S n) ⟨r.sc, none, cl⟩ pre σ (startB (ip S n) ⟨r.sc, none, cl⟩ i qs)) := fun A base h₀ L env cl m W σ s E f en R h => by
  rw [hb]
  have f' := f.less (Nat.le_succ n)
  refine exL_app G (ip_ok G n) f (fun f σ h => ?_) en R h fun m' W' σ' s' _ en' R' hk => ?_
  · cases f <;> first | rfl | exact ff h
  · obtain ⟨hn, hk⟩ := mt (show (match notSet i with | true => _ | false => false) = true from hk)
    refine execs_cons' (For' ((ip_ok G n).ev A base h₀ L env _ m' W' s' _ f' en' i σ' _ _ R' hk fun m1 W1 v c σ1 s1 l1 R1 v1 h1 => ?_) (iter_plain hn))
    refine xof <| iterA_ok R1 v1 h1 fun W2 it ci σ2 s2 l2 R2 v2 h2 => ?_
    obtain ⟨q, hqm, hfit⟩ := List.any_eq_true.mp (show qs.any (Lq.fits it σ2) = true from h2)
    obtain ⟨W3, R3, v3⟩ := Lq.fits_is R2 v2 hfit
    refine turns_ok (ip_ok G n) f' en'.bare R3 v3 (hq q hqm) fun m4 W4 σ4 s4 R4 h4 => ?_
    exact exL_ok G (ip_ok G n) A base h₀ L env _ m4 W4 s4 _ f en'.bare rest _ _ _ R4 h4 fun _ _ _ _ _ _ _ R' hf hk => fin_is R' hf hk
end
end Mine

namespace Mine
open PySem PySem.W PySem.W.X PySem.Calls PyProof.Rows PySem.SeqAt

/-- the last statement alone -/
noncomputable def lastOf (p : Program) : Program := { p with main := { p.main with body := p.main.body.drop (p.main.body.length - 1) } }
/-- all names that the text binds but the law's own -/
noncomputable def looseOf (p : Program) (name : Str) : List Str := (p.main.scope.names.map (·.1)).filter fun n => !(n == name) && !(startupNames.contains n)


noncomputable def bootT (P : Params) : BT :=
  (.node (boot_o_0 P) (.node (boot_o_1 P) (.node (boot_o_3 P) (.node (boot_o_7 P) .nil .nil) .nil) (.node (boot_o_5 P) (.node (boot_o_9 P) .nil .nil) .nil)) (.node (boot_o_2 P) (.node (boot_o_4 P) (.node (boot_o_8 P) .nil .nil) .nil) (.node (boot_o_6 P) (.node (boot_o_10 P) .nil .nil) .nil)))
noncomputable def bootS (P : Params) (os : OsState) : SharedT := ⟨bootT P, 11, {}, #[], boot_drawn, boot_toks, os⟩
theorem bootS_abs (P : Params) (os : OsState) : (bootS P os).abs = ⟨boot_heap P, #[], boot_drawn, boot_toks, os⟩ := rfl

/-- the heap behind the top -/
noncomputable def endHeap (p : Program) (N : Nat) (w : World) : Heap := ((openEnds treeTable p w N).map (·.heap)).getD ⟨#[], {}⟩
theorem leftO_of_run {p q : Program} {loose : List Str} {N : Nat} {β : Type} {good : SharedT → Bool} {look : SharedT → β} {tab : β}
    (h : ∀ w, ∃ r : SharedT, openEnds treeTable p w N = some r.abs ∧ openSeen q loose (importedModules p.main.body) (fun _ => true) true r.abs = openGood q loose ∧ good r = true ∧ look r = tab) :
    LeftO p q loose (fun _ => true) (fun s => s.heap) (endHeap p N) N := fun w => by
  obtain ⟨r, h1, h2, _⟩ := h w
  unfold endHeap
  rw [h1]
  show some (openSeen q loose (importedModules p.main.body) (fun _ => true) true r.abs, r.abs.heap) = some (openGood q loose, r.abs.heap)
  rw [h2]
theorem end_good {p q : Program} {loose : List Str} {N : Nat} {β : Type} {good : SharedT → Bool} {look : SharedT → β} {tab : β}
    (h : ∀ w, ∃ r : SharedT, openEnds treeTable p w N = some r.abs ∧ openSeen q loose (importedModules p.main.body) (fun _ => true) true r.abs = openGood q loose ∧ good r = true ∧ look r = tab) (w : World) :
    ∃ r : SharedT, endHeap p N w = r.abs.heap ∧ good r = true ∧ look r = tab := by
  obtain ⟨r, h1, _, h3, h4⟩ := h w
  exact ⟨r, by unfold endHeap; rw [h1]; rfl, h3, h4⟩
end Mine

namespace Mine
open PySem PySem.W PySem.W.X PySem.Calls PyProof.Rows PySem.SeqAt

/-! ## a leaner run of a top: one small look at each step -/
structure Zs where
  s : SharedT
  code : Code
  pos : Pos
  stack : List Frame
structure LE where
  den : Code → Sem Fin
  p : Program
  w : World
  n₀ : Nat
  ann : Option Value
abbrev KT := Zs → Sem Fin → Option SharedT
noncomputable def cRule (K : KT) (z : Zs) (k : Unit → Sem Fin) : Option SharedT := K z (k ())
noncomputable def cAt (K : KT) (z : Zs) (p : Pos) (k : Unit → Sem Fin) : Option SharedT :=
  Zs.rec (motive := fun _ => Option SharedT) (fun s code _ stack => K ⟨s, code, p, stack⟩ (k ())) z
noncomputable def cLoad (K : KT) (z : Zs) (a : Addr) (k : Obj → Sem Fin) : Option SharedT :=
  match Nat.blt a z.s.n with
  | true => match z.s.tree.get a with
    | some o => match alive o with
      | some o' => K z (k o')
      | none => none
    | none => none
  | false => none
noncomputable def cUpd (e : LE) (K : KT) (z : Zs) (a : Addr) (f : Obj → Obj) (k : Unit → Sem Fin) : Option SharedT :=
  match Nat.ble e.n₀ a || a == mainNs || a == cStatics || e.ann == some (.ref a) with
  | true => Zs.rec (motive := fun _ => Option SharedT) (fun s code pos stack => SharedT.rec (motive := fun _ => Option SharedT) (fun T n life gens drawn toks os => match Nat.blt a n with
      | true => match T.get a with
        | some o => match alive o with
          | some _ => K ⟨⟨T.set a f, n, life, gens, drawn, toks, os⟩, code, pos, stack⟩ (k ())
          | none => none
        | none => none
      | false => none) s) z
  | false => none
noncomputable def cAlloc (K : KT) (z : Zs) (o : Obj) (k : Addr → Sem Fin) : Option SharedT :=
  Zs.rec (motive := fun _ => Option SharedT) (fun s code pos stack => SharedT.rec (motive := fun _ => Option SharedT) (fun T n life gens drawn toks os => match ((T.ins n o).get n).isSome with
      | true => K ⟨⟨T.ins n o, n + 1, life, gens, drawn, toks, os⟩, code, pos, stack⟩ (k n)
      | false => none) s) z
noncomputable def cLia (K : KT) (z : Zs) (a : Addr) (k : Option Obj → Sem Fin) : Option SharedT :=
  match Nat.blt a z.s.n with
  | true => match z.s.tree.get a with
    | some o => K z (k (alive o))
    | none => none
  | false => K z (k none)
noncomputable def cFresh (K : KT) (z : Zs) (k : Tok → Sem Fin) : Option SharedT :=
  Zs.rec (motive := fun _ => Option SharedT) (fun s code pos stack => SharedT.rec (motive := fun _ => Option SharedT) (fun T n life gens drawn toks os => K ⟨⟨T, n, life, gens, drawn, toks + 1, os⟩, code, pos, stack⟩ (k toks)) s) z
noncomputable def cAsk (e : LE) (K : KT) (z : Zs) (k : Setting → Sem Fin) : Option SharedT := K z (k ⟨e.p, e.w.params⟩)
noncomputable def keptC (c code : Code) (l : List Value) : List Value := match c, code with
  | .builtin _ a, _ => unmarked a.refs
  | .call f a, .builtin .. => unmarked (if l.contains borrowed then a.refs else f :: a.refs)
  | .call f a, .call .. => unmarked (if l.contains borrowed then a.refs else f :: a.refs)
  | _, _ => []
noncomputable def cCall (e : LE) (K : KT) (z : Zs) (c : Code) (h : Option Value) (g : Bool) (l : List Value) (k : Result → Sem Fin) : Option SharedT :=
  Zs.rec (motive := fun _ => Option SharedT) (fun s code pos stack => K ⟨s, c, pos, .ret k h g l code pos (keptC c code l) :: stack⟩ (e.den c)) z
noncomputable def cStack (K : KT) (z : Zs) (k : List (Code × Pos) → Sem Fin) : Option SharedT :=
  Zs.rec (motive := fun _ => Option SharedT) (fun s code pos stack => K ⟨s, code, pos, stack⟩ (k ((code, pos) :: stack.map Frame.where_))) z
noncomputable def cHand (K : KT) (z : Zs) (own : Bool) (k : Option Value → Sem Fin) : Option SharedT :=
  K z (k (topHandled (if own then (match splitAtGen z.stack with | some (fs, _, _) => fs | none => z.stack) else z.stack)))
noncomputable def cGen (st : SharedT → Thread → Option (SharedT × Thread)) (ok : Thread → Bool) (K : KT) (z : Zs) (c : Sem Fin) : Option SharedT :=
  match ok ⟨c, z.code, z.pos, z.stack⟩ with
  | true => match st z.s ⟨c, z.code, z.pos, z.stack⟩ with
    | some x => K ⟨x.1, x.2.code, x.2.pos, x.2.stack⟩ x.2.cur
    | none => none
  | false => none
noncomputable def cPure (e : LE) (st : SharedT → Thread → Option (SharedT × Thread)) (ok : Thread → Bool) (K : KT) (z : Zs) (f : PySem.Fin) : Option SharedT :=
  PySem.Fin.rec (motive := fun _ => Option SharedT)
    (fun f => Zs.rec (motive := fun _ => Option SharedT) (fun s _ _ stack => match stack with
      | [] => some s
      | .ret k _ _ _ c p _ :: rest => K ⟨s, c, p, rest⟩ (k (.ok f))
      | .gen .. :: _ => none) z)
    (fun c => cGen st ok K z (.pure (.again c))) f
noncomputable def disp (e : LE) (st : SharedT → Thread → Option (SharedT × Thread)) (ok : Thread → Bool) (K : KT) (z : Zs) (c : Sem Fin) : Option SharedT :=
  Sem.rec (motive := fun _ => Option SharedT)
    (pure := cPure e st ok K z)
    (raise := fun v => cGen st ok K z (.raise v))
    (unsupported := fun _ => none)
    (finish := fun _ => none)
    (rule := fun _ k _ => cRule K z k)
    («at» := fun p k _ => cAt K z p k)
    (load := fun a _ k _ => cLoad K z a k)
    (update := fun a _ f k _ => cUpd e K z a f k)
    (alloc := fun o k _ => cAlloc K z o k)
    (loadIfAlive := fun a k _ => cLia K z a k)
    (point := fun _ k _ => cRule K z k)
    (register := fun _ _ _ => none)
    (fresh := fun k _ => cFresh K z k)
    (ask := fun k _ => cAsk e K z k)
    (choose := fun s n k _ => cGen st ok K z (.choose s n k))
    (os := fun _ _ _ _ => none)
    (call := fun c h g l k _ => cCall e K z c h g l k)
    (handled := fun o k _ => cHand K z o k)
    (newGen := fun c k _ => cGen st ok K z (.newGen c k))
    (genState := fun g k _ => cGen st ok K z (.genState g k))
    (resume := fun g r l k _ => cGen st ok K z (.resume g r l k))
    (yield := fun v g l k _ => cGen st ok K z (.yield v g l k))
    (stack := fun k _ => cStack K z k)
    (fork := fun _ _ _ => none)
    (thread := fun _ _ => none)
    (await := fun _ _ _ _ _ _ => none)
    c
noncomputable def runL (e : LE) (st : SharedT → Thread → Option (SharedT × Thread)) (ok : Thread → Bool) (N : Nat) : Zs → Sem Fin → Option SharedT :=
  Nat.rec (motive := fun _ => Zs → Sem Fin → Option SharedT) (fun _ _ => none) (fun _ K => disp e st ok K) N

theorem go_step {tb : String → Option Builtin} {p : Program} {w : World} {n₀ : Nat} {ann : Option Value} {n : Nat} {s s' r : SharedT} {t t' : Thread} (h1 : through t = false) (h2 : stepOk n₀ ann t = true) (h3 : stepT (denote tb) p w s t = some (s', t'))
    (k : topRun tb p w n₀ ann n s'.abs t' = some r.abs) : topRun tb p w n₀ ann (n + 1) s.abs t = some r.abs := by
  unfold topRun
  rw [h1, h2, stepT_spec h3]
  exact k
theorem no_ns {α : Type} {a : α} {Q : Prop} (h : none = some a) : Q := (Option.some_ne_none _ h.symm).elim
noncomputable def isDone : Sem Fin → Bool
  | .pure f => match f with
    | .done _ => true
    | .again _ => false
  | _ => false
theorem not_through {c : Sem Fin} {code : Code} {pos : Pos} {stack : List Frame} (h : isDone c = false) : through ⟨c, code, pos, stack⟩ = false := by
  unfold through
  induction c using PySem.Sem.casesOn with
  | pure f =>
    induction f using PySem.Fin.casesOn with
    | done f => exact ff h.symm
    | again c => exact Bool.and_false _
  | _ => exact Bool.and_false _
theorem runL_sound {tb : String → Option Builtin} {p : Program} {w : World} {n₀ : Nat} {ann : Option Value} : ∀ (N : Nat) (z : Zs) (c : Sem Fin) (r : SharedT),
    runL ⟨denote tb, p, w, n₀, ann⟩ (stepT (denote tb) p w) (stepOk n₀ ann) N z c = some r → topRun tb p w n₀ ann N z.s.abs ⟨c, z.code, z.pos, z.stack⟩ = some r.abs
  | 0, _, _, _, h => by exact no_some h
  | N + 1, z, c, r, h => by
    have ih := runL_sound (tb := tb) (p := p) (w := w) (n₀ := n₀) (ann := ann) N
    have h : disp ⟨denote tb, p, w, n₀, ann⟩ (stepT (denote tb) p w) (stepOk n₀ ann) (runL ⟨denote tb, p, w, n₀, ann⟩ (stepT (denote tb) p w) (stepOk n₀ ann) N) z c = some r := h
    generalize hK : runL ⟨denote tb, p, w, n₀, ann⟩ (stepT (denote tb) p w) (stepOk n₀ ann) N = K at h ih
    have gen : ∀ c, through ⟨c, z.code, z.pos, z.stack⟩ = false → cGen (stepT (denote tb) p w) (stepOk n₀ ann) K z c = some r → topRun tb p w n₀ ann (N + 1) z.s.abs ⟨c, z.code, z.pos, z.stack⟩ = some r.abs := by
      intro c ht h
      unfold cGen at h
      split at h
      · rename_i hok
        split at h
        · rename_i x hs
          obtain ⟨s', t'⟩ := x
          exact go_step ht hok hs (ih _ _ _ h)
        · exact no_some h
      · exact no_some h
    obtain ⟨⟨T, n, life, gens, drawn, toks, os⟩, code, pos, stack⟩ := z
    have G : ∀ {c : Sem Fin} {s' : SharedT} {t' : Thread}, isDone c = false → stepOk n₀ ann ⟨c, code, pos, stack⟩ = true → stepT (denote tb) p w ⟨T, n, life, gens, drawn, toks, os⟩ ⟨c, code, pos, stack⟩ = some (s', t') →
        K ⟨s', t'.code, t'.pos, t'.stack⟩ t'.cur = some r → topRun tb p w n₀ ann (N + 1) (SharedT.abs ⟨T, n, life, gens, drawn, toks, os⟩) ⟨c, code, pos, stack⟩ = some r.abs :=
      fun h1 h2 h3 h4 => go_step (not_through h1) h2 h3 (ih _ _ _ h4)
    induction c using PySem.Sem.casesOn with
    | pure f =>
      induction f using PySem.Fin.casesOn with
      | done f =>
        induction stack using List.casesOn with
        | nil =>
          have h : some _ = some r := h
          obtain rfl := Option.some.inj h
          rfl
        | cons fr rest =>
          induction fr using PySem.Frame.casesOn with
          | ret k hh g l c p kept => exact go_step rfl rfl (s' := ⟨T, n, life, gens, drawn, toks, os⟩) (t' := ⟨k (.ok f), c, p, rest⟩) rfl (ih ⟨_, c, p, rest⟩ _ _ h)
          | gen g k l c p => exact no_ns h
      | again c => exact gen _ (not_through rfl) h
    | raise v => exact gen _ (not_through rfl) h
    | unsupported w => exact no_ns h
    | finish w => exact no_ns h
    | rule t k => exact G rfl rfl rfl h
    | «at» q k => exact G rfl rfl rfl h
    | load a q k =>
      have h : cLoad K ⟨⟨T, n, life, gens, drawn, toks, os⟩, code, pos, stack⟩ a k = some r := h
      unfold cLoad at h
      dsimp only at h
      cases e1 : Nat.blt a n with
      | false => rw [e1] at h; exact no_ns h
      | true =>
        rw [e1] at h
        cases e2 : T.get a with
        | none => rw [e2] at h; exact no_ns h
        | some o =>
          rw [e2] at h
          dsimp only at h
          cases e3 : alive o with
          | none => rw [e3] at h; exact no_ns h
          | some o' =>
            rw [e3] at h
            exact G rfl rfl (s' := ⟨T, n, life, gens, drawn, toks, os⟩) (t' := ⟨k o', code, pos, stack⟩) (by show (match Nat.blt a n with | true => _ | false => none) = _; rw [e1]; show (match T.get a with | some _ => _ | none => none) = _; rw [e2]; show (match alive o with | some _ => _ | none => none) = _; rw [e3]) h
    | update a q f k =>
      have h : cUpd ⟨denote tb, p, w, n₀, ann⟩ K ⟨⟨T, n, life, gens, drawn, toks, os⟩, code, pos, stack⟩ a f k = some r := h
      unfold cUpd at h
      split at h
      · rename_i hok
        dsimp only at h
        cases e1 : Nat.blt a n with
        | false => rw [e1] at h; exact no_ns h
        | true =>
          rw [e1] at h
          cases e2 : T.get a with
          | none => rw [e2] at h; exact no_ns h
          | some o =>
            rw [e2] at h
            dsimp only at h
            cases e3 : alive o with
            | none => rw [e3] at h; exact no_ns h
            | some o' =>
              rw [e3] at h
              exact G rfl (by show (true && _) = true; rw [Bool.true_and]; exact hok) (s' := ⟨T.set a f, n, life, gens, drawn, toks, os⟩) (t' := ⟨k (), code, pos, stack⟩) (by show (match Nat.blt a n with | true => _ | false => none) = _; rw [e1]; show (match T.get a with | some _ => _ | none => none) = _; rw [e2]; show (match alive o with | some _ => _ | none => none) = _; rw [e3]) h
      · exact no_ns h
    | alloc o k =>
      have h : cAlloc K ⟨⟨T, n, life, gens, drawn, toks, os⟩, code, pos, stack⟩ o k = some r := h
      unfold cAlloc at h
      dsimp only at h
      cases e1 : ((T.ins n o).get n).isSome with
      | false => rw [e1] at h; exact no_ns h
      | true =>
        rw [e1] at h
        exact G rfl rfl (s' := ⟨T.ins n o, n + 1, life, gens, drawn, toks, os⟩) (t' := ⟨k n, code, pos, stack⟩) (by show (match ((T.ins n o).get n).isSome with | true => _ | false => none) = _; rw [e1]) h
    | loadIfAlive a k =>
      have h : cLia K ⟨⟨T, n, life, gens, drawn, toks, os⟩, code, pos, stack⟩ a k = some r := h
      unfold cLia at h
      dsimp only at h
      cases e1 : Nat.blt a n with
      | false =>
        rw [e1] at h
        exact G rfl rfl (s' := ⟨T, n, life, gens, drawn, toks, os⟩) (t' := ⟨k none, code, pos, stack⟩) (by show (match Nat.blt a n with | true => _ | false => _) = _; rw [e1]) h
      | true =>
        rw [e1] at h
        cases e2 : T.get a with
        | none => rw [e2] at h; exact no_ns h
        | some o =>
          rw [e2] at h
          exact G rfl rfl (s' := ⟨T, n, life, gens, drawn, toks, os⟩) (t' := ⟨k (alive o), code, pos, stack⟩) (by show (match Nat.blt a n with | true => _ | false => _) = _; rw [e1]; show (match T.get a with | some _ => _ | none => none) = _; rw [e2]) h
    | point l k => exact G rfl rfl rfl h
    | register a k => exact no_ns h
    | fresh k => exact G rfl rfl rfl h
    | ask k => exact G rfl rfl rfl h
    | choose s n k => exact gen _ (not_through rfl) h
    | os q l k => exact no_ns h
    | call c hh g l k =>
      refine G rfl rfl (s' := ⟨T, n, life, gens, drawn, toks, os⟩) (t' := ⟨denote tb c, c, pos, .ret k hh g l code pos (keptC c code l) :: stack⟩) ?_ h
      cases c <;> first | rfl | (cases code <;> rfl)
    | handled own k => exact G rfl rfl rfl h
    | newGen c k => exact gen _ (not_through rfl) h
    | genState g k => exact gen _ (not_through rfl) h
    | resume g q l k => exact gen _ (not_through rfl) h
    | yield v g l k => exact gen _ (not_through rfl) h
    | stack k => exact G rfl rfl rfl h
    | fork c k => exact no_ns h
    | thread k => exact no_ns h
    | await a t d l k => exact no_ns h
/-- twins: the library's fast forms -/
noncomputable def runLF (p : Program) (w : World) (n₀ : Nat) (ann : Option Value) (N : Nat) (s : SharedT) (t : Thread) : Option SharedT :=
  runL ⟨PySem.W.Fast.tw11892475500146522536 PySem.W.Fast.tw14364793385576792824, p, w, n₀, ann⟩ (PySem.W.Fast.tw10156331382660048174 (PySem.W.Fast.tw11892475500146522536 PySem.W.Fast.tw14364793385576792824) p w) (PySem.W.Fast.tw6613529449190102663 n₀ ann) N ⟨s, t.code, t.pos, t.stack⟩ t.cur
theorem runLF_sound {p : Program} {w : World} {n₀ : Nat} {ann : Option Value} {N : Nat} {s r : SharedT} {t : Thread} (h : runLF p w n₀ ann N s t = some r) : topRun treeTable p w n₀ ann N s.abs t = some r.abs := by
  unfold runLF at h
  rw [← PySem.W.Fast.te10156331382660048174, ← PySem.W.Fast.te11892475500146522536, ← PySem.W.Fast.te14364793385576792824, ← PySem.W.Fast.te6613529449190102663] at h
  exact runL_sound _ _ _ _ h
end Mine

namespace Mine
open PySem PySem.W PySem.W.X PySem.Calls PyProof.Rows PySem.SeqAt

theorem and_intro {a b : Bool} (h : a = true) (k : b = true) : (a && b) = true := by rw [h, k]; rfl
noncomputable abbrev runT (p : Program) (w : World) (M : Nat) (os : OsState) : Option SharedT := runLF p w 11 (some (.ref 6)) M (bootS w.params os) (topStub p)
/-- what the looks at a run over trees say of the text -/
theorem left_of_runL {p q : Program} {loose : List Str} {N : Nat} {β : Type} {good : SharedT → Bool} {look : SharedT → β} {tab : β}
    (he : opening p = plainProg p.main.scope.names) (hf : ∀ s, fenceModules? p s = some s) (hN : Nat.ble 600 N = true)
    (h0 : ∀ P : Params, ((boot_heap P).isNs mainGlobals, (boot_heap P).objs.size, (boot_heap P).nsMap mainGlobals "__annotations__") = (true, 11, some (.ref 6)))
    (run1 : ∀ (w : World) (os : OsState), (runT p w N os).map (fun r => staticsOk (importedModules p.main.body) (boot_heap w.params) r.abs.heap && gensDone r.abs && laidKept (boot_heap w.params) r.abs.heap) = some true)
    (run2 : ∀ (w : World) (os : OsState), (runT p w N os).map (fun r => (namesBound p r.abs.heap, PySem.W.Fast.tw4187177175401517315 q loose (importedModules p.main.body) (fun _ => true) true r.abs)) = some (true, openGood q loose))
    (run3 : ∀ (w : World) (os : OsState), (runT p w N os).map (fun r => (good r, look r)) = some (true, tab)) (w : World) :
    ∃ r : SharedT, openEnds treeTable p w N = some r.abs ∧ openSeen q loose (importedModules p.main.body) (fun _ => true) true r.abs = openGood q loose ∧ good r = true ∧ look r = tab := by
  obtain ⟨⟨h, gs, d, k, os⟩, e, e'⟩ := Option.map_eq_some_iff.mp (boot_open he hN hf w)
  obtain ⟨rfl, rfl, rfl, rfl⟩ : h = boot_heap w.params ∧ gs = #[] ∧ d = boot_drawn ∧ k = boot_toks := by simpa using e'
  obtain ⟨r, hr, hv⟩ := Option.map_eq_some_iff.mp (run1 w os)
  have hv2 := run2 w os
  have hv3 := run3 w os
  rw [hr] at hv2 hv3
  obtain ⟨v5, v2⟩ : _ ∧ _ := by simpa only [Option.map_some, Option.some.injEq, Prod.mk.injEq] using hv2
  obtain ⟨v3, v4⟩ : _ ∧ _ := by simpa only [Option.map_some, Option.some.injEq, Prod.mk.injEq] using hv3
  simp only [Bool.and_eq_true] at hv
  obtain ⟨⟨v1, v6⟩, v7⟩ := hv
  have t := runLF_sound hr
  rw [bootS_abs] at t
  obtain ⟨z1, z2, z3⟩ : _ ∧ _ ∧ _ := by simpa only [Prod.mk.injEq] using h0 w.params
  rw [← PySem.W.Fast.te4187177175401517315] at v2
  refine ⟨r, ?_, v2, v3, v4⟩
  unfold openEnds
  rw [e]
  show topFrom treeTable p w N ⟨boot_heap w.params, #[], boot_drawn, boot_toks, os⟩ = _
  unfold topFrom
  dsimp only
  rw [z1, z2, z3, t]
  show (match staticsOk (importedModules p.main.body) (boot_heap w.params) r.abs.heap && namesBound p r.abs.heap && gensDone r.abs && laidKept (boot_heap w.params) r.abs.heap with | true => _ | false => _) = _
  rw [v1, v5, v6, v7]
  rfl
end Mine

namespace Mine
open PySem PySem.W PySem.W.X PySem.Calls PyProof.Rows PySem.SeqAt
set_option maxRecDepth 100000
abbrev prog := PySem.Challenge.pw_xw0359_01
noncomputable def desc : Desc where
  gl := [(Str.ofString "MOST_PORT", .int (IE.lit (65535))), (Str.ofString "want_port", .top 120), (Str.ofString "Ports", .top 173), (Str.ofString "plus", .top 184), (Str.ofString "distance", .top 191), (Str.ofString "is_before", .top 198), (Str.ofString "latest", .top 219), (Str.ofString "EVERY", .int (IE.lit (2))), (Str.ofString "AckPolicy", .top 272), (Str.ofString "DUPLICATES", .int (IE.lit (3))), (Str.ofString "Congestion", .top 363), (Str.ofString "MOST_SHIFT_retransmit", .int (IE.lit (7))), (Str.ofString "RetransmitClock", .top 440), (Str.ofString "RttEstimate", .top 496), (Str.ofString "SendQueue", .top 552), (Str.ofString "PeerWindow", .top 594), (Str.ofString "Sender", .top 785), (Str.ofString "put16", .top 796), (Str.ofString "FIN", .int (IE.lit (1))), (Str.ofString "SYN", .int (IE.lit (2))), (Str.ofString "RST", .int (IE.lit (4))), (Str.ofString "PSH", .int (IE.lit (8))), (Str.ofString "ACK", .int (IE.lit (16))), (Str.ofString "URG", .int (IE.lit (32))), (Str.ofString "OPTIONS_END", .int (IE.lit (0))), (Str.ofString "OPTION_NOTHING", .int (IE.lit (1))), (Str.ofString "OPTION_MSS", .int (IE.lit (2))), (Str.ofString "MSS_SIZE", .int (IE.lit (4))), (Str.ofString "Segment", .top 849), (Str.ofString "check_number", .top 860), (Str.ofString "mss_option", .top 867), (Str.ofString "mss_of", .top 874), (Str.ofString "CLOSED", .str (Str.ofString "closed")), (Str.ofString "LISTEN", .str (Str.ofString "listen")), (Str.ofString "SYN_SENT", .str (Str.ofString "syn sent")), (Str.ofString "SYN_RECEIVED", .str (Str.ofString "syn received")), (Str.ofString "ESTABLISHED", .str (Str.ofString "established")), (Str.ofString "FIN_WAIT_1", .str (Str.ofString "fin wait 1")), (Str.ofString "FIN_WAIT_2", .str (Str.ofString "fin wait 2")), (Str.ofString "CLOSE_WAIT", .str (Str.ofString "close wait")), (Str.ofString "CLOSING", .str (Str.ofString "closing")), (Str.ofString "LAST_ACK", .str (Str.ofString "last ack")), (Str.ofString "TIME_WAIT", .str (Str.ofString "time wait")), (Str.ofString "opening_steps", .top 881), (Str.ofString "follow", .top 895), (Str.ofString "is_sending", .top 923), (Str.ofString "Wheel", .top 986), (Str.ofString "RESEND", .int (IE.lit (1))), (Str.ofString "PERSIST", .int (IE.lit (2))), (Str.ofString "DELAYED", .int (IE.lit (3))), (Str.ofString "WAIT", .int (IE.lit (4))), (Str.ofString "MOST_WINDOW", .int (IE.lit (65535))), (Str.ofString "Limits", .top 1007), (Str.ofString "clock_of", .top 1018), (Str.ofString "Tcb", .top 1050), (Str.ofString "Assembly", .top 1146), (Str.ofString "Receiver", .top 1280), (Str.ofString "MOST_SHIFT_tcp_user", .int (IE.lit (7))), (Str.ofString "change_state", .top 1291), (Str.ofString "open_passive", .top 1326), (Str.ofString "syn_segment", .top 1375), (Str.ofString "take_asked_fin", .top 1389), (Str.ofString "output", .top 1403), (Str.ofString "keep_timers", .top 1417), (Str.ofString "WHOLE_RING", .int (IE.lit (4294967296))), (Str.ofString "PLAIN_MSS", .int (IE.lit (536))), (Str.ofString "arrive", .top 1452), (Str.ofString "reset_for", .top 1467), (Str.ofString "take_syn", .top 1474), (Str.ofString "in_listen", .top 1481), (Str.ofString "TcpTable", .top 1660), (Str.ofString "ISS_STEP", .int (IE.lit (64))), (Str.ofString "Listener", .top 1702), (Str.ofString "Link", .top 1730), (Str.ofString "rows_out", .top 1739), (Str.ofString "TcpSockets", .top 1918), (Str.ofString "_law_pool", .top 1929), (Str.ofString "_law_take", .top 1936), (Str.ofString "_law_one", .top 1943), (Str.ofString "_law_sockets", .top 1950), (Str.ofString "_law_due", .top 1957), (Str.ofString "_law_come_right", .top 1962), (Str.ofString "law", .top 1969)]
  fns := [
    ofStmt 233 [] (stIn (stAt prog.main.body 22) 0),
    ofStmt 262 [] (stIn (stAt prog.main.body 22) 4),
    ofStmt 1068 [] (stIn (stAt prog.main.body 86) 0),
    ofStmt 290 [] (stIn (stAt prog.main.body 25) 0),
    ofStmt 304 [] (stIn (stAt prog.main.body 25) 2),
    ofStmt 1004 [] (stIn (stAt prog.main.body 82) 0),
    ofStmt 1720 [] (stIn (stAt prog.main.body 149) 0),
    ofStmt 1678 [] (stIn (stAt prog.main.body 148) 0),
    ofStmt 1685 [] (stIn (stAt prog.main.body 148) 1),
    ofStmt 570 [] (stIn (stAt prog.main.body 34) 0),
    ofStmt 577 [] (stIn (stAt prog.main.body 34) 1),
    ofStmt 584 [] (stIn (stAt prog.main.body 34) 2),
    ofStmt 134 [] (stIn (stAt prog.main.body 12) 0),
    ofStmt 1165 [.int (IE.lit (1))] (stIn (stAt prog.main.body 88) 0),
    ofStmt 1242 [] (stIn (stAt prog.main.body 88) 11),
    ofStmt 1172 [] (stIn (stAt prog.main.body 88) 1),
    ofStmt 1179 [] (stIn (stAt prog.main.body 88) 2),
    ofStmt 1186 [] (stIn (stAt prog.main.body 88) 3),
    ofStmt 1193 [] (stIn (stAt prog.main.body 88) 4),
    ofStmt 381 [] (stIn (stAt prog.main.body 28) 0),
    ofStmt 437 [] (stIn (stAt prog.main.body 28) 8),
    ofStmt 395 [] (stIn (stAt prog.main.body 28) 2),
    ofStmt 430 [] (stIn (stAt prog.main.body 28) 7),
    ofStmt 458 [] (stIn (stAt prog.main.body 30) 0),
    ofStmt 493 [] (stIn (stAt prog.main.body 30) 5),
    ofStmt 479 [] (stIn (stAt prog.main.body 30) 3),
    ofStmt 486 [] (stIn (stAt prog.main.body 30) 4),
    ofStmt 825 [.int (IE.lit (0)), .byts [], .byts []] (stIn (stAt prog.main.body 51) 0),
    ofStmt 832 [] (stIn (stAt prog.main.body 51) 1),
    ofStmt 846 [] (stIn (stAt prog.main.body 51) 3),
    ofStmt 514 [] (stIn (stAt prog.main.body 32) 0),
    ofStmt 521 [] (stIn (stAt prog.main.body 32) 1),
    ofStmt 612 [] (stIn (stAt prog.main.body 35) 0),
    ofStmt 648 [] (stIn (stAt prog.main.body 35) 5),
    ofStmt 697 [] (stIn (stAt prog.main.body 35) 12),
    ofStmt 704 [] (stIn (stAt prog.main.body 35) 13),
    ofStmt 627 [] (stIn (stAt prog.main.body 35) 2),
    ofStmt 1032 [] (stIn (stAt prog.main.body 84) 0),
    ofStmt 1047 [.byts []] (stIn (stAt prog.main.body 84) 2),
    ofStmt 1039 [] (stIn (stAt prog.main.body 84) 1),
    ofStmt 1753 [] (stIn (stAt prog.main.body 151) 0),
    ofStmt 1901 [] (stIn (stAt prog.main.body 151) 21),
    ofStmt 1781 [] (stIn (stAt prog.main.body 151) 4),
    ofStmt 1873 [] (stIn (stAt prog.main.body 151) 17),
    ofStmt 1767 [] (stIn (stAt prog.main.body 151) 2),
    ofStmt 1760 [] (stIn (stAt prog.main.body 151) 1),
    ofStmt 1894 [] (stIn (stAt prog.main.body 151) 20),
    ofStmt 1831 [] (stIn (stAt prog.main.body 151) 11),
    ofStmt 1621 [] (stIn (stAt prog.main.body 145) 0),
    ofStmt 1635 [] (stIn (stAt prog.main.body 145) 2),
    ofStmt 1647 [] (stIn (stAt prog.main.body 145) 4),
    ofStmt 1628 [] (stIn (stAt prog.main.body 145) 1),
    ofStmt 936 [.int (IE.lit (16))] (stIn (stAt prog.main.body 75) 0),
    ofStmt 957 [] (stIn (stAt prog.main.body 75) 3),
    ofStmt 950 [] (stIn (stAt prog.main.body 75) 2),
    ofStmt 943 [] (stIn (stAt prog.main.body 75) 1),
    ofStmt 964 [] (stIn (stAt prog.main.body 75) 4),
    ofStmt 1962 [] (stAt prog.main.body 158),
    ofStmt 1957 [] (stAt prog.main.body 157),
    ofStmt 1943 [] (stAt prog.main.body 155),
    ofStmt 1929 [] (stAt prog.main.body 153),
    ofStmt 1950 [] (stAt prog.main.body 156),
    ofStmt 1936 [] (stAt prog.main.body 154),
    ofStmt 1452 [] (stAt prog.main.body 121),
    ofStmt 1291 [] (stAt prog.main.body 91),
    ofStmt 860 [] (stAt prog.main.body 52),
    ofStmt 1018 [] (stAt prog.main.body 83),
    ofStmt 191 [] (stAt prog.main.body 15),
    ofStmt 895 [] (stAt prog.main.body 69),
    ofStmt 1481 [] (stAt prog.main.body 125),
    ofStmt 198 [] (stAt prog.main.body 16),
    ofStmt 923 [] (stAt prog.main.body 73),
    ofStmt 1417 [] (stAt prog.main.body 112),
    ofStmt 219 [] (stAt prog.main.body 19),
    ofStmt 1969 [] (stAt prog.main.body 159),
    ofStmt 874 [] (stAt prog.main.body 54),
    ofStmt 867 [] (stAt prog.main.body 53),
    ofStmt 1326 [] (stAt prog.main.body 96),
    ofStmt 881 [] (stAt prog.main.body 67),
    ofStmt 1403 [] (stAt prog.main.body 110),
    ofStmt 184 [] (stAt prog.main.body 14),
    ofStmt 796 [] (stAt prog.main.body 37),
    ofStmt 1467 [.int (IE.lit (4294967296))] (stAt prog.main.body 123),
    ofStmt 1739 [] (stAt prog.main.body 150),
    ofStmt 1375 [] (stAt prog.main.body 106),
    ofStmt 1389 [] (stAt prog.main.body 108),
    ofStmt 1474 [] (stAt prog.main.body 124),
    ofStmt 120 [] (stAt prog.main.body 11)]
  cls := [
    (272, ⟨233, [Str.ofString "delay", Str.ofString "due", Str.ofString "has_gap", Str.ofString "waiting"], [(Str.ofString "on_sent", 262)], []⟩),
    (1146, ⟨1068, [Str.ofString "parts", Str.ofString "ring"], [], []⟩),
    (363, ⟨290, [Str.ofString "duplicates", Str.ofString "gathered", Str.ofString "is_cautious", Str.ofString "is_recovering", Str.ofString "most", Str.ofString "mss", Str.ofString "size", Str.ofString "threshold"], [(Str.ofString "told_mss", 304)], []⟩),
    (1007, ⟨1004, [Str.ofString "ack_delay", Str.ofString "first_timeout", Str.ofString "least_timeout", Str.ofString "most_timeout", Str.ofString "most_tries", Str.ofString "mss", Str.ofString "receive_room", Str.ofString "ring", Str.ofString "send_room", Str.ofString "time_wait"], [], []⟩),
    (1730, ⟨1720, [Str.ofString "is_dropped", Str.ofString "is_left", Str.ofString "listener", Str.ofString "own_port", Str.ofString "tcb"], [], []⟩),
    (1702, ⟨1678, [Str.ofString "address", Str.ofString "most_waiting", Str.ofString "opening", Str.ofString "port", Str.ofString "ready"], [(Str.ofString "waiting", 1685)], []⟩),
    (594, ⟨570, [Str.ofString "most", Str.ofString "ring", Str.ofString "size", Str.ofString "told_ack", Str.ofString "told_seq"], [(Str.ofString "is_newer", 577), (Str.ofString "take", 584)], []⟩),
    (173, ⟨134, [Str.ofString "first", Str.ofString "following", Str.ofString "last", Str.ofString "taken"], [], []⟩),
    (1280, ⟨1165, [Str.ofString "assembly", Str.ofString "fin_at", Str.ofString "has_fin", Str.ofString "mss", Str.ofString "next", Str.ofString "ready", Str.ofString "ring", Str.ofString "room", Str.ofString "told_edge", Str.ofString "urgent_at"], [(Str.ofString "available", 1242), (Str.ofString "free_edge", 1172), (Str.ofString "should_tell", 1179), (Str.ofString "told_window", 1186), (Str.ofString "window", 1193)], []⟩),
    (440, ⟨381, [Str.ofString "estimate", Str.ofString "most_tries", Str.ofString "timed_at", Str.ofString "timed_end", Str.ofString "tries"], [(Str.ofString "deadline", 437), (Str.ofString "sent", 395), (Str.ofString "waited", 430)], []⟩),
    (496, ⟨458, [Str.ofString "first", Str.ofString "least", Str.ofString "mean8", Str.ofString "measured", Str.ofString "most", Str.ofString "spread4"], [(Str.ofString "bounded", 493), (Str.ofString "plain_timeout", 479), (Str.ofString "timeout", 486)], []⟩),
    (849, ⟨825, [Str.ofString "ack", Str.ofString "flags", Str.ofString "options", Str.ofString "payload", Str.ofString "seq", Str.ofString "source_port", Str.ofString "target_port", Str.ofString "urgent", Str.ofString "window"], [(Str.ofString "has", 832), (Str.ofString "row", 846)], []⟩),
    (552, ⟨514, [Str.ofString "held", Str.ofString "room"], [(Str.ofString "size", 521)], []⟩),
    (785, ⟨612, [Str.ofString "fin_asked", Str.ofString "fin_sent", Str.ofString "greatest", Str.ofString "iss", Str.ofString "mss", Str.ofString "next", Str.ofString "peer", Str.ofString "queue", Str.ofString "ring", Str.ofString "syn_pending", Str.ofString "una"], [(Str.ofString "flight", 648), (Str.ofString "go_on", 697), (Str.ofString "start", 704), (Str.ofString "take_window", 627)], []⟩),
    (1050, ⟨1032, [Str.ofString "acks", Str.ofString "clock", Str.ofString "congestion", Str.ofString "error", Str.ofString "is_nagle", Str.ofString "limits", Str.ofString "local", Str.ofString "probes", Str.ofString "receiver", Str.ofString "remote", Str.ofString "sender", Str.ofString "state", Str.ofString "unanswered", Str.ofString "wheel"], [(Str.ofString "make", 1047), (Str.ofString "window_now", 1039)], []⟩),
    (1918, ⟨1753, [Str.ofString "given", Str.ofString "iss", Str.ofString "limits", Str.ofString "links", Str.ofString "listeners", Str.ofString "ports", Str.ofString "table"], [(Str.ofString "input_new", 1901), (Str.ofString "listen", 1781), (Str.ofString "look_at", 1873), (Str.ofString "new_iss", 1767), (Str.ofString "new_number", 1760), (Str.ofString "refused", 1894), (Str.ofString "status", 1831)], []⟩),
    (1660, ⟨1621, [Str.ofString "connections", Str.ofString "listeners"], [(Str.ofString "connect", 1635), (Str.ofString "find", 1647), (Str.ofString "listen", 1628)], []⟩),
    (986, ⟨936, [Str.ofString "entries", Str.ofString "given", Str.ofString "late", Str.ofString "reached", Str.ofString "size", Str.ofString "slots"], [(Str.ofString "cancel", 957), (Str.ofString "list_of", 950), (Str.ofString "put", 943), (Str.ofString "time_of", 964)], []⟩)]
  xc := none
noncomputable def objAddrs : List Nat := [1, 3, 233, 232, 262, 261, 1068, 1067, 290, 289, 304, 303, 1004, 1003, 1720, 1719, 1678, 1677, 1685, 1684, 570, 569, 577, 576, 584, 583, 134, 133, 1165, 1164, 1158, 1242, 1241, 1172, 1171, 1179, 1178, 1186, 1185, 1193, 1192, 381, 380, 437, 436, 395, 394, 430, 429, 458, 457, 493, 492, 479, 478, 486, 485, 825, 824, 818, 832, 831, 846, 845, 514, 513, 521, 520, 612, 611, 648, 647, 697, 696, 704, 703, 627, 626, 1032, 1031, 1047, 1046, 1040, 1039, 1038, 1753, 1752, 1901, 1900, 1781, 1780, 1873, 1872, 1767, 1766, 1760, 1759, 1894, 1893, 1831, 1830, 1621, 1620, 1635, 1634, 1647, 1646, 1628, 1627, 936, 935, 931, 957, 956, 950, 949, 943, 942, 964, 963, 1962, 1961, 1957, 1956, 1943, 1942, 1929, 1928, 1950, 1949, 1936, 1935, 1452, 1451, 1291, 1290, 860, 859, 1018, 1017, 191, 190, 895, 894, 1481, 1480, 198, 197, 923, 922, 1417, 1416, 219, 218, 1969, 1968, 874, 873, 867, 866, 1326, 1325, 881, 880, 1403, 1402, 184, 183, 796, 795, 1467, 1466, 1460, 1739, 1738, 1375, 1374, 1389, 1388, 1474, 1473, 120, 119, 272, 271, 1146, 1145, 363, 362, 1007, 1006, 1730, 1729, 1702, 1701, 594, 593, 173, 172, 1280, 1279, 440, 439, 496, 495, 849, 848, 552, 551, 785, 784, 1050, 1049, 1918, 1917, 1660, 1659, 986, 985]

noncomputable def lawD : FnD := ofStmt 1969 [] (stAt prog.main.body 159)

noncomputable def S0 : SE := seOf desc
noncomputable def sScript : Str := Str.ofString "script"
noncomputable def sv (s : String) : AV := .str (Str.ofString s)
theorem both_and {α : Type} {o : Option α} {f g : α → Bool} (h1 : o.map f = some true) (h2 : o.map g = some true) : o.map (fun r => f r && g r) = some true := by
  induction o using Option.casesOn with
  | none => exact no_some h1
  | some x => exact congrArg some (Bool.and_eq_true_iff.mpr ⟨Option.some.inj h1, Option.some.inj h2⟩)
theorem both_map {α β γ : Type} {o : Option α} {f : α → β} {g : α → γ} {a : β} {b : γ} (h1 : o.map f = some a) (h2 : o.map g = some b) : o.map (fun r => (f r, g r)) = some (a, b) := by
  induction o using Option.casesOn with
  | none => exact no_some h1
  | some x => exact congrArg some (Prod.ext (Option.some.inj h1) (Option.some.inj h2))
noncomputable def c0 : Con := conPool
set_option maxHeartbeats 0 in
theorem con0 : conB S0 1929 c0 = true := by kernel_rfl
noncomputable def S1 : SE := S0.tell 1929 c0
noncomputable def c1 : Con := (conTake 256)
set_option maxHeartbeats 0 in
theorem con1 : conB S1 1936 c1 = true := by kernel_rfl
noncomputable def S2 : SE := S1.tell 1936 c1
noncomputable def c2 : Con := (conTake 3)
set_option maxHeartbeats 0 in
theorem con2 : conB S2 1936 c2 = true := by kernel_rfl
noncomputable def S3 : SE := S2.tell 1936 c2
noncomputable def c3 : Con := (conTake 5)
set_option maxHeartbeats 0 in
theorem con3 : conB S3 1936 c3 = true := by kernel_rfl
noncomputable def S4 : SE := S3.tell 1936 c3
noncomputable def c4 : Con := (conTake 12)
set_option maxHeartbeats 0 in
theorem con4 : conB S4 1936 c4 = true := by kernel_rfl
noncomputable def S5 : SE := S4.tell 1936 c4
noncomputable def I (n : Int) : AV := .int ⟨n, []⟩
noncomputable def X (i : Nat) : AV := .int (IE.var i)
noncomputable def P (l : Nat) : AV := .loc l
noncomputable def F (x : String) (v : AV) : Str × AV := (Str.ofString x, v)
noncomputable def K (x : String) (v : AV) : KD × AV × AV := (.s (Str.ofString x), sv x, v)
noncomputable def putsOO : Nat → List (Option AO) → Tr AO → Tr AO
  | _, [], t => t
  | i, o :: r, t => putsOO (i + 1) r (t.put 41 i o)
noncomputable def stOO (os : List (Option AO)) (vi : List VI) : St := ⟨[], putsOO 1 os .nil, os.length + 1, ⟨0, none, none⟩ :: vi⟩
noncomputable def kid (i : Nat) (p : Int) (a : Nat) : List (Option AO) := [
  some (.inst 1730 (22 + 20 * i)),
  some (.ns [F "tcb" (P (23 + 20 * i)), F "listener" (I 1), F "own_port" .none, F "is_left" (.bool false), F "is_dropped" (.bool false)]),
  some (.inst 1050 (24 + 20 * i)),
  some (.ns [F "limits" (P 5), F "local" (P (33 + 20 * i)), F "remote" (P (34 + 20 * i)), F "state" (sv "syn received"), F "sender" (P (25 + 20 * i)), F "receiver" (P (27 + 20 * i)), F "clock" (P (35 + 20 * i)), F "congestion" (P (36 + 20 * i)), F "acks" (P (37 + 20 * i)), F "wheel" (P (38 + 20 * i)), F "error" .none, F "probes" (I 0), F "unanswered" (I 0), F "is_nagle" (.bool true)]),
  some (.inst 785 (26 + 20 * i)),
  some (.ns [F "iss" (X a), F "ring" (I 256), F "mss" (I 4), F "una" (X a), F "next" (X (a + 1)), F "greatest" (X (a + 1)), F "peer" (P (39 + 20 * i)), F "queue" (P (29 + 20 * i)), F "syn_pending" (.bool true), F "fin_asked" (.bool false), F "fin_sent" (.bool false)]),
  some (.inst 1280 (28 + 20 * i)),
  some (.ns [F "ring" (I 256), F "room" (I 16), F "mss" (I 4), F "next" (X (a + 2)), F "ready" (P (31 + 20 * i)), F "assembly" (P (40 + 20 * i)), F "told_edge" (X (a + 3)), F "fin_at" .none, F "has_fin" (.bool false), F "urgent_at" .none]),
  some (.inst 552 (30 + 20 * i)),
  some (.ns [F "room" (I 16), F "held" (.byts [])]),
  some (.barr []), some (.tup [P (33 + 20 * i), P (34 + 20 * i)]), some (.tup [I 2, I 80]), some (.tup [I 1, I p]), none, none, none, none, none, none]
noncomputable def kids : Nat → List Int → List (Option AO)
  | _, [] => []
  | i, p :: r => kid i p (6 + 4 * i) ++ kids (i + 1) r
noncomputable def linksE : Nat → List Int → List (KD × AV × AV)
  | _, [] => []
  | i, _ :: r => (.i (2 + (i : Int)), I (2 + (i : Int)), P (21 + 20 * i)) :: linksE (i + 1) r
noncomputable def connsE : Nat → List Int → List (KD × AV × AV)
  | _, [] => []
  | i, p :: r => (.p (.p (.i 2) (.i 80)) (.p (.i 1) (.i p)), P (32 + 20 * i), I (2 + (i : Int))) :: connsE (i + 1) r
noncomputable def numsE : Nat → List Int → List AV
  | _, [] => []
  | i, _ :: r => I (2 + (i : Int)) :: numsE (i + 1) r
noncomputable def shp (ps : List Int) (t : Nat) : List (Option AO) := [
  some (.inst 1918 3),
  some (.dct [K "last" (X 1), K "most" (X 2), K "ports" (P 4)] 3),
  some (.ns [F "limits" (P 5), F "iss" (X 1), F "ports" (P 6), F "table" (P 7), F "listeners" (P 8), F "links" (P 9), F "given" (I (1 + ps.length))]),
  some (.lst (ps.map I)),
  some (.inst 1007 10),
  none,
  some (.inst 1660 11),
  some (.dct [(.i 1, I 1, P 12)] 1),
  some (.dct (linksE 0 ps) ps.length),
  some (.ns [F "ring" (I 256), F "mss" (I 4), F "send_room" (I 16), F "receive_room" (I 16), F "first_timeout" (I 6), F "least_timeout" (I 4), F "most_timeout" (I 24), F "most_tries" (I 3), F "ack_delay" (I 2), F "time_wait" (I 12)]),
  some (.ns [F "connections" (P 13), F "listeners" (P 14)]),
  some (.inst 1702 15),
  some (.dct (connsE 0 ps) ps.length),
  some (.dct [(.p (.i 0) (.i 80), P 18, I 1)] 1),
  some (.ns [F "address" (I 0), F "port" (I 80), F "most_waiting" (X 2), F "opening" (P 16), F "ready" (P 17)]),
  some (.lst (numsE 0 ps)),
  some (.lst []),
  some (.tup [I 0, I 80]),
  some (.lst [X 3, X 4]),
  some (.rngSI t (IE.var 5))] ++ kids 0 ps
noncomputable def b255 : VI := ⟨0, some 255, none⟩
noncomputable def visQ (k t : Nat) : List VI := b255 :: ⟨if k = 0 then 1 else k, some 3, none⟩ :: lPos :: lMix :: ⟨if t = 0 then 2 else if t = 1 then 1 else 0, some (6 - (t : Int)), none⟩ :: List.replicate (4 * k) b255
noncomputable def q01 (ps : List Int) (t : Nat) : Lq := ⟨[Str.ofString "sockets", Str.ofString "number", Str.ofString "book", Str.ofString "source"], [P 1, I 1, P 2, P 19], 20, stOO (shp ps t) (visQ ps.length t)⟩
noncomputable def forSt : Stmt := stAt lawD.r.body 6
noncomputable def forT : Expr := match forSt with
  | .For t _ _ _ _ => t
  | _ => .Name sScript ⟨0, 0, 0, 0⟩
noncomputable def forI : Expr := match forSt with
  | .For _ i _ _ _ => i
  | _ => .Name sScript ⟨0, 0, 0, 0⟩
noncomputable def forB : List Stmt := match forSt with
  | .For _ _ b _ _ => b
  | _ => []
noncomputable def forO : List Stmt := match forSt with
  | .For _ _ _ o _ => o
  | _ => []
noncomputable def forP : Pos := match forSt with
  | .For _ _ _ _ p => p
  | _ => ⟨0, 0, 0, 0⟩
noncomputable def pre : List Stmt := lawD.r.body.take 6
noncomputable def rest : List Stmt := lawD.r.body.drop 7
noncomputable def aeL : AE := ⟨lawD.r.sc, none, []⟩
noncomputable def endL (σ : St) : Bool := exL S5 (ip S5 59) aeL rest σ fin
set_option maxHeartbeats 0 in
theorem t6 : turnB (ip S5 59) aeL forT forB forO endL (q01 [] 6) [] = true := by kernel_rfl
set_option maxHeartbeats 0 in
theorem t6_0 : turnB (ip S5 59) aeL forT forB forO endL (q01 [20] 6) [] = true := by kernel_rfl
set_option maxHeartbeats 0 in
theorem t6_1 : turnB (ip S5 59) aeL forT forB forO endL (q01 [21] 6) [] = true := by kernel_rfl
set_option maxHeartbeats 0 in
theorem t6_2 : turnB (ip S5 59) aeL forT forB forO endL (q01 [22] 6) [] = true := by kernel_rfl
set_option maxHeartbeats 0 in
theorem t6_3 : turnB (ip S5 59) aeL forT forB forO endL (q01 [23] 6) [] = true := by kernel_rfl
set_option maxHeartbeats 0 in
theorem t6_4 : turnB (ip S5 59) aeL forT forB forO endL (q01 [24] 6) [] = true := by kernel_rfl
set_option maxHeartbeats 0 in
theorem t6_5 : turnB (ip S5 59) aeL forT forB forO endL (q01 [25] 6) [] = true := by kernel_rfl
set_option maxHeartbeats 0 in
theorem t6_0_1 : turnB (ip S5 59) aeL forT forB forO endL (q01 [20, 21] 6) [] = true := by kernel_rfl
set_option maxHeartbeats 0 in
theorem t6_0_2 : turnB (ip S5 59) aeL forT forB forO endL (q01 [20, 22] 6) [] = true := by kernel_rfl
set_option maxHeartbeats 0 in
theorem t6_0_3 : turnB (ip S5 59) aeL forT forB forO endL (q01 [20, 23] 6) [] = true := by kernel_rfl
set_option maxHeartbeats 0 in
theorem t6_0_4 : turnB (ip S5 59) aeL forT forB forO endL (q01 [20, 24] 6) [] = true := by kernel_rfl
set_option maxHeartbeats 0 in
theorem t6_0_5 : turnB (ip S5 59) aeL forT forB forO endL (q01 [20, 25] 6) [] = true := by kernel_rfl
set_option maxHeartbeats 0 in
theorem t6_1_2 : turnB (ip S5 59) aeL forT forB forO endL (q01 [21, 22] 6) [] = true := by kernel_rfl
set_option maxHeartbeats 0 in
theorem t6_1_3 : turnB (ip S5 59) aeL forT forB forO endL (q01 [21, 23] 6) [] = true := by kernel_rfl
set_option maxHeartbeats 0 in
theorem t6_1_4 : turnB (ip S5 59) aeL forT forB forO endL (q01 [21, 24] 6) [] = true := by kernel_rfl
set_option maxHeartbeats 0 in
theorem t6_1_5 : turnB (ip S5 59) aeL forT forB forO endL (q01 [21, 25] 6) [] = true := by kernel_rfl
set_option maxHeartbeats 0 in
theorem t6_2_3 : turnB (ip S5 59) aeL forT forB forO endL (q01 [22, 23] 6) [] = true := by kernel_rfl
set_option maxHeartbeats 0 in
theorem t6_2_4 : turnB (ip S5 59) aeL forT forB forO endL (q01 [22, 24] 6) [] = true := by kernel_rfl
set_option maxHeartbeats 0 in
theorem t6_2_5 : turnB (ip S5 59) aeL forT forB forO endL (q01 [22, 25] 6) [] = true := by kernel_rfl
set_option maxHeartbeats 0 in
theorem t6_3_4 : turnB (ip S5 59) aeL forT forB forO endL (q01 [23, 24] 6) [] = true := by kernel_rfl
set_option maxHeartbeats 0 in
theorem t6_3_5 : turnB (ip S5 59) aeL forT forB forO endL (q01 [23, 25] 6) [] = true := by kernel_rfl
set_option maxHeartbeats 0 in
theorem t6_4_5 : turnB (ip S5 59) aeL forT forB forO endL (q01 [24, 25] 6) [] = true := by kernel_rfl
set_option maxHeartbeats 0 in
theorem t6_0_1_2 : turnB (ip S5 59) aeL forT forB forO endL (q01 [20, 21, 22] 6) [] = true := by kernel_rfl
set_option maxHeartbeats 0 in
theorem t6_0_1_3 : turnB (ip S5 59) aeL forT forB forO endL (q01 [20, 21, 23] 6) [] = true := by kernel_rfl
set_option maxHeartbeats 0 in
theorem t6_0_1_4 : turnB (ip S5 59) aeL forT forB forO endL (q01 [20, 21, 24] 6) [] = true := by kernel_rfl
set_option maxHeartbeats 0 in
theorem t6_0_1_5 : turnB (ip S5 59) aeL forT forB forO endL (q01 [20, 21, 25] 6) [] = true := by kernel_rfl
set_option maxHeartbeats 0 in
theorem t6_0_2_3 : turnB (ip S5 59) aeL forT forB forO endL (q01 [20, 22, 23] 6) [] = true := by kernel_rfl
set_option maxHeartbeats 0 in
theorem t6_0_2_4 : turnB (ip S5 59) aeL forT forB forO endL (q01 [20, 22, 24] 6) [] = true := by kernel_rfl
set_option maxHeartbeats 0 in
theorem t6_0_2_5 : turnB (ip S5 59) aeL forT forB forO endL (q01 [20, 22, 25] 6) [] = true := by kernel_rfl
set_option maxHeartbeats 0 in
theorem t6_0_3_4 : turnB (ip S5 59) aeL forT forB forO endL (q01 [20, 23, 24] 6) [] = true := by kernel_rfl
set_option maxHeartbeats 0 in
theorem t6_0_3_5 : turnB (ip S5 59) aeL forT forB forO endL (q01 [20, 23, 25] 6) [] = true := by kernel_rfl
set_option maxHeartbeats 0 in
theorem t6_0_4_5 : turnB (ip S5 59) aeL forT forB forO endL (q01 [20, 24, 25] 6) [] = true := by kernel_rfl
set_option maxHeartbeats 0 in
theorem t6_1_2_3 : turnB (ip S5 59) aeL forT forB forO endL (q01 [21, 22, 23] 6) [] = true := by kernel_rfl
set_option maxHeartbeats 0 in
theorem t6_1_2_4 : turnB (ip S5 59) aeL forT forB forO endL (q01 [21, 22, 24] 6) [] = true := by kernel_rfl
set_option maxHeartbeats 0 in
theorem t6_1_2_5 : turnB (ip S5 59) aeL forT forB forO endL (q01 [21, 22, 25] 6) [] = true := by kernel_rfl
set_option maxHeartbeats 0 in
theorem t6_1_3_4 : turnB (ip S5 59) aeL forT forB forO endL (q01 [21, 23, 24] 6) [] = true := by kernel_rfl
set_option maxHeartbeats 0 in
theorem t6_1_3_5 : turnB (ip S5 59) aeL forT forB forO endL (q01 [21, 23, 25] 6) [] = true := by kernel_rfl
set_option maxHeartbeats 0 in
theorem t6_1_4_5 : turnB (ip S5 59) aeL forT forB forO endL (q01 [21, 24, 25] 6) [] = true := by kernel_rfl
set_option maxHeartbeats 0 in
theorem t6_2_3_4 : turnB (ip S5 59) aeL forT forB forO endL (q01 [22, 23, 24] 6) [] = true := by kernel_rfl
set_option maxHeartbeats 0 in
theorem t6_2_3_5 : turnB (ip S5 59) aeL forT forB forO endL (q01 [22, 23, 25] 6) [] = true := by kernel_rfl
set_option maxHeartbeats 0 in
theorem t6_2_4_5 : turnB (ip S5 59) aeL forT forB forO endL (q01 [22, 24, 25] 6) [] = true := by kernel_rfl
set_option maxHeartbeats 0 in
theorem t6_3_4_5 : turnB (ip S5 59) aeL forT forB forO endL (q01 [23, 24, 25] 6) [] = true := by kernel_rfl
set_option maxHeartbeats 0 in
theorem t5 : turnB (ip S5 59) aeL forT forB forO endL (q01 [] 5) [(q01 [] 6), (q01 [25] 6)] = true := by kernel_rfl
set_option maxHeartbeats 0 in
theorem t5_0 : turnB (ip S5 59) aeL forT forB forO endL (q01 [20] 5) [(q01 [20] 6), (q01 [20, 25] 6)] = true := by kernel_rfl
set_option maxHeartbeats 0 in
theorem t5_1 : turnB (ip S5 59) aeL forT forB forO endL (q01 [21] 5) [(q01 [21] 6), (q01 [21, 25] 6)] = true := by kernel_rfl
set_option maxHeartbeats 0 in
theorem t5_2 : turnB (ip S5 59) aeL forT forB forO endL (q01 [22] 5) [(q01 [22] 6), (q01 [22, 25] 6)] = true := by kernel_rfl
set_option maxHeartbeats 0 in
theorem t5_3 : turnB (ip S5 59) aeL forT forB forO endL (q01 [23] 5) [(q01 [23] 6), (q01 [23, 25] 6)] = true := by kernel_rfl
set_option maxHeartbeats 0 in
theorem t5_4 : turnB (ip S5 59) aeL forT forB forO endL (q01 [24] 5) [(q01 [24] 6), (q01 [24, 25] 6)] = true := by kernel_rfl
set_option maxHeartbeats 0 in
theorem t5_0_1 : turnB (ip S5 59) aeL forT forB forO endL (q01 [20, 21] 5) [(q01 [20, 21] 6), (q01 [20, 21, 25] 6)] = true := by kernel_rfl
set_option maxHeartbeats 0 in
theorem t5_0_2 : turnB (ip S5 59) aeL forT forB forO endL (q01 [20, 22] 5) [(q01 [20, 22] 6), (q01 [20, 22, 25] 6)] = true := by kernel_rfl
set_option maxHeartbeats 0 in
theorem t5_0_3 : turnB (ip S5 59) aeL forT forB forO endL (q01 [20, 23] 5) [(q01 [20, 23] 6), (q01 [20, 23, 25] 6)] = true := by kernel_rfl
set_option maxHeartbeats 0 in
theorem t5_0_4 : turnB (ip S5 59) aeL forT forB forO endL (q01 [20, 24] 5) [(q01 [20, 24] 6), (q01 [20, 24, 25] 6)] = true := by kernel_rfl
set_option maxHeartbeats 0 in
theorem t5_1_2 : turnB (ip S5 59) aeL forT forB forO endL (q01 [21, 22] 5) [(q01 [21, 22] 6), (q01 [21, 22, 25] 6)] = true := by kernel_rfl
set_option maxHeartbeats 0 in
theorem t5_1_3 : turnB (ip S5 59) aeL forT forB forO endL (q01 [21, 23] 5) [(q01 [21, 23] 6), (q01 [21, 23, 25] 6)] = true := by kernel_rfl
set_option maxHeartbeats 0 in
theorem t5_1_4 : turnB (ip S5 59) aeL forT forB forO endL (q01 [21, 24] 5) [(q01 [21, 24] 6), (q01 [21, 24, 25] 6)] = true := by kernel_rfl
set_option maxHeartbeats 0 in
theorem t5_2_3 : turnB (ip S5 59) aeL forT forB forO endL (q01 [22, 23] 5) [(q01 [22, 23] 6), (q01 [22, 23, 25] 6)] = true := by kernel_rfl
set_option maxHeartbeats 0 in
theorem t5_2_4 : turnB (ip S5 59) aeL forT forB forO endL (q01 [22, 24] 5) [(q01 [22, 24] 6), (q01 [22, 24, 25] 6)] = true := by kernel_rfl
set_option maxHeartbeats 0 in
theorem t5_3_4 : turnB (ip S5 59) aeL forT forB forO endL (q01 [23, 24] 5) [(q01 [23, 24] 6), (q01 [23, 24, 25] 6)] = true := by kernel_rfl
set_option maxHeartbeats 0 in
theorem t5_0_1_2 : turnB (ip S5 59) aeL forT forB forO endL (q01 [20, 21, 22] 5) [(q01 [20, 21, 22] 6)] = true := by kernel_rfl
set_option maxHeartbeats 0 in
theorem t5_0_1_3 : turnB (ip S5 59) aeL forT forB forO endL (q01 [20, 21, 23] 5) [(q01 [20, 21, 23] 6)] = true := by kernel_rfl
set_option maxHeartbeats 0 in
theorem t5_0_1_4 : turnB (ip S5 59) aeL forT forB forO endL (q01 [20, 21, 24] 5) [(q01 [20, 21, 24] 6)] = true := by kernel_rfl
set_option maxHeartbeats 0 in
theorem t5_0_2_3 : turnB (ip S5 59) aeL forT forB forO endL (q01 [20, 22, 23] 5) [(q01 [20, 22, 23] 6)] = true := by kernel_rfl
set_option maxHeartbeats 0 in
theorem t5_0_2_4 : turnB (ip S5 59) aeL forT forB forO endL (q01 [20, 22, 24] 5) [(q01 [20, 22, 24] 6)] = true := by kernel_rfl
set_option maxHeartbeats 0 in
theorem t5_0_3_4 : turnB (ip S5 59) aeL forT forB forO endL (q01 [20, 23, 24] 5) [(q01 [20, 23, 24] 6)] = true := by kernel_rfl
set_option maxHeartbeats 0 in
theorem t5_1_2_3 : turnB (ip S5 59) aeL forT forB forO endL (q01 [21, 22, 23] 5) [(q01 [21, 22, 23] 6)] = true := by kernel_rfl
set_option maxHeartbeats 0 in
theorem t5_1_2_4 : turnB (ip S5 59) aeL forT forB forO endL (q01 [21, 22, 24] 5) [(q01 [21, 22, 24] 6)] = true := by kernel_rfl
set_option maxHeartbeats 0 in
theorem t5_1_3_4 : turnB (ip S5 59) aeL forT forB forO endL (q01 [21, 23, 24] 5) [(q01 [21, 23, 24] 6)] = true := by kernel_rfl
set_option maxHeartbeats 0 in
theorem t5_2_3_4 : turnB (ip S5 59) aeL forT forB forO endL (q01 [22, 23, 24] 5) [(q01 [22, 23, 24] 6)] = true := by kernel_rfl
set_option maxHeartbeats 0 in
theorem t4 : turnB (ip S5 59) aeL forT forB forO endL (q01 [] 4) [(q01 [] 5), (q01 [24] 5)] = true := by kernel_rfl
set_option maxHeartbeats 0 in
theorem t4_0 : turnB (ip S5 59) aeL forT forB forO endL (q01 [20] 4) [(q01 [20] 5), (q01 [20, 24] 5)] = true := by kernel_rfl
set_option maxHeartbeats 0 in
theorem t4_1 : turnB (ip S5 59) aeL forT forB forO endL (q01 [21] 4) [(q01 [21] 5), (q01 [21, 24] 5)] = true := by kernel_rfl
set_option maxHeartbeats 0 in
theorem t4_2 : turnB (ip S5 59) aeL forT forB forO endL (q01 [22] 4) [(q01 [22] 5), (q01 [22, 24] 5)] = true := by kernel_rfl
set_option maxHeartbeats 0 in
theorem t4_3 : turnB (ip S5 59) aeL forT forB forO endL (q01 [23] 4) [(q01 [23] 5), (q01 [23, 24] 5)] = true := by kernel_rfl
set_option maxHeartbeats 0 in
theorem t4_0_1 : turnB (ip S5 59) aeL forT forB forO endL (q01 [20, 21] 4) [(q01 [20, 21] 5), (q01 [20, 21, 24] 5)] = true := by kernel_rfl
set_option maxHeartbeats 0 in
theorem t4_0_2 : turnB (ip S5 59) aeL forT forB forO endL (q01 [20, 22] 4) [(q01 [20, 22] 5), (q01 [20, 22, 24] 5)] = true := by kernel_rfl
set_option maxHeartbeats 0 in
theorem t4_0_3 : turnB (ip S5 59) aeL forT forB forO endL (q01 [20, 23] 4) [(q01 [20, 23] 5), (q01 [20, 23, 24] 5)] = true := by kernel_rfl
set_option maxHeartbeats 0 in
theorem t4_1_2 : turnB (ip S5 59) aeL forT forB forO endL (q01 [21, 22] 4) [(q01 [21, 22] 5), (q01 [21, 22, 24] 5)] = true := by kernel_rfl
set_option maxHeartbeats 0 in
theorem t4_1_3 : turnB (ip S5 59) aeL forT forB forO endL (q01 [21, 23] 4) [(q01 [21, 23] 5), (q01 [21, 23, 24] 5)] = true := by kernel_rfl
set_option maxHeartbeats 0 in
theorem t4_2_3 : turnB (ip S5 59) aeL forT forB forO endL (q01 [22, 23] 4) [(q01 [22, 23] 5), (q01 [22, 23, 24] 5)] = true := by kernel_rfl
set_option maxHeartbeats 0 in
theorem t4_0_1_2 : turnB (ip S5 59) aeL forT forB forO endL (q01 [20, 21, 22] 4) [(q01 [20, 21, 22] 5)] = true := by kernel_rfl
set_option maxHeartbeats 0 in
theorem t4_0_1_3 : turnB (ip S5 59) aeL forT forB forO endL (q01 [20, 21, 23] 4) [(q01 [20, 21, 23] 5)] = true := by kernel_rfl
set_option maxHeartbeats 0 in
theorem t4_0_2_3 : turnB (ip S5 59) aeL forT forB forO endL (q01 [20, 22, 23] 4) [(q01 [20, 22, 23] 5)] = true := by kernel_rfl
set_option maxHeartbeats 0 in
theorem t4_1_2_3 : turnB (ip S5 59) aeL forT forB forO endL (q01 [21, 22, 23] 4) [(q01 [21, 22, 23] 5)] = true := by kernel_rfl
set_option maxHeartbeats 0 in
theorem t3 : turnB (ip S5 59) aeL forT forB forO endL (q01 [] 3) [(q01 [] 4), (q01 [23] 4)] = true := by kernel_rfl
set_option maxHeartbeats 0 in
theorem t3_0 : turnB (ip S5 59) aeL forT forB forO endL (q01 [20] 3) [(q01 [20] 4), (q01 [20, 23] 4)] = true := by kernel_rfl
set_option maxHeartbeats 0 in
theorem t3_1 : turnB (ip S5 59) aeL forT forB forO endL (q01 [21] 3) [(q01 [21] 4), (q01 [21, 23] 4)] = true := by kernel_rfl
set_option maxHeartbeats 0 in
theorem t3_2 : turnB (ip S5 59) aeL forT forB forO endL (q01 [22] 3) [(q01 [22] 4), (q01 [22, 23] 4)] = true := by kernel_rfl
set_option maxHeartbeats 0 in
theorem t3_0_1 : turnB (ip S5 59) aeL forT forB forO endL (q01 [20, 21] 3) [(q01 [20, 21] 4), (q01 [20, 21, 23] 4)] = true := by kernel_rfl
set_option maxHeartbeats 0 in
theorem t3_0_2 : turnB (ip S5 59) aeL forT forB forO endL (q01 [20, 22] 3) [(q01 [20, 22] 4), (q01 [20, 22, 23] 4)] = true := by kernel_rfl
set_option maxHeartbeats 0 in
theorem t3_1_2 : turnB (ip S5 59) aeL forT forB forO endL (q01 [21, 22] 3) [(q01 [21, 22] 4), (q01 [21, 22, 23] 4)] = true := by kernel_rfl
set_option maxHeartbeats 0 in
theorem t3_0_1_2 : turnB (ip S5 59) aeL forT forB forO endL (q01 [20, 21, 22] 3) [(q01 [20, 21, 22] 4)] = true := by kernel_rfl
set_option maxHeartbeats 0 in
theorem t2 : turnB (ip S5 59) aeL forT forB forO endL (q01 [] 2) [(q01 [] 3), (q01 [22] 3)] = true := by kernel_rfl
set_option maxHeartbeats 0 in
theorem t2_0 : turnB (ip S5 59) aeL forT forB forO endL (q01 [20] 2) [(q01 [20] 3), (q01 [20, 22] 3)] = true := by kernel_rfl
set_option maxHeartbeats 0 in
theorem t2_1 : turnB (ip S5 59) aeL forT forB forO endL (q01 [21] 2) [(q01 [21] 3), (q01 [21, 22] 3)] = true := by kernel_rfl
set_option maxHeartbeats 0 in
theorem t2_0_1 : turnB (ip S5 59) aeL forT forB forO endL (q01 [20, 21] 2) [(q01 [20, 21] 3), (q01 [20, 21, 22] 3)] = true := by kernel_rfl
set_option maxHeartbeats 0 in
theorem t1 : turnB (ip S5 59) aeL forT forB forO endL (q01 [] 1) [(q01 [] 2), (q01 [21] 2)] = true := by kernel_rfl
set_option maxHeartbeats 0 in
theorem t1_0 : turnB (ip S5 59) aeL forT forB forO endL (q01 [20] 1) [(q01 [20] 2), (q01 [20, 21] 2)] = true := by kernel_rfl
set_option maxHeartbeats 0 in
theorem t0 : turnB (ip S5 59) aeL forT forB forO endL (q01 [] 0) [(q01 [] 1), (q01 [20] 1)] = true := by kernel_rfl
set_option maxHeartbeats 0 in
theorem preOk : mkCells [(sScript, .loc 0)] lawD.r.cn [] (lawStC sScript lawD.r.cn) (fun cl σ => exL S5 (ip S5 59) ⟨lawD.r.sc, none, cl⟩ pre σ (startB (ip S5 59) ⟨lawD.r.sc, none, cl⟩ forI [(q01 [] 0)])) = true := by kernel_rfl
theorem bodyEq : lawD.r.body = pre ++ (.For forT forI forB forO forP :: rest) := by kernel_rfl
theorem gt6 : GoodN (ip S5 59) aeL forT forB forO endL 1 (q01 [] 6) := ⟨[], t6, fun _ h => absurd h List.not_mem_nil⟩
theorem gt6_0 : GoodN (ip S5 59) aeL forT forB forO endL 1 (q01 [20] 6) := ⟨[], t6_0, fun _ h => absurd h List.not_mem_nil⟩
theorem gt6_1 : GoodN (ip S5 59) aeL forT forB forO endL 1 (q01 [21] 6) := ⟨[], t6_1, fun _ h => absurd h List.not_mem_nil⟩
theorem gt6_2 : GoodN (ip S5 59) aeL forT forB forO endL 1 (q01 [22] 6) := ⟨[], t6_2, fun _ h => absurd h List.not_mem_nil⟩
theorem gt6_3 : GoodN (ip S5 59) aeL forT forB forO endL 1 (q01 [23] 6) := ⟨[], t6_3, fun _ h => absurd h List.not_mem_nil⟩
theorem gt6_4 : GoodN (ip S5 59) aeL forT forB forO endL 1 (q01 [24] 6) := ⟨[], t6_4, fun _ h => absurd h List.not_mem_nil⟩
theorem gt6_5 : GoodN (ip S5 59) aeL forT forB forO endL 1 (q01 [25] 6) := ⟨[], t6_5, fun _ h => absurd h List.not_mem_nil⟩
theorem gt6_0_1 : GoodN (ip S5 59) aeL forT forB forO endL 1 (q01 [20, 21] 6) := ⟨[], t6_0_1, fun _ h => absurd h List.not_mem_nil⟩
theorem gt6_0_2 : GoodN (ip S5 59) aeL forT forB forO endL 1 (q01 [20, 22] 6) := ⟨[], t6_0_2, fun _ h => absurd h List.not_mem_nil⟩
theorem gt6_0_3 : GoodN (ip S5 59) aeL forT forB forO endL 1 (q01 [20, 23] 6) := ⟨[], t6_0_3, fun _ h => absurd h List.not_mem_nil⟩
theorem gt6_0_4 : GoodN (ip S5 59) aeL forT forB forO endL 1 (q01 [20, 24] 6) := ⟨[], t6_0_4, fun _ h => absurd h List.not_mem_nil⟩
theorem gt6_0_5 : GoodN (ip S5 59) aeL forT forB forO endL 1 (q01 [20, 25] 6) := ⟨[], t6_0_5, fun _ h => absurd h List.not_mem_nil⟩
theorem gt6_1_2 : GoodN (ip S5 59) aeL forT forB forO endL 1 (q01 [21, 22] 6) := ⟨[], t6_1_2, fun _ h => absurd h List.not_mem_nil⟩
theorem gt6_1_3 : GoodN (ip S5 59) aeL forT forB forO endL 1 (q01 [21, 23] 6) := ⟨[], t6_1_3, fun _ h => absurd h List.not_mem_nil⟩
theorem gt6_1_4 : GoodN (ip S5 59) aeL forT forB forO endL 1 (q01 [21, 24] 6) := ⟨[], t6_1_4, fun _ h => absurd h List.not_mem_nil⟩
theorem gt6_1_5 : GoodN (ip S5 59) aeL forT forB forO endL 1 (q01 [21, 25] 6) := ⟨[], t6_1_5, fun _ h => absurd h List.not_mem_nil⟩
theorem gt6_2_3 : GoodN (ip S5 59) aeL forT forB forO endL 1 (q01 [22, 23] 6) := ⟨[], t6_2_3, fun _ h => absurd h List.not_mem_nil⟩
theorem gt6_2_4 : GoodN (ip S5 59) aeL forT forB forO endL 1 (q01 [22, 24] 6) := ⟨[], t6_2_4, fun _ h => absurd h List.not_mem_nil⟩
theorem gt6_2_5 : GoodN (ip S5 59) aeL forT forB forO endL 1 (q01 [22, 25] 6) := ⟨[], t6_2_5, fun _ h => absurd h List.not_mem_nil⟩
theorem gt6_3_4 : GoodN (ip S5 59) aeL forT forB forO endL 1 (q01 [23, 24] 6) := ⟨[], t6_3_4, fun _ h => absurd h List.not_mem_nil⟩
theorem gt6_3_5 : GoodN (ip S5 59) aeL forT forB forO endL 1 (q01 [23, 25] 6) := ⟨[], t6_3_5, fun _ h => absurd h List.not_mem_nil⟩
theorem gt6_4_5 : GoodN (ip S5 59) aeL forT forB forO endL 1 (q01 [24, 25] 6) := ⟨[], t6_4_5, fun _ h => absurd h List.not_mem_nil⟩
theorem gt6_0_1_2 : GoodN (ip S5 59) aeL forT forB forO endL 1 (q01 [20, 21, 22] 6) := ⟨[], t6_0_1_2, fun _ h => absurd h List.not_mem_nil⟩
theorem gt6_0_1_3 : GoodN (ip S5 59) aeL forT forB forO endL 1 (q01 [20, 21, 23] 6) := ⟨[], t6_0_1_3, fun _ h => absurd h List.not_mem_nil⟩
theorem gt6_0_1_4 : GoodN (ip S5 59) aeL forT forB forO endL 1 (q01 [20, 21, 24] 6) := ⟨[], t6_0_1_4, fun _ h => absurd h List.not_mem_nil⟩
theorem gt6_0_1_5 : GoodN (ip S5 59) aeL forT forB forO endL 1 (q01 [20, 21, 25] 6) := ⟨[], t6_0_1_5, fun _ h => absurd h List.not_mem_nil⟩
theorem gt6_0_2_3 : GoodN (ip S5 59) aeL forT forB forO endL 1 (q01 [20, 22, 23] 6) := ⟨[], t6_0_2_3, fun _ h => absurd h List.not_mem_nil⟩
theorem gt6_0_2_4 : GoodN (ip S5 59) aeL forT forB forO endL 1 (q01 [20, 22, 24] 6) := ⟨[], t6_0_2_4, fun _ h => absurd h List.not_mem_nil⟩
theorem gt6_0_2_5 : GoodN (ip S5 59) aeL forT forB forO endL 1 (q01 [20, 22, 25] 6) := ⟨[], t6_0_2_5, fun _ h => absurd h List.not_mem_nil⟩
theorem gt6_0_3_4 : GoodN (ip S5 59) aeL forT forB forO endL 1 (q01 [20, 23, 24] 6) := ⟨[], t6_0_3_4, fun _ h => absurd h List.not_mem_nil⟩
theorem gt6_0_3_5 : GoodN (ip S5 59) aeL forT forB forO endL 1 (q01 [20, 23, 25] 6) := ⟨[], t6_0_3_5, fun _ h => absurd h List.not_mem_nil⟩
theorem gt6_0_4_5 : GoodN (ip S5 59) aeL forT forB forO endL 1 (q01 [20, 24, 25] 6) := ⟨[], t6_0_4_5, fun _ h => absurd h List.not_mem_nil⟩
theorem gt6_1_2_3 : GoodN (ip S5 59) aeL forT forB forO endL 1 (q01 [21, 22, 23] 6) := ⟨[], t6_1_2_3, fun _ h => absurd h List.not_mem_nil⟩
theorem gt6_1_2_4 : GoodN (ip S5 59) aeL forT forB forO endL 1 (q01 [21, 22, 24] 6) := ⟨[], t6_1_2_4, fun _ h => absurd h List.not_mem_nil⟩
theorem gt6_1_2_5 : GoodN (ip S5 59) aeL forT forB forO endL 1 (q01 [21, 22, 25] 6) := ⟨[], t6_1_2_5, fun _ h => absurd h List.not_mem_nil⟩
theorem gt6_1_3_4 : GoodN (ip S5 59) aeL forT forB forO endL 1 (q01 [21, 23, 24] 6) := ⟨[], t6_1_3_4, fun _ h => absurd h List.not_mem_nil⟩
theorem gt6_1_3_5 : GoodN (ip S5 59) aeL forT forB forO endL 1 (q01 [21, 23, 25] 6) := ⟨[], t6_1_3_5, fun _ h => absurd h List.not_mem_nil⟩
theorem gt6_1_4_5 : GoodN (ip S5 59) aeL forT forB forO endL 1 (q01 [21, 24, 25] 6) := ⟨[], t6_1_4_5, fun _ h => absurd h List.not_mem_nil⟩
theorem gt6_2_3_4 : GoodN (ip S5 59) aeL forT forB forO endL 1 (q01 [22, 23, 24] 6) := ⟨[], t6_2_3_4, fun _ h => absurd h List.not_mem_nil⟩
theorem gt6_2_3_5 : GoodN (ip S5 59) aeL forT forB forO endL 1 (q01 [22, 23, 25] 6) := ⟨[], t6_2_3_5, fun _ h => absurd h List.not_mem_nil⟩
theorem gt6_2_4_5 : GoodN (ip S5 59) aeL forT forB forO endL 1 (q01 [22, 24, 25] 6) := ⟨[], t6_2_4_5, fun _ h => absurd h List.not_mem_nil⟩
theorem gt6_3_4_5 : GoodN (ip S5 59) aeL forT forB forO endL 1 (q01 [23, 24, 25] 6) := ⟨[], t6_3_4_5, fun _ h => absurd h List.not_mem_nil⟩
theorem gt5 : GoodN (ip S5 59) aeL forT forB forO endL 2 (q01 [] 5) := ⟨[(q01 [] 6), (q01 [25] 6)], t5, List.forall_mem_cons.mpr ⟨gt6, List.forall_mem_cons.mpr ⟨gt6_5, fun _ h => absurd h List.not_mem_nil⟩⟩⟩
theorem gt5_0 : GoodN (ip S5 59) aeL forT forB forO endL 2 (q01 [20] 5) := ⟨[(q01 [20] 6), (q01 [20, 25] 6)], t5_0, List.forall_mem_cons.mpr ⟨gt6_0, List.forall_mem_cons.mpr ⟨gt6_0_5, fun _ h => absurd h List.not_mem_nil⟩⟩⟩
theorem gt5_1 : GoodN (ip S5 59) aeL forT forB forO endL 2 (q01 [21] 5) := ⟨[(q01 [21] 6), (q01 [21, 25] 6)], t5_1, List.forall_mem_cons.mpr ⟨gt6_1, List.forall_mem_cons.mpr ⟨gt6_1_5, fun _ h => absurd h List.not_mem_nil⟩⟩⟩
theorem gt5_2 : GoodN (ip S5 59) aeL forT forB forO endL 2 (q01 [22] 5) := ⟨[(q01 [22] 6), (q01 [22, 25] 6)], t5_2, List.forall_mem_cons.mpr ⟨gt6_2, List.forall_mem_cons.mpr ⟨gt6_2_5, fun _ h => absurd h List.not_mem_nil⟩⟩⟩
theorem gt5_3 : GoodN (ip S5 59) aeL forT forB forO endL 2 (q01 [23] 5) := ⟨[(q01 [23] 6), (q01 [23, 25] 6)], t5_3, List.forall_mem_cons.mpr ⟨gt6_3, List.forall_mem_cons.mpr ⟨gt6_3_5, fun _ h => absurd h List.not_mem_nil⟩⟩⟩
theorem gt5_4 : GoodN (ip S5 59) aeL forT forB forO endL 2 (q01 [24] 5) := ⟨[(q01 [24] 6), (q01 [24, 25] 6)], t5_4, List.forall_mem_cons.mpr ⟨gt6_4, List.forall_mem_cons.mpr ⟨gt6_4_5, fun _ h => absurd h List.not_mem_nil⟩⟩⟩
theorem gt5_0_1 : GoodN (ip S5 59) aeL forT forB forO endL 2 (q01 [20, 21] 5) := ⟨[(q01 [20, 21] 6), (q01 [20, 21, 25] 6)], t5_0_1, List.forall_mem_cons.mpr ⟨gt6_0_1, List.forall_mem_cons.mpr ⟨gt6_0_1_5, fun _ h => absurd h List.not_mem_nil⟩⟩⟩
theorem gt5_0_2 : GoodN (ip S5 59) aeL forT forB forO endL 2 (q01 [20, 22] 5) := ⟨[(q01 [20, 22] 6), (q01 [20, 22, 25] 6)], t5_0_2, List.forall_mem_cons.mpr ⟨gt6_0_2, List.forall_mem_cons.mpr ⟨gt6_0_2_5, fun _ h => absurd h List.not_mem_nil⟩⟩⟩
theorem gt5_0_3 : GoodN (ip S5 59) aeL forT forB forO endL 2 (q01 [20, 23] 5) := ⟨[(q01 [20, 23] 6), (q01 [20, 23, 25] 6)], t5_0_3, List.forall_mem_cons.mpr ⟨gt6_0_3, List.forall_mem_cons.mpr ⟨gt6_0_3_5, fun _ h => absurd h List.not_mem_nil⟩⟩⟩
theorem gt5_0_4 : GoodN (ip S5 59) aeL forT forB forO endL 2 (q01 [20, 24] 5) := ⟨[(q01 [20, 24] 6), (q01 [20, 24, 25] 6)], t5_0_4, List.forall_mem_cons.mpr ⟨gt6_0_4, List.forall_mem_cons.mpr ⟨gt6_0_4_5, fun _ h => absurd h List.not_mem_nil⟩⟩⟩
theorem gt5_1_2 : GoodN (ip S5 59) aeL forT forB forO endL 2 (q01 [21, 22] 5) := ⟨[(q01 [21, 22] 6), (q01 [21, 22, 25] 6)], t5_1_2, List.forall_mem_cons.mpr ⟨gt6_1_2, List.forall_mem_cons.mpr ⟨gt6_1_2_5, fun _ h => absurd h List.not_mem_nil⟩⟩⟩
theorem gt5_1_3 : GoodN (ip S5 59) aeL forT forB forO endL 2 (q01 [21, 23] 5) := ⟨[(q01 [21, 23] 6), (q01 [21, 23, 25] 6)], t5_1_3, List.forall_mem_cons.mpr ⟨gt6_1_3, List.forall_mem_cons.mpr ⟨gt6_1_3_5, fun _ h => absurd h List.not_mem_nil⟩⟩⟩
theorem gt5_1_4 : GoodN (ip S5 59) aeL forT forB forO endL 2 (q01 [21, 24] 5) := ⟨[(q01 [21, 24] 6), (q01 [21, 24, 25] 6)], t5_1_4, List.forall_mem_cons.mpr ⟨gt6_1_4, List.forall_mem_cons.mpr ⟨gt6_1_4_5, fun _ h => absurd h List.not_mem_nil⟩⟩⟩
theorem gt5_2_3 : GoodN (ip S5 59) aeL forT forB forO endL 2 (q01 [22, 23] 5) := ⟨[(q01 [22, 23] 6), (q01 [22, 23, 25] 6)], t5_2_3, List.forall_mem_cons.mpr ⟨gt6_2_3, List.forall_mem_cons.mpr ⟨gt6_2_3_5, fun _ h => absurd h List.not_mem_nil⟩⟩⟩
theorem gt5_2_4 : GoodN (ip S5 59) aeL forT forB forO endL 2 (q01 [22, 24] 5) := ⟨[(q01 [22, 24] 6), (q01 [22, 24, 25] 6)], t5_2_4, List.forall_mem_cons.mpr ⟨gt6_2_4, List.forall_mem_cons.mpr ⟨gt6_2_4_5, fun _ h => absurd h List.not_mem_nil⟩⟩⟩
theorem gt5_3_4 : GoodN (ip S5 59) aeL forT forB forO endL 2 (q01 [23, 24] 5) := ⟨[(q01 [23, 24] 6), (q01 [23, 24, 25] 6)], t5_3_4, List.forall_mem_cons.mpr ⟨gt6_3_4, List.forall_mem_cons.mpr ⟨gt6_3_4_5, fun _ h => absurd h List.not_mem_nil⟩⟩⟩
theorem gt5_0_1_2 : GoodN (ip S5 59) aeL forT forB forO endL 2 (q01 [20, 21, 22] 5) := ⟨[(q01 [20, 21, 22] 6)], t5_0_1_2, List.forall_mem_cons.mpr ⟨gt6_0_1_2, fun _ h => absurd h List.not_mem_nil⟩⟩
theorem gt5_0_1_3 : GoodN (ip S5 59) aeL forT forB forO endL 2 (q01 [20, 21, 23] 5) := ⟨[(q01 [20, 21, 23] 6)], t5_0_1_3, List.forall_mem_cons.mpr ⟨gt6_0_1_3, fun _ h => absurd h List.not_mem_nil⟩⟩
theorem gt5_0_1_4 : GoodN (ip S5 59) aeL forT forB forO endL 2 (q01 [20, 21, 24] 5) := ⟨[(q01 [20, 21, 24] 6)], t5_0_1_4, List.forall_mem_cons.mpr ⟨gt6_0_1_4, fun _ h => absurd h List.not_mem_nil⟩⟩
theorem gt5_0_2_3 : GoodN (ip S5 59) aeL forT forB forO endL 2 (q01 [20, 22, 23] 5) := ⟨[(q01 [20, 22, 23] 6)], t5_0_2_3, List.forall_mem_cons.mpr ⟨gt6_0_2_3, fun _ h => absurd h List.not_mem_nil⟩⟩
theorem gt5_0_2_4 : GoodN (ip S5 59) aeL forT forB forO endL 2 (q01 [20, 22, 24] 5) := ⟨[(q01 [20, 22, 24] 6)], t5_0_2_4, List.forall_mem_cons.mpr ⟨gt6_0_2_4, fun _ h => absurd h List.not_mem_nil⟩⟩
theorem gt5_0_3_4 : GoodN (ip S5 59) aeL forT forB forO endL 2 (q01 [20, 23, 24] 5) := ⟨[(q01 [20, 23, 24] 6)], t5_0_3_4, List.forall_mem_cons.mpr ⟨gt6_0_3_4, fun _ h => absurd h List.not_mem_nil⟩⟩
theorem gt5_1_2_3 : GoodN (ip S5 59) aeL forT forB forO endL 2 (q01 [21, 22, 23] 5) := ⟨[(q01 [21, 22, 23] 6)], t5_1_2_3, List.forall_mem_cons.mpr ⟨gt6_1_2_3, fun _ h => absurd h List.not_mem_nil⟩⟩
theorem gt5_1_2_4 : GoodN (ip S5 59) aeL forT forB forO endL 2 (q01 [21, 22, 24] 5) := ⟨[(q01 [21, 22, 24] 6)], t5_1_2_4, List.forall_mem_cons.mpr ⟨gt6_1_2_4, fun _ h => absurd h List.not_mem_nil⟩⟩
theorem gt5_1_3_4 : GoodN (ip S5 59) aeL forT forB forO endL 2 (q01 [21, 23, 24] 5) := ⟨[(q01 [21, 23, 24] 6)], t5_1_3_4, List.forall_mem_cons.mpr ⟨gt6_1_3_4, fun _ h => absurd h List.not_mem_nil⟩⟩
theorem gt5_2_3_4 : GoodN (ip S5 59) aeL forT forB forO endL 2 (q01 [22, 23, 24] 5) := ⟨[(q01 [22, 23, 24] 6)], t5_2_3_4, List.forall_mem_cons.mpr ⟨gt6_2_3_4, fun _ h => absurd h List.not_mem_nil⟩⟩
theorem gt4 : GoodN (ip S5 59) aeL forT forB forO endL 3 (q01 [] 4) := ⟨[(q01 [] 5), (q01 [24] 5)], t4, List.forall_mem_cons.mpr ⟨gt5, List.forall_mem_cons.mpr ⟨gt5_4, fun _ h => absurd h List.not_mem_nil⟩⟩⟩
theorem gt4_0 : GoodN (ip S5 59) aeL forT forB forO endL 3 (q01 [20] 4) := ⟨[(q01 [20] 5), (q01 [20, 24] 5)], t4_0, List.forall_mem_cons.mpr ⟨gt5_0, List.forall_mem_cons.mpr ⟨gt5_0_4, fun _ h => absurd h List.not_mem_nil⟩⟩⟩
theorem gt4_1 : GoodN (ip S5 59) aeL forT forB forO endL 3 (q01 [21] 4) := ⟨[(q01 [21] 5), (q01 [21, 24] 5)], t4_1, List.forall_mem_cons.mpr ⟨gt5_1, List.forall_mem_cons.mpr ⟨gt5_1_4, fun _ h => absurd h List.not_mem_nil⟩⟩⟩
theorem gt4_2 : GoodN (ip S5 59) aeL forT forB forO endL 3 (q01 [22] 4) := ⟨[(q01 [22] 5), (q01 [22, 24] 5)], t4_2, List.forall_mem_cons.mpr ⟨gt5_2, List.forall_mem_cons.mpr ⟨gt5_2_4, fun _ h => absurd h List.not_mem_nil⟩⟩⟩
theorem gt4_3 : GoodN (ip S5 59) aeL forT forB forO endL 3 (q01 [23] 4) := ⟨[(q01 [23] 5), (q01 [23, 24] 5)], t4_3, List.forall_mem_cons.mpr ⟨gt5_3, List.forall_mem_cons.mpr ⟨gt5_3_4, fun _ h => absurd h List.not_mem_nil⟩⟩⟩
theorem gt4_0_1 : GoodN (ip S5 59) aeL forT forB forO endL 3 (q01 [20, 21] 4) := ⟨[(q01 [20, 21] 5), (q01 [20, 21, 24] 5)], t4_0_1, List.forall_mem_cons.mpr ⟨gt5_0_1, List.forall_mem_cons.mpr ⟨gt5_0_1_4, fun _ h => absurd h List.not_mem_nil⟩⟩⟩
theorem gt4_0_2 : GoodN (ip S5 59) aeL forT forB forO endL 3 (q01 [20, 22] 4) := ⟨[(q01 [20, 22] 5), (q01 [20, 22, 24] 5)], t4_0_2, List.forall_mem_cons.mpr ⟨gt5_0_2, List.forall_mem_cons.mpr ⟨gt5_0_2_4, fun _ h => absurd h List.not_mem_nil⟩⟩⟩
theorem gt4_0_3 : GoodN (ip S5 59) aeL forT forB forO endL 3 (q01 [20, 23] 4) := ⟨[(q01 [20, 23] 5), (q01 [20, 23, 24] 5)], t4_0_3, List.forall_mem_cons.mpr ⟨gt5_0_3, List.forall_mem_cons.mpr ⟨gt5_0_3_4, fun _ h => absurd h List.not_mem_nil⟩⟩⟩
theorem gt4_1_2 : GoodN (ip S5 59) aeL forT forB forO endL 3 (q01 [21, 22] 4) := ⟨[(q01 [21, 22] 5), (q01 [21, 22, 24] 5)], t4_1_2, List.forall_mem_cons.mpr ⟨gt5_1_2, List.forall_mem_cons.mpr ⟨gt5_1_2_4, fun _ h => absurd h List.not_mem_nil⟩⟩⟩
theorem gt4_1_3 : GoodN (ip S5 59) aeL forT forB forO endL 3 (q01 [21, 23] 4) := ⟨[(q01 [21, 23] 5), (q01 [21, 23, 24] 5)], t4_1_3, List.forall_mem_cons.mpr ⟨gt5_1_3, List.forall_mem_cons.mpr ⟨gt5_1_3_4, fun _ h => absurd h List.not_mem_nil⟩⟩⟩
theorem gt4_2_3 : GoodN (ip S5 59) aeL forT forB forO endL 3 (q01 [22, 23] 4) := ⟨[(q01 [22, 23] 5), (q01 [22, 23, 24] 5)], t4_2_3, List.forall_mem_cons.mpr ⟨gt5_2_3, List.forall_mem_cons.mpr ⟨gt5_2_3_4, fun _ h => absurd h List.not_mem_nil⟩⟩⟩
theorem gt4_0_1_2 : GoodN (ip S5 59) aeL forT forB forO endL 3 (q01 [20, 21, 22] 4) := ⟨[(q01 [20, 21, 22] 5)], t4_0_1_2, List.forall_mem_cons.mpr ⟨gt5_0_1_2, fun _ h => absurd h List.not_mem_nil⟩⟩
theorem gt4_0_1_3 : GoodN (ip S5 59) aeL forT forB forO endL 3 (q01 [20, 21, 23] 4) := ⟨[(q01 [20, 21, 23] 5)], t4_0_1_3, List.forall_mem_cons.mpr ⟨gt5_0_1_3, fun _ h => absurd h List.not_mem_nil⟩⟩
theorem gt4_0_2_3 : GoodN (ip S5 59) aeL forT forB forO endL 3 (q01 [20, 22, 23] 4) := ⟨[(q01 [20, 22, 23] 5)], t4_0_2_3, List.forall_mem_cons.mpr ⟨gt5_0_2_3, fun _ h => absurd h List.not_mem_nil⟩⟩
theorem gt4_1_2_3 : GoodN (ip S5 59) aeL forT forB forO endL 3 (q01 [21, 22, 23] 4) := ⟨[(q01 [21, 22, 23] 5)], t4_1_2_3, List.forall_mem_cons.mpr ⟨gt5_1_2_3, fun _ h => absurd h List.not_mem_nil⟩⟩
theorem gt3 : GoodN (ip S5 59) aeL forT forB forO endL 4 (q01 [] 3) := ⟨[(q01 [] 4), (q01 [23] 4)], t3, List.forall_mem_cons.mpr ⟨gt4, List.forall_mem_cons.mpr ⟨gt4_3, fun _ h => absurd h List.not_mem_nil⟩⟩⟩
theorem gt3_0 : GoodN (ip S5 59) aeL forT forB forO endL 4 (q01 [20] 3) := ⟨[(q01 [20] 4), (q01 [20, 23] 4)], t3_0, List.forall_mem_cons.mpr ⟨gt4_0, List.forall_mem_cons.mpr ⟨gt4_0_3, fun _ h => absurd h List.not_mem_nil⟩⟩⟩
theorem gt3_1 : GoodN (ip S5 59) aeL forT forB forO endL 4 (q01 [21] 3) := ⟨[(q01 [21] 4), (q01 [21, 23] 4)], t3_1, List.forall_mem_cons.mpr ⟨gt4_1, List.forall_mem_cons.mpr ⟨gt4_1_3, fun _ h => absurd h List.not_mem_nil⟩⟩⟩
theorem gt3_2 : GoodN (ip S5 59) aeL forT forB forO endL 4 (q01 [22] 3) := ⟨[(q01 [22] 4), (q01 [22, 23] 4)], t3_2, List.forall_mem_cons.mpr ⟨gt4_2, List.forall_mem_cons.mpr ⟨gt4_2_3, fun _ h => absurd h List.not_mem_nil⟩⟩⟩
theorem gt3_0_1 : GoodN (ip S5 59) aeL forT forB forO endL 4 (q01 [20, 21] 3) := ⟨[(q01 [20, 21] 4), (q01 [20, 21, 23] 4)], t3_0_1, List.forall_mem_cons.mpr ⟨gt4_0_1, List.forall_mem_cons.mpr ⟨gt4_0_1_3, fun _ h => absurd h List.not_mem_nil⟩⟩⟩
theorem gt3_0_2 : GoodN (ip S5 59) aeL forT forB forO endL 4 (q01 [20, 22] 3) := ⟨[(q01 [20, 22] 4), (q01 [20, 22, 23] 4)], t3_0_2, List.forall_mem_cons.mpr ⟨gt4_0_2, List.forall_mem_cons.mpr ⟨gt4_0_2_3, fun _ h => absurd h List.not_mem_nil⟩⟩⟩
theorem gt3_1_2 : GoodN (ip S5 59) aeL forT forB forO endL 4 (q01 [21, 22] 3) := ⟨[(q01 [21, 22] 4), (q01 [21, 22, 23] 4)], t3_1_2, List.forall_mem_cons.mpr ⟨gt4_1_2, List.forall_mem_cons.mpr ⟨gt4_1_2_3, fun _ h => absurd h List.not_mem_nil⟩⟩⟩
theorem gt3_0_1_2 : GoodN (ip S5 59) aeL forT forB forO endL 4 (q01 [20, 21, 22] 3) := ⟨[(q01 [20, 21, 22] 4)], t3_0_1_2, List.forall_mem_cons.mpr ⟨gt4_0_1_2, fun _ h => absurd h List.not_mem_nil⟩⟩
theorem gt2 : GoodN (ip S5 59) aeL forT forB forO endL 5 (q01 [] 2) := ⟨[(q01 [] 3), (q01 [22] 3)], t2, List.forall_mem_cons.mpr ⟨gt3, List.forall_mem_cons.mpr ⟨gt3_2, fun _ h => absurd h List.not_mem_nil⟩⟩⟩
theorem gt2_0 : GoodN (ip S5 59) aeL forT forB forO endL 5 (q01 [20] 2) := ⟨[(q01 [20] 3), (q01 [20, 22] 3)], t2_0, List.forall_mem_cons.mpr ⟨gt3_0, List.forall_mem_cons.mpr ⟨gt3_0_2, fun _ h => absurd h List.not_mem_nil⟩⟩⟩
theorem gt2_1 : GoodN (ip S5 59) aeL forT forB forO endL 5 (q01 [21] 2) := ⟨[(q01 [21] 3), (q01 [21, 22] 3)], t2_1, List.forall_mem_cons.mpr ⟨gt3_1, List.forall_mem_cons.mpr ⟨gt3_1_2, fun _ h => absurd h List.not_mem_nil⟩⟩⟩
theorem gt2_0_1 : GoodN (ip S5 59) aeL forT forB forO endL 5 (q01 [20, 21] 2) := ⟨[(q01 [20, 21] 3), (q01 [20, 21, 22] 3)], t2_0_1, List.forall_mem_cons.mpr ⟨gt3_0_1, List.forall_mem_cons.mpr ⟨gt3_0_1_2, fun _ h => absurd h List.not_mem_nil⟩⟩⟩
theorem gt1 : GoodN (ip S5 59) aeL forT forB forO endL 6 (q01 [] 1) := ⟨[(q01 [] 2), (q01 [21] 2)], t1, List.forall_mem_cons.mpr ⟨gt2, List.forall_mem_cons.mpr ⟨gt2_1, fun _ h => absurd h List.not_mem_nil⟩⟩⟩
theorem gt1_0 : GoodN (ip S5 59) aeL forT forB forO endL 6 (q01 [20] 1) := ⟨[(q01 [20] 2), (q01 [20, 21] 2)], t1_0, List.forall_mem_cons.mpr ⟨gt2_0, List.forall_mem_cons.mpr ⟨gt2_0_1, fun _ h => absurd h List.not_mem_nil⟩⟩⟩
theorem gt0 : GoodN (ip S5 59) aeL forT forB forO endL 7 (q01 [] 0) := ⟨[(q01 [] 1), (q01 [20] 1)], t0, List.forall_mem_cons.mpr ⟨gt1, List.forall_mem_cons.mpr ⟨gt1_0, fun _ h => absurd h List.not_mem_nil⟩⟩⟩
set_option maxHeartbeats 0 in
theorem run1 : ∀ (w : World) (os : OsState), (runT prog w 13100 os).map (fun r => staticsOk (importedModules prog.main.body) (boot_heap w.params) r.abs.heap && gensDone r.abs && laidKept (boot_heap w.params) r.abs.heap) = some true := by
  intro w os
  kernel_rfl
set_option maxHeartbeats 0 in
theorem run2 : ∀ (w : World) (os : OsState), (runT prog w 13100 os).map (fun r => (namesBound prog r.abs.heap, PySem.W.Fast.tw4187177175401517315 (lastOf prog) (looseOf prog "law") (importedModules prog.main.body) (fun _ => true) true r.abs)) = some (true, openGood (lastOf prog) (looseOf prog "law")) := by
  intro w os
  kernel_rfl
set_option maxHeartbeats 0 in
theorem run3 : ∀ (w : World) (os : OsState), (runT prog w 13100 os).map (fun r => (envB (kOf r objAddrs) desc, fnLook (kOf r objAddrs) desc)) = some (true, fnTab desc) := by
  intro w os
  kernel_rfl
set_option maxHeartbeats 0 in
theorem lookOk : PySem.W.Fast.tw12908688711261696721 PySem.Challenge.pw_xw0359_01 = true := by
  (delta PySem.W.Fast.tw12908688711261696721)
  iterate 8 (all_goals (try with_reducible refine and_intro ?_ ?_))
  all_goals (decide +kernel)
set_option maxHeartbeats 0 in
theorem partOk : PySem.W.Fast.tw2436336058641802641 (PySem.W.Fast.tw2368527892694137696 PySem.Challenge.rw_xw0359_01) = true := by
  (delta PySem.W.Fast.tw2436336058641802641)
  iterate 16 (all_goals (try with_reducible refine and_intro ?_ ?_))
  · exact lookOk
  all_goals (decide +kernel)
set_option maxHeartbeats 0 in
theorem wellOk : OpenLaw.wellSaid PySem.Challenge.rw_xw0359_01 = true := by
  rw [PySem.W.Fast.te9446332074065402090]
  (delta PySem.W.Fast.tw9446332074065402090)
  iterate 22 (all_goals (try with_reducible refine and_intro ?_ ?_))
  · (delta PySem.W.Fast.tw17960256430627541270)
    refine and_intro (and_intro partOk ?_) ?_
    · decide +kernel
    · decide +kernel
  all_goals (decide +kernel)
theorem endOk (w : World) : ∃ r : SharedT, openEnds treeTable prog w 13100 = some r.abs ∧ openSeen (lastOf prog) (looseOf prog "law") (importedModules prog.main.body) (fun _ => true) true r.abs = openGood (lastOf prog) (looseOf prog "law") ∧ envB (kOf r objAddrs) desc = true ∧ fnLook (kOf r objAddrs) desc = fnTab desc :=
  left_of_runL (by kernel_rfl) (fun s => by kernel_rfl) (by decide) (fun P => by kernel_rfl) run1 run2 run3 w
theorem smallOk : smallB desc = true := by kernel_rfl
theorem txtOk : (desc.fns.all txtB) = true := by kernel_rfl
theorem lawAt : S0.fn.get 1969 = some lawD.r := by kernel_rfl
theorem lawGl : lk (Str.ofString "law") S0.gl = some (.top 1969) := by kernel_rfl
theorem lawPs : lawD.r.ps = [sScript] := by kernel_rfl
end Mine
open PySem PySem.W PySem.W.X PySem.Calls PyProof.Rows Mine
set_option maxRecDepth 100000 in
set_option maxHeartbeats 0 in
theorem PySem.Challenge.cw_xw0359_01_holds : PySem.Challenge.rw_xw0359_01.Holds := by
  w_on
  refine holds_law wellOk fun said => ?_
  refine holds_openX' (q := lastOf prog) (loose := looseOf prog "law") (Xt := fun _ => true) (XP := fun _ _ => True) (Yf := fun s => s.heap) (Ya := endHeap prog 13100) (N := 13100) (leftO_of_run endOk) (fun _ _ => trivial) (fun _ _ _ h _ => h) (by rfl) (by rfl) (by rfl) (fun _ _ => recFacts_nil rfl) (by rfl) (by first | assumption | decide +kernel) (by decide +kernel) ⟨rfl, rfl, rfl, rfl, rfl, by decide +kernel⟩ ?hw ?hc
  case hw => w_witness2
  k_fill
  intro w s₀ s₁ mg mb G y fa o pm cd doc dV kV ho hd hcd hD hmg hg args vals as L hpre hlay hrd hwl hlo
  clear hd hcd hD
  obtain ⟨r, hr1, hr2, hr3⟩ := end_good endOk w
  have GE0 : EnvOK w (w.params.strHash, s₁.os) (kOf r objAddrs) S0 := envOK_of hr2 smallOk txtOk hr3 w s₁.os
  have GE : EnvOK w (w.params.strHash, s₁.os) (kOf r objAddrs) S5 := (((((GE0.told (a := 1929) (by decide) con0).told (a := 1936) (by decide) con1).told (a := 1936) (by decide) con2).told (a := 1936) (by decide) con3).told (a := 1936) (by decide) con4)
  have X0 : (kOf r objAddrs).In s₀.heap := by
    have y : s₀.heap = endHeap prog 13100 w := y
    rw [y, hr1]; exact kOf_in r objAddrs
  have X : (kOf r objAddrs).In s₁.heap := X0.keeps L.keeps
  have hfa : fa = 1969 := by
    obtain ⟨c, e1, e2⟩ := GE0.G.gl _ _ lawGl
    cases e2
    have := mg_of X G.T.g e1
    have h2 : mg (Str.ofString "law") = some (.ref fa) := hmg
    rw [h2] at this
    cases this; rfl
  subst hfa
  have T := G.T
  have hF := GE0.F.fn 1969 _ lawAt
  wrow_args hpre hlay hrd hwl hlo
  refine law_endsG GE X T hg hF lawPs rfl (by decide) (by assumption) (by assumption) (by omega) preOk (law_for (n := 59) (N := 7) GE bodyEq (List.forall_mem_cons.mpr ⟨gt0, fun _ h => absurd h List.not_mem_nil⟩)) ?_ ?_
  · first
      | exact fun e => rfl
      | exact raisesW_false (by wrow_none_raised)
      | (intro e; cases e <;> rfl)
  · first
      | rfl
      | decide
      | exact postW_of (by wrow_shape) (by wtm_val) (by first | done | w_fin)

