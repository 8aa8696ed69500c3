import PyProof.Rows.All
import Wide.All
import OpenK.AllK
import Wide.FinOn
import HandS.ForMost
import HandS.ForExc
import HandS.Wide
import HandS.IsInst
import KE.OsArith
import KE.BitLaws
import PySem.Challenge.RW_traitlattice_k33_whole_gaps
set_option Elab.async false
set_option linter.all false
set_option maxRecDepth 100000
set_option maxHeartbeats 4000000
/-! ## DLa.lean -/
/-! A layer of data over the hand layer: slots hold data, lists of one's own may change, the rest stands. -/
namespace DL
open PySem PySem.Spec PyProof.Rows L2
abbrev Frag := PySem.W.Frag

/-- data: what a value means. mt: a list of one's own whose items stand; mm: one whose items may be one's own; mo: an instance of one's own; dc: a dict of one's own; ptr i: what slot i holds -/
inductive D where
  | non | bl (b : Bool) | int (i : Int) | str (s : Str)
  | lst (xs : List D) | tup (xs : List D) | scr (xs : List D)
  | obj (C : Addr) (fs : List (Str × D)) | ty (n : String) | cls (C : Addr)
  | mt (xs : List D) | mm (xs : List D) | mo (C : Addr) (fs : List (Str × D))
  | dc (kvs : List (Key × V))
  | ptr (i : Nat)
  | «at» (a : Addr)
abbrev Env := List (Option D)

/-- data that stands in F -/
inductive Rep (K : Frag) (F : Hp) : V → D → Prop
  | non : Rep K F .non .non
  | bl (b : Bool) : Rep K F (.bl b) (.bl b)
  | int (i : Int) : Rep K F (.int i) (.int i)
  | str (s : Str) : Rep K F (.str s) (.str s)
  | ty (n : String) : Rep K F (.ty n) (.ty n)
  | cls (C : Addr) : Rep K F (.ref C) (.cls C)
  | «at» (a : Addr) : Rep K F (.ref a) (.at a)
  | lst {a : Addr} {vs : List V} {ds : List D} (h : F a = some (.lst vs)) (l : vs.length = ds.length) (r : ∀ (i : Nat) v d, vs[i]? = some v → ds[i]? = some d → Rep K F v d) : Rep K F (.ref a) (.lst ds)
  | scr {a : Addr} {vs : List V} {ds : List D} (h : SqL K F a vs) (l : vs.length = ds.length) (r : ∀ (i : Nat) v d, vs[i]? = some v → ds[i]? = some d → Rep K F v d) : Rep K F (.ref a) (.scr ds)
  | tup {a : Addr} {vs : List V} {ds : List D} (h : SqT K F a vs) (l : vs.length = ds.length) (r : ∀ (i : Nat) v d, vs[i]? = some v → ds[i]? = some d → Rep K F v d) : Rep K F (.ref a) (.tup ds)
  | obj {a C dx : Addr} {vs : List (Str × V)} {fs : List (Str × D)} (h : F a = some (.ins C dx vs)) (l : vs.map (·.1) = fs.map (·.1)) (r : ∀ (i : Nat) v d, vs[i]? = some v → fs[i]? = some d → Rep K F v.2 d.2) : Rep K F (.ref a) (.obj C fs)

theorem seqT_same {K : Frag} {H H' : Hp} {a : Addr} {xs : List V} (e : Same H H') (h : SqT K H a xs) : SqT K H' a xs := by
  rcases h with (h | ⟨o, h⟩) | h
  · exact .inl (.inl (e _ _ h))
  · exact .inl (.inr ⟨o, e _ _ h⟩)
  · exact .inr h

theorem Rep.mono {K : Frag} {F F' : Hp} (e : Same F F') {v : V} {d : D} (h : Rep K F v d) : Rep K F' v d := by
  induction h with
  | non => exact .non
  | bl b => exact .bl b
  | int i => exact .int i
  | str s => exact .str s
  | ty s => exact .ty s
  | cls s => exact .cls s
  | «at» v => exact .at v
  | lst h l _ ih => exact .lst (e _ _ h) l ih
  | scr h l _ ih => exact .scr (e.seq h) l ih
  | tup h l _ ih => exact .tup (seqT_same e h) l ih
  | obj h l _ ih => exact .obj (e _ _ h) l ih

/-- data that stands in F, or is one's own in H, on the footprint S -/
inductive Own (K : Frag) (F H : Hp) : V → D → (Addr → Prop) → Prop
  | frz {v : V} {d : D} {S : Addr → Prop} (h : Rep K F v d) : Own K F H v d S
  | mt {a : Addr} {vs : List V} {ds : List D} {S : Addr → Prop} (ha : S a) (h : H a = some (.lst vs)) (l : vs.length = ds.length)
      (r : ∀ (i : Nat) v d, vs[i]? = some v → ds[i]? = some d → Rep K F v d) : Own K F H (.ref a) (.mt ds) S
  | mm {a : Addr} {vs : List V} {ds : List D} {S : Addr → Prop} (Sc : Nat → Addr → Prop) (ha : S a) (h : H a = some (.lst vs)) (l : vs.length = ds.length)
      (r : ∀ (i : Nat) v d, vs[i]? = some v → ds[i]? = some d → Own K F H v d (Sc i)) (sub : ∀ i b, Sc i b → S b ∧ b ≠ a) (dis : ∀ i j b, Sc i b → Sc j b → i = j) : Own K F H (.ref a) (.mm ds) S
  | mo {a C dx : Addr} {vs : List (Str × V)} {fs : List (Str × D)} {S : Addr → Prop} (Sc : Nat → Addr → Prop) (ha : S a) (h : H a = some (.ins C dx vs)) (l : vs.map (·.1) = fs.map (·.1))
      (r : ∀ (i : Nat) v d, vs[i]? = some v → fs[i]? = some d → Own K F H v.2 d.2 (Sc i)) (sub : ∀ i b, Sc i b → S b ∧ b ≠ a) (dis : ∀ i j b, Sc i b → Sc j b → i = j) : Own K F H (.ref a) (.mo C fs) S
  | dc {a : Addr} {kvs : List (Key × V)} {S : Addr → Prop} (ha : S a) (h : H a = some (.dK kvs)) (fl : ∀ p ∈ kvs, flatV p.2 = true) : Own K F H (.ref a) (.dc kvs) S

theorem Own.wide {K : Frag} {F H : Hp} {v : V} {d : D} {S S' : Addr → Prop} (h : Own K F H v d S) (e : ∀ a, S a → S' a) : Own K F H v d S' := by
  cases h with
  | frz h => exact .frz h
  | mt ha h l r => exact .mt (e _ ha) h l r
  | mm Sc ha h l r sub dis => exact .mm Sc (e _ ha) h l r (fun i b q => ⟨e _ (sub i b q).1, (sub i b q).2⟩) dis
  | mo Sc ha h l r sub dis => exact .mo Sc (e _ ha) h l r (fun i b q => ⟨e _ (sub i b q).1, (sub i b q).2⟩) dis
  | dc ha h fl => exact .dc (e _ ha) h fl

theorem Own.stay {K : Frag} {F H F' H' : Hp} (e : Same F F') {v : V} {d : D} {S : Addr → Prop} (h : Own K F H v d S) (k : ∀ a o, S a → H a = some o → H' a = some o) : Own K F' H' v d S := by
  induction h with
  | frz h => exact .frz (h.mono e)
  | mt ha h l r => exact .mt ha (k _ _ ha h) l fun i v d q1 q2 => (r i v d q1 q2).mono e
  | mm Sc ha h l r sub dis ih => exact .mm Sc ha (k _ _ ha h) l (fun i v d q1 q2 => ih i v d q1 q2 fun a o s q => k a o (sub i a s).1 q) sub dis
  | mo Sc ha h l r sub dis ih => exact .mo Sc ha (k _ _ ha h) l (fun i v d q1 q2 => ih i v d q1 q2 fun a o s q => k a o (sub i a s).1 q) sub dis
  | dc ha h fl => exact .dc ha (k _ _ ha h) fl

/-- frozen, all the way down -/
inductive Frz : D → D → Prop
  | mt (xs : List D) : Frz (.mt xs) (.lst xs)
  | mm (xs ys : List D) (l : xs.length = ys.length) (r : ∀ (i : Nat) x y, xs[i]? = some x → ys[i]? = some y → Frz x y) : Frz (.mm xs) (.lst ys)
  | mo (C : Addr) (fs gs : List (Str × D)) (l : fs.map (·.1) = gs.map (·.1)) (r : ∀ (i : Nat) x y, fs[i]? = some x → gs[i]? = some y → Frz x.2 y.2) : Frz (.mo C fs) (.obj C gs)
  | non : Frz .non .non
  | bl b : Frz (.bl b) (.bl b)
  | int i : Frz (.int i) (.int i)
  | str s : Frz (.str s) (.str s)
  | ty s : Frz (.ty s) (.ty s)
  | cls s : Frz (.cls s) (.cls s)
  | «at» v : Frz (.at v) (.at v)
  | lst xs : Frz (.lst xs) (.lst xs)
  | tup xs : Frz (.tup xs) (.tup xs)
  | scr xs : Frz (.scr xs) (.scr xs)
  | obj C fs : Frz (.obj C fs) (.obj C fs)
theorem Own.rep {K : Frag} {F H F' : Hp} (e : Same F F') {v : V} {d d' : D} {S : Addr → Prop} (h : Own K F H v d S) (k : ∀ a o, S a → H a = some o → F' a = some o) (z : Frz d d') : Rep K F' v d' := by
  induction h generalizing d' with
  | frz h => cases z <;> first | exact h.mono e | cases h
  | mt ha h l r => cases z; exact .lst (k _ _ ha h) l fun i v d q1 q2 => (r i v d q1 q2).mono e
  | mm Sc ha h l r sub dis ih =>
    cases z with
    | mm _ ys l2 r2 =>
      refine .lst (k _ _ ha h) (l.trans l2) fun i v d q1 q2 => ?_
      have hi : i < _ := (List.getElem?_eq_some_iff.mp q2).1
      rw [← l2] at hi
      exact ih i v _ q1 (List.getElem?_eq_getElem hi) (fun a o s q => k a o (sub i a s).1 q) (r2 i _ _ (List.getElem?_eq_getElem hi) q2)
  | mo Sc ha h l r sub dis ih =>
    cases z with
    | mo _ _ gs l2 r2 =>
      refine .obj (k _ _ ha h) (l.trans l2) fun i v d q1 q2 => ?_
      have hi : i < _ := (List.getElem?_eq_some_iff.mp q2).1
      have hl := congrArg List.length l2
      rw [List.length_map, List.length_map] at hl
      rw [← hl] at hi
      exact ih i v _ q1 (List.getElem?_eq_getElem hi) (fun a o s q => k a o (sub i a s).1 q) (r2 i _ _ (List.getElem?_eq_getElem hi) q2)
  | dc ha h fl => cases z
/-- the frozen form, by reckoning -/
def frz1 : D → D
  | .mt xs => .lst xs
  | d => d
def isF1 : D → Bool
  | .mm _ => false
  | .mo _ _ => false
  | .dc _ => false
  | .ptr _ => false
  | _ => true
def frz : D → D
  | .mt xs => .lst xs
  | .mm xs => .lst (xs.map frz1)
  | d => d
def isF : D → Bool
  | .mm xs => xs.all isF1
  | .mo _ _ => false
  | .dc _ => false
  | .ptr _ => false
  | _ => true
theorem Frz.of1 {d : D} (h : isF1 d = true) : Frz d (frz1 d) := by
  cases d with
  | non => exact .non
  | bl b => exact .bl b
  | int b => exact .int b
  | str b => exact .str b
  | ty b => exact .ty b
  | cls b => exact .cls b
  | lst b => exact .lst b
  | tup b => exact .tup b
  | scr b => exact .scr b
  | obj C b => exact .obj C b
  | mt b => exact .mt b
  | mm b => exact nomatch h
  | mo C b => exact nomatch h
  | dc b => exact nomatch h
  | ptr b => exact nomatch h
  | «at» b => exact .at b
theorem Frz.of {d : D} (h : isF d = true) : Frz d (frz d) := by
  cases d with
  | mm b =>
    refine .mm b _ (by rw [List.length_map]) fun i x y h1 h2 => ?_
    rw [List.getElem?_map, h1] at h2
    cases h2
    exact Frz.of1 (List.all_eq_true.mp h x (List.mem_of_getElem? h1))
  | mo C b => exact nomatch h
  | dc b => exact nomatch h
  | ptr b => exact nomatch h
  | «at» b => exact .at b
  | non => exact .non
  | bl b => exact .bl b
  | int b => exact .int b
  | str b => exact .str b
  | ty b => exact .ty b
  | cls b => exact .cls b
  | lst b => exact .lst b
  | tup b => exact .tup b
  | scr b => exact .scr b
  | obj C b => exact .obj C b
  | mt b => exact .mt b
/-- stands already -/
def isR : D → Bool
  | .mt _ => false
  | .mm _ => false
  | .mo _ _ => false
  | .dc _ => false
  | .ptr _ => false
  | _ => true
theorem Own.toRep {K : Frag} {F H : Hp} {v : V} {d : D} {S : Addr → Prop} (h : Own K F H v d S) (z : isR d = true) : Rep K F v d := by
  cases h with
  | frz h => exact h
  | mt => cases z
  | mm => cases z
  | mo => cases z
  | dc => cases z
theorem Rep.isR {K : Frag} {F : Hp} {v : V} {d : D} (h : Rep K F v d) : isR d = true := by
  cases h <;> rfl

/-! ### the state -/
/-- a call's entry: what stood (F), all that was tracked (H), what one may change (A), through which slots (own); slots that keep their values (pins) -/
structure Base where
  F : Hp
  H : Hp
  A : Nat → Addr → Prop
  own : List Nat
  pins : List (Nat × V)
abbrev Fam := Nat ⊕ Nat → Addr → Prop
structure RelF (K : Frag) (B : Base) (F : Hp) (U : Fam) (env : Env) (σ : L2.St) (tm : List (V × D)) (H : Hp) : Prop where
  len : env.length = σ.length
  own : ∀ (i : Nat) d, env[i]? = some (some d) → ∃ v, σ[i]? = some (some v) ∧ Own K F H v d (U (.inl i))
  tmp : ∀ (i : Nat) v d, tm[i]? = some (v, d) → Own K F H v d (U (.inr i)) ∨ ∃ j, d = .ptr j ∧ σ[j]? = some (some v)
  dis : ∀ x y a, U x a → U y a → x = y
  nof : ∀ x a, U x a → F a = none
  liv : ∀ x a, U x a → H a ≠ none
  sub : Same F H
  base : Same B.F F
  keep : ∀ b o, B.H b = some o → (∀ i, ¬ B.A i b) → H b = some o
  new : ∀ b o, F b = some o → B.F b = some o ∨ B.H b = none
  usr : ∀ x a, U x a → B.H a = none ∨ ∃ i, x = .inl i ∧ B.A i a
  ownA : ∀ i a, B.A i a → i ∈ B.own
  pin : ∀ p ∈ B.pins, σ[p.1]? = some (some p.2)
  ther : ∀ b, B.H b ≠ none → H b ≠ none
def Rel (K : Frag) (B : Base) (env : Env) (σ : L2.St) (tm : List (V × D)) (H : Hp) : Prop := ∃ F U, RelF K B F U env σ tm H
def pushU (U : Fam) (S : Addr → Prop) : Fam
  | .inl i => U (.inl i)
  | .inr 0 => S
  | .inr (i + 1) => U (.inr i)
section
variable {K : Frag} {B : Base} {F : Hp} {U : Fam} {env : Env} {σ : L2.St} {tm : List (V × D)} {H : Hp}
theorem upd_some {H : Hp} {p b : Addr} {o : HO} (h : H b ≠ none) : upd H p o b ≠ none := by
  by_cases hb : b = p
  · rw [hb, upd_same]; exact fun z => nomatch z
  · rw [upd_ne hb]; exact h
theorem none_or {H : Hp} {b : Addr} : H b = none ∨ H b ≠ none := by
  cases H b with
  | none => exact .inl rfl
  | some o => exact .inr fun z => nomatch z
/-- a new object that stands -/
theorem RelF.grow (R : RelF K B F U env σ tm H) {p : Addr} (o : HO) (hp : H p = none) : RelF K B (upd F p o) U env σ tm (upd H p o) := by
  have fp : F p = none := R.sub.free hp
  have np : ∀ x a, U x a → a ≠ p := fun x a u z => R.liv x a u (by rw [z]; exact hp)
  have sF : Same F (upd F p o) := fun b u e => by rw [upd_ne (ne_of_none e fp)]; exact e
  have st : ∀ x, ∀ a u, U x a → H a = some u → upd H p o a = some u := fun x a u h e => by rw [upd_ne (np x a h)]; exact e
  refine ⟨R.len, fun i d e => ?_, fun i v d e => ?_, R.dis, fun x a u => by rw [upd_ne (np x a u)]; exact R.nof x a u, fun x a u => by rw [upd_ne (np x a u)]; exact R.liv x a u, fun b u e => ?_, R.base.trans sF, fun b u e n => ?_, fun b u e => ?_, R.usr, R.ownA, R.pin, fun b e => upd_some (R.ther b e)⟩
  · obtain ⟨v, h1, h2⟩ := R.own i d e
    exact ⟨v, h1, h2.stay sF (st _)⟩
  · rcases R.tmp i v d e with h | h
    · exact .inl (h.stay sF (st _))
    · exact .inr h
  · by_cases hb : b = p
    · rw [hb, upd_same] at e ⊢; exact e
    · rw [upd_ne hb] at e ⊢; exact R.sub b u e
  · have q := R.keep b u e n
    rw [upd_ne (ne_of_none q hp)]; exact q
  · by_cases hb : b = p
    · subst hb
      rcases none_or (H := B.H) (b := b) with q | q
      · exact .inr q
      · exact absurd hp (R.ther b q)
    · rw [upd_ne hb] at e; exact R.new b u e
/-- a value that stands, put by -/
theorem RelF.pushO (R : RelF K B F U env σ tm H) {v : V} {d : D} (h : Rep K F v d ∨ ∃ j, d = .ptr j ∧ σ[j]? = some (some v)) : RelF K B F (pushU U fun _ => False) env σ ((v, d) :: tm) H := by
  have back : ∀ x a, pushU U (fun _ => False) x a → ∃ y, U y a := by
    intro x a u
    rcases x with i | i
    · exact ⟨.inl i, u⟩
    · cases i with
      | zero => exact u.elim
      | succ i => exact ⟨.inr i, u⟩
  refine ⟨R.len, R.own, fun i w e q => ?_, fun x y a u w => ?_, fun x a u => ?_, fun x a u => ?_, R.sub, R.base, R.keep, R.new, fun x a u => ?_, R.ownA, R.pin, R.ther⟩
  · cases i with
    | zero => cases q; exact h.imp .frz id
    | succ i => exact R.tmp i w e q
  · rcases x with i | i <;> rcases y with j | j
    · exact R.dis (.inl i) (.inl j) a u w
    · cases j with
      | zero => exact w.elim
      | succ j => exact nomatch R.dis (.inl i) (.inr j) a u w
    · cases i with
      | zero => exact u.elim
      | succ i => exact nomatch R.dis (.inr i) (.inl j) a u w
    · cases i with
      | zero => exact u.elim
      | succ i =>
        cases j with
        | zero => exact w.elim
        | succ j => have := R.dis (.inr i) (.inr j) a u w; cases this; rfl
  · obtain ⟨y, h⟩ := back x a u; exact R.nof y a h
  · obtain ⟨y, h⟩ := back x a u; exact R.liv y a h
  · rcases x with i | i
    · exact R.usr (.inl i) a u
    · cases i with
      | zero => exact u.elim
      | succ i =>
        rcases R.usr (.inr i) a u with h | ⟨_, e, _⟩
        · exact .inl h
        · cases e
theorem RelF.push (R : RelF K B F U env σ tm H) {v : V} {d : D} (h : Rep K F v d) : RelF K B F (pushU U fun _ => False) env σ ((v, d) :: tm) H := R.pushO (.inl h)
/-- what is put by, in another order, or less of it -/
theorem RelF.re (R : RelF K B F U env σ tm H) (tm' : List (V × D)) (f : Nat → Nat) (hf : ∀ i j, f i = f j → i = j) (h : ∀ (i : Nat) (x : V × D), tm'[i]? = some x → tm[f i]? = some x) :
    RelF K B F (fun x => match x with | .inl i => U (.inl i) | .inr i => U (.inr (f i))) env σ tm' H := by
  refine ⟨R.len, R.own, fun i w e q => R.tmp (f i) w e (h i _ q), fun x y a u w => ?_, fun x a u => ?_, fun x a u => ?_, R.sub, R.base, R.keep, R.new, fun x a u => ?_, R.ownA, R.pin, R.ther⟩
  · rcases x with i | i <;> rcases y with j | j
    · exact R.dis (.inl i) (.inl j) a u w
    · exact nomatch R.dis (.inl i) (.inr (f j)) a u w
    · exact nomatch R.dis (.inr (f i)) (.inl j) a u w
    · have := R.dis (.inr (f i)) (.inr (f j)) a u w
      have e : f i = f j := by injection this
      rw [hf i j e]
  · rcases x with i | i
    · exact R.nof (.inl i) a u
    · exact R.nof (.inr (f i)) a u
  · rcases x with i | i
    · exact R.liv (.inl i) a u
    · exact R.liv (.inr (f i)) a u
  · rcases x with i | i
    · exact R.usr (.inl i) a u
    · rcases R.usr (.inr (f i)) a u with h | ⟨_, e, _⟩
      · exact .inl h
      · cases e
theorem Rel.pop {x : V × D} (R : Rel K B env σ (x :: tm) H) : Rel K B env σ tm H := by
  obtain ⟨F, U, R⟩ := R
  exact ⟨F, _, R.re tm (· + 1) (fun i j e => Nat.succ.inj e) fun i x e => e⟩
theorem Rel.popN (l : List (V × D)) (R : Rel K B env σ (l ++ tm) H) : Rel K B env σ tm H := by
  induction l with
  | nil => exact R
  | cons x l ih => exact ih R.pop
/-- the last put by goes beneath some others -/
theorem Rel.under {l : List (V × D)} {x : V × D} (R : Rel K B env σ (l ++ x :: tm) H) : Rel K B env σ (x :: (l ++ tm)) H := by
  obtain ⟨F, U, R⟩ := R
  refine ⟨F, _, R.re (x :: (l ++ tm)) (fun i => match i with | 0 => l.length | i + 1 => if i < l.length then i else i + 1) (fun i j e => ?_) fun i y e => ?_⟩
  · cases i <;> cases j <;> dsimp only at e
    · rfl
    · split at e <;> omega
    · split at e <;> omega
    · split at e <;> split at e <;> omega
  · cases i with
    | zero =>
      dsimp only
      rw [List.getElem?_append_right (Nat.le_refl _), Nat.sub_self]
      exact e
    | succ i =>
      dsimp only
      have e' : (l ++ tm)[i]? = some y := e
      split
      · rename_i hi
        rw [List.getElem?_append_left hi] at e' ⊢
        exact e'
      · rename_i hi
        rw [List.getElem?_append_right (by omega)] at e' ⊢
        rw [show i + 1 - l.length = (i - l.length) + 1 by omega]
        exact e'
/-- a slot is forgotten -/
theorem RelF.forget (R : RelF K B F U env σ tm H) (i : Nat) : RelF K B F U (env.set i none) σ tm H := by
  refine ⟨by rw [List.length_set]; exact R.len, fun j d e => ?_, R.tmp, R.dis, R.nof, R.liv, R.sub, R.base, R.keep, R.new, R.usr, R.ownA, R.pin, R.ther⟩
  by_cases h : i = j
  · subst h
    rw [List.getElem?_set_self'] at e
    cases q : env[i]? with
    | none => rw [q] at e; cases e
    | some z => rw [q] at e; cases e
  · rw [List.getElem?_set_ne h] at e
    exact R.own j d e
/-- no slot is meant by what is put by -/
def NoPtr (tm : List (V × D)) : Prop := ∀ v j, (v, D.ptr j) ∉ tm
def stU (U : Fam) (i : Nat) : Fam
  | .inl j => if j = i then U (.inr 0) else U (.inl j)
  | .inr j => U (.inr (j + 1))
theorem stU_same {U : Fam} {i : Nat} : stU U i (.inl i) = U (.inr 0) := if_pos rfl
theorem stU_ne {U : Fam} {i j : Nat} (h : j ≠ i) : stU U i (.inl j) = U (.inl j) := if_neg h
/-- what is put by goes into a slot -/
theorem RelF.store {v : V} {d : D} (R : RelF K B F U env σ ((v, d) :: tm) H) (i : Nat) (hp : ∀ p ∈ B.pins, p.1 ≠ i) (ho : i ∉ B.own) (hd : ∀ j, d ≠ .ptr j) (ht : NoPtr tm) :
    RelF K B F (stU U i) (env.set i (some d)) (σ.set i (some v)) tm H := by
  refine ⟨by rw [List.length_set, List.length_set]; exact R.len, fun j d' e => ?_, fun j w d' e => ?_, fun x y a u w => ?_, fun x a u => ?_, fun x a u => ?_, R.sub, R.base, R.keep, R.new, fun x a u => ?_, R.ownA, fun p hp' => ?_, R.ther⟩
  · by_cases h : j = i
    · subst h
      rw [List.getElem?_set_self'] at e
      have hl : ∃ z, env[j]? = some z := by
        cases q : env[j]? with
        | none => rw [q] at e; cases e
        | some z => exact ⟨z, rfl⟩
      obtain ⟨z, hz⟩ := hl
      rw [hz] at e
      cases e
      have hlt : j < σ.length := by rw [← R.len]; exact (List.getElem?_eq_some_iff.mp hz).1
      refine ⟨v, List.getElem?_set_self hlt, ?_⟩
      rw [stU_same]
      rcases R.tmp 0 v d rfl with q | ⟨k, q, _⟩
      · exact q
      · exact absurd q (hd k)
    · rw [List.getElem?_set_ne (Ne.symm h)] at e
      obtain ⟨w, h1, h2⟩ := R.own j d' e
      refine ⟨w, by rw [List.getElem?_set_ne (Ne.symm h)]; exact h1, ?_⟩
      rw [stU_ne h]; exact h2
  · rcases R.tmp (j + 1) w d' e with q | ⟨k, q, q2⟩
    · exact .inl q
    · subst q
      exact absurd (List.mem_of_getElem? e) (ht w k)
  · have key : ∀ x : Nat ⊕ Nat, ∃ y : Nat ⊕ Nat, stU U i x = U y ∧ y = (match x with | .inl j => if j = i then .inr 0 else .inl j | .inr j => .inr (j + 1)) := by
      intro x
      rcases x with j | j
      · by_cases h : j = i
        · exact ⟨.inr 0, by rw [h, stU_same], by rw [h]; exact (if_pos rfl).symm⟩
        · exact ⟨.inl j, by rw [stU_ne h], (if_neg h).symm⟩
      · exact ⟨.inr (j + 1), rfl, rfl⟩
    obtain ⟨x', ex, hx⟩ := key x
    obtain ⟨y', ey, hy⟩ := key y
    rw [ex] at u
    rw [ey] at w
    have e := R.dis x' y' a u w
    subst e
    rw [hx] at hy
    rcases x with j | j <;> rcases y with k | k <;> dsimp only at hy
    · by_cases h : j = i <;> by_cases h' : k = i
      · rw [h, h']
      · rw [if_pos h, if_neg h'] at hy; cases hy
      · rw [if_neg h, if_pos h'] at hy; cases hy
      · rw [if_neg h, if_neg h'] at hy; cases hy; rfl
    · by_cases h : j = i
      · rw [if_pos h] at hy; cases hy
      · rw [if_neg h] at hy; cases hy
    · by_cases h : k = i
      · rw [if_pos h] at hy; cases hy
      · rw [if_neg h] at hy; cases hy
    · cases hy; rfl
  · rcases x with j | j
    · by_cases h : j = i
      · rw [h, stU_same] at u; exact R.nof _ a u
      · rw [stU_ne h] at u; exact R.nof _ a u
    · exact R.nof _ a u
  · rcases x with j | j
    · by_cases h : j = i
      · rw [h, stU_same] at u; exact R.liv _ a u
      · rw [stU_ne h] at u; exact R.liv _ a u
    · exact R.liv _ a u
  · rcases x with j | j
    · by_cases h : j = i
      · rw [h, stU_same] at u
        rcases R.usr (.inr 0) a u with q | ⟨_, e, _⟩
        · exact .inl q
        · cases e
      · rw [stU_ne h] at u
        exact R.usr (.inl j) a u
    · rcases R.usr (.inr (j + 1)) a u with q | ⟨_, e, _⟩
      · exact .inl q
      · cases e
  · rw [List.getElem?_set_ne (Ne.symm (hp p hp'))]
    exact R.pin p hp'
theorem Same.both {F H : Hp} {S : Addr → Prop} [DecidablePred S] (h : Same F H) (n : ∀ a, S a → F a = none) : Same F (fun b => if S b then H b else F b) := fun b o e => by
  show (if S b then H b else F b) = some o
  split
  · exact h b o e
  · exact e
open Classical in
/-- one's own becomes what stands: of a slot, of what is put by -/
theorem RelF.settle (R : RelF K B F U env σ tm H) (z : Nat ⊕ Nat) (hz : ∀ i ∈ B.own, z ≠ .inl i) (env' : Env) (tm' : List (V × D)) (he : env'.length = env.length)
    (h1 : ∀ (i : Nat) d, env'[i]? = some (some d) → (env[i]? = some (some d) ∧ z ≠ .inl i) ∨ ∃ v d0, σ[i]? = some (some v) ∧ Own K F H v d0 (U z) ∧ Frz d0 d)
    (h2 : ∀ (i : Nat) v d, tm'[i]? = some (v, d) → (tm[i]? = some (v, d) ∧ z ≠ .inr i) ∨ ∃ d0, Own K F H v d0 (U z) ∧ Frz d0 d) :
    RelF K B (fun b => if U z b then H b else F b) (fun x => if x = z then fun _ => False else U x) env' σ tm' H := by
  have sF : Same F (fun b => if U z b then H b else F b) := Same.both R.sub fun a u => R.nof z a u
  have rep : ∀ v d0 d, Own K F H v d0 (U z) → Frz d0 d → Rep K (fun b => if U z b then H b else F b) v d := fun v d0 d h q => h.rep sF (fun a o s e => by show (if U z a then H a else F a) = some o; rw [if_pos s]; exact e) q
  have un : ∀ x a, (if x = z then fun _ => False else U x) a → x ≠ z ∧ U x a := fun x a u => by
    by_cases h : x = z
    · rw [if_pos h] at u; exact u.elim
    · rw [if_neg h] at u; exact ⟨h, u⟩
  refine ⟨he.trans R.len, fun i d e => ?_, fun i v d e => ?_, fun x y a u w => R.dis x y a (un x a u).2 (un y a w).2, fun x a u => ?_, fun x a u => R.liv x a (un x a u).2, fun b o e => ?_, R.base.trans sF, R.keep, fun b o e => ?_, fun x a u => R.usr x a (un x a u).2, R.ownA, R.pin, R.ther⟩
  · rcases h1 i d e with ⟨q, n⟩ | ⟨v, d0, q1, q2, q3⟩
    · obtain ⟨v, q1, q2⟩ := R.own i d q
      refine ⟨v, q1, ?_⟩
      rw [if_neg (Ne.symm n)]
      exact q2.stay sF fun a o s e => e
    · exact ⟨v, q1, .frz (rep _ _ _ q2 q3)⟩
  · rcases h2 i v d e with ⟨q, n⟩ | ⟨d0, q2, q3⟩
    · rcases R.tmp i v d q with q | q
      · refine .inl ?_
        rw [if_neg (Ne.symm n)]
        exact q.stay sF fun a o s e => e
      · exact .inr q
    · exact .inl (.frz (rep _ _ _ q2 q3))
  · obtain ⟨n, u⟩ := un x a u
    show (if U z a then H a else F a) = none
    rw [if_neg (fun h => n (R.dis x z a u h))]
    exact R.nof x a u
  · have e : (if U z b then H b else F b) = some o := e
    split at e
    · exact e
    · exact R.sub b o e
  · have e : (if U z b then H b else F b) = some o := e
    split at e
    · rename_i u
      rcases R.usr z b u with q | ⟨i, q, hi⟩
      · exact .inr q
      · exact absurd q (hz i (R.ownA i b hi))
    · exact R.new b o e
/-- one's own at a slot is changed, at one address of its footprint -/
theorem RelF.write (R : RelF K B F U env σ tm H) {i : Nat} {a : Addr} {o : HO} {v : V} {d : D} (hv : σ[i]? = some (some v)) (ha : U (.inl i) a) (h : Own K F (upd H a o) v d (U (.inl i))) :
    RelF K B F U (env.set i (some d)) σ tm (upd H a o) := by
  have oth : ∀ x, x ≠ .inl i → ∀ b u, U x b → H b = some u → upd H a o b = some u := fun x n b u s e => by
    rw [upd_ne (fun z => n (R.dis x (.inl i) a (by rw [← z]; exact s) ha))]; exact e
  refine ⟨by rw [List.length_set]; exact R.len, fun j d' e => ?_, fun j w d' e => ?_, R.dis, R.nof, fun x b u => upd_some (R.liv x b u), fun b u e => ?_, R.base, fun b u e n => ?_, R.new, R.usr, R.ownA, R.pin, fun b e => upd_some (R.ther b e)⟩
  · by_cases hj : i = j
    · subst hj
      rw [List.getElem?_set_self'] at e
      cases q : env[i]? with
      | none => rw [q] at e; cases e
      | some z =>
        rw [q] at e
        cases e
        exact ⟨v, hv, h⟩
    · rw [List.getElem?_set_ne hj] at e
      obtain ⟨w, h1, h2⟩ := R.own j d' e
      exact ⟨w, h1, h2.stay (Same.refl F) (oth _ fun z => hj (by cases z; rfl))⟩
  · rcases R.tmp j w d' e with q | q
    · exact .inl (q.stay (Same.refl F) (oth _ fun z => nomatch z))
    · exact .inr q
  · rw [upd_ne (fun z => by have := R.nof _ a ha; rw [z, this] at e; cases e)]
    exact R.sub b u e
  · have q := R.keep b u e n
    rw [upd_ne (fun z => by
      rcases R.usr _ a ha with h | ⟨k, _, h⟩
      · rw [z, h] at e; cases e
      · exact n k (by rw [z]; exact h))]
    exact q
/-- a new object of one's own, put by -/
theorem RelF.pushNew (R : RelF K B F U env σ tm H) {p : Addr} {o : HO} {v : V} {d : D} (hp : H p = none) (h : Own K F (upd H p o) v d (· = p)) : RelF K B F (pushU U (· = p)) env σ ((v, d) :: tm) (upd H p o) := by
  have fp : F p = none := R.sub.free hp
  have np : ∀ x a, U x a → a ≠ p := fun x a u z => R.liv x a u (by rw [z]; exact hp)
  have st : ∀ x, ∀ a u, U x a → H a = some u → upd H p o a = some u := fun x a u h e => by rw [upd_ne (np x a h)]; exact e
  have bp : B.H p = none := by
    rcases none_or (H := B.H) (b := p) with q | q
    · exact q
    · exact absurd hp (R.ther p q)
  have back : ∀ x a, pushU U (· = p) x a → (x = .inr 0 ∧ a = p) ∨ ∃ y, U y a ∧ (match x with | .inl i => y = .inl i | .inr i => ∃ j, i = j + 1 ∧ y = .inr j) := by
    intro x a u
    rcases x with i | i
    · exact .inr ⟨.inl i, u, rfl⟩
    · cases i with
      | zero => exact .inl ⟨rfl, u⟩
      | succ i => exact .inr ⟨.inr i, u, i, rfl, rfl⟩
  refine ⟨R.len, fun i d e => ?_, fun i w e q => ?_, fun x y a u w => ?_, fun x a u => ?_, fun x a u => ?_, fun b u e => ?_, R.base, fun b u e n => ?_, R.new, fun x a u => ?_, R.ownA, R.pin, fun b e => upd_some (R.ther b e)⟩
  · obtain ⟨v, h1, h2⟩ := R.own i d e
    exact ⟨v, h1, h2.stay (Same.refl F) (st _)⟩
  · cases i with
    | zero => cases q; exact .inl h
    | succ i =>
      rcases R.tmp i w e q with q | q
      · exact .inl (q.stay (Same.refl F) (st _))
      · exact .inr q
  · rcases back x a u with ⟨e1, e2⟩ | ⟨x', u', hx⟩
    · rcases back y a w with ⟨e3, e4⟩ | ⟨y', w', hy⟩
      · rw [e1, e3]
      · exact absurd e2 (np _ _ w')
    · rcases back y a w with ⟨e3, e4⟩ | ⟨y', w', hy⟩
      · exact absurd e4 (np _ _ u')
      · have e := R.dis x' y' a u' w'
        subst e
        rcases x with i | i <;> rcases y with j | j
        · dsimp only at hx hy; rw [hx] at hy; cases hy; rfl
        · obtain ⟨k, e, q⟩ := hy; dsimp only at hx; rw [hx] at q; cases q
        · obtain ⟨k, e, q⟩ := hx; dsimp only at hy; rw [hy] at q; cases q
        · obtain ⟨k, e, q⟩ := hx
          obtain ⟨k', e', q'⟩ := hy
          rw [q] at q'; cases q'
          rw [e, e']
  · rcases back x a u with ⟨_, e⟩ | ⟨y, u', _⟩
    · rw [e]; exact fp
    · exact R.nof y a u'
  · rcases back x a u with ⟨_, e⟩ | ⟨y, u', _⟩
    · rw [e, upd_same]; exact fun z => nomatch z
    · exact upd_some (R.liv y a u')
  · rw [upd_ne (ne_of_none e fp)]; exact R.sub b u e
  · have q := R.keep b u e n
    rw [upd_ne (ne_of_none q hp)]; exact q
  · rcases back x a u with ⟨_, e⟩ | ⟨y, u', hx⟩
    · rw [e]; exact .inl bp
    · rcases R.usr y a u' with q | ⟨i, q, q2⟩
      · exact .inl q
      · rcases x with j | j
        · dsimp only at hx; rw [hx] at q; exact .inr ⟨i, q, q2⟩
        · obtain ⟨k, _, e⟩ := hx; rw [e] at q; cases q
end
end DL

/-! ## DLb.lean -/
namespace DL
open PySem PySem.Spec PyProof.Rows L2

/-! ### a call: the callee's entry and end -/
/-- what an argument means here -/
def res (env : Env) : D → Option D
  | .ptr j => (env[j]?).join
  | d => some d
theorem join_some {env : Env} {j : Nat} {d : D} : (env[j]?).join = some d ↔ env[j]? = some (some d) := by
  cases h : env[j]? with
  | none => simp
  | some z => cases z <;> simp
/-- the slots that are handed over -/
@[simp] def ptrs : List D → List Nat
  | [] => []
  | .ptr j :: ds => j :: ptrs ds
  | _ :: ds => ptrs ds
structure ArgOk (ow : List Nat) (env : Env) (ds : List D) : Prop where
  own : ∀ k ∈ ow, ∃ j d, ds[k]? = some (.ptr j) ∧ env[j]? = some (some d)
  oth : ∀ k d, ds[k]? = some d → k ∉ ow → isR d = true
  dis : ∀ (k k' j : Nat), ds[k]? = some (.ptr j) → ds[k']? = some (.ptr j) → k = k'
/-- the handed slots' data at the end -/
def outs (ow : List Nat) (env : Env) : Option (List D) := ow.mapM fun i => (env[i]?).join
/-- .. put into the caller's slots -/
@[simp] def putO (ds : List D) : List Nat → List D → Env → Env
  | k :: ow, d :: os, env => putO ds ow os (match ds[k]? with | some (.ptr j) => env.set j (some d) | _ => env)
  | _, _, env => env
section
variable {K : Frag} {B : Base} {F : Hp} {U : Fam} {env : Env} {σ : L2.St} {tm : List (V × D)} {H : Hp}
@[simp] def argD (env : Env) (d : D) : D := (res env d).getD .non
theorem zip_get {vs : List V} {ds : List D} (l : vs.length = ds.length) {k : Nat} {d : D} (h : ds[k]? = some d) : ∃ v, vs[k]? = some v ∧ (vs.zip ds)[k]? = some (v, d) := by
  have hk : k < ds.length := (List.getElem?_eq_some_iff.mp h).1
  rw [← l] at hk
  refine ⟨vs[k], List.getElem?_eq_getElem hk, ?_⟩
  rw [List.getElem?_zip_eq_some]
  exact ⟨List.getElem?_eq_getElem hk, h⟩
theorem isR_ptr {d : D} (h : isR d = true) : ∀ j, d ≠ .ptr j := fun j e => by
  rw [e] at h; exact nomatch h
/-- the base of a callee -/
def calleeB (F H : Hp) (U : Fam) (ow : List Nat) (vs : List V) (ds : List D) : Base :=
  { F := F, H := H, A := fun k b => k ∈ ow ∧ ∃ j, ds[k]? = some (.ptr j) ∧ U (.inl j) b, own := ow, pins := ow.filterMap fun k => (vs[k]?).map fun v => (k, v) }
theorem RelF.entry (R : RelF K B F U env σ (vs.zip ds ++ tm) H) (l : vs.length = ds.length) {ow : List Nat} (ok : ArgOk ow env ds) :
    RelF K (calleeB F H U ow vs ds) F (fun x b => ∃ k, x = .inl k ∧ (calleeB F H U ow vs ds).A k b) ((ds.map (argD env)).map some) (vs.map some) [] H where
  len := by simp [l]
  own := fun i d e => by
    rw [List.getElem?_map, List.getElem?_map] at e
    cases q : ds[i]? with
    | none => rw [q] at e; cases e
    | some d0 =>
      rw [q] at e
      obtain ⟨v, hv, hz⟩ := zip_get l q
      refine ⟨v, by rw [List.getElem?_map, hv]; rfl, ?_⟩
      have hlt : i < (vs.zip ds).length := (List.getElem?_eq_some_iff.mp hz).1
      have ht := R.tmp i v d0 (by rw [List.getElem?_append_left hlt]; exact hz)
      have e' : argD env d0 = d := by
        have e2 : some (some (argD env d0)) = some (some d) := e
        injection e2 with e3; injection e3
      by_cases hw : i ∈ ow
      · obtain ⟨j, dj, q1, q2⟩ := ok.own i hw
        rw [q] at q1; cases q1
        have : argD env (.ptr j) = dj := by
          show ((env[j]?).join).getD .non = dj
          rw [join_some.mpr q2]; rfl
        rw [← e', this]
        obtain ⟨w, h1, h2⟩ := R.own j dj q2
        rcases ht with h | ⟨k, h, h3⟩
        · cases h with | frz h => cases h
        · cases h
          rw [h1] at h3; cases h3
          exact h2.wide fun a u => ⟨i, rfl, hw, j, q, u⟩
      · have hr := ok.oth i d0 q hw
        have : argD env d0 = d0 := by cases d0 <;> first | rfl | exact nomatch hr
        rw [← e', this]
        rcases ht with h | ⟨k, h, h3⟩
        · exact .frz (h.toRep hr)
        · rw [h] at hr; exact nomatch hr
  tmp := fun i v d e => by simp at e
  dis := fun x y a u w => by
    obtain ⟨k, rfl, hk, j, q, u⟩ := u
    obtain ⟨k', rfl, hk', j', q', w⟩ := w
    have := R.dis _ _ a u w
    cases this
    rw [ok.dis k k' j q q']
  nof := fun x a u => by
    obtain ⟨k, rfl, hk, j, q, u⟩ := u
    exact R.nof _ a u
  liv := fun x a u => by
    obtain ⟨k, rfl, hk, j, q, u⟩ := u
    exact R.liv _ a u
  sub := R.sub
  base := Same.refl F
  keep := fun b o e n => e
  new := fun b o e => .inl e
  usr := fun x a u => by
    obtain ⟨k, rfl, u⟩ := u
    exact .inr ⟨k, rfl, u⟩
  ownA := fun i a h => h.1
  pin := fun p hp => by
    obtain ⟨k, hk, e⟩ := List.mem_filterMap.mp hp
    cases q : vs[k]? with
    | none => rw [q] at e; cases e
    | some v => rw [q] at e; cases e; rw [List.getElem?_map, q]; rfl
  ther := fun b h => h
def afterU (U U1 : Fam) (ow : List Nat) (ds : List D) (n : Nat) : Fam
  | .inl j => fun b => (∃ k, k ∈ ow ∧ ds[k]? = some (.ptr j) ∧ U1 (.inl k) b) ∨ ((∀ k ∈ ow, ds[k]? ≠ some (.ptr j)) ∧ U (.inl j) b)
  | .inr 0 => U1 (.inr 0)
  | .inr (i + 1) => U (.inr (i + n))
theorem RelF.after {vs : List V} {ds : List D} {ow : List Nat} {F1 : Hp} {U1 : Fam} {env1 env' : Env} {v : V} {r : D} {H1 : Hp} (R : RelF K B F U env σ (vs.zip ds ++ tm) H) (l : vs.length = ds.length) (ok : ArgOk ow env ds)
    (P : RelF K (calleeB F H U ow vs ds) F1 U1 env1 (vs.map some) [(v, r)] H1) (hr : ∀ j, r ≠ .ptr j) (hl : env'.length = env.length)
    (he : ∀ j d, env'[j]? = some (some d) → (env[j]? = some (some d) ∧ ∀ k ∈ ow, ds[k]? ≠ some (.ptr j)) ∨ ∃ k, k ∈ ow ∧ ds[k]? = some (.ptr j) ∧ env1[k]? = some (some d)) :
    RelF K B F1 (afterU U U1 ow ds (vs.zip ds).length) env' σ ((v, r) :: tm) H1 := by
  -- an old footprint that was not handed over
  have old : ∀ x b, U x b → (∀ k j, k ∈ ow → ds[k]? = some (.ptr j) → x ≠ .inl j) → ∀ k, ¬ (calleeB F H U ow vs ds).A k b := fun x b u n k ⟨hk, j, q, u'⟩ => n k j hk q (R.dis x _ b u u')
  have stay : ∀ x, (∀ k j, k ∈ ow → ds[k]? = some (.ptr j) → x ≠ .inl j) → ∀ b o, U x b → H b = some o → H1 b = some o := fun x n b o u e => P.keep b o e (old x b u n)
  have nF : ∀ x b, U x b → F1 b = none := fun x b u => by
    cases q : F1 b with
    | none => rfl
    | some o =>
      rcases P.new b o q with h | h
      · have := R.nof x b u
        have h : F b = some o := h
        rw [this] at h; cases h
      · exact absurd h (R.liv x b u)
  -- a callee's footprint
  have fresh : ∀ x b, U1 x b → H b = none ∨ ∃ k j, x = .inl k ∧ k ∈ ow ∧ ds[k]? = some (.ptr j) ∧ U (.inl j) b := fun x b u => by
    rcases P.usr x b u with h | ⟨k, e, hk, j, q, u'⟩
    · exact .inl h
    · exact .inr ⟨k, j, e, hk, q, u'⟩
  have inlOld : ∀ j, (∀ k ∈ ow, ds[k]? ≠ some (.ptr j)) → ∀ k j', k ∈ ow → ds[k]? = some (.ptr j') → (Sum.inl j : Nat ⊕ Nat) ≠ .inl j' := fun j n k j' hk q z => by
    cases z; exact n k hk q
  have inrOld : ∀ i : Nat, ∀ k j', k ∈ ow → ds[k]? = some (.ptr j') → (Sum.inr i : Nat ⊕ Nat) ≠ .inl j' := fun i k j' hk q z => nomatch z
  have cross : ∀ x y b, U1 x b → U y b → (∀ k j, k ∈ ow → ds[k]? = some (.ptr j) → y ≠ .inl j) → False := fun x y b u w n => by
    rcases fresh x b u with h | ⟨k, j, _, hk, q, u'⟩
    · exact R.liv y b w h
    · exact n k j hk q (R.dis y _ b w u')
  refine ⟨hl.trans R.len, fun j d e => ?_, fun i w d e => ?_, fun x y b u w => ?_, fun x b u => ?_, fun x b u => ?_, P.sub, R.base.trans P.base, fun b o e n => ?_, fun b o e => ?_, fun x b u => ?_, R.ownA, R.pin, fun b e => P.ther b (R.ther b e)⟩
  · rcases he j d e with ⟨e0, n⟩ | ⟨k, hk, q, e1⟩
    · obtain ⟨w, h1, h2⟩ := R.own j d e0
      exact ⟨w, h1, (h2.stay P.base (stay _ (inlOld j n))).wide fun b u => .inr ⟨n, u⟩⟩
    · obtain ⟨w, h1, h2⟩ := P.own k d e1
      have hw : vs[k]? = some w := by
        rw [List.getElem?_map] at h1
        cases z : vs[k]? with
        | none => rw [z] at h1; cases h1
        | some u => rw [z] at h1; cases h1; rfl
      obtain ⟨w', g1, g2⟩ := zip_get l q
      rw [hw] at g1; cases g1
      have hlt : k < (vs.zip ds).length := (List.getElem?_eq_some_iff.mp g2).1
      rcases R.tmp k w _ (by rw [List.getElem?_append_left hlt]; exact g2) with t | ⟨j', t, t2⟩
      · cases t with | frz t => cases t
      · cases t
        exact ⟨w, t2, h2.wide fun b u => .inl ⟨k, hk, q, u⟩⟩
  · cases i with
    | zero =>
      cases e
      rcases P.tmp 0 _ _ rfl with q | ⟨j, q, _⟩
      · exact .inl q
      · exact absurd q (hr j)
    | succ i =>
      have e : tm[i]? = some (w, d) := e
      have q := R.tmp (i + (vs.zip ds).length) w d (by rw [List.getElem?_append_right (by omega), Nat.add_sub_cancel]; exact e)
      rcases q with q | q
      · exact .inl (q.stay P.base (stay _ (inrOld _)))
      · exact .inr q
  · rcases x with i | i <;> rcases y with j | j
    · rcases u with ⟨k, hk, q, u⟩ | ⟨n, u⟩ <;> rcases w with ⟨k', hk', q', w⟩ | ⟨n', w⟩
      · have e := P.dis _ _ b u w
        cases e
        rw [q] at q'; cases q'; rfl
      · exact (cross _ _ b u w (inlOld j n')).elim
      · exact (cross _ _ b w u (inlOld i n)).elim
      · have := R.dis _ _ b u w
        cases this; rfl
    · cases j with
      | zero =>
        rcases u with ⟨k, hk, q, u⟩ | ⟨n, u⟩
        · exact nomatch P.dis _ _ b u w
        · exact (cross _ _ b w u (inlOld i n)).elim
      | succ j =>
        rcases u with ⟨k, hk, q, u⟩ | ⟨n, u⟩
        · exact (cross _ _ b u w (inrOld _)).elim
        · exact nomatch R.dis _ _ b u w
    · cases i with
      | zero =>
        rcases w with ⟨k, hk, q, w⟩ | ⟨n, w⟩
        · exact nomatch P.dis _ _ b w u
        · exact (cross _ _ b u w (inlOld j n)).elim
      | succ i =>
        rcases w with ⟨k, hk, q, w⟩ | ⟨n, w⟩
        · exact (cross _ _ b w u (inrOld _)).elim
        · exact nomatch R.dis _ _ b w u
    · cases i with
      | zero =>
        cases j with
        | zero => rfl
        | succ j => exact (cross _ _ b u w (inrOld _)).elim
      | succ i =>
        cases j with
        | zero => exact (cross _ _ b w u (inrOld _)).elim
        | succ j =>
          have e := R.dis _ _ b u w
          have e : i + (vs.zip ds).length = j + (vs.zip ds).length := by injection e
          rw [show i = j by omega]
  · rcases x with i | i
    · rcases u with ⟨k, hk, q, u⟩ | ⟨n, u⟩
      · exact P.nof _ b u
      · exact nF _ b u
    · cases i with
      | zero => exact P.nof _ b u
      | succ i => exact nF _ b u
  · rcases x with i | i
    · rcases u with ⟨k, hk, q, u⟩ | ⟨n, u⟩
      · exact P.liv _ b u
      · exact P.ther b (R.liv _ b u)
    · cases i with
      | zero => exact P.liv _ b u
      | succ i => exact P.ther b (R.liv _ b u)
  · refine P.keep b o (R.keep b o e n) fun k ⟨hk, j, q, u⟩ => ?_
    rcases R.usr _ b u with h | ⟨i, _, h⟩
    · rw [h] at e; cases e
    · exact n i h
  · rcases P.new b o e with h | h
    · exact R.new b o h
    · rcases none_or (H := B.H) (b := b) with q | q
      · exact .inr q
      · exact absurd h (R.ther b q)
  · have dead : H b = none → B.H b = none := fun h => by
      rcases none_or (H := B.H) (b := b) with q | q
      · exact q
      · exact absurd h (R.ther b q)
    rcases x with i | i
    · rcases u with ⟨k, hk, q, u⟩ | ⟨n, u⟩
      · rcases fresh _ b u with h | ⟨k', j', ek, hk', q', u'⟩
        · exact .inl (dead h)
        · cases ek
          rw [q] at q'; cases q'
          exact R.usr _ b u'
      · exact R.usr _ b u
    · cases i with
      | zero =>
        rcases fresh _ b u with h | ⟨k', j', ek, _⟩
        · exact .inl (dead h)
        · cases ek
      | succ i =>
        rcases R.usr _ b u with h | ⟨_, e, _⟩
        · exact .inl h
        · cases e
theorem putO_len (ds : List D) : ∀ (ow : List Nat) (os : List D) (env : Env), (putO ds ow os env).length = env.length
  | [], _, _ => by unfold putO; rfl
  | _ :: _, [], _ => by unfold putO; rfl
  | k :: ow, d :: os, env => by
    unfold putO
    rw [putO_len ds ow os]
    split
    · rw [List.length_set]
    · rfl
theorem outs_cons {k : Nat} {ow : List Nat} {env : Env} {os : List D} (h : outs (k :: ow) env = some os) : ∃ d os', os = d :: os' ∧ env[k]? = some (some d) ∧ outs ow env = some os' := by
  unfold outs at h
  rw [List.mapM_cons] at h
  cases q : (env[k]?).join with
  | none => rw [q] at h; cases h
  | some d =>
    rw [q] at h
    cases q2 : List.mapM (fun i => (env[i]?).join) ow with
    | none => rw [q2] at h; cases h
    | some os' => rw [q2] at h; cases h; exact ⟨d, os', rfl, join_some.mp q, q2⟩
theorem putO_get (ds : List D) (env1 : Env) (hd : ∀ (k k' j : Nat), ds[k]? = some (D.ptr j) → ds[k']? = some (.ptr j) → k = k') : ∀ (ow : List Nat) (os : List D) (env : Env), outs ow env1 = some os →
    ∀ j d, (putO ds ow os env)[j]? = some (some d) → (env[j]? = some (some d) ∧ ∀ k ∈ ow, ds[k]? ≠ some (.ptr j)) ∨ ∃ k, k ∈ ow ∧ ds[k]? = some (.ptr j) ∧ env1[k]? = some (some d)
  | [], os, env, _, j, d, h => .inl ⟨by unfold putO at h; exact h, fun k hk => nomatch hk⟩
  | k :: ow, os, env, ho, j, d, h => by
    obtain ⟨d0, os', rfl, e1, e2⟩ := outs_cons ho
    unfold putO at h
    rcases putO_get ds env1 hd ow os' _ e2 j d h with ⟨h1, h2⟩ | ⟨k', hk', q⟩
    · split at h1
      · rename_i j' q
        by_cases hj : j' = j
        · subst hj
          rw [List.getElem?_set_self'] at h1
          cases z : env[j']? with
          | none => rw [z] at h1; cases h1
          | some w =>
            rw [z] at h1
            cases h1
            exact .inr ⟨k, List.mem_cons_self, q, e1⟩
        · rw [List.getElem?_set_ne hj] at h1
          refine .inl ⟨h1, fun k' hk' => ?_⟩
          rcases List.mem_cons.mp hk' with rfl | hk'
          · intro z
            rw [q] at z; cases z; exact hj rfl
          · exact h2 k' hk'
      · rename_i q
        refine .inl ⟨h1, fun k' hk' => ?_⟩
        rcases List.mem_cons.mp hk' with rfl | hk'
        · exact fun z => q j z
        · exact h2 k' hk'
    · exact .inr ⟨k', List.mem_cons_of_mem _ hk', q⟩
end

/-! ### the judgements -/
abbrev DTE := Env → (D → Env → Prop) → Prop
abbrev DTT := Env → (Bool → Env → Prop) → Prop
abbrev DTA := Env → (List D → Env → Prop) → Prop
structure DEnds where
  nx : Env → Prop
  rt : D → Env → Prop
  bk : Env → Prop := fun _ => False
  ct : Env → Prop := fun _ => False
abbrev DTS := DEnds → Env → Prop
abbrev DTG := D → Env → (Env → Prop) → Prop
/-- the slots that are not to be stored to (pn) hold what the base tells -/
def Bok (pn : List Nat) (B : Base) : Prop := (∀ i ∈ B.own, i ∈ pn) ∧ ∀ p ∈ B.pins, p.1 ∈ pn
structure DE (K : Frag) (pn : List Nat) (t : TE) (d : DTE) : Prop where
  run : ∀ (B : Base), Bok pn B → ∀ (tm : List (V × D)) (env : Env) (σ : L2.St) (H : Hp) (Q : VK) (R : D → Env → Prop), Rel K B env σ tm H → d env R → (∀ r env' v H', R r env' → Rel K B env' σ ((v, r) :: tm) H' → Q v H') → t σ H Q
structure DT (K : Frag) (pn : List Nat) (t : TT) (d : DTT) : Prop where
  run : ∀ (B : Base), Bok pn B → ∀ (tm : List (V × D)) (env : Env) (σ : L2.St) (H : Hp) (Q : Bool → Hp → Prop) (R : Bool → Env → Prop), Rel K B env σ tm H → d env R → (∀ b env' H', R b env' → Rel K B env' σ tm H' → Q b H') → t σ H Q
structure DA (K : Frag) (pn : List Nat) (t : TA) (d : DTA) : Prop where
  run : ∀ (B : Base), Bok pn B → ∀ (tm : List (V × D)) (env : Env) (σ : L2.St) (H : Hp) (Q : List V → Hp → Prop) (R : List D → Env → Prop), Rel K B env σ tm H →
    d env R → (∀ rs env' vs H', R rs env' → vs.length = rs.length → Rel K B env' σ (vs.zip rs ++ tm) H' → Q vs H') → t σ H Q
structure Sim (K : Frag) (B : Base) (tm : List (V × D)) (D' : DEnds) (E : Ends) : Prop where
  nx : ∀ env σ H, Rel K B env σ tm H → D'.nx env → E.nx σ H
  rt : ∀ v r env σ H, Rel K B env σ ((v, r) :: tm) H → D'.rt r env → E.rt v H
  bk : ∀ env σ H, Rel K B env σ tm H → D'.bk env → E.bk σ H
  ct : ∀ env σ H, Rel K B env σ tm H → D'.ct env → E.ct σ H
structure DS (K : Frag) (pn : List Nat) (t : TS) (d : DTS) : Prop where
  run : ∀ (B : Base), Bok pn B → ∀ (tm : List (V × D)), NoPtr tm → ∀ (env : Env) (σ : L2.St) (H : Hp) (D' : DEnds) (E : Ends), Rel K B env σ tm H → Sim K B tm D' E → d D' env → t E σ H
/-- a target: what is put by goes there; ws: the slots that it writes -/
structure DG (K : Frag) (pn : List Nat) (ws : List Nat) (t : TG) (d : DTG) : Prop where
  run : ∀ (B : Base), Bok pn B → ∀ (tm : List (V × D)), NoPtr tm → ∀ (env : Env) (σ : L2.St) (H : Hp) (v : V) (r : D) (Q : L2.St → Hp → Prop) (R : Env → Prop), Rel K B env σ ((v, r) :: tm) H →
    d r env R → (∀ env' σ' H', R env' → Rel K B env' σ' tm H' → (∀ i, i ∉ ws → σ'[i]? = σ[i]?) → σ'.length = σ.length → Q σ' H') → t v σ H Q
/-- syntax, its reading, and the reading by data -/
structure XE (X : Cx) (pn : List Nat) (e : Expr) (t : TE) (d : DTE) : Prop where
  p : PE X e t
  d : DE X.K pn t d
structure XT (X : Cx) (pn : List Nat) (e : Expr) (t : TT) (d : DTT) : Prop where
  p : PT X e t
  d : DT X.K pn t d
structure XW (X : Cx) (pn : List Nat) (e : Expr) (t : TT) (d : DTT) : Prop where
  p : PW X e t
  d : DT X.K pn t d
structure XA (X : Cx) (pn : List Nat) (e : List Expr) (t : TA) (d : DTA) : Prop where
  p : PA X e t
  d : DA X.K pn t d
structure XS (X : Cx) (pn : List Nat) (e : Stmt) (t : TS) (d : DTS) : Prop where
  p : PS X e t
  d : DS X.K pn t d
structure XSs (X : Cx) (pn : List Nat) (e : List Stmt) (t : TS) (d : DTS) : Prop where
  p : PSs X e t
  d : DS X.K pn t d
structure XG (X : Cx) (pn ws : List Nat) (e : Expr) (t : TG) (d : DTG) : Prop where
  p : PG X e t
  d : DG X.K pn ws t d
end DL

/-! ## DLc.lean -/
namespace DL
open PySem PySem.Spec PyProof.Rows L2
section
variable {K : Frag} {B : Base} {env : Env} {σ : L2.St} {tm : List (V × D)} {H : Hp} {v : V} {x d : D} {pn : List Nat}
theorem Rel.val (R : Rel K B env σ tm H) {v : V} {d : D} (h : ∀ F, Rep K F v d) : Rel K B env σ ((v, d) :: tm) H := by
  obtain ⟨F, U, R⟩ := R
  exact ⟨F, _, R.push (h F)⟩
theorem RelF.look {F : Hp} {U : Fam} (R : RelF K B F U env σ ((v, x) :: tm) H) (h : res env x = some d) : ∃ S, Own K F H v d S := by
  rcases R.tmp 0 v x rfl with q | ⟨j, rfl, q⟩
  · have e : x = d := by
      cases x <;> first | exact Option.some.inj h | (cases q with | frz q => cases q)
    subst e
    exact ⟨_, q⟩
  · obtain ⟨w, h1, h2⟩ := R.own j d (join_some.mp h)
    rw [h1] at q; cases q
    exact ⟨_, h2⟩
theorem Rel.look (R : Rel K B env σ ((v, x) :: tm) H) (h : res env x = some d) : ∃ F U S, RelF K B F U env σ ((v, x) :: tm) H ∧ Own K F H v d S := by
  obtain ⟨F, U, R⟩ := R
  obtain ⟨S, q⟩ := R.look h
  exact ⟨F, U, S, R, q⟩
/-- the second one put by -/
theorem Rel.look2 {w : V} {y : D} (R : Rel K B env σ ((w, y) :: (v, x) :: tm) H) (h : res env x = some d) : ∃ F U S, RelF K B F U env σ tm H ∧ Own K F H v d S ∧ Same F H := by
  obtain ⟨F, U, R⟩ := R
  have R1 := R.re ((v, x) :: tm) (· + 1) (fun i j e => Nat.succ.inj e) fun i x e => e
  obtain ⟨S, q⟩ := R1.look h
  exact ⟨F, _, S, R1.re tm (· + 1) (fun i j e => Nat.succ.inj e) fun i x e => e, q, R1.sub⟩
theorem Rel.look1 (R : Rel K B env σ ((v, x) :: tm) H) (h : res env x = some d) : ∃ F U S, RelF K B F U env σ tm H ∧ Own K F H v d S ∧ Same F H := by
  obtain ⟨F, U, R⟩ := R
  obtain ⟨S, q⟩ := R.look h
  exact ⟨F, _, S, R.re tm (· + 1) (fun i j e => Nat.succ.inj e) fun i x e => e, q, R.sub⟩
/-! ### what data holds -/
def lstC : D → Option (List D)
  | .lst ds => some ds
  | .mt ds => some ds
  | .scr ds => some ds
  | _ => none
def tupC : D → Option (List D)
  | .tup ds => some ds
  | _ => none
@[simp] theorem lstC_lst (ds : List D) : lstC (.lst ds) = some ds := rfl
@[simp] theorem lstC_mt (ds : List D) : lstC (.mt ds) = some ds := rfl
@[simp] theorem lstC_scr (ds : List D) : lstC (.scr ds) = some ds := rfl
@[simp] theorem tupC_tup (ds : List D) : tupC (.tup ds) = some ds := rfl
theorem Own.list {F : Hp} {S : Addr → Prop} {ds : List D} (h : Own K F H v d S) (sub : Same F H) (e : lstC d = some ds) :
    ∃ a vs, v = .ref a ∧ SqL K H a vs ∧ vs.length = ds.length ∧ ∀ (i : Nat) v d, vs[i]? = some v → ds[i]? = some d → Rep K F v d := by
  cases h with
  | frz h =>
    cases h <;> first | cases e | skip
    · rename_i h l r; exact ⟨_, _, rfl, .of (sub _ _ h), l, r⟩
    · rename_i h l r; exact ⟨_, _, rfl, sub.seq h, l, r⟩
  | mt ha h l r => cases e; exact ⟨_, _, rfl, .of h, l, r⟩
  | mm => cases e
  | mo => cases e
  | dc => cases e
theorem Own.tuple {F : Hp} {S : Addr → Prop} {ds : List D} (h : Own K F H v d S) (sub : Same F H) (e : tupC d = some ds) :
    ∃ a vs, v = .ref a ∧ SqT K H a vs ∧ vs.length = ds.length ∧ ∀ (i : Nat) v d, vs[i]? = some v → ds[i]? = some d → Rep K F v d := by
  cases h with
  | frz h =>
    cases h <;> first | cases e | skip
    rename_i h l r; exact ⟨_, _, rfl, seqT_same sub h, l, r⟩
  | mt => cases e
  | mm => cases e
  | mo => cases e
  | dc => cases e
/-- flat data as values -/
def scV : D → Option V
  | .non => some .non
  | .bl b => some (.bl b)
  | .int i => some (.int i)
  | .str s => some (.str s)
  | _ => none
@[simp] theorem scV_non : scV .non = some .non := rfl
@[simp] theorem scV_bl (b : Bool) : scV (.bl b) = some (.bl b) := rfl
@[simp] theorem scV_int (b : Int) : scV (.int b) = some (.int b) := rfl
@[simp] theorem scV_str (b : Str) : scV (.str b) = some (.str b) := rfl
def ofV : V → D
  | .bl b => .bl b
  | .int i => .int i
  | .str s => .str s
  | _ => .non
def isSc : V → Bool
  | .non => true
  | .bl _ => true
  | .int _ => true
  | .str _ => true
  | _ => false
@[simp] theorem ofV_non : ofV .non = .non := rfl
@[simp] theorem ofV_bl (b : Bool) : ofV (.bl b) = .bl b := rfl
@[simp] theorem ofV_int (b : Int) : ofV (.int b) = .int b := rfl
@[simp] theorem ofV_str (b : Str) : ofV (.str b) = .str b := rfl
theorem rep_sc {F : Hp} {v : V} (h : isSc v = true) : Rep K F v (ofV v) := by
  cases v with
  | non => exact .non
  | bl b => exact .bl b
  | int b => exact .int b
  | str b => exact .str b
  | _ => exact nomatch h
theorem Own.sc {F : Hp} {S : Addr → Prop} {u : V} (h : Own K F H v d S) (e : scV d = some u) : v = u := by
  cases h with
  | frz h => cases h <;> cases e <;> rfl
  | mt => cases e
  | mm => cases e
  | mo => cases e
  | dc => cases e
theorem Rel.sc (R : Rel K B env σ ((v, x) :: tm) H) {u : V} (e : scV x = some u) : v = u := by
  have h : res env x = some x := by cases x <;> first | rfl | cases e
  obtain ⟨F, U, S, _, q⟩ := R.look h
  exact q.sc e
theorem Rel.int {i : Int} (R : Rel K B env σ ((v, .int i) :: tm) H) : v = .int i := R.sc rfl
theorem Rel.int2 {w : V} {y : D} {i : Int} (R : Rel K B env σ ((w, y) :: (v, .int i) :: tm) H) : v = .int i := R.pop.sc rfl

/-! ### names, constants, what is frozen -/
@[simp] def dVar (i : Nat) : DTE := fun env Q => ∃ d, env[i]? = some (some d) ∧ Q (if isR d then d else .ptr i) env
theorem de_var (i : Nat) : DE K pn (tVar i) (dVar i) := ⟨fun B ok tm env σ H Q R r h k => by
  obtain ⟨F, U, r⟩ := r
  obtain ⟨d, e, h⟩ := h
  obtain ⟨v, h1, h2⟩ := r.own i d e
  refine ⟨v, h1, k _ _ _ _ h ⟨F, _, r.pushO ?_⟩⟩
  by_cases z : isR d = true
  · rw [if_pos z]; exact .inl (h2.toRep z)
  · rw [if_neg z]; exact .inr ⟨i, rfl, h1⟩⟩
@[simp] def dC (d : D) : DTE := fun env Q => Q d env
theorem de_c {v : V} (h : isSc v = true) : DE K pn (tC v) (dC (ofV v)) := ⟨fun B ok tm env σ H Q R r h' k => k _ _ _ _ h' (r.val fun F => rep_sc h)⟩
open Classical in
/-- a slot's own becomes what stands -/
theorem RelF.settleSlot {F : Hp} {U : Fam} (R : RelF K B F U env σ tm H) (i : Nat) (hi : i ∉ B.own) (e : env[i]? = some (some d)) {d' : D} (z : Frz d d') :
    RelF K B (fun b => if U (.inl i) b then H b else F b) (fun x => if x = .inl i then fun _ => False else U x) (env.set i (some d')) σ tm H :=
  R.settle (.inl i) (fun j hj e => hi (by cases e; exact hj)) _ _ (by rw [List.length_set]) (fun j dj e' => by
    by_cases h : i = j
    · subst h
      rw [List.getElem?_set_self', e] at e'
      cases e'
      obtain ⟨v, h1, h2⟩ := R.own i d e
      exact .inr ⟨v, d, h1, h2, z⟩
    · rw [List.getElem?_set_ne h] at e'
      exact .inl ⟨e', fun q => h (by cases q; rfl)⟩) fun j w dj e' => .inl ⟨e', fun q => nomatch q⟩
/-- a value, frozen -/
def fixK (pn : List Nat) (x : D) (env : Env) (Q : D → Env → Prop) : Prop :=
  match x with
  | .ptr i => ∃ d, env[i]? = some (some d) ∧ isF d = true ∧ pn.contains i = false ∧ Q (frz d) (env.set i (some (frz d)))
  | d => isF d = true ∧ Q (frz d) env
@[simp] def dFix (pn : List Nat) (d : DTE) : DTE := fun env Q => d env fun x e1 => fixK pn x e1 Q
theorem nptr_cases (x : D) : (∃ i, x = .ptr i) ∨ (∀ i, x ≠ .ptr i) := by
  cases x <;> first | exact .inl ⟨_, rfl⟩ | exact .inr fun i e => nomatch e
theorem fixK_np {pn : List Nat} {x : D} {env : Env} {Q : D → Env → Prop} (h : ∀ i, x ≠ .ptr i) : fixK pn x env Q = (isF x = true ∧ Q (frz x) env) := by
  cases x <;> first | rfl | exact absurd rfl (h _)
theorem Rel.fix (ok : Bok pn B) {Q : D → Env → Prop} (R : Rel K B env σ ((v, x) :: tm) H) (h : fixK pn x env Q) : ∃ r env', Q r env' ∧ isR r = true ∧ Rel K B env' σ ((v, r) :: tm) H := by
  rcases nptr_cases x with ⟨i, rfl⟩ | n
  · obtain ⟨d, e, hf, hp, q⟩ := h
    have hi : i ∉ B.own := fun z => by
      have q1 := ok.1 i z
      have q2 : i ∉ pn := by simpa using hp
      exact q2 q1
    obtain ⟨F, U, R⟩ := R
    have hv : σ[i]? = some (some v) := by
      rcases R.tmp 0 v _ rfl with q | ⟨j, q, q2⟩
      · cases q with | frz q => cases q
      · cases q; exact q2
    have R2 := R.settleSlot i hi e (Frz.of hf)
    have lt : i < env.length := (List.getElem?_eq_some_iff.mp e).1
    obtain ⟨w, h1, h2⟩ := R2.own i (frz d) (List.getElem?_set_self lt)
    rw [h1] at hv; cases hv
    have hR : DL.isR (frz d) = true := by cases d <;> first | rfl | exact absurd hf Bool.false_ne_true
    have h3 := h2.toRep hR
    exact ⟨_, _, q, hR, _, _, (R2.re tm (· + 1) (fun i j e => Nat.succ.inj e) fun i x e => e).push h3⟩
  · rw [fixK_np n] at h
    obtain ⟨hf, q⟩ := h
    have hR : DL.isR (frz x) = true := by cases x <;> first | rfl | exact absurd hf Bool.false_ne_true
    obtain ⟨F, U, R⟩ := R
    rcases R.tmp 0 v _ rfl with q1 | ⟨j, q1, _⟩
    · refine ⟨_, _, q, hR, _, _, R.settle (.inr 0) (fun i _ e => nomatch e) env ((v, frz x) :: tm) rfl (fun i d e => .inl ⟨e, fun z => nomatch z⟩) fun i w d e => ?_⟩
      cases i with
      | zero => cases e; exact .inr ⟨x, q1, Frz.of hf⟩
      | succ i => exact .inl ⟨e, fun z => nomatch z⟩
    · exact absurd q1 (n j)
theorem de_fix {t : TE} {da : DTE} (h : DE K pn t da) : DE K pn t (dFix pn da) := ⟨fun B ok tm env σ H Q R r h' k => h.run B ok tm env σ H Q _ r h' fun x e1 v H1 q r1 => by
  obtain ⟨r', e', q2, _, r2⟩ := r1.fix ok q
  exact k _ _ _ _ q2 r2⟩

/-! ### operators by data -/
abbrev DOp := D → D → Env → (D → Prop) → Prop
structure DO (K : Frag) (r : R2) (d : DOp) : Prop where
  run : ∀ (B : Base) (tm : List (V × D)) (env : Env) (σ : L2.St) (H : Hp) (x y : D) (v u : V) (Q : VK) (R : D → Prop), Rel K B env σ ((u, y) :: (v, x) :: tm) H → d x y env R → (∀ z w H', R z → Rel K B env σ ((w, z) :: tm) H' → Q w H') → r v u H Q
@[simp] def dOp (d : DOp) (da db : DTE) : DTE := fun env Q => da env fun x e1 => db e1 fun y e2 => d x y e2 fun z => Q z e2
theorem de_op {ta tb : TE} {da db : DTE} {r : R2} {o : DOp} (ho : DO K r o) (ha : DE K pn ta da) (hb : DE K pn tb db) : DE K pn (tOp r ta tb) (dOp o da db) :=
  ⟨fun B ok tm env σ H Q R r h k => ha.run B ok tm env σ H _ _ r h fun x e1 v H1 q1 r1 => hb.run B ok _ e1 σ H1 _ _ r1 q1 fun y e2 u H2 q2 r2 =>
    ho.run B tm e2 σ H2 x y v u _ _ r2 q2 fun z w H3 q3 r3 => k _ _ _ _ q3 r3⟩
@[simp] def oI0 (g : Int → Int → V) : DOp := fun x y _ Q => ∃ i j, x = .int i ∧ y = .int j ∧ Q (ofV (g i j))
@[simp] def oI (C : Int → Int → Prop) (g : Int → Int → V) : DOp := fun x y _ Q => ∃ i j, x = .int i ∧ y = .int j ∧ C i j ∧ Q (ofV (g i j))
theorem do_I0 {g : Int → Int → V} (sc : ∀ i j, isSc (g i j) = true := by intro _ _; rfl) : DO K (rI0 g) (oI0 g) := ⟨fun B tm env σ H x y v u Q R r h k => by
  obtain ⟨i, j, rfl, rfl, h⟩ := h
  exact ⟨i, j, r.int2, r.int, k _ _ _ h (r.pop.pop.val fun F => rep_sc (sc i j))⟩⟩
theorem do_I {C : Int → Int → Prop} {g : Int → Int → V} (sc : ∀ i j, isSc (g i j) = true := by intro _ _; rfl) : DO K (rI C g) (oI C g) := ⟨fun B tm env σ H x y v u Q R r h k => by
  obtain ⟨i, j, rfl, rfl, c, h⟩ := h
  exact ⟨i, j, r.int2, r.int, c, k _ _ _ h (r.pop.pop.val fun F => rep_sc (sc i j))⟩⟩
/-- == and != of flat data -/
@[simp] def oEqS (neg : Bool) : DOp := fun x y _ Q => ∃ u w, scV x = some u ∧ scV y = some w ∧ scal u w = true ∧ Q (.bl (if neg then !decide (u = w) else decide (u = w)))
theorem do_eqS : DO K rEq (oEqS false) := ⟨fun B tm env σ H x y v u Q R r h k => by
  obtain ⟨a, b, e1, e2, s, h⟩ := h
  have z1 := r.pop.sc e1
  have z2 := r.sc e2
  subst z1 z2
  exact ⟨s, k _ _ _ h (r.pop.pop.val fun F => .bl _)⟩⟩
theorem do_neS : DO K rNe (oEqS true) := ⟨fun B tm env σ H x y v u Q R r h k => by
  obtain ⟨a, b, e1, e2, s, h⟩ := h
  have z1 := r.pop.sc e1
  have z2 := r.sc e2
  subst z1 z2
  exact ⟨s, k _ _ _ h (r.pop.pop.val fun F => .bl _)⟩⟩
/-- is None, is not None -/
def isNon : D → Bool
  | .non => true
  | _ => false
theorem Own.non {F : Hp} {S : Addr → Prop} (h : Own K F H v d S) : decide (v = .non) = isNon d := by
  cases h with
  | frz h => cases h <;> rfl
  | mt => rfl
  | mm => rfl
  | mo => rfl
  | dc => rfl
@[simp] def oIsN (neg : Bool) : DOp := fun x y env Q => y = .non ∧ ∃ d, res env x = some d ∧ Q (.bl (if neg then !isNon d else isNon d))
theorem do_isN : DO K (fun x y H Q => y = .non ∧ Q (.bl (decide (x = .non))) H) (oIsN false) := ⟨fun B tm env σ H x y v u Q R r h k => by
  obtain ⟨rfl, d, e, h⟩ := h
  obtain ⟨F, U, S, _, o⟩ := r.pop.look e
  refine ⟨r.sc rfl, k _ _ _ h (r.pop.pop.val fun F => ?_)⟩
  rw [o.non]; exact .bl _⟩
theorem do_notN : DO K (fun x y H Q => y = .non ∧ Q (.bl (!decide (x = .non))) H) (oIsN true) := ⟨fun B tm env σ H x y v u Q R r h k => by
  obtain ⟨rfl, d, e, h⟩ := h
  obtain ⟨F, U, S, _, o⟩ := r.pop.look e
  refine ⟨r.sc rfl, k _ _ _ h (r.pop.pop.val fun F => ?_)⟩
  rw [o.non]; exact .bl _⟩
theorem ixN_len {n m : Nat} (h : n = m) (i : Int) : ixN n i = ixN m i := by rw [h]
theorem atI_pair {vs : List V} {ds : List D} (l : vs.length = ds.length) {i : Int} {r : D} (h : atI ds i = some r) : ∃ (j : Nat) (v : V), atI vs i = some v ∧ vs[j]? = some v ∧ ds[j]? = some r := by
  unfold atI at h ⊢
  rw [l]
  cases e : ixN ds.length i with
  | none => rw [e] at h; cases h
  | some j =>
    rw [e] at h
    have h : ds[j]? = some r := h
    have hj : j < vs.length := by rw [l]; exact (List.getElem?_eq_some_iff.mp h).1
    exact ⟨j, vs[j], List.getElem?_eq_getElem hj, List.getElem?_eq_getElem hj, h⟩
@[simp] def oIxL : DOp := fun x y env Q => ∃ d ds i r, res env x = some d ∧ lstC d = some ds ∧ y = .int i ∧ atI ds i = some r ∧ Q r
theorem do_ixL : DO K (rIxL K) oIxL := ⟨fun B tm env σ H x y v u Q R r h k => by
  obtain ⟨d, ds, i, z, e1, e2, rfl, e3, h⟩ := h
  obtain ⟨F, U, S, r2, o, sub⟩ := r.look2 e1
  obtain ⟨a, vs, rfl, hs, l, rp⟩ := o.list sub e2
  obtain ⟨j, w, h1, h2, h3⟩ := atI_pair l e3
  exact ⟨a, vs, i, w, rfl, r.int, hs, h1, k _ _ _ h ⟨F, _, r2.push (rp j w z h2 h3)⟩⟩⟩
@[simp] def oIxT : DOp := fun x y env Q => ∃ ds i r, x = .tup ds ∧ y = .int i ∧ atI ds i = some r ∧ Q r
theorem do_ixT : DO K (rIxT K) oIxT := ⟨fun B tm env σ H x y v u Q R r h k => by
  obtain ⟨ds, i, z, rfl, rfl, e3, h⟩ := h
  obtain ⟨F, U, S, r2, o, sub⟩ := r.look2 (d := .tup ds) rfl
  obtain ⟨a, vs, rfl, hs, l, rp⟩ := o.tuple sub rfl
  obtain ⟨j, w, h1, h2, h3⟩ := atI_pair l e3
  exact ⟨a, vs, i, w, rfl, r.int, hs, h1, k _ _ _ h ⟨F, _, r2.push (rp j w z h2 h3)⟩⟩⟩
@[simp] def oIxS : DOp := fun x y _ Q => ∃ z i c, x = .str z ∧ y = .int i ∧ z.length ≤ sizeLine ∧ atI z.cps.toList i = some c ∧ Q (.str ⟨#[c]⟩)
theorem do_ixS : DO K rIxS oIxS := ⟨fun B tm env σ H x y v u Q R r h k => by
  obtain ⟨z, i, c, rfl, rfl, e1, e2, h⟩ := h
  exact ⟨z, i, c, r.pop.sc rfl, r.int, e1, e2, k _ _ _ h (r.pop.pop.val fun F => .str _)⟩⟩
/-- in, not in, of flat items -/
def flatD : D → Bool := fun d => (scV d).isSome
@[simp] def oIn (neg : Bool) : DOp := fun x y env Q => ∃ d ds u vs, res env y = some d ∧ (lstC d = some ds ∨ tupC d = some ds) ∧ scV x = some u ∧ ds.mapM scV = some vs ∧ Q (.bl (if neg then !inV u vs else inV u vs))
theorem sc_all {F : Hp} : ∀ {ds : List D} {vs ws : List V}, vs.length = ds.length → (∀ (i : Nat) v d, vs[i]? = some v → ds[i]? = some d → Rep K F v d) → ds.mapM scV = some ws → vs = ws
  | [], [], ws, _, _, h => by cases h; rfl
  | d :: ds, v :: vs, ws, l, r, h => by
    rw [List.mapM_cons] at h
    cases e : scV d with
    | none => rw [e] at h; cases h
    | some u =>
      rw [e] at h
      cases e2 : List.mapM scV ds with
      | none => rw [e2] at h; cases h
      | some ws' =>
        rw [e2] at h
        cases h
        have q : v = u := Own.sc (H := F) (S := fun _ => False) (.frz (r 0 v d rfl rfl)) e
        rw [q, sc_all (Nat.succ.inj l) (fun i v' d' h1 h2 => r (i + 1) v' d' h1 h2) e2]
theorem flat_sc {d : D} {v : V} (h : scV d = some v) : flatV v = true := by
  cases d <;> cases h <;> rfl
theorem flat_all : ∀ {ds : List D} {vs : List V}, ds.mapM scV = some vs → vs.all flatV = true
  | [], ws, h => by cases h; rfl
  | d :: ds, ws, h => by
    rw [List.mapM_cons] at h
    cases e : scV d with
    | none => rw [e] at h; cases h
    | some u =>
      rw [e] at h
      cases e2 : List.mapM scV ds with
      | none => rw [e2] at h; cases h
      | some ws' =>
        rw [e2] at h
        cases h
        rw [List.all_cons, flat_sc e, flat_all e2]; rfl
theorem do_in {neg : Bool} : DO K (rIn K neg) (oIn neg) := ⟨fun B tm env σ H x y v u Q R r h k => by
  obtain ⟨d, ds, w, ws, e1, e2, e3, e4, h⟩ := h
  have z := r.pop.sc e3
  subst z
  obtain ⟨F, U, S, r2, o, sub⟩ := r.look1 e1
  have fin : ∀ a vs, vs.length = ds.length → (∀ (i : Nat) v d, vs[i]? = some v → ds[i]? = some d → Rep K F v d) → u = .ref a → (SqL K H a vs ∨ SqT K H a vs) → rIn K neg v u H Q := fun a vs l rp e hs => by
    have q := sc_all l rp e4
    subst q
    exact ⟨a, vs, e, hs, flat_sc e3, flat_all e4, k _ _ _ h (r.pop.pop.val fun F => .bl _)⟩
  rcases e2 with e2 | e2
  · obtain ⟨a, vs, e, hs, l, rp⟩ := o.list sub e2
    exact fin a vs l rp e (.inl hs)
  · obtain ⟨a, vs, e, hs, l, rp⟩ := o.tuple sub e2
    exact fin a vs l rp e (.inr hs)⟩
/-- == and != of data at any depth -/
def toPy : D → PyData
  | .bl b => .bool b
  | .int i => .int i
  | .str s => .str s
  | .lst ds => .list (toPys ds)
  | .scr ds => .list (toPys ds)
  | .mt ds => .list (toPys ds)
  | .tup ds => .tuple (toPys ds)
  | _ => .none
where toPys : List D → List PyData
  | [] => []
  | d :: ds => toPy d :: toPys ds
def isPy : D → Bool
  | .non => true
  | .bl b => true
  | .int i => true
  | .str s => true
  | .lst ds => isPys ds
  | .scr ds => isPys ds
  | .mt ds => isPys ds
  | .tup ds => isPys ds
  | _ => false
where isPys : List D → Bool
  | [] => true
  | d :: ds => isPy d && isPys ds
end
end DL

/-! ## DLd.lean -/
namespace DL
open PySem PySem.Spec PyProof.Rows L2
section
variable {K : Frag} {B : Base} {env : Env} {σ : L2.St} {tm : List (V × D)} {H : Hp} {v : V} {x d : D} {pn : List Nat}
/-! ### == of data at any depth -/
theorem dpAll_of {F : Hp} {ds : List D} : ∀ {vs : List V}, vs.length = ds.length → (∀ (i : Nat) v d, vs[i]? = some v → ds[i]? = some d → Dp K H v (toPy d)) → DpAll K H vs (toPy.toPys ds) := by
  induction ds with
  | nil =>
    intro vs l r
    cases vs with
    | nil => exact .nil
    | cons => cases l
  | cons d ds ih =>
    intro vs l r
    cases vs with
    | nil => cases l
    | cons v vs => exact .cons (r 0 v d rfl rfl) (ih (Nat.succ.inj l) fun i v' d' h1 h2 => r (i + 1) v' d' h1 h2)
theorem isPys_get : ∀ {ds : List D} {i : Nat} {d : D}, isPy.isPys ds = true → ds[i]? = some d → isPy d = true
  | [], _, _, _, e => by simp at e
  | d :: ds, 0, _, h, e => by cases e; exact (Bool.and_eq_true_iff.mp h).1
  | d :: ds, i + 1, _, h, e => isPys_get (ds := ds) (i := i) (Bool.and_eq_true_iff.mp h).2 e
theorem Rep.dp {F : Hp} (sub : Same F H) (h : Rep K F v d) (p : isPy d = true) : Dp K H v (toPy d) := by
  induction h with
  | non => exact .non
  | bl b => exact .bl b
  | int b => exact .int b
  | str b => exact .str b
  | lst h l _ ih => exact .lst (.of (sub _ _ h)) (dpAll_of (F := F) l fun i v d h1 h2 => ih i v d h1 h2 (isPys_get p h2))
  | scr h l _ ih => exact .lst (sub.seq h) (dpAll_of (F := F) l fun i v d h1 h2 => ih i v d h1 h2 (isPys_get p h2))
  | tup h l _ ih => exact .tup (seqT_same sub h) (dpAll_of (F := F) l fun i v d h1 h2 => ih i v d h1 h2 (isPys_get p h2))
  | obj => exact nomatch p
  | ty => exact nomatch p
  | cls => exact nomatch p
  | «at» => exact nomatch p
theorem Own.dp {F : Hp} {S : Addr → Prop} (sub : Same F H) (h : Own K F H v d S) (p : isPy d = true) : Dp K H v (toPy d) := by
  cases h with
  | frz h => exact h.dp sub p
  | mt ha h l r => exact .lst (.of h) (dpAll_of (F := F) l fun i v d h1 h2 => (r i v d h1 h2).dp sub (isPys_get p h2))
  | mm => exact nomatch p
  | mo => exact nomatch p
  | dc => exact nomatch p
structure EqD (d e : D) (b : Bool) : Prop where
  p1 : isPy d = true
  p2 : isPy e = true
  s1 : SeqAt.shaped (toPy d) = true
  s2 : SeqAt.shaped (toPy e) = true
  eq : PyData.eqv (toPy d) (toPy e) = b
@[simp] def oEqD (neg : Bool) : DOp := fun x y env Q => ∃ d e b, res env x = some d ∧ res env y = some e ∧ EqD d e b ∧ Q (.bl (if neg then !b else b))
theorem do_eqD : DO K (rEqD K) (oEqD false) := ⟨fun B tm env σ H x y v u Q R r h k => by
  obtain ⟨d, e, b, e1, e2, q, h⟩ := h
  obtain ⟨F, U, S, r2, o, sub⟩ := r.look2 e1
  obtain ⟨F', U', S', r3, o', sub'⟩ := r.look1 e2
  refine ⟨toPy d, toPy e, o.dp sub q.p1, o'.dp sub' q.p2, q.s1, q.s2, k _ _ _ h (r.pop.pop.val fun F => ?_)⟩
  rw [q.eq]; exact .bl _⟩
theorem do_neD : DO K (rNeD K) (oEqD true) := ⟨fun B tm env σ H x y v u Q R r h k => by
  obtain ⟨d, e, b, e1, e2, q, h⟩ := h
  obtain ⟨F, U, S, r2, o, sub⟩ := r.look2 e1
  obtain ⟨F', U', S', r3, o', sub'⟩ := r.look1 e2
  refine ⟨toPy d, toPy e, o.dp sub q.p1, o'.dp sub' q.p2, q.s1, q.s2, k _ _ _ h (r.pop.pop.val fun F => ?_)⟩
  rw [q.eq]; exact .bl _⟩
/-! ### typed data -/
class Dat (α : Type) where
  toD : α → D
  dep : Nat
  ok : α → Bool
  py : ∀ x, isPy (toD x) = true
  lay : ∀ x, ok x = true → (toPy (toD x)).canLay0 = true
  dp : ∀ x, (toPy (toD x)).depth ≤ dep
  eqv : ∀ x y, PyData.eqv (toPy (toD x)) (toPy (toD y)) = true ↔ x = y
  rr : ∀ x, isR (toD x) = true
open Dat (toD)
instance : Dat Int where
  toD := .int
  dep := 0
  ok := fun _ => true
  py := fun _ => rfl
  lay := fun _ _ => by simp [toPy, PyData.canLay0]
  dp := fun _ => by simp [toPy, PyData.depth]
  eqv := fun x y => by simp [toPy, PyData.eqv]
  rr := fun _ => rfl
instance : Dat Bool where
  toD := .bl
  dep := 0
  ok := fun _ => true
  py := fun _ => rfl
  lay := fun _ _ => by simp [toPy, PyData.canLay0]
  dp := fun _ => by simp [toPy, PyData.depth]
  eqv := fun x y => by simp [toPy, PyData.eqv]
  rr := fun _ => rfl
instance : Dat Str where
  toD := .str
  dep := 0
  ok := fun x => PyData.strOk x
  py := fun _ => rfl
  lay := fun _ h => by simpa [toPy, PyData.canLay0] using h
  dp := fun _ => by simp [toPy, PyData.depth]
  eqv := fun x y => by simp [toPy, PyData.eqv]
  rr := fun _ => rfl
theorem isPys_map {α : Type} [Dat α] : ∀ xs : List α, isPy.isPys (xs.map toD) = true
  | [] => rfl
  | x :: xs => by
    show (isPy (toD x) && isPy.isPys (xs.map toD)) = true
    rw [Dat.py, isPys_map xs]; rfl
theorem layAll_map {α : Type} [Dat α] : ∀ xs : List α, xs.all Dat.ok = true → PyData.canLayAll0 (toPy.toPys (xs.map toD)) = true
  | [], _ => by simp [toPy.toPys, PyData.canLayAll0]
  | x :: xs, h => by
    rw [List.all_cons, Bool.and_eq_true] at h
    show PyData.canLayAll0 (toPy (toD x) :: toPy.toPys (xs.map toD)) = true
    simp only [PyData.canLayAll0]
    rw [Dat.lay x h.1, layAll_map xs h.2]; rfl
theorem depAll_map {α : Type} [Dat α] : ∀ xs : List α, PyData.depthAll (toPy.toPys (xs.map toD)) ≤ Dat.dep α
  | [] => by simp [toPy.toPys, PyData.depthAll]
  | x :: xs => by
    show PyData.depthAll (toPy (toD x) :: toPy.toPys (xs.map toD)) ≤ Dat.dep α
    simp only [PyData.depthAll]
    have h1 := Dat.dp x
    have h2 := depAll_map xs
    exact Nat.max_le.mpr ⟨h1, h2⟩
theorem eqvAll_map {α : Type} [Dat α] : ∀ xs ys : List α, PyData.eqvAll (toPy.toPys (xs.map toD)) (toPy.toPys (ys.map toD)) = true ↔ xs = ys
  | [], [] => by simp [toPy.toPys, PyData.eqvAll]
  | x :: xs, [] => by simp [toPy.toPys, PyData.eqvAll]
  | [], y :: ys => by simp [toPy.toPys, PyData.eqvAll]
  | x :: xs, y :: ys => by
    show PyData.eqvAll (toPy (toD x) :: toPy.toPys (xs.map toD)) (toPy (toD y) :: toPy.toPys (ys.map toD)) = true ↔ x :: xs = y :: ys
    simp only [PyData.eqvAll]
    rw [Bool.and_eq_true, Dat.eqv, eqvAll_map xs ys, List.cons.injEq]
instance {α : Type} [Dat α] : Dat (List α) where
  toD := fun xs => .lst (xs.map toD)
  dep := Dat.dep α + 1
  ok := fun xs => xs.all Dat.ok
  py := fun xs => isPys_map xs
  lay := fun xs h => by
    show PyData.canLay0 (.list (toPy.toPys (xs.map toD))) = true
    simp only [PyData.canLay0]
    exact layAll_map xs h
  dp := fun xs => by
    show PyData.depth (.list (toPy.toPys (xs.map toD))) ≤ Dat.dep α + 1
    simp only [PyData.depth]
    have := depAll_map xs
    omega
  eqv := fun x y => by
    show PyData.eqv (.list (toPy.toPys (x.map toD))) (.list (toPy.toPys (y.map toD))) = true ↔ x = y
    simp only [PyData.eqv]
    exact eqvAll_map x y
  rr := fun _ => rfl
instance {α β : Type} [Dat α] [Dat β] : Dat (α × β) where
  toD := fun p => .tup [toD p.1, toD p.2]
  dep := max (Dat.dep α) (Dat.dep β) + 1
  ok := fun p => Dat.ok p.1 && Dat.ok p.2
  py := fun p => by
    show (isPy (toD p.1) && (isPy (toD p.2) && true)) = true
    rw [Dat.py, Dat.py]; rfl
  lay := fun p h => by
    rw [Bool.and_eq_true] at h
    show PyData.canLay0 (.tuple [toPy (toD p.1), toPy (toD p.2)]) = true
    simp only [PyData.canLay0, PyData.canLayAll0]
    rw [Dat.lay _ h.1, Dat.lay _ h.2]; rfl
  dp := fun p => by
    show PyData.depth (.tuple [toPy (toD p.1), toPy (toD p.2)]) ≤ _
    simp only [PyData.depth, PyData.depthAll]
    have h1 := Dat.dp p.1
    have h2 := Dat.dp p.2
    omega
  eqv := fun x y => by
    show PyData.eqv (.tuple [toPy (toD x.1), toPy (toD x.2)]) (.tuple [toPy (toD y.1), toPy (toD y.2)]) = true ↔ x = y
    simp only [PyData.eqv, PyData.eqvAll, Bool.and_true]
    rw [Bool.and_eq_true, Dat.eqv, Dat.eqv, Prod.ext_iff]
  rr := fun _ => rfl
theorem toD_int (i : Int) : toD i = .int i := rfl
theorem toD_bl (i : Bool) : toD i = .bl i := rfl
theorem toD_str (i : Str) : toD i = .str i := rfl
theorem toD_list {α : Type} [Dat α] (xs : List α) : toD xs = .lst (xs.map toD) := rfl
theorem toD_pair {α β : Type} [Dat α] [Dat β] (p : α × β) : toD p = .tup [toD p.1, toD p.2] := rfl
theorem eqD_of {α : Type} [Dat α] [DecidableEq α] (x y : α) (hd : Dat.dep α ≤ 64) (hx : Dat.ok x = true) (hy : Dat.ok y = true) : EqD (toD x) (toD y) (decide (x = y)) where
  p1 := Dat.py x
  p2 := Dat.py y
  s1 := by
    unfold SeqAt.shaped
    rw [Dat.lay x hx, decide_eq_true (Nat.le_trans (Dat.dp x) hd)]; rfl
  s2 := by
    unfold SeqAt.shaped
    rw [Dat.lay y hy, decide_eq_true (Nat.le_trans (Dat.dp y) hd)]; rfl
  eq := by
    rw [Bool.eq_iff_iff, Dat.eqv, decide_eq_true_eq]
theorem EqD.mtl {xs : List D} {e : D} {b : Bool} (h : EqD (.lst xs) e b) : EqD (.mt xs) e b := ⟨h.p1, h.p2, h.s1, h.s2, h.eq⟩
theorem EqD.mtr {xs : List D} {e : D} {b : Bool} (h : EqD e (.lst xs) b) : EqD e (.mt xs) b := ⟨h.p1, h.p2, h.s1, h.s2, h.eq⟩
end
end DL

/-! ## DLe.lean -/
namespace DL
open PySem PySem.Spec PyProof.Rows L2
open Dat (toD)
section
variable {K : Frag} {B : Base} {env : Env} {σ : L2.St} {tm : List (V × D)} {H : Hp} {v : V} {x d : D} {pn : List Nat} {F : Hp} {U : Fam}
/-! ### arguments -/
@[simp] def dNil : DTA := fun env Q => Q [] env
@[simp] def dCons (da : DTE) (dr : DTA) : DTA := fun env Q => da env fun x e1 => dr e1 fun xs e2 => Q (x :: xs) e2
theorem da_nil : DA K pn tNil dNil := ⟨fun B ok tm env σ H Q R r h k => k [] env [] H h rfl r⟩
theorem da_cons {ta : TE} {tr : TA} {da : DTE} {dr : DTA} (ha : DE K pn ta da) (hr : DA K pn tr dr) : DA K pn (tCons ta tr) (dCons da dr) :=
  ⟨fun B ok tm env σ H Q R r h k => ha.run B ok tm env σ H _ _ r h fun x e1 v H1 q1 r1 => hr.run B ok _ e1 σ H1 _ _ r1 q1 fun xs e2 vs H2 q2 l r2 =>
    k (x :: xs) e2 (v :: vs) H2 q2 (by simp [l]) (show Rel K B e2 σ ((v, x) :: (vs.zip xs ++ tm)) H2 from Rel.under (l := vs.zip xs) r2)⟩
theorem RelF.kids {vs : List V} {ds : List D} (R : RelF K B F U env σ (vs.zip ds ++ tm) H) (l : vs.length = ds.length) (h : ds.all isR = true) : ∀ (i : Nat) v d, vs[i]? = some v → ds[i]? = some d → Rep K F v d := fun i v d h1 h2 => by
  obtain ⟨w, g1, g2⟩ := zip_get l h2
  rw [h1] at g1; cases g1
  have hlt : i < (vs.zip ds).length := (List.getElem?_eq_some_iff.mp g2).1
  have hr := List.all_eq_true.mp h d (List.mem_of_getElem? h2)
  rcases R.tmp i v d (by rw [List.getElem?_append_left hlt]; exact g2) with q | ⟨j, q, _⟩
  · exact q.toRep hr
  · rw [q] at hr; exact nomatch hr
theorem RelF.popL {l : List (V × D)} (R : RelF K B F U env σ (l ++ tm) H) : ∃ U', RelF K B F U' env σ tm H := by
  refine ⟨_, R.re tm (· + l.length) (fun i j e => Nat.add_right_cancel e) fun i x e => ?_⟩
  rw [List.getElem?_append_right (by omega), Nat.add_sub_cancel]; exact e
/-- a new list of one's own, of what stands -/
theorem RelF.newL (R : RelF K B F U env σ tm H) {p : Addr} (hp : H p = none) {vs : List V} {ds : List D} (l : vs.length = ds.length) (r : ∀ (i : Nat) v d, vs[i]? = some v → ds[i]? = some d → Rep K F v d) :
    Rel K B env σ ((.ref p, .mt ds) :: tm) (upd H p (.lst vs)) := ⟨F, _, R.pushNew hp (.mt rfl upd_same l r)⟩
theorem Rel.tupN (R : RelF K B F U env σ tm H) {p : Addr} (hp : H p = none) {vs : List V} {ds : List D} (l : vs.length = ds.length) (r : ∀ (i : Nat) v d, vs[i]? = some v → ds[i]? = some d → Rep K F v d) :
    Rel K B env σ ((.ref p, .tup ds) :: tm) (upd H p (.tup vs)) := by
  have R1 := R.grow (.tup vs) hp
  have s : Same F (upd F p (.tup vs)) := fun b u e => by rw [upd_ne (ne_of_none e (R.sub.free hp))]; exact e
  exact ⟨_, _, R1.push (.tup (.of upd_same) l fun i v d h1 h2 => (r i v d h1 h2).mono s)⟩
@[simp] def dLst (da : DTA) : DTE := fun env Q => da env fun ds e => ds.length ≤ sizeLine ∧ ds.all isR = true ∧ Q (.mt ds) e
@[simp] def dTup (da : DTA) : DTE := fun env Q => da env fun ds e => ds.length ≤ sizeLine ∧ ds.all isR = true ∧ Q (.tup ds) e
theorem de_lst {t : TA} {da : DTA} (h : DA K pn t da) : DE K pn (tLst t) (dLst da) := ⟨fun B ok tm env σ H Q R r h' k => h.run B ok tm env σ H _ _ r h' fun ds e vs H1 ⟨q1, q2, q3⟩ l r1 => by
  refine ⟨by rw [l]; exact q1, fun p hp => k _ _ _ _ q3 ?_⟩
  obtain ⟨F, U, r1⟩ := r1
  obtain ⟨U', r2⟩ := r1.popL
  exact r2.newL hp l (r1.kids l q2)⟩
theorem de_tup {t : TA} {da : DTA} (h : DA K pn t da) : DE K pn (tTup t) (dTup da) := ⟨fun B ok tm env σ H Q R r h' k => h.run B ok tm env σ H _ _ r h' fun ds e vs H1 ⟨q1, q2, q3⟩ l r1 => by
  refine ⟨by rw [l]; exact q1, fun p hp => k _ _ _ _ q3 ?_⟩
  obtain ⟨F, U, r1⟩ := r1
  obtain ⟨U', r2⟩ := r1.popL
  exact Rel.tupN r2 hp l (r1.kids l q2)⟩

/-! ### built-ins by data -/
abbrev DFn := List D → Env → (D → Prop) → Prop
structure DCl (K : Frag) (r : List V → Hp → VK → Prop) (d : DFn) : Prop where
  run : ∀ (B : Base) (tm : List (V × D)) (env : Env) (σ : L2.St) (H : Hp) (ds : List D) (vs : List V) (Q : VK) (R : D → Prop), vs.length = ds.length → Rel K B env σ (vs.zip ds ++ tm) H → d ds env R → (∀ z w H', R z → Rel K B env σ ((w, z) :: tm) H' → Q w H') → r vs H Q
@[simp] def dCB (f : DFn) (da : DTA) : DTE := fun env Q => da env fun ds e => f ds e fun z => Q z e
theorem de_cb {r : List V → Hp → VK → Prop} {t : TA} {f : DFn} {da : DTA} (hf : DCl K r f) (h : DA K pn t da) : DE K pn (tCB r t) (dCB f da) := ⟨fun B ok tm env σ H Q R r h' k => h.run B ok tm env σ H _ _ r h' fun ds e vs H1 q l r1 =>
  hf.run B tm e σ H1 ds vs _ _ l r1 q fun z w H2 q2 r2 => k _ _ _ _ q2 r2⟩
theorem len1 {vs : List V} {x : D} (l : vs.length = [x].length) : ∃ v, vs = [v] := by
  match vs, l with
  | [v], _ => exact ⟨v, rfl⟩
theorem len2 {vs : List V} {x y : D} (l : vs.length = [x, y].length) : ∃ v w, vs = [v, w] := by
  match vs, l with
  | [v, w], _ => exact ⟨v, w, rfl⟩
def lenC : D → Option Nat
  | .lst ds => some ds.length
  | .mt ds => some ds.length
  | .mm ds => some ds.length
  | .scr ds => some ds.length
  | .tup ds => some ds.length
  | _ => none
@[simp] theorem lenC_lst (ds : List D) : lenC (.lst ds) = some ds.length := rfl
@[simp] theorem lenC_mt (ds : List D) : lenC (.mt ds) = some ds.length := rfl
@[simp] theorem lenC_mm (ds : List D) : lenC (.mm ds) = some ds.length := rfl
@[simp] theorem lenC_scr (ds : List D) : lenC (.scr ds) = some ds.length := rfl
@[simp] theorem lenC_tup (ds : List D) : lenC (.tup ds) = some ds.length := rfl
@[simp] def cLen : DFn := fun ds env Q => ∃ x d n, ds = [x] ∧ res env x = some d ∧ lenC d = some n ∧ Q (.int n)
theorem Own.len {S : Addr → Prop} {n : Nat} (h : Own K F H v d S) (sub : Same F H) (e : lenC d = some n) : ∃ a vs, v = .ref a ∧ (SqL K H a vs ∨ SqT K H a vs) ∧ vs.length = n := by
  cases h with
  | frz h =>
    cases h <;> first | cases e | skip
    · rename_i h l r; exact ⟨_, _, rfl, .inl (.of (sub _ _ h)), l⟩
    · rename_i h l r; exact ⟨_, _, rfl, .inl (sub.seq h), l⟩
    · rename_i h l r; exact ⟨_, _, rfl, .inr (seqT_same sub h), l⟩
  | mt ha h l r => cases e; exact ⟨_, _, rfl, .inl (.of h), l⟩
  | mm Sc ha h l r => cases e; exact ⟨_, _, rfl, .inl (.of h), l⟩
  | mo => cases e
  | dc => cases e
theorem dc_len : DCl K (fun xs H Q => ∃ p ys, xs = [.ref p] ∧ (SqL K H p ys ∨ SqT K H p ys) ∧ Q (.int ys.length) H) cLen := ⟨fun B tm env σ H ds vs Q R l r h k => by
  obtain ⟨x, d, n, rfl, e1, e2, h⟩ := h
  obtain ⟨v, rfl⟩ := len1 l
  obtain ⟨F, U, S, r2, o, sub⟩ := Rel.look1 (tm := tm) r e1
  obtain ⟨a, ys, rfl, hs, hl⟩ := o.len sub e2
  refine ⟨a, ys, rfl, hs, ?_⟩
  rw [hl]
  exact k _ _ _ h (r.pop.val fun F => .int _)⟩
@[simp] def cLenS : DFn := fun ds env Q => ∃ z, ds = [.str z] ∧ z.length ≤ sizeLine ∧ Q (.int z.length)
theorem dc_lenS : DCl K (fun xs H Q => ∃ z, xs = [.str z] ∧ z.length ≤ sizeLine ∧ Q (.int z.length) H) cLenS := ⟨fun B tm env σ H ds vs Q R l r h k => by
  obtain ⟨z, rfl, e, h⟩ := h
  obtain ⟨v, rfl⟩ := len1 l
  have q := Rel.sc (tm := tm) r (u := .str z) rfl
  subst q
  exact ⟨z, rfl, e, k _ _ _ h (r.pop.val fun F => .int _)⟩⟩
def mxI (i j : Int) : Int := if j > i then j else i
def mnI (i j : Int) : Int := if j < i then j else i
theorem mxI_eq (i j : Int) : mxI i j = max i j := by unfold mxI; omega
theorem mnI_eq (i j : Int) : mnI i j = min i j := by unfold mnI; omega
@[simp] def cI2 (g : Int → Int → Int) : DFn := fun ds _ Q => ∃ i j, ds = [.int i, .int j] ∧ Q (.int (g i j))
theorem dc_I2 {g : Int → Int → Int} : DCl K (fun xs H Q => ∃ i j, xs = [.int i, .int j] ∧ Q (.int (g i j)) H) (cI2 g) := ⟨fun B tm env σ H ds vs Q R l r h k => by
  obtain ⟨i, j, rfl, h⟩ := h
  obtain ⟨v, w, rfl⟩ := len2 l
  have r' : Rel K B env σ ((v, .int i) :: (w, .int j) :: tm) H := r
  have q1 := r'.int
  have q2 := r'.pop.int
  subst q1 q2
  exact ⟨i, j, rfl, k _ _ _ h (r'.pop.pop.val fun F => .int _)⟩⟩
@[simp] def cI1 (g : Int → Int) : DFn := fun ds _ Q => ∃ i, ds = [.int i] ∧ Q (.int (g i))
theorem dc_I1 {g : Int → Int} : DCl K (fun xs H Q => ∃ i, xs = [.int i] ∧ Q (.int (g i)) H) (cI1 g) := ⟨fun B tm env σ H ds vs Q R l r h k => by
  obtain ⟨i, rfl, h⟩ := h
  obtain ⟨v, rfl⟩ := len1 l
  have r' : Rel K B env σ ((v, .int i) :: tm) H := r
  have q1 := r'.int
  subst q1
  exact ⟨i, rfl, k _ _ _ h (r'.pop.val fun F => .int _)⟩⟩
/-- int(b), int(i) -/
@[simp] def cInt : DFn := fun ds _ Q => (∃ i, ds = [.int i] ∧ Q (.int i)) ∨ ∃ b, ds = [.bl b] ∧ Q (.int (if b then 1 else 0))
theorem dc_int : DCl K (fun xs H Q => (∃ i, xs = [.int i] ∧ Q (.int i) H) ∨ ∃ k, xs = [.bl k] ∧ Q (.int (if k then 1 else 0)) H) cInt := ⟨fun B tm env σ H ds vs Q R l r h k => by
  rcases h with ⟨i, rfl, h⟩ | ⟨b, rfl, h⟩
  · obtain ⟨v, rfl⟩ := len1 l
    have r' : Rel K B env σ ((v, .int i) :: tm) H := r
    have q1 := r'.int
    subst q1
    exact .inl ⟨i, rfl, k _ _ _ h r'⟩
  · obtain ⟨v, rfl⟩ := len1 l
    have r' : Rel K B env σ ((v, .bl b) :: tm) H := r
    have q1 := r'.sc (u := .bl b) rfl
    subst q1
    exact .inr ⟨b, rfl, k _ _ _ h (r'.pop.val fun F => .int _)⟩⟩
/-- list(xs): a new one -/
@[simp] def cList : DFn := fun ds env Q => ∃ x d xs, ds = [x] ∧ res env x = some d ∧ (lstC d = some xs ∨ tupC d = some xs) ∧ Q (.mt xs)
theorem dc_list : DCl K (fun xs H Q => ∃ p ys, xs = [.ref p] ∧ (SqL K H p ys ∨ SqT K H p ys) ∧ ∀ l, H l = none → Q (.ref l) (upd H l (.lst ys))) cList := ⟨fun B tm env σ H ds vs Q R l r h k => by
  obtain ⟨x, d, xs, rfl, e1, e2, h⟩ := h
  obtain ⟨v, rfl⟩ := len1 l
  obtain ⟨F, U, S, r2, o, sub⟩ := Rel.look1 (tm := tm) r e1
  rcases e2 with e2 | e2
  · obtain ⟨a, ys, rfl, hs, hl, rp⟩ := o.list sub e2
    exact ⟨a, ys, rfl, .inl hs, fun p hp => k _ _ _ h (r2.newL hp hl rp)⟩
  · obtain ⟨a, ys, rfl, hs, hl, rp⟩ := o.tuple sub e2
    exact ⟨a, ys, rfl, .inr hs, fun p hp => k _ _ _ h (r2.newL hp hl rp)⟩⟩
theorem ints_of {ns : List Int} : ∀ {vs : List V}, vs.length = (ns.map D.int).length → (∀ (i : Nat) v d, vs[i]? = some v → (ns.map D.int)[i]? = some d → Rep K F v d) → vs = ns.map V.int := by
  induction ns with
  | nil => intro vs l _; exact List.length_eq_zero_iff.mp l
  | cons n ns ih =>
    intro vs l r
    match vs, l with
    | v :: vs, l =>
      have h := r 0 v (.int n) rfl rfl
      cases h
      rw [ih (Nat.succ.inj l) fun i v d h1 h2 => r (i + 1) v d h1 h2]; rfl
theorem bools_of {ns : List Bool} : ∀ {vs : List V}, vs.length = (ns.map D.bl).length → (∀ (i : Nat) v d, vs[i]? = some v → (ns.map D.bl)[i]? = some d → Rep K F v d) → vs = ns.map V.bl := by
  induction ns with
  | nil => intro vs l _; exact List.length_eq_zero_iff.mp l
  | cons n ns ih =>
    intro vs l r
    match vs, l with
    | v :: vs, l =>
      have h := r 0 v (.bl n) rfl rfl
      cases h
      rw [ih (Nat.succ.inj l) fun i v d h1 h2 => r (i + 1) v d h1 h2]; rfl
@[simp] def cSum : DFn := fun ds env Q => ∃ (x d : D) (ns : List Int), ds = [x] ∧ res env x = some d ∧ lstC d = some (ns.map D.int) ∧ Q (.int ns.sum)
theorem dc_sum : DCl K (rSum K) cSum := ⟨fun B tm env σ H ds vs Q R l r h k => by
  obtain ⟨x, d, ns, rfl, e1, e2, h⟩ := h
  obtain ⟨v, rfl⟩ := len1 l
  obtain ⟨F, U, S, r2, o, sub⟩ := Rel.look1 (tm := tm) r e1
  obtain ⟨a, ys, rfl, hs, hl, rp⟩ := o.list sub e2
  have q := ints_of hl rp
  subst q
  exact ⟨a, ns, rfl, hs, k _ _ _ h (Rel.val ⟨_, _, r2⟩ fun F => .int _)⟩⟩
@[simp] def cBools (g : List Bool → Bool) : DFn := fun ds env Q => ∃ (x d : D) (bs : List Bool), ds = [x] ∧ res env x = some d ∧ lstC d = some (bs.map D.bl) ∧ Q (.bl (g bs))
theorem dc_bools {g : List Bool → Bool} : DCl K (fun vs H Q => ∃ (a : Addr) (bs : List Bool), vs = [V.ref a] ∧ SqL K H a (bs.map V.bl) ∧ Q (.bl (g bs)) H) (cBools g) := ⟨fun B tm env σ H ds vs Q R l r h k => by
  obtain ⟨x, d, ns, rfl, e1, e2, h⟩ := h
  obtain ⟨v, rfl⟩ := len1 l
  obtain ⟨F, U, S, r2, o, sub⟩ := Rel.look1 (tm := tm) r e1
  obtain ⟨a, ys, rfl, hs, hl, rp⟩ := o.list sub e2
  have q := bools_of hl rp
  subst q
  exact ⟨a, ns, rfl, hs, k _ _ _ h (Rel.val ⟨_, _, r2⟩ fun F => .bl _)⟩⟩
@[simp] def cDivmod : DFn := fun ds _ Q => ∃ i j, ds = [.int i, .int j] ∧ CDiv i j ∧ Q (.tup [.int (i / j), .int (i % j)])
theorem dc_divmod : DCl K (fun xs H Q => ∃ i j, xs = [.int i, .int j] ∧ CDiv i j ∧ ∀ p, H p = none → Q (.ref p) (upd H p (.tup [.int (i / j), .int (i % j)]))) cDivmod := ⟨fun B tm env σ H ds vs Q R l r h k => by
  obtain ⟨i, j, rfl, c, h⟩ := h
  obtain ⟨v, w, rfl⟩ := len2 l
  have r' : Rel K B env σ ((v, .int i) :: (w, .int j) :: tm) H := r
  have q1 := r'.int
  have q2 := r'.pop.int
  subst q1 q2
  obtain ⟨F, U, r2⟩ := r'.pop.pop
  refine ⟨i, j, rfl, c, fun p hp => k _ _ _ h (Rel.tupN r2 hp rfl fun n v d h1 h2 => ?_)⟩
  match n, h1, h2 with
  | 0, h1, h2 => cases h1; cases h2; exact .int _
  | 1, h1, h2 => cases h1; cases h2; exact .int _⟩
/-! ### + of lists, of texts -/
def trkC : D → Option (List D)
  | .lst ds => some ds
  | .mt ds => some ds
  | _ => none
@[simp] theorem trkC_lst (ds : List D) : trkC (.lst ds) = some ds := rfl
@[simp] theorem trkC_mt (ds : List D) : trkC (.mt ds) = some ds := rfl
theorem Own.trk {S : Addr → Prop} {ds : List D} (h : Own K F H v d S) (sub : Same F H) (e : trkC d = some ds) :
    ∃ a vs, v = .ref a ∧ H a = some (.lst vs) ∧ vs.length = ds.length ∧ ∀ (i : Nat) v d, vs[i]? = some v → ds[i]? = some d → Rep K F v d := by
  cases h with
  | frz h =>
    cases h <;> first | cases e | skip
    rename_i h l r; exact ⟨_, _, rfl, sub _ _ h, l, r⟩
  | mt ha h l r => cases e; exact ⟨_, _, rfl, h, l, r⟩
  | mm => cases e
  | mo => cases e
  | dc => cases e
@[simp] def oCat : DOp := fun x y env Q => ∃ d e xs ys, res env x = some d ∧ res env y = some e ∧ trkC d = some xs ∧ trkC e = some ys ∧ xs.length + ys.length ≤ sizeLine ∧ Q (.mt (xs ++ ys))
theorem app_rep {vs ws : List V} {xs ys : List D} (l : vs.length = xs.length) (l2 : ws.length = ys.length) (r : ∀ (i : Nat) v d, vs[i]? = some v → xs[i]? = some d → Rep K F v d) (r2 : ∀ (i : Nat) v d, ws[i]? = some v → ys[i]? = some d → Rep K F v d) :
    ∀ (i : Nat) v d, (vs ++ ws)[i]? = some v → (xs ++ ys)[i]? = some d → Rep K F v d := fun i v d h1 h2 => by
  by_cases hi : i < vs.length
  · rw [List.getElem?_append_left hi] at h1
    rw [List.getElem?_append_left (by omega)] at h2
    exact r i v d h1 h2
  · rw [List.getElem?_append_right (by omega)] at h1
    rw [List.getElem?_append_right (by omega), ← l] at h2
    exact r2 _ v d h1 h2
theorem do_cat : DO K rCat oCat := ⟨fun B tm env σ H x y v u Q R r h k => by
  obtain ⟨d, e, xs, ys, e1, e2, e3, e4, hl, h⟩ := h
  obtain ⟨F, U, r⟩ := r
  have r1 := r.re ((v, x) :: tm) (· + 1) (fun i j e => Nat.succ.inj e) fun i x e => e
  obtain ⟨S, o⟩ := r1.look e1
  obtain ⟨S', o'⟩ := r.look e2
  obtain ⟨a, vs, rfl, ha, l1, p1⟩ := o.trk r.sub e3
  obtain ⟨b, ws, rfl, hb, l2, p2⟩ := o'.trk r.sub e4
  refine ⟨a, b, vs, ws, rfl, rfl, ha, hb, by omega, fun p hp => k _ _ _ h ?_⟩
  exact (r1.re tm (· + 1) (fun i j e => Nat.succ.inj e) fun i x e => e).newL hp (by simp [l1, l2]) (app_rep l1 l2 p1 p2)⟩
@[simp] def oCatS : DOp := fun x y _ Q => ∃ i j, x = .str i ∧ y = .str j ∧ i.length + j.length ≤ sizeLine ∧ Q (.str (i ++ j))
theorem do_catS : DO K (fun x y H Q => ∃ i j, x = .str i ∧ y = .str j ∧ i.length + j.length ≤ sizeLine ∧ Q (.str (i ++ j)) H) oCatS := ⟨fun B tm env σ H x y v u Q R r h k => by
  obtain ⟨i, j, rfl, rfl, hl, h⟩ := h
  exact ⟨i, j, r.pop.sc rfl, r.sc rfl, hl, k _ _ _ h (r.pop.pop.val fun F => .str _)⟩⟩
end
end DL

/-! ## DLf.lean -/
namespace DL
open PySem PySem.Spec PyProof.Rows L2
open Dat (toD)
section
variable {K : Frag} {B : Base} {env : Env} {σ : L2.St} {tm : List (V × D)} {H : Hp} {v : V} {x d : D} {pn : List Nat} {F : Hp} {U : Fam}
/-! ### tests -/
@[simp] def dTest (d : DTE) : DTT := fun env Q => d env fun x e => ∃ k, x = .bl k ∧ Q k e
theorem dt_test {t : TE} {da : DTE} (h : DE K pn t da) : DT K pn (tTest t) (dTest da) := ⟨fun B ok tm env σ H Q R r h' k => h.run B ok tm env σ H _ _ r h' fun x e v H1 ⟨b, q, q2⟩ r1 => by
  subst q
  have q1 := r1.sc (u := .bl b) rfl
  subst q1
  exact ⟨b, rfl, k _ _ _ q2 r1.pop⟩⟩
theorem dt_b {t : TE} {da : DTE} (h : DE K pn t da) : DT K pn (tB t) (dTest da) := ⟨(dt_test h).run⟩
@[simp] def dAnd (t u : DTT) : DTT := fun env Q => t env fun c e => if c = true then u e Q else Q false e
@[simp] def dOr (t u : DTT) : DTT := fun env Q => t env fun c e => if c = true then Q true e else u e Q
@[simp] def dNot (t : DTT) : DTT := fun env Q => t env fun c e => Q (!c) e
theorem dt_and {t u : TT} {da db : DTT} (ha : DT K pn t da) (hb : DT K pn u db) : DT K pn (tAnd t u) (dAnd da db) := ⟨fun B ok tm env σ H Q R r h k => ha.run B ok tm env σ H _ _ r h fun c e H1 q r1 => by
  cases c with
  | true =>
    rw [if_pos rfl] at q ⊢
    exact hb.run B ok tm e σ H1 Q R r1 q k
  | false =>
    rw [if_neg Bool.false_ne_true] at q ⊢
    exact k _ _ _ q r1⟩
theorem dt_or {t u : TT} {da db : DTT} (ha : DT K pn t da) (hb : DT K pn u db) : DT K pn (tOr t u) (dOr da db) := ⟨fun B ok tm env σ H Q R r h k => ha.run B ok tm env σ H _ _ r h fun c e H1 q r1 => by
  cases c with
  | true =>
    rw [if_pos rfl] at q ⊢
    exact k _ _ _ q r1
  | false =>
    rw [if_neg Bool.false_ne_true] at q ⊢
    exact hb.run B ok tm e σ H1 Q R r1 q k⟩
theorem dt_not {t : TT} {da : DTT} (ha : DT K pn t da) : DT K pn (tNot t) (dNot da) := ⟨fun B ok tm env σ H Q R r h k => ha.run B ok tm env σ H _ _ r h fun c e H1 q r1 => k _ _ _ q r1⟩
@[simp] def dAndV (da db : DTE) : DTE := fun env Q => da env fun x e => ∃ c, x = .bl c ∧ if c = true then db e Q else Q (.bl false) e
@[simp] def dOrV (da db : DTE) : DTE := fun env Q => da env fun x e => ∃ c, x = .bl c ∧ if c = true then Q (.bl true) e else db e Q
@[simp] def dNotV (da : DTE) : DTE := fun env Q => da env fun x e => ∃ c, x = .bl c ∧ Q (.bl (!c)) e
theorem de_andV {t u : TE} {da db : DTE} (ha : DE K pn t da) (hb : DE K pn u db) : DE K pn (tAndV t u) (dAndV da db) := ⟨fun B ok tm env σ H Q R r h k => ha.run B ok tm env σ H _ _ r h fun x e v H1 ⟨c, q, q2⟩ r1 => by
  subst q
  have q1 := r1.sc (u := .bl c) rfl
  subst q1
  refine ⟨c, rfl, ?_⟩
  cases c with
  | true =>
    rw [if_pos rfl] at q2 ⊢
    exact hb.run B ok tm e σ H1 Q R r1.pop q2 k
  | false =>
    rw [if_neg Bool.false_ne_true] at q2 ⊢
    exact k _ _ _ _ q2 r1⟩
theorem de_orV {t u : TE} {da db : DTE} (ha : DE K pn t da) (hb : DE K pn u db) : DE K pn (tOrV t u) (dOrV da db) := ⟨fun B ok tm env σ H Q R r h k => ha.run B ok tm env σ H _ _ r h fun x e v H1 ⟨c, q, q2⟩ r1 => by
  subst q
  have q1 := r1.sc (u := .bl c) rfl
  subst q1
  refine ⟨c, rfl, ?_⟩
  cases c with
  | true =>
    rw [if_pos rfl] at q2 ⊢
    exact k _ _ _ _ q2 r1
  | false =>
    rw [if_neg Bool.false_ne_true] at q2 ⊢
    exact hb.run B ok tm e σ H1 Q R r1.pop q2 k⟩
theorem de_notV {t : TE} {da : DTE} (ha : DE K pn t da) : DE K pn (tNotV t) (dNotV da) := ⟨fun B ok tm env σ H Q R r h k => ha.run B ok tm env σ H _ _ r h fun x e v H1 ⟨c, q, q2⟩ r1 => by
  subst q
  have q1 := r1.sc (u := .bl c) rfl
  subst q1
  exact ⟨c, rfl, k _ _ _ _ q2 (r1.pop.val fun F => .bl _)⟩⟩
@[simp] def dIf (t : DTT) (da db : DTE) : DTE := fun env Q => t env fun c e => if c = true then da e Q else db e Q
theorem de_if {t : TT} {u w : TE} {dt : DTT} {da db : DTE} (ht : DT K pn t dt) (ha : DE K pn u da) (hb : DE K pn w db) : DE K pn (tIf t u w) (dIf dt da db) := ⟨fun B ok tm env σ H Q R r h k => ht.run B ok tm env σ H _ _ r h fun c e H1 q r1 => by
  cases c with
  | true =>
    rw [if_pos rfl] at q ⊢
    exact ha.run B ok tm e σ H1 Q R r1 q k
  | false =>
    rw [if_neg Bool.false_ne_true] at q ⊢
    exact hb.run B ok tm e σ H1 Q R r1 q k⟩
/-- a chain a < b < c -/
def dChain (o o' : DOp) (da db dc : DTE) : DTE := fun env Q => da env fun x e1 => db e1 fun y e2 => o x y e2 fun z => ∃ k, z = .bl k ∧ if k = true then dc e2 fun w e3 => o' y w e3 fun u => Q u e3 else Q (.bl false) e2

/-! ### slices -/
abbrev DTO := Env → (Option Int → Env → Prop) → Prop
structure DPo (K : Frag) (pn : List Nat) (t : TO) (d : DTO) : Prop where
  run : ∀ (B : Base), Bok pn B → ∀ (tm : List (V × D)) (env : Env) (σ : L2.St) (H : Hp) (Q : Option Int → Hp → Prop) (R : Option Int → Env → Prop), Rel K B env σ tm H → d env R → (∀ b env' H', R b env' → Rel K B env' σ tm H' → Q b H') → t σ H Q
@[simp] def dNoPart : DTO := fun env Q => Q none env
@[simp] def dPart (d : DTE) : DTO := fun env Q => d env fun x e => ∃ i, x = .int i ∧ Q (some i) e
theorem dpo_none : DPo K pn tNoPart dNoPart := ⟨fun B ok tm env σ H Q R r h k => k _ _ _ h r⟩
theorem dpo_some {t : TE} {da : DTE} (h : DE K pn t da) : DPo K pn (tPart t) (dPart da) := ⟨fun B ok tm env σ H Q R r h' k => h.run B ok tm env σ H _ _ r h' fun x e v H1 ⟨i, q, q2⟩ r1 => by
  subst q
  have q1 := r1.int
  subst q1
  exact ⟨i, rfl, k _ _ _ q2 r1.pop⟩⟩
def cutG {α : Type} (xs : List α) (lo hi : Option Int) : List α := (xs.drop (HT.sIx xs.length 0 lo)).take (HT.sIx xs.length xs.length hi - HT.sIx xs.length 0 lo)
theorem cutG_map {α β : Type} (f : α → β) (xs : List α) (lo hi : Option Int) : cutG (xs.map f) lo hi = (cutG xs lo hi).map f := by
  unfold cutG
  rw [List.length_map, ← List.map_drop, ← List.map_take]
@[simp] def dSl (da : DTE) (dl dh : DTO) : DTE := fun env Q => da env fun x e1 => dl e1 fun lo e2 => dh e2 fun hi e3 => ∃ d ds, res e3 x = some d ∧ lstC d = some ds ∧ Q (.mt (cutG ds lo hi)) e3
theorem de_sl {t : TE} {tl th : TO} {da : DTE} {dl dh : DTO} (ha : DE K pn t da) (hl : DPo K pn tl dl) (hh : DPo K pn th dh) : DE K pn (tSl (rSlL K) t tl th) (dSl da dl dh) := ⟨fun B ok tm env σ H Q R r h k =>
  ha.run B ok tm env σ H _ _ r h fun x e1 v H1 q1 r1 => hl.run B ok _ e1 σ H1 _ _ r1 q1 fun lo e2 H2 q2 r2 => hh.run B ok _ e2 σ H2 _ _ r2 q2 fun hi e3 H3 ⟨d, ds, g1, g2, g3⟩ r3 => by
    obtain ⟨F, U, S, r4, o, sub⟩ := r3.look1 g1
    obtain ⟨a, vs, rfl, hs, l, rp⟩ := o.list sub g2
    refine ⟨a, vs, rfl, hs, fun p hp => k _ _ _ _ g3 (r4.newL hp ?_ ?_)⟩
    · show (cutG vs lo hi).length = (cutG ds lo hi).length
      unfold cutG
      rw [List.length_take, List.length_drop, List.length_take, List.length_drop, l]
    · show ∀ (i : Nat) v d, (cutG vs lo hi)[i]? = some v → (cutG ds lo hi)[i]? = some d → Rep K F v d
      intro i w z h1 h2
      unfold cutG at h1 h2
      rw [l] at h1
      rw [List.getElem?_take] at h1 h2
      split at h1
      · rename_i hi'
        rw [if_pos hi', List.getElem?_drop] at h2
        rw [List.getElem?_drop] at h1
        exact rp _ _ _ h1 h2
      · cases h1⟩

/-! ### methods -/
abbrev DMt := D → List D → Env → (D → Env → Prop) → Prop
structure DM (K : Frag) (pn : List Nat) (r : V → List V → Hp → VK → Prop) (d : DMt) : Prop where
  run : ∀ (B : Base), Bok pn B → ∀ (tm : List (V × D)) (env : Env) (σ : L2.St) (H : Hp) (x : D) (v : V) (ds : List D) (vs : List V) (Q : VK) (R : D → Env → Prop), vs.length = ds.length → Rel K B env σ (vs.zip ds ++ (v, x) :: tm) H → d x ds env R →
    (∀ z env' w H', R z env' → Rel K B env' σ ((w, z) :: tm) H' → Q w H') → r v vs H Q
/-- of what built-in type -/
def tyD (T : String) : D → Bool
  | .str _ => T == "str"
  | .int _ => T == "int"
  | .lst _ => T == "list"
  | .mt _ => T == "list"
  | .mm _ => T == "list"
  | .scr _ => T == "list"
  | .dc _ => T == "dict"
  | _ => false
theorem Own.tyV {S : Addr → Prop} {T : String} (h : Own K F H v d S) (sub : Same F H) (e : tyD T d = true) : tyV K T v H := by
  cases h with
  | frz h =>
    cases h with
    | str => exact eq_of_beq e
    | int => exact eq_of_beq e
    | lst h => exact .inl ⟨eq_of_beq e, _, .of (sub _ _ h)⟩
    | scr h => exact .inl ⟨eq_of_beq e, _, sub.seq h⟩
    | _ => exact nomatch e
  | mt ha h l r => exact .inl ⟨eq_of_beq e, _, .of h⟩
  | mm Sc ha h l r => exact .inl ⟨eq_of_beq e, _, .of h⟩
  | mo => exact nomatch e
  | dc ha h => exact .inr (.inr (.inl ⟨eq_of_beq e, .inl ⟨_, h⟩⟩))
@[simp] def dBM (T : String) (m : DMt) (da : DTE) (dr : DTA) : DTE := fun env Q => da env fun x e1 => ∃ d, res e1 x = some d ∧ tyD T d = true ∧ dr e1 fun ds e2 => m x ds e2 Q
theorem de_bm {T : String} {r : V → List V → Hp → VK → Prop} {to : TE} {t : TA} {m : DMt} {da : DTE} {dr : DTA} (hm : DM K pn r m) (ha : DE K pn to da) (hr : DA K pn t dr) : DE K pn (tBM K T r to t) (dBM T m da dr) := ⟨fun B ok tm env σ H Q R r' h k =>
  ha.run B ok tm env σ H _ _ r' h fun x e1 v H1 ⟨d, q1, q2, q3⟩ r1 => by
    obtain ⟨F, U, S, r2, o⟩ := r1.look q1
    exact ⟨o.tyV r2.sub q2, hr.run B ok _ e1 σ H1 _ _ r1 q3 fun ds e2 vs H2 q4 l r3 => hm.run B ok tm e2 σ H2 x v ds vs _ _ l r3 q4 k⟩⟩
@[simp] def dBM0 (T : String) (m : DMt) (da : DTE) : DTE := fun env Q => da env fun x e1 => ∃ d, res e1 x = some d ∧ tyD T d = true ∧ m x [] e1 Q
theorem de_bm0 {T : String} {r : V → List V → Hp → VK → Prop} {to : TE} {m : DMt} {da : DTE} (hm : DM K pn r m) (ha : DE K pn to da) : DE K pn (tBM0 K T r to) (dBM0 T m da) := ⟨fun B ok tm env σ H Q R r' h k =>
  ha.run B ok tm env σ H _ _ r' h fun x e1 v H1 ⟨d, q1, q2, q3⟩ r1 => by
    obtain ⟨F, U, S, r2, o⟩ := r1.look q1
    exact ⟨o.tyV r2.sub q2, hm.run B ok tm e1 σ H1 x v [] [] _ _ rfl r1 q3 k⟩⟩
/-- a list of one's own at a slot, changed as a whole -/
theorem Rel.chg {ts : List (V × D)} {i : Nat} {xs ys : List D} {ws : List V} (R : Rel K B env σ (ts ++ (v, .ptr i) :: tm) H) (e : env[i]? = some (some (.mt xs))) :
    ∃ F U a vs, RelF K B F U env σ (ts ++ (v, .ptr i) :: tm) H ∧ v = .ref a ∧ H a = some (.lst vs) ∧ vs.length = xs.length ∧ (∀ (i : Nat) v d, vs[i]? = some v → xs[i]? = some d → Rep K F v d) ∧
      ∀ ws ys, ws.length = ys.length → (∀ (i : Nat) v d, ws[i]? = some v → ys[i]? = some d → Rep K F v d) → ∃ U', RelF K B F U' (env.set i (some (.mt ys))) σ tm (upd H a (.lst ws)) := by
  obtain ⟨F, U, R⟩ := R
  have hv : σ[i]? = some (some v) := by
    rcases R.tmp ts.length v (.ptr i) (by rw [List.getElem?_append_right (Nat.le_refl _), Nat.sub_self]; rfl) with q | ⟨j, q, q2⟩
    · cases q with | frz q => cases q
    · cases q; exact q2
  obtain ⟨w, h1, h2⟩ := R.own i _ e
  rw [hv] at h1; cases h1
  cases h2 with
  | frz q => cases q
  | mt ha h l r =>
    refine ⟨F, U, _, _, R, rfl, h, l, r, fun ws ys l' r' => ?_⟩
    have R2 := R.write hv ha (.mt ha (upd_same (o := .lst ws)) l' r')
    obtain ⟨U', R3⟩ := R2.popL (l := ts)
    exact ⟨_, R3.re tm (· + 1) (fun i j e => Nat.succ.inj e) fun i x e => e⟩
@[simp] def mAppend : DMt := fun x ds env Q => ∃ i xs y, x = .ptr i ∧ ds = [y] ∧ env[i]? = some (some (.mt xs)) ∧ isR y = true ∧ xs.length < sizeLine ∧ Q .non (env.set i (some (.mt (xs ++ [y]))))
theorem kids1 {ts : List (V × D)} {v : V} {y : D} (R : RelF K B F U env σ ((v, y) :: ts) H) (h : isR y = true) : Rep K F v y := by
  rcases R.tmp 0 v y rfl with q | ⟨j, q, _⟩
  · exact q.toRep h
  · rw [q] at h; exact nomatch h
theorem snoc_rep {vs : List V} {xs : List D} {v : V} {y : D} (l : vs.length = xs.length) (r : ∀ (i : Nat) v d, vs[i]? = some v → xs[i]? = some d → Rep K F v d) (h : Rep K F v y) :
    ∀ (i : Nat) w d, (vs ++ [v])[i]? = some w → (xs ++ [y])[i]? = some d → Rep K F w d := app_rep l rfl r fun i w d h1 h2 => by
  cases i with
  | zero => cases h1; cases h2; exact h
  | succ i => simp at h1
theorem dm_append : DM K pn rAppend mAppend := ⟨fun B ok tm env σ H x v ds vs Q R l r h k => by
  obtain ⟨i, xs, y, rfl, rfl, e, hr, hl, h⟩ := h
  obtain ⟨w, rfl⟩ := len1 l
  obtain ⟨F, U, a, vs, r1, rfl, ha, l1, rp, up⟩ := Rel.chg (ts := [(w, y)]) (ys := []) (ws := []) r e
  obtain ⟨U', r2⟩ := up (vs ++ [w]) (xs ++ [y]) (by simp [l1]) (snoc_rep l1 rp (kids1 r1 hr))
  exact ⟨a, vs, w, rfl, rfl, ha, by omega, k _ _ _ _ h ⟨_, _, r2.push .non⟩⟩⟩
/-- xs.pop() -/
@[simp] def mPop : DMt := fun x ds env Q => ∃ i xs y, x = .ptr i ∧ ds = [] ∧ env[i]? = some (some (.mt xs)) ∧ xs[xs.length - 1]? = some y ∧ Q y (env.set i (some (.mt xs.dropLast)))
/-- xs.pop(k) -/
@[simp] def mPopAt : DMt := fun x ds env Q => ∃ i xs y n k, x = .ptr i ∧ ds = [.int n] ∧ env[i]? = some (some (.mt xs)) ∧ -(2 ^ 63) ≤ n ∧ n < 2 ^ 63 ∧ seqIndex? n xs.length = some k ∧ xs[k]? = some y ∧ Q y (env.set i (some (.mt (xs.eraseIdx k))))
theorem erase_rep {vs : List V} {xs : List D} (k : Nat) (r : ∀ (i : Nat) v d, vs[i]? = some v → xs[i]? = some d → Rep K F v d) : ∀ (i : Nat) w d, (vs.eraseIdx k)[i]? = some w → (xs.eraseIdx k)[i]? = some d → Rep K F w d := fun i w d h1 h2 => by
  rw [List.getElem?_eraseIdx] at h1 h2
  split at h1
  · rename_i h; rw [if_pos h] at h2; exact r _ _ _ h1 h2
  · rename_i h; rw [if_neg h] at h2; exact r _ _ _ h1 h2
theorem dm_popAt : DM K pn rPopAt mPopAt := ⟨fun B ok tm env σ H x v ds vs Q R l r h k => by
  obtain ⟨i, xs, y, n, j, rfl, rfl, e, b1, b2, hj, hy, h⟩ := h
  obtain ⟨w, rfl⟩ := len1 l
  have qw : w = .int n := Rel.int (tm := (v, .ptr i) :: tm) r
  subst qw
  obtain ⟨F, U, a, vs, r1, rfl, ha, l1, rp, up⟩ := Rel.chg (ts := [(.int n, .int n)]) (ys := []) (ws := []) r e
  obtain ⟨U', r2⟩ := up (vs.eraseIdx j) (xs.eraseIdx j) (by rw [List.length_eraseIdx, List.length_eraseIdx, l1]) (erase_rep j rp)
  have hlt : j < vs.length := by rw [l1]; exact (List.getElem?_eq_some_iff.mp hy).1
  exact ⟨a, vs, n, j, vs[j], rfl, rfl, ha, b1, b2, by rw [l1]; exact hj, List.getElem?_eq_getElem hlt, k _ _ _ _ h ⟨_, _, r2.push (rp j _ _ (List.getElem?_eq_getElem hlt) hy)⟩⟩⟩
theorem dm_pop : DM K pn rPop mPop := ⟨fun B ok tm env σ H x v ds vs Q R l r h k => by
  obtain ⟨i, xs, y, rfl, rfl, e, hy, h⟩ := h
  have : vs = [] := List.length_eq_zero_iff.mp l
  subst this
  obtain ⟨F, U, a, vs, r1, rfl, ha, l1, rp, up⟩ := Rel.chg (ts := []) (ys := []) (ws := []) r e
  obtain ⟨U', r2⟩ := up vs.dropLast xs.dropLast (by rw [List.length_dropLast, List.length_dropLast, l1]) (fun i w d h1 h2 => by
    rw [List.getElem?_dropLast] at h1 h2
    split at h1
    · rw [← l1] at h2; rename_i z; rw [if_pos z] at h2; exact rp _ _ _ h1 h2
    · cases h1)
  have hlt : vs.length - 1 < vs.length := by rw [l1]; exact (List.getElem?_eq_some_iff.mp hy).1
  exact ⟨a, vs, vs[vs.length - 1], rfl, rfl, ha, List.getElem?_eq_getElem hlt, k _ _ _ _ h ⟨_, _, r2.push (rp (vs.length - 1) _ _ (List.getElem?_eq_getElem hlt) (by rw [l1]; exact hy))⟩⟩⟩
/-! ### lists of lists of one's own -/
def isP : D → Bool
  | .ptr _ => true
  | _ => false
theorem isP_no {r : D} (h : isP r = false) : ∀ j, r ≠ .ptr j := fun j e => by rw [e] at h; exact nomatch h
theorem Own.deep {F H : Hp} {S : Addr → Prop} {xs : List D} (h : Own K F H v (.mt xs) S) : Own K F H v (.mm xs) S := by
  cases h with
  | frz h => cases h
  | mt ha h l r => exact .mm (fun _ _ => False) ha h l (fun i v d h1 h2 => .frz (r i v d h1 h2)) (fun i b z => z.elim) fun i j b z => z.elim
def deepC : D → Option (List D)
  | .mt xs => some xs
  | .mm xs => some xs
  | _ => none
@[simp] theorem deepC_mt (xs : List D) : deepC (.mt xs) = some xs := rfl
@[simp] theorem deepC_mm (xs : List D) : deepC (.mm xs) = some xs := rfl
theorem Own.mmOf {F H : Hp} {S : Addr → Prop} {xs : List D} (h : Own K F H v d S) (e : deepC d = some xs) : Own K F H v (.mm xs) S := by
  cases d <;> cases e
  · exact h.deep
  · exact h
/-- ys.append(y), y one's own: ys a list of one's own at a slot -/
@[simp] def mAppendM : DMt := fun x ds env Q => ∃ i d xs y, x = .ptr i ∧ ds = [y] ∧ env[i]? = some (some d) ∧ deepC d = some xs ∧ isP y = false ∧ xs.length < sizeLine ∧ Q .non (env.set i (some (.mm (xs ++ [y]))))
def abU (U : Fam) (i : Nat) : Fam
  | .inl j => if j = i then (fun b => U (.inl i) b ∨ U (.inr 0) b) else U (.inl j)
  | .inr j => U (.inr (j + 1))
theorem abU_same {i : Nat} : abU U i (.inl i) = fun b => U (.inl i) b ∨ U (.inr 0) b := if_pos rfl
theorem abU_ne {i j : Nat} (h : j ≠ i) : abU U i (.inl j) = U (.inl j) := if_neg h
/-- what is put by becomes a part of a slot's own -/
theorem RelF.absorb {w : V} {y : D} (R : RelF K B F U env σ ((w, y) :: tm) H) {i : Nat} {a : Addr} {o : HO} {v : V} {d' : D} (hv : σ[i]? = some (some v)) (ha : U (.inl i) a ∨ U (.inr 0) a)
    (h : Own K F (upd H a o) v d' (fun b => U (.inl i) b ∨ U (.inr 0) b)) : RelF K B F (abU U i) (env.set i (some d')) σ tm (upd H a o) := by
  have src : ∀ x b, abU U i x b → (x = .inl i ∧ (U (.inl i) b ∨ U (.inr 0) b)) ∨ ∃ y, U y b ∧ y ≠ .inl i ∧ y ≠ .inr 0 ∧ (match x with | .inl j => y = .inl j ∧ j ≠ i | .inr j => y = .inr (j + 1)) := by
    intro x b u
    rcases x with j | j
    · by_cases hj : j = i
      · subst hj
        rw [abU_same] at u; exact .inl ⟨rfl, u⟩
      · rw [abU_ne hj] at u
        exact .inr ⟨_, u, fun z => hj (by cases z; rfl), (fun z => nomatch z), rfl, hj⟩
    · exact .inr ⟨_, u, (fun z => nomatch z), (fun z => by cases z), rfl⟩
  have apart : ∀ y b, U y b → y ≠ .inl i → y ≠ .inr 0 → b ≠ a := fun y b u n1 n2 z => by
    subst z
    rcases ha with ha | ha
    · exact n1 (R.dis _ _ _ u ha)
    · exact n2 (R.dis _ _ _ u ha)
  have stay : ∀ y, y ≠ .inl i → y ≠ .inr 0 → ∀ b u, U y b → H b = some u → upd H a o b = some u := fun y n1 n2 b u s e => by
    rw [upd_ne (apart y b s n1 n2)]; exact e
  have any : ∀ x b, abU U i x b → ∃ y, U y b := fun x b u => by
    rcases src x b u with ⟨_, u | u⟩ | ⟨y, u, _⟩ <;> exact ⟨_, u⟩
  have hU : ∃ z, U z a := by rcases ha with ha | ha <;> exact ⟨_, ha⟩
  obtain ⟨za, hza⟩ := hU
  refine ⟨by rw [List.length_set]; exact R.len, fun j dj e => ?_, fun j u dj e => ?_, fun x y b u w => ?_, fun x b u => ?_, fun x b u => ?_, fun b u e => ?_, R.base, fun b u e n => ?_, R.new, fun x b u => ?_, R.ownA, R.pin, fun b e => upd_some (R.ther b e)⟩
  · by_cases hj : i = j
    · subst hj
      rw [List.getElem?_set_self'] at e
      cases q : env[i]? with
      | none => rw [q] at e; cases e
      | some z =>
        rw [q] at e
        cases e
        exact ⟨v, hv, by rw [abU_same]; exact h⟩
    · rw [List.getElem?_set_ne hj] at e
      obtain ⟨u, h1, h2⟩ := R.own j dj e
      exact ⟨u, h1, by rw [abU_ne (Ne.symm hj)]; exact h2.stay (Same.refl F) (stay _ (fun z => hj (by cases z; rfl)) fun z => nomatch z)⟩
  · rcases R.tmp (j + 1) u dj e with q | q
    · exact .inl (q.stay (Same.refl F) (stay _ (fun z => nomatch z) fun z => nomatch z))
    · exact .inr q
  · rcases src x b u with ⟨rfl, u1⟩ | ⟨x', u, n1, n2, hx⟩
    · rcases src y b w with ⟨rfl, w⟩ | ⟨y', w, m1, m2, hy⟩
      · rfl
      · rcases u1 with u | u
        · exact absurd (R.dis _ _ _ w u) m1
        · exact absurd (R.dis _ _ _ w u) m2
    · rcases src y b w with ⟨rfl, w1⟩ | ⟨y', w, m1, m2, hy⟩
      · rcases w1 with w | w
        · exact absurd (R.dis _ _ _ u w) n1
        · exact absurd (R.dis _ _ _ u w) n2
      · have e := R.dis _ _ _ u w
        subst e
        rcases x with j | j <;> rcases y with k | k
        · have hx1 := hx.1
          have hy1 := hy.1
          rw [hx1] at hy1; cases hy1; rfl
        · have hx1 := hx.1
          have hy : x' = .inr (k + 1) := hy
          rw [hx1] at hy; cases hy
        · have hy1 := hy.1
          have hx : x' = .inr (j + 1) := hx
          rw [hy1] at hx; cases hx
        · have hx : x' = .inr (j + 1) := hx
          have hy : x' = .inr (k + 1) := hy
          rw [hx] at hy; cases hy; rfl
  · obtain ⟨y, u⟩ := any x b u; exact R.nof y b u
  · obtain ⟨y, u⟩ := any x b u; exact upd_some (R.liv y b u)
  · rw [upd_ne (fun z => by have := R.nof _ a hza; rw [z, this] at e; cases e)]
    exact R.sub b u e
  · have q := R.keep b u e n
    rw [upd_ne (fun z => by
      rcases R.usr _ a hza with h | ⟨k, _, h⟩
      · rw [z, h] at e; cases e
      · exact n k (by rw [z]; exact h))]
    exact q
  · rcases src x b u with ⟨rfl, u | u⟩ | ⟨y, u, n1, n2, hx⟩
    · exact R.usr _ b u
    · rcases R.usr _ b u with h | ⟨_, e, _⟩
      · exact .inl h
      · cases e
    · rcases R.usr y b u with h | ⟨k, e, h⟩
      · exact .inl h
      · rcases x with j | j
        · have hx1 := hx.1
          rw [hx1] at e; cases e; exact .inr ⟨_, rfl, h⟩
        · have hx : y = .inr (j + 1) := hx
          rw [hx] at e; cases e
theorem dm_appendM : DM K pn rAppend mAppendM := ⟨fun B ok tm env σ H x v ds vs Q R l r h k => by
  obtain ⟨i, d, xs, y, rfl, rfl, e, dc, hp, hl, h⟩ := h
  obtain ⟨w, rfl⟩ := len1 l
  obtain ⟨F, U, r⟩ := r
  have r : RelF K B F U env σ ((w, y) :: (v, .ptr i) :: tm) H := r
  have hv : σ[i]? = some (some v) := by
    rcases r.tmp 1 v (.ptr i) rfl with q | ⟨j, q, q2⟩
    · cases q with | frz q => cases q
    · cases q; exact q2
  obtain ⟨u, h1, h2⟩ := r.own i d e
  rw [hv] at h1; cases h1
  have oy : Own K F H w y (U (.inr 0)) := by
    rcases r.tmp 0 w y rfl with q | ⟨j, q, _⟩
    · exact q
    · exact absurd q (isP_no hp j)
  cases h2.mmOf dc with
  | frz q => cases q
  | @mm a vs _ _ Sc ha hH l1 rc sub dis =>
    have na : ∀ b, U (.inr 0) b → b ≠ a := fun b u z => by
      subst z
      have := r.dis _ _ _ u ha
      cases this
    have R2 := r.absorb (o := .lst (vs ++ [w])) (d' := .mm (xs ++ [y])) hv (.inl ha) (.mm (fun k b => (k < xs.length ∧ Sc k b) ∨ (k = xs.length ∧ U (.inr 0) b)) (.inl ha) upd_same (by simp [l1]) (fun k z dz e1 e2 => by
      by_cases hk : k < xs.length
      · rw [List.getElem?_append_left (by omega)] at e1
        rw [List.getElem?_append_left hk] at e2
        exact ((rc k z dz e1 e2).stay (Same.refl F) fun b o s q => by rw [upd_ne (sub k b s).2]; exact q).wide fun b s => .inl ⟨hk, s⟩
      · have hk2 : k = xs.length := by
          have := (List.getElem?_eq_some_iff.mp e2).1
          simp at this; omega
        subst hk2
        rw [List.getElem?_append_right (Nat.le_refl _), Nat.sub_self] at e2
        rw [List.getElem?_append_right (by omega), l1, Nat.sub_self] at e1
        cases e1; cases e2
        exact (oy.stay (Same.refl F) fun b o s q => by rw [upd_ne (na b s)]; exact q).wide fun b s => .inr ⟨rfl, s⟩) (fun k b s => by
      rcases s with ⟨_, s⟩ | ⟨_, s⟩
      · exact ⟨.inl (sub k b s).1, (sub k b s).2⟩
      · exact ⟨.inr s, na b s⟩) fun p q b s t => by
      rcases s with ⟨s1, s⟩ | ⟨s1, s⟩ <;> rcases t with ⟨t1, t⟩ | ⟨t1, t⟩
      · exact dis p q b s t
      · have := r.dis _ _ _ ((sub p b s).1) t; cases this
      · have := r.dis _ _ _ ((sub q b t).1) s; cases this
      · omega)
    exact ⟨a, vs, w, rfl, rfl, hH, by omega, k _ _ _ _ h (Rel.val (Rel.pop ⟨_, _, R2⟩) fun F => .non)⟩⟩
/-- xs[k].append(e), the lists of one's own -/
@[simp] def dAppAt (i : Nat) (dk de : DTE) : DTE := fun env Q => ∃ d0, env[i]? = some (some d0) ∧ dk env fun y e1 => ∃ k xs j ys, y = .int k ∧ e1[i]? = some (some (.mm xs)) ∧ ixN xs.length k = some j ∧ xs[j]? = some (.mt ys) ∧
  ∀ a, de (e1.set i (some (.mm (xs.set j (.at a))))) fun z e2 => ∃ xs2, e2[i]? = some (some (.mm xs2)) ∧ xs2[j]? = some (.at a) ∧ isR z = true ∧ ys.length < sizeLine ∧ Q .non (e2.set i (some (.mm (xs2.set j (.mt (ys ++ [z]))))))
theorem Own.isAt {F H : Hp} {S : Addr → Prop} {b : Addr} (h : Own K F H v (.at b) S) : v = .ref b := by
  cases h with
  | frz h => cases h; rfl
def splU (U : Fam) (i : Nat) (T : Addr → Prop) : Fam
  | .inl j => if j = i then (fun b => U (.inl i) b ∧ ¬ T b) else U (.inl j)
  | .inr 0 => T
  | .inr (j + 1) => U (.inr j)
theorem splU_same {i : Nat} {T : Addr → Prop} : splU U i T (.inl i) = fun b => U (.inl i) b ∧ ¬ T b := if_pos rfl
theorem splU_ne {i j : Nat} {T : Addr → Prop} (h : j ≠ i) : splU U i T (.inl j) = U (.inl j) := if_neg h
/-- a part of a slot's own is put by -/
theorem RelF.split (R : RelF K B F U env σ tm H) {i : Nat} {v w : V} {y d' : D} {T : Addr → Prop} (hv : σ[i]? = some (some v)) (hT : ∀ b, T b → U (.inl i) b) (hn : ∀ b, T b → B.H b = none) (h : Own K F H v d' (fun b => U (.inl i) b ∧ ¬ T b)) (hw : Own K F H w y T) :
    RelF K B F (splU U i T) (env.set i (some d')) σ ((w, y) :: tm) H := by
  have src : ∀ x b, splU U i T x b → ∃ y, U y b ∧ (match x with | .inl j => y = .inl j ∧ (j = i → ¬ T b) | .inr 0 => y = .inl i ∧ T b | .inr (j + 1) => y = .inr j) := by
    intro x b u
    rcases x with j | j
    · by_cases hj : j = i
      · subst hj
        rw [splU_same] at u; exact ⟨_, u.1, rfl, fun _ => u.2⟩
      · rw [splU_ne hj] at u; exact ⟨_, u, rfl, fun z => absurd z hj⟩
    · cases j with
      | zero => exact ⟨_, hT b u, rfl, u⟩
      | succ j => exact ⟨_, u, rfl⟩
  refine ⟨by rw [List.length_set]; exact R.len, fun j dj e => ?_, fun j u dj e => ?_, fun x z b u w => ?_, fun x b u => ?_, fun x b u => ?_, R.sub, R.base, R.keep, R.new, fun x b u => ?_, R.ownA, R.pin, R.ther⟩
  · by_cases hj : i = j
    · subst hj
      rw [List.getElem?_set_self'] at e
      cases q : env[i]? with
      | none => rw [q] at e; cases e
      | some z =>
        rw [q] at e
        cases e
        exact ⟨v, hv, by rw [splU_same]; exact h⟩
    · rw [List.getElem?_set_ne hj] at e
      obtain ⟨u, h1, h2⟩ := R.own j dj e
      exact ⟨u, h1, by rw [splU_ne (Ne.symm hj)]; exact h2⟩
  · cases j with
    | zero => cases e; exact .inl hw
    | succ j => exact R.tmp j u dj e
  · obtain ⟨x', u', hx⟩ := src x b u
    obtain ⟨z', w', hz⟩ := src z b w
    have e := R.dis _ _ _ u' w'
    subst e
    rcases x with j | j <;> rcases z with k | k
    · have h1 := hx.1; have h2 := hz.1
      rw [h1] at h2; cases h2; rfl
    · cases k with
      | zero =>
        have h1 := hx.1; have hz : x' = .inl i ∧ T b := hz
        rw [h1] at hz; cases hz.1; exact absurd hz.2 (hx.2 rfl)
      | succ k =>
        have h1 := hx.1; have hz : x' = .inr k := hz
        rw [h1] at hz; cases hz
    · cases j with
      | zero =>
        have h1 := hz.1; have hx : x' = .inl i ∧ T b := hx
        rw [h1] at hx; cases hx.1; exact absurd hx.2 (hz.2 rfl)
      | succ j =>
        have h1 := hz.1; have hx : x' = .inr j := hx
        rw [h1] at hx; cases hx
    · cases j with
      | zero =>
        cases k with
        | zero => rfl
        | succ k =>
          have hx : x' = .inl i ∧ T b := hx
          have hz : x' = .inr k := hz
          rw [hz] at hx; cases hx.1
      | succ j =>
        cases k with
        | zero =>
          have hz : x' = .inl i ∧ T b := hz
          have hx : x' = .inr j := hx
          rw [hx] at hz; cases hz.1
        | succ k =>
          have hx : x' = .inr j := hx
          have hz : x' = .inr k := hz
          rw [hx] at hz; cases hz; rfl
  · obtain ⟨y, u, _⟩ := src x b u; exact R.nof y b u
  · obtain ⟨y, u, _⟩ := src x b u; exact R.liv y b u
  · obtain ⟨y, u', hx⟩ := src x b u
    rcases x with j | j
    · rw [hx.1] at u'; exact R.usr _ b u'
    · cases j with
      | zero => exact .inl (hn b u)
      | succ j =>
        have hx : y = .inr j := hx
        rw [hx] at u'
        rcases R.usr _ b u' with h | ⟨_, e, _⟩
        · exact .inl h
        · cases e
theorem de_appAt {i : Nat} {tk te : TE} {dk de : DTE} (hi : pn.contains i = false) (hk : DE K pn tk dk) (he : DE K pn te de) : DE K pn (tBM K "list" rAppend (tOp (rIxL K) (tVar i) tk) (tCons te tNil)) (dAppAt i dk de) := ⟨fun B ok tm env σ H Q R r h kk => by
  obtain ⟨d0, e0, h⟩ := h
  have hv : ∃ v, σ[i]? = some (some v) := by
    obtain ⟨F, U, r⟩ := r
    obtain ⟨v, h1, _⟩ := r.own i d0 e0
    exact ⟨v, h1⟩
  obtain ⟨v, hv⟩ := hv
  refine ⟨v, hv, hk.run B ok tm env σ H _ _ r h fun y e1 u H1 q r1 => ?_⟩
  obtain ⟨k, xs, j, ys, rfl, e2, e3, e4, q⟩ := q
  have qu := r1.int
  subst qu
  obtain ⟨F, U, r2⟩ := r1.pop
  obtain ⟨v', g1, g2⟩ := r2.own i _ e2
  rw [hv] at g1; cases g1
  have nown : i ∉ B.own := fun z => by
    have q1 := ok.1 i z
    have q2 : i ∉ pn := by simpa using hi
    exact q2 q1
  cases g2 with
  | frz q => cases q
  | @mm a vs _ _ Sc ha hH l1 rc sub dis =>
    have hjx : j < xs.length := (List.getElem?_eq_some_iff.mp e4).1
    have hjv : vs[j]? = some vs[j] := List.getElem?_eq_getElem (by omega)
    have oc := rc j _ _ hjv e4
    cases hw : vs[j] with
    | ref b =>
      rw [hw] at oc hjv
      have ocb : Sc j b ∧ ∃ ws, H1 b = some (.lst ws) := by
        cases oc with
        | frz q => cases q
        | mt hb h1 => exact ⟨hb, _, h1⟩
      obtain ⟨hb, ws, hbl⟩ := ocb
      refine ⟨a, vs, k, .ref b, rfl, rfl, .of hH, ?_, .inl ⟨rfl, ws, .of hbl⟩, ?_⟩
      · unfold atI
        rw [l1, e3]
        exact hjv
      · have hn : ∀ c, Sc j c → B.H c = none := fun c s => by
          rcases r2.usr _ c (sub j c s).1 with z | ⟨p, e, z⟩
          · exact z
          · cases e; exact absurd (r2.ownA _ _ z) nown
        have R3 := r2.split (T := Sc j) (d' := .mm (xs.set j (.at b))) hv (fun c s => (sub j c s).1) hn (.mm (fun p c => p ≠ j ∧ Sc p c) ⟨ha, fun s => (sub j a s).2 rfl⟩ hH (by simp [l1]) (fun p z dz z1 z2 => by
          by_cases hp : j = p
          · subst hp
            rw [List.getElem?_set_self hjx] at z2
            rw [hjv] at z1
            cases z1; cases z2
            exact .frz (.at b)
          · rw [List.getElem?_set_ne hp] at z2
            exact (rc p z dz z1 z2).wide fun c s => ⟨Ne.symm hp, s⟩) (fun p c s => ⟨⟨(sub p c s.2).1, fun t => s.1 (dis p j c s.2 t)⟩, (sub p c s.2).2⟩) fun p p' c s t => dis p p' c s.2 t.2) oc
        refine he.run B ok _ _ σ H1 _ _ ⟨_, _, R3⟩ (q b) fun z e5 u2 H2 q2 r4 => ?_
        obtain ⟨xs2, e6, e7, e8, e9, q3⟩ := q2
        obtain ⟨F2, U2, r4⟩ := r4
        have rz := kids1 r4 e8
        have r5 := r4.re ((V.ref b, D.mt ys) :: tm) (· + 1) (fun i j e => Nat.succ.inj e) fun i x e => e
        obtain ⟨v'', g3, g4⟩ := r5.own i _ e6
        rw [hv] at g3; cases g3
        rcases r5.tmp 0 _ _ rfl with o | ⟨p, o, _⟩
        · cases o with
          | frz o => cases o
          | @mt _ ws2 _ _ hb2 hbl2 l2 rw2 =>
            refine ⟨b, ws2, u2, rfl, rfl, hbl2, by omega, ?_⟩
            cases g4 with
            | frz o => cases o
            | @mm a2 vs2 _ _ Sc2 ha2 hH2 l3 rc2 sub2 dis2 =>
              have hj2 : j < xs2.length := (List.getElem?_eq_some_iff.mp e7).1
              obtain ⟨vj, hjv2⟩ : ∃ x, vs2[j]? = some x := ⟨_, List.getElem?_eq_getElem (by omega)⟩
              have eb := (rc2 j _ _ hjv2 e7).isAt
              subst eb
              have nab : a ≠ b := fun z => by
                subst z
                have := r5.dis (.inl i) (.inr 0) _ ha2 hb2
                cases this
              have apart : ∀ p c, Sc2 p c → c ≠ b := fun p c s z => by
                subst z
                have := r5.dis (.inl i) (.inr 0) _ (sub2 p c s).1 hb2
                cases this
              have R6 := r5.absorb (o := .lst (ws2 ++ [u2])) (d' := .mm (xs2.set j (.mt (ys ++ [z])))) hv (.inr hb2) (.mm (fun p c => (p ≠ j ∧ Sc2 p c) ∨ (p = j ∧ c = b)) (.inl ha2) (by rw [upd_ne nab]; exact hH2) (by simp [l3]) (fun p y dz z1 z2 => by
                by_cases hp : j = p
                · subst hp
                  rw [List.getElem?_set_self hj2] at z2
                  rw [hjv2] at z1
                  cases z1; cases z2
                  exact .mt (.inr ⟨rfl, rfl⟩) upd_same (by simp [l2]) (snoc_rep l2 rw2 rz)
                · rw [List.getElem?_set_ne hp] at z2
                  exact ((rc2 p y dz z1 z2).stay (Same.refl F2) fun c o s q => by rw [upd_ne (apart p c s)]; exact q).wide fun c s => .inl ⟨Ne.symm hp, s⟩) (fun p c s => by
                rcases s with ⟨_, s⟩ | ⟨_, rfl⟩
                · exact ⟨.inl (sub2 p c s).1, (sub2 p c s).2⟩
                · exact ⟨.inr hb2, nab.symm⟩) fun p p' c s t => by
                rcases s with ⟨s1, s⟩ | ⟨s1, s⟩ <;> rcases t with ⟨t1, t⟩ | ⟨t1, t⟩
                · exact dis2 p p' c s t
                · exact absurd t (apart p c s)
                · exact absurd s (apart p' c t)
                · omega)
              exact kk _ _ _ _ q3 (Rel.val ⟨_, _, R6⟩ fun F => .non)
        · cases o
    | _ =>
      rw [hw] at oc
      cases oc with
      | frz q => cases q⟩
end
end DL

/-! ## DLg.lean -/
namespace DL
open PySem PySem.Spec PyProof.Rows L2
open Dat (toD)
section
variable {K : Frag} {B : Base} {env : Env} {σ : L2.St} {tm : List (V × D)} {H : Hp} {v : V} {x d : D} {pn : List Nat} {F : Hp} {U : Fam}
/-! ### statements -/
@[simp] def dNext : DTS := fun D env => D.nx env
@[simp] def dSeq (t u : DTS) : DTS := fun D env => t { D with nx := u D } env
@[simp] def dDrop (da : DTE) : DTS := fun D env => da env fun _ e => D.nx e
@[simp] def dRet (da : DTE) : DTS := fun D env => da env fun x e => D.rt x e
@[simp] def dRetN : DTS := fun D env => D.rt .non env
@[simp] def dIfS (c : DTT) (t u : DTS) : DTS := fun D env => c env fun b e => if b = true then t D e else u D e
@[simp] def dBreak : DTS := fun D env => D.bk env
@[simp] def dCont : DTS := fun D env => D.ct env
@[simp] def dNever : DTS := fun _ _ => False
theorem ds_next : DS K pn tNext dNext := ⟨fun B ok tm np env σ H D E R s h => s.nx _ _ _ R h⟩
theorem ds_seq {t u : TS} {da db : DTS} (ha : DS K pn t da) (hb : DS K pn u db) : DS K pn (tSeq t u) (dSeq da db) := ⟨fun B ok tm np env σ H D E R s h =>
  ha.run B ok tm np env σ H { D with nx := db D } { E with nx := u E } R ⟨fun e s' H' R' h' => hb.run B ok tm np e s' H' D E R' s h', s.rt, s.bk, s.ct⟩ h⟩
theorem ds_drop {t : TE} {da : DTE} (ha : DE K pn t da) : DS K pn (tDrop t) (dDrop da) := ⟨fun B ok tm np env σ H D E R s h => ha.run B ok tm env σ H _ _ R h fun x e v H1 q r1 => s.nx _ _ _ r1.pop q⟩
theorem ds_ret {t : TE} {da : DTE} (ha : DE K pn t da) : DS K pn (tRet t) (dRet da) := ⟨fun B ok tm np env σ H D E R s h => ha.run B ok tm env σ H _ _ R h fun x e v H1 q r1 => s.rt _ _ _ _ _ r1 q⟩
theorem ds_retN : DS K pn tRetN dRetN := ⟨fun B ok tm np env σ H D E R s h => s.rt .non .non env σ H (R.val fun F => .non) h⟩
theorem ds_if {c : TT} {t u : TS} {dc : DTT} {da db : DTS} (hc : DT K pn c dc) (ha : DS K pn t da) (hb : DS K pn u db) : DS K pn (tIfS c t u) (dIfS dc da db) := ⟨fun B ok tm np env σ H D E R s h => hc.run B ok tm env σ H _ _ R h fun b e H1 q r1 => by
  cases b with
  | true =>
    rw [if_pos rfl] at q ⊢
    exact ha.run B ok tm np e σ H1 D E r1 s q
  | false =>
    rw [if_neg Bool.false_ne_true] at q ⊢
    exact hb.run B ok tm np e σ H1 D E r1 s q⟩
theorem ds_break : DS K pn tBreak dBreak := ⟨fun B ok tm np env σ H D E R s h => s.bk _ _ _ R h⟩
theorem ds_cont : DS K pn tCont dCont := ⟨fun B ok tm np env σ H D E R s h => s.ct _ _ _ R h⟩
theorem ds_never : DS K pn tNever dNever := ⟨fun B ok tm np env σ H D E R s h => h.elim⟩
theorem bok_pin (ok : Bok pn B) {i : Nat} (h : pn.contains i = false) : (∀ p ∈ B.pins, p.1 ≠ i) ∧ i ∉ B.own := by
  have n : i ∉ pn := by simpa using h
  exact ⟨fun p hp e => n (e ▸ ok.2 p hp), fun z => n (ok.1 i z)⟩
@[simp] def gN (pn : List Nat) (i : Nat) : DTG := fun r env Q => isP r = false ∧ pn.contains i = false ∧ Q (env.set i (some r))
theorem dg_name (i : Nat) : DG K pn [i] (gName i) (gN pn i) := ⟨fun B ok tm np env σ H v r Q R r1 ⟨h1, h2, h3⟩ k => by
  obtain ⟨F, U, r1⟩ := r1
  obtain ⟨z1, z2⟩ := bok_pin ok h2
  exact k _ _ _ h3 ⟨_, _, r1.store i z1 z2 (isP_no h1) np⟩ (fun j hj => List.getElem?_set_ne fun e => hj (by simp [e])) (List.length_set ..)⟩
@[simp] def dAsg (da : DTE) (g : DTG) : DTS := fun D env => da env fun x e => g x e D.nx
theorem ds_asg {ws : List Nat} {t : TE} {g : TG} {da : DTE} {dg : DTG} (ha : DE K pn t da) (hg : DG K pn ws g dg) : DS K pn (tAsg t g) (dAsg da dg) := ⟨fun B ok tm np env σ H D E R s h => ha.run B ok tm env σ H _ _ R h fun x e v H1 q r1 =>
  hg.run B ok tm np e σ H1 v x _ _ r1 q fun e' σ' H' q' r' _ _ => s.nx _ _ _ r' q'⟩
/-- x += e -/
@[simp] def dAug (pn : List Nat) (i : Nat) (o : DOp) (da : DTE) : DTS := fun D env => ∃ d, env[i]? = some (some d) ∧ isR d = true ∧ da env fun y e => o d y e fun z => isP z = false ∧ pn.contains i = false ∧ D.nx (e.set i (some z))
theorem ds_aug {t : TE} {ti : TIp} {i : Nat} {o : DOp} {da : DTE} (ha : DE K pn t da) (ho : DO K ti o) : DS K pn (tAug i t ti) (dAug pn i o da) := ⟨fun B ok tm np env σ H D E R s h => by
  obtain ⟨d, e, hr, h⟩ := h
  obtain ⟨F, U, R⟩ := R
  obtain ⟨v, h1, h2⟩ := R.own i d e
  have R1 : Rel K B env σ ((v, d) :: tm) H := ⟨F, _, R.push (h2.toRep hr)⟩
  refine ⟨v, h1, ha.run B ok _ env σ H _ _ R1 h fun y e1 u H1 q r1 => ho.run B tm e1 σ H1 d y v u _ _ r1 q fun z w H2 ⟨q1, q2, q3⟩ r2 => ?_⟩
  obtain ⟨F, U, r2⟩ := r2
  obtain ⟨z1, z2⟩ := bok_pin ok q2
  exact s.nx _ _ _ ⟨_, _, r2.store i z1 z2 (isP_no q1) np⟩ q3⟩
/-! ### targets -/
abbrev DTGs := List D → Env → (Env → Prop) → Prop
structure DGs (K : Frag) (pn ws : List Nat) (t : TGs) (d : DTGs) : Prop where
  run : ∀ (B : Base), Bok pn B → ∀ (tm : List (V × D)), NoPtr tm → ∀ (env : Env) (σ : L2.St) (H : Hp) (vs : List V) (rs : List D) (Q : L2.St → Hp → Prop) (R : Env → Prop), vs.length = rs.length → rs.all isR = true → Rel K B env σ (vs.zip rs ++ tm) H →
    d rs env R → (∀ env' σ' H', R env' → Rel K B env' σ' tm H' → (∀ i, i ∉ ws → σ'[i]? = σ[i]?) → σ'.length = σ.length → Q σ' H') → t vs σ H Q
@[simp] def gsNil : DTGs := fun rs env Q => rs = [] ∧ Q env
def gsCons (g : DTG) (gs : DTGs) : DTGs := fun rs env Q => match rs with | r :: l => g r env fun e => gs l e Q | [] => False
@[simp] theorem gsCons_cons (g : DTG) (gs : DTGs) (r : D) (l : List D) (env : Env) (Q : Env → Prop) : gsCons g gs (r :: l) env Q = g r env fun e => gs l e Q := rfl
@[simp] theorem conj3 {a b c : Prop} : ((a ∧ b) ∧ c) ↔ (a ∧ b ∧ c) := and_assoc
theorem dgs_nil : DGs K pn [] gNil gsNil := ⟨fun B ok tm np env σ H vs rs Q R l a r ⟨h1, h2⟩ k => by
  subst h1
  have : vs = [] := List.length_eq_zero_iff.mp l
  subst this
  exact ⟨rfl, k _ _ _ h2 r (fun i _ => rfl) rfl⟩⟩
theorem noPtr_zip {vs : List V} {rs : List D} (a : rs.all isR = true) (np : NoPtr tm) : NoPtr (vs.zip rs ++ tm) := fun v j h => by
  rcases List.mem_append.mp h with h | h
  · have := List.all_eq_true.mp a _ (List.of_mem_zip h).2
    exact nomatch this
  · exact np v j h
theorem dgs_cons {w1 w2 : List Nat} {t : TG} {u : TGs} {g : DTG} {gs : DTGs} (h1 : DG K pn w1 t g) (h2 : DGs K pn w2 u gs) : DGs K pn (w1 ++ w2) (gCons t u) (gsCons g gs) := ⟨fun B ok tm np env σ H vs rs Q R l a r h k => by
  match rs, vs, l, h with
  | [], _, _, h => exact h.elim
  | x :: l', v :: vs, l, h =>
    have h : g x env (fun e => gs l' e R) := h
    rw [List.all_cons, Bool.and_eq_true] at a
    exact ⟨v, vs, rfl, h1.run B ok _ (noPtr_zip a.2 np) env σ H v x _ _ r h fun e' σ' H' q r' s z => h2.run B ok tm np e' σ' H' vs l' _ _ (Nat.succ.inj l) a.2 r' q fun e2 σ2 H2 q2 r2 s2 z2 =>
      k _ _ _ q2 r2 (fun i hi => (s2 i fun z => hi (List.mem_append_right _ z)).trans (s i fun z => hi (List.mem_append_left _ z))) (z2.trans z)⟩⟩
@[simp] def gT (n : Nat) (gs : DTGs) : DTG := fun r env Q => ∃ ds, r = .tup ds ∧ ds.length = n ∧ gs ds env Q
theorem RelF.pushAll (R : RelF K B F U env σ tm H) : ∀ (vs : List V) (ds : List D), vs.length = ds.length → (∀ (i : Nat) v d, vs[i]? = some v → ds[i]? = some d → Rep K F v d) → ∃ U', RelF K B F U' env σ (vs.zip ds ++ tm) H
  | [], [], _, _ => ⟨_, R⟩
  | v :: vs, d :: ds, l, r => by
    obtain ⟨U', R'⟩ := RelF.pushAll R vs ds (Nat.succ.inj l) fun i v d h1 h2 => r (i + 1) v d h1 h2
    exact ⟨_, R'.push (r 0 v d rfl rfl)⟩
theorem all_isR {vs : List V} {ds : List D} (l : vs.length = ds.length) (r : ∀ (i : Nat) v d, vs[i]? = some v → ds[i]? = some d → Rep K F v d) : ds.all isR = true := List.all_eq_true.mpr fun d hd => by
  obtain ⟨i, hi⟩ := List.mem_iff_getElem?.mp hd
  have hlt : i < vs.length := by rw [l]; exact (List.getElem?_eq_some_iff.mp hi).1
  exact (r i _ d (List.getElem?_eq_getElem hlt) hi).isR
theorem dg_tup {n : Nat} {ws : List Nat} {u : TGs} {gs : DTGs} (h : DGs K pn ws u gs) : DG K pn ws (gTup K n u) (gT n gs) := ⟨fun B ok tm np env σ H v r Q R r1 ⟨ds, e, hl, h'⟩ k => by
  subst e
  obtain ⟨F, U, S, r2, o, sub⟩ := r1.look1 (d := .tup ds) rfl
  obtain ⟨a, vs, rfl, hs, l, rp⟩ := o.tuple sub rfl
  obtain ⟨U', r3⟩ := r2.pushAll vs ds l rp
  exact ⟨a, vs, rfl, hs, by omega, h.run B ok tm np env σ H vs ds _ _ l (all_isR l rp) ⟨_, _, r3⟩ h' k⟩⟩
/-- xs[i] = e -/
@[simp] def gSetL (dx di : DTE) : DTG := fun r env Q => dx env fun x e1 => di e1 fun y e2 => ∃ i xs k j, x = .ptr i ∧ y = .int k ∧ e2[i]? = some (some (.mt xs)) ∧ ixN xs.length k = some j ∧ isR r = true ∧ Q (e2.set i (some (.mt (xs.set j r))))
theorem set_rep {vs : List V} {xs : List D} {v : V} {y : D} (j : Nat) (l : vs.length = xs.length) (r : ∀ (i : Nat) v d, vs[i]? = some v → xs[i]? = some d → Rep K F v d) (h : Rep K F v y) :
    ∀ (i : Nat) w d, (vs.set j v)[i]? = some w → (xs.set j y)[i]? = some d → Rep K F w d := fun i w d h1 h2 => by
  by_cases e : j = i
  · subst e
    by_cases hj : j < vs.length
    · rw [List.getElem?_set_self hj] at h1
      rw [List.getElem?_set_self (by omega)] at h2
      cases h1; cases h2; exact h
    · rw [List.getElem?_eq_none (by rw [List.length_set]; omega)] at h1
      cases h1
  · rw [List.getElem?_set_ne e] at h1 h2
    exact r i w d h1 h2
theorem dg_setL {to ti : TE} {dx di : DTE} (hx : DE K pn to dx) (hi : DE K pn ti di) : DG K pn [] (gSub to ti rSetL) (gSetL dx di) := ⟨fun B ok tm np env σ H v r Q R r1 h k =>
  hx.run B ok _ env σ H _ _ r1 h fun x e1 w H1 q1 r2 => hi.run B ok _ e1 σ H1 _ _ r2 q1 fun y e2 u H2 ⟨i, xs, n, j, e3, e4, e5, e6, e7, q2⟩ r3 => by
    subst e3 e4
    have qu := r3.int
    subst qu
    obtain ⟨F, U, a, vs, r4, rfl, ha, l1, rp, up⟩ := Rel.chg (ts := [(.int n, .int n)]) (tm := (v, r) :: tm) (ys := []) (ws := []) r3 e5
    have r4' := (r4.re ((v, r) :: tm) (· + 2) (fun i j e => Nat.add_right_cancel e) fun i x e => e)
    have rr := kids1 r4' e7
    obtain ⟨U', r5⟩ := up (vs.set j v) (xs.set j r) (by simp [l1]) (set_rep j l1 rp rr)
    exact ⟨a, vs, n, j, rfl, rfl, ha, by rw [l1]; exact e6, k _ _ _ q2 (Rel.pop ⟨_, _, r5⟩) (fun i _ => rfl) rfl⟩⟩
/-- a slot's own is moved out -/
@[simp] def dMove (pn : List Nat) (i : Nat) : DTE := fun env Q => ∃ d, env[i]? = some (some d) ∧ pn.contains i = false ∧ Q d (env.set i none)
def mvU (U : Fam) (i : Nat) : Fam
  | .inl j => if j = i then fun _ => False else U (.inl j)
  | .inr 0 => U (.inl i)
  | .inr (j + 1) => U (.inr j)
theorem mvU_same {i : Nat} : mvU U i (.inl i) = fun _ => False := if_pos rfl
theorem mvU_ne {i j : Nat} (h : j ≠ i) : mvU U i (.inl j) = U (.inl j) := if_neg h
theorem RelF.move (R : RelF K B F U env σ tm H) {i : Nat} {v : V} (hi : i ∉ B.own) (e : env[i]? = some (some d)) (hv : σ[i]? = some (some v)) : RelF K B F (mvU U i) (env.set i none) σ ((v, d) :: tm) H := by
  have back : ∀ x a, mvU U i x a → ∃ y, U y a ∧ (match x with | .inl j => y = .inl j ∧ j ≠ i | .inr 0 => y = .inl i | .inr (j + 1) => y = .inr j) := by
    intro x a u
    rcases x with j | j
    · by_cases h : j = i
      · rw [h, mvU_same] at u; exact u.elim
      · rw [mvU_ne h] at u; exact ⟨_, u, rfl, h⟩
    · cases j with
      | zero => exact ⟨_, u, rfl⟩
      | succ j => exact ⟨_, u, rfl⟩
  refine ⟨by rw [List.length_set]; exact R.len, fun j d' e' => ?_, fun j w d' e' => ?_, fun x y a u w => ?_, fun x a u => ?_, fun x a u => ?_, R.sub, R.base, R.keep, R.new, fun x a u => ?_, R.ownA, R.pin, R.ther⟩
  · by_cases h : i = j
    · subst h
      rw [List.getElem?_set_self'] at e'
      rw [e] at e'; cases e'
    · rw [List.getElem?_set_ne h] at e'
      obtain ⟨w, h1, h2⟩ := R.own j d' e'
      exact ⟨w, h1, by rw [mvU_ne (Ne.symm h)]; exact h2⟩
  · cases j with
    | zero =>
      cases e'
      obtain ⟨w, h1, h2⟩ := R.own i d e
      rw [hv] at h1; cases h1
      exact .inl h2
    | succ j => exact R.tmp j w d' e'
  · obtain ⟨x', u', hx⟩ := back x a u
    obtain ⟨y', w', hy⟩ := back y a w
    have q := R.dis x' y' a u' w'
    subst q
    rcases x with j | j <;> rcases y with k | k
    · rw [hx.1] at hy; have := hy.1; cases this; rfl
    · cases k with
      | zero =>
        have hy : x' = .inl i := hy
        rw [hx.1] at hy; cases hy; exact absurd rfl hx.2
      | succ k =>
        have hy : x' = .inr k := hy
        rw [hx.1] at hy; cases hy
    · cases j with
      | zero =>
        have hx : x' = .inl i := hx
        rw [hy.1] at hx; cases hx; exact absurd rfl hy.2
      | succ j =>
        have hx : x' = .inr j := hx
        rw [hy.1] at hx; cases hx
    · cases j with
      | zero =>
        cases k with
        | zero => rfl
        | succ k =>
          have hx : x' = .inl i := hx
          have hy : x' = .inr k := hy
          rw [hx] at hy; cases hy
      | succ j =>
        cases k with
        | zero =>
          have hx : x' = .inr j := hx
          have hy : x' = .inl i := hy
          rw [hx] at hy; cases hy
        | succ k =>
          have hx : x' = .inr j := hx
          have hy : x' = .inr k := hy
          rw [hx] at hy; cases hy; rfl
  · obtain ⟨y, u', _⟩ := back x a u; exact R.nof y a u'
  · obtain ⟨y, u', _⟩ := back x a u; exact R.liv y a u'
  · obtain ⟨y, u', hx⟩ := back x a u
    rcases R.usr y a u' with h | ⟨k, q, h⟩
    · exact .inl h
    · rcases x with j | j
      · rw [hx.1] at q; cases q; exact .inr ⟨_, rfl, h⟩
      · cases j with
        | zero =>
          have hx : y = .inl i := hx
          rw [hx] at q; cases q
          exact absurd (R.ownA _ _ h) hi
        | succ j =>
          have hx : y = .inr j := hx
          rw [hx] at q; cases q
theorem de_move (i : Nat) : DE K pn (tVar i) (dMove pn i) := ⟨fun B ok tm env σ H Q R r ⟨d, e, hp, h⟩ k => by
  obtain ⟨F, U, r⟩ := r
  obtain ⟨v, h1, h2⟩ := r.own i d e
  exact ⟨v, h1, k _ _ _ _ h ⟨_, _, r.move (bok_pin ok hp).2 e h1⟩⟩⟩
/-! ### while -/
def dWhile (c : DTT) (tb : DTS) : DTS := fun D env => ∃ I : Nat → Env → Prop, (∃ m, I m env) ∧ ∀ m env, I m env → c env fun b e => if b = true then tb { D with nx := fun e => ∃ m', m' < m ∧ I m' e, ct := fun e => ∃ m', m' < m ∧ I m' e, bk := D.nx } e else D.nx e
theorem ds_while {c : TT} {tb : TS} {dc : DTT} {db : DTS} (hc : DT K pn c dc) (hb : DS K pn tb db) : DS K pn (tWhile c tb) (dWhile dc db) := ⟨fun B ok tm np env σ H D E R s ⟨I, ⟨m0, h0⟩, step⟩ => by
  refine ⟨fun m σ H => ∃ env, Rel K B env σ tm H ∧ I m env, ⟨m0, env, R, h0⟩, ?_⟩
  rintro m σ1 H1 ⟨env1, R1, i1⟩
  refine hc.run B ok tm env1 σ1 H1 _ _ R1 (step m env1 i1) fun b e H2 q r2 => ?_
  cases b with
  | true =>
    rw [if_pos rfl] at q ⊢
    have nx : ∀ e' σ' H', Rel K B e' σ' tm H' → (∃ m', m' < m ∧ I m' e') → ∃ m', m' < m ∧ ∃ env, Rel K B env σ' tm H' ∧ I m' env := fun e' σ' H' R' ⟨m', lt, i'⟩ => ⟨m', lt, e', R', i'⟩
    exact ⟨fun σ' H' => ∃ m', m' < m ∧ ∃ env, Rel K B env σ' tm H' ∧ I m' env, fun σ' H' h => h, hb.run B ok tm np e σ1 H2 { D with nx := fun e => ∃ m', m' < m ∧ I m' e, ct := fun e => ∃ m', m' < m ∧ I m' e, bk := D.nx } _ r2 ⟨nx, s.rt, s.nx, nx⟩ q⟩
  | false =>
    rw [if_neg Bool.false_ne_true] at q ⊢
    exact s.nx _ _ _ r2 q⟩
end
end DL

/-! ## DLh.lean -/
namespace DL
open PySem PySem.Spec PyProof.Rows L2
open Dat (toD)
section
variable {K : Frag} {B : Base} {env : Env} {σ : L2.St} {tm : List (V × D)} {H : Hp} {v : V} {x d : D} {pn : List Nat} {F : Hp} {U : Fam}
/-! ### what is walked -/
structure Feeds (K : Frag) (B : Base) (tm : List (V × D)) (kp : Env → Prop) (J : It) (items : List D) : Prop where
  stop : ∀ ts env σ H, Rel K B env σ (ts ++ tm) H → kp env → J.stop items.length H
  go : ∀ (i : Nat) ts env σ H, i < items.length → Rel K B env σ (ts ++ tm) H → kp env → J.go i H
  yld : ∀ (i : Nat) (x : D) ts env σ H v H', items[i]? = some x → Rel K B env σ (ts ++ tm) H → kp env → J.yld i H v H' → Rel K B env σ ((v, x) :: (ts ++ tm)) H' ∧ isP x = false
/-- items, what the walk asks to stay, the slots behind -/
abbrev DTI := Env → (List D → (Env → Prop) → Env → Prop) → Prop
structure DI (K : Frag) (pn ps : List Nat) (wi : TI) (di : DTI) : Prop where
  run : ∀ (B : Base), Bok pn B → ∀ (tm : List (V × D)) (env : Env) (σ : L2.St) (H : Hp) (Q : It → Hp → Prop) (R : List D → (Env → Prop) → Env → Prop), Rel K B env σ tm H → di env R →
    (∀ items kp env' J H' B' tm2, R items kp env' → Bok (ps ++ pn) B' → (∀ tm env σ H, Rel K B' env σ tm H → Rel K B env σ tm H) → (∀ p ∈ B'.pins, p ∈ B.pins ∨ p.1 ∈ ps) → NoPtr tm2 → Rel K B' env' σ (tm2 ++ tm) H' → Feeds K B' (tm2 ++ tm) kp J items → Q J H') → wi σ H Q
theorem noP1 {v : V} {x : D} (h : ∀ j, x ≠ .ptr j) : NoPtr [(v, x)] := fun w j q => by
  have := List.mem_singleton.mp q
  cases this; exact h j rfl
theorem Feeds.list {a : Addr} {x : D} {ds : List D} (e : lstC x = some ds) : Feeds K B ((.ref a, x) :: tm) (fun _ => True) (Itl K a) ds := by
  have key : ∀ ts env σ H, Rel K B env σ (ts ++ (V.ref a, x) :: tm) H → ∃ F U vs, RelF K B F U env σ (ts ++ (V.ref a, x) :: tm) H ∧ SqL K H a vs ∧ vs.length = ds.length ∧ ∀ (i : Nat) v d, vs[i]? = some v → ds[i]? = some d → Rep K F v d := fun ts env σ H R => by
    obtain ⟨F, U, R⟩ := R
    rcases R.tmp ts.length (.ref a) x (by rw [List.getElem?_append_right (Nat.le_refl _), Nat.sub_self]; rfl) with q | ⟨j, q, _⟩
    · obtain ⟨b, vs, e', hs, l, r⟩ := q.list R.sub e
      cases e'
      exact ⟨F, U, vs, R, hs, l, r⟩
    · rw [q] at e; cases e
  refine ⟨fun ts env σ H R _ => ?_, fun i ts env σ H hi R _ => ?_, fun i y ts env σ H v H' hy R _ q => ?_⟩
  · obtain ⟨F, U, vs, R, hs, l, r⟩ := key ts env σ H R
    exact ⟨vs, hs, by omega⟩
  · obtain ⟨F, U, vs, R, hs, l, r⟩ := key ts env σ H R
    exact ⟨vs, vs[i], hs, List.getElem?_eq_getElem (by omega)⟩
  · obtain ⟨F, U, vs, R, hs, l, r⟩ := key ts env σ H R
    obtain ⟨e1, e2⟩ := q
    subst e1
    have h := r i v y (e2 vs hs) hy
    exact ⟨⟨F, _, R.push h⟩, by have := h.isR; cases y <;> first | rfl | exact nomatch this⟩
/-- over a list that stands, or that was just made -/
@[simp] def iL (da : DTE) : DTI := fun env R => da env fun x e => ∃ ds, lstC x = some ds ∧ R ds (fun _ => True) e
theorem di_list {t : TE} {da : DTE} (h : DE K pn t da) : DI K pn [] (iList K t) (iL da) := ⟨fun B ok tm env σ H Q R r h' k => h.run B ok tm env σ H _ _ r h' fun x e v H1 ⟨ds, q1, q2⟩ r1 => by
  have n : ∀ j, x ≠ .ptr j := fun j z => by rw [z] at q1; cases q1
  have e1 : res e x = some x := by cases x <;> first | rfl | cases q1
  obtain ⟨F, U, S, r2, o, sub⟩ := r1.look1 e1
  obtain ⟨a, vs, rfl, hs, l, rp⟩ := o.list sub q1
  exact ⟨a, rfl, ⟨vs, hs⟩, k ds _ e (Itl K a) H1 B [(.ref a, x)] q2 ok (fun _ _ _ _ h => h) (fun p h => .inl h) (noP1 n) r1 (Feeds.list q1)⟩⟩
theorem Feeds.tuple {a : Addr} {ds : List D} : Feeds K B ((.ref a, .tup ds) :: tm) (fun _ => True) (Itt K a) ds := by
  have key : ∀ ts env σ H, Rel K B env σ (ts ++ (V.ref a, D.tup ds) :: tm) H → ∃ F U vs, RelF K B F U env σ (ts ++ (V.ref a, .tup ds) :: tm) H ∧ SqT K H a vs ∧ vs.length = ds.length ∧ ∀ (i : Nat) v d, vs[i]? = some v → ds[i]? = some d → Rep K F v d := fun ts env σ H R => by
    obtain ⟨F, U, R⟩ := R
    rcases R.tmp ts.length (.ref a) (.tup ds) (by rw [List.getElem?_append_right (Nat.le_refl _), Nat.sub_self]; rfl) with q | ⟨j, q, _⟩
    · obtain ⟨b, vs, e', hs, l, r⟩ := q.tuple R.sub rfl
      cases e'
      exact ⟨F, U, vs, R, hs, l, r⟩
    · cases q
  refine ⟨fun ts env σ H R _ => ?_, fun i ts env σ H hi R _ => ?_, fun i y ts env σ H v H' hy R _ q => ?_⟩
  · obtain ⟨F, U, vs, R, hs, l, r⟩ := key ts env σ H R
    exact ⟨vs, hs, by omega⟩
  · obtain ⟨F, U, vs, R, hs, l, r⟩ := key ts env σ H R
    exact ⟨vs, vs[i], hs, List.getElem?_eq_getElem (by omega)⟩
  · obtain ⟨F, U, vs, R, hs, l, r⟩ := key ts env σ H R
    obtain ⟨e1, e2⟩ := q
    subst e1
    have h := r i v y (e2 vs hs) hy
    exact ⟨⟨F, _, R.push h⟩, by have := h.isR; cases y <;> first | rfl | exact nomatch this⟩
@[simp] def iT (da : DTE) : DTI := fun env R => da env fun x e => ∃ ds, x = .tup ds ∧ R ds (fun _ => True) e
theorem di_tup {t : TE} {da : DTE} (h : DE K pn t da) : DI K pn [] (iTup K t) (iT da) := ⟨fun B ok tm env σ H Q R r h' k => h.run B ok tm env σ H _ _ r h' fun x e v H1 ⟨ds, q1, q2⟩ r1 => by
  subst q1
  obtain ⟨F, U, S, r2, o, sub⟩ := r1.look1 (d := .tup ds) rfl
  obtain ⟨a, vs, rfl, hs, l, rp⟩ := o.tuple sub rfl
  exact ⟨a, rfl, ⟨vs, hs⟩, k ds _ e (Itt K a) H1 B [(.ref a, .tup ds)] q2 ok (fun _ _ _ _ h => h) (fun p h => .inl h) (noP1 fun j z => nomatch z) r1 Feeds.tuple⟩⟩
/-- over a list of one's own at a slot, that the body leaves as it is -/
@[simp] def iLp (pn : List Nat) (i : Nat) : DTI := fun env R => ∃ ds, env[i]? = some (some (.mt ds)) ∧ R ds (fun e => e[i]? = some (some (.mt ds))) env
theorem di_listp (i : Nat) : DI K pn [i] (iList K (tVar i)) (iLp pn i) := ⟨fun B ok tm env σ H Q R r ⟨ds, e, h'⟩ k => by
  obtain ⟨F, U, r⟩ := r
  obtain ⟨v, h1, h2⟩ := r.own i _ e
  obtain ⟨a, vs, rfl, hs, l, rp⟩ := h2.list r.sub rfl
  refine ⟨_, h1, a, rfl, ⟨vs, hs⟩, k ds _ env (Itl K a) H { B with pins := (i, .ref a) :: B.pins } [] h' ⟨fun j hj => List.mem_append_right _ (ok.1 j hj), fun p hp => ?_⟩ (fun tm env σ H ⟨F, U, R⟩ => ⟨F, U, R.len, R.own, R.tmp, R.dis, R.nof, R.liv, R.sub, R.base, R.keep, R.new, R.usr, R.ownA, fun p hp => R.pin p (List.mem_cons_of_mem _ hp), R.ther⟩) (fun p hp => ?_) (fun v j q => nomatch q) ⟨F, U, r.len, r.own, r.tmp, r.dis, r.nof, r.liv, r.sub, r.base, r.keep, r.new, r.usr, r.ownA, fun p hp => ?_, r.ther⟩ ?_⟩
  · rcases List.mem_cons.mp hp with rfl | hp
    · exact List.mem_cons_self
    · exact List.mem_append_right _ (ok.2 p hp)
  · rcases List.mem_cons.mp hp with rfl | hp
    · exact .inr List.mem_cons_self
    · exact .inl hp
  · rcases List.mem_cons.mp hp with rfl | hp
    · exact h1
    · exact r.pin p hp
  · have key : ∀ ts env' σ H, Rel K { B with pins := (i, .ref a) :: B.pins } env' σ (ts ++ ([] ++ tm)) H → env'[i]? = some (some (.mt ds)) → ∃ F U vs, RelF K { B with pins := (i, .ref a) :: B.pins } F U env' σ (ts ++ ([] ++ tm)) H ∧ SqL K H a vs ∧ vs.length = ds.length ∧ ∀ (i : Nat) v d, vs[i]? = some v → ds[i]? = some d → Rep K F v d := fun ts env' σ H ⟨F, U, R⟩ e' => by
      obtain ⟨v, g1, g2⟩ := R.own i _ e'
      have g3 := R.pin (i, .ref a) List.mem_cons_self
      have g3 : σ[i]? = some (some (V.ref a)) := g3
      rw [g1] at g3; cases g3
      obtain ⟨b, vs, e2, hs, l, r⟩ := g2.list R.sub rfl
      cases e2
      exact ⟨F, U, vs, R, hs, l, r⟩
    refine ⟨fun ts env σ H R q => ?_, fun j ts env σ H hi R q => ?_, fun j y ts env σ H v H' hy R q q' => ?_⟩
    · obtain ⟨F, U, vs, R, hs, l, r⟩ := key ts env σ H R q
      exact ⟨vs, hs, by omega⟩
    · obtain ⟨F, U, vs, R, hs, l, r⟩ := key ts env σ H R q
      exact ⟨vs, vs[j], hs, List.getElem?_eq_getElem (by omega)⟩
    · obtain ⟨F, U, vs, R, hs, l, r⟩ := key ts env σ H R q
      obtain ⟨e1, e2⟩ := q'
      subst e1
      have h := r j v y (e2 vs hs) hy
      exact ⟨⟨F, _, R.push h⟩, by have := h.isR; cases y <;> first | rfl | exact nomatch this⟩⟩
/-- ranges by ones -/
def rngD (lo : Int) (n : Nat) : List D := (List.range n).map fun i => .int (lo + (i : Nat))
theorem rngD_len (lo : Int) (n : Nat) : (rngD lo n).length = n := by unfold rngD; rw [List.length_map, List.length_range]
theorem Feeds.rng {lo : Int} {n : Nat} : Feeds K B tm (fun _ => True) (Itr lo n) (rngD lo n) := by
  refine ⟨fun ts env σ H R _ => ?_, fun i ts env σ H hi R _ => ?_, fun i y ts env σ H v H' hy R _ q => ?_⟩
  · rw [rngD_len]; exact Nat.le_refl _
  · rw [rngD_len] at hi; exact hi
  · obtain ⟨e1, e2⟩ := q
    subst e1 e2
    unfold rngD at hy
    rw [List.getElem?_map] at hy
    cases e : (List.range n)[i]? with
    | none => rw [e] at hy; cases hy
    | some j =>
      rw [e] at hy
      cases hy
      have := List.getElem?_eq_some_iff.mp e
      obtain ⟨h1, h2⟩ := this
      rw [List.getElem_range] at h2
      subst h2
      exact ⟨R.val fun F => .int _, rfl⟩
@[simp] def iR1 (da : DTA) : DTI := fun env R => da env fun xs e => ∃ j : Int, xs = [.int j] ∧ -(2 ^ 62) ≤ j ∧ j < 2 ^ 62 ∧ R (rngD 0 j.toNat) (fun _ => True) e
@[simp] def iR2 (da : DTA) : DTI := fun env R => da env fun xs e => ∃ i j : Int, xs = [.int i, .int j] ∧ (-(2 ^ 62) ≤ i ∧ i < 2 ^ 62 ∧ -(2 ^ 62) ≤ j ∧ j < 2 ^ 62) ∧ R (rngD i (j - i).toNat) (fun _ => True) e
theorem di_rng1 {t : TA} {da : DTA} (h : DA K pn t da) : DI K pn [] (iRng1 t) (iR1 da) := ⟨fun B ok tm env σ H Q R r h' k => h.run B ok tm env σ H _ _ r h' fun xs e vs H1 ⟨j, q1, q2, q3, q4⟩ l r1 => by
  subst q1
  obtain ⟨w, rfl⟩ := len1 l
  have r1' : Rel K B e σ ((w, .int j) :: tm) H1 := r1
  have qw := r1'.int
  subst qw
  exact ⟨j, rfl, q2, q3, k _ _ e _ H1 B [] q4 ok (fun _ _ _ _ h => h) (fun p h => .inl h) (fun v j q => nomatch q) r1'.pop Feeds.rng⟩⟩
theorem di_rng2 {t : TA} {da : DTA} (h : DA K pn t da) : DI K pn [] (iRng2 t) (iR2 da) := ⟨fun B ok tm env σ H Q R r h' k => h.run B ok tm env σ H _ _ r h' fun xs e vs H1 ⟨i, j, q1, q2, q4⟩ l r1 => by
  subst q1
  obtain ⟨w, u, rfl⟩ := len2 l
  have r1' : Rel K B e σ ((w, .int i) :: (u, .int j) :: tm) H1 := r1
  have qw := r1'.int
  have qu := r1'.pop.int
  subst qw qu
  exact ⟨i, j, rfl, q2, k _ _ e _ H1 B [] q4 ok (fun _ _ _ _ h => h) (fun p h => .inl h) (fun v j q => nomatch q) r1'.pop.pop Feeds.rng⟩⟩
/-- enumerate, zip of lists that stand -/
def enumD (ds : List D) : List D := ds.mapIdx fun i d => .tup [.int (i : Nat), d]
def zipD (xs ys : List D) : List D := (xs.zip ys).map fun p => .tup [p.1, p.2]
theorem two_rep {v w : V} {x y : D} (h1 : Rep K F v x) (h2 : Rep K F w y) : ∀ (i : Nat) u d, [v, w][i]? = some u → [x, y][i]? = some d → Rep K F u d := fun i u d e1 e2 => by
  match i, e1, e2 with
  | 0, e1, e2 => cases e1; cases e2; exact h1
  | 1, e1, e2 => cases e1; cases e2; exact h2
theorem Feeds.enum {a : Addr} {x : D} {ds : List D} (e : lstC x = some ds) : Feeds K B ((.ref a, x) :: tm) (fun _ => True) (Ite K a) (enumD ds) := by
  have key : ∀ ts env σ H, Rel K B env σ (ts ++ (V.ref a, x) :: tm) H → ∃ F U vs, RelF K B F U env σ (ts ++ (V.ref a, x) :: tm) H ∧ SqL K H a vs ∧ vs.length = ds.length ∧ ∀ (i : Nat) v d, vs[i]? = some v → ds[i]? = some d → Rep K F v d := fun ts env σ H R => by
    obtain ⟨F, U, R⟩ := R
    rcases R.tmp ts.length (.ref a) x (by rw [List.getElem?_append_right (Nat.le_refl _), Nat.sub_self]; rfl) with q | ⟨j, q, _⟩
    · obtain ⟨b, vs, e', hs, l, r⟩ := q.list R.sub e
      cases e'
      exact ⟨F, U, vs, R, hs, l, r⟩
    · rw [q] at e; cases e
  refine ⟨fun ts env σ H R _ => ?_, fun i ts env σ H hi R _ => ?_, fun i y ts env σ H v H' hy R _ q => ?_⟩
  · obtain ⟨F, U, vs, R, hs, l, r⟩ := key ts env σ H R
    exact ⟨vs, hs, by rw [enumD, List.length_mapIdx]; omega⟩
  · obtain ⟨F, U, vs, R, hs, l, r⟩ := key ts env σ H R
    rw [enumD, List.length_mapIdx] at hi
    exact ⟨vs, vs[i], hs, List.getElem?_eq_getElem (by omega)⟩
  · obtain ⟨F, U, vs, R, hs, l, r⟩ := key ts env σ H R
    obtain ⟨T, z, rfl, hT, rfl, e2⟩ := q
    have hz := e2 vs hs
    unfold enumD at hy
    rw [List.getElem?_mapIdx] at hy
    cases e3 : ds[i]? with
    | none => rw [e3] at hy; cases hy
    | some y' =>
      rw [e3] at hy
      cases hy
      exact ⟨Rel.tupN R hT rfl (two_rep (.int _) (r i z y' hz e3)), rfl⟩
@[simp] def iE (da : DTA) : DTI := fun env R => da env fun xs e => ∃ x ds, xs = [x] ∧ lstC x = some ds ∧ R (enumD ds) (fun _ => True) e
theorem di_enum {t : TA} {da : DTA} (h : DA K pn t da) : DI K pn [] (iEnum K t) (iE da) := ⟨fun B ok tm env σ H Q R r h' k => h.run B ok tm env σ H _ _ r h' fun xs e vs H1 ⟨x, ds, q1, q2, q3⟩ l r1 => by
  subst q1
  obtain ⟨w, rfl⟩ := len1 l
  have r1' : Rel K B e σ ((w, x) :: tm) H1 := r1
  have n : ∀ j, x ≠ .ptr j := fun j z => by rw [z] at q2; cases q2
  have e1 : res e x = some x := by cases x <;> first | rfl | cases q2
  obtain ⟨F, U, S, r2, o, sub⟩ := r1'.look1 e1
  obtain ⟨a, vs, rfl, hs, l, rp⟩ := o.list sub q2
  exact ⟨a, vs, rfl, hs, k _ _ e _ H1 B [(.ref a, x)] q3 ok (fun _ _ _ _ h => h) (fun p h => .inl h) (noP1 n) r1' (Feeds.enum q2)⟩⟩
theorem Feeds.zip {a b : Addr} {x y : D} {xs ys : List D} (e : lstC x = some xs) (e' : lstC y = some ys) : Feeds K B ((.ref a, x) :: (.ref b, y) :: tm) (fun _ => True) (Itz K a b) (zipD xs ys) := by
  have key : ∀ ts env σ H, Rel K B env σ (ts ++ (V.ref a, x) :: (V.ref b, y) :: tm) H → ∃ F U vs ws, RelF K B F U env σ (ts ++ (V.ref a, x) :: (V.ref b, y) :: tm) H ∧ SqL K H a vs ∧ vs.length = xs.length ∧ (∀ (i : Nat) v d, vs[i]? = some v → xs[i]? = some d → Rep K F v d) ∧
      SqL K H b ws ∧ ws.length = ys.length ∧ ∀ (i : Nat) v d, ws[i]? = some v → ys[i]? = some d → Rep K F v d := fun ts env σ H R => by
    obtain ⟨F, U, R⟩ := R
    have g1 : ∃ vs, SqL K H a vs ∧ vs.length = xs.length ∧ ∀ (i : Nat) v d, vs[i]? = some v → xs[i]? = some d → Rep K F v d := by
      rcases R.tmp ts.length (.ref a) x (by rw [List.getElem?_append_right (Nat.le_refl _), Nat.sub_self]; rfl) with q | ⟨j, q, _⟩
      · obtain ⟨b, vs, e', hs, l, r⟩ := q.list R.sub e
        cases e'
        exact ⟨vs, hs, l, r⟩
      · rw [q] at e; cases e
    have g2 : ∃ vs, SqL K H b vs ∧ vs.length = ys.length ∧ ∀ (i : Nat) v d, vs[i]? = some v → ys[i]? = some d → Rep K F v d := by
      rcases R.tmp (ts.length + 1) (.ref b) y (by rw [List.getElem?_append_right (Nat.le_add_right _ _), Nat.add_sub_cancel_left]; rfl) with q | ⟨j, q, _⟩
      · obtain ⟨b, vs, e', hs, l, r⟩ := q.list R.sub e'
        cases e'
        exact ⟨vs, hs, l, r⟩
      · rw [q] at e'; cases e'
    obtain ⟨vs, h1, h2, h3⟩ := g1
    obtain ⟨ws, h4, h5, h6⟩ := g2
    exact ⟨F, U, vs, ws, R, h1, h2, h3, h4, h5, h6⟩
  have zl : (zipD xs ys).length = min xs.length ys.length := by unfold zipD; rw [List.length_map, List.length_zip]
  refine ⟨fun ts env σ H R _ => ?_, fun i ts env σ H hi R _ => ?_, fun i z ts env σ H v H' hy R _ q => ?_⟩
  · obtain ⟨F, U, vs, ws, R, h1, h2, h3, h4, h5, h6⟩ := key ts env σ H R
    exact ⟨vs, ws, h1, h4, by rw [zl]; omega⟩
  · obtain ⟨F, U, vs, ws, R, h1, h2, h3, h4, h5, h6⟩ := key ts env σ H R
    rw [zl] at hi
    exact ⟨vs, ws, vs[i], ws[i], h1, h4, List.getElem?_eq_getElem (by omega), List.getElem?_eq_getElem (by omega)⟩
  · obtain ⟨F, U, vs, ws, R, h1, h2, h3, h4, h5, h6⟩ := key ts env σ H R
    obtain ⟨T, p, p', rfl, hT, rfl, e2, e3⟩ := q
    have q1 := e2 vs h1
    have q2 := e3 ws h4
    unfold zipD at hy
    rw [List.getElem?_map] at hy
    cases e4 : (xs.zip ys)[i]? with
    | none => rw [e4] at hy; cases hy
    | some y' =>
      rw [e4] at hy
      cases hy
      obtain ⟨a1, a2⟩ := List.getElem?_zip_eq_some.mp e4
      exact ⟨Rel.tupN R hT rfl (two_rep (h3 i p _ q1 a1) (h6 i p' _ q2 a2)), rfl⟩
@[simp] def iZ (da : DTA) : DTI := fun env R => da env fun zs e => ∃ x y xs ys, zs = [x, y] ∧ lstC x = some xs ∧ lstC y = some ys ∧ R (zipD xs ys) (fun _ => True) e
theorem di_zip {t : TA} {da : DTA} (h : DA K pn t da) : DI K pn [] (iZip K t) (iZ da) := ⟨fun B ok tm env σ H Q R r h' k => h.run B ok tm env σ H _ _ r h' fun zs e vs H1 ⟨x, y, xs, ys, q1, q2, q2', q3⟩ l r1 => by
  subst q1
  obtain ⟨w, u, rfl⟩ := len2 l
  have r1' : Rel K B e σ ((w, x) :: (u, y) :: tm) H1 := r1
  have n : ∀ j, x ≠ .ptr j := fun j z => by rw [z] at q2; cases q2
  have n' : ∀ j, y ≠ .ptr j := fun j z => by rw [z] at q2'; cases q2'
  have e1 : res e x = some x := by cases x <;> first | rfl | cases q2
  have e1' : res e y = some y := by cases y <;> first | rfl | cases q2'
  obtain ⟨F, U, S, r2, o, sub⟩ := r1'.look1 e1
  obtain ⟨a, vs, rfl, hs, l, rp⟩ := o.list sub q2
  obtain ⟨F', U', S', r2', o', sub'⟩ := r1'.pop.look1 e1'
  obtain ⟨b, ws, rfl, hs', l', rp'⟩ := o'.list sub' q2'
  refine ⟨a, b, vs, ws, rfl, hs, hs', k _ _ e _ H1 B [(.ref a, x), (.ref b, y)] q3 ok (fun _ _ _ _ h => h) (fun p h => .inl h) (fun v j q => ?_) r1' (Feeds.zip q2 q2')⟩
  rcases List.mem_cons.mp q with q | q
  · cases q; exact n j rfl
  · exact noP1 n' v j q⟩
/-- the signs of a text -/
def strD (x : Str) : List D := x.cps.toList.map fun c => .str ⟨#[c]⟩
theorem Feeds.str {x : Str} : Feeds K B tm (fun _ => True) (Its x) (strD x) := by
  have hl : (strD x).length = x.cps.size := by unfold strD; rw [List.length_map, Array.length_toList]
  refine ⟨fun ts env σ H R _ => ?_, fun i ts env σ H hi R _ => ?_, fun i y ts env σ H v H' hy R _ q => ?_⟩
  · rw [hl]; exact Nat.le_refl _
  · rw [hl] at hi; exact hi
  · obtain ⟨e1, c, e2, e3⟩ := q
    subst e1 e3
    unfold strD at hy
    rw [List.getElem?_map, Array.getElem?_toList, e2] at hy
    cases hy
    exact ⟨R.val fun F => .str _, rfl⟩
@[simp] def iS (da : DTE) : DTI := fun env R => da env fun x e => ∃ z, x = .str z ∧ R (strD z) (fun _ => True) e
theorem di_str {t : TE} {da : DTE} (h : DE K pn t da) : DI K pn [] (iStr t) (iS da) := ⟨fun B ok tm env σ H Q R r h' k => h.run B ok tm env σ H _ _ r h' fun x e v H1 ⟨z, q1, q2⟩ r1 => by
  subst q1
  have q := r1.sc (u := .str z) rfl
  subst q
  exact ⟨z, rfl, k _ _ e _ H1 B [] q2 ok (fun _ _ _ _ h => h) (fun p h => .inl h) (fun v j q => nomatch q) r1.pop Feeds.str⟩⟩
/-! ### for -/
def forD (kp : Env → Prop) (g : DTG) (tb : DTS) : List D → DEnds → Env → Prop
  | [], D, env => kp env ∧ D.nx env
  | x :: xs, D, env => kp env ∧ g x env fun e2 => tb { D with nx := forD kp g tb xs D, ct := forD kp g tb xs D, bk := D.nx } e2
@[simp] def dFor (di : DTI) (g : DTG) (tb : DTS) : DTS := fun D env => di env fun items kp e => forD kp g tb items D e
theorem Rel.drop2 {w : V} {r : D} {tm2 : List (V × D)} (R : Rel K B env σ ((w, r) :: (tm2 ++ tm)) H) : Rel K B env σ ((w, r) :: tm) H := by
  obtain ⟨F, U, R⟩ := R
  refine ⟨F, _, R.re ((w, r) :: tm) (fun i => match i with | 0 => 0 | i + 1 => i + 1 + tm2.length) (fun i j e => ?_) fun i x e => ?_⟩
  · cases i <;> cases j <;> dsimp only at e <;> omega
  · cases i with
    | zero => exact e
    | succ i =>
      show ((w, r) :: (tm2 ++ tm))[i + 1 + tm2.length]? = some x
      rw [show i + 1 + tm2.length = (i + tm2.length) + 1 by omega, List.getElem?_cons_succ, List.getElem?_append_right (by omega), Nat.add_sub_cancel]
      exact e
theorem noP_app {t1 t2 : List (V × D)} (h1 : NoPtr t1) (h2 : NoPtr t2) : NoPtr (t1 ++ t2) := fun v j h => (List.mem_append.mp h).elim (h1 v j) (h2 v j)
theorem ds_for {ps ws : List Nat} {wi : TI} {g : TG} {tb : TS} {di : DTI} {dg : DTG} {db : DTS} (hi : DI K pn ps wi di) (hg : DG K (ps ++ pn) ws g dg) (hb : DS K (ps ++ pn) tb db) : DS K pn (tFor wi g tb) (dFor di dg db) :=
  ⟨fun B ok tm np env σ H D E R s h => hi.run B ok tm env σ H _ _ R h fun items kp e J H1 B' tm2 q ok' back _ np2 r1 fd => by
    refine ⟨fun i m σ H => m = items.length - i ∧ i ≤ items.length ∧ ∃ env, Rel K B' env σ (tm2 ++ tm) H ∧ forD kp dg db (items.drop i) D env, ⟨items.length, rfl, Nat.zero_le _, e, r1, q⟩, ?_⟩
    rintro i m σ2 H2 ⟨rfl, hi, e2, r2, q2⟩
    by_cases hlt : i < items.length
    · obtain ⟨x, hx⟩ : ∃ x, items[i]? = some x := ⟨_, List.getElem?_eq_getElem hlt⟩
      have hd : items.drop i = x :: items.drop (i + 1) := by
        rw [List.drop_eq_getElem_cons hlt]
        congr 1
        rw [List.getElem?_eq_getElem hlt] at hx; exact Option.some.inj hx
      rw [hd] at q2
      obtain ⟨q3, q4⟩ := q2
      have N : ∀ e' σ' H', Rel K B' e' σ' (tm2 ++ tm) H' → forD kp dg db (items.drop (i + 1)) D e' → ∃ env, Rel K B' env σ' (tm2 ++ tm) H' ∧ forD kp dg db (items.drop (i + 1)) D env := fun e' σ' H' R' h' => ⟨e', R', h'⟩
      refine .inr ⟨fd.go i [] e2 σ2 H2 hlt r2 q3, fun σ' H' => ∃ env, Rel K B' env σ' (tm2 ++ tm) H' ∧ forD kp dg db (items.drop (i + 1)) D env, fun σ' H' ⟨e', r', q'⟩ => ⟨items.length - (i + 1), by omega, rfl, hlt, e', r', q'⟩, fun v H' y => ?_⟩
      obtain ⟨r3, nx⟩ := fd.yld i x [] e2 σ2 H2 v H' hx r2 q3 y
      refine hg.run B' ok' (tm2 ++ tm) (noP_app np2 np) e2 σ2 H' v x _ _ r3 q4 fun e3 σ3 H3 q5 r4 _ _ => ?_
      exact hb.run B' ok' (tm2 ++ tm) (noP_app np2 np) e3 σ3 H3 { D with nx := forD kp dg db (items.drop (i + 1)) D, ct := forD kp dg db (items.drop (i + 1)) D, bk := D.nx } _ r4
        ⟨N, fun w r e' σ' H' R' h' => s.rt w r e' σ' H' (back _ _ _ _ R'.drop2) h', fun e' σ' H' R' h' => s.nx e' σ' H' (back _ _ _ _ R'.popN) h', N⟩ q5
    · have e0 : items.drop i = [] := List.drop_eq_nil_of_le (by omega)
      rw [e0] at q2
      have ei : i = items.length := by omega
      refine .inl ⟨?_, s.nx e2 σ2 H2 (back _ _ _ _ r2.popN) q2.2⟩
      rw [ei]
      exact fd.stop [] e2 σ2 H2 r2 q2.1⟩
end
end DL

/-! ## DLi.lean -/
namespace DL
open PySem PySem.Spec PyProof.Rows L2
open Dat (toD)
section
variable {K : Frag} {B : Base} {env : Env} {σ : L2.St} {tm : List (V × D)} {H : Hp} {v : V} {x d : D} {pn : List Nat} {F : Hp} {U : Fam}
/-! ### comprehensions -/
@[simp] def wipeE (env : Env) : List Nat → Env
  | [] => env
  | v :: vs => (wipeE env vs).set v none
theorem wipeE_len (env : Env) : ∀ vs, (wipeE env vs).length = env.length
  | [] => rfl
  | v :: vs => by unfold wipeE; rw [List.length_set, wipeE_len env vs]
theorem wipeE_none {env : Env} : ∀ {vs : List Nat} {i : Nat}, i ∈ vs → ∀ d, (wipeE env vs)[i]? ≠ some (some d)
  | v :: vs, i, h, d => by
    unfold wipeE
    by_cases e : v = i
    · subst e
      rw [List.getElem?_set_self']
      cases (wipeE env vs)[v]? <;> simp
    · rw [List.getElem?_set_ne e]
      rcases List.mem_cons.mp h with h | h
      · exact absurd h.symm e
      · exact wipeE_none h d
theorem Rel.wipeE (R : Rel K B env σ tm H) : ∀ vs, Rel K B (wipeE env vs) σ tm H
  | [] => R
  | v :: vs => by
    obtain ⟨F, U, R⟩ := Rel.wipeE R vs
    exact ⟨F, U, R.forget v⟩
theorem wipe_get (σ : L2.St) : ∀ (vs : List Nat) (i : Nat), i ∉ vs → (wipe σ vs)[i]? = σ[i]?
  | [], i, _ => rfl
  | v :: vs, i, h => by
    unfold wipe
    rw [List.getElem?_set_ne (fun e => h (by simp [e]))]
    exact wipe_get σ vs i fun z => h (List.mem_cons_of_mem _ z)
theorem wipe_congr {σ σ' : L2.St} (l : σ'.length = σ.length) : ∀ (vs : List Nat), (∀ i, i ∉ vs → σ'[i]? = σ[i]?) → wipe σ' vs = wipe σ vs := fun vs h => by
  apply List.ext_getElem?
  intro i
  by_cases hi : i ∈ vs
  · have key : ∀ (σ : L2.St) (vs : List Nat), i ∈ vs → (wipe σ vs)[i]? = if i < σ.length then some none else none := by
      intro σ vs
      induction vs with
      | nil => intro h; cases h
      | cons v vs ih =>
        intro h
        unfold wipe
        by_cases e : v = i
        · subst e
          rw [List.getElem?_set_self', ]
          by_cases hl : v < σ.length
          · rw [if_pos hl, List.getElem?_eq_getElem (by rw [wipe_length]; exact hl)]; rfl
          · rw [if_neg hl, List.getElem?_eq_none (by rw [wipe_length]; omega)]; rfl
        · rw [List.getElem?_set_ne e]
          rcases List.mem_cons.mp h with h | h
          · exact absurd h.symm e
          · exact ih h
    rw [key σ' vs hi, key σ vs hi, l]
  · rw [wipe_get σ' vs i hi, wipe_get σ vs i hi]; exact h i hi
/-- without what means slots -/
def dep1 : V × D → V × D
  | (v, .ptr _) => (.non, .non)
  | p => p
theorem dep1_np {v : V} {d : D} (h : ∀ j, d ≠ .ptr j) : dep1 (v, d) = (v, d) := by
  cases d <;> first | rfl | exact absurd rfl (h _)
theorem noPtr_dep (tm : List (V × D)) : NoPtr (tm.map dep1) := fun v j h => by
  obtain ⟨⟨w, d⟩, _, e⟩ := List.mem_map.mp h
  rcases nptr_cases d with ⟨i, rfl⟩ | n
  · cases e
  · rw [dep1_np n] at e; cases e; exact n j rfl
/-- the slots' values exchanged where nothing is known of them -/
theorem RelF.swap (R : RelF K B F U env σ tm H) {σ' : L2.St} {tm' : List (V × D)} {vs : List Nat} (l : σ'.length = σ.length) (hs : ∀ i, i ∉ vs → σ'[i]? = σ[i]?) (he : ∀ i ∈ vs, ∀ d, env[i]? ≠ some (some d)) (hp : ∀ p ∈ B.pins, p.1 ∉ vs)
    (ht : ∀ (i : Nat) w d, tm'[i]? = some (w, d) → (tm[i]? = some (w, d) ∧ ∀ j, d ≠ .ptr j) ∨ (w = .non ∧ d = .non) ∨ ∃ j, d = .ptr j ∧ σ'[j]? = some (some w)) : RelF K B F U env σ' tm' H := by
  refine ⟨R.len.trans l.symm, fun i d e => ?_, fun i w d e => ?_, R.dis, R.nof, R.liv, R.sub, R.base, R.keep, R.new, R.usr, R.ownA, fun p h => ?_, R.ther⟩
  · obtain ⟨w, h1, h2⟩ := R.own i d e
    exact ⟨w, by rw [hs i fun z => he i z d e]; exact h1, h2⟩
  · rcases ht i w d e with ⟨q, n⟩ | ⟨rfl, rfl⟩ | q
    · rcases R.tmp i w d q with h | ⟨j, h, _⟩
      · exact .inl h
      · exact absurd h (n j)
    · exact .inl (.frz .non)
    · exact .inr q
  · rw [hs _ (hp p h)]; exact R.pin p h
/-- a list of one's own that is put by grows -/
theorem RelF.growT {a : Addr} {ws : List V} {acc : List D} {u : V} {y : D} (R : RelF K B F U env σ ((u, y) :: (.ref a, .mt acc) :: tm) H) (hy : isR y = true) :
    ∃ vs, H a = some (.lst vs) ∧ vs.length = acc.length ∧ Rel K B env σ ((.ref a, .mt (acc ++ [y])) :: tm) (upd H a (.lst (vs ++ [u]))) := by
  have ry := kids1 R hy
  rcases R.tmp 1 (.ref a) (.mt acc) rfl with q | ⟨j, q, _⟩
  · cases q with
    | frz q => cases q
    | @mt _ vs _ _ ha h l r =>
      refine ⟨vs, h, l, F, fun x => match x with | .inl i => U (.inl i) | .inr i => U (.inr (i + 1)), ?_⟩
      have oth : ∀ x, x ≠ .inr 1 → ∀ b o, U x b → H b = some o → upd H a (.lst (vs ++ [u])) b = some o := fun x n b o s e => by
        rw [upd_ne (fun z => n (R.dis x (.inr 1) a (by rw [← z]; exact s) ha))]; exact e
      refine ⟨R.len, fun i d e => ?_, fun i w d e => ?_, fun x y b u w => ?_, fun x b u => ?_, fun x b u => ?_, fun b o e => ?_, R.base, fun b o e n => ?_, R.new, fun x b u => ?_, R.ownA, R.pin, fun b e => upd_some (R.ther b e)⟩
      · obtain ⟨w, h1, h2⟩ := R.own i d e
        exact ⟨w, h1, h2.stay (Same.refl F) (oth _ fun z => nomatch z)⟩
      · cases i with
        | zero => cases e; exact .inl (.mt ha upd_same (by simp [l]) (snoc_rep l r ry))
        | succ i =>
          rcases R.tmp (i + 2) w d e with q | q
          · exact .inl (q.stay (Same.refl F) (oth _ fun z => by cases z))
          · exact .inr q
      · rcases x with i | i <;> rcases y with j | j
        · exact R.dis _ _ b u w
        · exact nomatch R.dis (.inl i) (.inr (j + 1)) b u w
        · exact nomatch R.dis (.inr (i + 1)) (.inl j) b u w
        · have e := R.dis (.inr (i + 1)) (.inr (j + 1)) b u w
          cases e; rfl
      · rcases x with i | i
        · exact R.nof _ b u
        · exact R.nof _ b u
      · rcases x with i | i
        · exact upd_some (R.liv _ b u)
        · exact upd_some (R.liv _ b u)
      · rw [upd_ne (fun z => by have := R.nof _ a ha; rw [z, this] at e; cases e)]
        exact R.sub b o e
      · have q := R.keep b o e n
        rw [upd_ne (fun z => by
          rcases R.usr _ a ha with h | ⟨k, h, _⟩
          · rw [z, h] at e; cases e
          · cases h)]
        exact q
      · rcases x with i | i
        · exact R.usr _ b u
        · rcases R.usr (.inr (i + 1)) b u with h | ⟨_, h, _⟩
          · exact .inl h
          · cases h
  · cases q
def lcD (kp : Env → Prop) (g : DTG) (tt : DTT) (te : DTE) (vs : List Nat) : List D → List D → Env → (D → Env → Prop) → Prop
  | [], acc, env, Q => kp env ∧ Q (.mt acc) env
  | x :: xs, acc, env, Q => kp env ∧ g x env fun e2 => tt e2 fun b e3 => if b = true then te e3 fun y e4 => isR y = true ∧ acc.length < sizeLine ∧ lcD kp g tt te vs xs (acc ++ [y]) (wipeE e4 vs) Q else lcD kp g tt te vs xs acc (wipeE e3 vs) Q
@[simp] def dLc (di : DTI) (g : DTG) (tt : DTT) (te : DTE) (vs : List Nat) : DTE := fun env Q => di env fun items kp e => lcD kp g tt te vs items [] (wipeE e vs) Q
theorem de_lc {ps ws vs : List Nat} {wi : TI} {g : TG} {tt : TT} {te : TE} {di : DTI} {dg : DTG} {dt : DTT} {de : DTE} (hi : DI K pn ps wi di) (hg : DG K (ps ++ pn) ws g dg) (ht : DT K (ps ++ pn) tt dt) (he : DE K (ps ++ pn) te de)
    (hw : ∀ i ∈ ws, i ∈ vs) (hv : ∀ i ∈ vs, i ∉ ps ++ pn) : DE K pn (tLc wi g tt te vs) (dLc di dg dt de vs) :=
  ⟨fun B ok tm env σ H Q R r h k => hi.run B ok tm env σ H _ _ r h fun items kp e J H1 B' tm2 q ok' back _ np2 r1 fd => by
    intro DA hD
    have hpv : ∀ p ∈ B'.pins, p.1 ∉ vs := fun p hp hz => hv _ hz (ok'.2 p hp)
    refine ⟨fun i m H => m = items.length - i ∧ i ≤ items.length ∧ ∃ env acc, Rel K B' env σ ((V.ref DA, D.mt acc) :: (tm2 ++ tm)) H ∧ (∀ i ∈ vs, ∀ d, env[i]? ≠ some (some d)) ∧ lcD kp dg dt de vs (items.drop i) acc env R, ⟨items.length, rfl, Nat.zero_le _, _, [], ?_, fun i hi d => wipeE_none hi d, q⟩, ?_⟩
    · obtain ⟨F, U, r2⟩ := r1.wipeE vs
      exact r2.newL hD rfl fun i v d e => by simp at e
    · rintro i m H2 ⟨rfl, hi, e2, acc, r2, hn, q2⟩
      by_cases hlt : i < items.length
      · obtain ⟨x, hx⟩ : ∃ x, items[i]? = some x := ⟨_, List.getElem?_eq_getElem hlt⟩
        have hd : items.drop i = x :: items.drop (i + 1) := by
          rw [List.drop_eq_getElem_cons hlt]
          congr 1
          rw [List.getElem?_eq_getElem hlt] at hx; exact Option.some.inj hx
        rw [hd] at q2
        obtain ⟨q3, q4⟩ := q2
        refine .inr ⟨fd.go i [_] e2 σ H2 hlt r2 q3, fun H' => ∃ env acc, Rel K B' env σ ((V.ref DA, D.mt acc) :: (tm2 ++ tm)) H' ∧ (∀ i ∈ vs, ∀ d, env[i]? ≠ some (some d)) ∧ lcD kp dg dt de vs (items.drop (i + 1)) acc env R,
          fun H' ⟨e', a', r', n', q'⟩ => ⟨items.length - (i + 1), by omega, rfl, hlt, e', a', r', n', q'⟩, fun v H' y => ?_⟩
        obtain ⟨r3, nx⟩ := fd.yld i x [_] e2 σ H2 v H' hx r2 q3 y
        -- into the block
        have r4 : Rel K B' e2 (wipe σ vs) ((v, x) :: (V.ref DA, D.mt acc) :: (tm2 ++ tm.map dep1)) H' := by
          obtain ⟨F, U, r3⟩ := r3
          refine ⟨F, U, r3.swap (vs := vs) (wipe_length σ vs) (fun i hi => wipe_get σ vs i hi) hn hpv fun j w d e => ?_⟩
          cases j with
          | zero => cases e; exact .inl ⟨rfl, isP_no nx⟩
          | succ j =>
            cases j with
            | zero => cases e; exact .inl ⟨rfl, fun j z => nomatch z⟩
            | succ j =>
              have e : (tm2 ++ tm.map dep1)[j]? = some (w, d) := e
              by_cases hj : j < tm2.length
              · rw [List.getElem?_append_left hj] at e
                exact .inl ⟨by show (tm2 ++ tm)[j]? = _; rw [List.getElem?_append_left hj]; exact e, fun k z => np2 w k (z ▸ List.mem_of_getElem? e)⟩
              · rw [List.getElem?_append_right (by omega), List.getElem?_map] at e
                cases e5 : tm[j - tm2.length]? with
                | none => rw [e5] at e; cases e
                | some p =>
                  rw [e5] at e
                  obtain ⟨w', d'⟩ := p
                  rcases nptr_cases d' with ⟨k, rfl⟩ | n
                  · cases e; exact .inr (.inl ⟨rfl, rfl⟩)
                  · have e : some (dep1 (w', d')) = some (w, d) := e
                    rw [dep1_np n] at e
                    cases e
                    exact .inl ⟨by show (tm2 ++ tm)[j]? = _; rw [List.getElem?_append_right (by omega)]; exact e5, n⟩
        have npt : NoPtr ((V.ref DA, D.mt acc) :: (tm2 ++ tm.map dep1)) := fun w j hm => by
          rcases List.mem_cons.mp hm with e | hm
          · cases e
          · exact noP_app np2 (noPtr_dep tm) w j hm
        -- out of the block
        have out : ∀ (e' : Env) (σ' : L2.St) (a' : List D) (H3 : Hp), Rel K B' e' σ' ((V.ref DA, D.mt a') :: (tm2 ++ tm.map dep1)) H3 → σ'.length = (wipe σ vs).length → (∀ i, i ∉ ws → σ'[i]? = (wipe σ vs)[i]?) → Rel K B' (DL.wipeE e' vs) σ ((V.ref DA, D.mt a') :: (tm2 ++ tm)) H3 := fun e' σ' a' H3 r' hl hs => by
          obtain ⟨F, U, r'⟩ := r'.wipeE vs
          refine ⟨F, U, r'.swap (vs := vs) (by rw [hl, wipe_length]) (fun i hi => by rw [hs i fun z => hi (hw i z), wipe_get σ vs i hi]) (fun i hi d => wipeE_none hi d) hpv fun j w d e => ?_⟩
          cases j with
          | zero => cases e; exact .inl ⟨rfl, fun j z => nomatch z⟩
          | succ j =>
            have e : (tm2 ++ tm)[j]? = some (w, d) := e
            by_cases hj : j < tm2.length
            · rw [List.getElem?_append_left hj] at e
              exact .inl ⟨by show (tm2 ++ tm.map dep1)[j]? = _; rw [List.getElem?_append_left hj]; exact e, fun k z => np2 w k (z ▸ List.mem_of_getElem? e)⟩
            · rw [List.getElem?_append_right (by omega)] at e
              rcases nptr_cases d with ⟨k, rfl⟩ | n
              · -- what meant a slot ahead of the block means it behind
                refine .inr (.inr ⟨k, rfl, ?_⟩)
                obtain ⟨F2, U2, r2⟩ := r2
                rcases r2.tmp (j + 1) w (.ptr k) (by show (tm2 ++ tm)[j]? = _; rw [List.getElem?_append_right (by omega)]; exact e) with q | ⟨k', q, q'⟩
                · cases q with | frz q => cases q
                · cases q; exact q'
              · refine .inl ⟨?_, n⟩
                show (tm2 ++ tm.map dep1)[j]? = _
                rw [List.getElem?_append_right (by omega), List.getElem?_map, e]
                show some (dep1 (w, d)) = _
                rw [dep1_np n]
        refine hg.run B' ok' _ npt e2 (wipe σ vs) H' v x _ _ r4 q4 fun e3 σ3 H3 q5 r5 hs hl3 => ?_
        refine ⟨?_, ht.run B' ok' _ e3 σ3 H3 _ _ r5 q5 fun b e4 H4 q6 r6 => ?_⟩
        · rw [wipe_congr hl3 vs fun i hi => hs i fun z => hi (hw i z)]
          exact wipe_congr (wipe_length σ vs) vs fun i hi => wipe_get σ vs i hi
        · cases b with
          | false =>
            rw [if_neg Bool.false_ne_true] at q6 ⊢
            exact ⟨_, acc, out e4 σ3 acc H4 r6 hl3 hs, fun i hi d => wipeE_none hi d, q6⟩
          | true =>
            rw [if_pos rfl] at q6 ⊢
            refine he.run B' ok' _ e4 σ3 H4 _ _ r6 q6 fun y' e5 u H5 ⟨q7, q8, q9⟩ r7 => ?_
            obtain ⟨F, U, r7⟩ := r7
            obtain ⟨ws', hD', l', r8⟩ := r7.growT (ws := []) q7
            exact ⟨ws', hD', by omega, _, _, out e5 σ3 _ _ r8 hl3 hs, fun i hi d => wipeE_none hi d, q9⟩
      · have e0 : items.drop i = [] := List.drop_eq_nil_of_le (by omega)
        rw [e0] at q2
        have ei : i = items.length := by omega
        refine .inl ⟨by rw [ei]; exact fd.stop [_] e2 σ H2 r2 q2.1, k _ _ _ _ q2.2 (back _ _ _ _ (Rel.drop2 r2))⟩⟩
end
end DL

/-! ## DLj.lean -/
namespace DL
open PySem PySem.Spec PyProof.Rows L2
open Dat (toD)
/-! ### defs -/
/-- what a def does: its arguments, what is wanted of its value and of its own arguments' data at the end, what is wanted of an exception (its class, its fields) -/
abbrev DSp := List D → (D → List D → Prop) → (Addr → List (Str × V) → List D → Prop) → Prop
def XOk (fs : List (Str × V)) (d : Option Addr) (H : Hp) : Prop := match fs with
  | [] => d = none
  | _ => ∃ dd, d = some dd ∧ H dd = some (.xd fs)
structure LiftOk (K : Frag) (ow : List Nat) (B : Base) (vs : List V) (ds : List D) (H : Hp) : Prop where
  h : B.H = H
  rel : ∃ U, RelF K B B.F U (ds.map some) (vs.map some) [] H
  own : B.own = ow
  pin : ∀ k ∈ ow, ∃ v, vs[k]? = some v ∧ (k, v) ∈ B.pins
  pin2 : ∀ p ∈ B.pins, p.1 ∈ ow
def liftSp (K : Frag) (ow : List Nat) (f : DSp) : Sp := fun vs H Q E => ∃ B ds R RX, LiftOk K ow B vs ds H ∧ f ds R RX ∧
  (∀ r os env' v H', R r os → isP r = false → Rel K B env' (vs.map some) [(v, r)] H' → outs ow env' = some os → Q v H') ∧
  (∀ C fs os env' d H', RX C fs os → Rel K B env' (vs.map some) [] H' → outs ow env' = some os → XOk fs d H' → E (.ref C) d H')
/-- at a def's end -/
def rtD (ow : List Nat) (R : D → List D → Prop) : D → Env → Prop := fun r env => isP r = false ∧ ∃ os, outs ow env = some os ∧ R r os
@[simp] def endsD (ow : List Nat) (R : D → List D → Prop) : DEnds := { nx := rtD ow R .non, rt := rtD ow R }
def startE (n : Nat) (ds : List D) : Env := ds.map some ++ List.replicate (n - ds.length) none
section
variable {K : Frag} {B : Base} {env : Env} {σ : L2.St} {tm : List (V × D)} {H : Hp} {v : V} {x d : D} {pn : List Nat} {F : Hp} {U : Fam}
theorem map_some_get {α : Type} {xs : List α} {i : Nat} {y : Option α} : (xs.map some)[i]? = some y ↔ ∃ x, y = some x ∧ xs[i]? = some x := by
  rw [List.getElem?_map]
  cases xs[i]? with
  | none => simp
  | some a =>
    constructor
    · intro h; cases h; exact ⟨a, rfl, rfl⟩
    · rintro ⟨x, rfl, h⟩; cases h; rfl
theorem outs_get : ∀ {ow : List Nat} {env : Env} {os : List D}, outs ow env = some os → ∀ k ∈ ow, ∃ d, env[k]? = some (some d)
  | [], _, _, _, k, hk => nomatch hk
  | j :: ow, env, os, h, k, hk => by
    obtain ⟨d, os', rfl, e1, e2⟩ := outs_cons h
    rcases List.mem_cons.mp hk with rfl | hk
    · exact ⟨d, e1⟩
    · exact outs_get e2 k hk
theorem outs_congr {env env' : Env} : ∀ {ow : List Nat}, (∀ k ∈ ow, env[k]? = env'[k]?) → outs ow env = outs ow env'
  | [], _ => rfl
  | k :: ow, h => by
    unfold outs
    rw [List.mapM_cons, List.mapM_cons, h k List.mem_cons_self]
    have := outs_congr (env := env) (env' := env') (ow := ow) fun j hj => h j (List.mem_cons_of_mem _ hj)
    unfold outs at this
    rw [this]
/-- the slots beyond the arguments come, and go -/
theorem RelF.begin {vs : List V} {ds : List D} (n : Nat) (l : vs.length = ds.length) (R : RelF K B F U (ds.map some) (vs.map some) [] H) : RelF K B F U (startE n ds) (vs.map some ++ List.replicate (n - vs.length) none) [] H where
  len := by unfold startE; simp [l]
  own := fun i d e => by
    unfold startE at e
    by_cases hi : i < (ds.map some).length
    · rw [List.getElem?_append_left hi] at e
      obtain ⟨v, h1, h2⟩ := R.own i d e
      exact ⟨v, by rw [List.getElem?_append_left (by simp [l] at hi ⊢; omega)]; exact h1, h2⟩
    · rw [List.getElem?_append_right (by omega), List.getElem?_replicate] at e
      split at e <;> cases e
  tmp := fun i v d e => by simp at e
  dis := R.dis
  nof := R.nof
  liv := R.liv
  sub := R.sub
  base := R.base
  keep := R.keep
  new := R.new
  usr := R.usr
  ownA := R.ownA
  pin := fun p hp => by
    have q := R.pin p hp
    have hi : p.1 < (vs.map some).length := (List.getElem?_eq_some_iff.mp q).1
    rw [List.getElem?_append_left hi]; exact q
  ther := R.ther
theorem Rel.finish {vs : List V} {tm : List (V × D)} {ow : List Nat} (R : Rel K B env σ tm H) (hp : ∀ k ∈ ow, ∃ v, vs[k]? = some v ∧ (k, v) ∈ B.pins) (hp2 : ∀ p ∈ B.pins, p.1 ∈ ow) (np : NoPtr tm) {os : List D} (ho : outs ow env = some os) :
    ∃ env', Rel K B env' (vs.map some) tm H ∧ outs ow env' = some os := by
  obtain ⟨F, U, R⟩ := R
  refine ⟨(List.range vs.length).map fun i => if i ∈ ow then (env[i]?).join else none, ⟨F, U, ?_⟩, ?_⟩
  · have get : ∀ i d, ((List.range vs.length).map fun i => if i ∈ ow then (env[i]?).join else none)[i]? = some (some d) → i ∈ ow ∧ env[i]? = some (some d) := fun i d e => by
      rw [List.getElem?_map] at e
      cases q : (List.range vs.length)[i]? with
      | none => rw [q] at e; cases e
      | some j =>
        rw [q] at e
        obtain ⟨h1, h2⟩ := List.getElem?_eq_some_iff.mp q
        rw [List.getElem_range] at h2
        subst h2
        have e : some (if i ∈ ow then (env[i]?).join else none) = some (some d) := e
        split at e
        · rename_i h; exact ⟨h, join_some.mp (Option.some.inj e)⟩
        · cases e
    have at_ : ∀ k ∈ ow, (vs.map some)[k]? = σ[k]? := fun k hk => by
      obtain ⟨v, h1, h2⟩ := hp k hk
      have q := R.pin _ h2
      have q : σ[k]? = some (some v) := q
      rw [q, List.getElem?_map, h1]; rfl
    refine ⟨by simp, fun i d e => ?_, fun i w d e => ?_, R.dis, R.nof, R.liv, R.sub, R.base, R.keep, R.new, R.usr, R.ownA, fun p hp' => ?_, R.ther⟩
    · obtain ⟨h1, h2⟩ := get i d e
      obtain ⟨v, h3, h4⟩ := R.own i d h2
      exact ⟨v, by rw [at_ i h1]; exact h3, h4⟩
    · rcases R.tmp i w d e with q | ⟨j, q, _⟩
      · exact .inl q
      · subst q; exact absurd (List.mem_of_getElem? e) (np w j)
    · rw [at_ _ (hp2 p hp')]; exact R.pin p hp'
  · rw [← ho]
    refine outs_congr fun k hk => ?_
    obtain ⟨v, h1, _⟩ := hp k hk
    have hlt : k < vs.length := (List.getElem?_eq_some_iff.mp h1).1
    obtain ⟨d, hd⟩ := outs_get ho k hk
    rw [List.getElem?_map, List.getElem?_range hlt, hd]
    show some (if k ∈ ow then (env[k]?).join else none) = _
    rw [if_pos hk, hd]; rfl
end
section
variable {P : Program} {w : World} {K : Frag} {mg : Str → Option Value} {base : Heap}
/-- THE RULE for a def that lets no exception out -/
theorem okD {x qual : Str} {st : Stmt} {f : Addr} {fd : FuncData} {N ps : List Str} {k : Nat} {ow : List Nat} {sp : DSp} {d : DTS} (Fn : Fun K x qual st f fd) (S : FnScope N ps (defScope st))
    (body : ∀ (cdv : Value) (A : Around) (outer : List PySem.Env) (s : Shared) (H : Hp) (E : XK), Room k (A.deeper (envOfC qual (defScope st) s.heap.objs.size f cdv)) → ∃ t, XSs (cxOf CX0 P w K mg base N qual (defScope st) f cdv A outer s H E).nox ow (defBody st) t d)
    (spec : ∀ ds R RX, sp ds R RX → ds.length = ps.length ∧ d (endsD ow R) (startE N.length ds)) : FnOk P w K mg base CX0 (k + 1) f fd ps (liftSp K ow sp) := by
  have len : ∀ vs H Q E, liftSp K ow sp vs H Q E → vs.length = ps.length := fun vs H Q E ⟨B, ds, R, RX, L, h, _⟩ => by
    obtain ⟨U, r⟩ := L.rel
    have := r.len
    rw [List.length_map, List.length_map] at this
    rw [← this]
    exact (spec ds R RX h).1
  refine Fn.ok S len fun cdv A outer s H vs Q E hr h => ?_
  obtain ⟨t, xs⟩ := body cdv A outer s H E hr
  obtain ⟨B, ds, R, RX, L, h, kq, kx⟩ := h
  obtain ⟨U, r⟩ := L.rel
  have hl : vs.length = ds.length := by
    have := r.len
    rw [List.length_map, List.length_map] at this
    exact this.symm
  refine ⟨t, xs.p, xs.d.run B ⟨fun i hi => L.own ▸ hi, L.pin2⟩ [] (fun v j q => nomatch q) _ _ H _ _ ⟨B.F, U, r.begin N.length hl⟩ ?_ (spec ds R RX h).2⟩
  have fin : ∀ v r env σ H', Rel K B env σ [(v, r)] H' → rtD ow R r env → Q v H' := fun v r env σ H' R' ⟨h1, os, h2, h3⟩ => by
    obtain ⟨env', r2, h4⟩ := R'.finish L.pin L.pin2 (noP1 (isP_no h1)) h2
    exact kq r os env' v H' h3 h1 r2 h4
  exact ⟨fun env σ H' R' h' => fin .non .non env σ H' (R'.val fun F => .non) h', fun v r env σ H' R' h' => fin v r env σ H' R' h', fun env σ H' R' h' => h'.elim, fun env σ H' R' h' => h'.elim⟩
end
section
variable {K : Frag} {B : Base} {env : Env} {σ : L2.St} {tm : List (V × D)} {H : Hp} {v : V} {x d : D} {pn : List Nat} {F : Hp} {U : Fam}
/-! ### calls -/
def sRes (f : DSp) (ds : List D) (Q : D → Prop) : Prop := f ds (fun r _ => Q r) fun _ _ _ => False
/-- f(..), all that is handed over stands -/
@[simp] def dCall (f : DSp) (dd : List D) (da : DTA) : DTE := fun env Q => da env fun ds e => ds.all isR = true ∧ f (ds ++ dd) (fun r _ => Q r e) fun _ _ _ => False
theorem argOk0 {ds : List D} (h : ds.all isR = true) : ArgOk [] env ds :=
  ⟨fun k hk => (nomatch hk), fun k d e _ => List.all_eq_true.mp h d (List.mem_of_getElem? e), fun k k' j e _ => by
    have := List.all_eq_true.mp h _ (List.mem_of_getElem? e)
    exact nomatch this⟩
theorem argD_R {ds : List D} (h : ds.all isR = true) : ds.map (argD env) = ds := by
  induction ds with
  | nil => rfl
  | cons d ds ih =>
    rw [List.all_cons, Bool.and_eq_true] at h
    rw [List.map_cons, ih h.2]
    congr 1
    have := h.1
    cases d <;> first | rfl | exact nomatch this
/-- the callee's promise out of the caller's state -/
theorem Rel.callee {vs : List V} {ds : List D} {ow : List Nat} {f : DSp} {Q : VK} {E : XK} {R : D → List D → Prop} {RX : Addr → List (Str × V) → List D → Prop} (r : Rel K B env σ (vs.zip ds ++ tm) H) (l : vs.length = ds.length) (ok : ArgOk ow env ds)
    (h : f (ds.map (argD env)) R RX) (hq : ∀ r os v H', R r os → Rel K B (putO ds ow os env) σ ((v, r) :: tm) H' → Q v H') (hx : ∀ C fs os d H', RX C fs os → Rel K B (putO ds ow os env) σ tm H' → XOk fs d H' → E (.ref C) d H') : liftSp K ow f vs H Q E := by
  obtain ⟨F, U, r⟩ := r
  have R0 := r.entry l ok
  refine ⟨calleeB F H U ow vs ds, ds.map (argD env), R, RX, ⟨rfl, ⟨_, R0⟩, rfl, fun k hk => ?_, fun p hp => ?_⟩, h, fun r' os env' v H' h1 h2 h3 h4 => ?_, fun C fs os env' d H' h1 h3 h4 h5 => ?_⟩
  · obtain ⟨j, d, e1, _⟩ := ok.own k hk
    obtain ⟨w, e2, _⟩ := zip_get l e1
    exact ⟨w, e2, List.mem_filterMap.mpr ⟨k, hk, by rw [e2]; rfl⟩⟩
  · obtain ⟨k, hk, e⟩ := List.mem_filterMap.mp hp
    cases q : vs[k]? with
    | none => rw [q] at e; cases e
    | some v => rw [q] at e; cases e; exact hk
  · obtain ⟨F1, U1, P⟩ := h3
    exact hq r' os v H' h1 ⟨_, _, r.after l ok P (isP_no h2) (putO_len ds ow os env) (putO_get ds env' ok.dis ow os env h4)⟩
  · obtain ⟨F1, U1, P⟩ := h3.val (v := .non) (d := .non) fun F => .non
    have q : Rel K B (putO ds ow os env) σ ((.non, .non) :: tm) H' := ⟨_, _, r.after l ok P (fun j z => nomatch z) (putO_len ds ow os env) (putO_get ds env' ok.dis ow os env h4)⟩
    exact hx C fs os d H' h1 q.pop h5
theorem putO_nil {ds os : List D} : putO ds [] os env = env := by unfold putO; rfl
theorem RelF.vals (R : RelF K B F U env σ tm H) : ∀ {dvs : List V} {dd : List D}, dvs.length = dd.length → (∀ (i : Nat) v d, dvs[i]? = some v → dd[i]? = some d → Rep K F v d) → ∃ U', RelF K B F U' env σ (dvs.zip dd ++ tm) H := fun {dvs dd} l r => R.pushAll dvs dd l r
theorem de_call {t : TA} {da : DTA} {f : DSp} {dvs : List V} {E : XK} (h : DA K pn t da) (hd : dvs.all isSc = true) : DE K pn (tCall (liftSp K [] f) dvs E t) (dCall f (dvs.map ofV) da) := ⟨fun B ok tm env σ H Q R r h' k => h.run B ok tm env σ H _ _ r h' fun ds e vs H1 ⟨q1, q2⟩ l r1 => by
  have hdd : (dvs.map ofV).all isR = true := List.all_eq_true.mpr fun d hd => by
    obtain ⟨v, _, rfl⟩ := List.mem_map.mp hd
    cases v <;> rfl
  have q3 : (ds ++ dvs.map ofV).all isR = true := by rw [List.all_append, q1, hdd]; rfl
  -- the defaults are put by, beneath the arguments
  have r2 : Rel K B e σ ((vs ++ dvs).zip (ds ++ dvs.map ofV) ++ tm) H1 := by
    obtain ⟨F, U, r1⟩ := r1
    have kd := r1.kids l q1
    obtain ⟨U1, r3⟩ := r1.popL
    have rd : ∀ (i : Nat) v d, dvs[i]? = some v → (dvs.map ofV)[i]? = some d → Rep K F v d := fun i v d e1 e2 => by
      rw [List.getElem?_map, e1] at e2
      cases e2
      exact rep_sc (List.all_eq_true.mp hd v (List.mem_of_getElem? e1))
    obtain ⟨U2, r4⟩ := r3.pushAll (vs ++ dvs) (ds ++ dvs.map ofV) (by simp [l]) (app_rep l (by simp) kd rd)
    exact ⟨_, _, r4⟩
  refine Rel.callee (ow := []) r2 (by simp [l]) (argOk0 q3) (R := fun r _ => R r e) (RX := fun _ _ _ => False) (by rw [argD_R q3]; exact q2) (fun r os v H' h1 h2 => ?_) fun C fs os d H' h1 => h1.elim
  rw [putO_nil] at h2
  exact k _ _ _ _ h1 h2⟩
/-- f(..), some of one's own is handed over, and is changed -/
@[simp] def argB (ow : List Nat) (e : Env) : Nat → List D → Bool
  | _, [] => true
  | k, d :: ds => (if ow.contains k then (match d with | .ptr j => (match e[j]? with | some (some _) => true | _ => false) | _ => false) else isR d) && argB ow e (k + 1) ds
@[simp] def ndB : List Nat → Bool
  | [] => true
  | i :: l => !l.contains i && ndB l
theorem argB_ok {ow : List Nat} {e : Env} : ∀ {ds : List D} {k : Nat}, argB ow e k ds = true → (∀ (i : Nat) d, ds[i]? = some d → (k + i ∈ ow → ∃ j dj, d = .ptr j ∧ e[j]? = some (some dj)) ∧ (k + i ∉ ow → isR d = true))
  | [], k, _, i, d, h => by simp at h
  | d :: ds, k, h, i, d', hd => by
    unfold argB at h
    rw [Bool.and_eq_true] at h
    cases i with
    | zero =>
      cases hd
      have h1 := h.1
      refine ⟨fun hk => ?_, fun hk => ?_⟩
      · rw [if_pos (by simpa using hk)] at h1
        split at h1
        · split at h1
          · rename_i j _ dj e1
            exact ⟨_, _, rfl, e1⟩
          · cases h1
        · cases h1
      · rw [if_neg (by simpa using hk)] at h1
        exact h1
    | succ i =>
      have := argB_ok (ds := ds) (k := k + 1) h.2 i d' hd
      rw [show k + 1 + i = k + (i + 1) by omega] at this
      exact this
theorem ptrs_mem : ∀ {ds : List D} {i j : Nat}, ds[i]? = some (D.ptr j) → j ∈ ptrs ds
  | [], i, j, h => by simp at h
  | d :: ds, 0, j, h => by cases h; unfold ptrs; exact List.mem_cons_self
  | d :: ds, i + 1, j, h => by
    have q := ptrs_mem (ds := ds) (i := i) (j := j) h
    cases d <;> first | exact q | exact List.mem_cons_of_mem _ q
theorem ndB_ok : ∀ {ds : List D}, ndB (ptrs ds) = true → ∀ (k k' j : Nat), ds[k]? = some (D.ptr j) → ds[k']? = some (.ptr j) → k = k'
  | [], _, k, k', j, h, _ => by simp at h
  | d :: ds, h, k, k', j, h1, h2 => by
    have tail : ndB (ptrs ds) = true := by
      cases d <;> first | exact h | (unfold ptrs ndB at h; rw [Bool.and_eq_true] at h; exact h.2)
    cases k <;> cases k'
    · rfl
    · cases h1
      unfold ptrs ndB at h
      rw [Bool.and_eq_true] at h
      have := ptrs_mem (ds := ds) h2
      simp [this] at h
    · cases h2
      unfold ptrs ndB at h
      rw [Bool.and_eq_true] at h
      have := ptrs_mem (ds := ds) h1
      simp [this] at h
    · rw [ndB_ok tail _ _ j h1 h2]
theorem argOk_of {ow : List Nat} {ds : List D} (h1 : argB ow env 0 ds = true) (h2 : ndB (ptrs ds) = true) (h3 : ow.all (fun k => decide (k < ds.length)) = true) : ArgOk ow env ds where
  own := fun k hk => by
    have lt : k < ds.length := by simpa using List.all_eq_true.mp h3 k hk
    obtain ⟨j, dj, e1, e2⟩ := (argB_ok h1 k _ (List.getElem?_eq_getElem lt)).1 (by rw [Nat.zero_add]; exact hk)
    exact ⟨j, dj, by rw [List.getElem?_eq_getElem lt, e1], e2⟩
  oth := fun k d e hk => (argB_ok h1 k d e).2 (by rw [Nat.zero_add]; exact hk)
  dis := ndB_ok h2
@[simp] def dCallO (ow : List Nat) (f : DSp) (da : DTA) : DTE := fun env Q => da env fun ds e => argB ow e 0 ds = true ∧ ndB (ptrs ds) = true ∧ ow.all (fun k => decide (k < ds.length)) = true ∧ f (ds.map (argD e)) (fun r os => Q r (putO ds ow os e)) fun _ _ _ => False
theorem de_callO {t : TA} {da : DTA} {f : DSp} {ow : List Nat} {E : XK} (h : DA K pn t da) : DE K pn (tCall (liftSp K ow f) [] E t) (dCallO ow f da) := ⟨fun B ok tm env σ H Q R r h' k => h.run B ok tm env σ H _ _ r h' fun ds e vs H1 ⟨q1, q2, q3, q4⟩ l r1 => by
  show liftSp K ow f (vs ++ []) H1 Q E
  rw [List.append_nil]
  exact Rel.callee r1 l (argOk_of q1 q2 q3) (R := fun r os => R r (putO ds ow os e)) (RX := fun _ _ _ => False) q4 (fun r os v H' h1 h2 => k _ _ _ _ h1 h2) fun C fs os d H' h1 => h1.elim⟩
end
end DL

/-! ## DLk.lean -/
namespace DL
open PySem PySem.Spec PyProof.Rows L2
open Dat (toD)
section
variable {K : Frag} {B : Base} {env : Env} {σ : L2.St} {tm : List (V × D)} {H : Hp} {v : V} {x d : D} {pn : List Nat} {F : Hp} {U : Fam}
theorem de_ty (n : String) : DE K pn (tC (.ty n)) (dC (.ty n)) := ⟨fun B ok tm env σ H Q R r h' k => k _ _ _ _ h' (r.val fun F => .ty n)⟩
theorem de_cls (C : Addr) : DE K pn (tC (.ref C)) (dC (.cls C)) := ⟨fun B ok tm env σ H Q R r h' k => k _ _ _ _ h' (r.val fun F => .cls C)⟩
@[simp] def dYes : DTT := fun env Q => Q true env
theorem dt_yes : DT K pn tYes dYes := ⟨fun B ok tm env σ H Q R r h k => k _ _ _ h r⟩
/-! ### isinstance of a built-in class -/
def tyN : D → Option String
  | .non => some "NoneType"
  | .bl _ => some "bool"
  | .int _ => some "int"
  | .str _ => some "str"
  | .lst _ => some "list"
  | .mt _ => some "list"
  | .mm _ => some "list"
  | .tup _ => some "tuple"
  | .dc _ => some "dict"
  | _ => none
@[simp] theorem tyN_non : tyN .non = some "NoneType" := rfl
@[simp] theorem tyN_bl (b : Bool) : tyN (.bl b) = some "bool" := rfl
@[simp] theorem tyN_int (b : Int) : tyN (.int b) = some "int" := rfl
@[simp] theorem tyN_str (b : Str) : tyN (.str b) = some "str" := rfl
@[simp] theorem tyN_lst (b : List D) : tyN (.lst b) = some "list" := rfl
@[simp] theorem tyN_mt (b : List D) : tyN (.mt b) = some "list" := rfl
@[simp] theorem tyN_mm (b : List D) : tyN (.mm b) = some "list" := rfl
@[simp] theorem tyN_tup (b : List D) : tyN (.tup b) = some "tuple" := rfl
@[simp] theorem tyN_dc (b : List (Key × V)) : tyN (.dc b) = some "dict" := rfl
theorem Own.ty {S : Addr → Prop} {n : String} (h : Own K F H v d S) (sub : Same F H) (e : tyN d = some n) : TyX K H v (.type n) := by
  cases h with
  | frz h =>
    cases h with
    | non => cases e; exact .base .non
    | bl b => cases e; exact .base (.bl b)
    | int b => cases e; exact .base (.int b)
    | str b => cases e; exact .base (.str b)
    | lst h => cases e; exact .base (.lst (sub _ _ h))
    | tup h =>
      cases e
      rcases seqT_same sub h with (h | ⟨o, h⟩) | ⟨o, its, n, h, hc, _⟩
      · exact .base (.tup h)
      · exact .fTuple h
      · exact .kTuple h hc
    | _ => cases e
  | mt ha h => cases e; exact .base (.lst h)
  | mm Sc ha h => cases e; exact .base (.lst h)
  | mo => cases e
  | dc ha h => cases e; exact .base (.dK h)
def tyNs : List String := ["NoneType", "bool", "int", "str", "list", "tuple", "dict"]
def isT (a n : String) : Bool := a == n || (a == "bool" && n == "int")
theorem kitB_all : ∀ a ∈ tyNs, ∀ n ∈ tyNs, kitB a n = some (isT a n) := by decide +kernel
theorem tyN_mem {a : String} (h : tyN d = some a) : a ∈ tyNs := by
  cases d <;> cases h <;> decide
/-- isinstance(x, T), T a built-in class -/
@[simp] def cIsi : DFn := fun ds env Q => ∃ x n d a, ds = [x, .ty n] ∧ res env x = some d ∧ tyN d = some a ∧ tyNs.contains n = true ∧ Q (.bl (isT a n))
theorem dc_isi : DCl K (rIsi K) cIsi := ⟨fun B tm env σ H ds vs Q R l r h k => by
  obtain ⟨x, n, d, a, rfl, e1, e2, e3, h⟩ := h
  obtain ⟨v, w, rfl⟩ := len2 l
  have r' : Rel K B env σ ((v, x) :: (w, .ty n) :: tm) H := r
  have qw : w = .ty n := by
    obtain ⟨F, U, r2⟩ := r'
    rcases r2.tmp 1 w (.ty n) rfl with q | ⟨j, q, _⟩
    · cases q with | frz q => cases q; rfl
    · cases q
  subst qw
  obtain ⟨F, U, S, r2, o, sub⟩ := r'.look1 e1
  exact ⟨v, .ty n, .type a, .type n, _, rfl, .ty n, o.ty sub e2, kit_ty (kitB_all a (tyN_mem e2) n (by simpa using e3)), k _ _ _ h (r'.pop.pop.val fun F => .bl _)⟩⟩
/-! ### -x -/
@[simp] def dNeg (g : Int → Int) (da : DTE) : DTE := fun env Q => da env fun x e => ∃ i, x = .int i ∧ Q (.int (g i)) e
theorem de_neg {t : TE} {da : DTE} {g : Int → Int} (h : DE K pn t da) : DE K pn (tUn (rU fun i => .int (g i)) t) (dNeg g da) := ⟨fun B ok tm env σ H Q R r h' k => h.run B ok tm env σ H _ _ r h' fun x e v H1 ⟨i, q, q2⟩ r1 => by
  subst q
  have qi := r1.int
  subst qi
  exact ⟨i, rfl, k _ _ _ _ q2 (r1.pop.val fun F => .int _)⟩⟩
/-! ### a call that looks at one's own lists, and hands a flat value back -/
@[simp] def lookD (e : Env) (d : D) : D := frz (argD e d)
@[simp] def dCallB (f : DSp) (da : DTA) : DTE := fun env Q => da env fun ds e => ds.all (fun d => (res e d).isSome && isF (argD e d)) = true ∧ f (ds.map (lookD e)) (fun r _ => (scV r).isSome = true ∧ Q r e) fun _ _ _ => False
open Classical in
theorem de_callB {t : TA} {da : DTA} {f : DSp} {E : XK} (h : DA K pn t da) : DE K pn (tCall (liftSp K [] f) [] E t) (dCallB f da) := ⟨fun B ok tm env σ H Q R r h' k => h.run B ok tm env σ H _ _ r h' fun ds e vs H1 ⟨q1, q2⟩ l r1 => by
  show liftSp K [] f (vs ++ []) H1 Q E
  rw [List.append_nil]
  obtain ⟨F, U, r1⟩ := r1
  -- all that is one's own stands for the while
  let A : Addr → Prop := fun b => ∃ x, U x b
  let F2 : Hp := fun b => if A b then H1 b else F b
  have sF : Same F F2 := Same.both r1.sub fun a ⟨x, u⟩ => r1.nof x a u
  have sub2 : Same F2 H1 := fun b o q => by
    have q : (if A b then H1 b else F b) = some o := q
    split at q
    · exact q
    · exact r1.sub b o q
  have rp : ∀ (i : Nat) v d, vs[i]? = some v → (ds.map (lookD e))[i]? = some d → Rep K F2 v d := fun i v d h1 h2 => by
    rw [List.getElem?_map] at h2
    cases q : ds[i]? with
    | none => rw [q] at h2; cases h2
    | some d0 =>
      rw [q] at h2
      cases h2
      obtain ⟨w, g1, g2⟩ := zip_get l q
      rw [h1] at g1; cases g1
      have hlt : i < (vs.zip ds).length := (List.getElem?_eq_some_iff.mp g2).1
      have hz := List.all_eq_true.mp q1 d0 (List.mem_of_getElem? q)
      rw [Bool.and_eq_true] at hz
      obtain ⟨d1, hd1⟩ := Option.isSome_iff_exists.mp hz.1
      have ea : argD e d0 = d1 := by unfold argD; rw [hd1]; rfl
      have hf := hz.2
      rw [ea] at hf
      unfold lookD
      rw [ea]
      have own : ∃ S, Own K F H1 v d1 S ∧ ∀ a, S a → A a := by
        rcases r1.tmp i v d0 (by rw [List.getElem?_append_left hlt]; exact g2) with q' | ⟨j, rfl, q'⟩
        · have : d0 = d1 := by
            cases d0 <;> first | exact Option.some.inj hd1 | (cases q' with | frz q' => cases q')
          subst this
          exact ⟨_, q', fun a u => ⟨_, u⟩⟩
        · obtain ⟨w, g3, g4⟩ := r1.own j d1 (join_some.mp hd1)
          rw [g3] at q'; cases q'
          exact ⟨_, g4, fun a u => ⟨_, u⟩⟩
      obtain ⟨S, o, hS⟩ := own
      exact o.rep sF (fun a u s q => by show (if A a then H1 a else F a) = some u; rw [if_pos (hS a s)]; exact q) (Frz.of hf)
  refine ⟨⟨F2, H1, fun _ _ => False, [], []⟩, ds.map (lookD e), _, _, ⟨rfl, ⟨fun _ _ => False, ?_⟩, rfl, fun k hk => (nomatch hk), fun p hp => (nomatch hp)⟩, q2, fun r os env' v H' h1 h2 h3 h4 => ?_, fun C fs os env' d H' h1 => h1.elim⟩
  · refine ⟨by simp [l], fun i d e' => ?_, fun i v d e' => by simp at e', fun x y a u => u.elim, fun x a u => u.elim, fun x a u => u.elim, sub2, Same.refl F2, fun b o q _ => q, fun b o q => .inl q, fun x a u => u.elim, fun i a u => u.elim, fun p hp => (nomatch hp), fun b q => q⟩
    obtain ⟨d', q, e2⟩ := map_some_get.mp e'
    cases q
    have hlt : i < vs.length := by rw [l]; have := (List.getElem?_eq_some_iff.mp e2).1; simpa using this
    exact ⟨vs[i], by rw [List.getElem?_map, List.getElem?_eq_getElem hlt]; rfl, .frz (rp i _ d (List.getElem?_eq_getElem hlt) e2)⟩
  · obtain ⟨hs, h1⟩ := h1
    obtain ⟨u, hu⟩ := Option.isSome_iff_exists.mp hs
    obtain ⟨F1, U1, P⟩ := h3
    have fA : ∀ b, A b → F b = none := fun b ⟨x, u⟩ => r1.nof x b u
    let F3 : Hp := fun b => if A b then none else F1 b
    have s3 : Same F F3 := fun b o q => by
      show (if A b then none else F1 b) = some o
      rw [if_neg fun z => by rw [fA b z] at q; cases q]
      exact P.base b o (sF b o q)
    have st : ∀ b o, H1 b = some o → H' b = some o := fun b o q => P.keep b o q fun i z => z
    have qv : v = u := by
      rcases P.tmp 0 v r rfl with q | ⟨j, q, _⟩
      · exact q.sc hu
      · rw [q] at h2; cases h2
    obtain ⟨U', r2, hU⟩ : ∃ U', RelF K B F U' e σ tm H1 ∧ ∀ x b, U' x b → A b := by
      refine ⟨_, r1.re tm (· + (vs.zip ds).length) (fun i j e => Nat.add_right_cancel e) fun i x e => ?_, fun x b u => ?_⟩
      · rw [List.getElem?_append_right (by omega), Nat.add_sub_cancel]; exact e
      · rcases x with i | i
        · exact ⟨_, u⟩
        · exact ⟨_, u⟩
    refine k r e v H' h1 (Rel.val ⟨F3, U', ?_⟩ fun G => ?_)
    · refine ⟨r2.len, fun i d q => ?_, fun i w d q => ?_, r2.dis, fun x b u => if_pos (hU x b u), fun x b u => P.ther b (r2.liv x b u), fun b o q => ?_, r2.base.trans s3, fun b o q n => st b o (r2.keep b o q n), fun b o q => ?_, r2.usr, r2.ownA, r2.pin, fun b q => P.ther b (r2.ther b q)⟩
      · obtain ⟨w, h1, h2⟩ := r2.own i d q
        exact ⟨w, h1, h2.stay s3 fun a o _ q => st a o q⟩
      · exact (r2.tmp i w d q).imp (fun h => h.stay s3 fun a o _ q => st a o q) id
      · have q : (if A b then none else F1 b) = some o := q
        split at q
        · cases q
        · exact P.sub b o q
      · have q : (if A b then none else F1 b) = some o := q
        split at q
        · cases q
        · rename_i nA
          rcases P.new b o q with z | z
          · have z : (if A b then H1 b else F b) = some o := z
            rw [if_neg nA] at z
            exact r2.new b o z
          · rcases none_or (H := B.H) (b := b) with y | y
            · exact .inr y
            · exact absurd z (r2.ther b y)
    · have : Rep K G u (ofV u) := rep_sc (by cases r <;> cases hu <;> rfl)
      rw [qv]
      have e2 : ofV u = r := by cases r <;> cases hu <;> rfl
      rw [e2] at this; exact this⟩
end
end DL

/-! ## DLs.lean -/
namespace DL
open PySem PySem.Spec PyProof.Rows L2
open Dat (toD)
@[simp] theorem isR_int (i : Int) : isR (.int i) = true := rfl
@[simp] theorem isR_bl (i : Bool) : isR (.bl i) = true := rfl
@[simp] theorem isR_str (i : Str) : isR (.str i) = true := rfl
@[simp] theorem isR_non : isR .non = true := rfl
@[simp] theorem isR_lst (i : List D) : isR (.lst i) = true := rfl
@[simp] theorem isR_scr (i : List D) : isR (.scr i) = true := rfl
@[simp] theorem isR_tup (i : List D) : isR (.tup i) = true := rfl
@[simp] theorem isR_ty (i : String) : isR (.ty i) = true := rfl
@[simp] theorem isR_cls (i : Addr) : isR (.cls i) = true := rfl
@[simp] theorem isR_obj (C : Addr) (i : List (Str × D)) : isR (.obj C i) = true := rfl
@[simp] theorem isR_mt (i : List D) : isR (.mt i) = false := rfl
@[simp] theorem isR_mm (i : List D) : isR (.mm i) = false := rfl
@[simp] theorem isR_mo (C : Addr) (i : List (Str × D)) : isR (.mo C i) = false := rfl
@[simp] theorem isR_dc (i : List (Key × V)) : isR (.dc i) = false := rfl
@[simp] theorem isR_at (i : Addr) : isR (.at i) = true := rfl
@[simp] theorem isF_at (i : Addr) : isF (.at i) = true := rfl
@[simp] theorem frz_at (i : Addr) : frz (.at i) = .at i := rfl
@[simp] theorem isR_ptr' (i : Nat) : isR (.ptr i) = false := rfl
@[simp] theorem isR_toD {α : Type} [Dat α] (x : α) : isR (toD x) = true := Dat.rr x
@[simp] theorem isF_int' (i : Int) : isF (.int i) = true := rfl
@[simp] theorem isP_int' (i : Int) : isP (.int i) = false := rfl
@[simp] theorem frz_int' (i : Int) : frz (.int i) = (.int i) := rfl
@[simp] theorem isNon_int' (i : Int) : isNon (.int i) = false := rfl
@[simp] theorem tyD_int' (i : Int) : tyD "int" (.int i) = true := rfl
@[simp] theorem isF_bl' (i : Bool) : isF (.bl i) = true := rfl
@[simp] theorem isP_bl' (i : Bool) : isP (.bl i) = false := rfl
@[simp] theorem frz_bl' (i : Bool) : frz (.bl i) = (.bl i) := rfl
@[simp] theorem isNon_bl' (i : Bool) : isNon (.bl i) = false := rfl
@[simp] theorem isF_str' (i : Str) : isF (.str i) = true := rfl
@[simp] theorem isP_str' (i : Str) : isP (.str i) = false := rfl
@[simp] theorem frz_str' (i : Str) : frz (.str i) = (.str i) := rfl
@[simp] theorem isNon_str' (i : Str) : isNon (.str i) = false := rfl
@[simp] theorem tyD_str' (i : Str) : tyD "str" (.str i) = true := rfl
@[simp] theorem isF_non'  : isF .non = true := rfl
@[simp] theorem isP_non'  : isP .non = false := rfl
@[simp] theorem frz_non'  : frz .non = .non := rfl
@[simp] theorem isNon_non'  : isNon .non = true := rfl
@[simp] theorem isF_lst' (i : List D) : isF (.lst i) = true := rfl
@[simp] theorem isP_lst' (i : List D) : isP (.lst i) = false := rfl
@[simp] theorem frz_lst' (i : List D) : frz (.lst i) = (.lst i) := rfl
@[simp] theorem isNon_lst' (i : List D) : isNon (.lst i) = false := rfl
@[simp] theorem tyD_lst' (i : List D) : tyD "list" (.lst i) = true := rfl
@[simp] theorem isF_scr' (i : List D) : isF (.scr i) = true := rfl
@[simp] theorem isP_scr' (i : List D) : isP (.scr i) = false := rfl
@[simp] theorem frz_scr' (i : List D) : frz (.scr i) = (.scr i) := rfl
@[simp] theorem isNon_scr' (i : List D) : isNon (.scr i) = false := rfl
@[simp] theorem tyD_scr' (i : List D) : tyD "list" (.scr i) = true := rfl
@[simp] theorem isF_tup' (i : List D) : isF (.tup i) = true := rfl
@[simp] theorem isP_tup' (i : List D) : isP (.tup i) = false := rfl
@[simp] theorem frz_tup' (i : List D) : frz (.tup i) = (.tup i) := rfl
@[simp] theorem isNon_tup' (i : List D) : isNon (.tup i) = false := rfl
@[simp] theorem isF_ty' (i : String) : isF (.ty i) = true := rfl
@[simp] theorem isP_ty' (i : String) : isP (.ty i) = false := rfl
@[simp] theorem frz_ty' (i : String) : frz (.ty i) = (.ty i) := rfl
@[simp] theorem isNon_ty' (i : String) : isNon (.ty i) = false := rfl
@[simp] theorem isF_cls' (i : Addr) : isF (.cls i) = true := rfl
@[simp] theorem isP_cls' (i : Addr) : isP (.cls i) = false := rfl
@[simp] theorem frz_cls' (i : Addr) : frz (.cls i) = (.cls i) := rfl
@[simp] theorem isNon_cls' (i : Addr) : isNon (.cls i) = false := rfl
@[simp] theorem isF_obj' (C : Addr) (i : List (Str × D)) : isF (.obj C i) = true := rfl
@[simp] theorem isP_obj' (C : Addr) (i : List (Str × D)) : isP (.obj C i) = false := rfl
@[simp] theorem frz_obj' (C : Addr) (i : List (Str × D)) : frz (.obj C i) = (.obj C i) := rfl
@[simp] theorem isNon_obj' (C : Addr) (i : List (Str × D)) : isNon (.obj C i) = false := rfl
@[simp] theorem isF_mt' (i : List D) : isF (.mt i) = true := rfl
@[simp] theorem isP_mt' (i : List D) : isP (.mt i) = false := rfl
@[simp] theorem frz_mt' (i : List D) : frz (.mt i) = (.lst i) := rfl
@[simp] theorem isNon_mt' (i : List D) : isNon (.mt i) = false := rfl
@[simp] theorem tyD_mt' (i : List D) : tyD "list" (.mt i) = true := rfl
@[simp] theorem isF_mm' (i : List D) : isF (.mm i) = i.all isF1 := rfl
@[simp] theorem isP_mm' (i : List D) : isP (.mm i) = false := rfl
@[simp] theorem frz_mm' (i : List D) : frz (.mm i) = (.lst (i.map frz1)) := rfl
@[simp] theorem fixK_mm (pn : List Nat) (i : List D) (env : Env) (Q : D → Env → Prop) : fixK pn (.mm i) env Q = (i.all isF1 = true ∧ Q (.lst (i.map frz1)) env) := rfl
@[simp] theorem isNon_mm' (i : List D) : isNon (.mm i) = false := rfl
@[simp] theorem tyD_mm' (i : List D) : tyD "list" (.mm i) = true := rfl
@[simp] theorem isF_mo' (C : Addr) (i : List (Str × D)) : isF (.mo C i) = false := rfl
@[simp] theorem isP_mo' (C : Addr) (i : List (Str × D)) : isP (.mo C i) = false := rfl
@[simp] theorem frz_mo' (C : Addr) (i : List (Str × D)) : frz (.mo C i) = (.mo C i) := rfl
@[simp] theorem isNon_mo' (C : Addr) (i : List (Str × D)) : isNon (.mo C i) = false := rfl
@[simp] theorem isF_dc' (i : List (Key × V)) : isF (.dc i) = false := rfl
@[simp] theorem isP_dc' (i : List (Key × V)) : isP (.dc i) = false := rfl
@[simp] theorem frz_dc' (i : List (Key × V)) : frz (.dc i) = (.dc i) := rfl
@[simp] theorem isNon_dc' (i : List (Key × V)) : isNon (.dc i) = false := rfl
@[simp] theorem tyD_dc' (i : List (Key × V)) : tyD "dict" (.dc i) = true := rfl
@[simp] theorem isF_ptr' (i : Nat) : isF (.ptr i) = false := rfl
@[simp] theorem isP_ptr' (i : Nat) : isP (.ptr i) = true := rfl
@[simp] theorem frz_ptr' (i : Nat) : frz (.ptr i) = (.ptr i) := rfl
@[simp] theorem isNon_ptr' (i : Nat) : isNon (.ptr i) = false := rfl
theorem isF_R {d : D} (h : isR d = true) : isF d = true := by cases d <;> first | rfl | exact nomatch h
theorem frz_R {d : D} (h : isR d = true) : frz d = d := by cases d <;> first | rfl | exact nomatch h
@[simp] theorem isF_toD {α : Type} [Dat α] (x : α) : isF (toD x) = true := isF_R (Dat.rr x)
@[simp] theorem frz_toD {α : Type} [Dat α] (x : α) : frz (toD x) = toD x := frz_R (Dat.rr x)
theorem isP_R {d : D} (h : isR d = true) : isP d = false := by cases d <;> first | rfl | exact nomatch h
@[simp] theorem isP_toD {α : Type} [Dat α] (x : α) : isP (toD x) = false := isP_R (Dat.rr x)
theorem res_R (e : Env) {d : D} (h : isR d = true) : res e d = some d := by cases d <;> first | rfl | exact nomatch h
@[simp] theorem res_toD {α : Type} [Dat α] (e : Env) (x : α) : res e (toD x) = some (toD x) := res_R e (Dat.rr x)
@[simp] theorem res_int (e : Env) (i : Int) : res e (.int i) = some (.int i) := rfl
@[simp] theorem res_bl (e : Env) (i : Bool) : res e (.bl i) = some (.bl i) := rfl
@[simp] theorem res_str (e : Env) (i : Str) : res e (.str i) = some (.str i) := rfl
@[simp] theorem res_non (e : Env) : res e .non = some .non := rfl
@[simp] theorem res_lst (e : Env) (i : List D) : res e (.lst i) = some (.lst i) := rfl
@[simp] theorem res_scr (e : Env) (i : List D) : res e (.scr i) = some (.scr i) := rfl
@[simp] theorem res_tup (e : Env) (i : List D) : res e (.tup i) = some (.tup i) := rfl
@[simp] theorem res_mt (e : Env) (i : List D) : res e (.mt i) = some (.mt i) := rfl
@[simp] theorem res_mm (e : Env) (i : List D) : res e (.mm i) = some (.mm i) := rfl
@[simp] theorem res_obj (e : Env) (C : Addr) (i : List (Str × D)) : res e (.obj C i) = some (.obj C i) := rfl
@[simp] theorem res_ptr (e : Env) (i : Nat) : res e (.ptr i) = (e[i]?).join := rfl
@[simp] theorem all_isR_toD {α : Type} [Dat α] (xs : List α) : (xs.map toD).all isR = true := by
  rw [List.all_eq_true]; intro d h; obtain ⟨x, _, rfl⟩ := List.mem_map.mp h; exact Dat.rr x
@[simp] theorem all_isR_int (xs : List Int) : (xs.map D.int).all isR = true := all_isR_toD xs
@[simp] theorem fixK_ptr (pn : List Nat) (i : Nat) (env : Env) (Q : D → Env → Prop) : fixK pn (.ptr i) env Q = ∃ d, env[i]? = some (some d) ∧ isF d = true ∧ pn.contains i = false ∧ Q (frz d) (env.set i (some (frz d))) := rfl
@[simp] theorem fixK_int (pn : List Nat) (i : Int) (env : Env) (Q : D → Env → Prop) : fixK pn (.int i) env Q = Q (.int i) env := by simp [fixK]
@[simp] theorem fixK_bl (pn : List Nat) (i : Bool) (env : Env) (Q : D → Env → Prop) : fixK pn (.bl i) env Q = Q (.bl i) env := by simp [fixK]
@[simp] theorem fixK_str (pn : List Nat) (i : Str) (env : Env) (Q : D → Env → Prop) : fixK pn (.str i) env Q = Q (.str i) env := by simp [fixK]
@[simp] theorem fixK_non (pn : List Nat) (env : Env) (Q : D → Env → Prop) : fixK pn .non env Q = Q .non env := by simp [fixK]
@[simp] theorem fixK_lst (pn : List Nat) (i : List D) (env : Env) (Q : D → Env → Prop) : fixK pn (.lst i) env Q = Q (.lst i) env := by simp [fixK]
@[simp] theorem fixK_scr (pn : List Nat) (i : List D) (env : Env) (Q : D → Env → Prop) : fixK pn (.scr i) env Q = Q (.scr i) env := by simp [fixK]
@[simp] theorem fixK_tup (pn : List Nat) (i : List D) (env : Env) (Q : D → Env → Prop) : fixK pn (.tup i) env Q = Q (.tup i) env := by simp [fixK]
@[simp] theorem fixK_mt (pn : List Nat) (i : List D) (env : Env) (Q : D → Env → Prop) : fixK pn (.mt i) env Q = Q (.lst i) env := by simp [fixK]
@[simp] theorem fixK_obj (pn : List Nat) (C : Addr) (i : List (Str × D)) (env : Env) (Q : D → Env → Prop) : fixK pn (.obj C i) env Q = Q (.obj C i) env := by simp [fixK]
theorem fixK_R {pn : List Nat} {d : D} (h : isR d = true) (env : Env) (Q : D → Env → Prop) : fixK pn d env Q = Q d env := by
  cases d <;> first | exact absurd h Bool.false_ne_true | simp [fixK]
@[simp] theorem fixK_toD {α : Type} [Dat α] (pn : List Nat) (x : α) (env : Env) (Q : D → Env → Prop) : fixK pn (toD x) env Q = Q (toD x) env := fixK_R (Dat.rr x) env Q
@[simp] theorem rtD_nil (R : D → List D → Prop) (r : D) (env : Env) : rtD [] R r env = (isP r = false ∧ R r []) := by
  unfold rtD outs; simp
@[simp] theorem startE_eq (n : Nat) (ds : List D) : startE n ds = ds.map some ++ List.replicate (n - ds.length) none := rfl
@[simp] theorem tupC_lst (ds : List D) : tupC (.lst ds) = none := rfl
@[simp] theorem tupC_mt (ds : List D) : tupC (.mt ds) = none := rfl
@[simp] theorem tupC_scr (ds : List D) : tupC (.scr ds) = none := rfl
@[simp] theorem lstC_tup (ds : List D) : lstC (.tup ds) = none := rfl
/-! ### loops -/
theorem forD_of {kp : Env → Prop} {g : DTG} {tb : DTS} {D' : DEnds} {α : Type} {f : α → D} {xs : List α} {env : Env} (I : Nat → Env → Prop) (h0 : I 0 env)
    (step : ∀ (i : Nat) (x : α) (e : Env) (N : Env → Prop), xs[i]? = some x → I i e → (∀ e', I (i + 1) e' → N e') → kp e ∧ g (f x) e fun e2 => tb { D' with nx := N, ct := N, bk := D'.nx } e2)
    (fin : ∀ e, I xs.length e → kp e ∧ D'.nx e) : forD kp g tb (xs.map f) D' env := by
  have key : ∀ (ys zs : List α) (e : Env), xs = zs ++ ys → I zs.length e → forD kp g tb (ys.map f) D' e := by
    intro ys
    induction ys with
    | nil =>
      intro zs e h hi
      rw [List.append_nil] at h
      subst h
      exact fin e hi
    | cons y ys ih =>
      intro zs e h hi
      exact step zs.length y e _ (by rw [h]; simp) hi fun e' he' => ih (zs ++ [y]) e' (by rw [h]; simp) (by simpa using he')
  exact key xs [] env rfl h0
/-- a loop that reckons a fold -/
theorem forD_fold {kp : Env → Prop} {g : DTG} {tb : DTS} {D' : DEnds} {α β : Type} {f : α → D} {xs : List α} {env : Env} (E : β → Env → Prop) (s0 : β) (st : β → α → β) (h0 : E s0 env)
    (step : ∀ (s : β) (x : α) (e : Env) (N : Env → Prop), x ∈ xs → E s e → (∀ e', E (st s x) e' → N e') → kp e ∧ g (f x) e fun e2 => tb { D' with nx := N, ct := N, bk := D'.nx } e2)
    (fin : ∀ e, E (xs.foldl st s0) e → kp e ∧ D'.nx e) : forD kp g tb (xs.map f) D' env := by
  refine forD_of (fun i e => E ((xs.take i).foldl st s0) e) (by simpa using h0) (fun i x e N hx he hN => step _ x e N (List.mem_of_getElem? hx) he fun e' he' => hN e' ?_) fun e he => fin e (by simpa using he)
  have hi : i < xs.length := (List.getElem?_eq_some_iff.mp hx).1
  rw [List.take_add_one, hx, List.foldl_append]
  exact he'
/-- a comprehension that stores nothing -/
theorem lcD_map {kp : Env → Prop} {g : DTG} {te : DTE} {vs : List Nat} {α : Type} {f h : α → D} {xs : List α} {env : Env} {Q : D → Env → Prop} (hk : kp env) (hl : xs.length ≤ sizeLine) (hr : ∀ x ∈ xs, isR (h x) = true)
    (step : ∀ x ∈ xs, ∀ N : D → Env → Prop, (∀ e, wipeE e vs = env → N (h x) e) → g (f x) env fun e2 => te e2 N) (fin : Q (.mt (xs.map h)) env) : lcD kp g dYes te vs (xs.map f) [] env Q := by
  have key : ∀ (ys zs : List α), xs = zs ++ ys → lcD kp g dYes te vs (ys.map f) (zs.map h) env Q := by
    intro ys
    induction ys with
    | nil =>
      intro zs e
      rw [List.append_nil] at e
      subst e
      exact ⟨hk, fin⟩
    | cons y ys ih =>
      intro zs e
      have hy : y ∈ xs := by rw [e]; simp
      have hz : zs.length < sizeLine := by
        have := congrArg List.length e
        rw [List.length_append, List.length_cons] at this
        omega
      refine ⟨hk, step y hy _ fun e4 he => ?_⟩
      refine ⟨hr y hy, by rw [List.length_map]; exact hz, ?_⟩
      show lcD kp g dYes te vs (ys.map f) (zs.map h ++ [h y]) (wipeE e4 vs) Q
      rw [he]
      have := ih (zs ++ [y]) (by rw [e]; simp)
      rw [List.map_append] at this
      exact this
  exact key xs [] rfl
/-- .. with a test -/
theorem lcD_filter {kp : Env → Prop} {g : DTG} {tt : DTT} {te : DTE} {vs : List Nat} {α : Type} {f h : α → D} {p : α → Bool} {xs : List α} {env : Env} {Q : D → Env → Prop} (hk : kp env) (hl : xs.length ≤ sizeLine) (hr : ∀ x ∈ xs, isR (h x) = true)
    (step : ∀ x ∈ xs, ∀ (M : Env → Prop) (N : D → Env → Prop), (p x = false → ∀ e, wipeE e vs = env → M e) → (p x = true → ∀ e, wipeE e vs = env → N (h x) e) → g (f x) env fun e2 => tt e2 fun b e3 => if b = true then te e3 N else M e3) (fin : Q (.mt ((xs.filter p).map h)) env) : lcD kp g tt te vs (xs.map f) [] env Q := by
  have key : ∀ (ys zs : List α), xs = zs ++ ys → lcD kp g tt te vs (ys.map f) ((zs.filter p).map h) env Q := by
    intro ys
    induction ys with
    | nil =>
      intro zs e
      rw [List.append_nil] at e
      subst e
      exact ⟨hk, fin⟩
    | cons y ys ih =>
      intro zs e
      have hy : y ∈ xs := by rw [e]; simp
      have hz : zs.length < sizeLine := by
        have := congrArg List.length e
        rw [List.length_append, List.length_cons] at this
        omega
      have hf : (zs.filter p).length ≤ zs.length := List.length_filter_le _ _
      have := ih (zs ++ [y]) (by rw [e]; simp)
      rw [List.filter_append, List.map_append] at this
      refine ⟨hk, step y hy (fun e3 => lcD kp g tt te vs (ys.map f) ((zs.filter p).map h) (wipeE e3 vs) Q) _ (fun hp e4 he => ?_) fun hp e4 he => ?_⟩
      · rw [he]
        simpa [hp] using this
      · refine ⟨hr y hy, by rw [List.length_map]; omega, ?_⟩
        show lcD kp g tt te vs (ys.map f) ((zs.filter p).map h ++ [h y]) (wipeE e4 vs) Q
        rw [he]
        simpa [hp] using this
  exact key xs [] rfl
/-! ### a list's items -/
theorem atI_some {α : Type} {xs : List α} {j : Nat} (h : j < xs.length) : atI xs (j : Int) = some xs[j] := atI_nat (List.getElem?_eq_getElem h)
theorem atI_map {α β : Type} (f : α → β) (xs : List α) (i : Int) : atI (xs.map f) i = (atI xs i).map f := by
  unfold atI
  rw [List.length_map]
  cases ixN xs.length i with
  | none => rfl
  | some j => show (xs.map f)[j]? = (xs[j]?).map f; rw [List.getElem?_map]
theorem rngD_eq (lo : Int) (n : Nat) : rngD lo n = (List.range n).map fun i => .int (lo + (i : Nat)) := rfl
theorem enumD_eq {α : Type} (f : α → D) (xs : List α) : enumD (xs.map f) = xs.zipIdx.map fun p => .tup [.int (p.2 : Nat), f p.1] := by
  unfold enumD
  rw [List.mapIdx_eq_zipIdx_map, List.zipIdx_map, List.map_map]
  rfl
theorem zipD_eq {α β : Type} (f : α → D) (g : β → D) (xs : List α) (ys : List β) : zipD (xs.map f) (ys.map g) = (xs.zip ys).map fun p => .tup [f p.1, g p.2] := by
  unfold zipD
  rw [List.zip_map, List.map_map]
  rfl

theorem forD_enum {kp : Env → Prop} {g : DTG} {tb : DTS} {D' : DEnds} {α : Type} {f : α → D} {xs : List α} {env : Env} (I : Nat → Env → Prop) (h0 : I 0 env)
    (step : ∀ (i : Nat) (x : α) (e : Env) (N : Env → Prop), xs[i]? = some x → I i e → (∀ e', I (i + 1) e' → N e') → kp e ∧ g (.tup [.int (i : Nat), f x]) e fun e2 => tb { D' with nx := N, ct := N, bk := D'.nx } e2)
    (fin : ∀ e, I xs.length e → kp e ∧ D'.nx e) : forD kp g tb (enumD (xs.map f)) D' env := by
  rw [enumD_eq]
  refine forD_of I h0 (fun i p e N hp he hN => ?_) fun e he => fin e (by simpa using he)
  rw [List.getElem?_zipIdx] at hp
  cases q : xs[i]? with
  | none => rw [q] at hp; cases hp
  | some x =>
    rw [q] at hp
    cases hp
    rw [Nat.zero_add]
    exact step i x e N q he hN
theorem forD_rng {kp : Env → Prop} {g : DTG} {tb : DTS} {D' : DEnds} {lo : Int} {n : Nat} {env : Env} (I : Nat → Env → Prop) (h0 : I 0 env)
    (step : ∀ (i : Nat) (e : Env) (N : Env → Prop), i < n → I i e → (∀ e', I (i + 1) e' → N e') → kp e ∧ g (.int (lo + (i : Nat))) e fun e2 => tb { D' with nx := N, ct := N, bk := D'.nx } e2)
    (fin : ∀ e, I n e → kp e ∧ D'.nx e) : forD kp g tb (rngD lo n) D' env := by
  rw [rngD_eq]
  refine forD_of I h0 (fun i p e N hp he hN => ?_) fun e he => fin e (by simpa using he)
  obtain ⟨h1, h2⟩ := List.getElem?_eq_some_iff.mp hp
  rw [List.getElem_range] at h2
  subst h2
  rw [List.length_range] at h1
  exact step i e N h1 he hN
theorem forD_zip {kp : Env → Prop} {g : DTG} {tb : DTS} {D' : DEnds} {α β : Type} {f : α → D} {f' : β → D} {xs : List α} {ys : List β} {env : Env} (I : Nat → Env → Prop) (h0 : I 0 env)
    (step : ∀ (i : Nat) (x : α) (y : β) (e : Env) (N : Env → Prop), xs[i]? = some x → ys[i]? = some y → I i e → (∀ e', I (i + 1) e' → N e') → kp e ∧ g (.tup [f x, f' y]) e fun e2 => tb { D' with nx := N, ct := N, bk := D'.nx } e2)
    (fin : ∀ e, I (min xs.length ys.length) e → kp e ∧ D'.nx e) : forD kp g tb (zipD (xs.map f) (ys.map f')) D' env := by
  rw [zipD_eq]
  refine forD_of I h0 (fun i p e N hp he hN => ?_) fun e he => fin e (by simpa using he)
  obtain ⟨h1, h2⟩ := List.getElem?_zip_eq_some.mp hp
  exact step i p.1 p.2 e N h1 h2 he hN
theorem lcD_rng {kp : Env → Prop} {g : DTG} {te : DTE} {vs : List Nat} {h : Nat → D} {lo : Int} {n : Nat} {env : Env} {Q : D → Env → Prop} (hk : kp env) (hl : n ≤ sizeLine) (hr : ∀ i, i < n → isR (h i) = true)
    (step : ∀ i, i < n → ∀ N : D → Env → Prop, (∀ e, wipeE e vs = env → N (h i) e) → g (.int (lo + (i : Nat))) env fun e2 => te e2 N) (fin : Q (.mt ((List.range n).map h)) env) : lcD kp g dYes te vs (rngD lo n) [] env Q := by
  rw [rngD_eq]
  exact lcD_map hk (by simpa using hl) (fun i hi => hr i (by simpa using hi)) (fun i hi => step i (by simpa using hi)) fin
/-! ### what a list holds at a place -/
theorem atI_at {α : Type} {f : α → D} {xs : List α} {i : Nat} {a : α} (h : xs[i]? = some a) : atI (xs.map f) (i : Int) = some (f a) := atI_nat (by rw [List.getElem?_map, h]; rfl)
theorem atI_m1 {α : Type} {xs : List α} {a : α} (h : xs.getLast? = some a) : atI xs (-1) = some a := by
  have hn : xs ≠ [] := by rintro rfl; cases h
  rw [List.getLast?_eq_some_getLast hn] at h
  have := List.dropLast_concat_getLast hn
  rw [← this]
  cases h
  exact atI_last _ _
@[simp] theorem ixN_0 (n : Nat) : ixN (n + 1) 0 = some 0 := by unfold ixN; rw [if_pos (by omega), if_pos (by omega)]; rfl
@[simp] theorem ixN_1 (n : Nat) : ixN (n + 2) 1 = some 1 := by unfold ixN; rw [if_pos (by omega), if_pos (by omega)]; rfl
@[simp] theorem atI_c0 {α : Type} (a : α) (l : List α) : atI (a :: l) 0 = some a := by unfold atI; rw [List.length_cons, ixN_0]; rfl
@[simp] theorem atI_c1 {α : Type} (a b : α) (l : List α) : atI (a :: b :: l) 1 = some b := by unfold atI; rw [List.length_cons, List.length_cons, ixN_1]; rfl
/-! ### the law's own call -/
theorem entry (K : Frag) (f : DSp) (H : Hp) (a : Addr) (ns : List Int) (hS : SqL K H a (ns.map V.int)) (Q : VK) (E : XK) (h : f [.scr (ns.map D.int)] (fun r _ => r = .bl true) fun _ _ _ => False) (hq : ∀ H', Q (.bl true) H') : liftSp K [] f [.ref a] H Q E := by
  refine ⟨⟨H, H, fun _ _ => False, [], []⟩, _, _, _, ⟨rfl, ⟨fun _ _ => False, ?_⟩, rfl, fun k hk => (nomatch hk), fun p hp => (nomatch hp)⟩, h, fun r os env' v H' h1 h2 h3 h4 => ?_, fun C fs os env' d H' h1 => h1.elim⟩
  · refine ⟨rfl, fun i d e => ?_, fun i v d e => by simp at e, fun x y a u => u.elim, fun x a u => u.elim, fun x a u => u.elim, fun b o q => q, Same.refl H, fun b o q _ => q, fun b o q => .inl q, fun x a u => u.elim, fun i a u => u.elim, fun p hp => (nomatch hp), fun b q => q⟩
    cases i with
    | zero =>
      cases e
      refine ⟨.ref a, rfl, .frz (.scr hS (by simp) fun i v d e1 e2 => ?_)⟩
      rw [List.getElem?_map] at e1 e2
      cases q : ns[i]? with
      | none => rw [q] at e1; cases e1
      | some n => rw [q] at e1 e2; cases e1; cases e2; exact .int n
    | succ i => simp at e
  · subst h1
    have := h3.sc (u := .bl true) rfl
    subst this
    exact hq H'
end DL

/-! ## M33a.lean -/
namespace DL
open PySem PySem.Spec PyProof.Rows L2
open Dat (toD)
/-! ### bits -/
theorem bAnd (a b : Nat) : Builtin.bitAnd (a : Int) (b : Int) = ((a &&& b : Nat) : Int) := PyProof.Rows.bitAnd_pp (Int.natCast_nonneg a) (Int.natCast_nonneg b)
theorem bOr (a b : Nat) : Builtin.bitOr (a : Int) (b : Int) = ((a ||| b : Nat) : Int) := Bits.bitOr_pp (Int.natCast_nonneg a) (Int.natCast_nonneg b)
theorem bit_of (m k : Nat) : (Builtin.bitAnd ((m : Int) / 2 ^ k) 1 = 1) ↔ m.testBit k = true := by
  have e : ((m : Int) / 2 ^ k) = ((m / 2 ^ k : Nat) : Int) := by simp
  rw [e, show (1 : Int) = ((1 : Nat) : Int) from rfl, bAnd, Nat.testBit_eq_decide_div_mod_eq, decide_eq_true_eq, Nat.and_one_is_mod]
  omega
/-! ### the greatest steps -/
def lastSet (m : Nat) : List Int → Nat → Int → Int
  | [], _, most => most
  | s :: r, k, most => lastSet m r (k + 1) (if m.testBit k then s else most)
def gs (m : Nat) : List (List Int) → Nat → List Int
  | [], _ => []
  | row :: r, k => lastSet m row k 0 :: gs m r (k + row.length)
theorem gs_len (m : Nat) : ∀ (steps : List (List Int)) (k : Nat), (gs m steps k).length = steps.length
  | [], _ => rfl
  | row :: r, k => by unfold gs; rw [List.length_cons, List.length_cons, gs_len m r]
def wid : List (List Int) → Nat
  | [] => 0
  | r :: rs => r.length + wid rs
theorem wid_snoc (r : List Int) : ∀ l : List (List Int), wid (l ++ [r]) = wid l + r.length
  | [] => by simp [wid]
  | x :: l => by simp [wid, wid_snoc r l]; omega
theorem lastSet_snoc (m : Nat) (s : Int) : ∀ (l : List Int) (k : Nat) (most : Int), lastSet m (l ++ [s]) k most = if m.testBit (k + l.length) then s else lastSet m l k most
  | [], k, most => by simp [lastSet]
  | x :: l, k, most => by
    simp only [List.cons_append, lastSet, List.length_cons]
    rw [lastSet_snoc m s l, show k + 1 + l.length = k + (l.length + 1) by omega]
theorem gs_snoc (m : Nat) (row : List Int) : ∀ (l : List (List Int)) (k : Nat), gs m (l ++ [row]) k = gs m l k ++ [lastSet m row (k + wid l) 0]
  | [], k => by simp [gs, wid]
  | x :: l, k => by
    simp only [List.cons_append, gs, wid]
    rw [gs_snoc m row l, show k + x.length + wid l = k + (x.length + wid l) by omega]
theorem take_snoc {α : Type} {l : List α} {i : Nat} {x : α} (h : l[i]? = some x) : l.take (i + 1) = l.take i ++ [x] := by
  rw [List.take_add_one, h]; rfl
def d_greatest_steps : DTS := (dSeq (dAsg (dLst dNil) (gN [] 2))
  (dSeq (dAsg (dC (.int 0)) (gN [] 3))
  (dSeq (dFor (iL (dVar 0)) (gN [] 4)
  (dSeq (dAsg (dC (.int 0)) (gN [] 5))
  (dSeq (dFor (iL (dVar 4)) (gN [] 6)
  (dSeq (dIfS (dTest (dOp (oEqS false) (dOp (oI0 fun i j => .int (Builtin.bitAnd i j)) (dOp (oI (fun _ j => 0 ≤ j) fun i j => .int (i / 2 ^ j.toNat)) (dVar 1) (dVar 3)) (dC (.int 1))) (dC (.int 1)))) (dAsg (dVar 6) (gN [] 5)) dNext)
  (dAug [] 3 (oI0 fun i j => .int (i + j)) (dC (.int 1)))))
  (dDrop (dBM "list" mAppend (dVar 2) (dCons (dVar 5) dNil))))))
  (dRet (dMove [] 2)))))
def sp_greatest_steps : DSp := fun ds R _ => ∃ (steps : List (List Int)) (m : Nat), ds = [toD steps, .int m] ∧ steps.length ≤ 100 ∧ R (.mt ((gs m steps 0).map D.int)) []
theorem spec_greatest_steps : ∀ ds R RX, sp_greatest_steps ds R RX → ds.length = 2 ∧ d_greatest_steps (endsD [] R) (startE 7 ds) := by
  rintro _ R RX ⟨steps, m, rfl, hl, h⟩
  refine ⟨rfl, ?_⟩
  simp [d_greatest_steps, toD]
  refine forD_of (fun i e => ∃ a b c, e = [some (D.lst (List.map (fun xs => D.lst (List.map D.int xs)) steps)), some (D.int ↑m), some (D.mt ((gs m (steps.take i) 0).map D.int)), some (D.int (wid (steps.take i) : Nat)), a, b, c]) ⟨_, _, _, rfl⟩ ?_ ?_
  · rintro i row e N hx ⟨a, b, c, rfl⟩ hN
    have hi : i < steps.length := (List.getElem?_eq_some_iff.mp hx).1
    simp
    refine forD_of (fun j e => ∃ c, e = [some (D.lst (List.map (fun xs => D.lst (List.map D.int xs)) steps)), some (D.int ↑m), some (D.mt ((gs m (steps.take i) 0).map D.int)), some (D.int ((wid (steps.take i) + j : Nat) : Int)), some (.lst (row.map .int)), some (.int (lastSet m (row.take j) (wid (steps.take i)) 0)), c]) ⟨c, by simp [lastSet]⟩ ?_ ?_
    · rintro j s e N hj ⟨c, rfl⟩ hN
      have hlt : j < row.length := (List.getElem?_eq_some_iff.mp hj).1
      have e1 := lastSet_snoc m s (row.take j) (wid (steps.take i)) 0
      rw [← take_snoc hj, List.length_take, Nat.min_eq_left (Nat.le_of_lt hlt)] at e1
      have hb := bit_of m (wid (steps.take i) + j)
      simp [dec_int, scal]
      refine ⟨by omega, ?_⟩
      split
      · rename_i hc
        rw [hb.mp hc] at e1
        exact hN _ (by simp [e1]; omega)
      · rename_i hc
        rw [if_neg (fun z => hc (hb.mpr z))] at e1
        exact hN _ (by simp [e1]; omega)
    · rintro e ⟨c, rfl⟩
      have e1 := gs_snoc m row (steps.take i) 0
      rw [← take_snoc hx, Nat.zero_add] at e1
      have e2 := wid_snoc row (steps.take i)
      rw [← take_snoc hx] at e2
      have e3 := gs_len m (steps.take i) 0
      rw [List.length_take] at e3
      simp
      refine ⟨?_, hN _ (by simp [e1, e2])⟩
      rw [e3]
      exact small1000 (by omega)
  · rintro e ⟨a, b, c, rfl⟩
    simpa using h
end DL

/-! ## M33b.lean -/
namespace DL
open PySem PySem.Spec PyProof.Rows L2
open Dat (toD)
/-! ### worths that break, worths that keep -/
def wsOf : List (Int × Int) → List Int → List Int
  | c :: cs, a :: as => mxI c.1 a :: wsOf cs as
  | _, _ => []
def fits : List (Int × Int) → List Int → Bool
  | c :: cs, a :: as => !decide (c.2 < mxI c.1 a) && fits cs as
  | _, _ => true
def lack : List Int → List Int → Bool
  | w :: ws, b :: bs => decide (w < b) || lack ws bs
  | _, _ => false
def bw (cells : List (Int × Int)) (ahead behind : List Int) : Option (List Int) := if fits cells ahead && lack (wsOf cells ahead) behind then some (wsOf cells ahead) else none
def oD {α : Type} (f : α → D) : Option α → D
  | none => .non
  | some x => f x
theorem wsOf_len : ∀ (cs : List (Int × Int)) (as : List Int), cs.length = as.length → (wsOf cs as).length = cs.length
  | [], _, _ => by simp [wsOf]
  | c :: cs, [], h => by simp at h
  | c :: cs, a :: as, h => by simp only [wsOf, List.length_cons]; rw [wsOf_len cs as (by simpa using h)]
theorem wsOf_snoc (c : Int × Int) (a : Int) : ∀ (cs : List (Int × Int)) (as : List Int), cs.length = as.length → wsOf (cs ++ [c]) (as ++ [a]) = wsOf cs as ++ [mxI c.1 a]
  | [], [], _ => rfl
  | [], _ :: _, h => by simp at h
  | _ :: _, [], h => by simp at h
  | x :: cs, y :: as, h => by simp only [List.cons_append, wsOf]; rw [wsOf_snoc c a cs as (by simpa using h)]
theorem fits_snoc (c : Int × Int) (a : Int) : ∀ (cs : List (Int × Int)) (as : List Int), cs.length = as.length → fits (cs ++ [c]) (as ++ [a]) = (fits cs as && !decide (c.2 < mxI c.1 a))
  | [], [], _ => by simp [fits]
  | [], _ :: _, h => by simp at h
  | _ :: _, [], h => by simp at h
  | x :: cs, y :: as, h => by simp only [List.cons_append, fits]; rw [fits_snoc c a cs as (by simpa using h), Bool.and_assoc]
theorem lack_snoc (w b : Int) : ∀ (ws bs : List Int), ws.length = bs.length → lack (ws ++ [w]) (bs ++ [b]) = (lack ws bs || decide (w < b))
  | [], [], _ => by simp [lack]
  | [], _ :: _, h => by simp at h
  | _ :: _, [], h => by simp at h
  | x :: cs, y :: as, h => by simp only [List.cons_append, lack]; rw [lack_snoc w b cs as (by simpa using h), Bool.or_assoc]
theorem fits_take : ∀ (cs : List (Int × Int)) (as : List Int) (i : Nat), fits (cs.take i) (as.take i) = false → fits cs as = false
  | _, _, 0, h => by simp [fits] at h
  | [], _, i + 1, h => by simp [fits] at h
  | _ :: _, [], i + 1, h => by simp [fits] at h
  | c :: cs, a :: as, i + 1, h => by
    simp only [List.take_succ_cons, fits] at h ⊢
    cases q : !decide (c.2 < mxI c.1 a) with
    | false => rfl
    | true => rw [q] at h; simp only [Bool.true_and] at h ⊢; exact fits_take cs as i h
def d_broken_worths : DTS := (dSeq (dAsg (dLst dNil) (gN [] 3))
  (dSeq (dAsg (dC (.bl false)) (gN [] 4))
  (dSeq (dFor (iE (dCons (dVar 0) dNil)) (gT 2 (gsCons (gN [] 5) (gsCons (gN [] 6) gsNil)))
  (dSeq (dAsg (dCB (cI2 mxI) (dCons (dOp oIxT (dVar 6) (dC (.int 0))) (dCons (dOp oIxL (dVar 1) (dVar 5)) dNil))) (gN [] 7))
  (dSeq (dIfS (dTest (dOp (oI0 fun i j => .bl (decide (j < i))) (dVar 7) (dOp oIxT (dVar 6) (dC (.int 1))))) (dRet (dC .non)) dNext)
  (dSeq (dIfS (dTest (dOp (oI0 fun i j => .bl (decide (i < j))) (dVar 7) (dOp oIxL (dVar 2) (dVar 5)))) (dAsg (dC (.bl true)) (gN [] 4)) dNext)
  (dDrop (dBM "list" mAppend (dVar 3) (dCons (dVar 7) dNil)))))))
  (dSeq (dIfS (dTest (dVar 4)) (dRet (dMove [] 3)) dNext)
  (dRet (dC .non))))))
def sp_broken_worths : DSp := fun ds R _ => ∃ (cells : List (Int × Int)) (ahead behind : List Int), ds = [toD cells, toD ahead, toD behind] ∧ cells.length ≤ 100 ∧ ahead.length = cells.length ∧ behind.length = cells.length ∧
  R (oD (fun ws => .mt (ws.map D.int)) (bw cells ahead behind)) []
theorem spec_broken_worths : ∀ ds R RX, sp_broken_worths ds R RX → ds.length = 3 ∧ d_broken_worths (endsD [] R) (startE 8 ds) := by
  rintro _ R RX ⟨cells, ahead, behind, rfl, hl, ha, hb, h⟩
  refine ⟨rfl, ?_⟩
  simp [d_broken_worths, toD]
  refine forD_enum (f := fun p : Int × Int => D.tup [D.int p.1, D.int p.2]) (fun i e => ∃ a b c, fits (cells.take i) (ahead.take i) = true ∧ e = [some (D.lst (List.map (fun p => D.tup [D.int p.fst, D.int p.snd]) cells)), some (D.lst (List.map D.int ahead)), some (D.lst (List.map D.int behind)),
    some (D.mt ((wsOf (cells.take i) (ahead.take i)).map D.int)), some (D.bl (lack (wsOf (cells.take i) (ahead.take i)) (behind.take i))), a, b, c]) ⟨_, _, _, rfl, rfl⟩ ?_ ?_
  · rintro i ⟨lo, hi⟩ e N hx ⟨a, b, c, hf, rfl⟩ hN
    have hlt : i < cells.length := (List.getElem?_eq_some_iff.mp hx).1
    have hA : ahead[i]? = some ahead[i] := List.getElem?_eq_getElem (by omega)
    have hB : behind[i]? = some behind[i] := List.getElem?_eq_getElem (by omega)
    have tl : (cells.take i).length = (ahead.take i).length := by simp; omega
    have tl2 : (wsOf (cells.take i) (ahead.take i)).length = (behind.take i).length := by rw [wsOf_len _ _ tl]; simp; omega
    have e1 := wsOf_snoc (lo, hi) ahead[i] (cells.take i) (ahead.take i) tl
    have e2 := fits_snoc (lo, hi) ahead[i] (cells.take i) (ahead.take i) tl
    rw [← take_snoc hx, ← take_snoc hA] at e1 e2
    have e3 := lack_snoc (mxI lo ahead[i]) behind[i] (wsOf (cells.take i) (ahead.take i)) (behind.take i) tl2
    rw [← take_snoc hB] at e3
    have hsz : (wsOf (cells.take i) (ahead.take i)).length < sizeLine := small1000 (by rw [wsOf_len _ _ tl]; simp; omega)
    simp [atI_at hA, atI_at hB, hsz]
    split
    · rename_i hc
      have : fits cells ahead = false := fits_take _ _ (i + 1) (by rw [e2]; simp [hc])
      simpa [bw, this, oD] using h
    · rename_i hc
      have e2' : fits (cells.take (i + 1)) (ahead.take (i + 1)) = true := by rw [e2, hf]; simp [hc]
      rw [e2'] at hN
      rw [e1, e3] at hN
      split
      · rename_i hc2
        exact hN _ (by simp [hc2])
      · rename_i hc2
        exact hN _ (by simp [hc2])
  · rintro e ⟨a, b, c, hf, rfl⟩
    have tA : ahead.take cells.length = ahead := by rw [← ha]; exact List.take_length
    have tB : behind.take cells.length = behind := by rw [← hb]; exact List.take_length
    rw [List.take_length, tA] at hf
    rw [List.take_length, tA, tB]
    cases q : lack (wsOf cells ahead) behind with
    | true => simpa [bw, hf, q, oD] using h
    | false => simpa [bw, hf, q, oD] using h
def leL : List Int → List Int → Bool
  | g :: gs, w :: ws => decide (g ≤ w) && leL gs ws
  | _, _ => true
theorem leL_take {g w : Int} {t : Nat} : ∀ {gs ws : List Int}, gs[t]? = some g → ws[t]? = some w → w < g → leL gs ws = false := by
  induction t with
  | zero =>
    intro gs ws h1 h2 h3
    cases gs <;> cases ws <;> cases h1 <;> cases h2
    simp [leL]; intro; omega
  | succ t ih =>
    intro gs ws h1 h2 h3
    cases gs <;> cases ws <;> first | cases h1; done | cases h2; done | skip
    simp [leL]; intro _
    exact ih h1 h2 h3
theorem leL_snoc (g w : Int) : ∀ (gs ws : List Int), gs.length = ws.length → leL (gs ++ [g]) (ws ++ [w]) = (leL gs ws && decide (g ≤ w))
  | [], [], _ => by simp [leL]
  | [], _ :: _, h => by simp at h
  | _ :: _, [], h => by simp at h
  | x :: gs, y :: ws, h => by simp only [List.cons_append, leL]; rw [leL_snoc g w gs ws (by simpa using h), Bool.and_assoc]
def lows (row : List (Int × Int)) : List Int := row.map (·.1)
def highs (row : List (Int × Int)) : List Int := row.map (·.2)
def kw (cells : List (Int × Int)) (ahead behind : List Int) : Option (List Int) := if leL ahead (lows cells) = false then some (lows cells) else if leL behind (highs cells) = true then some (highs cells) else none
def d_kept_worths : DTS := (dSeq (dAsg (dFix [] (dLc (iL (dVar 0)) (gN [] 8) dYes (dOp oIxT (dVar 8) (dC (.int 0))) [8])) (gN [] 3))
  (dSeq (dFor (iE (dCons (dVar 3) dNil)) (gT 2 (gsCons (gN [] 4) (gsCons (gN [] 5) gsNil)))
  (dIfS (dTest (dOp (oI0 fun i j => .bl (decide (i < j))) (dVar 5) (dOp oIxL (dVar 1) (dVar 4)))) (dRet (dVar 3)) dNext))
  (dSeq (dAsg (dFix [] (dLc (iL (dVar 0)) (gN [] 8) dYes (dOp oIxT (dVar 8) (dC (.int 1))) [8])) (gN [] 6))
  (dSeq (dFor (iE (dCons (dVar 6) dNil)) (gT 2 (gsCons (gN [] 4) (gsCons (gN [] 7) gsNil)))
  (dIfS (dTest (dOp (oI0 fun i j => .bl (decide (i < j))) (dVar 7) (dOp oIxL (dVar 2) (dVar 4)))) (dRet (dC .non)) dNext))
  (dRet (dVar 6))))))
def sp_kept_worths : DSp := fun ds R _ => ∃ (cells : List (Int × Int)) (ahead behind : List Int), ds = [toD cells, toD ahead, toD behind] ∧ cells.length ≤ 100 ∧ ahead.length = cells.length ∧ behind.length = cells.length ∧
  R (oD (fun ws => .lst (ws.map D.int)) (kw cells ahead behind)) []
theorem spec_kept_worths : ∀ ds R RX, sp_kept_worths ds R RX → ds.length = 3 ∧ d_kept_worths (endsD [] R) (startE 9 ds) := by
  rintro _ R RX ⟨cells, ahead, behind, rfl, hl, ha, hb, h⟩
  refine ⟨rfl, ?_⟩
  simp [d_kept_worths, toD]
  refine lcD_map (h := fun p : Int × Int => .int p.1) (by simp) (Nat.le_of_lt (small1000 (by omega))) (fun x hx => rfl) (fun y hy N hN => ?_) ?_
  · simp
    exact hN _ (by simp)
  · simp
    have e1 : (cells.map fun p => D.int p.1) = (lows cells).map D.int := by simp [lows]
    have e2 : (cells.map fun p => D.int p.2) = (highs cells).map D.int := by simp [highs]
    rw [e1]
    refine forD_enum (f := D.int) (fun i e => leL (ahead.take i) ((lows cells).take i) = true ∧ ∃ a b, e = [some (D.lst (List.map (fun p => D.tup [D.int p.fst, D.int p.snd]) cells)), some (D.lst (List.map D.int ahead)), some (D.lst (List.map D.int behind)),
      some (D.lst ((lows cells).map D.int)), a, b, none, none, none]) ⟨rfl, by simp⟩ ?_ ?_
    · rintro i low e N hx ⟨hq, a, b, rfl⟩ hN
      have hi : i < cells.length := by have := (List.getElem?_eq_some_iff.mp hx).1; simpa [lows] using this
      have hA : ahead[i]? = some ahead[i] := List.getElem?_eq_getElem (by omega)
      simp [atI_at hA]
      split
      · rename_i hlt
        have : kw cells ahead behind = some (lows cells) := by unfold kw; rw [if_pos (leL_take hA hx hlt)]
        rw [this] at h
        simpa [oD] using h
      · exact hN _ ⟨by rw [take_snoc hA, take_snoc hx, leL_snoc _ _ _ _ (by simp [lows]; omega), hq]; simp; omega, by simp⟩
    · rintro e ⟨hq, a, b, rfl⟩
      rw [List.take_length, List.take_of_length_le (by simp [lows]; omega)] at hq
      simp
      refine lcD_map (h := fun p : Int × Int => .int p.2) (by simp) (Nat.le_of_lt (small1000 (by omega))) (fun x hx => rfl) (fun y hy N hN => ?_) ?_
      · simp
        exact hN _ (by simp)
      · simp
        rw [e2]
        refine forD_enum (f := D.int) (fun i e => leL (behind.take i) ((highs cells).take i) = true ∧ ∃ a b c d, e = [some (D.lst (List.map (fun p => D.tup [D.int p.fst, D.int p.snd]) cells)), some (D.lst (List.map D.int ahead)), some (D.lst (List.map D.int behind)),
          c, a, b, some (D.lst ((highs cells).map D.int)), d, none]) ⟨rfl, by simp⟩ ?_ ?_
        · rintro i low e N hx ⟨hq2, a, b, c, d, rfl⟩ hN
          have hi : i < cells.length := by have := (List.getElem?_eq_some_iff.mp hx).1; simpa [highs] using this
          have hA : behind[i]? = some behind[i] := List.getElem?_eq_getElem (by omega)
          simp [atI_at hA]
          split
          · rename_i hlt
            have : kw cells ahead behind = none := by unfold kw; rw [if_neg (by simp [hq]), if_neg (by rw [leL_take hA hx hlt]; simp)]
            rw [this] at h
            simpa [oD] using h
          · exact hN _ ⟨by rw [take_snoc hA, take_snoc hx, leL_snoc _ _ _ _ (by simp [highs]; omega), hq2]; simp; omega, by simp⟩
        · rintro e ⟨hq2, a, b, c, d, rfl⟩
          rw [List.take_length, List.take_of_length_le (by simp [highs]; omega)] at hq2
          have : kw cells ahead behind = some (highs cells) := by unfold kw; rw [if_neg (by simp [hq]), if_pos hq2]
          rw [this] at h
          simpa [oD] using h
end DL

/-! ## M33c.lean -/
namespace DL
open PySem PySem.Spec PyProof.Rows L2
open Dat (toD)
/-! ### the law's small helpers -/
def d__law_cell : DTS := (dSeq (dIfS (dTest (dOp (oI0 fun i j => .bl (decide (i < j))) (dVar 1) (dCB cLen (dCons (dVar 0) dNil)))) (dRet (dOp oIxL (dVar 0) (dVar 1))) dNext)
  (dRet (dC (.int 0))))
def sp__law_cell : DSp := fun ds R _ => ∃ (s : List Int) (k : Nat), ds = [.scr (s.map .int), .int k] ∧ ∀ v : Int, R (.int v) []
theorem spec__law_cell : ∀ ds R RX, sp__law_cell ds R RX → ds.length = 2 ∧ d__law_cell (endsD [] R) (startE 2 ds) := by
  rintro _ R RX ⟨s, k, rfl, h⟩
  refine ⟨rfl, ?_⟩
  simp [d__law_cell]
  split
  · rename_i hk
    rw [atI_at (List.getElem?_eq_getElem hk)]
    simpa using h _
  · exact h 0
/-- rising marks -/
structure Rise (row : List Int) : Prop where
  pw : row.Pairwise (· < ·)
  lo : ∀ m ∈ row, 1 ≤ m
  hi : ∀ m ∈ row, m ≤ 999999999999999999
theorem cmul_r {i j : Int} (h1 : -1000000000000000000 ≤ j) (h2 : j ≤ 1000000000000000000) : CMul i j := .inr ⟨by omega, by omega⟩
theorem cmul_l {i j : Int} (h1 : -1000000000000000000 ≤ i) (h2 : i ≤ 1000000000000000000) : CMul i j := .inl ⟨by omega, by omega⟩
theorem cdiv_c {i j : Int} (h1 : 0 < j) (h2 : j < 1073741824) : CDiv i j := ⟨h1, h2⟩
def d__law_marks : DTS := (dSeq (dAsg (dLst (dCons (dOp (oI0 fun i j => .int (i + j)) (dC (.int 1)) (dOp (oI (fun _ j => 0 < j) fun i j => .int (i % j)) (dVar 3) (dC (.int 100000000000000000)))) dNil)) (gN [] 4))
  (dSeq (dFor (iR2 (dCons (dC (.int 1)) (dCons (dVar 0) dNil))) (gN [] 5)
  (dSeq (dAsg (dC (.int 1)) (gN [] 6))
  (dSeq (dIfS (dTest (dOp (oEqS false) (dVar 1) (dC (.int 1)))) (dAsg (dOp (oI0 fun i j => .int (i + j)) (dC (.int 1)) (dOp (oI (fun _ j => 0 < j) fun i j => .int (i % j)) (dOp (oI0 fun i j => .int (i + j)) (dOp (oI CDiv fun i j => .int (i / j)) (dVar 3) (dC (.int 7))) (dOp (oI CMul fun i j => .int (i * j)) (dVar 5) (dVar 5))) (dC (.int 50)))) (gN [] 6)) dNext)
  (dSeq (dIfS (dTest (dOp (oEqS false) (dVar 1) (dC (.int 2)))) (dAsg (dOp (oI0 fun i j => .int (i + j)) (dC (.int 1)) (dOp (oI (fun _ j => 0 < j) fun i j => .int (i % j)) (dOp (oI CMul fun i j => .int (i * j)) (dOp (oI CMul fun i j => .int (i * j)) (dVar 3) (dC (.int 48271))) (dOp (oI0 fun i j => .int (i + j)) (dVar 5) (dC (.int 1)))) (dC (.int 99999999999999997)))) (gN [] 6)) dNext)
  (dDrop (dBM "list" mAppend (dVar 4) (dCons (dOp (oI0 fun i j => .int (i + j)) (dOp oIxL (dVar 4) (dNeg (fun i => -i) (dC (.int 1)))) (dVar 6)) dNil)))))))
  (dSeq (dIfS (dTest (dVar 2)) (dAsg (dLc (iLp [] 4) (gN [4] 7) dYes (dOp (oI0 fun i j => .int (i - j)) (dOp (oI0 fun i j => .int (i + j)) (dVar 7) (dC (.int 999999999999999999))) (dOp oIxL (dVar 4) (dNeg (fun i => -i) (dC (.int 1))))) [7]) (gN [] 4)) dNext)
  (dRet (dMove [] 4)))))
def sp__law_marks : DSp := fun ds R _ => ∃ (n : Nat) (kind number : Int) (far : Bool), ds = [.int n, .int kind, .bl far, .int number] ∧ 1 ≤ n ∧ n ≤ 4 ∧ ∀ row : List Int, row.length = n → Rise row → R (.mt (row.map D.int)) []
theorem marks_step {l : List Int} {last gap : Int} (hl : l.getLast? = some last) (pw : l.Pairwise (· < ·)) (up : ∀ x ∈ l, x ≤ last) (g : 0 < gap) : (l ++ [last + gap]).Pairwise (· < ·) ∧ ∀ x ∈ l ++ [last + gap], x ≤ last + gap := by
  refine ⟨List.pairwise_append.mpr ⟨pw, List.pairwise_singleton _ _, fun x hx y hy => ?_⟩, fun x hx => ?_⟩
  · have := up x hx
    rw [List.mem_singleton] at hy
    omega
  · rcases List.mem_append.mp hx with hx | hx
    · have := up x hx; omega
    · rw [List.mem_singleton] at hx; omega
theorem spec__law_marks : ∀ ds R RX, sp__law_marks ds R RX → ds.length = 4 ∧ d__law_marks (endsD [] R) (startE 8 ds) := by
  rintro _ R RX ⟨n, kind, number, far, rfl, h1, h4, h⟩
  refine ⟨rfl, ?_⟩
  simp [d__law_marks]
  refine ⟨by decide, by omega, ?_⟩
  refine forD_rng (fun i e => ∃ (l : List Int) (last : Int) (a b c : Option D), l.length = i + 1 ∧ l.getLast? = some last ∧ l.Pairwise (· < ·) ∧ (∀ x ∈ l, x ≤ last) ∧ (∀ x ∈ l, 1 ≤ x) ∧ last ≤ 100000000000000000 * (i + 1) ∧
    (∀ x ∈ l, last ≤ x + 100000000000000000 * i) ∧ e = [some (D.int ↑n), some (D.int kind), some (D.bl far), some (D.int number), some (D.mt (l.map .int)), a, b, c]) ?_ ?_ ?_
  · refine ⟨[1 + number % 100000000000000000], 1 + number % 100000000000000000, none, none, none, rfl, rfl, List.pairwise_singleton _ _, by simp, by simp; omega, by omega, by simp, rfl⟩
  · rintro i e N hi ⟨l, last, a, b, c, h5, h6, h7, h8, h9, h10, h11, rfl⟩ hN
    have hsz : l.length < sizeLine := small1000 (by omega)
    have key : ∀ g : Int, 1 ≤ g → g ≤ 100000000000000000 → ∀ b c, N [some (D.int ↑n), some (D.int kind), some (D.bl far), some (D.int number), some (D.mt (l.map D.int ++ [D.int (last + g)])), some (.int (1 + i)), b, c] := fun g g1 g2 b c => by
      obtain ⟨p1, p2⟩ := marks_step h6 h7 h8 (show 0 < g by omega)
      have hlast : 1 ≤ last := h9 _ (List.mem_of_getLast? h6)
      refine hN _ ⟨l ++ [last + g], last + g, some (.int (1 + i)), b, c, by simp [h5], by simp, p1, p2, fun x hx => ?_, by omega, fun x hx => ?_, by simp⟩
      · rcases List.mem_append.mp hx with hx | hx
        · exact h9 x hx
        · rw [List.mem_singleton] at hx; omega
      · rcases List.mem_append.mp hx with hx | hx
        · have := h11 x hx; omega
        · rw [List.mem_singleton] at hx; omega
    have e1 : atI (l.map D.int) (-1) = some (.int last) := atI_m1 (by rw [List.getLast?_map, h6]; rfl)
    have c1 : CMul (1 + (i : Int)) (1 + i) := cmul_r (by omega) (by omega)
    have c2 : CMul number 48271 := cmul_r (by omega) (by omega)
    have c3 : CMul (number * 48271) (1 + (i : Int) + 1) := cmul_r (by omega) (by omega)
    have c4 : CDiv number 7 := cdiv_c (by omega) (by omega)
    simp [dec_int, scal, e1, hsz, c1, c2, c3, c4]
    split <;> split <;> exact key _ (by omega) (by omega) _ _
  · rintro e ⟨l, last, a, b, c, h5, h6, h7, h8, h9, h10, h11, rfl⟩
    have hl : l.length = n := by omega
    cases far with
    | false =>
      simp
      exact h l hl ⟨h7, h9, fun m hm => by have := h8 m hm; omega⟩
    | true =>
      simp
      refine lcD_map (h := fun m => .int (m + 999999999999999999 - last)) (by simp) (Nat.le_of_lt (small1000 (show l.length ≤ 1000 by omega))) (fun x hx => rfl) (fun x hx N hN => ?_) ?_
      · have e1 : atI (l.map D.int) (-1) = some (.int last) := atI_m1 (by rw [List.getLast?_map, h6]; rfl)
        simp [e1]
        exact hN _ (by simp)
      · simp
        have := h (l.map fun m => m + 999999999999999999 - last) (by simpa using hl) ⟨?_, ?_, ?_⟩
        · simpa [Function.comp_def] using this
        · rw [List.pairwise_map]
          exact h7.imp fun h => by omega
        · intro m hm
          obtain ⟨x, hx, rfl⟩ := List.mem_map.mp hm
          have := h11 x hx
          omega
        · intro m hm
          obtain ⟨x, hx, rfl⟩ := List.mem_map.mp hm
          have := h8 x hx
          omega
end DL

/-! ## M33d.lean -/
namespace DL
open PySem PySem.Spec PyProof.Rows L2
open Dat (toD)
theorem cpow_c {i j : Int} (h0 : 0 ≤ j) (h1 : j ≤ 1000000) (h2 : i.natAbs < 2 ^ 64) : CPow i j := ⟨h0, h1, h2⟩
theorem mod_at {α : Type} (l : List α) (h : 0 < l.length) (n : Int) : ∃ a, l[(n % (l.length : Int)).toNat]? = some a ∧ a ∈ l ∧ atI l (n % (l.length : Int)) = some a := by
  have h1 : 0 ≤ n % (l.length : Int) := Int.emod_nonneg _ (by omega)
  have h2 : n % (l.length : Int) < l.length := Int.emod_lt_of_pos _ (by omega)
  have h3 : (n % (l.length : Int)).toNat < l.length := by omega
  refine ⟨l[(n % (l.length : Int)).toNat], List.getElem?_eq_getElem h3, List.getElem_mem h3, ?_⟩
  have := atI_nat (List.getElem?_eq_getElem h3)
  rwa [show (((n % (l.length : Int)).toNat : Nat) : Int) = n % (l.length : Int) by omega] at this
@[simp] theorem toNat_add_nat (a b : Nat) : ((a : Int) + (b : Int)).toNat = a + b := by omega
def d__law_worth : DTS := (dSeq (dAsg (dOp oIxL (dVar 0) (dOp (oI (fun _ j => 0 < j) fun i j => .int (i % j)) (dVar 1) (dCB cLen (dCons (dVar 0) dNil)))) (gN [] 2))
  (dSeq (dAsg (dOp (oI (fun _ j => 0 < j) fun i j => .int (i % j)) (dOp (oI CDiv fun i j => .int (i / j)) (dVar 1) (dC (.int 4))) (dC (.int 6))) (gN [] 3))
  (dSeq (dIfS (dTest (dOp (oI0 fun i j => .bl (decide (i < j))) (dVar 3) (dC (.int 3)))) (dRet (dCB (cI2 mnI) (dCons (dC (.int 999999999999999999)) (dCons (dOp (oI0 fun i j => .int (i + j)) (dOp (oI0 fun i j => .int (i - j)) (dVar 2) (dC (.int 1))) (dVar 3)) dNil)))) dNext)
  (dSeq (dIfS (dTest (dOp (oEqS false) (dVar 3) (dC (.int 3)))) (dRet (dC (.int 0))) dNext)
  (dSeq (dIfS (dTest (dOp (oEqS false) (dVar 3) (dC (.int 4)))) (dRet (dC (.int 999999999999999999))) dNext)
  (dRet (dOp (oI (fun _ j => 0 < j) fun i j => .int (i % j)) (dOp (oI CDiv fun i j => .int (i / j)) (dVar 1) (dC (.int 24))) (dC (.int 1000000000000000000)))))))))
def sp__law_worth : DSp := fun ds R _ => ∃ (row : List Int) (number : Int), ds = [toD row, .int number] ∧ row ≠ [] ∧ Rise row ∧ ∀ w : Int, 0 ≤ w → w ≤ 999999999999999999 → R (.int w) []
theorem spec__law_worth : ∀ ds R RX, sp__law_worth ds R RX → ds.length = 2 ∧ d__law_worth (endsD [] R) (startE 4 ds) := by
  rintro _ R RX ⟨row, number, rfl, hr, rise, h⟩
  refine ⟨rfl, ?_⟩
  have hl : 0 < row.length := by cases row with | nil => exact absurd rfl hr | cons => simp
  obtain ⟨a, _, ha, e1⟩ := mod_at row hl number
  have e1 : atI (row.map D.int) (number % (row.length : Int)) = some (.int a) := by rw [atI_map, e1]; rfl
  have c4 : CDiv number 4 := cdiv_c (by omega) (by omega)
  have c24 : CDiv number 24 := cdiv_c (by omega) (by omega)
  have p : (0 : Int) < row.length := by omega
  have h1 := rise.lo a ha
  have h2 := rise.hi a ha
  have hne : ¬ row = [] := hr
  have hpos : 0 < row.length := hl
  simp [d__law_worth, toD, e1, c4, c24, dec_int, scal, mnI_eq, hl, hne, List.length_pos_iff]
  split
  · exact h _ (by omega) (by omega)
  · split
    · exact h _ (by omega) (by omega)
    · split
      · exact h _ (by omega) (by omega)
      · exact h _ (by omega) (by omega)
def d__law_gap : DTS := (dSeq (dAsg (dCall sp__law_worth [] (dCons (dVar 0) (dCons (dVar 1) dNil))) (gN [] 3))
  (dSeq (dIfS (dTest (dOp (oEqS false) (dOp (oI (fun _ j => 0 < j) fun i j => .int (i % j)) (dVar 2) (dC (.int 3))) (dC (.int 0)))) (dRet (dTup (dCons (dVar 3) (dCons (dVar 3) dNil)))) dNext)
  (dSeq (dAsg (dCall sp__law_worth [] (dCons (dVar 0) (dCons (dVar 2) dNil))) (gN [] 4))
  (dRet (dTup (dCons (dCB (cI2 mnI) (dCons (dVar 3) (dCons (dVar 4) dNil))) (dCons (dCB (cI2 mxI) (dCons (dVar 3) (dCons (dVar 4) dNil))) dNil)))))))
def sp__law_gap : DSp := fun ds R _ => ∃ (row : List Int) (one other : Int), ds = [toD row, .int one, .int other] ∧ row ≠ [] ∧ Rise row ∧ ∀ c : Int × Int, 0 ≤ c.1 → c.1 ≤ c.2 → c.2 ≤ 999999999999999999 → R (toD c) []
theorem spec__law_gap : ∀ ds R RX, sp__law_gap ds R RX → ds.length = 3 ∧ d__law_gap (endsD [] R) (startE 5 ds) := by
  rintro _ R RX ⟨row, one, other, rfl, hr, rise, h⟩
  refine ⟨rfl, ?_⟩
  simp [d__law_gap, toD]
  refine ⟨row, one, rfl, hr, rise, fun w w0 w1 => ?_⟩
  have two : 2 ≤ sizeLine := by decide
  simp [dec_int, scal, two]
  split
  · simpa [toD] using h (w, w) w0 (Int.le_refl _) w1
  · refine ⟨row, other, rfl, hr, rise, fun v v0 v1 => ?_⟩
    simp [two, mnI_eq, mxI_eq]
    simpa [toD] using h (min w v, max w v) (by simp; omega) (by simp; omega) (by simp; omega)
/-- columns of worths -/
def rowm (w : Int) : List Int → Nat → Nat → Nat
  | [], _, m => m
  | s :: r, k, m => rowm w r (k + 1) (if s ≤ w then m ||| 2 ^ k else m)
def colm : List (List Int) → List Int → Nat → Nat → Nat
  | row :: r, w :: ws, k, m => colm r ws (k + row.length) (rowm w row k m)
  | _, _, _, m => m
theorem rowm_snoc (w s : Int) : ∀ (l : List Int) (k m : Nat), rowm w (l ++ [s]) k m = if s ≤ w then rowm w l k m ||| 2 ^ (k + l.length) else rowm w l k m
  | [], k, m => by simp [rowm]
  | x :: l, k, m => by
    simp only [List.cons_append, rowm, List.length_cons]
    rw [rowm_snoc w s l, show k + 1 + l.length = k + (l.length + 1) by omega]
theorem colm_snoc (row : List Int) (w : Int) : ∀ (l : List (List Int)) (ws : List Int) (k m : Nat), l.length = ws.length → colm (l ++ [row]) (ws ++ [w]) k m = rowm w row (k + wid l) (colm l ws k m)
  | [], [], k, m, _ => by simp [colm, wid]
  | [], _ :: _, _, _, h => by simp at h
  | _ :: _, [], _, _, h => by simp at h
  | x :: l, y :: ws, k, m, h => by
    simp only [List.cons_append, colm, wid]
    rw [colm_snoc row w l ws _ _ (by simpa using h), show k + x.length + wid l = k + (x.length + wid l) by omega]
theorem wid_take (l : List (List Int)) (i : Nat) : wid (l.take i) ≤ wid l := by
  induction l generalizing i with
  | nil => simp [wid]
  | cons x l ih =>
    cases i with
    | zero => simp [wid]
    | succ i => simp only [List.take_succ_cons, wid]; have := ih i; omega
theorem wid_at {l : List (List Int)} {i : Nat} {row : List Int} (h : l[i]? = some row) : wid (l.take i) + row.length ≤ wid l := by
  have e := wid_snoc row (l.take i)
  rw [← take_snoc h] at e
  have := wid_take l (i + 1)
  omega
def d__law_columns : DTS := (dSeq (dAsg (dC (.int 0)) (gN [] 2))
  (dSeq (dAsg (dC (.int 0)) (gN [] 3))
  (dSeq (dFor (iR1 (dCons (dCB cLen (dCons (dVar 0) dNil)) dNil)) (gN [] 4)
  (dFor (iL (dOp oIxL (dVar 0) (dVar 4))) (gN [] 5)
  (dSeq (dIfS (dTest (dOp (oI0 fun i j => .bl (decide (j ≤ i))) (dOp oIxL (dVar 1) (dVar 4)) (dVar 5))) (dAsg (dOp (oI0 fun i j => .int (Builtin.bitOr i j)) (dVar 2) (dOp (oI CPow fun i j => .int (i * 2 ^ j.toNat)) (dC (.int 1)) (dVar 3))) (gN [] 2)) dNext)
  (dAsg (dOp (oI0 fun i j => .int (i + j)) (dVar 3) (dC (.int 1))) (gN [] 3)))))
  (dRet (dVar 2)))))
def sp__law_columns : DSp := fun ds R _ => ∃ (steps : List (List Int)) (ws : List Int), ds = [toD steps, toD ws] ∧ ws.length = steps.length ∧ steps.length ≤ 100 ∧ wid steps ≤ 1000 ∧ R (.int (colm steps ws 0 0 : Nat)) []
theorem spec__law_columns : ∀ ds R RX, sp__law_columns ds R RX → ds.length = 2 ∧ d__law_columns (endsD [] R) (startE 6 ds) := by
  rintro _ R RX ⟨steps, ws, rfl, hw, hl, hwid, h⟩
  refine ⟨rfl, ?_⟩
  simp [d__law_columns, toD]
  refine ⟨by omega, ?_⟩
  refine forD_rng (fun i e => ∃ a b, e = [some (D.lst (List.map (fun xs => D.lst (List.map D.int xs)) steps)), some (D.lst (ws.map D.int)), some (D.int (colm (steps.take i) (ws.take i) 0 0 : Nat)), some (D.int (wid (steps.take i) : Nat)), a, b]) ⟨_, _, rfl⟩ ?_ ?_
  · rintro i e N hi ⟨a, b, rfl⟩ hN
    have hS : steps[i]? = some steps[i] := List.getElem?_eq_getElem hi
    have hW : ws[i]? = some ws[i] := List.getElem?_eq_getElem (by omega)
    have hb := wid_at hS
    simp [atI_at hS]
    refine forD_of (fun j e => ∃ b, e = [some (D.lst (List.map (fun xs => D.lst (List.map D.int xs)) steps)), some (D.lst (ws.map D.int)), some (D.int (rowm ws[i] (steps[i].take j) (wid (steps.take i)) (colm (steps.take i) (ws.take i) 0 0) : Nat)), some (D.int ((wid (steps.take i) + j : Nat) : Int)), some (.int i), b]) ⟨b, by simp [rowm]⟩ ?_ ?_
    · rintro j s e N hj ⟨b, rfl⟩ hN
      have hlt : j < steps[i].length := (List.getElem?_eq_some_iff.mp hj).1
      have e1 := rowm_snoc ws[i] s (steps[i].take j) (wid (steps.take i)) (colm (steps.take i) (ws.take i) 0 0)
      rw [← take_snoc hj, List.length_take, Nat.min_eq_left (Nat.le_of_lt hlt)] at e1
      have cp : CPow 1 ((wid (steps.take i) + j : Nat) : Int) := cpow_c (by omega) (by omega) (by decide)
      have eb : Builtin.bitOr ((rowm ws[i] (steps[i].take j) (wid (steps.take i)) (colm (steps.take i) (ws.take i) 0 0) : Nat) : Int) (2 ^ (wid (steps.take i) + j)) = ((rowm ws[i] (steps[i].take j) (wid (steps.take i)) (colm (steps.take i) (ws.take i) 0 0) ||| 2 ^ (wid (steps.take i) + j) : Nat) : Int) := by
        rw [show (2 : Int) ^ (wid (steps.take i) + j) = ((2 ^ (wid (steps.take i) + j) : Nat) : Int) by simp, bOr]
      simp [atI_at hW]
      split
      · rename_i hc
        rw [if_pos hc] at e1
        simp at cp
        refine ⟨cp, ?_⟩
        rw [eb]
        exact hN _ (by rw [e1]; simp; omega)
      · rename_i hc
        rw [if_neg hc] at e1
        exact hN _ (by rw [e1]; simp; omega)
    · rintro e ⟨b, rfl⟩
      have e1 := colm_snoc steps[i] ws[i] (steps.take i) (ws.take i) 0 0 (by simp; omega)
      rw [← take_snoc hS, ← take_snoc hW, Nat.zero_add] at e1
      have e2 := wid_snoc steps[i] (steps.take i)
      rw [← take_snoc hS] at e2
      simp
      exact hN _ (by rw [e1, e2]; simp)
  · rintro e ⟨a, b, rfl⟩
    rw [List.take_length, ← hw, List.take_length]
    simpa using h
def d__law_breaks : DTS := (dRet (dAndV (dOp (oEqS false) (dOp (oI0 fun i j => .int (Builtin.bitAnd i j)) (dOp oIxT (dVar 1) (dC (.int 0))) (dVar 0)) (dOp oIxT (dVar 1) (dC (.int 0)))) (dOp (oEqS true) (dOp (oI0 fun i j => .int (Builtin.bitAnd i j)) (dOp oIxT (dVar 1) (dC (.int 1))) (dVar 0)) (dOp oIxT (dVar 1) (dC (.int 1))))))
def brk (m a b : Nat) : Bool := decide (a &&& m = a) && !decide (b &&& m = b)
def sp__law_breaks : DSp := fun ds R _ => ∃ (m a b : Nat), ds = [.int m, .tup [.int a, .int b]] ∧ R (.bl (brk m a b)) []
theorem spec__law_breaks : ∀ ds R RX, sp__law_breaks ds R RX → ds.length = 2 ∧ d__law_breaks (endsD [] R) (startE 2 ds) := by
  rintro _ R RX ⟨m, a, b, rfl, h⟩
  refine ⟨rfl, ?_⟩
  unfold brk at h
  simp [d__law_breaks, dec_int, scal, bAnd, Int.natCast_inj]
  by_cases h1 : a &&& m = a
  · simpa [h1] using h
  · simpa [h1] using h
def d__law_broken : DTS := (dSeq (dFor (iL (dVar 1)) (gN [] 3)
  (dIfS (dTest (dCall sp__law_breaks [] (dCons (dCall sp__law_columns [] (dCons (dVar 0) (dCons (dVar 3) dNil))) (dCons (dVar 2) dNil)))) (dRet (dC (.bl true))) dNext))
  (dRet (dC (.bl false))))
def sp__law_broken : DSp := fun ds R _ => ∃ (steps filling : List (List Int)) (a b : Nat), ds = [toD steps, toD filling, .tup [.int a, .int b]] ∧ (∀ ws ∈ filling, ws.length = steps.length) ∧ steps.length ≤ 100 ∧ wid steps ≤ 1000 ∧
  R (.bl (filling.any fun ws => brk (colm steps ws 0 0) a b)) []
theorem spec__law_broken : ∀ ds R RX, sp__law_broken ds R RX → ds.length = 3 ∧ d__law_broken (endsD [] R) (startE 4 ds) := by
  rintro _ R RX ⟨steps, filling, a, b, rfl, hf, hl, hw, h⟩
  refine ⟨rfl, ?_⟩
  simp [d__law_broken, toD]
  refine forD_of (fun i e => ∃ c, (filling.take i).any (fun ws => brk (colm steps ws 0 0) a b) = false ∧ e = [some (D.lst (List.map (fun xs => D.lst (List.map D.int xs)) steps)), some (D.lst (List.map (fun xs => D.lst (List.map D.int xs)) filling)), some (.tup [.int a, .int b]), c]) ⟨_, rfl, rfl⟩ ?_ ?_
  · rintro i ws e N hx ⟨c, hq, rfl⟩ hN
    simp
    refine ⟨steps, ws, by simp [toD], hf ws (List.mem_of_getElem? hx), hl, hw, ?_⟩
    simp
    refine ⟨_, a, b, rfl, ?_⟩
    have e1 := take_snoc hx
    simp
    cases hb : brk (colm steps ws 0 0) a b with
    | true =>
      have : filling.any (fun ws => brk (colm steps ws 0 0) a b) = true := List.any_eq_true.mpr ⟨ws, List.mem_of_getElem? hx, hb⟩
      rw [this] at h
      exact .inr ⟨rfl, h⟩
    | false =>
      refine .inl ⟨rfl, hN _ ⟨_, ?_, rfl⟩⟩
      rw [e1, List.any_append, hq]
      simpa using hb
  · rintro e ⟨c, hq, rfl⟩
    rw [List.take_length] at hq
    rw [hq] at h
    simpa using h
end DL

/-! ## M33e.lean -/
namespace DL
open PySem PySem.Spec PyProof.Rows L2
open Dat (toD)
def d__law_side : DTS := (dSeq (dIfS (dAnd (dTest (dVar 2)) (dTest (dOp (oI0 fun i j => .bl (decide (j < i))) (dVar 1) (dC (.int 0))))) (dRet (dOp (oI CPow fun i j => .int (i * 2 ^ j.toNat)) (dC (.int 1)) (dOp (oI (fun _ j => 0 < j) fun i j => .int (i % j)) (dVar 0) (dVar 1)))) dNext)
  (dRet (dOp (oI (fun _ j => 0 < j) fun i j => .int (i % j)) (dVar 0) (dOp (oI CPow fun i j => .int (i * 2 ^ j.toNat)) (dC (.int 1)) (dVar 1)))))
def sp__law_side : DSp := fun ds R _ => ∃ (number : Int) (w : Nat) (b : Bool), ds = [.int number, .int w, .bl b] ∧ w ≤ 1000 ∧ ∀ m : Nat, m < 2 ^ w → R (.int m) []
theorem side_pow {number : Int} {w : Nat} (hw : 0 < w) : ∃ k : Nat, k < w ∧ number % (w : Int) = k := by
  have h1 : 0 ≤ number % (w : Int) := Int.emod_nonneg _ (by omega)
  have h2 : number % (w : Int) < w := Int.emod_lt_of_pos _ (by omega)
  exact ⟨(number % (w : Int)).toNat, by omega, by omega⟩
theorem spec__law_side : ∀ ds R RX, sp__law_side ds R RX → ds.length = 3 ∧ d__law_side (endsD [] R) (startE 3 ds) := by
  rintro _ R RX ⟨number, w, b, rfl, hw, h⟩
  refine ⟨rfl, ?_⟩
  have two : ∀ k : Nat, k < w → R (.int (2 ^ k)) [] := fun k hk => by
    have := h (2 ^ k) (Nat.pow_lt_pow_right (by omega) hk)
    simpa using this
  have low : R (.int (number % 2 ^ w)) [] := by
    have p : (0 : Int) < 2 ^ w := Int.pow_pos (by omega)
    have h1 : 0 ≤ number % 2 ^ w := Int.emod_nonneg _ (by omega)
    have h2 : number % 2 ^ w < 2 ^ w := Int.emod_lt_of_pos _ p
    have := h (number % 2 ^ w).toNat (by
      have e : ((2 ^ w : Nat) : Int) = 2 ^ w := by simp
      omega)
    rwa [show (((number % 2 ^ w).toNat : Nat) : Int) = number % 2 ^ w by omega] at this
  have cp : CPow 1 (w : Int) := cpow_c (by omega) (by omega) (by decide)
  have pp : (0 : Int) < 2 ^ w := Int.pow_pos (by omega)
  cases b with
  | false =>
    simp [d__law_side, cp, pp]
    exact low
  | true =>
    by_cases hw0 : 0 < w
    · obtain ⟨k, hk, ek⟩ := side_pow (number := number) hw0
      have cp2 : CPow 1 (k : Int) := cpow_c (by omega) (by omega) (by decide)
      simp [d__law_side, hw0, ek, cp2]
      exact two k hk
    · have w0 : w = 0 := by omega
      subst w0
      simp [d__law_side, cpow_c]
      simpa using low
def d__law_drawn_rule : DTS := (dSeq (dAsg (dCB cSum (dCons (dLc (iL (dVar 1)) (gN [] 5) dYes (dCB cLen (dCons (dVar 5) dNil)) [5]) dNil)) (gN [] 2))
  (dSeq (dAsg (dOp (oI (fun _ j => 0 < j) fun i j => .int (i % j)) (dCall sp__law_cell [] (dCons (dVar 0) (dCons (dC (.int 1)) dNil))) (dC (.int 4))) (gN [] 3))
  (dSeq (dAsg (dCall sp__law_side [] (dCons (dCall sp__law_cell [] (dCons (dVar 0) (dCons (dC (.int 2)) dNil))) (dCons (dVar 2) (dCons (dOp (oEqS false) (dOp (oI (fun _ j => 0 < j) fun i j => .int (i % j)) (dVar 3) (dC (.int 2))) (dC (.int 0))) dNil)))) (gN [] 4))
  (dRet (dTup (dCons (dVar 4) (dCons (dCall sp__law_side [] (dCons (dCall sp__law_cell [] (dCons (dVar 0) (dCons (dC (.int 3)) dNil))) (dCons (dVar 2) (dCons (dOp (oI0 fun i j => .bl (decide (i < j))) (dVar 3) (dC (.int 2))) dNil)))) dNil)))))))
def sp__law_drawn_rule : DSp := fun ds R _ => ∃ (s : List Int) (steps : List (List Int)), ds = [.scr (s.map .int), toD steps] ∧ steps.length ≤ 100 ∧ wid steps ≤ 1000 ∧ ∀ a b : Nat, a < 2 ^ wid steps → b < 2 ^ wid steps → R (.tup [.int a, .int b]) []
theorem wid_sum : ∀ l : List (List Int), ((l.map fun r => (r.length : Int))).sum = wid l
  | [] => rfl
  | r :: l => by rw [List.map_cons, List.sum_cons, wid_sum l]; simp [wid]
theorem spec__law_drawn_rule : ∀ ds R RX, sp__law_drawn_rule ds R RX → ds.length = 2 ∧ d__law_drawn_rule (endsD [] R) (startE 6 ds) := by
  rintro _ R RX ⟨s, steps, rfl, hl, hw, h⟩
  refine ⟨rfl, ?_⟩
  simp [d__law_drawn_rule, toD]
  refine lcD_map (h := fun r => .int (r.length : Nat)) (by simp) (Nat.le_of_lt (small1000 (show steps.length ≤ 1000 by omega))) (fun x hx => rfl) (fun x hx N hN => ?_) ?_
  · simp
    exact hN _ (by simp)
  · simp
    refine ⟨steps.map fun r => (r.length : Int), by simp [Function.comp_def], ?_⟩
    rw [wid_sum]
    refine ⟨s, 1, by simp, fun v => ?_⟩
    simp
    refine ⟨s, 2, by simp, fun v2 => ?_⟩
    have two : 2 ≤ sizeLine := by decide
    simp [dec_int, scal]
    refine ⟨v2, wid steps, _, rfl, hw, fun a ha => ?_⟩
    simp
    refine ⟨s, 3, by simp, fun v3 => ?_⟩
    simp
    refine ⟨v3, wid steps, _, rfl, hw, fun b hb => ?_⟩
    simp [two]
    exact h a b ha hb
def d__law_copy : DTS := (dRet (dLc (iL (dVar 0)) (gN [] 1) dYes (dFix [] (dCB cList (dCons (dVar 1) dNil))) [1]))
def sp__law_copy : DSp := fun ds R _ => ∃ xss : List (List D), ds = [.lst (xss.map .lst)] ∧ xss.length ≤ 1000 ∧ R (.mt (xss.map .lst)) []
theorem spec__law_copy : ∀ ds R RX, sp__law_copy ds R RX → ds.length = 1 ∧ d__law_copy (endsD [] R) (startE 2 ds) := by
  rintro _ R RX ⟨xss, rfl, hl, h⟩
  refine ⟨rfl, ?_⟩
  simp [d__law_copy]
  refine lcD_map (h := .lst) (by simp) (Nat.le_of_lt (small1000 hl)) (fun x hx => rfl) (fun x hx N hN => ?_) ?_
  · simp
    exact hN _ (by simp)
  · simpa using h
end DL

/-! ## M33f.lean -/
namespace DL
open PySem PySem.Spec PyProof.Rows L2
open Dat (toD)
/-- a filling's worths lie in the cells -/
structure InCells (cells : List (List (Int × Int))) (f : List (List Int)) : Prop where
  len : f.length = cells.length
  row : ∀ (i : Nat) ws row, f[i]? = some ws → cells[i]? = some row → ws.length = row.length ∧ ∀ (t : Nat) w c, ws[t]? = some w → row[t]? = some c → c.1 ≤ w ∧ w ≤ c.2
/-- cells fit the steps -/
structure CellsOk (steps : List (List Int)) (cells : List (List (Int × Int))) : Prop where
  many : cells.length ≤ 100
  row : ∀ row ∈ cells, row.length = steps.length ∧ ∀ c ∈ row, 0 ≤ c.1 ∧ c.1 ≤ c.2
structure StepsOk (steps : List (List Int)) : Prop where
  many : steps.length ≤ 100
  wide : wid steps ≤ 1000
  rise : ∀ row ∈ steps, row ≠ [] ∧ Rise row
theorem le1000 {n : Nat} (h : n ≤ 1000) : n ≤ sizeLine := Nat.le_of_lt (small1000 h)
def d__law_filling : DTS := (dSeq (dIfS (dOr (dNot (dTest (dCB cIsi (dCons (dVar 0) (dCons (dC (.ty "list")) dNil))))) (dTest (dOp (oEqS true) (dCB cLen (dCons (dVar 0) dNil)) (dCB cLen (dCons (dVar 1) dNil))))) (dRet (dC (.bl false))) dNext)
  (dSeq (dFor (iR1 (dCons (dCB cLen (dCons (dVar 1) dNil)) dNil)) (gN [] 2)
  (dSeq (dIfS (dOr (dNot (dTest (dCB cIsi (dCons (dOp oIxL (dVar 0) (dVar 2)) (dCons (dC (.ty "list")) dNil))))) (dTest (dOp (oEqS true) (dCB cLen (dCons (dOp oIxL (dVar 0) (dVar 2)) dNil)) (dCB cLen (dCons (dOp oIxL (dVar 1) (dVar 2)) dNil))))) (dRet (dC (.bl false))) dNext)
  (dFor (iR1 (dCons (dCB cLen (dCons (dOp oIxL (dVar 1) (dVar 2)) dNil)) dNil)) (gN [] 3)
  (dSeq (dAsg (dOp oIxL (dOp oIxL (dVar 0) (dVar 2)) (dVar 3)) (gN [] 4))
  (dSeq (dIfS (dOr (dNot (dTest (dCB cIsi (dCons (dVar 4) (dCons (dC (.ty "int")) dNil))))) (dTest (dCB cIsi (dCons (dVar 4) (dCons (dC (.ty "bool")) dNil))))) (dRet (dC (.bl false))) dNext)
  (dIfS (dOr (dTest (dOp (oI0 fun i j => .bl (decide (i < j))) (dVar 4) (dOp oIxT (dOp oIxL (dOp oIxL (dVar 1) (dVar 2)) (dVar 3)) (dC (.int 0))))) (dTest (dOp (oI0 fun i j => .bl (decide (j < i))) (dVar 4) (dOp oIxT (dOp oIxL (dOp oIxL (dVar 1) (dVar 2)) (dVar 3)) (dC (.int 1)))))) (dRet (dC (.bl false))) dNext))))))
  (dRet (dC (.bl true)))))
def sp__law_filling : DSp := fun ds R _ => ∃ (f : List (List Int)) (cells : List (List (Int × Int))), ds = [toD f, toD cells] ∧ cells.length ≤ 100 ∧ (∀ row ∈ cells, row.length ≤ 100) ∧ InCells cells f ∧ R (.bl true) []
theorem spec__law_filling : ∀ ds R RX, sp__law_filling ds R RX → ds.length = 2 ∧ d__law_filling (endsD [] R) (startE 5 ds) := by
  rintro _ R RX ⟨f, cells, rfl, hl, hr, ic, h⟩
  refine ⟨rfl, ?_⟩
  have hfl := ic.len
  simp [d__law_filling, toD, isT, tyNs, dec_int, scal, hfl]
  refine ⟨by omega, ?_⟩
  refine forD_rng (fun i e => ∃ a b c, e = [some (D.lst (f.map fun xs => D.lst (xs.map D.int))), some (D.lst (cells.map fun xs => D.lst (xs.map fun p => D.tup [D.int p.fst, D.int p.snd]))), a, b, c]) ⟨_, _, _, rfl⟩ ?_ ?_
  · rintro i e N hi ⟨a, b, c, rfl⟩ hN
    have hF : f[i]? = some f[i] := List.getElem?_eq_getElem (by omega)
    have hC : cells[i]? = some cells[i] := List.getElem?_eq_getElem hi
    obtain ⟨q1, q2⟩ := ic.row i _ _ hF hC
    have q3 := hr _ (List.mem_of_getElem? hC)
    simp [atI_at hF, atI_at hC, isT, tyNs, dec_int, scal, q1]
    refine ⟨by omega, ?_⟩
    refine forD_rng (fun j e => ∃ b c, e = [some (D.lst (f.map fun xs => D.lst (xs.map D.int))), some (D.lst (cells.map fun xs => D.lst (xs.map fun p => D.tup [D.int p.fst, D.int p.snd]))), some (.int i), b, c]) ⟨_, _, rfl⟩ ?_ ?_
    · rintro j e N hj ⟨b, c, rfl⟩ hN
      have hw : f[i][j]? = some f[i][j] := List.getElem?_eq_getElem (by omega)
      have hc : cells[i][j]? = some cells[i][j] := List.getElem?_eq_getElem hj
      obtain ⟨g1, g2⟩ := q2 j _ _ hw hc
      simp [atI_at hF, atI_at hC, atI_at hw, atI_at hc, isT, tyNs]
      rw [if_neg (by omega), if_neg (by omega)]
      exact hN _ (by simp)
    · rintro e ⟨b, c, rfl⟩
      simp
      exact hN _ (by simp)
  · rintro e ⟨a, b, c, rfl⟩
    simpa using h
def d__law_steps : DTS := (dSeq (dAsg (dLst dNil) (gN [] 3))
  (dSeq (dAsg (dC (.int 6)) (gN [] 4))
  (dSeq (dFor (iR1 (dCons (dVar 1) dNil)) (gN [] 5)
  (dSeq (dAsg (dCall sp__law_cell [] (dCons (dVar 0) (dCons (dOp (oI0 fun i j => .int (i + j)) (dVar 2) (dOp (oI CMul fun i j => .int (i * j)) (dC (.int 2)) (dVar 5))) dNil))) (gN [] 6))
  (dSeq (dAsg (dCB (cI2 mnI) (dCons (dVar 4) (dCons (dOp (oI0 fun i j => .int (i + j)) (dC (.int 1)) (dOp (oI (fun _ j => 0 < j) fun i j => .int (i % j)) (dVar 6) (dC (.int 4)))) dNil))) (gN [] 7))
  (dSeq (dIfS (dTest (dOp (oI0 fun i j => .bl (decide (j < i))) (dVar 7) (dC (.int 0)))) (dSeq (dAsg (dCall sp__law_cell [] (dCons (dVar 0) (dCons (dOp (oI0 fun i j => .int (i + j)) (dOp (oI0 fun i j => .int (i + j)) (dVar 2) (dOp (oI CMul fun i j => .int (i * j)) (dC (.int 2)) (dVar 5))) (dC (.int 1))) dNil))) (gN [] 8))
  (dDrop (dBM "list" mAppend (dVar 3) (dCons (dFix [] (dCall sp__law_marks [] (dCons (dVar 7) (dCons (dOp (oI (fun _ j => 0 < j) fun i j => .int (i % j)) (dOp (oI CDiv fun i j => .int (i / j)) (dVar 6) (dC (.int 4))) (dC (.int 3))) (dCons (dOp (oEqS false) (dOp (oI (fun _ j => 0 < j) fun i j => .int (i % j)) (dOp (oI CDiv fun i j => .int (i / j)) (dVar 6) (dC (.int 12))) (dC (.int 4))) (dC (.int 1))) (dCons (dVar 8) dNil)))))) dNil)))) dNext)
  (dAsg (dOp (oI0 fun i j => .int (i - j)) (dVar 4) (dVar 7)) (gN [] 4))))))
  (dRet (dMove [] 3)))))
def sp__law_steps : DSp := fun ds R _ => ∃ (s : List Int) (n m : Nat), ds = [.scr (s.map .int), .int n, .int m] ∧ n ≤ 100 ∧ ∀ steps : List (List Int), steps.length ≤ n → wid steps ≤ 6 → (∀ row ∈ steps, row ≠ [] ∧ Rise row) → R (.mt (steps.map toD)) []
theorem spec__law_steps : ∀ ds R RX, sp__law_steps ds R RX → ds.length = 3 ∧ d__law_steps (endsD [] R) (startE 9 ds) := by
  rintro _ R RX ⟨s, n, m, rfl, hn, h⟩
  refine ⟨rfl, ?_⟩
  simp [d__law_steps]
  refine ⟨by omega, ?_⟩
  refine forD_rng (fun i e => ∃ (steps : List (List Int)), steps.length ≤ i ∧ wid steps ≤ 6 ∧ (∀ row ∈ steps, row ≠ [] ∧ Rise row) ∧ ∃ a b c d, e = [some (D.scr (s.map D.int)), some (.int n), some (.int m), some (.mt (steps.map toD)), some (.int (6 - wid steps)), a, b, c, d]) ⟨[], by simp, by simp [wid], by simp, by simp [wid]⟩ ?_ ?_
  · rintro i e N hi ⟨steps, h1, h2, h3, a, b, c, d, rfl⟩ hN
    have c1 : CMul 2 (i : Int) := cmul_l (by omega) (by omega)
    simp [c1]
    refine ⟨s, m + 2 * i, by simp, fun v => ?_⟩
    have hsz : steps.length < sizeLine := small1000 (by omega)
    simp [mnI_eq]
    split
    · rename_i hpos
      refine ⟨s, m + 2 * i + 1, by simp, fun v2 => ?_⟩
      have c4 : CDiv v 4 := cdiv_c (by omega) (by omega)
      have c12 : CDiv v 12 := cdiv_c (by omega) (by omega)
      obtain ⟨z, hz⟩ : ∃ z : Nat, min (6 - (wid steps : Int)) (1 + v % 4) = z := ⟨(min (6 - (wid steps : Int)) (1 + v % 4)).toNat, by omega⟩
      simp [c4, c12, dec_int, scal]
      rw [hz]
      refine ⟨z, _, _, _, rfl, by omega, by omega, fun row hrow rise => ?_⟩
      simp [hsz]
      refine hN _ ⟨steps ++ [row], by simp; omega, by rw [wid_snoc]; omega, ?_, ?_⟩
      · intro r hr
        rcases List.mem_append.mp hr with hr | hr
        · exact h3 r hr
        · rw [List.mem_singleton] at hr; subst hr
          exact ⟨fun e => by rw [e] at hrow; simp at hrow; omega, rise⟩
      · rw [wid_snoc, hrow]
        simp [toD]
        omega
    · rename_i hpos
      have hz : min (6 - (wid steps : Int)) (1 + v % 4) = 0 := by omega
      rw [hz]
      exact hN _ ⟨steps, by omega, h2, h3, by simp⟩
  · rintro e ⟨steps, h1, h2, h3, a, b, c, d, rfl⟩
    simp
    simpa [toD] using h steps h1 h2 h3
end DL

/-! ## M33g.lean -/
namespace DL
open PySem PySem.Spec PyProof.Rows L2
open Dat (toD)
def d__law_cells : DTS := (dSeq (dAsg (dOp (oI CMul fun i j => .int (i * j)) (dC (.int 2)) (dCB cLen (dCons (dVar 0) dNil))) (gN [] 2))
  (dSeq (dIfS (dTest (dOp (oEqS false) (dVar 2) (dC (.int 0)))) (dRet (dLc (iL (dSl (dVar 1) dNoPart (dPart (dC (.int 60))))) (gN [] 8) dYes (dFix [] (dLst dNil)) [8])) dNext)
  (dSeq (dAsg (dLst dNil) (gN [] 3))
  (dSeq (dFor (iR1 (dCons (dCB (cI2 mnI) (dCons (dC (.int 60)) (dCons (dOp (oI CDivW fun i j => .int (i / j)) (dCB cLen (dCons (dVar 1) dNil)) (dVar 2)) dNil))) dNil)) (gN [] 4)
  (dSeq (dAsg (dLst dNil) (gN [] 5))
  (dSeq (dFor (iR1 (dCons (dCB cLen (dCons (dVar 0) dNil)) dNil)) (gN [] 6)
  (dSeq (dAsg (dOp (oI0 fun i j => .int (i + j)) (dOp (oI CMul fun i j => .int (i * j)) (dVar 4) (dVar 2)) (dOp (oI CMul fun i j => .int (i * j)) (dC (.int 2)) (dVar 6))) (gN [] 7))
  (dDrop (dBM "list" mAppend (dVar 5) (dCons (dFix [] (dCall sp__law_gap [] (dCons (dOp oIxL (dVar 0) (dVar 6)) (dCons (dOp oIxL (dVar 1) (dVar 7)) (dCons (dOp oIxL (dVar 1) (dOp (oI0 fun i j => .int (i + j)) (dVar 7) (dC (.int 1)))) dNil))))) dNil)))))
  (dDrop (dBM "list" mAppend (dVar 3) (dCons (dFix [] (dVar 5)) dNil))))))
  (dRet (dMove [] 3))))))
def sp__law_cells : DSp := fun ds R _ => ∃ (steps : List (List Int)) (s : List Int), ds = [toD steps, .lst (s.map .int)] ∧ s.length ≤ 1000 ∧ StepsOk steps ∧ ∀ cells : List (List (Int × Int)), cells.length ≤ 60 → CellsOk steps cells → R (.mt (cells.map toD)) []
theorem cdivw {i j : Int} (h1 : 0 < j) (h2 : j < 1000000) : CDivW i j := wide_div (b := 20) h1 (by omega) (by omega) (by omega)
theorem cut_len {α : Type} (xs : List α) (lo hi : Option Int) : (cutG xs lo hi).length ≤ xs.length := by
  unfold cutG
  rw [List.length_take, List.length_drop]
  omega
theorem sIx_none' (n d : Nat) : HT.sIx n d none = d := HT.sIx_none n d
theorem cut_upto {α : Type} (xs : List α) (k : Nat) : cutG xs none (some (k : Int)) = xs.take k := by
  unfold cutG
  rw [HT.sIx_none, HT.sIx_nat]
  simp
theorem cut_from {α : Type} (xs : List α) (k : Nat) : cutG xs (some (k : Int)) none = xs.drop k := by
  unfold cutG
  rw [HT.sIx_none, HT.sIx_nat]
  rw [List.take_of_length_le (by rw [List.length_drop]; omega)]
  by_cases h : k ≤ xs.length
  · rw [Nat.min_eq_left h]
  · rw [Nat.min_eq_right (by omega), List.drop_eq_nil_of_le (Nat.le_refl _), List.drop_eq_nil_of_le (by omega)]
theorem spec__law_cells : ∀ ds R RX, sp__law_cells ds R RX → ds.length = 2 ∧ d__law_cells (endsD [] R) (startE 9 ds) := by
  rintro _ R RX ⟨steps, s, rfl, hs, ok, h⟩
  refine ⟨rfl, ?_⟩
  have hm := ok.many
  have c1 : CMul 2 (steps.length : Int) := cmul_l (by omega) (by omega)
  by_cases h0 : steps.length = 0
  · have : steps = [] := List.length_eq_zero_iff.mp h0
    subst this
    have e60 := cut_upto (s.map D.int) 60
    have z60 : (0 : Nat) ≤ sizeLine := Nat.zero_le _
    simp [d__law_cells, toD, cmul_l, dec_int, scal] at e60 ⊢
    rw [e60]
    rw [← List.map_take]
    refine lcD_map (h := fun _ => .lst []) (by simp) (le1000 (by simp; omega)) (fun x hx => rfl) (fun x hx N hN => ?_) ?_
    · simp
      exact hN _ (by simp)
    · simp
      have := h ((s.take 60).map fun _ => []) (by simp; omega) ⟨by simp; omega, fun row hr => by
        obtain ⟨_, _, rfl⟩ := List.mem_map.mp hr
        exact ⟨rfl, fun c hc => by simp at hc⟩⟩
      simpa [toD, Function.comp_def] using this
  · have hne : ¬ steps = [] := fun e => h0 (by rw [e]; rfl)
    obtain ⟨q, hq⟩ : ∃ q : Nat, mnI 60 ((s.length : Int) / (2 * (steps.length : Int))) = q := ⟨(mnI 60 ((s.length : Int) / (2 * (steps.length : Int)))).toNat, by
      rw [mnI_eq]
      have : 0 ≤ (s.length : Int) / (2 * (steps.length : Int)) := Int.ediv_nonneg (by omega) (by omega)
      omega⟩
    have hq60 : q ≤ 60 := by rw [mnI_eq] at hq; omega
    have hqs : q * (2 * steps.length) ≤ s.length := by
      rw [mnI_eq] at hq
      have e1 : (q : Int) ≤ (s.length : Int) / (2 * (steps.length : Int)) := by omega
      have e2 := Int.mul_le_of_le_ediv (by omega : (0 : Int) < 2 * (steps.length : Int)) e1
      have e3 : ((q * (2 * steps.length) : Nat) : Int) = (q : Int) * (2 * (steps.length : Int)) := by simp
      omega
    have cw : CDivW (s.length : Int) (2 * (steps.length : Int)) := cdivw (by omega) (by omega)
    simp [d__law_cells, toD, c1, dec_int, scal, hne, cw]
    rw [hq]
    split
    · rename_i hc
      omega
    refine ⟨by omega, by omega, ?_⟩
    simp
    refine forD_rng (fun i e => ∃ (cells : List (List (Int × Int))), cells.length = i ∧ CellsOk steps cells ∧ ∃ b c d f g, e = [some (D.lst (steps.map fun xs => D.lst (xs.map D.int))), some (.lst (s.map .int)), some (.int (2 * steps.length)), some (.mt (cells.map toD)), b, c, d, f, g]) ⟨[], rfl, ⟨by simp, by simp⟩, by simp⟩ ?_ ?_
    · rintro i e N hi ⟨cells, h1, h2, b, c, d, f, g, rfl⟩ hN
      simp
      refine ⟨by omega, ?_⟩
      refine forD_rng (fun t e => ∃ (row : List (Int × Int)), row.length = t ∧ (∀ c ∈ row, 0 ≤ c.1 ∧ c.1 ≤ c.2) ∧ ∃ d f g, e = [some (D.lst (steps.map fun xs => D.lst (xs.map D.int))), some (.lst (s.map .int)), some (.int (2 * steps.length)), some (.mt (cells.map toD)), some (.int i), some (.mt (row.map toD)), d, f, g]) ⟨[], rfl, by simp, by simp⟩ ?_ ?_
      · rintro t e N ht ⟨row, g1, g2, d, f, g, rfl⟩ hN
        have hS : steps[t]? = some steps[t] := List.getElem?_eq_getElem ht
        have cm1 : CMul (i : Int) (2 * (steps.length : Int)) := cmul_l (by omega) (by omega)
        have cm2 : CMul 2 (t : Int) := cmul_l (by omega) (by omega)
        obtain ⟨at_, hat⟩ : ∃ a : Nat, (i : Int) * (2 * (steps.length : Int)) + 2 * (t : Int) = a := ⟨i * (2 * steps.length) + 2 * t, by simp⟩
        have hat2 : at_ + 1 < s.length := by
          have e1 : at_ = i * (2 * steps.length) + 2 * t := by
            have e3 : ((i * (2 * steps.length) : Nat) : Int) = (i : Int) * (2 * (steps.length : Int)) := by simp
            omega
          have e2 : (i + 1) * (2 * steps.length) ≤ q * (2 * steps.length) := Nat.mul_le_mul_right _ (by omega)
          rw [Nat.add_mul, Nat.one_mul] at e2
          omega
        have hA : s[at_]? = some s[at_] := List.getElem?_eq_getElem (by omega)
        have hB : s[at_ + 1]? = some s[at_ + 1] := List.getElem?_eq_getElem (by omega)
        have eB := atI_at (f := D.int) hB
        simp at eB
        have hsz : row.length < sizeLine := small1000 (by omega)
        simp [cm1, cm2]
        rw [hat]
        simp [atI_at hA, eB, atI_at hS]
        refine ⟨steps[t], _, _, by simp [toD]; exact ⟨rfl, rfl⟩, (ok.rise _ (List.getElem_mem ht)).1, (ok.rise _ (List.getElem_mem ht)).2, fun c c0 c1 c2 => ?_⟩
        simp [hsz]
        exact hN _ ⟨row ++ [c], by simp [g1], fun x hx => by
          rcases List.mem_append.mp hx with hx | hx
          · exact g2 x hx
          · rw [List.mem_singleton] at hx; subst hx; exact ⟨c0, c1⟩, by simp⟩
      · rintro e ⟨row, g1, g2, d, f, g, rfl⟩
        have hsz : cells.length < sizeLine := small1000 (by omega)
        simp [hsz]
        exact hN _ ⟨cells ++ [row], by simp [h1], ⟨by simp; omega, fun r hr => by
          rcases List.mem_append.mp hr with hr | hr
          · exact h2.row r hr
          · rw [List.mem_singleton] at hr; subst hr; exact ⟨g1, g2⟩⟩, by simp [toD]⟩
    · rintro e ⟨cells, h1, h2, b, c, d, f, g, rfl⟩
      simp
      simpa [toD] using h cells (by omega) h2
end DL

/-! ## M33h.lean -/
namespace DL
open PySem PySem.Spec PyProof.Rows L2
open Dat (toD)
def d_spoiling : DTS := (dSeq (dAsg (dFix [] (dCall sp_greatest_steps [] (dCons (dVar 0) (dCons (dOp oIxT (dVar 2) (dC (.int 0))) dNil)))) (gN [] 3))
  (dSeq (dAsg (dFix [] (dCall sp_greatest_steps [] (dCons (dVar 0) (dCons (dOp oIxT (dVar 2) (dC (.int 1))) dNil)))) (gN [] 4))
  (dSeq (dFor (iE (dCons (dVar 1) dNil)) (gT 2 (gsCons (gN [] 5) (gsCons (gN [] 6) gsNil)))
  (dSeq (dAsg (dFix [] (dCall sp_broken_worths [] (dCons (dVar 6) (dCons (dVar 3) (dCons (dVar 4) dNil))))) (gN [] 7))
  (dIfS (dTest (dOp (oIsN true) (dVar 7) (dC .non))) (dSeq (dAsg (dLc (iL (dVar 1)) (gN [] 9) dYes (dFix [] (dLc (iL (dVar 9)) (gN [] 10) dYes (dOp oIxT (dVar 10) (dC (.int 0))) [10])) [9]) (gN [] 8))
  (dSeq (dAsg (dVar 7) (gSetL (dVar 8) (dVar 5)))
  (dRet (dMove [] 8)))) dNext)))
  (dRet (dC .non)))))
def sp_spoiling : DSp := fun ds R _ => ∃ (steps : List (List Int)) (cells : List (List (Int × Int))) (a b : Nat), ds = [toD steps, toD cells, .tup [.int a, .int b]] ∧ StepsOk steps ∧ CellsOk steps cells ∧
  ((∀ row ∈ cells, bw row (gs a steps 0) (gs b steps 0) = none) → R .non []) ∧
  (∀ (i : Nat) row ws, cells[i]? = some row → bw row (gs a steps 0) (gs b steps 0) = some ws → R (.mt (((cells.map lows).set i ws).map toD)) [])
theorem spec_spoiling : ∀ ds R RX, sp_spoiling ds R RX → ds.length = 3 ∧ d_spoiling (endsD [] R) (startE 11 ds) := by
  rintro _ R RX ⟨steps, cells, a, b, rfl, so, co, h1, h2⟩
  refine ⟨rfl, ?_⟩
  have sm := so.many
  simp [d_spoiling, toD]
  refine ⟨steps, a, by simp [toD], sm, ?_⟩
  simp
  refine ⟨steps, b, by simp [toD], sm, ?_⟩
  simp
  refine forD_enum (f := fun xs : List (Int × Int) => D.lst (xs.map fun p => D.tup [D.int p.fst, D.int p.snd])) (fun i e => (∀ row ∈ cells.take i, bw row (gs a steps 0) (gs b steps 0) = none) ∧ ∃ q r s t, e = [some (D.lst (steps.map fun xs => D.lst (xs.map D.int))),
    some (D.lst (cells.map fun xs => D.lst (xs.map fun p => D.tup [D.int p.fst, D.int p.snd]))), some (.tup [.int a, .int b]), some (.lst ((gs a steps 0).map .int)), some (.lst ((gs b steps 0).map .int)), q, r, s, t, none, none]) ⟨by simp, _, _, _, _, rfl⟩ ?_ ?_
  · rintro i row e N hx ⟨hq, q, r, s, t, rfl⟩ hN
    have hi : i < cells.length := (List.getElem?_eq_some_iff.mp hx).1
    have hmem := List.mem_of_getElem? hx
    have hrl := (co.row row hmem).1
    simp
    refine ⟨row, gs a steps 0, gs b steps 0, by simp [toD], by omega, by rw [gs_len, hrl], by rw [gs_len, hrl], ?_⟩
    cases hb : bw row (gs a steps 0) (gs b steps 0) with
    | none =>
      simp [oD]
      exact hN _ ⟨fun r hr => by
        rw [take_snoc hx] at hr
        rcases List.mem_append.mp hr with hr | hr
        · exact hq r hr
        · rw [List.mem_singleton] at hr; subst hr; exact hb, by simp⟩
    | some ws =>
      simp [oD]
      refine lcD_map (h := fun row : List (Int × Int) => .lst (row.map fun p => .int p.1)) (by simp) (le1000 (by have := co.many; omega)) (fun x hx => rfl) (fun x hx N hN => ?_) ?_
      · simp
        refine lcD_map (h := fun p : Int × Int => .int p.1) (by simp) (le1000 (by have := (co.row x hx).1; omega)) (fun x hx => rfl) (fun y hy N hN => ?_) ?_
        · simp
          exact hN _ (by simp)
        · simp
          exact hN _ (by simp)
      · have hix : ixN cells.length (i : Int) = some i := by unfold ixN; rw [if_pos (by omega), if_pos (by omega)]; simp
        simp [hix]
        have := h2 i row ws hx hb
        rw [List.map_set, List.map_map] at this
        simpa [toD, lows, Function.comp_def] using this
  · rintro e ⟨hq, q, r, s, t, rfl⟩
    rw [List.take_length] at hq
    simpa using h1 hq
def d_sure : DTS := (dRet (dOp (oIsN false) (dCall sp_spoiling [] (dCons (dVar 0) (dCons (dVar 1) (dCons (dVar 2) dNil)))) (dC .non)))
def sp_sure : DSp := fun ds R _ => ∃ (steps : List (List Int)) (cells : List (List (Int × Int))) (a b : Nat), ds = [toD steps, toD cells, .tup [.int a, .int b]] ∧ StepsOk steps ∧ CellsOk steps cells ∧
  ((∀ row ∈ cells, bw row (gs a steps 0) (gs b steps 0) = none) → R (.bl true) []) ∧ (∀ row ∈ cells, bw row (gs a steps 0) (gs b steps 0) ≠ none → R (.bl false) [])
theorem spec_sure : ∀ ds R RX, sp_sure ds R RX → ds.length = 3 ∧ d_sure (endsD [] R) (startE 3 ds) := by
  rintro _ R RX ⟨steps, cells, a, b, rfl, so, co, h1, h2⟩
  refine ⟨rfl, ?_⟩
  simp [d_sure, toD]
  refine ⟨steps, cells, a, b, by simp [toD], so, co, fun h => ?_, fun i row ws hx hb => ?_⟩
  · simpa using h1 h
  · simpa using h2 row (List.mem_of_getElem? hx) (by rw [hb]; simp)
theorem in_lows {steps : List (List Int)} {cells : List (List (Int × Int))} (co : CellsOk steps cells) : InCells cells (cells.map lows) where
  len := by simp
  row := fun i ws row h1 h2 => by
    rw [List.getElem?_map, h2] at h1
    cases h1
    refine ⟨by simp [lows], fun t w c h3 h4 => ?_⟩
    unfold lows at h3
    rw [List.getElem?_map, h4] at h3
    cases h3
    exact ⟨Int.le_refl _, ((co.row row (List.mem_of_getElem? h2)).2 c (List.mem_of_getElem? h4)).2⟩
theorem in_highs {steps : List (List Int)} {cells : List (List (Int × Int))} (co : CellsOk steps cells) : InCells cells (cells.map highs) where
  len := by simp
  row := fun i ws row h1 h2 => by
    rw [List.getElem?_map, h2] at h1
    cases h1
    refine ⟨by simp [highs], fun t w c h3 h4 => ?_⟩
    unfold highs at h3
    rw [List.getElem?_map, h4] at h3
    cases h3
    exact ⟨((co.row row (List.mem_of_getElem? h2)).2 c (List.mem_of_getElem? h4)).2, Int.le_refl _⟩
def RowIn (row : List (Int × Int)) (ws : List Int) : Prop := ws.length = row.length ∧ ∀ (t : Nat) w c, ws[t]? = some w → row[t]? = some c → c.1 ≤ w ∧ w ≤ c.2
theorem RowIn.snoc {row : List (Int × Int)} {ws : List Int} {w : Int} {c : Int × Int} (h : RowIn row ws) (h1 : c.1 ≤ w) (h2 : w ≤ c.2) : RowIn (row ++ [c]) (ws ++ [w]) := by
  refine ⟨by simp [h.1], fun t w' c' e1 e2 => ?_⟩
  by_cases ht : t < ws.length
  · rw [List.getElem?_append_left ht] at e1
    rw [List.getElem?_append_left (by rw [← h.1]; exact ht)] at e2
    exact h.2 t w' c' e1 e2
  · have : t = ws.length := by
      have := (List.getElem?_eq_some_iff.mp e1).1
      simp at this; omega
    subst this
    rw [List.getElem?_append_right (Nat.le_refl _), Nat.sub_self] at e1
    rw [List.getElem?_append_right (by rw [h.1]; exact Nat.le_refl _), h.1, Nat.sub_self] at e2
    cases e1; cases e2
    exact ⟨h1, h2⟩
end DL

/-! ## M33i.lean -/
namespace DL
open PySem PySem.Spec PyProof.Rows L2
open Dat (toD)
def hitR (w : Int) : List Int → Nat → Nat → Prop
  | [], _, _ => False
  | s :: r, k, j => (j = k ∧ s ≤ w) ∨ hitR w r (k + 1) j
def hitC : List (List Int) → List Int → Nat → Nat → Prop
  | row :: r, w :: ws, k, j => hitR w row k j ∨ hitC r ws (k + row.length) j
  | _, _, _, _ => False
theorem hitR_ge {w : Int} : ∀ {row : List Int} {k j : Nat}, hitR w row k j → k ≤ j ∧ j < k + row.length
  | [], _, _, h => h.elim
  | s :: r, k, j, h => by
    rcases h with ⟨rfl, _⟩ | h
    · exact ⟨Nat.le_refl _, by simp⟩
    · have := hitR_ge h; simp; omega
theorem hitC_ge : ∀ {steps : List (List Int)} {ws : List Int} {k j : Nat}, hitC steps ws k j → k ≤ j
  | [], _, _, _, h => h.elim
  | _ :: _, [], _, _, h => h.elim
  | row :: r, w :: ws, k, j, h => by
    rcases h with h | h
    · exact (hitR_ge h).1
    · have := hitC_ge h; omega
theorem rowm_bit (w : Int) (j : Nat) : ∀ (row : List Int) (k m : Nat), (rowm w row k m).testBit j = true ↔ (m.testBit j = true ∨ hitR w row k j)
  | [], k, m => by simp [rowm, hitR]
  | s :: r, k, m => by
    rw [rowm, rowm_bit w j r (k + 1)]
    by_cases hs : s ≤ w
    · rw [if_pos hs, Nat.testBit_or, Nat.testBit_two_pow, Bool.or_eq_true, decide_eq_true_eq]
      simp only [hitR, hs, and_true]
      rw [or_assoc, @eq_comm Nat k j]
    · rw [if_neg hs]
      simp only [hitR, hs, and_false, false_or]
theorem colm_bit (j : Nat) : ∀ (steps : List (List Int)) (ws : List Int) (k m : Nat), (colm steps ws k m).testBit j = true ↔ (m.testBit j = true ∨ hitC steps ws k j)
  | [], _, k, m => by simp [colm, hitC]
  | _ :: _, [], k, m => by simp [colm, hitC]
  | row :: r, w :: ws, k, m => by
    rw [colm, colm_bit j r ws, rowm_bit w j row, or_assoc]
    rfl
/-- the bits of m in a row are hit -/
theorem lastSet_le (m : Nat) (w : Int) : ∀ (row : List Int) (k : Nat) (most : Int), row.Pairwise (· < ·) → (∀ s ∈ row, most ≤ s) → (lastSet m row k most ≤ w ↔ most ≤ w ∧ ∀ j, k ≤ j → j < k + row.length → m.testBit j = true → hitR w row k j)
  | [], k, most, _, _ => by simp [lastSet]; omega
  | s :: r, k, most, hp, hm => by
    have hp' := List.pairwise_cons.mp hp
    have h1 := hm s (List.mem_cons_self ..)
    rw [lastSet]
    by_cases hb : m.testBit k = true
    · rw [if_pos hb, lastSet_le m w r (k + 1) s hp'.2 fun x hx => Int.le_of_lt (hp'.1 x hx)]
      constructor
      · rintro ⟨g1, g2⟩
        refine ⟨Int.le_trans h1 g1, fun j j1 j2 j3 => ?_⟩
        by_cases e : j = k
        · exact .inl ⟨e, g1⟩
        · exact .inr (g2 j (by omega) (by simp at j2; omega) j3)
      · rintro ⟨g1, g2⟩
        constructor
        · rcases g2 k (Nat.le_refl _) (by simp) hb with ⟨_, q⟩ | q
          · exact q
          · have := hitR_ge q; omega
        · intro j j1 j2 j3
          rcases g2 j (by omega) (by simp; omega) j3 with ⟨q, _⟩ | q
          · omega
          · exact q
    · rw [if_neg hb, lastSet_le m w r (k + 1) most hp'.2 fun x hx => hm x (List.mem_cons_of_mem _ hx)]
      constructor
      · rintro ⟨g1, g2⟩
        refine ⟨g1, fun j j1 j2 j3 => ?_⟩
        by_cases e : j = k
        · subst e; exact absurd j3 hb
        · exact .inr (g2 j (by omega) (by simp at j2; omega) j3)
      · rintro ⟨g1, g2⟩
        refine ⟨g1, fun j j1 j2 j3 => ?_⟩
        rcases g2 j (by omega) (by simp; omega) j3 with ⟨q, _⟩ | q
        · omega
        · exact q
theorem gs_le (m : Nat) : ∀ (steps : List (List Int)) (ws : List Int) (k : Nat), ws.length = steps.length → (∀ row ∈ steps, row ≠ [] ∧ Rise row) → (∀ w ∈ ws, 0 ≤ w) →
    (leL (gs m steps k) ws = true ↔ ∀ j, k ≤ j → j < k + wid steps → m.testBit j = true → hitC steps ws k j)
  | [], ws, k, _, _, _ => by simp [gs, leL, wid]; intros; omega
  | _ :: _, [], _, h, _, _ => by simp at h
  | row :: r, w :: ws, k, h, hr, hw => by
    have r1 := (hr row (List.mem_cons_self ..)).2
    have w0 := hw w (List.mem_cons_self ..)
    rw [gs, leL, Bool.and_eq_true, decide_eq_true_eq, lastSet_le m w row k 0 r1.pw fun s hs => by have := r1.lo s hs; omega,
      gs_le m r ws (k + row.length) (by simpa using h) (fun x hx => hr x (List.mem_cons_of_mem _ hx)) fun x hx => hw x (List.mem_cons_of_mem _ hx)]
    constructor
    · rintro ⟨⟨_, g1⟩, g2⟩ j j1 j2 j3
      by_cases e : j < k + row.length
      · exact .inl (g1 j j1 e j3)
      · exact .inr (g2 j (by omega) (by simp [wid] at j2; omega) j3)
    · intro g
      refine ⟨⟨w0, fun j j1 j2 j3 => ?_⟩, fun j j1 j2 j3 => ?_⟩
      · rcases g j j1 (by simp [wid]; omega) j3 with q | q
        · exact q
        · have := hitC_ge q; omega
      · rcases g j (by omega) (by simp [wid]; omega) j3 with q | q
        · have := (hitR_ge q).2; omega
        · exact q
theorem and_eq_iff (a M : Nat) : a &&& M = a ↔ ∀ j, a.testBit j = true → M.testBit j = true := by
  constructor
  · intro h j hj
    rw [← h, Nat.testBit_and, Bool.and_eq_true] at hj
    exact hj.2
  · intro h
    apply Nat.eq_of_testBit_eq
    intro j
    rw [Nat.testBit_and]
    cases q : a.testBit j with
    | false => rfl
    | true => rw [h j q]; rfl
theorem holds_iff {steps : List (List Int)} {ws : List Int} {a : Nat} (h : ws.length = steps.length) (hr : ∀ row ∈ steps, row ≠ [] ∧ Rise row) (hw : ∀ w ∈ ws, 0 ≤ w) (ha : a < 2 ^ wid steps) :
    a &&& colm steps ws 0 0 = a ↔ leL (gs a steps 0) ws = true := by
  rw [and_eq_iff, gs_le a steps ws 0 h hr hw]
  constructor
  · intro g j j1 j2 j3
    have := g j j3
    rw [colm_bit] at this
    rcases this with q | q
    · simp at q
    · exact q
  · intro g j j3
    rw [colm_bit]
    refine .inr (g j (Nat.zero_le _) ?_ j3)
    rw [Nat.zero_add]
    apply Decidable.byContradiction
    intro hc
    have := Nat.testBit_lt_two_pow (Nat.lt_of_lt_of_le ha (Nat.pow_le_pow_right (by omega) (Nat.le_of_not_lt hc)))
    rw [this] at j3
    cases j3
theorem brk_eq {steps : List (List Int)} {ws : List Int} {a b : Nat} (h : ws.length = steps.length) (hr : ∀ row ∈ steps, row ≠ [] ∧ Rise row) (hw : ∀ w ∈ ws, 0 ≤ w) (ha : a < 2 ^ wid steps) (hb : b < 2 ^ wid steps) :
    brk (colm steps ws 0 0) a b = (leL (gs a steps 0) ws && !leL (gs b steps 0) ws) := by
  unfold brk
  have h1 := holds_iff h hr hw ha
  have h2 := holds_iff h hr hw hb
  simp only [h1, h2, Bool.decide_eq_true]
/-- all pairs of two lists -/
def RI : List (Int × Int) → List Int → Prop
  | c :: cs, w :: ws => (c.1 ≤ w ∧ w ≤ c.2) ∧ RI cs ws
  | [], [] => True
  | _, _ => False
theorem RI_of : ∀ {row : List (Int × Int)} {ws : List Int}, RI row ws → RowIn row ws
  | [], [], _ => ⟨rfl, by simp⟩
  | [], _ :: _, h => h.elim
  | _ :: _, [], h => h.elim
  | c :: cs, w :: ws, h => by
    have := RI_of h.2
    refine ⟨by simp [this.1], fun t x d h1 h2 => ?_⟩
    cases t with
    | zero => cases h1; cases h2; exact h.1
    | succ t => exact this.2 t x d h1 h2
theorem RI_iff : ∀ {row : List (Int × Int)} {ws : List Int}, RowIn row ws → RI row ws
  | [], [], _ => trivial
  | [], _ :: _, h => by have := h.1; simp at this
  | _ :: _, [], h => by have := h.1; simp at this
  | c :: cs, w :: ws, h => ⟨h.2 0 w c rfl rfl, RI_iff ⟨by have := h.1; simpa using this, fun t x d h1 h2 => h.2 (t + 1) x d h1 h2⟩⟩
theorem ws_in : ∀ (row : List (Int × Int)) (as : List Int), row.length = as.length → (∀ c ∈ row, c.1 ≤ c.2) → fits row as = true → RI row (wsOf row as) ∧ leL as (wsOf row as) = true
  | [], [], _, _, _ => ⟨trivial, rfl⟩
  | [], _ :: _, h, _, _ => by simp at h
  | _ :: _, [], h, _, _ => by simp at h
  | c :: cs, a :: as, h, hc, hf => by
    simp only [fits, Bool.and_eq_true, Bool.not_eq_true', decide_eq_false_iff_not] at hf
    obtain ⟨g1, g2⟩ := ws_in cs as (by simpa using h) (fun x hx => hc x (List.mem_cons_of_mem _ hx)) hf.2
    have f1 := hf.1
    rw [mxI_eq] at f1
    refine ⟨⟨by rw [mxI_eq]; omega, g1⟩, ?_⟩
    simp only [wsOf, leL, Bool.and_eq_true, decide_eq_true_eq]
    rw [mxI_eq]
    exact ⟨by omega, g2⟩
theorem lack_not : ∀ (bs ws : List Int), bs.length = ws.length → lack ws bs = !leL bs ws
  | [], [], _ => rfl
  | [], _ :: _, h => by simp at h
  | _ :: _, [], h => by simp at h
  | b :: bs, w :: ws, h => by
    simp only [lack, leL]
    rw [lack_not bs ws (by simpa using h)]
    by_cases q : b ≤ w
    · have : ¬ w < b := by omega
      simp [q, this]
    · have : w < b := by omega
      simp [q, this]
/-- ahead holds in a filling: the least worths fit, and lie under it -/
theorem ahead_fits : ∀ (row : List (Int × Int)) (as xs : List Int), row.length = as.length → RI row xs → leL as xs = true → fits row as = true ∧ ∀ bs : List Int, leL bs (wsOf row as) = true → leL bs xs = true
  | [], [], [], _, _, _ => ⟨rfl, fun bs _ => by cases bs <;> rfl⟩
  | [], _ :: _, _, h, _, _ => by simp at h
  | _ :: _, [], _, h, _, _ => by simp at h
  | [], [], _ :: _, _, h, _ => h.elim
  | _ :: _, _ :: _, [], _, h, _ => h.elim
  | c :: cs, a :: as, x :: xs, h, hr, hl => by
    simp only [leL, Bool.and_eq_true, decide_eq_true_eq] at hl
    obtain ⟨g1, g2⟩ := ahead_fits cs as xs (by simpa using h) hr.2 hl.2
    have r1 := hr.1
    refine ⟨?_, fun bs hb => ?_⟩
    · simp only [fits, Bool.and_eq_true, Bool.not_eq_true', decide_eq_false_iff_not]
      rw [mxI_eq]
      exact ⟨by omega, g1⟩
    · cases bs with
      | nil => rfl
      | cons b bs =>
        simp only [wsOf, leL, Bool.and_eq_true, decide_eq_true_eq] at hb ⊢
        rw [mxI_eq] at hb
        exact ⟨by omega, g2 bs hb.2⟩
theorem RI_pos : ∀ {row : List (Int × Int)} {ws : List Int}, RI row ws → (∀ c ∈ row, 0 ≤ c.1) → ∀ w ∈ ws, 0 ≤ w
  | [], [], _, _, _, h => by cases h
  | [], _ :: _, h, _, _, _ => h.elim
  | _ :: _, [], h, _, _, _ => h.elim
  | c :: cs, w :: ws, h, hc, x, hx => by
    rcases List.mem_cons.mp hx with rfl | hx
    · have := hc c (List.mem_cons_self ..); have := h.1; omega
    · exact RI_pos h.2 (fun d hd => hc d (List.mem_cons_of_mem _ hd)) x hx
section
variable {steps : List (List Int)} {row : List (Int × Int)} {a b : Nat} (so : StepsOk steps) (hl : row.length = steps.length) (hc : ∀ c ∈ row, 0 ≤ c.1 ∧ c.1 ≤ c.2) (ha : a < 2 ^ wid steps) (hb : b < 2 ^ wid steps)
include so hl hc ha hb
theorem bw_some {ws : List Int} (h : bw row (gs a steps 0) (gs b steps 0) = some ws) : RowIn row ws ∧ ws.length = steps.length ∧ brk (colm steps ws 0 0) a b = true := by
  unfold bw at h
  split at h
  · rename_i hf
    rw [Bool.and_eq_true] at hf
    cases h
    obtain ⟨g1, g2⟩ := ws_in row (gs a steps 0) (by rw [gs_len, hl]) (fun c hc' => (hc c hc').2) hf.1
    have e := RI_of g1
    have e1 : (wsOf row (gs a steps 0)).length = steps.length := by rw [e.1, hl]
    refine ⟨e, e1, ?_⟩
    rw [brk_eq e1 so.rise (RI_pos g1 fun c hc' => (hc c hc').1) ha hb, g2]
    have := hf.2
    rw [lack_not _ _ (by rw [gs_len, e1])] at this
    rw [this]; rfl
  · cases h
theorem bw_none {ws : List Int} (h : bw row (gs a steps 0) (gs b steps 0) = none) (hr : RowIn row ws) : brk (colm steps ws 0 0) a b = false := by
  have g := RI_iff hr
  have e1 : ws.length = steps.length := by rw [hr.1, hl]
  rw [brk_eq e1 so.rise (RI_pos g fun c hc' => (hc c hc').1) ha hb]
  cases q : leL (gs a steps 0) ws with
  | false => rfl
  | true =>
    obtain ⟨g1, g2⟩ := ahead_fits row (gs a steps 0) ws (by rw [gs_len, hl]) g q
    unfold bw at h
    rw [g1, Bool.true_and] at h
    split at h
    · cases h
    · rename_i hn
      rw [Bool.not_eq_true, lack_not _ _ (by rw [gs_len, wsOf_len _ _ (by rw [gs_len, hl]), hl]), Bool.not_eq_false'] at hn
      rw [g2 _ hn]; rfl
end
section
variable {steps : List (List Int)} {row : List (Int × Int)} {a b : Nat} (so : StepsOk steps) (hl : row.length = steps.length) (hc : ∀ c ∈ row, 0 ≤ c.1 ∧ c.1 ≤ c.2) (ha : a < 2 ^ wid steps) (hb : b < 2 ^ wid steps)
theorem RI_lows : ∀ {row : List (Int × Int)}, (∀ c ∈ row, 0 ≤ c.1 ∧ c.1 ≤ c.2) → RI row (lows row)
  | [], _ => trivial
  | c :: cs, h => ⟨⟨Int.le_refl _, (h c (List.mem_cons_self ..)).2⟩, RI_lows fun d hd => h d (List.mem_cons_of_mem _ hd)⟩
theorem RI_highs : ∀ {row : List (Int × Int)}, (∀ c ∈ row, 0 ≤ c.1 ∧ c.1 ≤ c.2) → RI row (highs row)
  | [], _ => trivial
  | c :: cs, h => ⟨⟨(h c (List.mem_cons_self ..)).2, Int.le_refl _⟩, RI_highs fun d hd => h d (List.mem_cons_of_mem _ hd)⟩
theorem leL_up : ∀ {row : List (Int × Int)} {ws gs : List Int}, RI row ws → (leL gs (lows row) = true → leL gs ws = true) ∧ (leL gs ws = true → leL gs (highs row) = true)
  | [], [], gs, _ => by cases gs <;> simp [leL, lows, highs]
  | [], _ :: _, _, h => h.elim
  | _ :: _, [], _, h => h.elim
  | c :: cs, w :: ws, [], _ => by simp [leL, lows, highs]
  | c :: cs, w :: ws, g :: gs, h => by
    obtain ⟨i1, i2⟩ := leL_up (gs := gs) h.2
    have := h.1
    simp only [lows, highs] at i1 i2
    simp only [lows, highs, List.map_cons, leL, Bool.and_eq_true, decide_eq_true_eq]
    exact ⟨fun q => ⟨by omega, i1 q.2⟩, fun q => ⟨by omega, i2 q.2⟩⟩
include so hl hc ha hb
theorem kw_some {ws : List Int} (h : kw row (gs a steps 0) (gs b steps 0) = some ws) : RowIn row ws ∧ ws.length = steps.length ∧ brk (colm steps ws 0 0) a b = false := by
  unfold kw at h
  split at h
  · rename_i hf
    cases h
    have g := RI_lows hc
    have e := RI_of g
    have e1 : (lows row).length = steps.length := by rw [e.1, hl]
    refine ⟨e, e1, ?_⟩
    rw [brk_eq e1 so.rise (RI_pos g fun c hc' => (hc c hc').1) ha hb, hf]; rfl
  · split at h
    · rename_i hf
      cases h
      have g := RI_highs hc
      have e := RI_of g
      have e1 : (highs row).length = steps.length := by rw [e.1, hl]
      refine ⟨e, e1, ?_⟩
      rw [brk_eq e1 so.rise (RI_pos g fun c hc' => (hc c hc').1) ha hb, hf]; simp
    · cases h
theorem kw_none {ws : List Int} (h : kw row (gs a steps 0) (gs b steps 0) = none) (hr : RowIn row ws) : brk (colm steps ws 0 0) a b = true := by
  have g := RI_iff hr
  have e1 : ws.length = steps.length := by rw [hr.1, hl]
  rw [brk_eq e1 so.rise (RI_pos g fun c hc' => (hc c hc').1) ha hb]
  unfold kw at h
  split at h
  · cases h
  · rename_i h1
    split at h
    · cases h
    · rename_i h2
      rw [(leL_up g).1 (by simpa using h1)]
      cases q : leL (gs b steps 0) ws with
      | false => rfl
      | true => exact absurd ((leL_up g).2 q) h2
end
def d_mending : DTS := (dSeq (dAsg (dFix [] (dCall sp_greatest_steps [] (dCons (dVar 0) (dCons (dOp oIxT (dVar 2) (dC (.int 0))) dNil)))) (gN [] 3))
  (dSeq (dAsg (dFix [] (dCall sp_greatest_steps [] (dCons (dVar 0) (dCons (dOp oIxT (dVar 2) (dC (.int 1))) dNil)))) (gN [] 4))
  (dSeq (dAsg (dLst dNil) (gN [] 5))
  (dSeq (dFor (iL (dVar 1)) (gN [] 6)
  (dSeq (dAsg (dFix [] (dCall sp_kept_worths [] (dCons (dVar 6) (dCons (dVar 3) (dCons (dVar 4) dNil))))) (gN [] 7))
  (dSeq (dIfS (dTest (dOp (oIsN false) (dVar 7) (dC .non))) (dRet (dC .non)) dNext)
  (dDrop (dBM "list" mAppend (dVar 5) (dCons (dVar 7) dNil))))))
  (dRet (dMove [] 5))))))
def sp_mending : DSp := fun ds R _ => ∃ (steps : List (List Int)) (cells : List (List (Int × Int))) (a b : Nat), ds = [toD steps, toD cells, .tup [.int a, .int b]] ∧ StepsOk steps ∧ CellsOk steps cells ∧
  ((∃ row ∈ cells, kw row (gs a steps 0) (gs b steps 0) = none) → R .non []) ∧
  (∀ f : List (List Int), cells.map (fun row => kw row (gs a steps 0) (gs b steps 0)) = f.map some → R (.mt (f.map toD)) [])
theorem spec_mending : ∀ ds R RX, sp_mending ds R RX → ds.length = 3 ∧ d_mending (endsD [] R) (startE 8 ds) := by
  rintro _ R RX ⟨steps, cells, a, b, rfl, so, co, h1, h2⟩
  refine ⟨rfl, ?_⟩
  have sm := so.many
  have cm := co.many
  simp [d_mending, toD]
  refine ⟨steps, a, by simp [toD], sm, ?_⟩
  simp
  refine ⟨steps, b, by simp [toD], sm, ?_⟩
  simp
  refine forD_of (fun i e => ∃ f : List (List Int), (cells.take i).map (fun row => kw row (gs a steps 0) (gs b steps 0)) = f.map some ∧ ∃ q r, e = [some (D.lst (steps.map fun xs => D.lst (xs.map D.int))),
    some (D.lst (cells.map fun xs => D.lst (xs.map fun p => D.tup [D.int p.fst, D.int p.snd]))), some (.tup [.int a, .int b]), some (.lst ((gs a steps 0).map .int)), some (.lst ((gs b steps 0).map .int)), some (.mt (f.map fun ws => .lst (ws.map .int))), q, r]) ⟨[], by simp, _, _, rfl⟩ ?_ ?_
  · rintro i row e N hx ⟨f, hf, q, r, rfl⟩ hN
    have hi : i < cells.length := (List.getElem?_eq_some_iff.mp hx).1
    have hmem := List.mem_of_getElem? hx
    have hrl := (co.row row hmem).1
    have hfl : f.length = i := by have := congrArg List.length hf; simp at this; omega
    have hsz : f.length < sizeLine := small1000 (by omega)
    simp
    refine ⟨row, gs a steps 0, gs b steps 0, by simp [toD], by omega, by rw [gs_len, hrl], by rw [gs_len, hrl], ?_⟩
    cases hb : kw row (gs a steps 0) (gs b steps 0) with
    | none =>
      simp [oD]
      exact h1 ⟨row, hmem, hb⟩
    | some ws =>
      simp [oD, hsz]
      exact hN _ ⟨f ++ [ws], by rw [take_snoc hx, List.map_append, hf, List.map_append, List.map_singleton, hb]; rfl, by simp⟩
  · rintro e ⟨f, hf, q, r, rfl⟩
    rw [List.take_length] at hf
    simp
    simpa [toD] using h2 f hf
end DL

/-! ## M33k.lean -/
namespace DL
open PySem PySem.Spec PyProof.Rows L2
open Dat (toD)
/-! ### sets of columns a thing may have -/
def partN (at_ : Nat) : Nat → Nat
  | 0 => 0
  | k + 1 => partN at_ k ||| 2 ^ (at_ + k)
theorem partN_bit (at_ j : Nat) : ∀ k, (partN at_ k).testBit j = true ↔ at_ ≤ j ∧ j < at_ + k
  | 0 => by simp [partN]
  | k + 1 => by
    rw [partN, Nat.testBit_or, Bool.or_eq_true, partN_bit at_ j k, Nat.testBit_two_pow, decide_eq_true_eq]
    omega
theorem hitR_iff {w : Int} : ∀ {st : List Int} {k j : Nat}, hitR w st k j ↔ ∃ i s, st[i]? = some s ∧ j = k + i ∧ s ≤ w
  | [], k, j => by simp [hitR]
  | s :: r, k, j => by
    rw [hitR, hitR_iff]
    constructor
    · rintro (⟨rfl, h⟩ | ⟨i, x, h1, h2, h3⟩)
      · exact ⟨0, s, rfl, rfl, h⟩
      · exact ⟨i + 1, x, h1, by omega, h3⟩
    · rintro ⟨i, x, h1, h2, h3⟩
      cases i with
      | zero => cases h1; exact .inl ⟨h2, h3⟩
      | succ i => exact .inr ⟨i, x, h1, by omega, h3⟩
/-- w reaches just the first k steps -/
def Cnt (st : List Int) (w : Int) (k : Nat) : Prop := k ≤ st.length ∧ ∀ i s, st[i]? = some s → (s ≤ w ↔ i < k)
theorem rowm_cnt {st : List Int} {w : Int} {k : Nat} (h : Cnt st w k) (at_ m : Nat) : rowm w st at_ m = m ||| partN at_ k := by
  apply Nat.eq_of_testBit_eq
  intro j
  rw [Bool.eq_iff_iff, rowm_bit, Nat.testBit_or, Bool.or_eq_true, partN_bit, hitR_iff]
  refine or_congr Iff.rfl ⟨?_, ?_⟩
  · rintro ⟨i, s, h1, h2, h3⟩
    have := (h.2 i s h1).mp h3
    omega
  · rintro ⟨h1, h2⟩
    have hi : j - at_ < st.length := by have := h.1; omega
    exact ⟨j - at_, st[j - at_], List.getElem?_eq_getElem hi, by omega, (h.2 _ _ (List.getElem?_eq_getElem hi)).mpr (by omega)⟩
theorem cnt_ex (w : Int) : ∀ {st : List Int}, st.Pairwise (· < ·) → ∃ k, Cnt st w k
  | [], _ => ⟨0, Nat.le_refl _, by simp⟩
  | s :: r, h => by
    have hp := List.pairwise_cons.mp h
    by_cases hs : s ≤ w
    · obtain ⟨k, h1, h2⟩ := cnt_ex w hp.2
      refine ⟨k + 1, by simp; omega, fun i x hx => ?_⟩
      cases i with
      | zero => cases hx; simp [hs]
      | succ i => rw [h2 i x hx]; omega
    · refine ⟨0, Nat.zero_le _, fun i x hx => ?_⟩
      cases i with
      | zero => cases hx; simp; omega
      | succ i =>
        have := hp.1 x (List.mem_of_getElem? hx)
        simp; omega
/-- the k that a cell may reach -/
def okK (st : List Int) (c : Int × Int) (k : Nat) : Bool := (decide (k = st.length) || (match st[k]? with | some s => decide (c.1 < s) | none => false)) && (decide (k = 0) || (match st[k - 1]? with | some s => decide (s ≤ c.2) | none => false))
theorem ok_of {st : List Int} {c : Int × Int} {w : Int} {k : Nat} (h : Cnt st w k) (h1 : c.1 ≤ w) (h2 : w ≤ c.2) : okK st c k = true := by
  unfold okK
  rw [Bool.and_eq_true, Bool.or_eq_true, Bool.or_eq_true, decide_eq_true_eq, decide_eq_true_eq]
  have := h.1
  constructor
  · by_cases e : k = st.length
    · exact .inl e
    · have hk : k < st.length := by omega
      have := h.2 k _ (List.getElem?_eq_getElem hk)
      rw [List.getElem?_eq_getElem hk]
      refine .inr ?_
      simp; omega
  · by_cases e : k = 0
    · exact .inl e
    · have hk : k - 1 < st.length := by omega
      have := (h.2 (k - 1) _ (List.getElem?_eq_getElem hk)).mpr (by omega)
      rw [List.getElem?_eq_getElem hk]
      refine .inr ?_
      simp; omega
theorem rise_le {st : List Int} (h : st.Pairwise (· < ·)) {i j : Nat} {x y : Int} (h1 : st[i]? = some x) (h2 : st[j]? = some y) (hij : i ≤ j) : x ≤ y := by
  by_cases e : i = j
  · subst e; rw [h1] at h2; cases h2; exact Int.le_refl _
  · obtain ⟨hi, rfl⟩ := List.getElem?_eq_some_iff.mp h1
    obtain ⟨hj, rfl⟩ := List.getElem?_eq_some_iff.mp h2
    have := List.pairwise_iff_getElem.mp h i j hi hj (by omega)
    omega
theorem of_ok {st : List Int} (hp : st.Pairwise (· < ·)) {c : Int × Int} {k : Nat} (hc : c.1 ≤ c.2) (hk : k ≤ st.length) (h : okK st c k = true) : ∃ w, c.1 ≤ w ∧ w ≤ c.2 ∧ Cnt st w k := by
  unfold okK at h
  rw [Bool.and_eq_true, Bool.or_eq_true, Bool.or_eq_true, decide_eq_true_eq, decide_eq_true_eq] at h
  have up : k < st.length → ∀ i s, k ≤ i → st[i]? = some s → c.1 < s := by
    intro hlt i s hi hs
    have h1 := h.1
    rw [List.getElem?_eq_getElem hlt] at h1
    rcases h1 with h1 | h1
    · omega
    · simp at h1
      have := rise_le hp (List.getElem?_eq_getElem hlt) hs hi
      omega
  by_cases e : k = 0
  · subst e
    refine ⟨c.1, Int.le_refl _, hc, Nat.zero_le _, fun i s hs => ?_⟩
    have := up (by have := (List.getElem?_eq_some_iff.mp hs).1; omega) i s (Nat.zero_le _) hs
    omega
  · have hlt : k - 1 < st.length := by omega
    have h2 := h.2
    rw [List.getElem?_eq_getElem hlt] at h2
    have h3 : st[k - 1] ≤ c.2 := by
      rcases h2 with h2 | h2
      · omega
      · simpa using h2
    refine ⟨max c.1 st[k - 1], by omega, by omega, hk, fun i s hs => ?_⟩
    constructor
    · intro hle
      apply Decidable.byContradiction
      intro hc2
      have hi := (List.getElem?_eq_some_iff.mp hs).1
      have g1 := up (by omega) i s (by omega) hs
      have g2 : st[k - 1] < s := by
        obtain ⟨hi, rfl⟩ := List.getElem?_eq_some_iff.mp hs
        exact List.pairwise_iff_getElem.mp hp (k - 1) i hlt hi (by omega)
      omega
    · intro hik
      have := rise_le hp hs (List.getElem?_eq_getElem hlt) (by omega)
      omega
def partsN (st : List Int) (c : Int × Int) (at_ n : Nat) : List Nat := ((List.range n).filter (okK st c)).map (partN at_)
theorem partsN_succ (st : List Int) (c : Int × Int) (at_ n : Nat) : partsN st c at_ (n + 1) = if okK st c n = true then partsN st c at_ n ++ [partN at_ n] else partsN st c at_ n := by
  unfold partsN
  rw [List.range_succ, List.filter_append, List.map_append]
  split
  · rename_i h; simp [h]
  · rename_i h; simp [h]
theorem partsN_len (st : List Int) (c : Int × Int) (at_ n : Nat) : (partsN st c at_ n).length ≤ n := by
  unfold partsN
  rw [List.length_map]
  have := List.length_filter_le (okK st c) (List.range n)
  rw [List.length_range] at this
  exact this
def growN (M S : List Nat) : List Nat := M.flatMap fun m => S.map fun p => m ||| p
theorem growN_len (M S : List Nat) : (growN M S).length = M.length * S.length := by
  unfold growN
  induction M with
  | nil => simp
  | cons m M ih => rw [List.flatMap_cons, List.length_append, ih, List.length_map, List.length_cons, Nat.succ_mul, Nat.add_comm]
/-- the masks are just the columns of the row's worths -/
structure Masks (steps : List (List Int)) (row : List (Int × Int)) (M : List Nat) : Prop where
  from_ : ∀ m ∈ M, ∃ ws, RI row ws ∧ m = colm steps ws 0 0
  to_ : ∀ ws, RI row ws → colm steps ws 0 0 ∈ M
  len : M.length ≤ 2 ^ wid steps
theorem RI_snoc {row : List (Int × Int)} {ws : List Int} {c : Int × Int} {w : Int} : RI (row ++ [c]) (ws ++ [w]) ↔ (RI row ws ∧ c.1 ≤ w ∧ w ≤ c.2) := by
  induction row generalizing ws with
  | nil =>
    cases ws with
    | nil => simp [RI]
    | cons y ws => cases ws <;> simp [RI]
  | cons d row ih =>
    cases ws with
    | nil =>
      cases row <;> simp [RI]
    | cons y ws => simp [RI, ih, and_assoc]
theorem RI_len {row : List (Int × Int)} {ws : List Int} (h : RI row ws) : ws.length = row.length := (RI_of h).1
theorem masks_snoc {steps : List (List Int)} {row : List (Int × Int)} {M : List Nat} {st : List Int} {c : Int × Int} (h : Masks steps row M) (hl : row.length = steps.length) (hp : st.Pairwise (· < ·)) (hc : c.1 ≤ c.2) :
    Masks (steps ++ [st]) (row ++ [c]) (growN M (partsN st c (wid steps) (st.length + 1))) where
  from_ := fun m hm => by
    unfold growN at hm
    obtain ⟨m0, h0, hm⟩ := List.mem_flatMap.mp hm
    obtain ⟨p, hp0, rfl⟩ := List.mem_map.mp hm
    unfold partsN at hp0
    obtain ⟨k, hk, rfl⟩ := List.mem_map.mp hp0
    rw [List.mem_filter, List.mem_range] at hk
    obtain ⟨w, w1, w2, w3⟩ := of_ok hp hc (by omega) hk.2
    obtain ⟨ws, g1, rfl⟩ := h.from_ m0 h0
    refine ⟨ws ++ [w], RI_snoc.mpr ⟨g1, w1, w2⟩, ?_⟩
    rw [colm_snoc _ _ _ _ _ _ (by rw [RI_len g1, hl]), Nat.zero_add, rowm_cnt w3]
  to_ := fun ws hws => by
    have hlen := RI_len hws
    rw [List.length_append, List.length_singleton] at hlen
    have hne : ws ≠ [] := by intro e; rw [e] at hlen; simp at hlen
    rw [← List.dropLast_concat_getLast hne] at hws ⊢
    obtain ⟨g1, g2, g3⟩ := RI_snoc.mp hws
    obtain ⟨k, hk⟩ := cnt_ex (ws.getLast hne) hp
    rw [colm_snoc _ _ _ _ _ _ (by rw [RI_len g1, hl]), Nat.zero_add, rowm_cnt hk]
    unfold growN partsN
    refine List.mem_flatMap.mpr ⟨_, h.to_ _ g1, List.mem_map.mpr ⟨_, List.mem_map.mpr ⟨k, ?_, rfl⟩, rfl⟩⟩
    rw [List.mem_filter, List.mem_range]
    exact ⟨by have := hk.1; omega, ok_of hk g2 g3⟩
  len := by
    rw [growN_len, wid_snoc, Nat.pow_add]
    refine Nat.mul_le_mul h.len (Nat.le_trans (partsN_len ..) ?_)
    exact Nat.lt_two_pow_self
def d__law_sets : DTS := (dSeq (dAsg (dFix [] (dLst (dCons (dC (.int 0)) dNil))) (gN [] 2))
  (dSeq (dAsg (dC (.int 0)) (gN [] 3))
  (dSeq (dFor (iR1 (dCons (dCB cLen (dCons (dVar 0) dNil)) dNil)) (gN [] 4)
  (dSeq (dAsg (dLst dNil) (gN [] 5))
  (dSeq (dAsg (dC (.int 0)) (gN [] 6))
  (dSeq (dFor (iR1 (dCons (dOp (oI0 fun i j => .int (i + j)) (dCB cLen (dCons (dOp oIxL (dVar 0) (dVar 4)) dNil)) (dC (.int 1))) dNil)) (gN [] 7)
  (dSeq (dIfS (dTest (dOp (oI0 fun i j => .bl (decide (j < i))) (dVar 7) (dC (.int 0)))) (dAsg (dOp (oI0 fun i j => .int (Builtin.bitOr i j)) (dVar 6) (dOp (oI CPow fun i j => .int (i * 2 ^ j.toNat)) (dC (.int 1)) (dOp (oI0 fun i j => .int (i - j)) (dOp (oI0 fun i j => .int (i + j)) (dVar 3) (dVar 7)) (dC (.int 1))))) (gN [] 6)) dNext)
  (dSeq (dAsg (dOrV (dOp (oEqS false) (dVar 7) (dCB cLen (dCons (dOp oIxL (dVar 0) (dVar 4)) dNil))) (dOp (oI0 fun i j => .bl (decide (i < j))) (dOp oIxT (dOp oIxL (dVar 1) (dVar 4)) (dC (.int 0))) (dOp oIxL (dOp oIxL (dVar 0) (dVar 4)) (dVar 7)))) (gN [] 8))
  (dIfS (dAnd (dTest (dVar 8)) (dOr (dTest (dOp (oEqS false) (dVar 7) (dC (.int 0)))) (dTest (dOp (oI0 fun i j => .bl (decide (j ≤ i))) (dOp oIxT (dOp oIxL (dVar 1) (dVar 4)) (dC (.int 1))) (dOp oIxL (dOp oIxL (dVar 0) (dVar 4)) (dOp (oI0 fun i j => .int (i - j)) (dVar 7) (dC (.int 1)))))))) (dDrop (dBM "list" mAppend (dVar 5) (dCons (dVar 6) dNil))) dNext))))
  (dSeq (dAsg (dOp (oI0 fun i j => .int (i + j)) (dVar 3) (dCB cLen (dCons (dOp oIxL (dVar 0) (dVar 4)) dNil))) (gN [] 3))
  (dSeq (dAsg (dFix [] (dLst dNil)) (gN [] 9))
  (dSeq (dFor (iL (dVar 2)) (gN [] 10)
  (dAsg (dFix [] (dOp oCat (dVar 9) (dLc (iLp [] 5) (gN [5] 6) dYes (dOp (oI0 fun i j => .int (Builtin.bitOr i j)) (dVar 10) (dVar 6)) [6]))) (gN [] 9)))
  (dAsg (dVar 9) (gN [] 2)))))))))
  (dRet (dVar 2)))))
def sp__law_sets : DSp := fun ds R _ => ∃ (steps : List (List Int)) (row : List (Int × Int)), ds = [toD steps, toD row] ∧ StepsOk steps ∧ wid steps ≤ 6 ∧ row.length = steps.length ∧ (∀ c ∈ row, 0 ≤ c.1 ∧ c.1 ≤ c.2) ∧
  ∀ M : List Nat, Masks steps row M → R (.lst (M.map fun m => .int (m : Nat))) []
theorem spec__law_sets : ∀ ds R RX, sp__law_sets ds R RX → ds.length = 2 ∧ d__law_sets (endsD [] R) (startE 11 ds) := by
  rintro _ R RX ⟨steps, row, rfl, so, w6, hl, hc, h⟩
  refine ⟨rfl, ?_⟩
  have sm := so.many
  simp [d__law_sets, toD]
  have one : 1 ≤ sizeLine := by decide
  simp [one]
  refine ⟨by omega, ?_⟩
  refine forD_rng (fun i e => ∃ M : List Nat, Masks (steps.take i) (row.take i) M ∧ ∃ a b c d f g q, e = [some (D.lst (List.map (fun xs => D.lst (List.map D.int xs)) steps)), some (D.lst (row.map fun p => D.tup [D.int p.1, D.int p.2])),
    some (.lst (M.map fun m => .int (m : Nat))), some (.int (wid (steps.take i) : Nat)), a, b, c, d, f, g, q]) ?_ ?_ ?_
  · refine ⟨[0], ⟨fun m hm => ⟨[], by simp [RI], by simpa [colm] using hm⟩, fun ws hw => ?_, by simp [wid]⟩, by simp [wid]⟩
    cases ws <;> simp [RI] at hw; simp [colm]
  · rintro i e N hi ⟨M, hM, a, b, c, d, f, g, q0, rfl⟩ hN
    have hS : steps[i]? = some steps[i] := List.getElem?_eq_getElem hi
    have hC : row[i]? = some row[i] := List.getElem?_eq_getElem (by omega)
    have hb := wid_at hS
    obtain ⟨st, hst⟩ : ∃ st, steps[i] = st := ⟨_, rfl⟩
    obtain ⟨c0, hc0⟩ : ∃ c0, row[i] = c0 := ⟨_, rfl⟩
    rw [hst] at hS hb
    rw [hc0] at hC
    obtain ⟨at_, hat⟩ : ∃ at_, wid (steps.take i) = at_ := ⟨_, rfl⟩
    have rise := (so.rise st (List.mem_of_getElem? hS)).2
    have cc := hc c0 (List.mem_of_getElem? hC)
    have hsz : st.length + 1 < sizeLine := small1000 (by omega)
    simp [atI_at hS, hat]
    refine ⟨by omega, by omega, ?_⟩
    refine forD_rng (fun k e => ∃ d f, e = [some (D.lst (List.map (fun xs => D.lst (List.map D.int xs)) steps)), some (D.lst (row.map fun p => D.tup [D.int p.1, D.int p.2])),
      some (.lst (M.map fun m => .int (m : Nat))), some (.int (at_ : Nat)), some (.int (i : Nat)), some (.mt ((partsN st c0 at_ k).map fun m => .int (m : Nat))), some (.int (partN at_ (k - 1) : Nat)), d, f, g, q0]) ?_ ?_ ?_
    · exact ⟨d, f, by simp [partsN, partN]⟩
    · rintro k e N hk ⟨d, f, rfl⟩ hN
      have hpl := partsN_len st c0 at_ k
      have hsz2 : (partsN st c0 at_ k).length < sizeLine := by omega
      have keyT : okK st c0 k = true → ∀ f, N [some (D.lst (List.map (fun xs => D.lst (List.map D.int xs)) steps)), some (D.lst (row.map fun p => D.tup [D.int p.1, D.int p.2])),
          some (.lst (M.map fun m => .int (m : Nat))), some (.int (at_ : Nat)), some (.int (i : Nat)), some (.mt ((partsN st c0 at_ k).map (fun m => D.int (m : Nat)) ++ [.int (partN at_ k : Nat)])), some (.int (partN at_ k : Nat)), some (.int k), f, g, q0] := fun ho f => by
        exact hN _ ⟨some (.int (k : Nat)), f, by rw [partsN_succ, if_pos ho]; simp⟩
      have keyF : okK st c0 k = false → ∀ f, N [some (D.lst (List.map (fun xs => D.lst (List.map D.int xs)) steps)), some (D.lst (row.map fun p => D.tup [D.int p.1, D.int p.2])),
          some (.lst (M.map fun m => .int (m : Nat))), some (.int (at_ : Nat)), some (.int (i : Nat)), some (.mt ((partsN st c0 at_ k).map (fun m => D.int (m : Nat)))), some (.int (partN at_ k : Nat)), some (.int k), f, g, q0] := fun ho f => by
        exact hN _ ⟨some (.int (k : Nat)), f, by rw [partsN_succ, if_neg (by rw [ho]; simp)]; simp⟩
      have hpos : 0 < st.length := List.length_pos_iff.mpr (so.rise st (List.mem_of_getElem? hS)).1
      have eS := atI_at (f := fun xs : List Int => D.lst (xs.map D.int)) hS
      have eC := atI_at (f := fun p : Int × Int => D.tup [D.int p.1, D.int p.2]) hC
      cases k with
      | zero =>
        have hB : st[0]? = some st[0] := List.getElem?_eq_getElem hpos
        have eB := atI_at (f := D.int) hB
        simp at eB keyT keyF
        simp [eS, eC, dec_int, scal, hsz2]
        rw [if_neg (by omega)]
        refine ⟨_, eB, _, rfl, ?_⟩
        by_cases q : c0.1 < st[0]
        · exact .inr ⟨q, keyT (by unfold okK; rw [hB]; simp [q]) _⟩
        · exact .inl ⟨by omega, keyF (by unfold okK; rw [hB]; simp; omega) _⟩
      | succ k =>
        have hP : Builtin.bitOr ((partN at_ k : Nat) : Int) (2 ^ (at_ + k)) = (partN at_ (k + 1) : Nat) := by
          rw [show (2 : Int) ^ (at_ + k) = ((2 ^ (at_ + k) : Nat) : Int) by simp, bOr]; rfl
        have cp : CPow 1 ((at_ : Int) + k) := cpow_c (by omega) (by omega) (by decide)
        have hB : st[k]? = some st[k] := List.getElem?_eq_getElem (by omega)
        have eB := atI_at (f := D.int) hB
        have ht : ((at_ : Int) + (k + 1)).toNat - 1 = at_ + k := by omega
        have hk0 : ¬ ((k : Int) + 1 = 0) := by omega
        simp at keyT keyF
        simp [eS, eC, dec_int, scal, hsz2, show (at_ : Int) + (k + 1) - 1 = at_ + k by omega, cp, ht, hP, eB, hk0]
        by_cases e : k + 1 = st.length
        · rw [if_pos (by omega)]
          split
          · rename_i q
            exact keyT (by unfold okK; rw [show k + 1 - 1 = k from rfl, hB]; simp [e, q]) _
          · rename_i q
            exact keyF (by unfold okK; rw [show k + 1 - 1 = k from rfl, hB]; simp [q]) _
        · rw [if_neg (by omega)]
          have hD : st[k + 1]? = some st[k + 1] := List.getElem?_eq_getElem (by omega)
          have eD := atI_at (f := D.int) hD
          simp at eD
          refine ⟨_, eD, _, rfl, ?_⟩
          by_cases q : c0.1 < st[k + 1]
          · refine .inr ⟨q, ?_⟩
            split
            · rename_i q2
              exact keyT (by unfold okK; rw [show k + 1 - 1 = k from rfl, hB, hD]; simp [q, q2]) _
            · rename_i q2
              exact keyF (by unfold okK; rw [show k + 1 - 1 = k from rfl, hB]; simp [q2]) _
          · exact .inl ⟨by omega, keyF (by unfold okK; rw [hD]; simp [e]; intro; omega) _⟩
    · rintro e ⟨d, f, rfl⟩
      simp [atI_at hS]
      have hlt := hM.len
      have hb2 : wid (steps.take i) ≤ 6 := by omega
      have hM64 : M.length ≤ 64 := Nat.le_trans hlt (Nat.le_trans (Nat.pow_le_pow_right (by omega) hb2) (by decide))
      have hpl := partsN_len st c0 at_ (st.length + 1)
      refine forD_of (fun j e => ∃ p q, e = [some (D.lst (List.map (fun xs => D.lst (List.map D.int xs)) steps)), some (D.lst (row.map fun p => D.tup [D.int p.1, D.int p.2])),
        some (.lst (M.map fun m => .int (m : Nat))), some (.int (at_ + st.length : Nat)), some (.int (i : Nat)), some (.mt ((partsN st c0 at_ (st.length + 1)).map fun m => .int (m : Nat))), p, d, f,
        some (.lst ((growN (M.take j) (partsN st c0 at_ (st.length + 1))).map fun m => .int (m : Nat))), q]) ⟨some (.int (partN at_ st.length : Nat)), q0, by simp [growN]⟩ ?_ ?_
      · rintro j m e N hj ⟨p, q, rfl⟩ hN
        have hjl : j < M.length := (List.getElem?_eq_some_iff.mp hj).1
        simp
        refine lcD_map (h := fun p : Nat => .int ((m ||| p : Nat) : Int)) (by simp) (by omega) (fun x hx => rfl) (fun x hx N hN => ?_) ?_
        · simp [bOr]
          exact hN _ (by simp)
        · simp
          have hg : (growN (M.take j) (partsN st c0 at_ (st.length + 1))).length + (partsN st c0 at_ (st.length + 1)).length ≤ sizeLine := by
            rw [growN_len, List.length_take]
            have h1 : min j M.length ≤ 64 := by omega
            have h2 := Nat.mul_le_mul h1 (show (partsN st c0 at_ (st.length + 1)).length ≤ 7 by omega)
            have : 64 * 7 + 7 ≤ sizeLine := by decide
            omega
          refine ⟨hg, hN _ ⟨none, some (.int (m : Nat)), by rw [take_snoc hj]; simp [growN, List.flatMap_append]⟩⟩
      · rintro e ⟨p, q, rfl⟩
        rw [List.take_length]
        simp
        have hm2 := masks_snoc hM (by simp; omega) rise.pw cc.2
        rw [← take_snoc hS, ← take_snoc hC, hat] at hm2
        have ew := wid_snoc st (steps.take i)
        rw [← take_snoc hS, hat] at ew
        exact hN _ ⟨_, hm2, by simp [ew]⟩
  · rintro e ⟨M, hM, a, b, c, d, f, g, q0, rfl⟩
    simp
    rw [List.take_length, List.take_of_length_le (by omega)] at hM
    exact h M hM
end DL

/-! ## M33l.lean -/
namespace DL
open PySem PySem.Spec PyProof.Rows L2
open Dat (toD)
def d_law : DTS := (dSeq (dAsg (dOp (oI (fun _ j => 0 < j) fun i j => .int (i % j)) (dCall sp__law_cell [] (dCons (dVar 0) (dCons (dC (.int 0)) dNil))) (dC (.int 6))) (gN [] 1))
  (dSeq (dAsg (dFix [] (dCall sp__law_steps [] (dCons (dVar 0) (dCons (dVar 1) (dCons (dC (.int 4)) dNil))))) (gN [] 2))
  (dSeq (dAsg (dFix [] (dCall sp__law_drawn_rule [] (dCons (dVar 0) (dCons (dVar 2) dNil)))) (gN [] 3))
  (dSeq (dAsg (dFix [] (dCall sp__law_cells [] (dCons (dVar 2) (dCons (dFix [] (dSl (dVar 0) (dPart (dOp (oI0 fun i j => .int (i + j)) (dOp (oI CMul fun i j => .int (i * j)) (dC (.int 2)) (dVar 1)) (dC (.int 4)))) dNoPart)) dNil)))) (gN [] 4))
  (dSeq (dAsg (dC (.bl false)) (gN [] 5))
  (dSeq (dAsg (dC (.bl true)) (gN [] 6))
  (dSeq (dFor (iL (dVar 4)) (gN [] 7)
  (dSeq (dAsg (dFix [] (dLc (iL (dCall sp__law_sets [] (dCons (dVar 2) (dCons (dVar 7) dNil)))) (gN [] 13) dYes (dCall sp__law_breaks [] (dCons (dVar 13) (dCons (dVar 3) dNil))) [13])) (gN [] 8))
  (dSeq (dAsg (dOrV (dVar 5) (dOp (oIn false) (dC (.bl true)) (dVar 8))) (gN [] 5))
  (dAsg (dAndV (dVar 6) (dOp (oIn false) (dC (.bl false)) (dVar 8))) (gN [] 6)))))
  (dSeq (dAsg (dFix [] (dLst (dCons (dFix [] (dCall sp__law_copy [] (dCons (dVar 2) dNil))) (dCons (dFix [] (dCall sp__law_copy [] (dCons (dVar 4) dNil))) dNil)))) (gN [] 9))
  (dSeq (dAsg (dFix [] (dCall sp_spoiling [] (dCons (dOp oIxL (dVar 9) (dC (.int 0))) (dCons (dOp oIxL (dVar 9) (dC (.int 1))) (dCons (dVar 3) dNil))))) (gN [] 10))
  (dSeq (dAsg (dFix [] (dCall sp_mending [] (dCons (dOp oIxL (dVar 9) (dC (.int 0))) (dCons (dOp oIxL (dVar 9) (dC (.int 1))) (dCons (dVar 3) dNil))))) (gN [] 11))
  (dSeq (dAsg (dCall sp_sure [] (dCons (dOp oIxL (dVar 9) (dC (.int 0))) (dCons (dOp oIxL (dVar 9) (dC (.int 1))) (dCons (dVar 3) dNil)))) (gN [] 12))
  (dSeq (dIfS (dOr (dNot (dTest (dCB cIsi (dCons (dVar 12) (dCons (dC (.ty "bool")) dNil))))) (dOr (dTest (dOp (oEqS false) (dVar 12) (dVar 5))) (dTest (dOp (oEqS false) (dOp (oIsN false) (dVar 10) (dC .non)) (dVar 5))))) (dRet (dC (.bl false))) dNext)
  (dSeq (dIfS (dTest (dOp (oIsN true) (dVar 10) (dC .non))) (dIfS (dOr (dNot (dTest (dCall sp__law_filling [] (dCons (dVar 10) (dCons (dVar 4) dNil))))) (dNot (dTest (dCall sp__law_broken [] (dCons (dVar 2) (dCons (dVar 10) (dCons (dVar 3) dNil))))))) (dRet (dC (.bl false))) dNext) dNext)
  (dSeq (dIfS (dTest (dOp (oEqS false) (dOp (oIsN false) (dVar 11) (dC .non)) (dVar 6))) (dRet (dC (.bl false))) dNext)
  (dSeq (dIfS (dTest (dOp (oIsN true) (dVar 11) (dC .non))) (dIfS (dOr (dNot (dTest (dCall sp__law_filling [] (dCons (dVar 11) (dCons (dVar 4) dNil))))) (dTest (dCall sp__law_broken [] (dCons (dVar 2) (dCons (dVar 11) (dCons (dVar 3) dNil)))))) (dRet (dC (.bl false))) dNext) dNext)
  (dRet (dAndV (dOp (oEqD false) (dOp oIxL (dVar 9) (dC (.int 0))) (dVar 2)) (dOp (oEqD false) (dOp oIxL (dVar 9) (dC (.int 1))) (dVar 4)))))))))))))))))))
def sp_law : DSp := fun ds R _ => ∃ s : List Int, ds = [.scr (s.map .int)] ∧ s.length ≤ 63 ∧ R (.bl true) []
theorem copy_of {α : Type} [Dat α] (xss : List (List α)) (h : xss.length ≤ 1000) (R : D → List D → Prop) (RX) (hR : R (.mt (xss.map toD)) []) : sp__law_copy [toD xss] R RX := by
  refine ⟨xss.map fun r => r.map toD, by simp [toD, Function.comp_def], by simpa using h, ?_⟩
  simpa [toD, Function.comp_def] using hR
theorem any_false {steps : List (List Int)} {cells : List (List (Int × Int))} {a b : Nat} {f : List (List Int)} (so : StepsOk steps) (co : CellsOk steps cells) (ic : InCells cells f) (ha : a < 2 ^ wid steps) (hb : b < 2 ^ wid steps)
    (h : ∀ row ∈ cells, bw row (gs a steps 0) (gs b steps 0) = none) : f.any (fun ws => brk (colm steps ws 0 0) a b) = false := by
  rw [List.any_eq_false]
  intro ws hws
  obtain ⟨i, hi, rfl⟩ := List.getElem_of_mem hws
  have hi' : i < cells.length := by rw [← ic.len]; exact hi
  have hr := co.row cells[i] (List.getElem_mem hi')
  rw [Bool.not_eq_true]
  exact bw_none so hr.1 hr.2 ha hb (h _ (List.getElem_mem hi')) (ic.row i _ _ (List.getElem?_eq_getElem hi) (List.getElem?_eq_getElem hi'))
theorem inC_len {steps : List (List Int)} {cells : List (List (Int × Int))} {f : List (List Int)} (co : CellsOk steps cells) (ic : InCells cells f) : ∀ ws ∈ f, ws.length = steps.length := by
  intro ws hws
  obtain ⟨i, hi, rfl⟩ := List.getElem_of_mem hws
  have hi' : i < cells.length := by rw [← ic.len]; exact hi
  rw [(ic.row i _ _ (List.getElem?_eq_getElem hi) (List.getElem?_eq_getElem hi')).1]
  exact (co.row cells[i] (List.getElem_mem hi')).1
theorem inC_set {steps : List (List Int)} {cells : List (List (Int × Int))} {i : Nat} {row : List (Int × Int)} {ws : List Int} (co : CellsOk steps cells) (hx : cells[i]? = some row) (hr : RowIn row ws) : InCells cells ((cells.map lows).set i ws) := by
  have il := in_lows co
  refine ⟨by simp, fun k vs r h1 h2 => ?_⟩
  rw [List.getElem?_set] at h1
  split at h1
  · rename_i e
    subst e
    split at h1
    · cases h1
      rw [hx] at h2
      cases h2
      exact hr
    · cases h1
  · exact il.row k vs r h1 h2
theorem okLL (x : List (List Int)) : Dat.ok x = true := by
  show (x.all fun y => y.all fun _ => true) = true
  simp
theorem okLP (x : List (List (Int × Int))) : Dat.ok x = true := by
  show (x.all fun y => y.all fun p => (true && true)) = true
  simp
theorem eqLL (x : List (List Int)) : EqD (.lst (x.map toD)) (.lst (x.map toD)) true := by
  have := eqD_of x x (by decide) (okLL x) (okLL x)
  simpa [toD_list] using this
theorem eqLP (x : List (List (Int × Int))) : EqD (.lst (x.map toD)) (.lst (x.map toD)) true := by
  have := eqD_of x x (by decide) (okLP x) (okLP x)
  simpa [toD_list] using this
theorem kw_at {cells : List (List (Int × Int))} {f : List (List Int)} {k : List (Int × Int) → Option (List Int)} (h : cells.map k = f.map some) {i : Nat} {ws : List Int} {row : List (Int × Int)} (h1 : f[i]? = some ws) (h2 : cells[i]? = some row) : k row = some ws := by
  have := congrArg (fun l => l[i]?) h
  simp only [List.getElem?_map, h1, h2] at this
  simpa using this
theorem told_ok {steps : List (List Int)} {cells : List (List (Int × Int))} {a b : Nat} {f : List (List Int)} (so : StepsOk steps) (co : CellsOk steps cells) (ha : a < 2 ^ wid steps) (hb : b < 2 ^ wid steps)
    (h : cells.map (fun row => kw row (gs a steps 0) (gs b steps 0)) = f.map some) : InCells cells f ∧ f.any (fun ws => brk (colm steps ws 0 0) a b) = false := by
  have hl : f.length = cells.length := by have := congrArg List.length h; simpa using this.symm
  refine ⟨⟨hl, fun i ws row h1 h2 => ?_⟩, ?_⟩
  · have hr := co.row row (List.mem_of_getElem? h2)
    exact (kw_some so hr.1 hr.2 ha hb (kw_at h h1 h2)).1
  · rw [List.any_eq_false]
    intro ws hws
    obtain ⟨i, hi, rfl⟩ := List.getElem_of_mem hws
    have hi' : i < cells.length := by omega
    have hr := co.row cells[i] (List.getElem_mem hi')
    rw [Bool.not_eq_true]
    exact (kw_some so hr.1 hr.2 ha hb (kw_at h (List.getElem?_eq_getElem hi) (List.getElem?_eq_getElem hi'))).2.2
section
variable {steps : List (List Int)} {row : List (Int × Int)} {a b : Nat} (so : StepsOk steps) (hl : row.length = steps.length) (hc : ∀ c ∈ row, 0 ≤ c.1 ∧ c.1 ≤ c.2) (ha : a < 2 ^ wid steps) (hb : b < 2 ^ wid steps) {M : List Nat} (hM : Masks steps row M)
include so hl hc ha hb hM
theorem may_break : (M.map fun m => brk m a b).contains true = (bw row (gs a steps 0) (gs b steps 0)).isSome := by
  rw [Bool.eq_iff_iff, List.contains_iff_mem, List.mem_map]
  constructor
  · rintro ⟨m, hm, hq⟩
    obtain ⟨ws, hw, rfl⟩ := hM.from_ m hm
    cases hx : bw row (gs a steps 0) (gs b steps 0) with
    | some x => rfl
    | none => rw [bw_none so hl hc ha hb hx (RI_of hw)] at hq; cases hq
  · intro h
    obtain ⟨ws, hx⟩ := Option.isSome_iff_exists.mp h
    obtain ⟨g1, g2, g3⟩ := bw_some so hl hc ha hb hx
    exact ⟨_, hM.to_ ws (RI_iff g1), g3⟩
theorem may_hold : (M.map fun m => brk m a b).contains false = (kw row (gs a steps 0) (gs b steps 0)).isSome := by
  rw [Bool.eq_iff_iff, List.contains_iff_mem, List.mem_map]
  constructor
  · rintro ⟨m, hm, hq⟩
    obtain ⟨ws, hw, rfl⟩ := hM.from_ m hm
    cases hx : kw row (gs a steps 0) (gs b steps 0) with
    | some x => rfl
    | none => rw [kw_none so hl hc ha hb hx (RI_of hw)] at hq; cases hq
  · intro h
    obtain ⟨ws, hx⟩ := Option.isSome_iff_exists.mp h
    obtain ⟨g1, g2, g3⟩ := kw_some so hl hc ha hb hx
    exact ⟨_, hM.to_ ws (RI_iff g1), g3⟩
end
theorem inV_bl (b : Bool) : ∀ l : List Bool, inV (.bl b) (l.map V.bl) = l.contains b
  | [] => rfl
  | x :: l => by
    have := inV_bl b l
    unfold inV at this ⊢
    rw [List.map_cons, List.any_cons, this, List.contains_cons]
    cases x <;> cases b <;> rfl
theorem mapM_bl {α : Type} (f : α → Bool) : ∀ l : List α, List.mapM (scV ∘ fun m => D.bl (f m)) l = some ((l.map f).map V.bl)
  | [] => rfl
  | x :: l => by
    rw [List.mapM_cons, mapM_bl f l]; rfl
theorem spec_law : ∀ ds R RX, sp_law ds R RX → ds.length = 1 ∧ d_law (endsD [] R) (startE 14 ds) := by
  rintro _ R RX ⟨s, rfl, hl, h⟩
  refine ⟨rfl, ?_⟩
  simp [d_law]
  refine ⟨s, 0, by simp, fun v0 => ?_⟩
  obtain ⟨n, hn⟩ : ∃ n : Nat, v0 % 6 = n := ⟨(v0 % 6).toNat, by omega⟩
  have hn8 : n < 6 := by omega
  simp
  refine ⟨s, n, 4, by simp [hn], by omega, fun steps h1 h2 h3 => ?_⟩
  have so : StepsOk steps := ⟨by omega, by omega, h3⟩
  simp
  refine ⟨s, steps, by simp [toD], so.many, so.wide, fun a b ha hb => ?_⟩
  have c2 : CMul 2 (n : Int) := cmul_l (by omega) (by omega)
  have cf : cutG (s.map D.int) (some (2 * (n : Int) + 4)) none = (s.drop (2 * n + 4)).map D.int := by
    rw [show (2 * (n : Int) + 4) = ((2 * n + 4 : Nat) : Int) by omega, cut_from, List.map_drop]
  simp [hn, c2, cf]
  refine ⟨steps, s.drop (2 * n + 4), by simp [toD], by simp; omega, so, fun cells k1 co => ?_⟩
  have two : 2 ≤ sizeLine := by decide
  simp
  refine forD_of (fun i e => ∃ q r, e = [some (D.scr (List.map D.int s)), some (D.int n), some (D.lst (List.map toD steps)), some (D.tup [D.int a, D.int b]), some (D.lst (List.map toD cells)),
    some (.bl ((cells.take i).any fun row => (bw row (gs a steps 0) (gs b steps 0)).isSome)), some (.bl ((cells.take i).all fun row => (kw row (gs a steps 0) (gs b steps 0)).isSome)), q, r, none, none, none, none, none]) ⟨none, none, by simp⟩ ?_ ?_
  · rintro i row e N hx ⟨q, r, rfl⟩ hN
    have hr := co.row row (List.mem_of_getElem? hx)
    obtain ⟨B1, e1⟩ : ∃ B, ((cells.take i).any fun row => (bw row (gs a steps 0) (gs b steps 0)).isSome) = B := ⟨_, rfl⟩
    obtain ⟨B2, e2⟩ : ∃ B, ((cells.take i).all fun row => (kw row (gs a steps 0) (gs b steps 0)).isSome) = B := ⟨_, rfl⟩
    have hN' : ∀ q r, N [some (D.scr (List.map D.int s)), some (D.int n), some (D.lst (List.map toD steps)), some (D.tup [D.int a, D.int b]), some (D.lst (List.map toD cells)),
        some (.bl (B1 || (bw row (gs a steps 0) (gs b steps 0)).isSome)), some (.bl (B2 && (kw row (gs a steps 0) (gs b steps 0)).isSome)), q, r, none, none, none, none, none] := fun q r => by
      refine hN _ ⟨q, r, ?_⟩
      rw [take_snoc hx, List.any_append, List.all_append, e1, e2]
      simp
    rw [e1, e2]
    simp
    refine ⟨steps, row, by simp [toD], so, h2, hr.1, hr.2, fun M hM => ?_⟩
    simp
    have hM64 : M.length ≤ 64 := Nat.le_trans hM.len (Nat.le_trans (Nat.pow_le_pow_right (by omega) h2) (by decide))
    refine lcD_map (h := fun m : Nat => .bl (brk m a b)) (by simp) (le1000 (by omega)) (fun x hx => rfl) (fun m hm N hN => ?_) ?_
    · simp
      refine ⟨m, a, b, by simp, ?_⟩
      simp
      exact hN _ (by simp)
    · rw [← may_break so hr.1 hr.2 ha hb hM, ← may_hold so hr.1 hr.2 ha hb hM, ← inV_bl, ← inV_bl, List.map_map] at hN'
      cases B1 <;> cases B2
      all_goals simp only [Bool.false_or, Bool.true_or, Bool.false_and, Bool.true_and] at hN'
      all_goals simp [mapM_bl]
      all_goals exact hN' _ _
  · rintro e ⟨q, r, rfl⟩
    rw [List.take_length]
    obtain ⟨B1, e1⟩ : ∃ B, (cells.any fun row => (bw row (gs a steps 0) (gs b steps 0)).isSome) = B := ⟨_, rfl⟩
    obtain ⟨B2, e2⟩ : ∃ B, (cells.all fun row => (kw row (gs a steps 0) (gs b steps 0)).isSome) = B := ⟨_, rfl⟩
    rw [e1, e2]
    simp
    refine copy_of steps (by have := so.many; omega) _ _ ?_
    simp
    refine copy_of cells (by omega) _ _ ?_
    simp [two]
    have b2n : (∃ row ∈ cells, kw row (gs a steps 0) (gs b steps 0) = none) → B2 = false := by
      rintro ⟨row, hr, hk⟩
      rw [← e2, List.all_eq_false]
      exact ⟨row, hr, by rw [hk]; simp⟩
    have b2s : ∀ f : List (List Int), cells.map (fun row => kw row (gs a steps 0) (gs b steps 0)) = f.map some → B2 = true := by
      intro f hf
      rw [← e2, List.all_eq_true]
      intro row hr
      obtain ⟨k, hk, rfl⟩ := List.getElem_of_mem hr
      have hl2 : f.length = cells.length := by have := congrArg List.length hf; simpa using this.symm
      rw [kw_at hf (List.getElem?_eq_getElem (by omega)) (List.getElem?_eq_getElem hk)]; rfl
    have fil : ∀ f : List (List Int), InCells cells f → ∀ R', R' (.bl true) [] → sp__law_filling [D.lst (f.map toD), D.lst (cells.map toD)] R' (fun _ _ _ => False) := fun f ic R' hR =>
      ⟨f, cells, by simp [toD], by have := co.many; omega, fun r hr => by have := (co.row r hr).1; have := so.many; omega, ic, hR⟩
    have bro : ∀ f : List (List Int), InCells cells f → ∀ R', R' (.bl (f.any fun ws => brk (colm steps ws 0 0) a b)) [] → sp__law_broken [D.lst (steps.map toD), D.lst (f.map toD), .tup [.int a, .int b]] R' (fun _ _ _ => False) := fun f ic R' hR =>
      ⟨steps, f, a, b, by simp [toD], inC_len co ic, so.many, so.wide, hR⟩
    refine ⟨steps, cells, a, b, by simp [toD], so, co, fun hn1 => ?_, fun i row ws hx hws => ?_⟩
    · have b1 : B1 = false := by
        rw [← e1, List.any_eq_false]
        intro row hr; rw [hn1 row hr]; simp
      subst b1
      simp
      refine ⟨steps, cells, a, b, by simp [toD], so, co, fun hk => ?_, fun f hf => ?_⟩
      · have b2 := b2n hk
        subst b2
        simp
        refine ⟨steps, cells, a, b, by simp [toD], so, co, fun _ => ?_, fun row hr h => absurd (hn1 row hr) h⟩
        simp [isT, tyNs, scal]
        exact .inr ⟨eqLL steps, .inr ⟨eqLP cells, h⟩⟩
      · have b2 := b2s f hf
        subst b2
        obtain ⟨ic, ha2⟩ := told_ok so co ha hb hf
        simp
        refine ⟨steps, cells, a, b, by simp [toD], so, co, fun _ => ?_, fun row hr h => absurd (hn1 row hr) h⟩
        simp [isT, tyNs, scal]
        refine fil f ic _ ?_
        simp
        refine bro f ic _ ?_
        rw [ha2]
        simp
        exact .inr ⟨eqLL steps, .inr ⟨eqLP cells, h⟩⟩
    · have hmem := List.mem_of_getElem? hx
      have hrl := co.row row hmem
      have b1 : B1 = true := by
        rw [← e1, List.any_eq_true]
        exact ⟨row, hmem, by rw [hws]; rfl⟩
      subst b1
      obtain ⟨c1, c2, c3⟩ := bw_some so hrl.1 hrl.2 ha hb hws
      have ic := inC_set co hx c1
      have ha3 : ((cells.map lows).set i ws).any (fun ws => brk (colm steps ws 0 0) a b) = true := List.any_eq_true.mpr ⟨ws, List.mem_set (by simpa using (List.getElem?_eq_some_iff.mp hx).1) _, c3⟩
      obtain ⟨f1, hf1⟩ : ∃ f1, (cells.map lows).set i ws = f1 := ⟨_, rfl⟩
      rw [hf1] at ic ha3
      rw [hf1]
      simp
      refine ⟨steps, cells, a, b, by simp [toD], so, co, fun hk => ?_, fun f hf => ?_⟩
      · have b2 := b2n hk
        subst b2
        simp
        refine ⟨steps, cells, a, b, by simp [toD], so, co, fun hq => absurd (hq row hmem) (by rw [hws]; simp), fun row hr h => ?_⟩
        simp [isT, tyNs, scal]
        refine fil f1 ic _ ?_
        simp
        refine bro f1 ic _ ?_
        rw [ha3]
        simp
        exact .inr ⟨eqLL steps, .inr ⟨eqLP cells, ‹R (.bl true) []›⟩⟩
      · have b2 := b2s f hf
        subst b2
        obtain ⟨ic2, ha2⟩ := told_ok so co ha hb hf
        simp
        refine ⟨steps, cells, a, b, by simp [toD], so, co, fun hq => absurd (hq row hmem) (by rw [hws]; simp), fun row hr h => ?_⟩
        simp [isT, tyNs, scal]
        refine fil f1 ic _ ?_
        simp
        refine bro f1 ic _ ?_
        rw [ha3]
        simp
        refine fil f ic2 _ ?_
        simp
        refine bro f ic2 _ ?_
        rw [ha2]
        simp
        exact .inr ⟨eqLL steps, .inr ⟨eqLP cells, ‹R (.bl true) []›⟩⟩
end DL

namespace DL
open PySem PySem.Spec PyProof.Rows L2
open Dat (toD)
def topS (i : Nat) : Stmt := PySem.Challenge.pw_traitlattice_k33_whole_gaps.main.body.getD i (.Pass ⟨0, 0, 0, 0⟩)
abbrev s_greatest_steps : Stmt := topS 1
theorem sc_greatest_steps : FnScope ["steps", "mask", "found", "column", "row", "most", "step"] ["steps", "mask"] (defScope s_greatest_steps) := ⟨rfl, rfl, rfl, by decide +kernel, rfl, by decide +kernel, by decide +kernel⟩
abbrev s_broken_worths : Stmt := topS 2
theorem sc_broken_worths : FnScope ["cells", "ahead", "behind", "worths", "lacks", "trait", "cell", "worth"] ["cells", "ahead", "behind"] (defScope s_broken_worths) := ⟨rfl, rfl, rfl, by decide +kernel, rfl, by decide +kernel, by decide +kernel⟩
abbrev s_kept_worths : Stmt := topS 3
theorem sc_kept_worths : FnScope ["cells", "ahead", "behind", "lows", "trait", "low", "highs", "high", "cell"] ["cells", "ahead", "behind"] (defScope s_kept_worths) := ⟨rfl, rfl, rfl, by decide +kernel, rfl, by decide +kernel, by decide +kernel⟩
abbrev s__law_cell : Stmt := topS 8
theorem sc__law_cell : FnScope ["script", "k"] ["script", "k"] (defScope s__law_cell) := ⟨rfl, rfl, rfl, by decide +kernel, rfl, by decide +kernel, by decide +kernel⟩
abbrev s__law_marks : Stmt := topS 9
theorem sc__law_marks : FnScope ["many", "kind", "far", "number", "row", "k", "gap", "mark"] ["many", "kind", "far", "number"] (defScope s__law_marks) := ⟨rfl, rfl, rfl, by decide +kernel, rfl, by decide +kernel, by decide +kernel⟩
abbrev s__law_worth : Stmt := topS 11
theorem sc__law_worth : FnScope ["row", "number", "mark", "kind"] ["row", "number"] (defScope s__law_worth) := ⟨rfl, rfl, rfl, by decide +kernel, rfl, by decide +kernel, by decide +kernel⟩
abbrev s__law_columns : Stmt := topS 14
theorem sc__law_columns : FnScope ["steps", "worths", "mask", "at", "trait", "mark"] ["steps", "worths"] (defScope s__law_columns) := ⟨rfl, rfl, rfl, by decide +kernel, rfl, by decide +kernel, by decide +kernel⟩
abbrev s__law_breaks : Stmt := topS 15
theorem sc__law_breaks : FnScope ["mask", "rule"] ["mask", "rule"] (defScope s__law_breaks) := ⟨rfl, rfl, rfl, by decide +kernel, rfl, by decide +kernel, by decide +kernel⟩
abbrev s__law_filling : Stmt := topS 16
theorem sc__law_filling : FnScope ["told", "cells", "k", "trait", "worth"] ["told", "cells"] (defScope s__law_filling) := ⟨rfl, rfl, rfl, by decide +kernel, rfl, by decide +kernel, by decide +kernel⟩
abbrev s__law_side : Stmt := topS 18
theorem sc__law_side : FnScope ["number", "width", "single"] ["number", "width", "single"] (defScope s__law_side) := ⟨rfl, rfl, rfl, by decide +kernel, rfl, by decide +kernel, by decide +kernel⟩
abbrev s__law_copy : Stmt := topS 20
theorem sc__law_copy : FnScope ["lists", "row"] ["lists"] (defScope s__law_copy) := ⟨rfl, rfl, rfl, by decide +kernel, rfl, by decide +kernel, by decide +kernel⟩
abbrev s__law_sets : Stmt := topS 21
theorem sc__law_sets : FnScope ["steps", "row", "masks", "at", "trait", "some", "part", "k", "below", "grow", "mask"] ["steps", "row"] (defScope s__law_sets) := ⟨rfl, rfl, rfl, by decide +kernel, rfl, by decide +kernel, by decide +kernel⟩
abbrev s_spoiling : Stmt := topS 4
theorem sc_spoiling : FnScope ["steps", "cells", "rule", "ahead", "behind", "thing", "row", "worths", "filling", "other", "cell"] ["steps", "cells", "rule"] (defScope s_spoiling) := ⟨rfl, rfl, rfl, by decide +kernel, rfl, by decide +kernel, by decide +kernel⟩
abbrev s_mending : Stmt := topS 5
theorem sc_mending : FnScope ["steps", "cells", "rule", "ahead", "behind", "filling", "row", "worths"] ["steps", "cells", "rule"] (defScope s_mending) := ⟨rfl, rfl, rfl, by decide +kernel, rfl, by decide +kernel, by decide +kernel⟩
abbrev s__law_steps : Stmt := topS 10
theorem sc__law_steps : FnScope ["script", "many", "at", "made", "room", "k", "form", "size", "number"] ["script", "many", "at"] (defScope s__law_steps) := ⟨rfl, rfl, rfl, by decide +kernel, rfl, by decide +kernel, by decide +kernel⟩
abbrev s__law_gap : Stmt := topS 12
theorem sc__law_gap : FnScope ["row", "one", "other", "low", "high"] ["row", "one", "other"] (defScope s__law_gap) := ⟨rfl, rfl, rfl, by decide +kernel, rfl, by decide +kernel, by decide +kernel⟩
abbrev s__law_broken : Stmt := topS 17
theorem sc__law_broken : FnScope ["steps", "filling", "rule", "worths"] ["steps", "filling", "rule"] (defScope s__law_broken) := ⟨rfl, rfl, rfl, by decide +kernel, rfl, by decide +kernel, by decide +kernel⟩
abbrev s__law_drawn_rule : Stmt := topS 19
theorem sc__law_drawn_rule : FnScope ["script", "steps", "width", "form", "ahead", "row"] ["script", "steps"] (defScope s__law_drawn_rule) := ⟨rfl, rfl, rfl, by decide +kernel, rfl, by decide +kernel, by decide +kernel⟩
abbrev s_sure : Stmt := topS 6
theorem sc_sure : FnScope ["steps", "cells", "rule"] ["steps", "cells", "rule"] (defScope s_sure) := ⟨rfl, rfl, rfl, by decide +kernel, rfl, by decide +kernel, by decide +kernel⟩
abbrev s__law_cells : Stmt := topS 13
theorem sc__law_cells : FnScope ["steps", "drawn", "size", "made", "k", "row", "trait", "at", "cell"] ["steps", "drawn"] (defScope s__law_cells) := ⟨rfl, rfl, rfl, by decide +kernel, rfl, by decide +kernel, by decide +kernel⟩
abbrev s_law : Stmt := topS 22
theorem sc_law : FnScope ["script", "many", "steps", "rule", "cells", "may_break", "may_hold", "row", "broken", "handed", "spoilt", "mended", "kept", "mask"] ["script"] (defScope s_law) := ⟨rfl, rfl, rfl, by decide +kernel, rfl, by decide +kernel, by decide +kernel⟩
structure Txt (K : Frag) (mg : Str → Option Value) where
  f_greatest_steps : Addr
  fd_greatest_steps : FuncData
  F_greatest_steps : Fun K "greatest_steps" "greatest_steps" s_greatest_steps f_greatest_steps fd_greatest_steps
  m_greatest_steps : mg "greatest_steps" = some (.ref f_greatest_steps)
  f_broken_worths : Addr
  fd_broken_worths : FuncData
  F_broken_worths : Fun K "broken_worths" "broken_worths" s_broken_worths f_broken_worths fd_broken_worths
  m_broken_worths : mg "broken_worths" = some (.ref f_broken_worths)
  f_kept_worths : Addr
  fd_kept_worths : FuncData
  F_kept_worths : Fun K "kept_worths" "kept_worths" s_kept_worths f_kept_worths fd_kept_worths
  m_kept_worths : mg "kept_worths" = some (.ref f_kept_worths)
  f__law_cell : Addr
  fd__law_cell : FuncData
  F__law_cell : Fun K "_law_cell" "_law_cell" s__law_cell f__law_cell fd__law_cell
  m__law_cell : mg "_law_cell" = some (.ref f__law_cell)
  f__law_marks : Addr
  fd__law_marks : FuncData
  F__law_marks : Fun K "_law_marks" "_law_marks" s__law_marks f__law_marks fd__law_marks
  m__law_marks : mg "_law_marks" = some (.ref f__law_marks)
  f__law_worth : Addr
  fd__law_worth : FuncData
  F__law_worth : Fun K "_law_worth" "_law_worth" s__law_worth f__law_worth fd__law_worth
  m__law_worth : mg "_law_worth" = some (.ref f__law_worth)
  f__law_columns : Addr
  fd__law_columns : FuncData
  F__law_columns : Fun K "_law_columns" "_law_columns" s__law_columns f__law_columns fd__law_columns
  m__law_columns : mg "_law_columns" = some (.ref f__law_columns)
  f__law_breaks : Addr
  fd__law_breaks : FuncData
  F__law_breaks : Fun K "_law_breaks" "_law_breaks" s__law_breaks f__law_breaks fd__law_breaks
  m__law_breaks : mg "_law_breaks" = some (.ref f__law_breaks)
  f__law_filling : Addr
  fd__law_filling : FuncData
  F__law_filling : Fun K "_law_filling" "_law_filling" s__law_filling f__law_filling fd__law_filling
  m__law_filling : mg "_law_filling" = some (.ref f__law_filling)
  f__law_side : Addr
  fd__law_side : FuncData
  F__law_side : Fun K "_law_side" "_law_side" s__law_side f__law_side fd__law_side
  m__law_side : mg "_law_side" = some (.ref f__law_side)
  f__law_copy : Addr
  fd__law_copy : FuncData
  F__law_copy : Fun K "_law_copy" "_law_copy" s__law_copy f__law_copy fd__law_copy
  m__law_copy : mg "_law_copy" = some (.ref f__law_copy)
  f__law_sets : Addr
  fd__law_sets : FuncData
  F__law_sets : Fun K "_law_sets" "_law_sets" s__law_sets f__law_sets fd__law_sets
  m__law_sets : mg "_law_sets" = some (.ref f__law_sets)
  f_spoiling : Addr
  fd_spoiling : FuncData
  F_spoiling : Fun K "spoiling" "spoiling" s_spoiling f_spoiling fd_spoiling
  m_spoiling : mg "spoiling" = some (.ref f_spoiling)
  f_mending : Addr
  fd_mending : FuncData
  F_mending : Fun K "mending" "mending" s_mending f_mending fd_mending
  m_mending : mg "mending" = some (.ref f_mending)
  f__law_steps : Addr
  fd__law_steps : FuncData
  F__law_steps : Fun K "_law_steps" "_law_steps" s__law_steps f__law_steps fd__law_steps
  m__law_steps : mg "_law_steps" = some (.ref f__law_steps)
  f__law_gap : Addr
  fd__law_gap : FuncData
  F__law_gap : Fun K "_law_gap" "_law_gap" s__law_gap f__law_gap fd__law_gap
  m__law_gap : mg "_law_gap" = some (.ref f__law_gap)
  f__law_broken : Addr
  fd__law_broken : FuncData
  F__law_broken : Fun K "_law_broken" "_law_broken" s__law_broken f__law_broken fd__law_broken
  m__law_broken : mg "_law_broken" = some (.ref f__law_broken)
  f__law_drawn_rule : Addr
  fd__law_drawn_rule : FuncData
  F__law_drawn_rule : Fun K "_law_drawn_rule" "_law_drawn_rule" s__law_drawn_rule f__law_drawn_rule fd__law_drawn_rule
  m__law_drawn_rule : mg "_law_drawn_rule" = some (.ref f__law_drawn_rule)
  f_sure : Addr
  fd_sure : FuncData
  F_sure : Fun K "sure" "sure" s_sure f_sure fd_sure
  m_sure : mg "sure" = some (.ref f_sure)
  f__law_cells : Addr
  fd__law_cells : FuncData
  F__law_cells : Fun K "_law_cells" "_law_cells" s__law_cells f__law_cells fd__law_cells
  m__law_cells : mg "_law_cells" = some (.ref f__law_cells)
  f_law : Addr
  fd_law : FuncData
  F_law : Fun K "law" "law" s_law f_law fd_law
  m_law : mg "law" = some (.ref f_law)
  z_bool : mg "bool" = none
  z_enumerate : mg "enumerate" = none
  z_int : mg "int" = none
  z_isinstance : mg "isinstance" = none
  z_len : mg "len" = none
  z_list : mg "list" = none
  z_max : mg "max" = none
  z_min : mg "min" = none
  z_range : mg "range" = none
  z_sum : mg "sum" = none
section
variable {P : Program} {w : World} {K : Frag} {mg : Str → Option Value} {base : Heap}
theorem b_greatest_steps (T : Txt K mg) : Binds K T.fd_greatest_steps ["steps", "mask"] [] := T.F_greatest_steps.binds (ps := ["steps", "mask"]) fun _ _ _ _ _ _ us hl => match us, hl with | [_, _], _ => rfl
-- greatest_steps
theorem ok_greatest_steps (T : Txt K mg) : FnOk P w K mg base CX0 1 T.f_greatest_steps T.fd_greatest_steps ["steps", "mask"] (liftSp K [] sp_greatest_steps) :=
  okD (d := d_greatest_steps) T.F_greatest_steps sc_greatest_steps (fun cdv A outer s H E hr => ⟨_, ⟨(pss_cons (ps_set (i := 2) sc_greatest_steps.nd rfl (Or.inl rfl) (pe_lst pa_nil)) (pss_cons (ps_set (i := 3) sc_greatest_steps.nd rfl (Or.inl rfl) pe_int) (pss_cons (ps_for PassesOwn.never rfl (pi_list (pv 0)) (pg_name (i := 4) sc_greatest_steps.nd rfl (Or.inl rfl)) (pss_cons (ps_set (i := 5) sc_greatest_steps.nd rfl (Or.inl rfl) pe_int) (pss_cons (ps_for PassesOwn.never rfl (pi_list (pv 4)) (pg_name (i := 6) sc_greatest_steps.nd rfl (Or.inl rfl)) (pss_cons (ps_if (pt_cmpR op_eq (pe_op op_and (pe_op op_shr (pv 1) (pv 3)) pe_int) pe_int (nomark _)) (pss_one (ps_set (i := 5) sc_greatest_steps.nd rfl (Or.inl rfl) (pv 6))) pss_nil) (pss_one (ps_aug (i := 3) sc_greatest_steps.nd rfl (Or.inl rfl) pe_int ip_add)))) (pss_one (ps_expr (pe_bm PySem.F.plainAttrs_list PySem.F.slot_list_append PySem.F.type_list_append mt_append (pv 2) (pa_cons (pv 5) pa_nil))))))) (pss_one (ps_ret (pv 2)))))),
    (ds_seq (ds_asg (de_lst da_nil) (dg_name 2)) (ds_seq (ds_asg (de_c (v := .int 0) rfl) (dg_name 3)) (ds_seq (ds_for (di_list (de_var 0)) (dg_name 4) (ds_seq (ds_asg (de_c (v := .int 0) rfl) (dg_name 5)) (ds_seq (ds_for (di_list (de_var 4)) (dg_name 6) (ds_seq (ds_if (dt_test (de_op do_eqS (de_op do_I0 (de_op do_I (de_var 1) (de_var 3)) (de_c (v := .int 1) rfl)) (de_c (v := .int 1) rfl))) (ds_asg (de_var 6) (dg_name 5)) ds_next) (ds_aug (de_c (v := .int 1) rfl) do_I0))) (ds_drop (de_bm dm_append (de_var 2) (da_cons (de_var 5) da_nil)))))) (ds_ret (de_move 2)))))⟩⟩) spec_greatest_steps
theorem b_broken_worths (T : Txt K mg) : Binds K T.fd_broken_worths ["cells", "ahead", "behind"] [] := T.F_broken_worths.binds (ps := ["cells", "ahead", "behind"]) fun _ _ _ _ _ _ us hl => match us, hl with | [_, _, _], _ => rfl
-- broken_worths
theorem ok_broken_worths (T : Txt K mg) : FnOk P w K mg base CX0 1 T.f_broken_worths T.fd_broken_worths ["cells", "ahead", "behind"] (liftSp K [] sp_broken_worths) :=
  okD (d := d_broken_worths) T.F_broken_worths sc_broken_worths (fun cdv A outer s H E hr => ⟨_, ⟨(pss_cons (ps_set (i := 3) sc_broken_worths.nd rfl (Or.inl rfl) (pe_lst pa_nil)) (pss_cons (ps_set (i := 4) sc_broken_worths.nd rfl (Or.inl rfl) pe_bl) (pss_cons (ps_for PassesOwn.never rfl (pi_enum rfl T.z_enumerate (pa_cons (pv 0) pa_nil)) (pg_tup rfl (pgs_cons (pg_name (i := 5) sc_broken_worths.nd rfl (Or.inl rfl)) (pgs_cons (pg_name (i := 6) sc_broken_worths.nd rfl (Or.inl rfl)) pgs_nil))) (pss_cons (ps_set (i := 7) sc_broken_worths.nd rfl (Or.inl rfl) (pe_callB (call_max2 rfl) rfl T.z_max (by decide +kernel) (pa_cons (pe_ix ix_tup (pv 6) pe_int (fun _ _ => rfl)) (pa_cons (pe_ix ix_list (pv 1) (pv 5) (fun _ _ => rfl)) pa_nil)))) (pss_cons (ps_if (pt_cmpR op_gt (pv 7) (pe_ix ix_tup (pv 6) pe_int (fun _ _ => rfl)) (nomark _)) (pss_one (ps_ret pe_non)) pss_nil) (pss_cons (ps_if (pt_cmpR op_lt (pv 7) (pe_ix ix_list (pv 2) (pv 5) (fun _ _ => rfl)) (nomark _)) (pss_one (ps_set (i := 4) sc_broken_worths.nd rfl (Or.inl rfl) pe_bl)) pss_nil) (pss_one (ps_expr (pe_bm PySem.F.plainAttrs_list PySem.F.slot_list_append PySem.F.type_list_append mt_append (pv 3) (pa_cons (pv 7) pa_nil)))))))) (pss_cons (ps_if (pt_val (pv 4)) (pss_one (ps_ret (pv 3))) pss_nil) (pss_one (ps_ret pe_non)))))),
    (ds_seq (ds_asg (de_lst da_nil) (dg_name 3)) (ds_seq (ds_asg (de_c (v := .bl false) rfl) (dg_name 4)) (ds_seq (ds_for (di_enum (da_cons (de_var 0) da_nil)) (dg_tup (dgs_cons (dg_name 5) (dgs_cons (dg_name 6) dgs_nil))) (ds_seq (ds_asg (de_cb (dc_I2 (g := mxI)) (da_cons (de_op do_ixT (de_var 6) (de_c (v := .int 0) rfl)) (da_cons (de_op do_ixL (de_var 1) (de_var 5)) da_nil))) (dg_name 7)) (ds_seq (ds_if (dt_test (de_op do_I0 (de_var 7) (de_op do_ixT (de_var 6) (de_c (v := .int 1) rfl)))) (ds_ret (de_c (v := .non) rfl)) ds_next) (ds_seq (ds_if (dt_test (de_op do_I0 (de_var 7) (de_op do_ixL (de_var 2) (de_var 5)))) (ds_asg (de_c (v := .bl true) rfl) (dg_name 4)) ds_next) (ds_drop (de_bm dm_append (de_var 3) (da_cons (de_var 7) da_nil))))))) (ds_seq (ds_if (dt_b (de_var 4)) (ds_ret (de_move 3)) ds_next) (ds_ret (de_c (v := .non) rfl))))))⟩⟩) spec_broken_worths
theorem b_kept_worths (T : Txt K mg) : Binds K T.fd_kept_worths ["cells", "ahead", "behind"] [] := T.F_kept_worths.binds (ps := ["cells", "ahead", "behind"]) fun _ _ _ _ _ _ us hl => match us, hl with | [_, _, _], _ => rfl
-- kept_worths
theorem ok_kept_worths (T : Txt K mg) : FnOk P w K mg base CX0 1 T.f_kept_worths T.fd_kept_worths ["cells", "ahead", "behind"] (liftSp K [] sp_kept_worths) :=
  okD (d := d_kept_worths) T.F_kept_worths sc_kept_worths (fun cdv A outer s H E hr => ⟨_, ⟨(pss_cons (ps_setLc (i := 3) (own := [("cell", 8)]) rfl sc_kept_worths.nd rfl rfl (sw_true rfl rfl rfl (by decide +kernel)) (pi_list (pv 0)) (blkOk_by (by exact rfl)) (fun _ _ _ _ _ => (pg_name (i := 8) sc_kept_worths.nd rfl (Or.inl rfl))) (fun _ _ _ _ _ => pts_nil) (fun _ _ _ _ _ => (pe_ix ix_tup (pv 8) pe_int (fun _ _ => rfl)))) (pss_cons (ps_for PassesOwn.never rfl (pi_enum rfl T.z_enumerate (pa_cons (pv 3) pa_nil)) (pg_tup rfl (pgs_cons (pg_name (i := 4) sc_kept_worths.nd rfl (Or.inl rfl)) (pgs_cons (pg_name (i := 5) sc_kept_worths.nd rfl (Or.inl rfl)) pgs_nil))) (pss_one (ps_if (pt_cmpR op_lt (pv 5) (pe_ix ix_list (pv 1) (pv 4) (fun _ _ => rfl)) (nomark _)) (pss_one (ps_ret (pv 3))) pss_nil))) (pss_cons (ps_setLc (i := 6) (own := [("cell", 8)]) rfl sc_kept_worths.nd rfl rfl (sw_true rfl rfl rfl (by decide +kernel)) (pi_list (pv 0)) (blkOk_by (by exact rfl)) (fun _ _ _ _ _ => (pg_name (i := 8) sc_kept_worths.nd rfl (Or.inl rfl))) (fun _ _ _ _ _ => pts_nil) (fun _ _ _ _ _ => (pe_ix ix_tup (pv 8) pe_int (fun _ _ => rfl)))) (pss_cons (ps_for PassesOwn.never rfl (pi_enum rfl T.z_enumerate (pa_cons (pv 6) pa_nil)) (pg_tup rfl (pgs_cons (pg_name (i := 4) sc_kept_worths.nd rfl (Or.inl rfl)) (pgs_cons (pg_name (i := 7) sc_kept_worths.nd rfl (Or.inl rfl)) pgs_nil))) (pss_one (ps_if (pt_cmpR op_lt (pv 7) (pe_ix ix_list (pv 2) (pv 4) (fun _ _ => rfl)) (nomark _)) (pss_one (ps_ret pe_non)) pss_nil))) (pss_one (ps_ret (pv 6))))))),
    (ds_seq (ds_asg (de_fix (de_lc (di_list (de_var 0)) (dg_name 8) dt_yes (de_op do_ixT (de_var 8) (de_c (v := .int 0) rfl)) (by decide) (by decide))) (dg_name 3)) (ds_seq (ds_for (di_enum (da_cons (de_var 3) da_nil)) (dg_tup (dgs_cons (dg_name 4) (dgs_cons (dg_name 5) dgs_nil))) (ds_if (dt_test (de_op do_I0 (de_var 5) (de_op do_ixL (de_var 1) (de_var 4)))) (ds_ret (de_var 3)) ds_next)) (ds_seq (ds_asg (de_fix (de_lc (di_list (de_var 0)) (dg_name 8) dt_yes (de_op do_ixT (de_var 8) (de_c (v := .int 1) rfl)) (by decide) (by decide))) (dg_name 6)) (ds_seq (ds_for (di_enum (da_cons (de_var 6) da_nil)) (dg_tup (dgs_cons (dg_name 4) (dgs_cons (dg_name 7) dgs_nil))) (ds_if (dt_test (de_op do_I0 (de_var 7) (de_op do_ixL (de_var 2) (de_var 4)))) (ds_ret (de_c (v := .non) rfl)) ds_next)) (ds_ret (de_var 6))))))⟩⟩) spec_kept_worths
theorem b__law_cell (T : Txt K mg) : Binds K T.fd__law_cell ["script", "k"] [] := T.F__law_cell.binds (ps := ["script", "k"]) fun _ _ _ _ _ _ us hl => match us, hl with | [_, _], _ => rfl
-- _law_cell
theorem ok__law_cell (T : Txt K mg) : FnOk P w K mg base CX0 1 T.f__law_cell T.fd__law_cell ["script", "k"] (liftSp K [] sp__law_cell) :=
  okD (d := d__law_cell) T.F__law_cell sc__law_cell (fun cdv A outer s H E hr => ⟨_, ⟨(pss_cons (ps_if (pt_cmpR op_lt (pv 1) (pe_callB call_len_seq rfl T.z_len PySem.boot_len (pa_cons (pv 0) pa_nil)) (nomark _)) (pss_one (ps_ret (pe_ix ix_list (pv 0) (pv 1) (fun _ _ => rfl)))) pss_nil) (pss_one (ps_ret pe_int))),
    (ds_seq (ds_if (dt_test (de_op do_I0 (de_var 1) (de_cb dc_len (da_cons (de_var 0) da_nil)))) (ds_ret (de_op do_ixL (de_var 0) (de_var 1))) ds_next) (ds_ret (de_c (v := .int 0) rfl)))⟩⟩) spec__law_cell
theorem b__law_marks (T : Txt K mg) : Binds K T.fd__law_marks ["many", "kind", "far", "number"] [] := T.F__law_marks.binds (ps := ["many", "kind", "far", "number"]) fun _ _ _ _ _ _ us hl => match us, hl with | [_, _, _, _], _ => rfl
-- _law_marks
theorem ok__law_marks (T : Txt K mg) : FnOk P w K mg base CX0 1 T.f__law_marks T.fd__law_marks ["many", "kind", "far", "number"] (liftSp K [] sp__law_marks) :=
  okD (d := d__law_marks) T.F__law_marks sc__law_marks (fun cdv A outer s H E hr => ⟨_, ⟨(pss_cons (ps_set (i := 4) sc__law_marks.nd rfl (Or.inr rfl) (pe_lst (pa_cons (pe_op op_add pe_int (pe_op op_mod (pv 3) pe_int)) pa_nil))) (pss_cons (ps_for PassesOwn.never rfl (pi_range2 rfl T.z_range (pa_cons pe_int (pa_cons (pv 0) pa_nil))) (pg_name (i := 5) sc__law_marks.nd rfl (Or.inl rfl)) (pss_cons (ps_set (i := 6) sc__law_marks.nd rfl (Or.inl rfl) pe_int) (pss_cons (ps_if (pt_cmpR op_eq (pv 1) pe_int (nomark _)) (pss_one (ps_set (i := 6) sc__law_marks.nd rfl (Or.inl rfl) (pe_op op_add pe_int (pe_op op_mod (pe_op op_add (pe_op op_fdiv (pv 3) pe_int) (pe_op op_mul (pv 5) (pv 5))) pe_int)))) pss_nil) (pss_cons (ps_if (pt_cmpR op_eq (pv 1) pe_int (nomark _)) (pss_one (ps_set (i := 6) sc__law_marks.nd rfl (Or.inl rfl) (pe_op op_add pe_int (pe_op op_mod (pe_op op_mul (pe_op op_mul (pv 3) pe_int) (pe_op op_add (pv 5) pe_int)) pe_int)))) pss_nil) (pss_one (ps_expr (pe_bm PySem.F.plainAttrs_list PySem.F.slot_list_append PySem.F.type_list_append mt_append (pv 4) (pa_cons (pe_op op_add (pe_ix ix_list (pv 4) (pe_un un_neg pe_int) (fun _ _ => rfl)) (pv 6)) pa_nil)))))))) (pss_cons (ps_if (pt_val (pv 2)) (pss_one (ps_set (i := 4) sc__law_marks.nd rfl (Or.inr rfl) (pe_lc (own := [("mark", 7)]) rfl sc__law_marks.nd (pi_list (pv 4)) (blkOk_by (by exact rfl)) (fun _ _ _ _ _ => (pg_name (i := 7) sc__law_marks.nd rfl (Or.inl rfl))) (fun _ _ _ _ _ => pts_nil) (fun _ _ _ _ _ => (pe_op op_sub (pe_op op_add (pv 7) pe_int) (pe_ix ix_list (pv 4) (pe_un un_neg pe_int) (fun _ _ => rfl))))))) pss_nil) (pss_one (ps_ret (pv 4)))))),
    (ds_seq (ds_asg (de_lst (da_cons (de_op do_I0 (de_c (v := .int 1) rfl) (de_op do_I (de_var 3) (de_c (v := .int 100000000000000000) rfl))) da_nil)) (dg_name 4)) (ds_seq (ds_for (di_rng2 (da_cons (de_c (v := .int 1) rfl) (da_cons (de_var 0) da_nil))) (dg_name 5) (ds_seq (ds_asg (de_c (v := .int 1) rfl) (dg_name 6)) (ds_seq (ds_if (dt_test (de_op do_eqS (de_var 1) (de_c (v := .int 1) rfl))) (ds_asg (de_op do_I0 (de_c (v := .int 1) rfl) (de_op do_I (de_op do_I0 (de_op do_I (de_var 3) (de_c (v := .int 7) rfl)) (de_op do_I (de_var 5) (de_var 5))) (de_c (v := .int 50) rfl))) (dg_name 6)) ds_next) (ds_seq (ds_if (dt_test (de_op do_eqS (de_var 1) (de_c (v := .int 2) rfl))) (ds_asg (de_op do_I0 (de_c (v := .int 1) rfl) (de_op do_I (de_op do_I (de_op do_I (de_var 3) (de_c (v := .int 48271) rfl)) (de_op do_I0 (de_var 5) (de_c (v := .int 1) rfl))) (de_c (v := .int 99999999999999997) rfl))) (dg_name 6)) ds_next) (ds_drop (de_bm dm_append (de_var 4) (da_cons (de_op do_I0 (de_op do_ixL (de_var 4) (de_neg (g := fun i => -i) (de_c (v := .int 1) rfl))) (de_var 6)) da_nil))))))) (ds_seq (ds_if (dt_b (de_var 2)) (ds_asg (de_lc (di_listp 4) (dg_name 7) dt_yes (de_op do_I0 (de_op do_I0 (de_var 7) (de_c (v := .int 999999999999999999) rfl)) (de_op do_ixL (de_var 4) (de_neg (g := fun i => -i) (de_c (v := .int 1) rfl)))) (by decide) (by decide)) (dg_name 4)) ds_next) (ds_ret (de_move 4)))))⟩⟩) spec__law_marks
theorem b__law_worth (T : Txt K mg) : Binds K T.fd__law_worth ["row", "number"] [] := T.F__law_worth.binds (ps := ["row", "number"]) fun _ _ _ _ _ _ us hl => match us, hl with | [_, _], _ => rfl
-- _law_worth
theorem ok__law_worth (T : Txt K mg) : FnOk P w K mg base CX0 1 T.f__law_worth T.fd__law_worth ["row", "number"] (liftSp K [] sp__law_worth) :=
  okD (d := d__law_worth) T.F__law_worth sc__law_worth (fun cdv A outer s H E hr => ⟨_, ⟨(pss_cons (ps_set (i := 2) sc__law_worth.nd rfl (Or.inl rfl) (pe_ix ix_list (pv 0) (pe_op op_mod (pv 1) (pe_callB call_len_seq rfl T.z_len PySem.boot_len (pa_cons (pv 0) pa_nil))) (fun _ _ => rfl))) (pss_cons (ps_set (i := 3) sc__law_worth.nd rfl (Or.inl rfl) (pe_op op_mod (pe_op op_fdiv (pv 1) pe_int) pe_int)) (pss_cons (ps_if (pt_cmpR op_lt (pv 3) pe_int (nomark _)) (pss_one (ps_ret (pe_callB (call_min2 rfl) rfl T.z_min (by decide +kernel) (pa_cons pe_int (pa_cons (pe_op op_add (pe_op op_sub (pv 2) pe_int) (pv 3)) pa_nil))))) pss_nil) (pss_cons (ps_if (pt_cmpR op_eq (pv 3) pe_int (nomark _)) (pss_one (ps_ret pe_int)) pss_nil) (pss_cons (ps_if (pt_cmpR op_eq (pv 3) pe_int (nomark _)) (pss_one (ps_ret pe_int)) pss_nil) (pss_one (ps_ret (pe_op op_mod (pe_op op_fdiv (pv 1) pe_int) pe_int)))))))),
    (ds_seq (ds_asg (de_op do_ixL (de_var 0) (de_op do_I (de_var 1) (de_cb dc_len (da_cons (de_var 0) da_nil)))) (dg_name 2)) (ds_seq (ds_asg (de_op do_I (de_op do_I (de_var 1) (de_c (v := .int 4) rfl)) (de_c (v := .int 6) rfl)) (dg_name 3)) (ds_seq (ds_if (dt_test (de_op do_I0 (de_var 3) (de_c (v := .int 3) rfl))) (ds_ret (de_cb (dc_I2 (g := mnI)) (da_cons (de_c (v := .int 999999999999999999) rfl) (da_cons (de_op do_I0 (de_op do_I0 (de_var 2) (de_c (v := .int 1) rfl)) (de_var 3)) da_nil)))) ds_next) (ds_seq (ds_if (dt_test (de_op do_eqS (de_var 3) (de_c (v := .int 3) rfl))) (ds_ret (de_c (v := .int 0) rfl)) ds_next) (ds_seq (ds_if (dt_test (de_op do_eqS (de_var 3) (de_c (v := .int 4) rfl))) (ds_ret (de_c (v := .int 999999999999999999) rfl)) ds_next) (ds_ret (de_op do_I (de_op do_I (de_var 1) (de_c (v := .int 24) rfl)) (de_c (v := .int 1000000000000000000) rfl))))))))⟩⟩) spec__law_worth
theorem b__law_columns (T : Txt K mg) : Binds K T.fd__law_columns ["steps", "worths"] [] := T.F__law_columns.binds (ps := ["steps", "worths"]) fun _ _ _ _ _ _ us hl => match us, hl with | [_, _], _ => rfl
-- _law_columns
theorem ok__law_columns (T : Txt K mg) : FnOk P w K mg base CX0 1 T.f__law_columns T.fd__law_columns ["steps", "worths"] (liftSp K [] sp__law_columns) :=
  okD (d := d__law_columns) T.F__law_columns sc__law_columns (fun cdv A outer s H E hr => ⟨_, ⟨(pss_cons (ps_set (i := 2) sc__law_columns.nd rfl (Or.inl rfl) pe_int) (pss_cons (ps_set (i := 3) sc__law_columns.nd rfl (Or.inl rfl) pe_int) (pss_cons (ps_for PassesOwn.never rfl (pi_range1 rfl T.z_range (pa_cons (pe_callB call_len_seq rfl T.z_len PySem.boot_len (pa_cons (pv 0) pa_nil)) pa_nil)) (pg_name (i := 4) sc__law_columns.nd rfl (Or.inl rfl)) (pss_one (ps_for PassesOwn.never rfl (pi_list (pe_ix ix_list (pv 0) (pv 4) (fun _ _ => rfl))) (pg_name (i := 5) sc__law_columns.nd rfl (Or.inl rfl)) (pss_cons (ps_if (pt_cmpR op_ge (pe_ix ix_list (pv 1) (pv 4) (fun _ _ => rfl)) (pv 5) (nomark _)) (pss_one (ps_set (i := 2) sc__law_columns.nd rfl (Or.inl rfl) (pe_op op_or (pv 2) (pe_op op_shl pe_int (pv 3))))) pss_nil) (pss_one (ps_set (i := 3) sc__law_columns.nd rfl (Or.inl rfl) (pe_op op_add (pv 3) pe_int))))))) (pss_one (ps_ret (pv 2)))))),
    (ds_seq (ds_asg (de_c (v := .int 0) rfl) (dg_name 2)) (ds_seq (ds_asg (de_c (v := .int 0) rfl) (dg_name 3)) (ds_seq (ds_for (di_rng1 (da_cons (de_cb dc_len (da_cons (de_var 0) da_nil)) da_nil)) (dg_name 4) (ds_for (di_list (de_op do_ixL (de_var 0) (de_var 4))) (dg_name 5) (ds_seq (ds_if (dt_test (de_op do_I0 (de_op do_ixL (de_var 1) (de_var 4)) (de_var 5))) (ds_asg (de_op do_I0 (de_var 2) (de_op do_I (de_c (v := .int 1) rfl) (de_var 3))) (dg_name 2)) ds_next) (ds_asg (de_op do_I0 (de_var 3) (de_c (v := .int 1) rfl)) (dg_name 3))))) (ds_ret (de_var 2)))))⟩⟩) spec__law_columns
theorem b__law_breaks (T : Txt K mg) : Binds K T.fd__law_breaks ["mask", "rule"] [] := T.F__law_breaks.binds (ps := ["mask", "rule"]) fun _ _ _ _ _ _ us hl => match us, hl with | [_, _], _ => rfl
-- _law_breaks
theorem ok__law_breaks (T : Txt K mg) : FnOk P w K mg base CX0 1 T.f__law_breaks T.fd__law_breaks ["mask", "rule"] (liftSp K [] sp__law_breaks) :=
  okD (d := d__law_breaks) T.F__law_breaks sc__law_breaks (fun cdv A outer s H E hr => ⟨_, ⟨(pss_one (ps_ret (pe_and (pe_cmpR op_eq (pe_op op_and (pe_ix ix_tup (pv 1) pe_int (fun _ _ => rfl)) (pv 0)) (pe_ix ix_tup (pv 1) pe_int (fun _ _ => rfl)) (nomark _)) (pe_one (pe_cmpR op_ne (pe_op op_and (pe_ix ix_tup (pv 1) pe_int (fun _ _ => rfl)) (pv 0)) (pe_ix ix_tup (pv 1) pe_int (fun _ _ => rfl)) (nomark _)))))),
    (ds_ret (de_andV (de_op do_eqS (de_op do_I0 (de_op do_ixT (de_var 1) (de_c (v := .int 0) rfl)) (de_var 0)) (de_op do_ixT (de_var 1) (de_c (v := .int 0) rfl))) (de_op do_neS (de_op do_I0 (de_op do_ixT (de_var 1) (de_c (v := .int 1) rfl)) (de_var 0)) (de_op do_ixT (de_var 1) (de_c (v := .int 1) rfl)))))⟩⟩) spec__law_breaks
theorem b__law_filling (T : Txt K mg) : Binds K T.fd__law_filling ["told", "cells"] [] := T.F__law_filling.binds (ps := ["told", "cells"]) fun _ _ _ _ _ _ us hl => match us, hl with | [_, _], _ => rfl
-- _law_filling
theorem ok__law_filling (T : Txt K mg) : FnOk P w K mg base CX0 1 T.f__law_filling T.fd__law_filling ["told", "cells"] (liftSp K [] sp__law_filling) :=
  okD (d := d__law_filling) T.F__law_filling sc__law_filling (fun cdv A outer s H E hr => ⟨_, ⟨(pss_cons (ps_if (PW.pt (pw_or (pt_not (pt_val (pe_callB call_isi rfl T.z_isinstance (by decide +kernel) (pa_cons (pv 0) (pa_cons (pe_bltn (v := .ty "list") rfl T.z_list (by decide +kernel) rfl) pa_nil))))) (pw_or1 (pt_cmpR op_ne (pe_callB call_len_seq rfl T.z_len PySem.boot_len (pa_cons (pv 0) pa_nil)) (pe_callB call_len_seq rfl T.z_len PySem.boot_len (pa_cons (pv 1) pa_nil)) (nomark _))))) (pss_one (ps_ret pe_bl)) pss_nil) (pss_cons (ps_for PassesOwn.never rfl (pi_range1 rfl T.z_range (pa_cons (pe_callB call_len_seq rfl T.z_len PySem.boot_len (pa_cons (pv 1) pa_nil)) pa_nil)) (pg_name (i := 2) sc__law_filling.nd rfl (Or.inl rfl)) (pss_cons (ps_if (PW.pt (pw_or (pt_not (pt_val (pe_callB call_isi rfl T.z_isinstance (by decide +kernel) (pa_cons (pe_ix ix_list (pv 0) (pv 2) (fun _ _ => rfl)) (pa_cons (pe_bltn (v := .ty "list") rfl T.z_list (by decide +kernel) rfl) pa_nil))))) (pw_or1 (pt_cmpR op_ne (pe_callB call_len_seq rfl T.z_len PySem.boot_len (pa_cons (pe_ix ix_list (pv 0) (pv 2) (fun _ _ => rfl)) pa_nil)) (pe_callB call_len_seq rfl T.z_len PySem.boot_len (pa_cons (pe_ix ix_list (pv 1) (pv 2) (fun _ _ => rfl)) pa_nil)) (nomark _))))) (pss_one (ps_ret pe_bl)) pss_nil) (pss_one (ps_for PassesOwn.never rfl (pi_range1 rfl T.z_range (pa_cons (pe_callB call_len_seq rfl T.z_len PySem.boot_len (pa_cons (pe_ix ix_list (pv 1) (pv 2) (fun _ _ => rfl)) pa_nil)) pa_nil)) (pg_name (i := 3) sc__law_filling.nd rfl (Or.inl rfl)) (pss_cons (ps_set (i := 4) sc__law_filling.nd rfl (Or.inl rfl) (pe_ix ix_list (pe_ix ix_list (pv 0) (pv 2) (fun _ _ => rfl)) (pv 3) (fun _ _ => rfl))) (pss_cons (ps_if (PW.pt (pw_or (pt_not (pt_val (pe_callB call_isi rfl T.z_isinstance (by decide +kernel) (pa_cons (pv 4) (pa_cons (pe_bltn (v := .ty "int") rfl T.z_int (by decide +kernel) rfl) pa_nil))))) (pw_or1 (pt_val (pe_callB call_isi rfl T.z_isinstance (by decide +kernel) (pa_cons (pv 4) (pa_cons (pe_bltn (v := .ty "bool") rfl T.z_bool (by decide +kernel) rfl) pa_nil))))))) (pss_one (ps_ret pe_bl)) pss_nil) (pss_one (ps_if (PW.pt (pw_or (pt_cmpR op_lt (pv 4) (pe_ix ix_tup (pe_ix ix_list (pe_ix ix_list (pv 1) (pv 2) (fun _ _ => rfl)) (pv 3) (fun _ _ => rfl)) pe_int (fun _ _ => rfl)) (nomark _)) (pw_or1 (pt_cmpR op_gt (pv 4) (pe_ix ix_tup (pe_ix ix_list (pe_ix ix_list (pv 1) (pv 2) (fun _ _ => rfl)) (pv 3) (fun _ _ => rfl)) pe_int (fun _ _ => rfl)) (nomark _))))) (pss_one (ps_ret pe_bl)) pss_nil)))))))) (pss_one (ps_ret pe_bl)))),
    (ds_seq (ds_if (dt_or (dt_not (dt_b (de_cb dc_isi (da_cons (de_var 0) (da_cons (de_ty "list") da_nil))))) (dt_test (de_op do_neS (de_cb dc_len (da_cons (de_var 0) da_nil)) (de_cb dc_len (da_cons (de_var 1) da_nil))))) (ds_ret (de_c (v := .bl false) rfl)) ds_next) (ds_seq (ds_for (di_rng1 (da_cons (de_cb dc_len (da_cons (de_var 1) da_nil)) da_nil)) (dg_name 2) (ds_seq (ds_if (dt_or (dt_not (dt_b (de_cb dc_isi (da_cons (de_op do_ixL (de_var 0) (de_var 2)) (da_cons (de_ty "list") da_nil))))) (dt_test (de_op do_neS (de_cb dc_len (da_cons (de_op do_ixL (de_var 0) (de_var 2)) da_nil)) (de_cb dc_len (da_cons (de_op do_ixL (de_var 1) (de_var 2)) da_nil))))) (ds_ret (de_c (v := .bl false) rfl)) ds_next) (ds_for (di_rng1 (da_cons (de_cb dc_len (da_cons (de_op do_ixL (de_var 1) (de_var 2)) da_nil)) da_nil)) (dg_name 3) (ds_seq (ds_asg (de_op do_ixL (de_op do_ixL (de_var 0) (de_var 2)) (de_var 3)) (dg_name 4)) (ds_seq (ds_if (dt_or (dt_not (dt_b (de_cb dc_isi (da_cons (de_var 4) (da_cons (de_ty "int") da_nil))))) (dt_b (de_cb dc_isi (da_cons (de_var 4) (da_cons (de_ty "bool") da_nil))))) (ds_ret (de_c (v := .bl false) rfl)) ds_next) (ds_if (dt_or (dt_test (de_op do_I0 (de_var 4) (de_op do_ixT (de_op do_ixL (de_op do_ixL (de_var 1) (de_var 2)) (de_var 3)) (de_c (v := .int 0) rfl)))) (dt_test (de_op do_I0 (de_var 4) (de_op do_ixT (de_op do_ixL (de_op do_ixL (de_var 1) (de_var 2)) (de_var 3)) (de_c (v := .int 1) rfl))))) (ds_ret (de_c (v := .bl false) rfl)) ds_next)))))) (ds_ret (de_c (v := .bl true) rfl))))⟩⟩) spec__law_filling
theorem b__law_side (T : Txt K mg) : Binds K T.fd__law_side ["number", "width", "single"] [] := T.F__law_side.binds (ps := ["number", "width", "single"]) fun _ _ _ _ _ _ us hl => match us, hl with | [_, _, _], _ => rfl
-- _law_side
theorem ok__law_side (T : Txt K mg) : FnOk P w K mg base CX0 1 T.f__law_side T.fd__law_side ["number", "width", "single"] (liftSp K [] sp__law_side) :=
  okD (d := d__law_side) T.F__law_side sc__law_side (fun cdv A outer s H E hr => ⟨_, ⟨(pss_cons (ps_if (PW.pt (pw_and (pt_val (pv 2)) (pw_and1 (pt_cmpR op_gt (pv 1) pe_int (nomark _))))) (pss_one (ps_ret (pe_op op_shl pe_int (pe_op op_mod (pv 0) (pv 1))))) pss_nil) (pss_one (ps_ret (pe_op op_mod (pv 0) (pe_op op_shl pe_int (pv 1)))))),
    (ds_seq (ds_if (dt_and (dt_b (de_var 2)) (dt_test (de_op do_I0 (de_var 1) (de_c (v := .int 0) rfl)))) (ds_ret (de_op do_I (de_c (v := .int 1) rfl) (de_op do_I (de_var 0) (de_var 1)))) ds_next) (ds_ret (de_op do_I (de_var 0) (de_op do_I (de_c (v := .int 1) rfl) (de_var 1)))))⟩⟩) spec__law_side
theorem b__law_copy (T : Txt K mg) : Binds K T.fd__law_copy ["lists"] [] := T.F__law_copy.binds (ps := ["lists"]) fun _ _ _ _ _ _ us hl => match us, hl with | [_], _ => rfl
-- _law_copy
theorem ok__law_copy (T : Txt K mg) : FnOk P w K mg base CX0 1 T.f__law_copy T.fd__law_copy ["lists"] (liftSp K [] sp__law_copy) :=
  okD (d := d__law_copy) T.F__law_copy sc__law_copy (fun cdv A outer s H E hr => ⟨_, ⟨(pss_one (ps_ret (pe_lc (own := [("row", 1)]) rfl sc__law_copy.nd (pi_list (pv 0)) (blkOk_by (by exact rfl)) (fun _ _ _ _ _ => (pg_name (i := 1) sc__law_copy.nd rfl (Or.inl rfl))) (fun _ _ _ _ _ => pts_nil) (fun _ _ _ _ _ => (pe_callTy call_list_of rfl T.z_list (by decide +kernel) (pa_cons (pv 1) pa_nil)))))),
    (ds_ret (de_lc (di_list (de_var 0)) (dg_name 1) dt_yes (de_fix (de_cb dc_list (da_cons (de_var 1) da_nil))) (by decide) (by decide)))⟩⟩) spec__law_copy
theorem b__law_sets (T : Txt K mg) : Binds K T.fd__law_sets ["steps", "row"] [] := T.F__law_sets.binds (ps := ["steps", "row"]) fun _ _ _ _ _ _ us hl => match us, hl with | [_, _], _ => rfl
-- _law_sets
theorem ok__law_sets (T : Txt K mg) : FnOk P w K mg base CX0 1 T.f__law_sets T.fd__law_sets ["steps", "row"] (liftSp K [] sp__law_sets) :=
  okD (d := d__law_sets) T.F__law_sets sc__law_sets (fun cdv A outer s H E hr => ⟨_, ⟨(pss_cons (ps_set (i := 2) sc__law_sets.nd rfl (Or.inl rfl) (pe_lst (pa_cons pe_int pa_nil))) (pss_cons (ps_set (i := 3) sc__law_sets.nd rfl (Or.inl rfl) pe_int) (pss_cons (ps_for PassesOwn.never rfl (pi_range1 rfl T.z_range (pa_cons (pe_callB call_len_seq rfl T.z_len PySem.boot_len (pa_cons (pv 0) pa_nil)) pa_nil)) (pg_name (i := 4) sc__law_sets.nd rfl (Or.inl rfl)) (pss_cons (ps_set (i := 5) sc__law_sets.nd rfl (Or.inl rfl) (pe_lst pa_nil)) (pss_cons (ps_set (i := 6) sc__law_sets.nd rfl (Or.inl rfl) pe_int) (pss_cons (ps_for PassesOwn.never rfl (pi_range1 rfl T.z_range (pa_cons (pe_op op_add (pe_callB call_len_seq rfl T.z_len PySem.boot_len (pa_cons (pe_ix ix_list (pv 0) (pv 4) (fun _ _ => rfl)) pa_nil)) pe_int) pa_nil)) (pg_name (i := 7) sc__law_sets.nd rfl (Or.inl rfl)) (pss_cons (ps_if (pt_cmpR op_gt (pv 7) pe_int (nomark _)) (pss_one (ps_set (i := 6) sc__law_sets.nd rfl (Or.inl rfl) (pe_op op_or (pv 6) (pe_op op_shl pe_int (pe_op op_sub (pe_op op_add (pv 3) (pv 7)) pe_int))))) pss_nil) (pss_cons (ps_set (i := 8) sc__law_sets.nd rfl (Or.inl rfl) (pe_or (pe_cmpR op_eq (pv 7) (pe_callB call_len_seq rfl T.z_len PySem.boot_len (pa_cons (pe_ix ix_list (pv 0) (pv 4) (fun _ _ => rfl)) pa_nil)) (nomark _)) (pe_one (pe_cmpR op_lt (pe_ix ix_tup (pe_ix ix_list (pv 1) (pv 4) (fun _ _ => rfl)) pe_int (fun _ _ => rfl)) (pe_ix ix_list (pe_ix ix_list (pv 0) (pv 4) (fun _ _ => rfl)) (pv 7) (fun _ _ => rfl)) (nomark _))))) (pss_one (ps_if (PW.pt (pw_and (pt_val (pv 8)) (pw_and1 (PW.pt (pw_or (pt_cmpR op_eq (pv 7) pe_int (nomark _)) (pw_or1 (pt_cmpR op_ge (pe_ix ix_tup (pe_ix ix_list (pv 1) (pv 4) (fun _ _ => rfl)) pe_int (fun _ _ => rfl)) (pe_ix ix_list (pe_ix ix_list (pv 0) (pv 4) (fun _ _ => rfl)) (pe_op op_sub (pv 7) pe_int) (fun _ _ => rfl)) (nomark _)))))))) (pss_one (ps_expr (pe_bm PySem.F.plainAttrs_list PySem.F.slot_list_append PySem.F.type_list_append mt_append (pv 5) (pa_cons (pv 6) pa_nil)))) pss_nil))))) (pss_cons (ps_set (i := 3) sc__law_sets.nd rfl (Or.inl rfl) (pe_op op_add (pv 3) (pe_callB call_len_seq rfl T.z_len PySem.boot_len (pa_cons (pe_ix ix_list (pv 0) (pv 4) (fun _ _ => rfl)) pa_nil)))) (pss_cons (ps_set (i := 9) sc__law_sets.nd rfl (Or.inl rfl) (pe_lst pa_nil)) (pss_cons (ps_for PassesOwn.never rfl (pi_list (pv 2)) (pg_name (i := 10) sc__law_sets.nd rfl (Or.inr rfl)) (pss_one (ps_set (i := 9) sc__law_sets.nd rfl (Or.inl rfl) (pe_op op_cat (pv 9) (pe_lc (own := [("part", 6)]) rfl sc__law_sets.nd (pi_list (pv 5)) (blkOk_by (by exact rfl)) (fun _ _ _ _ _ => (pg_name (i := 6) sc__law_sets.nd rfl (Or.inl rfl))) (fun _ _ _ _ _ => pts_nil) (fun _ _ _ _ _ => (pe_op op_or (pv 10) (pv 6)))))))) (pss_one (ps_set (i := 2) sc__law_sets.nd rfl (Or.inl rfl) (pv 9)))))))))) (pss_one (ps_ret (pv 2)))))),
    (ds_seq (ds_asg (de_fix (de_lst (da_cons (de_c (v := .int 0) rfl) da_nil))) (dg_name 2)) (ds_seq (ds_asg (de_c (v := .int 0) rfl) (dg_name 3)) (ds_seq (ds_for (di_rng1 (da_cons (de_cb dc_len (da_cons (de_var 0) da_nil)) da_nil)) (dg_name 4) (ds_seq (ds_asg (de_lst da_nil) (dg_name 5)) (ds_seq (ds_asg (de_c (v := .int 0) rfl) (dg_name 6)) (ds_seq (ds_for (di_rng1 (da_cons (de_op do_I0 (de_cb dc_len (da_cons (de_op do_ixL (de_var 0) (de_var 4)) da_nil)) (de_c (v := .int 1) rfl)) da_nil)) (dg_name 7) (ds_seq (ds_if (dt_test (de_op do_I0 (de_var 7) (de_c (v := .int 0) rfl))) (ds_asg (de_op do_I0 (de_var 6) (de_op do_I (de_c (v := .int 1) rfl) (de_op do_I0 (de_op do_I0 (de_var 3) (de_var 7)) (de_c (v := .int 1) rfl)))) (dg_name 6)) ds_next) (ds_seq (ds_asg (de_orV (de_op do_eqS (de_var 7) (de_cb dc_len (da_cons (de_op do_ixL (de_var 0) (de_var 4)) da_nil))) (de_op do_I0 (de_op do_ixT (de_op do_ixL (de_var 1) (de_var 4)) (de_c (v := .int 0) rfl)) (de_op do_ixL (de_op do_ixL (de_var 0) (de_var 4)) (de_var 7)))) (dg_name 8)) (ds_if (dt_and (dt_b (de_var 8)) (dt_or (dt_test (de_op do_eqS (de_var 7) (de_c (v := .int 0) rfl))) (dt_test (de_op do_I0 (de_op do_ixT (de_op do_ixL (de_var 1) (de_var 4)) (de_c (v := .int 1) rfl)) (de_op do_ixL (de_op do_ixL (de_var 0) (de_var 4)) (de_op do_I0 (de_var 7) (de_c (v := .int 1) rfl))))))) (ds_drop (de_bm dm_append (de_var 5) (da_cons (de_var 6) da_nil))) ds_next)))) (ds_seq (ds_asg (de_op do_I0 (de_var 3) (de_cb dc_len (da_cons (de_op do_ixL (de_var 0) (de_var 4)) da_nil))) (dg_name 3)) (ds_seq (ds_asg (de_fix (de_lst da_nil)) (dg_name 9)) (ds_seq (ds_for (di_list (de_var 2)) (dg_name 10) (ds_asg (de_fix (de_op do_cat (de_var 9) (de_lc (di_listp 5) (dg_name 6) dt_yes (de_op do_I0 (de_var 10) (de_var 6)) (by decide) (by decide)))) (dg_name 9))) (ds_asg (de_var 9) (dg_name 2))))))))) (ds_ret (de_var 2)))))⟩⟩) spec__law_sets
theorem b_spoiling (T : Txt K mg) : Binds K T.fd_spoiling ["steps", "cells", "rule"] [] := T.F_spoiling.binds (ps := ["steps", "cells", "rule"]) fun _ _ _ _ _ _ us hl => match us, hl with | [_, _, _], _ => rfl
-- spoiling
theorem ok_spoiling (T : Txt K mg) : FnOk P w K mg base CX0 2 T.f_spoiling T.fd_spoiling ["steps", "cells", "rule"] (liftSp K [] sp_spoiling) :=
  okD (d := d_spoiling) T.F_spoiling sc_spoiling (fun cdv A outer s H E hr => ⟨_, ⟨(pss_cons (ps_set (i := 3) sc_spoiling.nd rfl (Or.inl rfl) (pe_call (ok_greatest_steps T) (hr.mono (by decide)) rfl T.m_greatest_steps T.F_greatest_steps.kp (b_greatest_steps T) .nil pass0 (pa_cons (pv 0) (pa_cons (pe_ix ix_tup (pv 2) pe_int (fun _ _ => rfl)) pa_nil)))) (pss_cons (ps_set (i := 4) sc_spoiling.nd rfl (Or.inl rfl) (pe_call (ok_greatest_steps T) (hr.mono (by decide)) rfl T.m_greatest_steps T.F_greatest_steps.kp (b_greatest_steps T) .nil pass0 (pa_cons (pv 0) (pa_cons (pe_ix ix_tup (pv 2) pe_int (fun _ _ => rfl)) pa_nil)))) (pss_cons (ps_for PassesOwn.never rfl (pi_enum rfl T.z_enumerate (pa_cons (pv 1) pa_nil)) (pg_tup rfl (pgs_cons (pg_name (i := 5) sc_spoiling.nd rfl (Or.inl rfl)) (pgs_cons (pg_name (i := 6) sc_spoiling.nd rfl (Or.inl rfl)) pgs_nil))) (pss_cons (ps_set (i := 7) sc_spoiling.nd rfl (Or.inl rfl) (pe_call (ok_broken_worths T) (hr.mono (by decide)) rfl T.m_broken_worths T.F_broken_worths.kp (b_broken_worths T) .nil pass0 (pa_cons (pv 6) (pa_cons (pv 3) (pa_cons (pv 4) pa_nil))))) (pss_one (ps_if (pt_cmpR op_notN (pv 7) pe_non (nomark _)) (pss_cons (ps_setLc (i := 8) (own := [("other", 9)]) rfl sc_spoiling.nd rfl rfl (sw_true rfl rfl rfl (by decide +kernel)) (pi_list (pv 1)) (blkOk_by (by exact rfl)) (fun _ _ _ _ _ => (pg_name (i := 9) sc_spoiling.nd rfl (Or.inl rfl))) (fun _ _ _ _ _ => pts_nil) (fun _ _ _ _ _ => (pe_lc (own := [("cell", 10)]) rfl sc_spoiling.nd (pi_list (pv 9)) (blkOk_by (by exact rfl)) (fun _ _ _ _ _ => (pg_name (i := 10) sc_spoiling.nd rfl (Or.inl rfl))) (fun _ _ _ _ _ => pts_nil) (fun _ _ _ _ _ => (pe_ix ix_tup (pv 10) pe_int (fun _ _ => rfl)))))) (pss_cons (ps_asg (pv 7) (pg_sub (pv 8) (pv 5) set_list)) (pss_one (ps_ret (pv 8))))) pss_nil)))) (pss_one (ps_ret pe_non))))),
    (ds_seq (ds_asg (de_fix (de_call (dvs := []) (da_cons (de_var 0) (da_cons (de_op do_ixT (de_var 2) (de_c (v := .int 0) rfl)) da_nil)) rfl)) (dg_name 3)) (ds_seq (ds_asg (de_fix (de_call (dvs := []) (da_cons (de_var 0) (da_cons (de_op do_ixT (de_var 2) (de_c (v := .int 1) rfl)) da_nil)) rfl)) (dg_name 4)) (ds_seq (ds_for (di_enum (da_cons (de_var 1) da_nil)) (dg_tup (dgs_cons (dg_name 5) (dgs_cons (dg_name 6) dgs_nil))) (ds_seq (ds_asg (de_fix (de_call (dvs := []) (da_cons (de_var 6) (da_cons (de_var 3) (da_cons (de_var 4) da_nil))) rfl)) (dg_name 7)) (ds_if (dt_test (de_op do_notN (de_var 7) (de_c (v := .non) rfl))) (ds_seq (ds_asg (de_lc (di_list (de_var 1)) (dg_name 9) dt_yes (de_fix (de_lc (di_list (de_var 9)) (dg_name 10) dt_yes (de_op do_ixT (de_var 10) (de_c (v := .int 0) rfl)) (by decide) (by decide))) (by decide) (by decide)) (dg_name 8)) (ds_seq (ds_asg (de_var 7) (dg_setL (de_var 8) (de_var 5))) (ds_ret (de_move 8)))) ds_next))) (ds_ret (de_c (v := .non) rfl)))))⟩⟩) spec_spoiling
theorem b_mending (T : Txt K mg) : Binds K T.fd_mending ["steps", "cells", "rule"] [] := T.F_mending.binds (ps := ["steps", "cells", "rule"]) fun _ _ _ _ _ _ us hl => match us, hl with | [_, _, _], _ => rfl
-- mending
theorem ok_mending (T : Txt K mg) : FnOk P w K mg base CX0 2 T.f_mending T.fd_mending ["steps", "cells", "rule"] (liftSp K [] sp_mending) :=
  okD (d := d_mending) T.F_mending sc_mending (fun cdv A outer s H E hr => ⟨_, ⟨(pss_cons (ps_set (i := 3) sc_mending.nd rfl (Or.inl rfl) (pe_call (ok_greatest_steps T) (hr.mono (by decide)) rfl T.m_greatest_steps T.F_greatest_steps.kp (b_greatest_steps T) .nil pass0 (pa_cons (pv 0) (pa_cons (pe_ix ix_tup (pv 2) pe_int (fun _ _ => rfl)) pa_nil)))) (pss_cons (ps_set (i := 4) sc_mending.nd rfl (Or.inl rfl) (pe_call (ok_greatest_steps T) (hr.mono (by decide)) rfl T.m_greatest_steps T.F_greatest_steps.kp (b_greatest_steps T) .nil pass0 (pa_cons (pv 0) (pa_cons (pe_ix ix_tup (pv 2) pe_int (fun _ _ => rfl)) pa_nil)))) (pss_cons (ps_set (i := 5) sc_mending.nd rfl (Or.inl rfl) (pe_lst pa_nil)) (pss_cons (ps_for PassesOwn.never rfl (pi_list (pv 1)) (pg_name (i := 6) sc_mending.nd rfl (Or.inl rfl)) (pss_cons (ps_set (i := 7) sc_mending.nd rfl (Or.inl rfl) (pe_call (ok_kept_worths T) (hr.mono (by decide)) rfl T.m_kept_worths T.F_kept_worths.kp (b_kept_worths T) .nil pass0 (pa_cons (pv 6) (pa_cons (pv 3) (pa_cons (pv 4) pa_nil))))) (pss_cons (ps_if (pt_cmpR op_isN (pv 7) pe_non (nomark _)) (pss_one (ps_ret pe_non)) pss_nil) (pss_one (ps_expr (pe_bm PySem.F.plainAttrs_list PySem.F.slot_list_append PySem.F.type_list_append mt_append (pv 5) (pa_cons (pv 7) pa_nil))))))) (pss_one (ps_ret (pv 5))))))),
    (ds_seq (ds_asg (de_fix (de_call (dvs := []) (da_cons (de_var 0) (da_cons (de_op do_ixT (de_var 2) (de_c (v := .int 0) rfl)) da_nil)) rfl)) (dg_name 3)) (ds_seq (ds_asg (de_fix (de_call (dvs := []) (da_cons (de_var 0) (da_cons (de_op do_ixT (de_var 2) (de_c (v := .int 1) rfl)) da_nil)) rfl)) (dg_name 4)) (ds_seq (ds_asg (de_lst da_nil) (dg_name 5)) (ds_seq (ds_for (di_list (de_var 1)) (dg_name 6) (ds_seq (ds_asg (de_fix (de_call (dvs := []) (da_cons (de_var 6) (da_cons (de_var 3) (da_cons (de_var 4) da_nil))) rfl)) (dg_name 7)) (ds_seq (ds_if (dt_test (de_op do_isN (de_var 7) (de_c (v := .non) rfl))) (ds_ret (de_c (v := .non) rfl)) ds_next) (ds_drop (de_bm dm_append (de_var 5) (da_cons (de_var 7) da_nil)))))) (ds_ret (de_move 5))))))⟩⟩) spec_mending
theorem b__law_steps (T : Txt K mg) : Binds K T.fd__law_steps ["script", "many", "at"] [] := T.F__law_steps.binds (ps := ["script", "many", "at"]) fun _ _ _ _ _ _ us hl => match us, hl with | [_, _, _], _ => rfl
-- _law_steps
theorem ok__law_steps (T : Txt K mg) : FnOk P w K mg base CX0 2 T.f__law_steps T.fd__law_steps ["script", "many", "at"] (liftSp K [] sp__law_steps) :=
  okD (d := d__law_steps) T.F__law_steps sc__law_steps (fun cdv A outer s H E hr => ⟨_, ⟨(pss_cons (ps_set (i := 3) sc__law_steps.nd rfl (Or.inl rfl) (pe_lst pa_nil)) (pss_cons (ps_set (i := 4) sc__law_steps.nd rfl (Or.inl rfl) pe_int) (pss_cons (ps_for PassesOwn.never rfl (pi_range1 rfl T.z_range (pa_cons (pv 1) pa_nil)) (pg_name (i := 5) sc__law_steps.nd rfl (Or.inl rfl)) (pss_cons (ps_set (i := 6) sc__law_steps.nd rfl (Or.inl rfl) (pe_call (ok__law_cell T) (hr.mono (by decide)) rfl T.m__law_cell T.F__law_cell.kp (b__law_cell T) .nil pass0 (pa_cons (pv 0) (pa_cons (pe_op op_add (pv 2) (pe_op op_mul pe_int (pv 5))) pa_nil)))) (pss_cons (ps_set (i := 7) sc__law_steps.nd rfl (Or.inl rfl) (pe_callB (call_min2 rfl) rfl T.z_min (by decide +kernel) (pa_cons (pv 4) (pa_cons (pe_op op_add pe_int (pe_op op_mod (pv 6) pe_int)) pa_nil)))) (pss_cons (ps_if (pt_cmpR op_gt (pv 7) pe_int (nomark _)) (pss_cons (ps_set (i := 8) sc__law_steps.nd rfl (Or.inl rfl) (pe_call (ok__law_cell T) (hr.mono (by decide)) rfl T.m__law_cell T.F__law_cell.kp (b__law_cell T) .nil pass0 (pa_cons (pv 0) (pa_cons (pe_op op_add (pe_op op_add (pv 2) (pe_op op_mul pe_int (pv 5))) pe_int) pa_nil)))) (pss_one (ps_expr (pe_bm PySem.F.plainAttrs_list PySem.F.slot_list_append PySem.F.type_list_append mt_append (pv 3) (pa_cons (pe_call (ok__law_marks T) (hr.mono (by decide)) rfl T.m__law_marks T.F__law_marks.kp (b__law_marks T) .nil pass0 (pa_cons (pv 7) (pa_cons (pe_op op_mod (pe_op op_fdiv (pv 6) pe_int) pe_int) (pa_cons (pe_cmpR op_eq (pe_op op_mod (pe_op op_fdiv (pv 6) pe_int) pe_int) pe_int (nomark _)) (pa_cons (pv 8) pa_nil))))) pa_nil))))) pss_nil) (pss_one (ps_set (i := 4) sc__law_steps.nd rfl (Or.inl rfl) (pe_op op_sub (pv 4) (pv 7)))))))) (pss_one (ps_ret (pv 3)))))),
    (ds_seq (ds_asg (de_lst da_nil) (dg_name 3)) (ds_seq (ds_asg (de_c (v := .int 6) rfl) (dg_name 4)) (ds_seq (ds_for (di_rng1 (da_cons (de_var 1) da_nil)) (dg_name 5) (ds_seq (ds_asg (de_call (dvs := []) (da_cons (de_var 0) (da_cons (de_op do_I0 (de_var 2) (de_op do_I (de_c (v := .int 2) rfl) (de_var 5))) da_nil)) rfl) (dg_name 6)) (ds_seq (ds_asg (de_cb (dc_I2 (g := mnI)) (da_cons (de_var 4) (da_cons (de_op do_I0 (de_c (v := .int 1) rfl) (de_op do_I (de_var 6) (de_c (v := .int 4) rfl))) da_nil))) (dg_name 7)) (ds_seq (ds_if (dt_test (de_op do_I0 (de_var 7) (de_c (v := .int 0) rfl))) (ds_seq (ds_asg (de_call (dvs := []) (da_cons (de_var 0) (da_cons (de_op do_I0 (de_op do_I0 (de_var 2) (de_op do_I (de_c (v := .int 2) rfl) (de_var 5))) (de_c (v := .int 1) rfl)) da_nil)) rfl) (dg_name 8)) (ds_drop (de_bm dm_append (de_var 3) (da_cons (de_fix (de_call (dvs := []) (da_cons (de_var 7) (da_cons (de_op do_I (de_op do_I (de_var 6) (de_c (v := .int 4) rfl)) (de_c (v := .int 3) rfl)) (da_cons (de_op do_eqS (de_op do_I (de_op do_I (de_var 6) (de_c (v := .int 12) rfl)) (de_c (v := .int 4) rfl)) (de_c (v := .int 1) rfl)) (da_cons (de_var 8) da_nil)))) rfl)) da_nil)))) ds_next) (ds_asg (de_op do_I0 (de_var 4) (de_var 7)) (dg_name 4)))))) (ds_ret (de_move 3)))))⟩⟩) spec__law_steps
theorem b__law_gap (T : Txt K mg) : Binds K T.fd__law_gap ["row", "one", "other"] [] := T.F__law_gap.binds (ps := ["row", "one", "other"]) fun _ _ _ _ _ _ us hl => match us, hl with | [_, _, _], _ => rfl
-- _law_gap
theorem ok__law_gap (T : Txt K mg) : FnOk P w K mg base CX0 2 T.f__law_gap T.fd__law_gap ["row", "one", "other"] (liftSp K [] sp__law_gap) :=
  okD (d := d__law_gap) T.F__law_gap sc__law_gap (fun cdv A outer s H E hr => ⟨_, ⟨(pss_cons (ps_set (i := 3) sc__law_gap.nd rfl (Or.inl rfl) (pe_call (ok__law_worth T) (hr.mono (by decide)) rfl T.m__law_worth T.F__law_worth.kp (b__law_worth T) .nil pass0 (pa_cons (pv 0) (pa_cons (pv 1) pa_nil)))) (pss_cons (ps_if (pt_cmpR op_eq (pe_op op_mod (pv 2) pe_int) pe_int (nomark _)) (pss_one (ps_ret (pe_tup (pa_cons (pv 3) (pa_cons (pv 3) pa_nil))))) pss_nil) (pss_cons (ps_set (i := 4) sc__law_gap.nd rfl (Or.inl rfl) (pe_call (ok__law_worth T) (hr.mono (by decide)) rfl T.m__law_worth T.F__law_worth.kp (b__law_worth T) .nil pass0 (pa_cons (pv 0) (pa_cons (pv 2) pa_nil)))) (pss_one (ps_ret (pe_tup (pa_cons (pe_callB (call_min2 rfl) rfl T.z_min (by decide +kernel) (pa_cons (pv 3) (pa_cons (pv 4) pa_nil))) (pa_cons (pe_callB (call_max2 rfl) rfl T.z_max (by decide +kernel) (pa_cons (pv 3) (pa_cons (pv 4) pa_nil))) pa_nil)))))))),
    (ds_seq (ds_asg (de_call (dvs := []) (da_cons (de_var 0) (da_cons (de_var 1) da_nil)) rfl) (dg_name 3)) (ds_seq (ds_if (dt_test (de_op do_eqS (de_op do_I (de_var 2) (de_c (v := .int 3) rfl)) (de_c (v := .int 0) rfl))) (ds_ret (de_tup (da_cons (de_var 3) (da_cons (de_var 3) da_nil)))) ds_next) (ds_seq (ds_asg (de_call (dvs := []) (da_cons (de_var 0) (da_cons (de_var 2) da_nil)) rfl) (dg_name 4)) (ds_ret (de_tup (da_cons (de_cb (dc_I2 (g := mnI)) (da_cons (de_var 3) (da_cons (de_var 4) da_nil))) (da_cons (de_cb (dc_I2 (g := mxI)) (da_cons (de_var 3) (da_cons (de_var 4) da_nil))) da_nil)))))))⟩⟩) spec__law_gap
theorem b__law_broken (T : Txt K mg) : Binds K T.fd__law_broken ["steps", "filling", "rule"] [] := T.F__law_broken.binds (ps := ["steps", "filling", "rule"]) fun _ _ _ _ _ _ us hl => match us, hl with | [_, _, _], _ => rfl
-- _law_broken
theorem ok__law_broken (T : Txt K mg) : FnOk P w K mg base CX0 2 T.f__law_broken T.fd__law_broken ["steps", "filling", "rule"] (liftSp K [] sp__law_broken) :=
  okD (d := d__law_broken) T.F__law_broken sc__law_broken (fun cdv A outer s H E hr => ⟨_, ⟨(pss_cons (ps_for PassesOwn.never rfl (pi_list (pv 1)) (pg_name (i := 3) sc__law_broken.nd rfl (Or.inl rfl)) (pss_one (ps_if (pt_val (pe_call (ok__law_breaks T) (hr.mono (by decide)) rfl T.m__law_breaks T.F__law_breaks.kp (b__law_breaks T) .nil pass0 (pa_cons (pe_call (ok__law_columns T) (hr.mono (by decide)) rfl T.m__law_columns T.F__law_columns.kp (b__law_columns T) .nil pass0 (pa_cons (pv 0) (pa_cons (pv 3) pa_nil))) (pa_cons (pv 2) pa_nil)))) (pss_one (ps_ret pe_bl)) pss_nil))) (pss_one (ps_ret pe_bl))),
    (ds_seq (ds_for (di_list (de_var 1)) (dg_name 3) (ds_if (dt_b (de_call (dvs := []) (da_cons (de_call (dvs := []) (da_cons (de_var 0) (da_cons (de_var 3) da_nil)) rfl) (da_cons (de_var 2) da_nil)) rfl)) (ds_ret (de_c (v := .bl true) rfl)) ds_next)) (ds_ret (de_c (v := .bl false) rfl)))⟩⟩) spec__law_broken
theorem b__law_drawn_rule (T : Txt K mg) : Binds K T.fd__law_drawn_rule ["script", "steps"] [] := T.F__law_drawn_rule.binds (ps := ["script", "steps"]) fun _ _ _ _ _ _ us hl => match us, hl with | [_, _], _ => rfl
-- _law_drawn_rule
theorem ok__law_drawn_rule (T : Txt K mg) : FnOk P w K mg base CX0 2 T.f__law_drawn_rule T.fd__law_drawn_rule ["script", "steps"] (liftSp K [] sp__law_drawn_rule) :=
  okD (d := d__law_drawn_rule) T.F__law_drawn_rule sc__law_drawn_rule (fun cdv A outer s H E hr => ⟨_, ⟨(pss_cons (ps_set (i := 2) sc__law_drawn_rule.nd rfl (Or.inl rfl) (pe_callB (cr_sum rfl) rfl T.z_sum (by decide +kernel) (pa_cons (pe_lc (own := [("row", 5)]) rfl sc__law_drawn_rule.nd (pi_list (pv 1)) (blkOk_by (by exact rfl)) (fun _ _ _ _ _ => (pg_name (i := 5) sc__law_drawn_rule.nd rfl (Or.inl rfl))) (fun _ _ _ _ _ => pts_nil) (fun _ _ _ _ _ => (pe_callB call_len_seq rfl T.z_len PySem.boot_len (pa_cons (pv 5) pa_nil)))) pa_nil))) (pss_cons (ps_set (i := 3) sc__law_drawn_rule.nd rfl (Or.inl rfl) (pe_op op_mod (pe_call (ok__law_cell T) (hr.mono (by decide)) rfl T.m__law_cell T.F__law_cell.kp (b__law_cell T) .nil pass0 (pa_cons (pv 0) (pa_cons pe_int pa_nil))) pe_int)) (pss_cons (ps_set (i := 4) sc__law_drawn_rule.nd rfl (Or.inl rfl) (pe_call (ok__law_side T) (hr.mono (by decide)) rfl T.m__law_side T.F__law_side.kp (b__law_side T) .nil pass0 (pa_cons (pe_call (ok__law_cell T) (hr.mono (by decide)) rfl T.m__law_cell T.F__law_cell.kp (b__law_cell T) .nil pass0 (pa_cons (pv 0) (pa_cons pe_int pa_nil))) (pa_cons (pv 2) (pa_cons (pe_cmpR op_eq (pe_op op_mod (pv 3) pe_int) pe_int (nomark _)) pa_nil))))) (pss_one (ps_ret (pe_tup (pa_cons (pv 4) (pa_cons (pe_call (ok__law_side T) (hr.mono (by decide)) rfl T.m__law_side T.F__law_side.kp (b__law_side T) .nil pass0 (pa_cons (pe_call (ok__law_cell T) (hr.mono (by decide)) rfl T.m__law_cell T.F__law_cell.kp (b__law_cell T) .nil pass0 (pa_cons (pv 0) (pa_cons pe_int pa_nil))) (pa_cons (pv 2) (pa_cons (pe_cmpR op_lt (pv 3) pe_int (nomark _)) pa_nil)))) pa_nil)))))))),
    (ds_seq (ds_asg (de_cb dc_sum (da_cons (de_lc (di_list (de_var 1)) (dg_name 5) dt_yes (de_cb dc_len (da_cons (de_var 5) da_nil)) (by decide) (by decide)) da_nil)) (dg_name 2)) (ds_seq (ds_asg (de_op do_I (de_call (dvs := []) (da_cons (de_var 0) (da_cons (de_c (v := .int 1) rfl) da_nil)) rfl) (de_c (v := .int 4) rfl)) (dg_name 3)) (ds_seq (ds_asg (de_call (dvs := []) (da_cons (de_call (dvs := []) (da_cons (de_var 0) (da_cons (de_c (v := .int 2) rfl) da_nil)) rfl) (da_cons (de_var 2) (da_cons (de_op do_eqS (de_op do_I (de_var 3) (de_c (v := .int 2) rfl)) (de_c (v := .int 0) rfl)) da_nil))) rfl) (dg_name 4)) (ds_ret (de_tup (da_cons (de_var 4) (da_cons (de_call (dvs := []) (da_cons (de_call (dvs := []) (da_cons (de_var 0) (da_cons (de_c (v := .int 3) rfl) da_nil)) rfl) (da_cons (de_var 2) (da_cons (de_op do_I0 (de_var 3) (de_c (v := .int 2) rfl)) da_nil))) rfl) da_nil)))))))⟩⟩) spec__law_drawn_rule
theorem b_sure (T : Txt K mg) : Binds K T.fd_sure ["steps", "cells", "rule"] [] := T.F_sure.binds (ps := ["steps", "cells", "rule"]) fun _ _ _ _ _ _ us hl => match us, hl with | [_, _, _], _ => rfl
-- sure
theorem ok_sure (T : Txt K mg) : FnOk P w K mg base CX0 3 T.f_sure T.fd_sure ["steps", "cells", "rule"] (liftSp K [] sp_sure) :=
  okD (d := d_sure) T.F_sure sc_sure (fun cdv A outer s H E hr => ⟨_, ⟨(pss_one (ps_ret (pe_cmpR op_isN (pe_call (ok_spoiling T) (hr.mono (by decide)) rfl T.m_spoiling T.F_spoiling.kp (b_spoiling T) .nil pass0 (pa_cons (pv 0) (pa_cons (pv 1) (pa_cons (pv 2) pa_nil)))) pe_non (nomark _)))),
    (ds_ret (de_op do_isN (de_call (dvs := []) (da_cons (de_var 0) (da_cons (de_var 1) (da_cons (de_var 2) da_nil))) rfl) (de_c (v := .non) rfl)))⟩⟩) spec_sure
theorem b__law_cells (T : Txt K mg) : Binds K T.fd__law_cells ["steps", "drawn"] [] := T.F__law_cells.binds (ps := ["steps", "drawn"]) fun _ _ _ _ _ _ us hl => match us, hl with | [_, _], _ => rfl
-- _law_cells
theorem ok__law_cells (T : Txt K mg) : FnOk P w K mg base CX0 3 T.f__law_cells T.fd__law_cells ["steps", "drawn"] (liftSp K [] sp__law_cells) :=
  okD (d := d__law_cells) T.F__law_cells sc__law_cells (fun cdv A outer s H E hr => ⟨_, ⟨(pss_cons (ps_set (i := 2) sc__law_cells.nd rfl (Or.inl rfl) (pe_op op_mul pe_int (pe_callB call_len_seq rfl T.z_len PySem.boot_len (pa_cons (pv 0) pa_nil)))) (pss_cons (ps_if (pt_cmpR op_eq (pv 2) pe_int (nomark _)) (pss_one (ps_ret (pe_lc (own := [("cell", 8)]) rfl sc__law_cells.nd (pi_list (pe_slice sl_list (pv 1) po_none (po_some pe_int))) (blkOk_by (by exact rfl)) (fun _ _ _ _ _ => (pg_name (i := 8) sc__law_cells.nd rfl (Or.inl rfl))) (fun _ _ _ _ _ => pts_nil) (fun _ _ _ _ _ => (pe_lst pa_nil))))) pss_nil) (pss_cons (ps_set (i := 3) sc__law_cells.nd rfl (Or.inl rfl) (pe_lst pa_nil)) (pss_cons (ps_for PassesOwn.never rfl (pi_range1 rfl T.z_range (pa_cons (pe_callB (call_min2 rfl) rfl T.z_min (by decide +kernel) (pa_cons pe_int (pa_cons (pe_op op_fdivW (pe_callB call_len_seq rfl T.z_len PySem.boot_len (pa_cons (pv 1) pa_nil)) (pv 2)) pa_nil))) pa_nil)) (pg_name (i := 4) sc__law_cells.nd rfl (Or.inl rfl)) (pss_cons (ps_set (i := 5) sc__law_cells.nd rfl (Or.inl rfl) (pe_lst pa_nil)) (pss_cons (ps_for PassesOwn.never rfl (pi_range1 rfl T.z_range (pa_cons (pe_callB call_len_seq rfl T.z_len PySem.boot_len (pa_cons (pv 0) pa_nil)) pa_nil)) (pg_name (i := 6) sc__law_cells.nd rfl (Or.inl rfl)) (pss_cons (ps_set (i := 7) sc__law_cells.nd rfl (Or.inl rfl) (pe_op op_add (pe_op op_mul (pv 4) (pv 2)) (pe_op op_mul pe_int (pv 6)))) (pss_one (ps_expr (pe_bm PySem.F.plainAttrs_list PySem.F.slot_list_append PySem.F.type_list_append mt_append (pv 5) (pa_cons (pe_call (ok__law_gap T) (hr.mono (by decide)) rfl T.m__law_gap T.F__law_gap.kp (b__law_gap T) .nil pass0 (pa_cons (pe_ix ix_list (pv 0) (pv 6) (fun _ _ => rfl)) (pa_cons (pe_ix ix_list (pv 1) (pv 7) (fun _ _ => rfl)) (pa_cons (pe_ix ix_list (pv 1) (pe_op op_add (pv 7) pe_int) (fun _ _ => rfl)) pa_nil)))) pa_nil)))))) (pss_one (ps_expr (pe_bm PySem.F.plainAttrs_list PySem.F.slot_list_append PySem.F.type_list_append mt_append (pv 3) (pa_cons (pv 5) pa_nil))))))) (pss_one (ps_ret (pv 3))))))),
    (ds_seq (ds_asg (de_op do_I (de_c (v := .int 2) rfl) (de_cb dc_len (da_cons (de_var 0) da_nil))) (dg_name 2)) (ds_seq (ds_if (dt_test (de_op do_eqS (de_var 2) (de_c (v := .int 0) rfl))) (ds_ret (de_lc (di_list (de_sl (de_var 1) dpo_none (dpo_some (de_c (v := .int 60) rfl)))) (dg_name 8) dt_yes (de_fix (de_lst da_nil)) (by decide) (by decide))) ds_next) (ds_seq (ds_asg (de_lst da_nil) (dg_name 3)) (ds_seq (ds_for (di_rng1 (da_cons (de_cb (dc_I2 (g := mnI)) (da_cons (de_c (v := .int 60) rfl) (da_cons (de_op do_I (de_cb dc_len (da_cons (de_var 1) da_nil)) (de_var 2)) da_nil))) da_nil)) (dg_name 4) (ds_seq (ds_asg (de_lst da_nil) (dg_name 5)) (ds_seq (ds_for (di_rng1 (da_cons (de_cb dc_len (da_cons (de_var 0) da_nil)) da_nil)) (dg_name 6) (ds_seq (ds_asg (de_op do_I0 (de_op do_I (de_var 4) (de_var 2)) (de_op do_I (de_c (v := .int 2) rfl) (de_var 6))) (dg_name 7)) (ds_drop (de_bm dm_append (de_var 5) (da_cons (de_fix (de_call (dvs := []) (da_cons (de_op do_ixL (de_var 0) (de_var 6)) (da_cons (de_op do_ixL (de_var 1) (de_var 7)) (da_cons (de_op do_ixL (de_var 1) (de_op do_I0 (de_var 7) (de_c (v := .int 1) rfl))) da_nil))) rfl)) da_nil))))) (ds_drop (de_bm dm_append (de_var 3) (da_cons (de_fix (de_var 5)) da_nil)))))) (ds_ret (de_move 3))))))⟩⟩) spec__law_cells
theorem b_law (T : Txt K mg) : Binds K T.fd_law ["script"] [] := T.F_law.binds (ps := ["script"]) fun _ _ _ _ _ _ us hl => match us, hl with | [_], _ => rfl
-- law
theorem ok_law (T : Txt K mg) : FnOk P w K mg base CX0 4 T.f_law T.fd_law ["script"] (liftSp K [] sp_law) :=
  okD (d := d_law) T.F_law sc_law (fun cdv A outer s H E hr => ⟨_, ⟨(pss_cons (ps_set (i := 1) sc_law.nd rfl (Or.inl rfl) (pe_op op_mod (pe_call (ok__law_cell T) (hr.mono (by decide)) rfl T.m__law_cell T.F__law_cell.kp (b__law_cell T) .nil pass0 (pa_cons (pv 0) (pa_cons pe_int pa_nil))) pe_int)) (pss_cons (ps_set (i := 2) sc_law.nd rfl (Or.inl rfl) (pe_call (ok__law_steps T) (hr.mono (by decide)) rfl T.m__law_steps T.F__law_steps.kp (b__law_steps T) .nil pass0 (pa_cons (pv 0) (pa_cons (pv 1) (pa_cons pe_int pa_nil))))) (pss_cons (ps_set (i := 3) sc_law.nd rfl (Or.inr rfl) (pe_call (ok__law_drawn_rule T) (hr.mono (by decide)) rfl T.m__law_drawn_rule T.F__law_drawn_rule.kp (b__law_drawn_rule T) .nil pass0 (pa_cons (pv 0) (pa_cons (pv 2) pa_nil)))) (pss_cons (ps_set (i := 4) sc_law.nd rfl (Or.inl rfl) (pe_call (ok__law_cells T) (hr.mono (by decide)) rfl T.m__law_cells T.F__law_cells.kp (b__law_cells T) .nil pass0 (pa_cons (pv 2) (pa_cons (pe_slice sl_list (pv 0) (po_some (pe_op op_add (pe_op op_mul pe_int (pv 1)) pe_int)) po_none) pa_nil)))) (pss_cons (ps_set (i := 5) sc_law.nd rfl (Or.inl rfl) pe_bl) (pss_cons (ps_set (i := 6) sc_law.nd rfl (Or.inl rfl) pe_bl) (pss_cons (ps_for PassesOwn.never rfl (pi_list (pv 4)) (pg_name (i := 7) sc_law.nd rfl (Or.inl rfl)) (pss_cons (ps_setLc (i := 8) (own := [("mask", 13)]) rfl sc_law.nd rfl rfl (sw_true rfl rfl rfl (by decide +kernel)) (pi_list (pe_call (ok__law_sets T) (hr.mono (by decide)) rfl T.m__law_sets T.F__law_sets.kp (b__law_sets T) .nil pass0 (pa_cons (pv 2) (pa_cons (pv 7) pa_nil)))) (blkOk_by (by exact rfl)) (fun _ _ _ _ _ => (pg_name (i := 13) sc_law.nd rfl (Or.inl rfl))) (fun _ _ _ _ _ => pts_nil) (fun _ _ _ _ _ => (pe_call (ok__law_breaks T) (hr.mono (by decide)) rfl T.m__law_breaks T.F__law_breaks.kp (b__law_breaks T) .nil pass0 (pa_cons (pv 13) (pa_cons (pv 3) pa_nil))))) (pss_cons (ps_set (i := 5) sc_law.nd rfl (Or.inl rfl) (pe_or (pv 5) (pe_one (pe_cmpR op_in_seq pe_bl (pv 8) (by rfl))))) (pss_one (ps_set (i := 6) sc_law.nd rfl (Or.inl rfl) (pe_and (pv 6) (pe_one (pe_cmpR op_in_seq pe_bl (pv 8) (by rfl))))))))) (pss_cons (ps_set (i := 9) sc_law.nd rfl (Or.inl rfl) (pe_lst (pa_cons (pe_call (ok__law_copy T) (hr.mono (by decide)) rfl T.m__law_copy T.F__law_copy.kp (b__law_copy T) .nil pass0 (pa_cons (pv 2) pa_nil)) (pa_cons (pe_call (ok__law_copy T) (hr.mono (by decide)) rfl T.m__law_copy T.F__law_copy.kp (b__law_copy T) .nil pass0 (pa_cons (pv 4) pa_nil)) pa_nil)))) (pss_cons (ps_set (i := 10) sc_law.nd rfl (Or.inl rfl) (pe_call (ok_spoiling T) (hr.mono (by decide)) rfl T.m_spoiling T.F_spoiling.kp (b_spoiling T) .nil pass0 (pa_cons (pe_ix ix_list (pv 9) pe_int (fun _ _ => rfl)) (pa_cons (pe_ix ix_list (pv 9) pe_int (fun _ _ => rfl)) (pa_cons (pv 3) pa_nil))))) (pss_cons (ps_set (i := 11) sc_law.nd rfl (Or.inl rfl) (pe_call (ok_mending T) (hr.mono (by decide)) rfl T.m_mending T.F_mending.kp (b_mending T) .nil pass0 (pa_cons (pe_ix ix_list (pv 9) pe_int (fun _ _ => rfl)) (pa_cons (pe_ix ix_list (pv 9) pe_int (fun _ _ => rfl)) (pa_cons (pv 3) pa_nil))))) (pss_cons (ps_set (i := 12) sc_law.nd rfl (Or.inl rfl) (pe_call (ok_sure T) (hr.mono (by decide)) rfl T.m_sure T.F_sure.kp (b_sure T) .nil pass0 (pa_cons (pe_ix ix_list (pv 9) pe_int (fun _ _ => rfl)) (pa_cons (pe_ix ix_list (pv 9) pe_int (fun _ _ => rfl)) (pa_cons (pv 3) pa_nil))))) (pss_cons (ps_if (PW.pt (pw_or (pt_not (pt_val (pe_callB call_isi rfl T.z_isinstance (by decide +kernel) (pa_cons (pv 12) (pa_cons (pe_bltn (v := .ty "bool") rfl T.z_bool (by decide +kernel) rfl) pa_nil))))) (pw_or (pt_cmpR op_eq (pv 12) (pv 5) (nomark _)) (pw_or1 (pt_cmpR op_eq (pe_cmpR op_isN (pv 10) pe_non (nomark _)) (pv 5) (nomark _)))))) (pss_one (ps_ret pe_bl)) pss_nil) (pss_cons (ps_if (pt_cmpR op_notN (pv 10) pe_non (nomark _)) (pss_one (ps_if (PW.pt (pw_or (pt_not (pt_val (pe_call (ok__law_filling T) (hr.mono (by decide)) rfl T.m__law_filling T.F__law_filling.kp (b__law_filling T) .nil pass0 (pa_cons (pv 10) (pa_cons (pv 4) pa_nil))))) (pw_or1 (pt_not (pt_val (pe_call (ok__law_broken T) (hr.mono (by decide)) rfl T.m__law_broken T.F__law_broken.kp (b__law_broken T) .nil pass0 (pa_cons (pv 2) (pa_cons (pv 10) (pa_cons (pv 3) pa_nil))))))))) (pss_one (ps_ret pe_bl)) pss_nil)) pss_nil) (pss_cons (ps_if (pt_cmpR op_eq (pe_cmpR op_isN (pv 11) pe_non (nomark _)) (pv 6) (nomark _)) (pss_one (ps_ret pe_bl)) pss_nil) (pss_cons (ps_if (pt_cmpR op_notN (pv 11) pe_non (nomark _)) (pss_one (ps_if (PW.pt (pw_or (pt_not (pt_val (pe_call (ok__law_filling T) (hr.mono (by decide)) rfl T.m__law_filling T.F__law_filling.kp (b__law_filling T) .nil pass0 (pa_cons (pv 11) (pa_cons (pv 4) pa_nil))))) (pw_or1 (pt_val (pe_call (ok__law_broken T) (hr.mono (by decide)) rfl T.m__law_broken T.F__law_broken.kp (b__law_broken T) .nil pass0 (pa_cons (pv 2) (pa_cons (pv 11) (pa_cons (pv 3) pa_nil)))))))) (pss_one (ps_ret pe_bl)) pss_nil)) pss_nil) (pss_one (ps_ret (pe_and (pe_cmpR (op_eqD hr.units) (pe_ix ix_list (pv 9) pe_int (fun _ _ => rfl)) (pv 2) (nomark _)) (pe_one (pe_cmpR (op_eqD hr.units) (pe_ix ix_list (pv 9) pe_int (fun _ _ => rfl)) (pv 4) (nomark _))))))))))))))))))))),
    (ds_seq (ds_asg (de_op do_I (de_call (dvs := []) (da_cons (de_var 0) (da_cons (de_c (v := .int 0) rfl) da_nil)) rfl) (de_c (v := .int 6) rfl)) (dg_name 1)) (ds_seq (ds_asg (de_fix (de_call (dvs := []) (da_cons (de_var 0) (da_cons (de_var 1) (da_cons (de_c (v := .int 4) rfl) da_nil))) rfl)) (dg_name 2)) (ds_seq (ds_asg (de_fix (de_call (dvs := []) (da_cons (de_var 0) (da_cons (de_var 2) da_nil)) rfl)) (dg_name 3)) (ds_seq (ds_asg (de_fix (de_call (dvs := []) (da_cons (de_var 2) (da_cons (de_fix (de_sl (de_var 0) (dpo_some (de_op do_I0 (de_op do_I (de_c (v := .int 2) rfl) (de_var 1)) (de_c (v := .int 4) rfl))) dpo_none)) da_nil)) rfl)) (dg_name 4)) (ds_seq (ds_asg (de_c (v := .bl false) rfl) (dg_name 5)) (ds_seq (ds_asg (de_c (v := .bl true) rfl) (dg_name 6)) (ds_seq (ds_for (di_list (de_var 4)) (dg_name 7) (ds_seq (ds_asg (de_fix (de_lc (di_list (de_call (dvs := []) (da_cons (de_var 2) (da_cons (de_var 7) da_nil)) rfl)) (dg_name 13) dt_yes (de_call (dvs := []) (da_cons (de_var 13) (da_cons (de_var 3) da_nil)) rfl) (by decide) (by decide))) (dg_name 8)) (ds_seq (ds_asg (de_orV (de_var 5) (de_op do_in (de_c (v := .bl true) rfl) (de_var 8))) (dg_name 5)) (ds_asg (de_andV (de_var 6) (de_op do_in (de_c (v := .bl false) rfl) (de_var 8))) (dg_name 6))))) (ds_seq (ds_asg (de_fix (de_lst (da_cons (de_fix (de_call (dvs := []) (da_cons (de_var 2) da_nil) rfl)) (da_cons (de_fix (de_call (dvs := []) (da_cons (de_var 4) da_nil) rfl)) da_nil)))) (dg_name 9)) (ds_seq (ds_asg (de_fix (de_call (dvs := []) (da_cons (de_op do_ixL (de_var 9) (de_c (v := .int 0) rfl)) (da_cons (de_op do_ixL (de_var 9) (de_c (v := .int 1) rfl)) (da_cons (de_var 3) da_nil))) rfl)) (dg_name 10)) (ds_seq (ds_asg (de_fix (de_call (dvs := []) (da_cons (de_op do_ixL (de_var 9) (de_c (v := .int 0) rfl)) (da_cons (de_op do_ixL (de_var 9) (de_c (v := .int 1) rfl)) (da_cons (de_var 3) da_nil))) rfl)) (dg_name 11)) (ds_seq (ds_asg (de_call (dvs := []) (da_cons (de_op do_ixL (de_var 9) (de_c (v := .int 0) rfl)) (da_cons (de_op do_ixL (de_var 9) (de_c (v := .int 1) rfl)) (da_cons (de_var 3) da_nil))) rfl) (dg_name 12)) (ds_seq (ds_if (dt_or (dt_not (dt_b (de_cb dc_isi (da_cons (de_var 12) (da_cons (de_ty "bool") da_nil))))) (dt_or (dt_test (de_op do_eqS (de_var 12) (de_var 5))) (dt_test (de_op do_eqS (de_op do_isN (de_var 10) (de_c (v := .non) rfl)) (de_var 5))))) (ds_ret (de_c (v := .bl false) rfl)) ds_next) (ds_seq (ds_if (dt_test (de_op do_notN (de_var 10) (de_c (v := .non) rfl))) (ds_if (dt_or (dt_not (dt_b (de_call (dvs := []) (da_cons (de_var 10) (da_cons (de_var 4) da_nil)) rfl))) (dt_not (dt_b (de_call (dvs := []) (da_cons (de_var 2) (da_cons (de_var 10) (da_cons (de_var 3) da_nil))) rfl)))) (ds_ret (de_c (v := .bl false) rfl)) ds_next) ds_next) (ds_seq (ds_if (dt_test (de_op do_eqS (de_op do_isN (de_var 11) (de_c (v := .non) rfl)) (de_var 6))) (ds_ret (de_c (v := .bl false) rfl)) ds_next) (ds_seq (ds_if (dt_test (de_op do_notN (de_var 11) (de_c (v := .non) rfl))) (ds_if (dt_or (dt_not (dt_b (de_call (dvs := []) (da_cons (de_var 11) (da_cons (de_var 4) da_nil)) rfl))) (dt_b (de_call (dvs := []) (da_cons (de_var 2) (da_cons (de_var 11) (da_cons (de_var 3) da_nil))) rfl))) (ds_ret (de_c (v := .bl false) rfl)) ds_next) ds_next) (ds_ret (de_andV (de_op do_eqD (de_op do_ixL (de_var 9) (de_c (v := .int 0) rfl)) (de_var 2)) (de_op do_eqD (de_op do_ixL (de_var 9) (de_c (v := .int 1) rfl)) (de_var 4)))))))))))))))))))⟩⟩) spec_law
end

theorem mkF {K : PySem.W.Frag} {h : Heap} {mg : Str → Option Value} (X : K.In h) (G : h.Ns mainGlobals mg) {st : Stmt} {nm q : Str} {f : Addr} {od an : Option Addr} {sl : Array (Option Value)} {oc kV dc pm cd ct : Value}
    (a : PySem.W.nsIn K mainGlobals nm = some (some (.ref f))) (l : K.lookup f = some ⟨oc, od, .func (PySem.W.fnOf nm q (defArgs st) (defBody st) (defScope st) .none kV dc pm an cd ct), sl⟩)
    (c : PySem.W.codeIn K cd q = true) (k : PySem.W.keepIn K (.ref f) = true) : ∃ (f : Addr) (fd : FuncData), Fun K nm q st f fd ∧ mg nm = some (.ref f) :=
  ⟨f, _, fun_mk (st := st) l c k, PySem.W.mg_of X G a⟩
theorem mkL {K : PySem.W.Frag} {h : Heap} {mg : Str → Option Value} (X : K.In h) (G : h.Ns mainGlobals mg) {st : Stmt} {nm q : Str} {x : Str} {f : Addr} {od an : Option Addr} {sl : Array (Option Value)} {oc kV dc pm cd ct : Value}
    (hb : ∀ (kV dc pm cd ct : Value) (an : Option Addr) (s : Shared) (v : Value), BindsTo s (PySem.W.fnOf nm q (defArgs st) (defBody st) (defScope st) .none kV dc pm an cd ct) ⟨[v], []⟩ [(x, v)])
    (a : PySem.W.nsIn K mainGlobals nm = some (some (.ref f))) (l : K.lookup f = some ⟨oc, od, .func (PySem.W.fnOf nm q (defArgs st) (defBody st) (defScope st) .none kV dc pm an cd ct), sl⟩)
    (c : PySem.W.codeIn K cd q = true) (k : PySem.W.keepIn K (.ref f) = true) : ∃ (f : Addr) (fd : FuncData), (∀ (s : Shared) (v : Value), BindsTo s fd ⟨[v], []⟩ [(x, v)]) ∧ Fun K nm q st f fd ∧ mg nm = some (.ref f) :=
  ⟨f, _, hb _ _ _ _ _ _, fun_mk (st := st) l c k, PySem.W.mg_of X G a⟩
theorem lawOf {P : Program} {w : World} {K : Frag} {mg : Str → Option Value} {fa : Addr} (T : Txt K mg) (hb : ∀ (s : Shared) (v : Value), BindsTo s T.fd_law ⟨[v], []⟩ [("script", v)]) (hmg : mg "law" = some (.ref fa)) :
    ∃ fd : FuncData, (∀ (s : Shared) (v : Value), BindsTo s fd ⟨[v], []⟩ [("script", v)]) ∧ ∀ base : Heap, K.In base → base.Ns mainGlobals mg → FnOk P w K mg base CX0 4 fa fd ["script"] (liftSp K [] sp_law) := by
  have e := hmg.symm.trans T.m_law
  cases e
  exact ⟨T.fd_law, hb, fun base _ _ => ok_law T⟩
end DL
open PySem PySem.W PyProof.Rows in
set_option maxHeartbeats 0 in
theorem PySem.Challenge.cw_traitlattice_k33_whole_gaps_holds : PySem.Challenge.rw_traitlattice_k33_whole_gaps.Holds := by
  w_on; o_law; k_head; (case hw => w_witness2)
  k_fill
  refine L2.walk_of (l := PySem.Challenge.rw_traitlattice_k33_whole_gaps) (n := 63) (k := 4) (x := "script") (CX := fun _ => L2.CX0) (sp := fun w => DL.liftSp _ [] DL.sp_law) rfl (by decide) rfl ⟨rfl, by decide, by decide⟩ (fun w h Y => PySem.W.kIn_of Y) ?F (fun _ H a ns hl _ hS => DL.entry _ _ H a ns hS _ _ ⟨ns, rfl, hl, rfl⟩ (fun _ => rfl)) (fun _ _ _ _ _ h => h)
  case F =>
    intro w mg fa h KX G hmg
    obtain ⟨f_greatest_steps, fd_greatest_steps, F_greatest_steps, m_greatest_steps⟩ : ∃ (f : PySem.Addr) (fd : PySem.FuncData), L2.Fun _ "greatest_steps" "greatest_steps" DL.s_greatest_steps f fd ∧ mg "greatest_steps" = some (.ref f) := by
      refine' DL.mkF (st := DL.s_greatest_steps) KX G ?a ?l ?c ?k
      (case a => k_is); (case l => k_is); (case c => k_is); (case k => k_is)
    obtain ⟨f_broken_worths, fd_broken_worths, F_broken_worths, m_broken_worths⟩ : ∃ (f : PySem.Addr) (fd : PySem.FuncData), L2.Fun _ "broken_worths" "broken_worths" DL.s_broken_worths f fd ∧ mg "broken_worths" = some (.ref f) := by
      refine' DL.mkF (st := DL.s_broken_worths) KX G ?a ?l ?c ?k
      (case a => k_is); (case l => k_is); (case c => k_is); (case k => k_is)
    obtain ⟨f_kept_worths, fd_kept_worths, F_kept_worths, m_kept_worths⟩ : ∃ (f : PySem.Addr) (fd : PySem.FuncData), L2.Fun _ "kept_worths" "kept_worths" DL.s_kept_worths f fd ∧ mg "kept_worths" = some (.ref f) := by
      refine' DL.mkF (st := DL.s_kept_worths) KX G ?a ?l ?c ?k
      (case a => k_is); (case l => k_is); (case c => k_is); (case k => k_is)
    obtain ⟨f__law_cell, fd__law_cell, F__law_cell, m__law_cell⟩ : ∃ (f : PySem.Addr) (fd : PySem.FuncData), L2.Fun _ "_law_cell" "_law_cell" DL.s__law_cell f fd ∧ mg "_law_cell" = some (.ref f) := by
      refine' DL.mkF (st := DL.s__law_cell) KX G ?a ?l ?c ?k
      (case a => k_is); (case l => k_is); (case c => k_is); (case k => k_is)
    obtain ⟨f__law_marks, fd__law_marks, F__law_marks, m__law_marks⟩ : ∃ (f : PySem.Addr) (fd : PySem.FuncData), L2.Fun _ "_law_marks" "_law_marks" DL.s__law_marks f fd ∧ mg "_law_marks" = some (.ref f) := by
      refine' DL.mkF (st := DL.s__law_marks) KX G ?a ?l ?c ?k
      (case a => k_is); (case l => k_is); (case c => k_is); (case k => k_is)
    obtain ⟨f__law_worth, fd__law_worth, F__law_worth, m__law_worth⟩ : ∃ (f : PySem.Addr) (fd : PySem.FuncData), L2.Fun _ "_law_worth" "_law_worth" DL.s__law_worth f fd ∧ mg "_law_worth" = some (.ref f) := by
      refine' DL.mkF (st := DL.s__law_worth) KX G ?a ?l ?c ?k
      (case a => k_is); (case l => k_is); (case c => k_is); (case k => k_is)
    obtain ⟨f__law_columns, fd__law_columns, F__law_columns, m__law_columns⟩ : ∃ (f : PySem.Addr) (fd : PySem.FuncData), L2.Fun _ "_law_columns" "_law_columns" DL.s__law_columns f fd ∧ mg "_law_columns" = some (.ref f) := by
      refine' DL.mkF (st := DL.s__law_columns) KX G ?a ?l ?c ?k
      (case a => k_is); (case l => k_is); (case c => k_is); (case k => k_is)
    obtain ⟨f__law_breaks, fd__law_breaks, F__law_breaks, m__law_breaks⟩ : ∃ (f : PySem.Addr) (fd : PySem.FuncData), L2.Fun _ "_law_breaks" "_law_breaks" DL.s__law_breaks f fd ∧ mg "_law_breaks" = some (.ref f) := by
      refine' DL.mkF (st := DL.s__law_breaks) KX G ?a ?l ?c ?k
      (case a => k_is); (case l => k_is); (case c => k_is); (case k => k_is)
    obtain ⟨f__law_filling, fd__law_filling, F__law_filling, m__law_filling⟩ : ∃ (f : PySem.Addr) (fd : PySem.FuncData), L2.Fun _ "_law_filling" "_law_filling" DL.s__law_filling f fd ∧ mg "_law_filling" = some (.ref f) := by
      refine' DL.mkF (st := DL.s__law_filling) KX G ?a ?l ?c ?k
      (case a => k_is); (case l => k_is); (case c => k_is); (case k => k_is)
    obtain ⟨f__law_side, fd__law_side, F__law_side, m__law_side⟩ : ∃ (f : PySem.Addr) (fd : PySem.FuncData), L2.Fun _ "_law_side" "_law_side" DL.s__law_side f fd ∧ mg "_law_side" = some (.ref f) := by
      refine' DL.mkF (st := DL.s__law_side) KX G ?a ?l ?c ?k
      (case a => k_is); (case l => k_is); (case c => k_is); (case k => k_is)
    obtain ⟨f__law_copy, fd__law_copy, F__law_copy, m__law_copy⟩ : ∃ (f : PySem.Addr) (fd : PySem.FuncData), L2.Fun _ "_law_copy" "_law_copy" DL.s__law_copy f fd ∧ mg "_law_copy" = some (.ref f) := by
      refine' DL.mkF (st := DL.s__law_copy) KX G ?a ?l ?c ?k
      (case a => k_is); (case l => k_is); (case c => k_is); (case k => k_is)
    obtain ⟨f__law_sets, fd__law_sets, F__law_sets, m__law_sets⟩ : ∃ (f : PySem.Addr) (fd : PySem.FuncData), L2.Fun _ "_law_sets" "_law_sets" DL.s__law_sets f fd ∧ mg "_law_sets" = some (.ref f) := by
      refine' DL.mkF (st := DL.s__law_sets) KX G ?a ?l ?c ?k
      (case a => k_is); (case l => k_is); (case c => k_is); (case k => k_is)
    obtain ⟨f_spoiling, fd_spoiling, F_spoiling, m_spoiling⟩ : ∃ (f : PySem.Addr) (fd : PySem.FuncData), L2.Fun _ "spoiling" "spoiling" DL.s_spoiling f fd ∧ mg "spoiling" = some (.ref f) := by
      refine' DL.mkF (st := DL.s_spoiling) KX G ?a ?l ?c ?k
      (case a => k_is); (case l => k_is); (case c => k_is); (case k => k_is)
    obtain ⟨f_mending, fd_mending, F_mending, m_mending⟩ : ∃ (f : PySem.Addr) (fd : PySem.FuncData), L2.Fun _ "mending" "mending" DL.s_mending f fd ∧ mg "mending" = some (.ref f) := by
      refine' DL.mkF (st := DL.s_mending) KX G ?a ?l ?c ?k
      (case a => k_is); (case l => k_is); (case c => k_is); (case k => k_is)
    obtain ⟨f__law_steps, fd__law_steps, F__law_steps, m__law_steps⟩ : ∃ (f : PySem.Addr) (fd : PySem.FuncData), L2.Fun _ "_law_steps" "_law_steps" DL.s__law_steps f fd ∧ mg "_law_steps" = some (.ref f) := by
      refine' DL.mkF (st := DL.s__law_steps) KX G ?a ?l ?c ?k
      (case a => k_is); (case l => k_is); (case c => k_is); (case k => k_is)
    obtain ⟨f__law_gap, fd__law_gap, F__law_gap, m__law_gap⟩ : ∃ (f : PySem.Addr) (fd : PySem.FuncData), L2.Fun _ "_law_gap" "_law_gap" DL.s__law_gap f fd ∧ mg "_law_gap" = some (.ref f) := by
      refine' DL.mkF (st := DL.s__law_gap) KX G ?a ?l ?c ?k
      (case a => k_is); (case l => k_is); (case c => k_is); (case k => k_is)
    obtain ⟨f__law_broken, fd__law_broken, F__law_broken, m__law_broken⟩ : ∃ (f : PySem.Addr) (fd : PySem.FuncData), L2.Fun _ "_law_broken" "_law_broken" DL.s__law_broken f fd ∧ mg "_law_broken" = some (.ref f) := by
      refine' DL.mkF (st := DL.s__law_broken) KX G ?a ?l ?c ?k
      (case a => k_is); (case l => k_is); (case c => k_is); (case k => k_is)
    obtain ⟨f__law_drawn_rule, fd__law_drawn_rule, F__law_drawn_rule, m__law_drawn_rule⟩ : ∃ (f : PySem.Addr) (fd : PySem.FuncData), L2.Fun _ "_law_drawn_rule" "_law_drawn_rule" DL.s__law_drawn_rule f fd ∧ mg "_law_drawn_rule" = some (.ref f) := by
      refine' DL.mkF (st := DL.s__law_drawn_rule) KX G ?a ?l ?c ?k
      (case a => k_is); (case l => k_is); (case c => k_is); (case k => k_is)
    obtain ⟨f_sure, fd_sure, F_sure, m_sure⟩ : ∃ (f : PySem.Addr) (fd : PySem.FuncData), L2.Fun _ "sure" "sure" DL.s_sure f fd ∧ mg "sure" = some (.ref f) := by
      refine' DL.mkF (st := DL.s_sure) KX G ?a ?l ?c ?k
      (case a => k_is); (case l => k_is); (case c => k_is); (case k => k_is)
    obtain ⟨f__law_cells, fd__law_cells, F__law_cells, m__law_cells⟩ : ∃ (f : PySem.Addr) (fd : PySem.FuncData), L2.Fun _ "_law_cells" "_law_cells" DL.s__law_cells f fd ∧ mg "_law_cells" = some (.ref f) := by
      refine' DL.mkF (st := DL.s__law_cells) KX G ?a ?l ?c ?k
      (case a => k_is); (case l => k_is); (case c => k_is); (case k => k_is)
    obtain ⟨f_law, fd_law, hb, F_law, m_law⟩ : ∃ (f : PySem.Addr) (fd : PySem.FuncData), (∀ (s : PySem.Shared) (v : PySem.Value), BindsTo s fd ⟨[v], []⟩ [("script", v)]) ∧ L2.Fun _ "law" "law" DL.s_law f fd ∧ mg "law" = some (.ref f) := by
      refine' DL.mkL (st := DL.s_law) KX G (fun kV dc pm cd ct an s v => .of_eq rfl) ?a ?l ?c ?k
      (case a => k_is); (case l => k_is); (case c => k_is); (case k => k_is)
    have z_bool : mg "bool" = none := by
      refine' PySem.W.mg_none_of KX G ?a
      (case a => k_is)
    have z_enumerate : mg "enumerate" = none := by
      refine' PySem.W.mg_none_of KX G ?a
      (case a => k_is)
    have z_int : mg "int" = none := by
      refine' PySem.W.mg_none_of KX G ?a
      (case a => k_is)
    have z_isinstance : mg "isinstance" = none := by
      refine' PySem.W.mg_none_of KX G ?a
      (case a => k_is)
    have z_len : mg "len" = none := by
      refine' PySem.W.mg_none_of KX G ?a
      (case a => k_is)
    have z_list : mg "list" = none := by
      refine' PySem.W.mg_none_of KX G ?a
      (case a => k_is)
    have z_max : mg "max" = none := by
      refine' PySem.W.mg_none_of KX G ?a
      (case a => k_is)
    have z_min : mg "min" = none := by
      refine' PySem.W.mg_none_of KX G ?a
      (case a => k_is)
    have z_range : mg "range" = none := by
      refine' PySem.W.mg_none_of KX G ?a
      (case a => k_is)
    have z_sum : mg "sum" = none := by
      refine' PySem.W.mg_none_of KX G ?a
      (case a => k_is)
    exact DL.lawOf ⟨f_greatest_steps, fd_greatest_steps, F_greatest_steps, m_greatest_steps, f_broken_worths, fd_broken_worths, F_broken_worths, m_broken_worths, f_kept_worths, fd_kept_worths, F_kept_worths, m_kept_worths, f__law_cell, fd__law_cell, F__law_cell, m__law_cell, f__law_marks, fd__law_marks, F__law_marks, m__law_marks, f__law_worth, fd__law_worth, F__law_worth, m__law_worth, f__law_columns, fd__law_columns, F__law_columns, m__law_columns, f__law_breaks, fd__law_breaks, F__law_breaks, m__law_breaks, f__law_filling, fd__law_filling, F__law_filling, m__law_filling, f__law_side, fd__law_side, F__law_side, m__law_side, f__law_copy, fd__law_copy, F__law_copy, m__law_copy, f__law_sets, fd__law_sets, F__law_sets, m__law_sets, f_spoiling, fd_spoiling, F_spoiling, m_spoiling, f_mending, fd_mending, F_mending, m_mending, f__law_steps, fd__law_steps, F__law_steps, m__law_steps, f__law_gap, fd__law_gap, F__law_gap, m__law_gap, f__law_broken, fd__law_broken, F__law_broken, m__law_broken, f__law_drawn_rule, fd__law_drawn_rule, F__law_drawn_rule, m__law_drawn_rule, f_sure, fd_sure, F_sure, m_sure, f__law_cells, fd__law_cells, F__law_cells, m__law_cells, f_law, fd_law, F_law, m_law, z_bool, z_enumerate, z_int, z_isinstance, z_len, z_list, z_max, z_min, z_range, z_sum⟩ hb hmg
