import PyProof.Rows.All
import Wide.All
import OpenK.AllK
import Wide.FinOn
import HandS.ForMost
import HandS.ForExc
import HandS.Wide
import HandS.IsInst
import HandS.More
import HandS.Style
import HandS.ForDict
import HandS.WordsDict
import HandS.Sort
import KE.KDictList
import HandS.ExcInit
import HandS.ExcIs
import HandS.ExcOwn
import HandS.ExcValue
import HandS.ExcField
import HandS.Codes
import KE.KExcIs
import HandS.Text
import HandS.SetFor
import KE.GoesMore
import KE.OsArith
import KE.BitLaws
import PySem.Challenge.RW_traitlattice_k52_gaps_of_wide_tables
set_option Elab.async false
set_option linter.all false
set_option maxRecDepth 100000
set_option maxHeartbeats 4000000
/-! ## DLa.lean -/
/-! A layer of data over the hand layer: slots hold data, lists of one's own may change, the rest stands. -/
namespace DL
open PySem PySem.Spec PyProof.Rows L2
abbrev Frag := PySem.W.Frag
/-- the place of a class of the main module -/
def clsA (K : Frag) (n : String) : Addr := match PySem.W.nsIn K mainGlobals (Str.ofString n) with
  | some (some (.ref a)) => a
  | _ => 0

/-- data: what a value means. mt: a list of one's own whose items stand; mm: one whose items may be one's own; mo: an instance of one's own; dc: a dict of one's own; ptr i: what slot i holds -/
inductive D where
  | non | bl (b : Bool) | int (i : Int) | str (s : Str)
  | lst (xs : List D) | tup (xs : List D) | scr (xs : List D)
  | obj (C : String) (fs : List (Str × D)) | ty (n : String) | cls (n : String) | exc (C : String) (fs : List (Str × V))
  | mt (xs : List D) | mm (xs : List D) | mo (C : String) (fs : List (Str × D))
  | dc (kvs : List (Key × V))
  | ptr (i : Nat)
  | «at» (a : Addr)
abbrev Env := List (Option D)
/-- a caught exception at a: its class, its dict -/
def EXO (cls : Value) (d : Option Addr) (a : Addr) : HO := .ext fun h => ∃ (oe : Obj) (vs : Array Value), h.get? a = some oe ∧ Zc cls d oe ∧ oe.data = .fields vs
/-- an exception's fields -/
def XOk (fs : List (Str × V)) (d : Option Addr) (H : Hp) : Prop := (fs = [] ∧ d = none) ∨ ∃ dd, d = some dd ∧ H dd = some (.xd fs)
theorem XOk.mono {fs : List (Str × V)} {d : Option Addr} {H H' : Hp} (e : Same H H') (h : XOk fs d H) : XOk fs d H' := h.elim .inl fun ⟨dd, h1, h2⟩ => .inr ⟨dd, h1, e _ _ h2⟩

/-- data that stands in F -/
inductive Rep (K : Frag) (F : Hp) : V → D → Prop
  | non : Rep K F .non .non
  | bl (b : Bool) : Rep K F (.bl b) (.bl b)
  | int (i : Int) : Rep K F (.int i) (.int i)
  | str (s : Str) : Rep K F (.str s) (.str s)
  | ty (n : String) : Rep K F (.ty n) (.ty n)
  | cls (n : String) : Rep K F (.ref (clsA K n)) (.cls n)
  | exc {a : Addr} {C : String} {d : Option Addr} {fs : List (Str × V)} (h : F a = some (EXO (.ref (clsA K C)) d a)) (x : XOk fs d F) (sc : ∀ p ∈ fs, flatV p.2 = true) : Rep K F (.ref a) (.exc C fs)
  | «at» (a : Addr) : Rep K F (.ref a) (.at a)
  | lst {a : Addr} {vs : List V} {ds : List D} (h : F a = some (.lst vs)) (l : vs.length = ds.length) (r : ∀ (i : Nat) v d, vs[i]? = some v → ds[i]? = some d → Rep K F v d) : Rep K F (.ref a) (.lst ds)
  | scr {a : Addr} {vs : List V} {ds : List D} (h : SqL K F a vs) (l : vs.length = ds.length) (r : ∀ (i : Nat) v d, vs[i]? = some v → ds[i]? = some d → Rep K F v d) : Rep K F (.ref a) (.scr ds)
  | tup {a : Addr} {vs : List V} {ds : List D} (h : SqT K F a vs) (l : vs.length = ds.length) (r : ∀ (i : Nat) v d, vs[i]? = some v → ds[i]? = some d → Rep K F v d) : Rep K F (.ref a) (.tup ds)
  | obj {a dx : Addr} {C : String} {vs : List (Str × V)} {fs : List (Str × D)} (h : F a = some (.ins (clsA K C) dx vs)) (l : vs.map (·.1) = fs.map (·.1)) (r : ∀ (i : Nat) v d, vs[i]? = some v → fs[i]? = some d → Rep K F v.2 d.2) : Rep K F (.ref a) (.obj C fs)

theorem seqT_same {K : Frag} {H H' : Hp} {a : Addr} {xs : List V} (e : Same H H') (h : SqT K H a xs) : SqT K H' a xs := by
  rcases h with (h | ⟨o, h⟩) | h
  · exact .inl (.inl (e _ _ h))
  · exact .inl (.inr ⟨o, e _ _ h⟩)
  · exact .inr h

theorem Rep.mono {K : Frag} {F F' : Hp} (e : Same F F') {v : V} {d : D} (h : Rep K F v d) : Rep K F' v d := by
  induction h with
  | non => exact .non
  | bl b => exact .bl b
  | int i => exact .int i
  | str s => exact .str s
  | ty s => exact .ty s
  | cls s => exact .cls s
  | exc h x sc => exact .exc (e _ _ h) (x.mono e) sc
  | «at» v => exact .at v
  | lst h l _ ih => exact .lst (e _ _ h) l ih
  | scr h l _ ih => exact .scr (e.seq h) l ih
  | tup h l _ ih => exact .tup (seqT_same e h) l ih
  | obj h l _ ih => exact .obj (e _ _ h) l ih

/-- data that stands in F, or is one's own in H, on the footprint S -/
inductive Own (K : Frag) (F H : Hp) : V → D → (Addr → Prop) → Prop
  | frz {v : V} {d : D} {S : Addr → Prop} (h : Rep K F v d) : Own K F H v d S
  | mt {a : Addr} {vs : List V} {ds : List D} {S : Addr → Prop} (ha : S a) (h : H a = some (.lst vs)) (l : vs.length = ds.length)
      (r : ∀ (i : Nat) v d, vs[i]? = some v → ds[i]? = some d → Rep K F v d) : Own K F H (.ref a) (.mt ds) S
  | mm {a : Addr} {vs : List V} {ds : List D} {S : Addr → Prop} (Sc : Nat → Addr → Prop) (ha : S a) (h : H a = some (.lst vs)) (l : vs.length = ds.length)
      (r : ∀ (i : Nat) v d, vs[i]? = some v → ds[i]? = some d → Own K F H v d (Sc i)) (sub : ∀ i b, Sc i b → S b ∧ b ≠ a) (dis : ∀ i j b, Sc i b → Sc j b → i = j) : Own K F H (.ref a) (.mm ds) S
  | mo {a dx : Addr} {C : String} {vs : List (Str × V)} {fs : List (Str × D)} {S : Addr → Prop} (Sc : Nat → Addr → Prop) (ha : S a) (h : H a = some (.ins (clsA K C) dx vs)) (l : vs.map (·.1) = fs.map (·.1))
      (r : ∀ (i : Nat) v d, vs[i]? = some v → fs[i]? = some d → Own K F H v.2 d.2 (Sc i)) (sub : ∀ i b, Sc i b → S b ∧ b ≠ a) (dis : ∀ i j b, Sc i b → Sc j b → i = j) : Own K F H (.ref a) (.mo C fs) S
  | dc {a : Addr} {kvs : List (Key × V)} {S : Addr → Prop} (ha : S a) (h : H a = some (.dK kvs)) (fl : ∀ p ∈ kvs, flatV p.2 = true) : Own K F H (.ref a) (.dc kvs) S

theorem Own.wide {K : Frag} {F H : Hp} {v : V} {d : D} {S S' : Addr → Prop} (h : Own K F H v d S) (e : ∀ a, S a → S' a) : Own K F H v d S' := by
  cases h with
  | frz h => exact .frz h
  | mt ha h l r => exact .mt (e _ ha) h l r
  | mm Sc ha h l r sub dis => exact .mm Sc (e _ ha) h l r (fun i b q => ⟨e _ (sub i b q).1, (sub i b q).2⟩) dis
  | mo Sc ha h l r sub dis => exact .mo Sc (e _ ha) h l r (fun i b q => ⟨e _ (sub i b q).1, (sub i b q).2⟩) dis
  | dc ha h fl => exact .dc (e _ ha) h fl

theorem Own.stay {K : Frag} {F H F' H' : Hp} (e : Same F F') {v : V} {d : D} {S : Addr → Prop} (h : Own K F H v d S) (k : ∀ a o, S a → H a = some o → H' a = some o) : Own K F' H' v d S := by
  induction h with
  | frz h => exact .frz (h.mono e)
  | mt ha h l r => exact .mt ha (k _ _ ha h) l fun i v d q1 q2 => (r i v d q1 q2).mono e
  | mm Sc ha h l r sub dis ih => exact .mm Sc ha (k _ _ ha h) l (fun i v d q1 q2 => ih i v d q1 q2 fun a o s q => k a o (sub i a s).1 q) sub dis
  | mo Sc ha h l r sub dis ih => exact .mo Sc ha (k _ _ ha h) l (fun i v d q1 q2 => ih i v d q1 q2 fun a o s q => k a o (sub i a s).1 q) sub dis
  | dc ha h fl => exact .dc ha (k _ _ ha h) fl

/-- frozen, all the way down -/
inductive Frz : D → D → Prop
  | mt (xs : List D) : Frz (.mt xs) (.lst xs)
  | mm (xs ys : List D) (l : xs.length = ys.length) (r : ∀ (i : Nat) x y, xs[i]? = some x → ys[i]? = some y → Frz x y) : Frz (.mm xs) (.lst ys)
  | mo (C : String) (fs gs : List (Str × D)) (l : fs.map (·.1) = gs.map (·.1)) (r : ∀ (i : Nat) x y, fs[i]? = some x → gs[i]? = some y → Frz x.2 y.2) : Frz (.mo C fs) (.obj C gs)
  | non : Frz .non .non
  | bl b : Frz (.bl b) (.bl b)
  | int i : Frz (.int i) (.int i)
  | str s : Frz (.str s) (.str s)
  | ty s : Frz (.ty s) (.ty s)
  | cls s : Frz (.cls s) (.cls s)
  | exc C fs : Frz (.exc C fs) (.exc C fs)
  | «at» v : Frz (.at v) (.at v)
  | lst xs : Frz (.lst xs) (.lst xs)
  | tup xs : Frz (.tup xs) (.tup xs)
  | scr xs : Frz (.scr xs) (.scr xs)
  | obj C fs : Frz (.obj C fs) (.obj C fs)
theorem Own.rep {K : Frag} {F H F' : Hp} (e : Same F F') {v : V} {d d' : D} {S : Addr → Prop} (h : Own K F H v d S) (k : ∀ a o, S a → H a = some o → F' a = some o) (z : Frz d d') : Rep K F' v d' := by
  induction h generalizing d' with
  | frz h => cases z <;> first | exact h.mono e | cases h
  | mt ha h l r => cases z; exact .lst (k _ _ ha h) l fun i v d q1 q2 => (r i v d q1 q2).mono e
  | mm Sc ha h l r sub dis ih =>
    cases z with
    | mm _ ys l2 r2 =>
      refine .lst (k _ _ ha h) (l.trans l2) fun i v d q1 q2 => ?_
      have hi : i < _ := (List.getElem?_eq_some_iff.mp q2).1
      rw [← l2] at hi
      exact ih i v _ q1 (List.getElem?_eq_getElem hi) (fun a o s q => k a o (sub i a s).1 q) (r2 i _ _ (List.getElem?_eq_getElem hi) q2)
  | mo Sc ha h l r sub dis ih =>
    cases z with
    | mo _ _ gs l2 r2 =>
      refine .obj (k _ _ ha h) (l.trans l2) fun i v d q1 q2 => ?_
      have hi : i < _ := (List.getElem?_eq_some_iff.mp q2).1
      have hl := congrArg List.length l2
      rw [List.length_map, List.length_map] at hl
      rw [← hl] at hi
      exact ih i v _ q1 (List.getElem?_eq_getElem hi) (fun a o s q => k a o (sub i a s).1 q) (r2 i _ _ (List.getElem?_eq_getElem hi) q2)
  | dc ha h fl => cases z
/-- stands already -/
def isR : D → Bool
  | .mt _ => false
  | .mm _ => false
  | .mo _ _ => false
  | .dc _ => false
  | .ptr _ => false
  | _ => true
theorem Frz.ofR {d : D} (h : isR d = true) : Frz d d := by
  cases d with
  | non => exact .non
  | bl b => exact .bl b
  | int b => exact .int b
  | str b => exact .str b
  | ty b => exact .ty b
  | cls b => exact .cls b
  | exc C b => exact .exc C b
  | lst b => exact .lst b
  | tup b => exact .tup b
  | scr b => exact .scr b
  | obj C b => exact .obj C b
  | «at» b => exact .at b
  | mt b => exact nomatch h
  | mm b => exact nomatch h
  | mo C b => exact nomatch h
  | dc b => exact nomatch h
  | ptr b => exact nomatch h
/-- the frozen form, by reckoning -/
def frz1 : D → D
  | .mt xs => .lst xs
  | d => d
def isF1 : D → Bool
  | .mm _ => false
  | .mo _ _ => false
  | .dc _ => false
  | .ptr _ => false
  | _ => true
def frz : D → D
  | .mt xs => .lst xs
  | .mm xs => .lst (xs.map frz1)
  | .mo C fs => .obj C fs
  | d => d
def isF : D → Bool
  | .mm xs => xs.all isF1
  | .mo _ fs => fs.all fun p => isR p.2
  | .dc _ => false
  | .ptr _ => false
  | _ => true
theorem Frz.of1 {d : D} (h : isF1 d = true) : Frz d (frz1 d) := by
  cases d with
  | non => exact .non
  | bl b => exact .bl b
  | int b => exact .int b
  | str b => exact .str b
  | ty b => exact .ty b
  | cls b => exact .cls b
  | exc C b => exact .exc C b
  | lst b => exact .lst b
  | tup b => exact .tup b
  | scr b => exact .scr b
  | obj C b => exact .obj C b
  | mt b => exact .mt b
  | mm b => exact nomatch h
  | mo C b => exact nomatch h
  | dc b => exact nomatch h
  | ptr b => exact nomatch h
  | «at» b => exact .at b
theorem Frz.of {d : D} (h : isF d = true) : Frz d (frz d) := by
  cases d with
  | mm b =>
    refine .mm b _ (by rw [List.length_map]) fun i x y h1 h2 => ?_
    rw [List.getElem?_map, h1] at h2
    cases h2
    exact Frz.of1 (List.all_eq_true.mp h x (List.mem_of_getElem? h1))
  | mo C b =>
    refine .mo C b b rfl fun i x y h1 h2 => ?_
    rw [h1] at h2
    cases h2
    exact Frz.ofR (List.all_eq_true.mp h x (List.mem_of_getElem? h1))
  | dc b => exact nomatch h
  | ptr b => exact nomatch h
  | «at» b => exact .at b
  | non => exact .non
  | bl b => exact .bl b
  | int b => exact .int b
  | str b => exact .str b
  | ty b => exact .ty b
  | cls b => exact .cls b
  | exc C b => exact .exc C b
  | lst b => exact .lst b
  | tup b => exact .tup b
  | scr b => exact .scr b
  | obj C b => exact .obj C b
  | mt b => exact .mt b
theorem Own.toRep {K : Frag} {F H : Hp} {v : V} {d : D} {S : Addr → Prop} (h : Own K F H v d S) (z : isR d = true) : Rep K F v d := by
  cases h with
  | frz h => exact h
  | mt => cases z
  | mm => cases z
  | mo => cases z
  | dc => cases z
theorem Rep.isR {K : Frag} {F : Hp} {v : V} {d : D} (h : Rep K F v d) : isR d = true := by
  cases h <;> rfl

/-! ### the state -/
/-- a call's entry: what stood (F), all that was tracked (H), what one may change (A), through which slots (own); slots that keep their values (pins) -/
structure Base where
  F : Hp
  H : Hp
  A : Nat → Addr → Prop
  own : List Nat
  pins : List (Nat × V)
abbrev Fam := Nat ⊕ Nat → Addr → Prop
structure RelF (K : Frag) (B : Base) (F : Hp) (U : Fam) (env : Env) (σ : L2.St) (tm : List (V × D)) (H : Hp) : Prop where
  len : env.length = σ.length
  own : ∀ (i : Nat) d, env[i]? = some (some d) → ∃ v, σ[i]? = some (some v) ∧ Own K F H v d (U (.inl i))
  tmp : ∀ (i : Nat) v d, tm[i]? = some (v, d) → Own K F H v d (U (.inr i)) ∨ ∃ j, d = .ptr j ∧ σ[j]? = some (some v)
  dis : ∀ x y a, U x a → U y a → x = y
  nof : ∀ x a, U x a → F a = none
  liv : ∀ x a, U x a → H a ≠ none
  sub : Same F H
  base : Same B.F F
  keep : ∀ b o, B.H b = some o → (∀ i, ¬ B.A i b) → H b = some o
  new : ∀ b o, F b = some o → B.F b = some o ∨ B.H b = none
  usr : ∀ x a, U x a → B.H a = none ∨ ∃ i, x = .inl i ∧ B.A i a
  ownA : ∀ i a, B.A i a → i ∈ B.own
  pin : ∀ p ∈ B.pins, σ[p.1]? = some (some p.2)
  ther : ∀ b, B.H b ≠ none → H b ≠ none
def Rel (K : Frag) (B : Base) (env : Env) (σ : L2.St) (tm : List (V × D)) (H : Hp) : Prop := ∃ F U, RelF K B F U env σ tm H
def pushU (U : Fam) (S : Addr → Prop) : Fam
  | .inl i => U (.inl i)
  | .inr 0 => S
  | .inr (i + 1) => U (.inr i)
section
variable {K : Frag} {B : Base} {F : Hp} {U : Fam} {env : Env} {σ : L2.St} {tm : List (V × D)} {H : Hp}
theorem upd_some {H : Hp} {p b : Addr} {o : HO} (h : H b ≠ none) : upd H p o b ≠ none := by
  by_cases hb : b = p
  · rw [hb, upd_same]; exact fun z => nomatch z
  · rw [upd_ne hb]; exact h
theorem none_or {H : Hp} {b : Addr} : H b = none ∨ H b ≠ none := by
  cases H b with
  | none => exact .inl rfl
  | some o => exact .inr fun z => nomatch z
/-- a new object that stands -/
theorem RelF.grow (R : RelF K B F U env σ tm H) {p : Addr} (o : HO) (hp : H p = none) : RelF K B (upd F p o) U env σ tm (upd H p o) := by
  have fp : F p = none := R.sub.free hp
  have np : ∀ x a, U x a → a ≠ p := fun x a u z => R.liv x a u (by rw [z]; exact hp)
  have sF : Same F (upd F p o) := fun b u e => by rw [upd_ne (ne_of_none e fp)]; exact e
  have st : ∀ x, ∀ a u, U x a → H a = some u → upd H p o a = some u := fun x a u h e => by rw [upd_ne (np x a h)]; exact e
  refine ⟨R.len, fun i d e => ?_, fun i v d e => ?_, R.dis, fun x a u => by rw [upd_ne (np x a u)]; exact R.nof x a u, fun x a u => by rw [upd_ne (np x a u)]; exact R.liv x a u, fun b u e => ?_, R.base.trans sF, fun b u e n => ?_, fun b u e => ?_, R.usr, R.ownA, R.pin, fun b e => upd_some (R.ther b e)⟩
  · obtain ⟨v, h1, h2⟩ := R.own i d e
    exact ⟨v, h1, h2.stay sF (st _)⟩
  · rcases R.tmp i v d e with h | h
    · exact .inl (h.stay sF (st _))
    · exact .inr h
  · by_cases hb : b = p
    · rw [hb, upd_same] at e ⊢; exact e
    · rw [upd_ne hb] at e ⊢; exact R.sub b u e
  · have q := R.keep b u e n
    rw [upd_ne (ne_of_none q hp)]; exact q
  · by_cases hb : b = p
    · subst hb
      rcases none_or (H := B.H) (b := b) with q | q
      · exact .inr q
      · exact absurd hp (R.ther b q)
    · rw [upd_ne hb] at e; exact R.new b u e
/-- a value that stands, put by -/
theorem RelF.pushO (R : RelF K B F U env σ tm H) {v : V} {d : D} (h : Rep K F v d ∨ ∃ j, d = .ptr j ∧ σ[j]? = some (some v)) : RelF K B F (pushU U fun _ => False) env σ ((v, d) :: tm) H := by
  have back : ∀ x a, pushU U (fun _ => False) x a → ∃ y, U y a := by
    intro x a u
    rcases x with i | i
    · exact ⟨.inl i, u⟩
    · cases i with
      | zero => exact u.elim
      | succ i => exact ⟨.inr i, u⟩
  refine ⟨R.len, R.own, fun i w e q => ?_, fun x y a u w => ?_, fun x a u => ?_, fun x a u => ?_, R.sub, R.base, R.keep, R.new, fun x a u => ?_, R.ownA, R.pin, R.ther⟩
  · cases i with
    | zero => cases q; exact h.imp .frz id
    | succ i => exact R.tmp i w e q
  · rcases x with i | i <;> rcases y with j | j
    · exact R.dis (.inl i) (.inl j) a u w
    · cases j with
      | zero => exact w.elim
      | succ j => exact nomatch R.dis (.inl i) (.inr j) a u w
    · cases i with
      | zero => exact u.elim
      | succ i => exact nomatch R.dis (.inr i) (.inl j) a u w
    · cases i with
      | zero => exact u.elim
      | succ i =>
        cases j with
        | zero => exact w.elim
        | succ j => have := R.dis (.inr i) (.inr j) a u w; cases this; rfl
  · obtain ⟨y, h⟩ := back x a u; exact R.nof y a h
  · obtain ⟨y, h⟩ := back x a u; exact R.liv y a h
  · rcases x with i | i
    · exact R.usr (.inl i) a u
    · cases i with
      | zero => exact u.elim
      | succ i =>
        rcases R.usr (.inr i) a u with h | ⟨_, e, _⟩
        · exact .inl h
        · cases e
theorem RelF.push (R : RelF K B F U env σ tm H) {v : V} {d : D} (h : Rep K F v d) : RelF K B F (pushU U fun _ => False) env σ ((v, d) :: tm) H := R.pushO (.inl h)
/-- what is put by, in another order, or less of it -/
theorem RelF.re (R : RelF K B F U env σ tm H) (tm' : List (V × D)) (f : Nat → Nat) (hf : ∀ i j, f i = f j → i = j) (h : ∀ (i : Nat) (x : V × D), tm'[i]? = some x → tm[f i]? = some x) :
    RelF K B F (fun x => match x with | .inl i => U (.inl i) | .inr i => U (.inr (f i))) env σ tm' H := by
  refine ⟨R.len, R.own, fun i w e q => R.tmp (f i) w e (h i _ q), fun x y a u w => ?_, fun x a u => ?_, fun x a u => ?_, R.sub, R.base, R.keep, R.new, fun x a u => ?_, R.ownA, R.pin, R.ther⟩
  · rcases x with i | i <;> rcases y with j | j
    · exact R.dis (.inl i) (.inl j) a u w
    · exact nomatch R.dis (.inl i) (.inr (f j)) a u w
    · exact nomatch R.dis (.inr (f i)) (.inl j) a u w
    · have := R.dis (.inr (f i)) (.inr (f j)) a u w
      have e : f i = f j := by injection this
      rw [hf i j e]
  · rcases x with i | i
    · exact R.nof (.inl i) a u
    · exact R.nof (.inr (f i)) a u
  · rcases x with i | i
    · exact R.liv (.inl i) a u
    · exact R.liv (.inr (f i)) a u
  · rcases x with i | i
    · exact R.usr (.inl i) a u
    · rcases R.usr (.inr (f i)) a u with h | ⟨_, e, _⟩
      · exact .inl h
      · cases e
theorem Rel.pop {x : V × D} (R : Rel K B env σ (x :: tm) H) : Rel K B env σ tm H := by
  obtain ⟨F, U, R⟩ := R
  exact ⟨F, _, R.re tm (· + 1) (fun i j e => Nat.succ.inj e) fun i x e => e⟩
theorem Rel.popN (l : List (V × D)) (R : Rel K B env σ (l ++ tm) H) : Rel K B env σ tm H := by
  induction l with
  | nil => exact R
  | cons x l ih => exact ih R.pop
/-- the last put by goes beneath some others -/
theorem Rel.under {l : List (V × D)} {x : V × D} (R : Rel K B env σ (l ++ x :: tm) H) : Rel K B env σ (x :: (l ++ tm)) H := by
  obtain ⟨F, U, R⟩ := R
  refine ⟨F, _, R.re (x :: (l ++ tm)) (fun i => match i with | 0 => l.length | i + 1 => if i < l.length then i else i + 1) (fun i j e => ?_) fun i y e => ?_⟩
  · cases i <;> cases j <;> dsimp only at e
    · rfl
    · split at e <;> omega
    · split at e <;> omega
    · split at e <;> split at e <;> omega
  · cases i with
    | zero =>
      dsimp only
      rw [List.getElem?_append_right (Nat.le_refl _), Nat.sub_self]
      exact e
    | succ i =>
      dsimp only
      have e' : (l ++ tm)[i]? = some y := e
      split
      · rename_i hi
        rw [List.getElem?_append_left hi] at e' ⊢
        exact e'
      · rename_i hi
        rw [List.getElem?_append_right (by omega)] at e' ⊢
        rw [show i + 1 - l.length = (i - l.length) + 1 by omega]
        exact e'
/-- a slot is forgotten -/
theorem RelF.forget (R : RelF K B F U env σ tm H) (i : Nat) : RelF K B F U (env.set i none) σ tm H := by
  refine ⟨by rw [List.length_set]; exact R.len, fun j d e => ?_, R.tmp, R.dis, R.nof, R.liv, R.sub, R.base, R.keep, R.new, R.usr, R.ownA, R.pin, R.ther⟩
  by_cases h : i = j
  · subst h
    rw [List.getElem?_set_self'] at e
    cases q : env[i]? with
    | none => rw [q] at e; cases e
    | some z => rw [q] at e; cases e
  · rw [List.getElem?_set_ne h] at e
    exact R.own j d e
/-- no slot is meant by what is put by -/
def NoPtr (tm : List (V × D)) : Prop := ∀ v j, (v, D.ptr j) ∉ tm
def stU (U : Fam) (i : Nat) : Fam
  | .inl j => if j = i then U (.inr 0) else U (.inl j)
  | .inr j => U (.inr (j + 1))
theorem stU_same {U : Fam} {i : Nat} : stU U i (.inl i) = U (.inr 0) := if_pos rfl
theorem stU_ne {U : Fam} {i j : Nat} (h : j ≠ i) : stU U i (.inl j) = U (.inl j) := if_neg h
/-- what is put by goes into a slot -/
theorem RelF.storeP {v : V} {d : D} (R : RelF K B F U env σ ((v, d) :: tm) H) (i : Nat) (hp : ∀ p ∈ B.pins, p.1 ≠ i) (ho : i ∉ B.own) (hd : ∀ j, d ≠ .ptr j) (ht : ∀ w, (w, D.ptr i) ∉ tm) :
    RelF K B F (stU U i) (env.set i (some d)) (σ.set i (some v)) tm H := by
  refine ⟨by rw [List.length_set, List.length_set]; exact R.len, fun j d' e => ?_, fun j w d' e => ?_, fun x y a u w => ?_, fun x a u => ?_, fun x a u => ?_, R.sub, R.base, R.keep, R.new, fun x a u => ?_, R.ownA, fun p hp' => ?_, R.ther⟩
  · by_cases h : j = i
    · subst h
      rw [List.getElem?_set_self'] at e
      have hl : ∃ z, env[j]? = some z := by
        cases q : env[j]? with
        | none => rw [q] at e; cases e
        | some z => exact ⟨z, rfl⟩
      obtain ⟨z, hz⟩ := hl
      rw [hz] at e
      cases e
      have hlt : j < σ.length := by rw [← R.len]; exact (List.getElem?_eq_some_iff.mp hz).1
      refine ⟨v, List.getElem?_set_self hlt, ?_⟩
      rw [stU_same]
      rcases R.tmp 0 v d rfl with q | ⟨k, q, _⟩
      · exact q
      · exact absurd q (hd k)
    · rw [List.getElem?_set_ne (Ne.symm h)] at e
      obtain ⟨w, h1, h2⟩ := R.own j d' e
      refine ⟨w, by rw [List.getElem?_set_ne (Ne.symm h)]; exact h1, ?_⟩
      rw [stU_ne h]; exact h2
  · rcases R.tmp (j + 1) w d' e with q | ⟨k, q, q2⟩
    · exact .inl q
    · subst q
      have hk : k ≠ i := fun z => ht w (z ▸ List.mem_of_getElem? e)
      exact .inr ⟨k, rfl, by rw [List.getElem?_set_ne (Ne.symm hk)]; exact q2⟩
  · have key : ∀ x : Nat ⊕ Nat, ∃ y : Nat ⊕ Nat, stU U i x = U y ∧ y = (match x with | .inl j => if j = i then .inr 0 else .inl j | .inr j => .inr (j + 1)) := by
      intro x
      rcases x with j | j
      · by_cases h : j = i
        · exact ⟨.inr 0, by rw [h, stU_same], by rw [h]; exact (if_pos rfl).symm⟩
        · exact ⟨.inl j, by rw [stU_ne h], (if_neg h).symm⟩
      · exact ⟨.inr (j + 1), rfl, rfl⟩
    obtain ⟨x', ex, hx⟩ := key x
    obtain ⟨y', ey, hy⟩ := key y
    rw [ex] at u
    rw [ey] at w
    have e := R.dis x' y' a u w
    subst e
    rw [hx] at hy
    rcases x with j | j <;> rcases y with k | k <;> dsimp only at hy
    · by_cases h : j = i <;> by_cases h' : k = i
      · rw [h, h']
      · rw [if_pos h, if_neg h'] at hy; cases hy
      · rw [if_neg h, if_pos h'] at hy; cases hy
      · rw [if_neg h, if_neg h'] at hy; cases hy; rfl
    · by_cases h : j = i
      · rw [if_pos h] at hy; cases hy
      · rw [if_neg h] at hy; cases hy
    · by_cases h : k = i
      · rw [if_pos h] at hy; cases hy
      · rw [if_neg h] at hy; cases hy
    · cases hy; rfl
  · rcases x with j | j
    · by_cases h : j = i
      · rw [h, stU_same] at u; exact R.nof _ a u
      · rw [stU_ne h] at u; exact R.nof _ a u
    · exact R.nof _ a u
  · rcases x with j | j
    · by_cases h : j = i
      · rw [h, stU_same] at u; exact R.liv _ a u
      · rw [stU_ne h] at u; exact R.liv _ a u
    · exact R.liv _ a u
  · rcases x with j | j
    · by_cases h : j = i
      · rw [h, stU_same] at u
        rcases R.usr (.inr 0) a u with q | ⟨_, e, _⟩
        · exact .inl q
        · cases e
      · rw [stU_ne h] at u
        exact R.usr (.inl j) a u
    · rcases R.usr (.inr (j + 1)) a u with q | ⟨_, e, _⟩
      · exact .inl q
      · cases e
  · rw [List.getElem?_set_ne (Ne.symm (hp p hp'))]
    exact R.pin p hp'
theorem RelF.store {v : V} {d : D} (R : RelF K B F U env σ ((v, d) :: tm) H) (i : Nat) (hp : ∀ p ∈ B.pins, p.1 ≠ i) (ho : i ∉ B.own) (hd : ∀ j, d ≠ .ptr j) (ht : NoPtr tm) :
    RelF K B F (stU U i) (env.set i (some d)) (σ.set i (some v)) tm H := R.storeP i hp ho hd fun w => ht w i
theorem Same.both {F H : Hp} {S : Addr → Prop} [DecidablePred S] (h : Same F H) (n : ∀ a, S a → F a = none) : Same F (fun b => if S b then H b else F b) := fun b o e => by
  show (if S b then H b else F b) = some o
  split
  · exact h b o e
  · exact e
open Classical in
/-- one's own becomes what stands: of a slot, of what is put by -/
theorem RelF.settle (R : RelF K B F U env σ tm H) (z : Nat ⊕ Nat) (hz : ∀ i ∈ B.own, z ≠ .inl i) (env' : Env) (tm' : List (V × D)) (he : env'.length = env.length)
    (h1 : ∀ (i : Nat) d, env'[i]? = some (some d) → (env[i]? = some (some d) ∧ z ≠ .inl i) ∨ ∃ v d0, σ[i]? = some (some v) ∧ Own K F H v d0 (U z) ∧ Frz d0 d)
    (h2 : ∀ (i : Nat) v d, tm'[i]? = some (v, d) → (tm[i]? = some (v, d) ∧ z ≠ .inr i) ∨ ∃ d0, Own K F H v d0 (U z) ∧ Frz d0 d) :
    RelF K B (fun b => if U z b then H b else F b) (fun x => if x = z then fun _ => False else U x) env' σ tm' H := by
  have sF : Same F (fun b => if U z b then H b else F b) := Same.both R.sub fun a u => R.nof z a u
  have rep : ∀ v d0 d, Own K F H v d0 (U z) → Frz d0 d → Rep K (fun b => if U z b then H b else F b) v d := fun v d0 d h q => h.rep sF (fun a o s e => by show (if U z a then H a else F a) = some o; rw [if_pos s]; exact e) q
  have un : ∀ x a, (if x = z then fun _ => False else U x) a → x ≠ z ∧ U x a := fun x a u => by
    by_cases h : x = z
    · rw [if_pos h] at u; exact u.elim
    · rw [if_neg h] at u; exact ⟨h, u⟩
  refine ⟨he.trans R.len, fun i d e => ?_, fun i v d e => ?_, fun x y a u w => R.dis x y a (un x a u).2 (un y a w).2, fun x a u => ?_, fun x a u => R.liv x a (un x a u).2, fun b o e => ?_, R.base.trans sF, R.keep, fun b o e => ?_, fun x a u => R.usr x a (un x a u).2, R.ownA, R.pin, R.ther⟩
  · rcases h1 i d e with ⟨q, n⟩ | ⟨v, d0, q1, q2, q3⟩
    · obtain ⟨v, q1, q2⟩ := R.own i d q
      refine ⟨v, q1, ?_⟩
      rw [if_neg (Ne.symm n)]
      exact q2.stay sF fun a o s e => e
    · exact ⟨v, q1, .frz (rep _ _ _ q2 q3)⟩
  · rcases h2 i v d e with ⟨q, n⟩ | ⟨d0, q2, q3⟩
    · rcases R.tmp i v d q with q | q
      · refine .inl ?_
        rw [if_neg (Ne.symm n)]
        exact q.stay sF fun a o s e => e
      · exact .inr q
    · exact .inl (.frz (rep _ _ _ q2 q3))
  · obtain ⟨n, u⟩ := un x a u
    show (if U z a then H a else F a) = none
    rw [if_neg (fun h => n (R.dis x z a u h))]
    exact R.nof x a u
  · have e : (if U z b then H b else F b) = some o := e
    split at e
    · exact e
    · exact R.sub b o e
  · have e : (if U z b then H b else F b) = some o := e
    split at e
    · rename_i u
      rcases R.usr z b u with q | ⟨i, q, hi⟩
      · exact .inr q
      · exact absurd q (hz i (R.ownA i b hi))
    · exact R.new b o e
/-- one's own at a slot is changed, at one address of its footprint -/
theorem RelF.write (R : RelF K B F U env σ tm H) {i : Nat} {a : Addr} {o : HO} {v : V} {d : D} (hv : σ[i]? = some (some v)) (ha : U (.inl i) a) (h : Own K F (upd H a o) v d (U (.inl i))) :
    RelF K B F U (env.set i (some d)) σ tm (upd H a o) := by
  have oth : ∀ x, x ≠ .inl i → ∀ b u, U x b → H b = some u → upd H a o b = some u := fun x n b u s e => by
    rw [upd_ne (fun z => n (R.dis x (.inl i) a (by rw [← z]; exact s) ha))]; exact e
  refine ⟨by rw [List.length_set]; exact R.len, fun j d' e => ?_, fun j w d' e => ?_, R.dis, R.nof, fun x b u => upd_some (R.liv x b u), fun b u e => ?_, R.base, fun b u e n => ?_, R.new, R.usr, R.ownA, R.pin, fun b e => upd_some (R.ther b e)⟩
  · by_cases hj : i = j
    · subst hj
      rw [List.getElem?_set_self'] at e
      cases q : env[i]? with
      | none => rw [q] at e; cases e
      | some z =>
        rw [q] at e
        cases e
        exact ⟨v, hv, h⟩
    · rw [List.getElem?_set_ne hj] at e
      obtain ⟨w, h1, h2⟩ := R.own j d' e
      exact ⟨w, h1, h2.stay (Same.refl F) (oth _ fun z => hj (by cases z; rfl))⟩
  · rcases R.tmp j w d' e with q | q
    · exact .inl (q.stay (Same.refl F) (oth _ fun z => nomatch z))
    · exact .inr q
  · rw [upd_ne (fun z => by have := R.nof _ a ha; rw [z, this] at e; cases e)]
    exact R.sub b u e
  · have q := R.keep b u e n
    rw [upd_ne (fun z => by
      rcases R.usr _ a ha with h | ⟨k, _, h⟩
      · rw [z, h] at e; cases e
      · exact n k (by rw [z]; exact h))]
    exact q
/-- a new object of one's own, put by -/
theorem RelF.pushNew (R : RelF K B F U env σ tm H) {p : Addr} {o : HO} {v : V} {d : D} (hp : H p = none) (h : Own K F (upd H p o) v d (· = p)) : RelF K B F (pushU U (· = p)) env σ ((v, d) :: tm) (upd H p o) := by
  have fp : F p = none := R.sub.free hp
  have np : ∀ x a, U x a → a ≠ p := fun x a u z => R.liv x a u (by rw [z]; exact hp)
  have st : ∀ x, ∀ a u, U x a → H a = some u → upd H p o a = some u := fun x a u h e => by rw [upd_ne (np x a h)]; exact e
  have bp : B.H p = none := by
    rcases none_or (H := B.H) (b := p) with q | q
    · exact q
    · exact absurd hp (R.ther p q)
  have back : ∀ x a, pushU U (· = p) x a → (x = .inr 0 ∧ a = p) ∨ ∃ y, U y a ∧ (match x with | .inl i => y = .inl i | .inr i => ∃ j, i = j + 1 ∧ y = .inr j) := by
    intro x a u
    rcases x with i | i
    · exact .inr ⟨.inl i, u, rfl⟩
    · cases i with
      | zero => exact .inl ⟨rfl, u⟩
      | succ i => exact .inr ⟨.inr i, u, i, rfl, rfl⟩
  refine ⟨R.len, fun i d e => ?_, fun i w e q => ?_, fun x y a u w => ?_, fun x a u => ?_, fun x a u => ?_, fun b u e => ?_, R.base, fun b u e n => ?_, R.new, fun x a u => ?_, R.ownA, R.pin, fun b e => upd_some (R.ther b e)⟩
  · obtain ⟨v, h1, h2⟩ := R.own i d e
    exact ⟨v, h1, h2.stay (Same.refl F) (st _)⟩
  · cases i with
    | zero => cases q; exact .inl h
    | succ i =>
      rcases R.tmp i w e q with q | q
      · exact .inl (q.stay (Same.refl F) (st _))
      · exact .inr q
  · rcases back x a u with ⟨e1, e2⟩ | ⟨x', u', hx⟩
    · rcases back y a w with ⟨e3, e4⟩ | ⟨y', w', hy⟩
      · rw [e1, e3]
      · exact absurd e2 (np _ _ w')
    · rcases back y a w with ⟨e3, e4⟩ | ⟨y', w', hy⟩
      · exact absurd e4 (np _ _ u')
      · have e := R.dis x' y' a u' w'
        subst e
        rcases x with i | i <;> rcases y with j | j
        · dsimp only at hx hy; rw [hx] at hy; cases hy; rfl
        · obtain ⟨k, e, q⟩ := hy; dsimp only at hx; rw [hx] at q; cases q
        · obtain ⟨k, e, q⟩ := hx; dsimp only at hy; rw [hy] at q; cases q
        · obtain ⟨k, e, q⟩ := hx
          obtain ⟨k', e', q'⟩ := hy
          rw [q] at q'; cases q'
          rw [e, e']
  · rcases back x a u with ⟨_, e⟩ | ⟨y, u', _⟩
    · rw [e]; exact fp
    · exact R.nof y a u'
  · rcases back x a u with ⟨_, e⟩ | ⟨y, u', _⟩
    · rw [e, upd_same]; exact fun z => nomatch z
    · exact upd_some (R.liv y a u')
  · rw [upd_ne (ne_of_none e fp)]; exact R.sub b u e
  · have q := R.keep b u e n
    rw [upd_ne (ne_of_none q hp)]; exact q
  · rcases back x a u with ⟨_, e⟩ | ⟨y, u', hx⟩
    · rw [e]; exact .inl bp
    · rcases R.usr y a u' with q | ⟨i, q, q2⟩
      · exact .inl q
      · rcases x with j | j
        · dsimp only at hx; rw [hx] at q; exact .inr ⟨i, q, q2⟩
        · obtain ⟨k, _, e⟩ := hx; rw [e] at q; cases q
end
end DL

/-! ## DLb.lean -/
namespace DL
open PySem PySem.Spec PyProof.Rows L2

/-! ### a call: the callee's entry and end -/
/-- what an argument means here -/
def res (env : Env) : D → Option D
  | .ptr j => (env[j]?).join
  | d => some d
theorem join_some {env : Env} {j : Nat} {d : D} : (env[j]?).join = some d ↔ env[j]? = some (some d) := by
  cases h : env[j]? with
  | none => simp
  | some z => cases z <;> simp
/-- the slots that are handed over -/
@[simp] def ptrs : List D → List Nat
  | [] => []
  | .ptr j :: ds => j :: ptrs ds
  | _ :: ds => ptrs ds
structure ArgOk (ow : List Nat) (env : Env) (ds : List D) : Prop where
  own : ∀ k ∈ ow, ∃ j d, ds[k]? = some (.ptr j) ∧ env[j]? = some (some d)
  oth : ∀ k d, ds[k]? = some d → k ∉ ow → isR d = true
  dis : ∀ (k k' j : Nat), ds[k]? = some (.ptr j) → ds[k']? = some (.ptr j) → k = k'
/-- the handed slots' data at the end -/
def outs (ow : List Nat) (env : Env) : Option (List D) := ow.mapM fun i => (env[i]?).join
/-- .. put into the caller's slots -/
@[simp] def putO (ds : List D) : List Nat → List D → Env → Env
  | k :: ow, d :: os, env => putO ds ow os (match ds[k]? with | some (.ptr j) => env.set j (some d) | _ => env)
  | _, _, env => env
section
variable {K : Frag} {B : Base} {F : Hp} {U : Fam} {env : Env} {σ : L2.St} {tm : List (V × D)} {H : Hp}
@[simp] def argD (env : Env) (d : D) : D := (res env d).getD .non
theorem zip_get {vs : List V} {ds : List D} (l : vs.length = ds.length) {k : Nat} {d : D} (h : ds[k]? = some d) : ∃ v, vs[k]? = some v ∧ (vs.zip ds)[k]? = some (v, d) := by
  have hk : k < ds.length := (List.getElem?_eq_some_iff.mp h).1
  rw [← l] at hk
  refine ⟨vs[k], List.getElem?_eq_getElem hk, ?_⟩
  rw [List.getElem?_zip_eq_some]
  exact ⟨List.getElem?_eq_getElem hk, h⟩
theorem isR_ptr {d : D} (h : isR d = true) : ∀ j, d ≠ .ptr j := fun j e => by
  rw [e] at h; exact nomatch h
/-- the base of a callee -/
def calleeB (F H : Hp) (U : Fam) (ow : List Nat) (vs : List V) (ds : List D) : Base :=
  { F := F, H := H, A := fun k b => k ∈ ow ∧ ∃ j, ds[k]? = some (.ptr j) ∧ U (.inl j) b, own := ow, pins := ow.filterMap fun k => (vs[k]?).map fun v => (k, v) }
theorem RelF.entry (R : RelF K B F U env σ (vs.zip ds ++ tm) H) (l : vs.length = ds.length) {ow : List Nat} (ok : ArgOk ow env ds) :
    RelF K (calleeB F H U ow vs ds) F (fun x b => ∃ k, x = .inl k ∧ (calleeB F H U ow vs ds).A k b) ((ds.map (argD env)).map some) (vs.map some) [] H where
  len := by simp [l]
  own := fun i d e => by
    rw [List.getElem?_map, List.getElem?_map] at e
    cases q : ds[i]? with
    | none => rw [q] at e; cases e
    | some d0 =>
      rw [q] at e
      obtain ⟨v, hv, hz⟩ := zip_get l q
      refine ⟨v, by rw [List.getElem?_map, hv]; rfl, ?_⟩
      have hlt : i < (vs.zip ds).length := (List.getElem?_eq_some_iff.mp hz).1
      have ht := R.tmp i v d0 (by rw [List.getElem?_append_left hlt]; exact hz)
      have e' : argD env d0 = d := by
        have e2 : some (some (argD env d0)) = some (some d) := e
        injection e2 with e3; injection e3
      by_cases hw : i ∈ ow
      · obtain ⟨j, dj, q1, q2⟩ := ok.own i hw
        rw [q] at q1; cases q1
        have : argD env (.ptr j) = dj := by
          show ((env[j]?).join).getD .non = dj
          rw [join_some.mpr q2]; rfl
        rw [← e', this]
        obtain ⟨w, h1, h2⟩ := R.own j dj q2
        rcases ht with h | ⟨k, h, h3⟩
        · cases h with | frz h => cases h
        · cases h
          rw [h1] at h3; cases h3
          exact h2.wide fun a u => ⟨i, rfl, hw, j, q, u⟩
      · have hr := ok.oth i d0 q hw
        have : argD env d0 = d0 := by cases d0 <;> first | rfl | exact nomatch hr
        rw [← e', this]
        rcases ht with h | ⟨k, h, h3⟩
        · exact .frz (h.toRep hr)
        · rw [h] at hr; exact nomatch hr
  tmp := fun i v d e => by simp at e
  dis := fun x y a u w => by
    obtain ⟨k, rfl, hk, j, q, u⟩ := u
    obtain ⟨k', rfl, hk', j', q', w⟩ := w
    have := R.dis _ _ a u w
    cases this
    rw [ok.dis k k' j q q']
  nof := fun x a u => by
    obtain ⟨k, rfl, hk, j, q, u⟩ := u
    exact R.nof _ a u
  liv := fun x a u => by
    obtain ⟨k, rfl, hk, j, q, u⟩ := u
    exact R.liv _ a u
  sub := R.sub
  base := Same.refl F
  keep := fun b o e n => e
  new := fun b o e => .inl e
  usr := fun x a u => by
    obtain ⟨k, rfl, u⟩ := u
    exact .inr ⟨k, rfl, u⟩
  ownA := fun i a h => h.1
  pin := fun p hp => by
    obtain ⟨k, hk, e⟩ := List.mem_filterMap.mp hp
    cases q : vs[k]? with
    | none => rw [q] at e; cases e
    | some v => rw [q] at e; cases e; rw [List.getElem?_map, q]; rfl
  ther := fun b h => h
def afterU (U U1 : Fam) (ow : List Nat) (ds : List D) (n : Nat) : Fam
  | .inl j => fun b => (∃ k, k ∈ ow ∧ ds[k]? = some (.ptr j) ∧ U1 (.inl k) b) ∨ ((∀ k ∈ ow, ds[k]? ≠ some (.ptr j)) ∧ U (.inl j) b)
  | .inr 0 => U1 (.inr 0)
  | .inr (i + 1) => U (.inr (i + n))
theorem RelF.after {vs : List V} {ds : List D} {ow : List Nat} {F1 : Hp} {U1 : Fam} {env1 env' : Env} {v : V} {r : D} {H1 : Hp} (R : RelF K B F U env σ (vs.zip ds ++ tm) H) (l : vs.length = ds.length) (ok : ArgOk ow env ds)
    (P : RelF K (calleeB F H U ow vs ds) F1 U1 env1 (vs.map some) [(v, r)] H1) (hr : ∀ j, r ≠ .ptr j) (hl : env'.length = env.length)
    (he : ∀ j d, env'[j]? = some (some d) → (env[j]? = some (some d) ∧ ∀ k ∈ ow, ds[k]? ≠ some (.ptr j)) ∨ ∃ k, k ∈ ow ∧ ds[k]? = some (.ptr j) ∧ env1[k]? = some (some d)) :
    RelF K B F1 (afterU U U1 ow ds (vs.zip ds).length) env' σ ((v, r) :: tm) H1 := by
  -- an old footprint that was not handed over
  have old : ∀ x b, U x b → (∀ k j, k ∈ ow → ds[k]? = some (.ptr j) → x ≠ .inl j) → ∀ k, ¬ (calleeB F H U ow vs ds).A k b := fun x b u n k ⟨hk, j, q, u'⟩ => n k j hk q (R.dis x _ b u u')
  have stay : ∀ x, (∀ k j, k ∈ ow → ds[k]? = some (.ptr j) → x ≠ .inl j) → ∀ b o, U x b → H b = some o → H1 b = some o := fun x n b o u e => P.keep b o e (old x b u n)
  have nF : ∀ x b, U x b → F1 b = none := fun x b u => by
    cases q : F1 b with
    | none => rfl
    | some o =>
      rcases P.new b o q with h | h
      · have := R.nof x b u
        have h : F b = some o := h
        rw [this] at h; cases h
      · exact absurd h (R.liv x b u)
  -- a callee's footprint
  have fresh : ∀ x b, U1 x b → H b = none ∨ ∃ k j, x = .inl k ∧ k ∈ ow ∧ ds[k]? = some (.ptr j) ∧ U (.inl j) b := fun x b u => by
    rcases P.usr x b u with h | ⟨k, e, hk, j, q, u'⟩
    · exact .inl h
    · exact .inr ⟨k, j, e, hk, q, u'⟩
  have inlOld : ∀ j, (∀ k ∈ ow, ds[k]? ≠ some (.ptr j)) → ∀ k j', k ∈ ow → ds[k]? = some (.ptr j') → (Sum.inl j : Nat ⊕ Nat) ≠ .inl j' := fun j n k j' hk q z => by
    cases z; exact n k hk q
  have inrOld : ∀ i : Nat, ∀ k j', k ∈ ow → ds[k]? = some (.ptr j') → (Sum.inr i : Nat ⊕ Nat) ≠ .inl j' := fun i k j' hk q z => nomatch z
  have cross : ∀ x y b, U1 x b → U y b → (∀ k j, k ∈ ow → ds[k]? = some (.ptr j) → y ≠ .inl j) → False := fun x y b u w n => by
    rcases fresh x b u with h | ⟨k, j, _, hk, q, u'⟩
    · exact R.liv y b w h
    · exact n k j hk q (R.dis y _ b w u')
  refine ⟨hl.trans R.len, fun j d e => ?_, fun i w d e => ?_, fun x y b u w => ?_, fun x b u => ?_, fun x b u => ?_, P.sub, R.base.trans P.base, fun b o e n => ?_, fun b o e => ?_, fun x b u => ?_, R.ownA, R.pin, fun b e => P.ther b (R.ther b e)⟩
  · rcases he j d e with ⟨e0, n⟩ | ⟨k, hk, q, e1⟩
    · obtain ⟨w, h1, h2⟩ := R.own j d e0
      exact ⟨w, h1, (h2.stay P.base (stay _ (inlOld j n))).wide fun b u => .inr ⟨n, u⟩⟩
    · obtain ⟨w, h1, h2⟩ := P.own k d e1
      have hw : vs[k]? = some w := by
        rw [List.getElem?_map] at h1
        cases z : vs[k]? with
        | none => rw [z] at h1; cases h1
        | some u => rw [z] at h1; cases h1; rfl
      obtain ⟨w', g1, g2⟩ := zip_get l q
      rw [hw] at g1; cases g1
      have hlt : k < (vs.zip ds).length := (List.getElem?_eq_some_iff.mp g2).1
      rcases R.tmp k w _ (by rw [List.getElem?_append_left hlt]; exact g2) with t | ⟨j', t, t2⟩
      · cases t with | frz t => cases t
      · cases t
        exact ⟨w, t2, h2.wide fun b u => .inl ⟨k, hk, q, u⟩⟩
  · cases i with
    | zero =>
      cases e
      rcases P.tmp 0 _ _ rfl with q | ⟨j, q, _⟩
      · exact .inl q
      · exact absurd q (hr j)
    | succ i =>
      have e : tm[i]? = some (w, d) := e
      have q := R.tmp (i + (vs.zip ds).length) w d (by rw [List.getElem?_append_right (by omega), Nat.add_sub_cancel]; exact e)
      rcases q with q | q
      · exact .inl (q.stay P.base (stay _ (inrOld _)))
      · exact .inr q
  · rcases x with i | i <;> rcases y with j | j
    · rcases u with ⟨k, hk, q, u⟩ | ⟨n, u⟩ <;> rcases w with ⟨k', hk', q', w⟩ | ⟨n', w⟩
      · have e := P.dis _ _ b u w
        cases e
        rw [q] at q'; cases q'; rfl
      · exact (cross _ _ b u w (inlOld j n')).elim
      · exact (cross _ _ b w u (inlOld i n)).elim
      · have := R.dis _ _ b u w
        cases this; rfl
    · cases j with
      | zero =>
        rcases u with ⟨k, hk, q, u⟩ | ⟨n, u⟩
        · exact nomatch P.dis _ _ b u w
        · exact (cross _ _ b w u (inlOld i n)).elim
      | succ j =>
        rcases u with ⟨k, hk, q, u⟩ | ⟨n, u⟩
        · exact (cross _ _ b u w (inrOld _)).elim
        · exact nomatch R.dis _ _ b u w
    · cases i with
      | zero =>
        rcases w with ⟨k, hk, q, w⟩ | ⟨n, w⟩
        · exact nomatch P.dis _ _ b w u
        · exact (cross _ _ b u w (inlOld j n)).elim
      | succ i =>
        rcases w with ⟨k, hk, q, w⟩ | ⟨n, w⟩
        · exact (cross _ _ b w u (inrOld _)).elim
        · exact nomatch R.dis _ _ b w u
    · cases i with
      | zero =>
        cases j with
        | zero => rfl
        | succ j => exact (cross _ _ b u w (inrOld _)).elim
      | succ i =>
        cases j with
        | zero => exact (cross _ _ b w u (inrOld _)).elim
        | succ j =>
          have e := R.dis _ _ b u w
          have e : i + (vs.zip ds).length = j + (vs.zip ds).length := by injection e
          rw [show i = j by omega]
  · rcases x with i | i
    · rcases u with ⟨k, hk, q, u⟩ | ⟨n, u⟩
      · exact P.nof _ b u
      · exact nF _ b u
    · cases i with
      | zero => exact P.nof _ b u
      | succ i => exact nF _ b u
  · rcases x with i | i
    · rcases u with ⟨k, hk, q, u⟩ | ⟨n, u⟩
      · exact P.liv _ b u
      · exact P.ther b (R.liv _ b u)
    · cases i with
      | zero => exact P.liv _ b u
      | succ i => exact P.ther b (R.liv _ b u)
  · refine P.keep b o (R.keep b o e n) fun k ⟨hk, j, q, u⟩ => ?_
    rcases R.usr _ b u with h | ⟨i, _, h⟩
    · rw [h] at e; cases e
    · exact n i h
  · rcases P.new b o e with h | h
    · exact R.new b o h
    · rcases none_or (H := B.H) (b := b) with q | q
      · exact .inr q
      · exact absurd h (R.ther b q)
  · have dead : H b = none → B.H b = none := fun h => by
      rcases none_or (H := B.H) (b := b) with q | q
      · exact q
      · exact absurd h (R.ther b q)
    rcases x with i | i
    · rcases u with ⟨k, hk, q, u⟩ | ⟨n, u⟩
      · rcases fresh _ b u with h | ⟨k', j', ek, hk', q', u'⟩
        · exact .inl (dead h)
        · cases ek
          rw [q] at q'; cases q'
          exact R.usr _ b u'
      · exact R.usr _ b u
    · cases i with
      | zero =>
        rcases fresh _ b u with h | ⟨k', j', ek, _⟩
        · exact .inl (dead h)
        · cases ek
      | succ i =>
        rcases R.usr _ b u with h | ⟨_, e, _⟩
        · exact .inl h
        · cases e
theorem putO_len (ds : List D) : ∀ (ow : List Nat) (os : List D) (env : Env), (putO ds ow os env).length = env.length
  | [], _, _ => by unfold putO; rfl
  | _ :: _, [], _ => by unfold putO; rfl
  | k :: ow, d :: os, env => by
    unfold putO
    rw [putO_len ds ow os]
    split
    · rw [List.length_set]
    · rfl
theorem outs_cons {k : Nat} {ow : List Nat} {env : Env} {os : List D} (h : outs (k :: ow) env = some os) : ∃ d os', os = d :: os' ∧ env[k]? = some (some d) ∧ outs ow env = some os' := by
  unfold outs at h
  rw [List.mapM_cons] at h
  cases q : (env[k]?).join with
  | none => rw [q] at h; cases h
  | some d =>
    rw [q] at h
    cases q2 : List.mapM (fun i => (env[i]?).join) ow with
    | none => rw [q2] at h; cases h
    | some os' => rw [q2] at h; cases h; exact ⟨d, os', rfl, join_some.mp q, q2⟩
theorem putO_get (ds : List D) (env1 : Env) (hd : ∀ (k k' j : Nat), ds[k]? = some (D.ptr j) → ds[k']? = some (.ptr j) → k = k') : ∀ (ow : List Nat) (os : List D) (env : Env), outs ow env1 = some os →
    ∀ j d, (putO ds ow os env)[j]? = some (some d) → (env[j]? = some (some d) ∧ ∀ k ∈ ow, ds[k]? ≠ some (.ptr j)) ∨ ∃ k, k ∈ ow ∧ ds[k]? = some (.ptr j) ∧ env1[k]? = some (some d)
  | [], os, env, _, j, d, h => .inl ⟨by unfold putO at h; exact h, fun k hk => nomatch hk⟩
  | k :: ow, os, env, ho, j, d, h => by
    obtain ⟨d0, os', rfl, e1, e2⟩ := outs_cons ho
    unfold putO at h
    rcases putO_get ds env1 hd ow os' _ e2 j d h with ⟨h1, h2⟩ | ⟨k', hk', q⟩
    · split at h1
      · rename_i j' q
        by_cases hj : j' = j
        · subst hj
          rw [List.getElem?_set_self'] at h1
          cases z : env[j']? with
          | none => rw [z] at h1; cases h1
          | some w =>
            rw [z] at h1
            cases h1
            exact .inr ⟨k, List.mem_cons_self, q, e1⟩
        · rw [List.getElem?_set_ne hj] at h1
          refine .inl ⟨h1, fun k' hk' => ?_⟩
          rcases List.mem_cons.mp hk' with rfl | hk'
          · intro z
            rw [q] at z; cases z; exact hj rfl
          · exact h2 k' hk'
      · rename_i q
        refine .inl ⟨h1, fun k' hk' => ?_⟩
        rcases List.mem_cons.mp hk' with rfl | hk'
        · exact fun z => q j z
        · exact h2 k' hk'
    · exact .inr ⟨k', List.mem_cons_of_mem _ hk', q⟩
end

/-! ### the judgements -/
abbrev DTE := Env → (D → Env → Prop) → Prop
abbrev DTT := Env → (Bool → Env → Prop) → Prop
abbrev DTA := Env → (List D → Env → Prop) → Prop
structure DEnds where
  nx : Env → Prop
  rt : D → Env → Prop
  bk : Env → Prop := fun _ => False
  ct : Env → Prop := fun _ => False
abbrev DTS := DEnds → Env → Prop
abbrev DTG := D → Env → (Env → Prop) → Prop
/-- the slots that are not to be stored to (pn) hold what the base tells -/
abbrev DX := String → List (Str × V) → Env → Prop
/-- what is wanted of an exception, by data and over the heap -/
def XcOk (K : Frag) (W : WX) (XC : DX) (B : Base) : Prop := ∀ (C : String) (fs : List (Str × V)) (env : Env) (σ : L2.St) (tm : List (V × D)) (H : Hp) (d : Option Addr) (F : Hp) (U : Fam), XC C fs env → RelF K B F U env σ tm H → XOk fs d F → (∀ p ∈ fs, flatV p.2 = true) → W (.ref (clsA K C)) d σ H
structure Bok (K : Frag) (W : WX) (XC : DX) (pn : List Nat) (B : Base) : Prop where
  own : ∀ i ∈ B.own, i ∈ pn
  pin : ∀ p ∈ B.pins, p.1 ∈ pn
  xc : XcOk K W XC B
abbrev W0 : WX := fun _ _ _ _ => False
abbrev X0 : DX := fun _ _ _ => False
structure DE (K : Frag) (W : WX) (XC : DX) (pn : List Nat) (t : TE) (d : DTE) : Prop where
  run : ∀ (B : Base), Bok K W XC pn B → ∀ (tm : List (V × D)) (env : Env) (σ : L2.St) (H : Hp) (Q : VK) (R : D → Env → Prop), Rel K B env σ tm H → d env R → (∀ r env' v H', R r env' → Rel K B env' σ ((v, r) :: tm) H' → Q v H') → t σ H Q
structure DT (K : Frag) (W : WX) (XC : DX) (pn : List Nat) (t : TT) (d : DTT) : Prop where
  run : ∀ (B : Base), Bok K W XC pn B → ∀ (tm : List (V × D)) (env : Env) (σ : L2.St) (H : Hp) (Q : Bool → Hp → Prop) (R : Bool → Env → Prop), Rel K B env σ tm H → d env R → (∀ b env' H', R b env' → Rel K B env' σ tm H' → Q b H') → t σ H Q
structure DA (K : Frag) (W : WX) (XC : DX) (pn : List Nat) (t : TA) (d : DTA) : Prop where
  run : ∀ (B : Base), Bok K W XC pn B → ∀ (tm : List (V × D)) (env : Env) (σ : L2.St) (H : Hp) (Q : List V → Hp → Prop) (R : List D → Env → Prop), Rel K B env σ tm H →
    d env R → (∀ rs env' vs H', R rs env' → vs.length = rs.length → Rel K B env' σ (vs.zip rs ++ tm) H' → Q vs H') → t σ H Q
structure Sim (K : Frag) (B : Base) (tm : List (V × D)) (D' : DEnds) (E : Ends) : Prop where
  nx : ∀ env σ H, Rel K B env σ tm H → D'.nx env → E.nx σ H
  rt : ∀ v r env σ H, Rel K B env σ ((v, r) :: tm) H → D'.rt r env → E.rt v H
  bk : ∀ env σ H, Rel K B env σ tm H → D'.bk env → E.bk σ H
  ct : ∀ env σ H, Rel K B env σ tm H → D'.ct env → E.ct σ H
structure DS (K : Frag) (W : WX) (XC : DX) (pn : List Nat) (t : TS) (d : DTS) : Prop where
  run : ∀ (B : Base), Bok K W XC pn B → ∀ (tm : List (V × D)), NoPtr tm → ∀ (env : Env) (σ : L2.St) (H : Hp) (D' : DEnds) (E : Ends), Rel K B env σ tm H → Sim K B tm D' E → d D' env → t E σ H
/-- a target: what is put by goes there; ws: the slots that it writes -/
structure DG (K : Frag) (W : WX) (XC : DX) (pn : List Nat) (ws : List Nat) (t : TG) (d : DTG) : Prop where
  run : ∀ (B : Base), Bok K W XC pn B → ∀ (tm : List (V × D)), NoPtr tm → ∀ (env : Env) (σ : L2.St) (H : Hp) (v : V) (r : D) (Q : L2.St → Hp → Prop) (R : Env → Prop), Rel K B env σ ((v, r) :: tm) H →
    d r env R → (∀ env' σ' H', R env' → Rel K B env' σ' tm H' → (∀ i, i ∉ ws → σ'[i]? = σ[i]?) → σ'.length = σ.length → Q σ' H') → t v σ H Q
/-- syntax, its reading, and the reading by data -/
structure XE (X : Cx) (W : WX) (XC : DX) (pn : List Nat) (e : Expr) (t : TE) (d : DTE) : Prop where
  p : PE X e t
  d : DE X.K W XC pn t d
structure XT (X : Cx) (W : WX) (XC : DX) (pn : List Nat) (e : Expr) (t : TT) (d : DTT) : Prop where
  p : PT X e t
  d : DT X.K W XC pn t d
structure XW (X : Cx) (W : WX) (XC : DX) (pn : List Nat) (e : Expr) (t : TT) (d : DTT) : Prop where
  p : PW X e t
  d : DT X.K W XC pn t d
structure XA (X : Cx) (W : WX) (XC : DX) (pn : List Nat) (e : List Expr) (t : TA) (d : DTA) : Prop where
  p : PA X e t
  d : DA X.K W XC pn t d
structure XS (X : Cx) (W : WX) (XC : DX) (pn : List Nat) (e : Stmt) (t : TS) (d : DTS) : Prop where
  p : PS X e t
  d : DS X.K W XC pn t d
structure XSs (X : Cx) (W : WX) (XC : DX) (pn : List Nat) (e : List Stmt) (t : TS) (d : DTS) : Prop where
  p : PSs X e t
  d : DS X.K W XC pn t d
structure XG (X : Cx) (W : WX) (XC : DX) (pn ws : List Nat) (e : Expr) (t : TG) (d : DTG) : Prop where
  p : PG X e t
  d : DG X.K W XC pn ws t d
end DL

/-! ## DLc.lean -/
namespace DL
open PySem PySem.Spec PyProof.Rows L2
section
variable {K : Frag} {W : WX} {XC : DX} {B : Base} {env : Env} {σ : L2.St} {tm : List (V × D)} {H : Hp} {v : V} {x d : D} {pn : List Nat}
theorem Rel.val (R : Rel K B env σ tm H) {v : V} {d : D} (h : ∀ F, Rep K F v d) : Rel K B env σ ((v, d) :: tm) H := by
  obtain ⟨F, U, R⟩ := R
  exact ⟨F, _, R.push (h F)⟩
theorem RelF.look {F : Hp} {U : Fam} (R : RelF K B F U env σ ((v, x) :: tm) H) (h : res env x = some d) : ∃ S, Own K F H v d S := by
  rcases R.tmp 0 v x rfl with q | ⟨j, rfl, q⟩
  · have e : x = d := by
      cases x <;> first | exact Option.some.inj h | (cases q with | frz q => cases q)
    subst e
    exact ⟨_, q⟩
  · obtain ⟨w, h1, h2⟩ := R.own j d (join_some.mp h)
    rw [h1] at q; cases q
    exact ⟨_, h2⟩
theorem Rel.look (R : Rel K B env σ ((v, x) :: tm) H) (h : res env x = some d) : ∃ F U S, RelF K B F U env σ ((v, x) :: tm) H ∧ Own K F H v d S := by
  obtain ⟨F, U, R⟩ := R
  obtain ⟨S, q⟩ := R.look h
  exact ⟨F, U, S, R, q⟩
/-- the second one put by -/
theorem Rel.look2 {w : V} {y : D} (R : Rel K B env σ ((w, y) :: (v, x) :: tm) H) (h : res env x = some d) : ∃ F U S, RelF K B F U env σ tm H ∧ Own K F H v d S ∧ Same F H := by
  obtain ⟨F, U, R⟩ := R
  have R1 := R.re ((v, x) :: tm) (· + 1) (fun i j e => Nat.succ.inj e) fun i x e => e
  obtain ⟨S, q⟩ := R1.look h
  exact ⟨F, _, S, R1.re tm (· + 1) (fun i j e => Nat.succ.inj e) fun i x e => e, q, R1.sub⟩
theorem Rel.look1 (R : Rel K B env σ ((v, x) :: tm) H) (h : res env x = some d) : ∃ F U S, RelF K B F U env σ tm H ∧ Own K F H v d S ∧ Same F H := by
  obtain ⟨F, U, R⟩ := R
  obtain ⟨S, q⟩ := R.look h
  exact ⟨F, _, S, R.re tm (· + 1) (fun i j e => Nat.succ.inj e) fun i x e => e, q, R.sub⟩
/-! ### what data holds -/
def lstC : D → Option (List D)
  | .lst ds => some ds
  | .mt ds => some ds
  | .scr ds => some ds
  | _ => none
def tupC : D → Option (List D)
  | .tup ds => some ds
  | _ => none
@[simp] theorem lstC_lst (ds : List D) : lstC (.lst ds) = some ds := rfl
@[simp] theorem lstC_mt (ds : List D) : lstC (.mt ds) = some ds := rfl
@[simp] theorem lstC_scr (ds : List D) : lstC (.scr ds) = some ds := rfl
@[simp] theorem tupC_tup (ds : List D) : tupC (.tup ds) = some ds := rfl
theorem Own.list {F : Hp} {S : Addr → Prop} {ds : List D} (h : Own K F H v d S) (sub : Same F H) (e : lstC d = some ds) :
    ∃ a vs, v = .ref a ∧ SqL K H a vs ∧ vs.length = ds.length ∧ ∀ (i : Nat) v d, vs[i]? = some v → ds[i]? = some d → Rep K F v d := by
  cases h with
  | frz h =>
    cases h <;> first | cases e | skip
    · rename_i h l r; exact ⟨_, _, rfl, .of (sub _ _ h), l, r⟩
    · rename_i h l r; exact ⟨_, _, rfl, sub.seq h, l, r⟩
  | mt ha h l r => cases e; exact ⟨_, _, rfl, .of h, l, r⟩
  | mm => cases e
  | mo => cases e
  | dc => cases e
theorem Own.tuple {F : Hp} {S : Addr → Prop} {ds : List D} (h : Own K F H v d S) (sub : Same F H) (e : tupC d = some ds) :
    ∃ a vs, v = .ref a ∧ SqT K H a vs ∧ vs.length = ds.length ∧ ∀ (i : Nat) v d, vs[i]? = some v → ds[i]? = some d → Rep K F v d := by
  cases h with
  | frz h =>
    cases h <;> first | cases e | skip
    rename_i h l r; exact ⟨_, _, rfl, seqT_same sub h, l, r⟩
  | mt => cases e
  | mm => cases e
  | mo => cases e
  | dc => cases e
/-- flat data as values -/
def scV : D → Option V
  | .non => some .non
  | .bl b => some (.bl b)
  | .int i => some (.int i)
  | .str s => some (.str s)
  | _ => none
@[simp] theorem scV_non : scV .non = some .non := rfl
@[simp] theorem scV_bl (b : Bool) : scV (.bl b) = some (.bl b) := rfl
@[simp] theorem scV_int (b : Int) : scV (.int b) = some (.int b) := rfl
@[simp] theorem scV_str (b : Str) : scV (.str b) = some (.str b) := rfl
def ofV : V → D
  | .bl b => .bl b
  | .int i => .int i
  | .str s => .str s
  | _ => .non
def isSc : V → Bool
  | .non => true
  | .bl _ => true
  | .int _ => true
  | .str _ => true
  | _ => false
@[simp] theorem ofV_non : ofV .non = .non := rfl
@[simp] theorem ofV_bl (b : Bool) : ofV (.bl b) = .bl b := rfl
@[simp] theorem ofV_int (b : Int) : ofV (.int b) = .int b := rfl
@[simp] theorem ofV_str (b : Str) : ofV (.str b) = .str b := rfl
theorem rep_sc {F : Hp} {v : V} (h : isSc v = true) : Rep K F v (ofV v) := by
  cases v with
  | non => exact .non
  | bl b => exact .bl b
  | int b => exact .int b
  | str b => exact .str b
  | _ => exact nomatch h
theorem Own.sc {F : Hp} {S : Addr → Prop} {u : V} (h : Own K F H v d S) (e : scV d = some u) : v = u := by
  cases h with
  | frz h => cases h <;> cases e <;> rfl
  | mt => cases e
  | mm => cases e
  | mo => cases e
  | dc => cases e
theorem Rel.sc (R : Rel K B env σ ((v, x) :: tm) H) {u : V} (e : scV x = some u) : v = u := by
  have h : res env x = some x := by cases x <;> first | rfl | cases e
  obtain ⟨F, U, S, _, q⟩ := R.look h
  exact q.sc e
theorem Rel.int {i : Int} (R : Rel K B env σ ((v, .int i) :: tm) H) : v = .int i := R.sc rfl
theorem Rel.int2 {w : V} {y : D} {i : Int} (R : Rel K B env σ ((w, y) :: (v, .int i) :: tm) H) : v = .int i := R.pop.sc rfl

/-! ### names, constants, what is frozen -/
@[simp] def dVar (i : Nat) : DTE := fun env Q => ∃ d, env[i]? = some (some d) ∧ Q (if isR d then d else .ptr i) env
theorem de_var (i : Nat) : DE K W XC pn (tVar i) (dVar i) := ⟨fun B ok tm env σ H Q R r h k => by
  obtain ⟨F, U, r⟩ := r
  obtain ⟨d, e, h⟩ := h
  obtain ⟨v, h1, h2⟩ := r.own i d e
  refine ⟨v, h1, k _ _ _ _ h ⟨F, _, r.pushO ?_⟩⟩
  by_cases z : isR d = true
  · rw [if_pos z]; exact .inl (h2.toRep z)
  · rw [if_neg z]; exact .inr ⟨i, rfl, h1⟩⟩
@[simp] def dC (d : D) : DTE := fun env Q => Q d env
theorem de_c {v : V} (h : isSc v = true) : DE K W XC pn (tC v) (dC (ofV v)) := ⟨fun B ok tm env σ H Q R r h' k => k _ _ _ _ h' (r.val fun F => rep_sc h)⟩
open Classical in
/-- a slot's own becomes what stands -/
theorem RelF.settleSlot {F : Hp} {U : Fam} (R : RelF K B F U env σ tm H) (i : Nat) (hi : i ∉ B.own) (e : env[i]? = some (some d)) {d' : D} (z : Frz d d') :
    RelF K B (fun b => if U (.inl i) b then H b else F b) (fun x => if x = .inl i then fun _ => False else U x) (env.set i (some d')) σ tm H :=
  R.settle (.inl i) (fun j hj e => hi (by cases e; exact hj)) _ _ (by rw [List.length_set]) (fun j dj e' => by
    by_cases h : i = j
    · subst h
      rw [List.getElem?_set_self', e] at e'
      cases e'
      obtain ⟨v, h1, h2⟩ := R.own i d e
      exact .inr ⟨v, d, h1, h2, z⟩
    · rw [List.getElem?_set_ne h] at e'
      exact .inl ⟨e', fun q => h (by cases q; rfl)⟩) fun j w dj e' => .inl ⟨e', fun q => nomatch q⟩
/-- a value, frozen -/
def fixK (pn : List Nat) (x : D) (env : Env) (Q : D → Env → Prop) : Prop :=
  match x with
  | .ptr i => ∃ d, env[i]? = some (some d) ∧ isF d = true ∧ pn.contains i = false ∧ Q (frz d) (env.set i (some (frz d)))
  | d => isF d = true ∧ Q (frz d) env
@[simp] def dFix (pn : List Nat) (d : DTE) : DTE := fun env Q => d env fun x e1 => fixK pn x e1 Q
theorem nptr_cases (x : D) : (∃ i, x = .ptr i) ∨ (∀ i, x ≠ .ptr i) := by
  cases x <;> first | exact .inl ⟨_, rfl⟩ | exact .inr fun i e => nomatch e
theorem fixK_np {pn : List Nat} {x : D} {env : Env} {Q : D → Env → Prop} (h : ∀ i, x ≠ .ptr i) : fixK pn x env Q = (isF x = true ∧ Q (frz x) env) := by
  cases x <;> first | rfl | exact absurd rfl (h _)
theorem Rel.fix (ok : Bok K W XC pn B) {Q : D → Env → Prop} (R : Rel K B env σ ((v, x) :: tm) H) (h : fixK pn x env Q) : ∃ r env', Q r env' ∧ isR r = true ∧ Rel K B env' σ ((v, r) :: tm) H := by
  rcases nptr_cases x with ⟨i, rfl⟩ | n
  · obtain ⟨d, e, hf, hp, q⟩ := h
    have hi : i ∉ B.own := fun z => by
      have q1 := ok.own i z
      have q2 : i ∉ pn := by simpa using hp
      exact q2 q1
    obtain ⟨F, U, R⟩ := R
    have hv : σ[i]? = some (some v) := by
      rcases R.tmp 0 v _ rfl with q | ⟨j, q, q2⟩
      · cases q with | frz q => cases q
      · cases q; exact q2
    have R2 := R.settleSlot i hi e (Frz.of hf)
    have lt : i < env.length := (List.getElem?_eq_some_iff.mp e).1
    obtain ⟨w, h1, h2⟩ := R2.own i (frz d) (List.getElem?_set_self lt)
    rw [h1] at hv; cases hv
    have hR : DL.isR (frz d) = true := by cases d <;> first | rfl | exact absurd hf Bool.false_ne_true
    have h3 := h2.toRep hR
    exact ⟨_, _, q, hR, _, _, (R2.re tm (· + 1) (fun i j e => Nat.succ.inj e) fun i x e => e).push h3⟩
  · rw [fixK_np n] at h
    obtain ⟨hf, q⟩ := h
    have hR : DL.isR (frz x) = true := by cases x <;> first | rfl | exact absurd hf Bool.false_ne_true
    obtain ⟨F, U, R⟩ := R
    rcases R.tmp 0 v _ rfl with q1 | ⟨j, q1, _⟩
    · refine ⟨_, _, q, hR, _, _, R.settle (.inr 0) (fun i _ e => nomatch e) env ((v, frz x) :: tm) rfl (fun i d e => .inl ⟨e, fun z => nomatch z⟩) fun i w d e => ?_⟩
      cases i with
      | zero => cases e; exact .inr ⟨x, q1, Frz.of hf⟩
      | succ i => exact .inl ⟨e, fun z => nomatch z⟩
    · exact absurd q1 (n j)
theorem de_fix {t : TE} {da : DTE} (h : DE K W XC pn t da) : DE K W XC pn t (dFix pn da) := ⟨fun B ok tm env σ H Q R r h' k => h.run B ok tm env σ H Q _ r h' fun x e1 v H1 q r1 => by
  obtain ⟨r', e', q2, _, r2⟩ := r1.fix ok q
  exact k _ _ _ _ q2 r2⟩

/-! ### operators by data -/
abbrev DOp := D → D → Env → (D → Prop) → Prop
structure DO (K : Frag) (r : R2) (d : DOp) : Prop where
  run : ∀ (B : Base) (tm : List (V × D)) (env : Env) (σ : L2.St) (H : Hp) (x y : D) (v u : V) (Q : VK) (R : D → Prop), Rel K B env σ ((u, y) :: (v, x) :: tm) H → d x y env R → (∀ z w H', R z → Rel K B env σ ((w, z) :: tm) H' → Q w H') → r v u H Q
@[simp] def dOp (d : DOp) (da db : DTE) : DTE := fun env Q => da env fun x e1 => db e1 fun y e2 => d x y e2 fun z => Q z e2
theorem de_op {ta tb : TE} {da db : DTE} {r : R2} {o : DOp} (ho : DO K r o) (ha : DE K W XC pn ta da) (hb : DE K W XC pn tb db) : DE K W XC pn (tOp r ta tb) (dOp o da db) :=
  ⟨fun B ok tm env σ H Q R r h k => ha.run B ok tm env σ H _ _ r h fun x e1 v H1 q1 r1 => hb.run B ok _ e1 σ H1 _ _ r1 q1 fun y e2 u H2 q2 r2 =>
    ho.run B tm e2 σ H2 x y v u _ _ r2 q2 fun z w H3 q3 r3 => k _ _ _ _ q3 r3⟩
@[simp] def oI0 (g : Int → Int → V) : DOp := fun x y _ Q => ∃ i j, x = .int i ∧ y = .int j ∧ Q (ofV (g i j))
@[simp] def oI (C : Int → Int → Prop) (g : Int → Int → V) : DOp := fun x y _ Q => ∃ i j, x = .int i ∧ y = .int j ∧ C i j ∧ Q (ofV (g i j))
theorem do_I0 {g : Int → Int → V} (sc : ∀ i j, isSc (g i j) = true := by intro _ _; rfl) : DO K (rI0 g) (oI0 g) := ⟨fun B tm env σ H x y v u Q R r h k => by
  obtain ⟨i, j, rfl, rfl, h⟩ := h
  exact ⟨i, j, r.int2, r.int, k _ _ _ h (r.pop.pop.val fun F => rep_sc (sc i j))⟩⟩
theorem do_I {C : Int → Int → Prop} {g : Int → Int → V} (sc : ∀ i j, isSc (g i j) = true := by intro _ _; rfl) : DO K (rI C g) (oI C g) := ⟨fun B tm env σ H x y v u Q R r h k => by
  obtain ⟨i, j, rfl, rfl, c, h⟩ := h
  exact ⟨i, j, r.int2, r.int, c, k _ _ _ h (r.pop.pop.val fun F => rep_sc (sc i j))⟩⟩
/-- == and != of flat data -/
@[simp] def oEqS (neg : Bool) : DOp := fun x y _ Q => ∃ u w, scV x = some u ∧ scV y = some w ∧ scal u w = true ∧ Q (.bl (if neg then !decide (u = w) else decide (u = w)))
theorem do_eqS : DO K rEq (oEqS false) := ⟨fun B tm env σ H x y v u Q R r h k => by
  obtain ⟨a, b, e1, e2, s, h⟩ := h
  have z1 := r.pop.sc e1
  have z2 := r.sc e2
  subst z1 z2
  exact ⟨s, k _ _ _ h (r.pop.pop.val fun F => .bl _)⟩⟩
theorem do_neS : DO K rNe (oEqS true) := ⟨fun B tm env σ H x y v u Q R r h k => by
  obtain ⟨a, b, e1, e2, s, h⟩ := h
  have z1 := r.pop.sc e1
  have z2 := r.sc e2
  subst z1 z2
  exact ⟨s, k _ _ _ h (r.pop.pop.val fun F => .bl _)⟩⟩
/-- is None, is not None -/
def isNon : D → Bool
  | .non => true
  | _ => false
theorem Own.non {F : Hp} {S : Addr → Prop} (h : Own K F H v d S) : decide (v = .non) = isNon d := by
  cases h with
  | frz h => cases h <;> rfl
  | mt => rfl
  | mm => rfl
  | mo => rfl
  | dc => rfl
@[simp] def oIsN (neg : Bool) : DOp := fun x y env Q => y = .non ∧ ∃ d, res env x = some d ∧ Q (.bl (if neg then !isNon d else isNon d))
theorem do_isN : DO K (fun x y H Q => y = .non ∧ Q (.bl (decide (x = .non))) H) (oIsN false) := ⟨fun B tm env σ H x y v u Q R r h k => by
  obtain ⟨rfl, d, e, h⟩ := h
  obtain ⟨F, U, S, _, o⟩ := r.pop.look e
  refine ⟨r.sc rfl, k _ _ _ h (r.pop.pop.val fun F => ?_)⟩
  rw [o.non]; exact .bl _⟩
theorem do_notN : DO K (fun x y H Q => y = .non ∧ Q (.bl (!decide (x = .non))) H) (oIsN true) := ⟨fun B tm env σ H x y v u Q R r h k => by
  obtain ⟨rfl, d, e, h⟩ := h
  obtain ⟨F, U, S, _, o⟩ := r.pop.look e
  refine ⟨r.sc rfl, k _ _ _ h (r.pop.pop.val fun F => ?_)⟩
  rw [o.non]; exact .bl _⟩
theorem ixN_len {n m : Nat} (h : n = m) (i : Int) : ixN n i = ixN m i := by rw [h]
theorem atI_pair {vs : List V} {ds : List D} (l : vs.length = ds.length) {i : Int} {r : D} (h : atI ds i = some r) : ∃ (j : Nat) (v : V), atI vs i = some v ∧ vs[j]? = some v ∧ ds[j]? = some r := by
  unfold atI at h ⊢
  rw [l]
  cases e : ixN ds.length i with
  | none => rw [e] at h; cases h
  | some j =>
    rw [e] at h
    have h : ds[j]? = some r := h
    have hj : j < vs.length := by rw [l]; exact (List.getElem?_eq_some_iff.mp h).1
    exact ⟨j, vs[j], List.getElem?_eq_getElem hj, List.getElem?_eq_getElem hj, h⟩
@[simp] def oIxL : DOp := fun x y env Q => ∃ d ds i r, res env x = some d ∧ lstC d = some ds ∧ y = .int i ∧ atI ds i = some r ∧ Q r
theorem do_ixL : DO K (rIxL K) oIxL := ⟨fun B tm env σ H x y v u Q R r h k => by
  obtain ⟨d, ds, i, z, e1, e2, rfl, e3, h⟩ := h
  obtain ⟨F, U, S, r2, o, sub⟩ := r.look2 e1
  obtain ⟨a, vs, rfl, hs, l, rp⟩ := o.list sub e2
  obtain ⟨j, w, h1, h2, h3⟩ := atI_pair l e3
  exact ⟨a, vs, i, w, rfl, r.int, hs, h1, k _ _ _ h ⟨F, _, r2.push (rp j w z h2 h3)⟩⟩⟩
@[simp] def oIxT : DOp := fun x y env Q => ∃ ds i r, x = .tup ds ∧ y = .int i ∧ atI ds i = some r ∧ Q r
theorem do_ixT : DO K (rIxT K) oIxT := ⟨fun B tm env σ H x y v u Q R r h k => by
  obtain ⟨ds, i, z, rfl, rfl, e3, h⟩ := h
  obtain ⟨F, U, S, r2, o, sub⟩ := r.look2 (d := .tup ds) rfl
  obtain ⟨a, vs, rfl, hs, l, rp⟩ := o.tuple sub rfl
  obtain ⟨j, w, h1, h2, h3⟩ := atI_pair l e3
  exact ⟨a, vs, i, w, rfl, r.int, hs, h1, k _ _ _ h ⟨F, _, r2.push (rp j w z h2 h3)⟩⟩⟩
@[simp] def oIxS : DOp := fun x y _ Q => ∃ z i c, x = .str z ∧ y = .int i ∧ z.length ≤ sizeLine ∧ atI z.cps.toList i = some c ∧ Q (.str ⟨#[c]⟩)
theorem do_ixS : DO K rIxS oIxS := ⟨fun B tm env σ H x y v u Q R r h k => by
  obtain ⟨z, i, c, rfl, rfl, e1, e2, h⟩ := h
  exact ⟨z, i, c, r.pop.sc rfl, r.int, e1, e2, k _ _ _ h (r.pop.pop.val fun F => .str _)⟩⟩
/-- in, not in, of flat items -/
def flatD : D → Bool := fun d => (scV d).isSome
@[simp] def oIn (neg : Bool) : DOp := fun x y env Q => ∃ d ds u vs, res env y = some d ∧ (lstC d = some ds ∨ tupC d = some ds) ∧ scV x = some u ∧ ds.mapM scV = some vs ∧ Q (.bl (if neg then !inV u vs else inV u vs))
theorem sc_all {F : Hp} : ∀ {ds : List D} {vs ws : List V}, vs.length = ds.length → (∀ (i : Nat) v d, vs[i]? = some v → ds[i]? = some d → Rep K F v d) → ds.mapM scV = some ws → vs = ws
  | [], [], ws, _, _, h => by cases h; rfl
  | d :: ds, v :: vs, ws, l, r, h => by
    rw [List.mapM_cons] at h
    cases e : scV d with
    | none => rw [e] at h; cases h
    | some u =>
      rw [e] at h
      cases e2 : List.mapM scV ds with
      | none => rw [e2] at h; cases h
      | some ws' =>
        rw [e2] at h
        cases h
        have q : v = u := Own.sc (H := F) (S := fun _ => False) (.frz (r 0 v d rfl rfl)) e
        rw [q, sc_all (Nat.succ.inj l) (fun i v' d' h1 h2 => r (i + 1) v' d' h1 h2) e2]
theorem flat_sc {d : D} {v : V} (h : scV d = some v) : flatV v = true := by
  cases d <;> cases h <;> rfl
theorem flat_all : ∀ {ds : List D} {vs : List V}, ds.mapM scV = some vs → vs.all flatV = true
  | [], ws, h => by cases h; rfl
  | d :: ds, ws, h => by
    rw [List.mapM_cons] at h
    cases e : scV d with
    | none => rw [e] at h; cases h
    | some u =>
      rw [e] at h
      cases e2 : List.mapM scV ds with
      | none => rw [e2] at h; cases h
      | some ws' =>
        rw [e2] at h
        cases h
        rw [List.all_cons, flat_sc e, flat_all e2]; rfl
theorem do_in {neg : Bool} : DO K (rIn K neg) (oIn neg) := ⟨fun B tm env σ H x y v u Q R r h k => by
  obtain ⟨d, ds, w, ws, e1, e2, e3, e4, h⟩ := h
  have z := r.pop.sc e3
  subst z
  obtain ⟨F, U, S, r2, o, sub⟩ := r.look1 e1
  have fin : ∀ a vs, vs.length = ds.length → (∀ (i : Nat) v d, vs[i]? = some v → ds[i]? = some d → Rep K F v d) → u = .ref a → (SqL K H a vs ∨ SqT K H a vs) → rIn K neg v u H Q := fun a vs l rp e hs => by
    have q := sc_all l rp e4
    subst q
    exact ⟨a, vs, e, hs, flat_sc e3, flat_all e4, k _ _ _ h (r.pop.pop.val fun F => .bl _)⟩
  rcases e2 with e2 | e2
  · obtain ⟨a, vs, e, hs, l, rp⟩ := o.list sub e2
    exact fin a vs l rp e (.inl hs)
  · obtain ⟨a, vs, e, hs, l, rp⟩ := o.tuple sub e2
    exact fin a vs l rp e (.inr hs)⟩
/-- == and != of data at any depth -/
def toPy : D → PyData
  | .bl b => .bool b
  | .int i => .int i
  | .str s => .str s
  | .lst ds => .list (toPys ds)
  | .scr ds => .list (toPys ds)
  | .mt ds => .list (toPys ds)
  | .tup ds => .tuple (toPys ds)
  | _ => .none
where toPys : List D → List PyData
  | [] => []
  | d :: ds => toPy d :: toPys ds
def isPy : D → Bool
  | .non => true
  | .bl b => true
  | .int i => true
  | .str s => true
  | .lst ds => isPys ds
  | .scr ds => isPys ds
  | .mt ds => isPys ds
  | .tup ds => isPys ds
  | _ => false
where isPys : List D → Bool
  | [] => true
  | d :: ds => isPy d && isPys ds
end
end DL

/-! ## DLd.lean -/
namespace DL
open PySem PySem.Spec PyProof.Rows L2
section
variable {K : Frag} {W : WX} {XC : DX} {B : Base} {env : Env} {σ : L2.St} {tm : List (V × D)} {H : Hp} {v : V} {x d : D} {pn : List Nat}
/-! ### == of data at any depth -/
theorem dpAll_of {F : Hp} {ds : List D} : ∀ {vs : List V}, vs.length = ds.length → (∀ (i : Nat) v d, vs[i]? = some v → ds[i]? = some d → Dp K H v (toPy d)) → DpAll K H vs (toPy.toPys ds) := by
  induction ds with
  | nil =>
    intro vs l r
    cases vs with
    | nil => exact .nil
    | cons => cases l
  | cons d ds ih =>
    intro vs l r
    cases vs with
    | nil => cases l
    | cons v vs => exact .cons (r 0 v d rfl rfl) (ih (Nat.succ.inj l) fun i v' d' h1 h2 => r (i + 1) v' d' h1 h2)
theorem isPys_get : ∀ {ds : List D} {i : Nat} {d : D}, isPy.isPys ds = true → ds[i]? = some d → isPy d = true
  | [], _, _, _, e => by simp at e
  | d :: ds, 0, _, h, e => by cases e; exact (Bool.and_eq_true_iff.mp h).1
  | d :: ds, i + 1, _, h, e => isPys_get (ds := ds) (i := i) (Bool.and_eq_true_iff.mp h).2 e
theorem Rep.dp {F : Hp} (sub : Same F H) (h : Rep K F v d) (p : isPy d = true) : Dp K H v (toPy d) := by
  induction h with
  | non => exact .non
  | bl b => exact .bl b
  | int b => exact .int b
  | str b => exact .str b
  | lst h l _ ih => exact .lst (.of (sub _ _ h)) (dpAll_of (F := F) l fun i v d h1 h2 => ih i v d h1 h2 (isPys_get p h2))
  | scr h l _ ih => exact .lst (sub.seq h) (dpAll_of (F := F) l fun i v d h1 h2 => ih i v d h1 h2 (isPys_get p h2))
  | tup h l _ ih => exact .tup (seqT_same sub h) (dpAll_of (F := F) l fun i v d h1 h2 => ih i v d h1 h2 (isPys_get p h2))
  | obj => exact nomatch p
  | ty => exact nomatch p
  | cls => exact nomatch p
  | exc => exact nomatch p
  | «at» => exact nomatch p
theorem Own.dp {F : Hp} {S : Addr → Prop} (sub : Same F H) (h : Own K F H v d S) (p : isPy d = true) : Dp K H v (toPy d) := by
  cases h with
  | frz h => exact h.dp sub p
  | mt ha h l r => exact .lst (.of h) (dpAll_of (F := F) l fun i v d h1 h2 => (r i v d h1 h2).dp sub (isPys_get p h2))
  | mm => exact nomatch p
  | mo => exact nomatch p
  | dc => exact nomatch p
structure EqD (d e : D) (b : Bool) : Prop where
  p1 : isPy d = true
  p2 : isPy e = true
  s1 : SeqAt.shaped (toPy d) = true
  s2 : SeqAt.shaped (toPy e) = true
  eq : PyData.eqv (toPy d) (toPy e) = b
@[simp] def oEqD (neg : Bool) : DOp := fun x y env Q => ∃ d e b, res env x = some d ∧ res env y = some e ∧ EqD d e b ∧ Q (.bl (if neg then !b else b))
theorem do_eqD : DO K (rEqD K) (oEqD false) := ⟨fun B tm env σ H x y v u Q R r h k => by
  obtain ⟨d, e, b, e1, e2, q, h⟩ := h
  obtain ⟨F, U, S, r2, o, sub⟩ := r.look2 e1
  obtain ⟨F', U', S', r3, o', sub'⟩ := r.look1 e2
  refine ⟨toPy d, toPy e, o.dp sub q.p1, o'.dp sub' q.p2, q.s1, q.s2, k _ _ _ h (r.pop.pop.val fun F => ?_)⟩
  rw [q.eq]; exact .bl _⟩
theorem do_neD : DO K (rNeD K) (oEqD true) := ⟨fun B tm env σ H x y v u Q R r h k => by
  obtain ⟨d, e, b, e1, e2, q, h⟩ := h
  obtain ⟨F, U, S, r2, o, sub⟩ := r.look2 e1
  obtain ⟨F', U', S', r3, o', sub'⟩ := r.look1 e2
  refine ⟨toPy d, toPy e, o.dp sub q.p1, o'.dp sub' q.p2, q.s1, q.s2, k _ _ _ h (r.pop.pop.val fun F => ?_)⟩
  rw [q.eq]; exact .bl _⟩
/-! ### typed data -/
class Dat (α : Type) where
  toD : α → D
  dep : Nat
  ok : α → Bool
  py : ∀ x, isPy (toD x) = true
  lay : ∀ x, ok x = true → (toPy (toD x)).canLay0 = true
  dp : ∀ x, (toPy (toD x)).depth ≤ dep
  eqv : ∀ x y, PyData.eqv (toPy (toD x)) (toPy (toD y)) = true ↔ x = y
  rr : ∀ x, isR (toD x) = true
open Dat (toD)
instance : Dat Int where
  toD := .int
  dep := 0
  ok := fun _ => true
  py := fun _ => rfl
  lay := fun _ _ => by simp [toPy, PyData.canLay0]
  dp := fun _ => by simp [toPy, PyData.depth]
  eqv := fun x y => by simp [toPy, PyData.eqv]
  rr := fun _ => rfl
instance : Dat Bool where
  toD := .bl
  dep := 0
  ok := fun _ => true
  py := fun _ => rfl
  lay := fun _ _ => by simp [toPy, PyData.canLay0]
  dp := fun _ => by simp [toPy, PyData.depth]
  eqv := fun x y => by simp [toPy, PyData.eqv]
  rr := fun _ => rfl
instance : Dat Str where
  toD := .str
  dep := 0
  ok := fun x => PyData.strOk x
  py := fun _ => rfl
  lay := fun _ h => by simpa [toPy, PyData.canLay0] using h
  dp := fun _ => by simp [toPy, PyData.depth]
  eqv := fun x y => by simp [toPy, PyData.eqv]
  rr := fun _ => rfl
theorem isPys_map {α : Type} [Dat α] : ∀ xs : List α, isPy.isPys (xs.map toD) = true
  | [] => rfl
  | x :: xs => by
    show (isPy (toD x) && isPy.isPys (xs.map toD)) = true
    rw [Dat.py, isPys_map xs]; rfl
theorem layAll_map {α : Type} [Dat α] : ∀ xs : List α, xs.all Dat.ok = true → PyData.canLayAll0 (toPy.toPys (xs.map toD)) = true
  | [], _ => by simp [toPy.toPys, PyData.canLayAll0]
  | x :: xs, h => by
    rw [List.all_cons, Bool.and_eq_true] at h
    show PyData.canLayAll0 (toPy (toD x) :: toPy.toPys (xs.map toD)) = true
    simp only [PyData.canLayAll0]
    rw [Dat.lay x h.1, layAll_map xs h.2]; rfl
theorem depAll_map {α : Type} [Dat α] : ∀ xs : List α, PyData.depthAll (toPy.toPys (xs.map toD)) ≤ Dat.dep α
  | [] => by simp [toPy.toPys, PyData.depthAll]
  | x :: xs => by
    show PyData.depthAll (toPy (toD x) :: toPy.toPys (xs.map toD)) ≤ Dat.dep α
    simp only [PyData.depthAll]
    have h1 := Dat.dp x
    have h2 := depAll_map xs
    exact Nat.max_le.mpr ⟨h1, h2⟩
theorem eqvAll_map {α : Type} [Dat α] : ∀ xs ys : List α, PyData.eqvAll (toPy.toPys (xs.map toD)) (toPy.toPys (ys.map toD)) = true ↔ xs = ys
  | [], [] => by simp [toPy.toPys, PyData.eqvAll]
  | x :: xs, [] => by simp [toPy.toPys, PyData.eqvAll]
  | [], y :: ys => by simp [toPy.toPys, PyData.eqvAll]
  | x :: xs, y :: ys => by
    show PyData.eqvAll (toPy (toD x) :: toPy.toPys (xs.map toD)) (toPy (toD y) :: toPy.toPys (ys.map toD)) = true ↔ x :: xs = y :: ys
    simp only [PyData.eqvAll]
    rw [Bool.and_eq_true, Dat.eqv, eqvAll_map xs ys, List.cons.injEq]
instance {α : Type} [Dat α] : Dat (List α) where
  toD := fun xs => .lst (xs.map toD)
  dep := Dat.dep α + 1
  ok := fun xs => xs.all Dat.ok
  py := fun xs => isPys_map xs
  lay := fun xs h => by
    show PyData.canLay0 (.list (toPy.toPys (xs.map toD))) = true
    simp only [PyData.canLay0]
    exact layAll_map xs h
  dp := fun xs => by
    show PyData.depth (.list (toPy.toPys (xs.map toD))) ≤ Dat.dep α + 1
    simp only [PyData.depth]
    have := depAll_map xs
    omega
  eqv := fun x y => by
    show PyData.eqv (.list (toPy.toPys (x.map toD))) (.list (toPy.toPys (y.map toD))) = true ↔ x = y
    simp only [PyData.eqv]
    exact eqvAll_map x y
  rr := fun _ => rfl
instance {α β : Type} [Dat α] [Dat β] : Dat (α × β) where
  toD := fun p => .tup [toD p.1, toD p.2]
  dep := max (Dat.dep α) (Dat.dep β) + 1
  ok := fun p => Dat.ok p.1 && Dat.ok p.2
  py := fun p => by
    show (isPy (toD p.1) && (isPy (toD p.2) && true)) = true
    rw [Dat.py, Dat.py]; rfl
  lay := fun p h => by
    rw [Bool.and_eq_true] at h
    show PyData.canLay0 (.tuple [toPy (toD p.1), toPy (toD p.2)]) = true
    simp only [PyData.canLay0, PyData.canLayAll0]
    rw [Dat.lay _ h.1, Dat.lay _ h.2]; rfl
  dp := fun p => by
    show PyData.depth (.tuple [toPy (toD p.1), toPy (toD p.2)]) ≤ _
    simp only [PyData.depth, PyData.depthAll]
    have h1 := Dat.dp p.1
    have h2 := Dat.dp p.2
    omega
  eqv := fun x y => by
    show PyData.eqv (.tuple [toPy (toD x.1), toPy (toD x.2)]) (.tuple [toPy (toD y.1), toPy (toD y.2)]) = true ↔ x = y
    simp only [PyData.eqv, PyData.eqvAll, Bool.and_true]
    rw [Bool.and_eq_true, Dat.eqv, Dat.eqv, Prod.ext_iff]
  rr := fun _ => rfl
theorem toD_int (i : Int) : toD i = .int i := rfl
theorem toD_bl (i : Bool) : toD i = .bl i := rfl
theorem toD_str (i : Str) : toD i = .str i := rfl
theorem toD_list {α : Type} [Dat α] (xs : List α) : toD xs = .lst (xs.map toD) := rfl
theorem toD_pair {α β : Type} [Dat α] [Dat β] (p : α × β) : toD p = .tup [toD p.1, toD p.2] := rfl
theorem eqD_of {α : Type} [Dat α] [DecidableEq α] (x y : α) (hd : Dat.dep α ≤ 64) (hx : Dat.ok x = true) (hy : Dat.ok y = true) : EqD (toD x) (toD y) (decide (x = y)) where
  p1 := Dat.py x
  p2 := Dat.py y
  s1 := by
    unfold SeqAt.shaped
    rw [Dat.lay x hx, decide_eq_true (Nat.le_trans (Dat.dp x) hd)]; rfl
  s2 := by
    unfold SeqAt.shaped
    rw [Dat.lay y hy, decide_eq_true (Nat.le_trans (Dat.dp y) hd)]; rfl
  eq := by
    rw [Bool.eq_iff_iff, Dat.eqv, decide_eq_true_eq]
theorem EqD.mtl {xs : List D} {e : D} {b : Bool} (h : EqD (.lst xs) e b) : EqD (.mt xs) e b := ⟨h.p1, h.p2, h.s1, h.s2, h.eq⟩
theorem EqD.mtr {xs : List D} {e : D} {b : Bool} (h : EqD e (.lst xs) b) : EqD e (.mt xs) b := ⟨h.p1, h.p2, h.s1, h.s2, h.eq⟩
end
end DL

/-! ## DLe.lean -/
namespace DL
open PySem PySem.Spec PyProof.Rows L2
open Dat (toD)
section
variable {K : Frag} {W : WX} {XC : DX} {B : Base} {env : Env} {σ : L2.St} {tm : List (V × D)} {H : Hp} {v : V} {x d : D} {pn : List Nat} {F : Hp} {U : Fam}
/-! ### arguments -/
@[simp] def dNil : DTA := fun env Q => Q [] env
@[simp] def dCons (da : DTE) (dr : DTA) : DTA := fun env Q => da env fun x e1 => dr e1 fun xs e2 => Q (x :: xs) e2
theorem da_nil : DA K W XC pn tNil dNil := ⟨fun B ok tm env σ H Q R r h k => k [] env [] H h rfl r⟩
theorem da_cons {ta : TE} {tr : TA} {da : DTE} {dr : DTA} (ha : DE K W XC pn ta da) (hr : DA K W XC pn tr dr) : DA K W XC pn (tCons ta tr) (dCons da dr) :=
  ⟨fun B ok tm env σ H Q R r h k => ha.run B ok tm env σ H _ _ r h fun x e1 v H1 q1 r1 => hr.run B ok _ e1 σ H1 _ _ r1 q1 fun xs e2 vs H2 q2 l r2 =>
    k (x :: xs) e2 (v :: vs) H2 q2 (by simp [l]) (show Rel K B e2 σ ((v, x) :: (vs.zip xs ++ tm)) H2 from Rel.under (l := vs.zip xs) r2)⟩
theorem RelF.kids {vs : List V} {ds : List D} (R : RelF K B F U env σ (vs.zip ds ++ tm) H) (l : vs.length = ds.length) (h : ds.all isR = true) : ∀ (i : Nat) v d, vs[i]? = some v → ds[i]? = some d → Rep K F v d := fun i v d h1 h2 => by
  obtain ⟨w, g1, g2⟩ := zip_get l h2
  rw [h1] at g1; cases g1
  have hlt : i < (vs.zip ds).length := (List.getElem?_eq_some_iff.mp g2).1
  have hr := List.all_eq_true.mp h d (List.mem_of_getElem? h2)
  rcases R.tmp i v d (by rw [List.getElem?_append_left hlt]; exact g2) with q | ⟨j, q, _⟩
  · exact q.toRep hr
  · rw [q] at hr; exact nomatch hr
theorem RelF.popL {l : List (V × D)} (R : RelF K B F U env σ (l ++ tm) H) : ∃ U', RelF K B F U' env σ tm H := by
  refine ⟨_, R.re tm (· + l.length) (fun i j e => Nat.add_right_cancel e) fun i x e => ?_⟩
  rw [List.getElem?_append_right (by omega), Nat.add_sub_cancel]; exact e
/-- a new list of one's own, of what stands -/
theorem RelF.newL (R : RelF K B F U env σ tm H) {p : Addr} (hp : H p = none) {vs : List V} {ds : List D} (l : vs.length = ds.length) (r : ∀ (i : Nat) v d, vs[i]? = some v → ds[i]? = some d → Rep K F v d) :
    Rel K B env σ ((.ref p, .mt ds) :: tm) (upd H p (.lst vs)) := ⟨F, _, R.pushNew hp (.mt rfl upd_same l r)⟩
theorem Rel.tupN (R : RelF K B F U env σ tm H) {p : Addr} (hp : H p = none) {vs : List V} {ds : List D} (l : vs.length = ds.length) (r : ∀ (i : Nat) v d, vs[i]? = some v → ds[i]? = some d → Rep K F v d) :
    Rel K B env σ ((.ref p, .tup ds) :: tm) (upd H p (.tup vs)) := by
  have R1 := R.grow (.tup vs) hp
  have s : Same F (upd F p (.tup vs)) := fun b u e => by rw [upd_ne (ne_of_none e (R.sub.free hp))]; exact e
  exact ⟨_, _, R1.push (.tup (.of upd_same) l fun i v d h1 h2 => (r i v d h1 h2).mono s)⟩
@[simp] def dLst (da : DTA) : DTE := fun env Q => da env fun ds e => ds.length ≤ sizeLine ∧ ds.all isR = true ∧ Q (.mt ds) e
@[simp] def dTup (da : DTA) : DTE := fun env Q => da env fun ds e => ds.length ≤ sizeLine ∧ ds.all isR = true ∧ Q (.tup ds) e
theorem de_lst {t : TA} {da : DTA} (h : DA K W XC pn t da) : DE K W XC pn (tLst t) (dLst da) := ⟨fun B ok tm env σ H Q R r h' k => h.run B ok tm env σ H _ _ r h' fun ds e vs H1 ⟨q1, q2, q3⟩ l r1 => by
  refine ⟨by rw [l]; exact q1, fun p hp => k _ _ _ _ q3 ?_⟩
  obtain ⟨F, U, r1⟩ := r1
  obtain ⟨U', r2⟩ := r1.popL
  exact r2.newL hp l (r1.kids l q2)⟩
theorem de_tup {t : TA} {da : DTA} (h : DA K W XC pn t da) : DE K W XC pn (tTup t) (dTup da) := ⟨fun B ok tm env σ H Q R r h' k => h.run B ok tm env σ H _ _ r h' fun ds e vs H1 ⟨q1, q2, q3⟩ l r1 => by
  refine ⟨by rw [l]; exact q1, fun p hp => k _ _ _ _ q3 ?_⟩
  obtain ⟨F, U, r1⟩ := r1
  obtain ⟨U', r2⟩ := r1.popL
  exact Rel.tupN r2 hp l (r1.kids l q2)⟩

/-! ### built-ins by data -/
abbrev DFn := List D → Env → (D → Prop) → Prop
structure DCl (K : Frag) (r : List V → Hp → VK → Prop) (d : DFn) : Prop where
  run : ∀ (B : Base) (tm : List (V × D)) (env : Env) (σ : L2.St) (H : Hp) (ds : List D) (vs : List V) (Q : VK) (R : D → Prop), vs.length = ds.length → Rel K B env σ (vs.zip ds ++ tm) H → d ds env R → (∀ z w H', R z → Rel K B env σ ((w, z) :: tm) H' → Q w H') → r vs H Q
@[simp] def dCB (f : DFn) (da : DTA) : DTE := fun env Q => da env fun ds e => f ds e fun z => Q z e
theorem de_cb {r : List V → Hp → VK → Prop} {t : TA} {f : DFn} {da : DTA} (hf : DCl K r f) (h : DA K W XC pn t da) : DE K W XC pn (tCB r t) (dCB f da) := ⟨fun B ok tm env σ H Q R r h' k => h.run B ok tm env σ H _ _ r h' fun ds e vs H1 q l r1 =>
  hf.run B tm e σ H1 ds vs _ _ l r1 q fun z w H2 q2 r2 => k _ _ _ _ q2 r2⟩
theorem len1 {vs : List V} {x : D} (l : vs.length = [x].length) : ∃ v, vs = [v] := by
  match vs, l with
  | [v], _ => exact ⟨v, rfl⟩
theorem len2 {vs : List V} {x y : D} (l : vs.length = [x, y].length) : ∃ v w, vs = [v, w] := by
  match vs, l with
  | [v, w], _ => exact ⟨v, w, rfl⟩
def lenC : D → Option Nat
  | .lst ds => some ds.length
  | .mt ds => some ds.length
  | .mm ds => some ds.length
  | .scr ds => some ds.length
  | .tup ds => some ds.length
  | _ => none
@[simp] theorem lenC_lst (ds : List D) : lenC (.lst ds) = some ds.length := rfl
@[simp] theorem lenC_mt (ds : List D) : lenC (.mt ds) = some ds.length := rfl
@[simp] theorem lenC_mm (ds : List D) : lenC (.mm ds) = some ds.length := rfl
@[simp] theorem lenC_scr (ds : List D) : lenC (.scr ds) = some ds.length := rfl
@[simp] theorem lenC_tup (ds : List D) : lenC (.tup ds) = some ds.length := rfl
@[simp] def cLen : DFn := fun ds env Q => ∃ x d n, ds = [x] ∧ res env x = some d ∧ lenC d = some n ∧ Q (.int n)
theorem Own.len {S : Addr → Prop} {n : Nat} (h : Own K F H v d S) (sub : Same F H) (e : lenC d = some n) : ∃ a vs, v = .ref a ∧ (SqL K H a vs ∨ SqT K H a vs) ∧ vs.length = n := by
  cases h with
  | frz h =>
    cases h <;> first | cases e | skip
    · rename_i h l r; exact ⟨_, _, rfl, .inl (.of (sub _ _ h)), l⟩
    · rename_i h l r; exact ⟨_, _, rfl, .inl (sub.seq h), l⟩
    · rename_i h l r; exact ⟨_, _, rfl, .inr (seqT_same sub h), l⟩
  | mt ha h l r => cases e; exact ⟨_, _, rfl, .inl (.of h), l⟩
  | mm Sc ha h l r => cases e; exact ⟨_, _, rfl, .inl (.of h), l⟩
  | mo => cases e
  | dc => cases e
theorem dc_len : DCl K (fun xs H Q => ∃ p ys, xs = [.ref p] ∧ (SqL K H p ys ∨ SqT K H p ys) ∧ Q (.int ys.length) H) cLen := ⟨fun B tm env σ H ds vs Q R l r h k => by
  obtain ⟨x, d, n, rfl, e1, e2, h⟩ := h
  obtain ⟨v, rfl⟩ := len1 l
  obtain ⟨F, U, S, r2, o, sub⟩ := Rel.look1 (tm := tm) r e1
  obtain ⟨a, ys, rfl, hs, hl⟩ := o.len sub e2
  refine ⟨a, ys, rfl, hs, ?_⟩
  rw [hl]
  exact k _ _ _ h (r.pop.val fun F => .int _)⟩
@[simp] def cLenS : DFn := fun ds env Q => ∃ z, ds = [.str z] ∧ z.length ≤ sizeLine ∧ Q (.int z.length)
theorem dc_lenS : DCl K (fun xs H Q => ∃ z, xs = [.str z] ∧ z.length ≤ sizeLine ∧ Q (.int z.length) H) cLenS := ⟨fun B tm env σ H ds vs Q R l r h k => by
  obtain ⟨z, rfl, e, h⟩ := h
  obtain ⟨v, rfl⟩ := len1 l
  have q := Rel.sc (tm := tm) r (u := .str z) rfl
  subst q
  exact ⟨z, rfl, e, k _ _ _ h (r.pop.val fun F => .int _)⟩⟩
def mxI (i j : Int) : Int := if j > i then j else i
def mnI (i j : Int) : Int := if j < i then j else i
theorem mxI_eq (i j : Int) : mxI i j = max i j := by unfold mxI; omega
theorem mnI_eq (i j : Int) : mnI i j = min i j := by unfold mnI; omega
@[simp] def cI2 (g : Int → Int → Int) : DFn := fun ds _ Q => ∃ i j, ds = [.int i, .int j] ∧ Q (.int (g i j))
theorem dc_I2 {g : Int → Int → Int} : DCl K (fun xs H Q => ∃ i j, xs = [.int i, .int j] ∧ Q (.int (g i j)) H) (cI2 g) := ⟨fun B tm env σ H ds vs Q R l r h k => by
  obtain ⟨i, j, rfl, h⟩ := h
  obtain ⟨v, w, rfl⟩ := len2 l
  have r' : Rel K B env σ ((v, .int i) :: (w, .int j) :: tm) H := r
  have q1 := r'.int
  have q2 := r'.pop.int
  subst q1 q2
  exact ⟨i, j, rfl, k _ _ _ h (r'.pop.pop.val fun F => .int _)⟩⟩
@[simp] def cI1 (g : Int → Int) : DFn := fun ds _ Q => ∃ i, ds = [.int i] ∧ Q (.int (g i))
theorem dc_I1 {g : Int → Int} : DCl K (fun xs H Q => ∃ i, xs = [.int i] ∧ Q (.int (g i)) H) (cI1 g) := ⟨fun B tm env σ H ds vs Q R l r h k => by
  obtain ⟨i, rfl, h⟩ := h
  obtain ⟨v, rfl⟩ := len1 l
  have r' : Rel K B env σ ((v, .int i) :: tm) H := r
  have q1 := r'.int
  subst q1
  exact ⟨i, rfl, k _ _ _ h (r'.pop.val fun F => .int _)⟩⟩
/-- int(b), int(i) -/
@[simp] def cInt : DFn := fun ds _ Q => (∃ i, ds = [.int i] ∧ Q (.int i)) ∨ ∃ b, ds = [.bl b] ∧ Q (.int (if b then 1 else 0))
theorem dc_int : DCl K (fun xs H Q => (∃ i, xs = [.int i] ∧ Q (.int i) H) ∨ ∃ k, xs = [.bl k] ∧ Q (.int (if k then 1 else 0)) H) cInt := ⟨fun B tm env σ H ds vs Q R l r h k => by
  rcases h with ⟨i, rfl, h⟩ | ⟨b, rfl, h⟩
  · obtain ⟨v, rfl⟩ := len1 l
    have r' : Rel K B env σ ((v, .int i) :: tm) H := r
    have q1 := r'.int
    subst q1
    exact .inl ⟨i, rfl, k _ _ _ h r'⟩
  · obtain ⟨v, rfl⟩ := len1 l
    have r' : Rel K B env σ ((v, .bl b) :: tm) H := r
    have q1 := r'.sc (u := .bl b) rfl
    subst q1
    exact .inr ⟨b, rfl, k _ _ _ h (r'.pop.val fun F => .int _)⟩⟩
/-- list(xs): a new one -/
@[simp] def cList : DFn := fun ds env Q => ∃ x d xs, ds = [x] ∧ res env x = some d ∧ (lstC d = some xs ∨ tupC d = some xs) ∧ Q (.mt xs)
theorem dc_list : DCl K (fun xs H Q => ∃ p ys, xs = [.ref p] ∧ (SqL K H p ys ∨ SqT K H p ys) ∧ ∀ l, H l = none → Q (.ref l) (upd H l (.lst ys))) cList := ⟨fun B tm env σ H ds vs Q R l r h k => by
  obtain ⟨x, d, xs, rfl, e1, e2, h⟩ := h
  obtain ⟨v, rfl⟩ := len1 l
  obtain ⟨F, U, S, r2, o, sub⟩ := Rel.look1 (tm := tm) r e1
  rcases e2 with e2 | e2
  · obtain ⟨a, ys, rfl, hs, hl, rp⟩ := o.list sub e2
    exact ⟨a, ys, rfl, .inl hs, fun p hp => k _ _ _ h (r2.newL hp hl rp)⟩
  · obtain ⟨a, ys, rfl, hs, hl, rp⟩ := o.tuple sub e2
    exact ⟨a, ys, rfl, .inr hs, fun p hp => k _ _ _ h (r2.newL hp hl rp)⟩⟩
theorem ints_of {ns : List Int} : ∀ {vs : List V}, vs.length = (ns.map D.int).length → (∀ (i : Nat) v d, vs[i]? = some v → (ns.map D.int)[i]? = some d → Rep K F v d) → vs = ns.map V.int := by
  induction ns with
  | nil => intro vs l _; exact List.length_eq_zero_iff.mp l
  | cons n ns ih =>
    intro vs l r
    match vs, l with
    | v :: vs, l =>
      have h := r 0 v (.int n) rfl rfl
      cases h
      rw [ih (Nat.succ.inj l) fun i v d h1 h2 => r (i + 1) v d h1 h2]; rfl
theorem bools_of {ns : List Bool} : ∀ {vs : List V}, vs.length = (ns.map D.bl).length → (∀ (i : Nat) v d, vs[i]? = some v → (ns.map D.bl)[i]? = some d → Rep K F v d) → vs = ns.map V.bl := by
  induction ns with
  | nil => intro vs l _; exact List.length_eq_zero_iff.mp l
  | cons n ns ih =>
    intro vs l r
    match vs, l with
    | v :: vs, l =>
      have h := r 0 v (.bl n) rfl rfl
      cases h
      rw [ih (Nat.succ.inj l) fun i v d h1 h2 => r (i + 1) v d h1 h2]; rfl
@[simp] def cSum : DFn := fun ds env Q => ∃ (x d : D) (ns : List Int), ds = [x] ∧ res env x = some d ∧ lstC d = some (ns.map D.int) ∧ Q (.int ns.sum)
theorem dc_sum : DCl K (rSum K) cSum := ⟨fun B tm env σ H ds vs Q R l r h k => by
  obtain ⟨x, d, ns, rfl, e1, e2, h⟩ := h
  obtain ⟨v, rfl⟩ := len1 l
  obtain ⟨F, U, S, r2, o, sub⟩ := Rel.look1 (tm := tm) r e1
  obtain ⟨a, ys, rfl, hs, hl, rp⟩ := o.list sub e2
  have q := ints_of hl rp
  subst q
  exact ⟨a, ns, rfl, hs, k _ _ _ h (Rel.val ⟨_, _, r2⟩ fun F => .int _)⟩⟩
@[simp] def cBools (g : List Bool → Bool) : DFn := fun ds env Q => ∃ (x d : D) (bs : List Bool), ds = [x] ∧ res env x = some d ∧ lstC d = some (bs.map D.bl) ∧ Q (.bl (g bs))
theorem dc_bools {g : List Bool → Bool} : DCl K (fun vs H Q => ∃ (a : Addr) (bs : List Bool), vs = [V.ref a] ∧ SqL K H a (bs.map V.bl) ∧ Q (.bl (g bs)) H) (cBools g) := ⟨fun B tm env σ H ds vs Q R l r h k => by
  obtain ⟨x, d, ns, rfl, e1, e2, h⟩ := h
  obtain ⟨v, rfl⟩ := len1 l
  obtain ⟨F, U, S, r2, o, sub⟩ := Rel.look1 (tm := tm) r e1
  obtain ⟨a, ys, rfl, hs, hl, rp⟩ := o.list sub e2
  have q := bools_of hl rp
  subst q
  exact ⟨a, ns, rfl, hs, k _ _ _ h (Rel.val ⟨_, _, r2⟩ fun F => .bl _)⟩⟩
@[simp] def cDivmod : DFn := fun ds _ Q => ∃ i j, ds = [.int i, .int j] ∧ CDiv i j ∧ Q (.tup [.int (i / j), .int (i % j)])
theorem dc_divmod : DCl K (fun xs H Q => ∃ i j, xs = [.int i, .int j] ∧ CDiv i j ∧ ∀ p, H p = none → Q (.ref p) (upd H p (.tup [.int (i / j), .int (i % j)]))) cDivmod := ⟨fun B tm env σ H ds vs Q R l r h k => by
  obtain ⟨i, j, rfl, c, h⟩ := h
  obtain ⟨v, w, rfl⟩ := len2 l
  have r' : Rel K B env σ ((v, .int i) :: (w, .int j) :: tm) H := r
  have q1 := r'.int
  have q2 := r'.pop.int
  subst q1 q2
  obtain ⟨F, U, r2⟩ := r'.pop.pop
  refine ⟨i, j, rfl, c, fun p hp => k _ _ _ h (Rel.tupN r2 hp rfl fun n v d h1 h2 => ?_)⟩
  match n, h1, h2 with
  | 0, h1, h2 => cases h1; cases h2; exact .int _
  | 1, h1, h2 => cases h1; cases h2; exact .int _⟩
/-! ### + of lists, of texts -/
def trkC : D → Option (List D)
  | .lst ds => some ds
  | .mt ds => some ds
  | _ => none
@[simp] theorem trkC_lst (ds : List D) : trkC (.lst ds) = some ds := rfl
@[simp] theorem trkC_mt (ds : List D) : trkC (.mt ds) = some ds := rfl
theorem Own.trk {S : Addr → Prop} {ds : List D} (h : Own K F H v d S) (sub : Same F H) (e : trkC d = some ds) :
    ∃ a vs, v = .ref a ∧ H a = some (.lst vs) ∧ vs.length = ds.length ∧ ∀ (i : Nat) v d, vs[i]? = some v → ds[i]? = some d → Rep K F v d := by
  cases h with
  | frz h =>
    cases h <;> first | cases e | skip
    rename_i h l r; exact ⟨_, _, rfl, sub _ _ h, l, r⟩
  | mt ha h l r => cases e; exact ⟨_, _, rfl, h, l, r⟩
  | mm => cases e
  | mo => cases e
  | dc => cases e
@[simp] def oCat : DOp := fun x y env Q => ∃ d e xs ys, res env x = some d ∧ res env y = some e ∧ trkC d = some xs ∧ trkC e = some ys ∧ xs.length + ys.length ≤ sizeLine ∧ Q (.mt (xs ++ ys))
theorem app_rep {vs ws : List V} {xs ys : List D} (l : vs.length = xs.length) (l2 : ws.length = ys.length) (r : ∀ (i : Nat) v d, vs[i]? = some v → xs[i]? = some d → Rep K F v d) (r2 : ∀ (i : Nat) v d, ws[i]? = some v → ys[i]? = some d → Rep K F v d) :
    ∀ (i : Nat) v d, (vs ++ ws)[i]? = some v → (xs ++ ys)[i]? = some d → Rep K F v d := fun i v d h1 h2 => by
  by_cases hi : i < vs.length
  · rw [List.getElem?_append_left hi] at h1
    rw [List.getElem?_append_left (by omega)] at h2
    exact r i v d h1 h2
  · rw [List.getElem?_append_right (by omega)] at h1
    rw [List.getElem?_append_right (by omega), ← l] at h2
    exact r2 _ v d h1 h2
theorem do_cat : DO K rCat oCat := ⟨fun B tm env σ H x y v u Q R r h k => by
  obtain ⟨d, e, xs, ys, e1, e2, e3, e4, hl, h⟩ := h
  obtain ⟨F, U, r⟩ := r
  have r1 := r.re ((v, x) :: tm) (· + 1) (fun i j e => Nat.succ.inj e) fun i x e => e
  obtain ⟨S, o⟩ := r1.look e1
  obtain ⟨S', o'⟩ := r.look e2
  obtain ⟨a, vs, rfl, ha, l1, p1⟩ := o.trk r.sub e3
  obtain ⟨b, ws, rfl, hb, l2, p2⟩ := o'.trk r.sub e4
  refine ⟨a, b, vs, ws, rfl, rfl, ha, hb, by omega, fun p hp => k _ _ _ h ?_⟩
  exact (r1.re tm (· + 1) (fun i j e => Nat.succ.inj e) fun i x e => e).newL hp (by simp [l1, l2]) (app_rep l1 l2 p1 p2)⟩
@[simp] def oCatS : DOp := fun x y _ Q => ∃ i j, x = .str i ∧ y = .str j ∧ i.length + j.length ≤ sizeLine ∧ Q (.str (i ++ j))
theorem do_catS : DO K (fun x y H Q => ∃ i j, x = .str i ∧ y = .str j ∧ i.length + j.length ≤ sizeLine ∧ Q (.str (i ++ j)) H) oCatS := ⟨fun B tm env σ H x y v u Q R r h k => by
  obtain ⟨i, j, rfl, rfl, hl, h⟩ := h
  exact ⟨i, j, r.pop.sc rfl, r.sc rfl, hl, k _ _ _ h (r.pop.pop.val fun F => .str _)⟩⟩
end
end DL

/-! ## DLf.lean -/
namespace DL
open PySem PySem.Spec PyProof.Rows L2
open Dat (toD)
section
variable {K : Frag} {W : WX} {XC : DX} {B : Base} {env : Env} {σ : L2.St} {tm : List (V × D)} {H : Hp} {v : V} {x d : D} {pn : List Nat} {F : Hp} {U : Fam}
/-! ### tests -/
@[simp] def dTest (d : DTE) : DTT := fun env Q => d env fun x e => ∃ k, x = .bl k ∧ Q k e
theorem dt_test {t : TE} {da : DTE} (h : DE K W XC pn t da) : DT K W XC pn (tTest t) (dTest da) := ⟨fun B ok tm env σ H Q R r h' k => h.run B ok tm env σ H _ _ r h' fun x e v H1 ⟨b, q, q2⟩ r1 => by
  subst q
  have q1 := r1.sc (u := .bl b) rfl
  subst q1
  exact ⟨b, rfl, k _ _ _ q2 r1.pop⟩⟩
theorem dt_b {t : TE} {da : DTE} (h : DE K W XC pn t da) : DT K W XC pn (tB t) (dTest da) := ⟨(dt_test h).run⟩
@[simp] def dAnd (t u : DTT) : DTT := fun env Q => t env fun c e => if c = true then u e Q else Q false e
@[simp] def dOr (t u : DTT) : DTT := fun env Q => t env fun c e => if c = true then Q true e else u e Q
@[simp] def dNot (t : DTT) : DTT := fun env Q => t env fun c e => Q (!c) e
theorem dt_and {t u : TT} {da db : DTT} (ha : DT K W XC pn t da) (hb : DT K W XC pn u db) : DT K W XC pn (tAnd t u) (dAnd da db) := ⟨fun B ok tm env σ H Q R r h k => ha.run B ok tm env σ H _ _ r h fun c e H1 q r1 => by
  cases c with
  | true =>
    rw [if_pos rfl] at q ⊢
    exact hb.run B ok tm e σ H1 Q R r1 q k
  | false =>
    rw [if_neg Bool.false_ne_true] at q ⊢
    exact k _ _ _ q r1⟩
theorem dt_or {t u : TT} {da db : DTT} (ha : DT K W XC pn t da) (hb : DT K W XC pn u db) : DT K W XC pn (tOr t u) (dOr da db) := ⟨fun B ok tm env σ H Q R r h k => ha.run B ok tm env σ H _ _ r h fun c e H1 q r1 => by
  cases c with
  | true =>
    rw [if_pos rfl] at q ⊢
    exact k _ _ _ q r1
  | false =>
    rw [if_neg Bool.false_ne_true] at q ⊢
    exact hb.run B ok tm e σ H1 Q R r1 q k⟩
theorem dt_not {t : TT} {da : DTT} (ha : DT K W XC pn t da) : DT K W XC pn (tNot t) (dNot da) := ⟨fun B ok tm env σ H Q R r h k => ha.run B ok tm env σ H _ _ r h fun c e H1 q r1 => k _ _ _ q r1⟩
@[simp] def dAndV (da db : DTE) : DTE := fun env Q => da env fun x e => ∃ c, x = .bl c ∧ if c = true then db e Q else Q (.bl false) e
@[simp] def dOrV (da db : DTE) : DTE := fun env Q => da env fun x e => ∃ c, x = .bl c ∧ if c = true then Q (.bl true) e else db e Q
@[simp] def dNotV (da : DTE) : DTE := fun env Q => da env fun x e => ∃ c, x = .bl c ∧ Q (.bl (!c)) e
theorem de_andV {t u : TE} {da db : DTE} (ha : DE K W XC pn t da) (hb : DE K W XC pn u db) : DE K W XC pn (tAndV t u) (dAndV da db) := ⟨fun B ok tm env σ H Q R r h k => ha.run B ok tm env σ H _ _ r h fun x e v H1 ⟨c, q, q2⟩ r1 => by
  subst q
  have q1 := r1.sc (u := .bl c) rfl
  subst q1
  refine ⟨c, rfl, ?_⟩
  cases c with
  | true =>
    rw [if_pos rfl] at q2 ⊢
    exact hb.run B ok tm e σ H1 Q R r1.pop q2 k
  | false =>
    rw [if_neg Bool.false_ne_true] at q2 ⊢
    exact k _ _ _ _ q2 r1⟩
theorem de_orV {t u : TE} {da db : DTE} (ha : DE K W XC pn t da) (hb : DE K W XC pn u db) : DE K W XC pn (tOrV t u) (dOrV da db) := ⟨fun B ok tm env σ H Q R r h k => ha.run B ok tm env σ H _ _ r h fun x e v H1 ⟨c, q, q2⟩ r1 => by
  subst q
  have q1 := r1.sc (u := .bl c) rfl
  subst q1
  refine ⟨c, rfl, ?_⟩
  cases c with
  | true =>
    rw [if_pos rfl] at q2 ⊢
    exact k _ _ _ _ q2 r1
  | false =>
    rw [if_neg Bool.false_ne_true] at q2 ⊢
    exact hb.run B ok tm e σ H1 Q R r1.pop q2 k⟩
theorem de_notV {t : TE} {da : DTE} (ha : DE K W XC pn t da) : DE K W XC pn (tNotV t) (dNotV da) := ⟨fun B ok tm env σ H Q R r h k => ha.run B ok tm env σ H _ _ r h fun x e v H1 ⟨c, q, q2⟩ r1 => by
  subst q
  have q1 := r1.sc (u := .bl c) rfl
  subst q1
  exact ⟨c, rfl, k _ _ _ _ q2 (r1.pop.val fun F => .bl _)⟩⟩
@[simp] def dIf (t : DTT) (da db : DTE) : DTE := fun env Q => t env fun c e => if c = true then da e Q else db e Q
theorem de_if {t : TT} {u w : TE} {dt : DTT} {da db : DTE} (ht : DT K W XC pn t dt) (ha : DE K W XC pn u da) (hb : DE K W XC pn w db) : DE K W XC pn (tIf t u w) (dIf dt da db) := ⟨fun B ok tm env σ H Q R r h k => ht.run B ok tm env σ H _ _ r h fun c e H1 q r1 => by
  cases c with
  | true =>
    rw [if_pos rfl] at q ⊢
    exact ha.run B ok tm e σ H1 Q R r1 q k
  | false =>
    rw [if_neg Bool.false_ne_true] at q ⊢
    exact hb.run B ok tm e σ H1 Q R r1 q k⟩
/-- a chain a < b < c -/
def dChain (o o' : DOp) (da db dc : DTE) : DTE := fun env Q => da env fun x e1 => db e1 fun y e2 => o x y e2 fun z => ∃ k, z = .bl k ∧ if k = true then dc e2 fun w e3 => o' y w e3 fun u => Q u e3 else Q (.bl false) e2

/-! ### slices -/
abbrev DTO := Env → (Option Int → Env → Prop) → Prop
structure DPo (K : Frag) (W : WX) (XC : DX) (pn : List Nat) (t : TO) (d : DTO) : Prop where
  run : ∀ (B : Base), Bok K W XC pn B → ∀ (tm : List (V × D)) (env : Env) (σ : L2.St) (H : Hp) (Q : Option Int → Hp → Prop) (R : Option Int → Env → Prop), Rel K B env σ tm H → d env R → (∀ b env' H', R b env' → Rel K B env' σ tm H' → Q b H') → t σ H Q
@[simp] def dNoPart : DTO := fun env Q => Q none env
@[simp] def dPart (d : DTE) : DTO := fun env Q => d env fun x e => ∃ i, x = .int i ∧ Q (some i) e
theorem dpo_none : DPo K W XC pn tNoPart dNoPart := ⟨fun B ok tm env σ H Q R r h k => k _ _ _ h r⟩
theorem dpo_some {t : TE} {da : DTE} (h : DE K W XC pn t da) : DPo K W XC pn (tPart t) (dPart da) := ⟨fun B ok tm env σ H Q R r h' k => h.run B ok tm env σ H _ _ r h' fun x e v H1 ⟨i, q, q2⟩ r1 => by
  subst q
  have q1 := r1.int
  subst q1
  exact ⟨i, rfl, k _ _ _ q2 r1.pop⟩⟩
def cutG {α : Type} (xs : List α) (lo hi : Option Int) : List α := (xs.drop (HT.sIx xs.length 0 lo)).take (HT.sIx xs.length xs.length hi - HT.sIx xs.length 0 lo)
theorem cutG_map {α β : Type} (f : α → β) (xs : List α) (lo hi : Option Int) : cutG (xs.map f) lo hi = (cutG xs lo hi).map f := by
  unfold cutG
  rw [List.length_map, ← List.map_drop, ← List.map_take]
@[simp] def dSl (da : DTE) (dl dh : DTO) : DTE := fun env Q => da env fun x e1 => dl e1 fun lo e2 => dh e2 fun hi e3 => ∃ d ds, res e3 x = some d ∧ lstC d = some ds ∧ Q (.mt (cutG ds lo hi)) e3
theorem de_sl {t : TE} {tl th : TO} {da : DTE} {dl dh : DTO} (ha : DE K W XC pn t da) (hl : DPo K W XC pn tl dl) (hh : DPo K W XC pn th dh) : DE K W XC pn (tSl (rSlL K) t tl th) (dSl da dl dh) := ⟨fun B ok tm env σ H Q R r h k =>
  ha.run B ok tm env σ H _ _ r h fun x e1 v H1 q1 r1 => hl.run B ok _ e1 σ H1 _ _ r1 q1 fun lo e2 H2 q2 r2 => hh.run B ok _ e2 σ H2 _ _ r2 q2 fun hi e3 H3 ⟨d, ds, g1, g2, g3⟩ r3 => by
    obtain ⟨F, U, S, r4, o, sub⟩ := r3.look1 g1
    obtain ⟨a, vs, rfl, hs, l, rp⟩ := o.list sub g2
    refine ⟨a, vs, rfl, hs, fun p hp => k _ _ _ _ g3 (r4.newL hp ?_ ?_)⟩
    · show (cutG vs lo hi).length = (cutG ds lo hi).length
      unfold cutG
      rw [List.length_take, List.length_drop, List.length_take, List.length_drop, l]
    · show ∀ (i : Nat) v d, (cutG vs lo hi)[i]? = some v → (cutG ds lo hi)[i]? = some d → Rep K F v d
      intro i w z h1 h2
      unfold cutG at h1 h2
      rw [l] at h1
      rw [List.getElem?_take] at h1 h2
      split at h1
      · rename_i hi'
        rw [if_pos hi', List.getElem?_drop] at h2
        rw [List.getElem?_drop] at h1
        exact rp _ _ _ h1 h2
      · cases h1⟩

/-! ### methods -/
abbrev DMt := D → List D → Env → (D → Env → Prop) → Prop
structure DM (K : Frag) (W : WX) (XC : DX) (pn : List Nat) (r : V → List V → Hp → VK → Prop) (d : DMt) : Prop where
  run : ∀ (B : Base), Bok K W XC pn B → ∀ (tm : List (V × D)) (env : Env) (σ : L2.St) (H : Hp) (x : D) (v : V) (ds : List D) (vs : List V) (Q : VK) (R : D → Env → Prop), vs.length = ds.length → Rel K B env σ (vs.zip ds ++ (v, x) :: tm) H → d x ds env R →
    (∀ z env' w H', R z env' → Rel K B env' σ ((w, z) :: tm) H' → Q w H') → r v vs H Q
/-- of what built-in type -/
def tyD (T : String) : D → Bool
  | .str _ => T == "str"
  | .int _ => T == "int"
  | .lst _ => T == "list"
  | .mt _ => T == "list"
  | .mm _ => T == "list"
  | .scr _ => T == "list"
  | .dc _ => T == "dict"
  | _ => false
theorem Own.tyV {S : Addr → Prop} {T : String} (h : Own K F H v d S) (sub : Same F H) (e : tyD T d = true) : tyV K T v H := by
  cases h with
  | frz h =>
    cases h with
    | str => exact eq_of_beq e
    | int => exact eq_of_beq e
    | lst h => exact .inl ⟨eq_of_beq e, _, .of (sub _ _ h)⟩
    | scr h => exact .inl ⟨eq_of_beq e, _, sub.seq h⟩
    | _ => exact nomatch e
  | mt ha h l r => exact .inl ⟨eq_of_beq e, _, .of h⟩
  | mm Sc ha h l r => exact .inl ⟨eq_of_beq e, _, .of h⟩
  | mo => exact nomatch e
  | dc ha h => exact .inr (.inr (.inl ⟨eq_of_beq e, .inl ⟨_, h⟩⟩))
@[simp] def dBM (T : String) (m : DMt) (da : DTE) (dr : DTA) : DTE := fun env Q => da env fun x e1 => ∃ d, res e1 x = some d ∧ tyD T d = true ∧ dr e1 fun ds e2 => m x ds e2 Q
theorem de_bm {T : String} {r : V → List V → Hp → VK → Prop} {to : TE} {t : TA} {m : DMt} {da : DTE} {dr : DTA} (hm : DM K W XC pn r m) (ha : DE K W XC pn to da) (hr : DA K W XC pn t dr) : DE K W XC pn (tBM K T r to t) (dBM T m da dr) := ⟨fun B ok tm env σ H Q R r' h k =>
  ha.run B ok tm env σ H _ _ r' h fun x e1 v H1 ⟨d, q1, q2, q3⟩ r1 => by
    obtain ⟨F, U, S, r2, o⟩ := r1.look q1
    exact ⟨o.tyV r2.sub q2, hr.run B ok _ e1 σ H1 _ _ r1 q3 fun ds e2 vs H2 q4 l r3 => hm.run B ok tm e2 σ H2 x v ds vs _ _ l r3 q4 k⟩⟩
@[simp] def dBM0 (T : String) (m : DMt) (da : DTE) : DTE := fun env Q => da env fun x e1 => ∃ d, res e1 x = some d ∧ tyD T d = true ∧ m x [] e1 Q
theorem de_bm0 {T : String} {r : V → List V → Hp → VK → Prop} {to : TE} {m : DMt} {da : DTE} (hm : DM K W XC pn r m) (ha : DE K W XC pn to da) : DE K W XC pn (tBM0 K T r to) (dBM0 T m da) := ⟨fun B ok tm env σ H Q R r' h k =>
  ha.run B ok tm env σ H _ _ r' h fun x e1 v H1 ⟨d, q1, q2, q3⟩ r1 => by
    obtain ⟨F, U, S, r2, o⟩ := r1.look q1
    exact ⟨o.tyV r2.sub q2, hm.run B ok tm e1 σ H1 x v [] [] _ _ rfl r1 q3 k⟩⟩
/-- a list of one's own at a slot, changed as a whole -/
theorem Rel.chg {ts : List (V × D)} {i : Nat} {xs ys : List D} {ws : List V} (R : Rel K B env σ (ts ++ (v, .ptr i) :: tm) H) (e : env[i]? = some (some (.mt xs))) :
    ∃ F U a vs, RelF K B F U env σ (ts ++ (v, .ptr i) :: tm) H ∧ v = .ref a ∧ H a = some (.lst vs) ∧ vs.length = xs.length ∧ (∀ (i : Nat) v d, vs[i]? = some v → xs[i]? = some d → Rep K F v d) ∧
      ∀ ws ys, ws.length = ys.length → (∀ (i : Nat) v d, ws[i]? = some v → ys[i]? = some d → Rep K F v d) → ∃ U', RelF K B F U' (env.set i (some (.mt ys))) σ tm (upd H a (.lst ws)) := by
  obtain ⟨F, U, R⟩ := R
  have hv : σ[i]? = some (some v) := by
    rcases R.tmp ts.length v (.ptr i) (by rw [List.getElem?_append_right (Nat.le_refl _), Nat.sub_self]; rfl) with q | ⟨j, q, q2⟩
    · cases q with | frz q => cases q
    · cases q; exact q2
  obtain ⟨w, h1, h2⟩ := R.own i _ e
  rw [hv] at h1; cases h1
  cases h2 with
  | frz q => cases q
  | mt ha h l r =>
    refine ⟨F, U, _, _, R, rfl, h, l, r, fun ws ys l' r' => ?_⟩
    have R2 := R.write hv ha (.mt ha (upd_same (o := .lst ws)) l' r')
    obtain ⟨U', R3⟩ := R2.popL (l := ts)
    exact ⟨_, R3.re tm (· + 1) (fun i j e => Nat.succ.inj e) fun i x e => e⟩
@[simp] def mAppend : DMt := fun x ds env Q => ∃ i xs y, x = .ptr i ∧ ds = [y] ∧ env[i]? = some (some (.mt xs)) ∧ isR y = true ∧ xs.length < sizeLine ∧ Q .non (env.set i (some (.mt (xs ++ [y]))))
theorem kids1 {ts : List (V × D)} {v : V} {y : D} (R : RelF K B F U env σ ((v, y) :: ts) H) (h : isR y = true) : Rep K F v y := by
  rcases R.tmp 0 v y rfl with q | ⟨j, q, _⟩
  · exact q.toRep h
  · rw [q] at h; exact nomatch h
theorem snoc_rep {vs : List V} {xs : List D} {v : V} {y : D} (l : vs.length = xs.length) (r : ∀ (i : Nat) v d, vs[i]? = some v → xs[i]? = some d → Rep K F v d) (h : Rep K F v y) :
    ∀ (i : Nat) w d, (vs ++ [v])[i]? = some w → (xs ++ [y])[i]? = some d → Rep K F w d := app_rep l rfl r fun i w d h1 h2 => by
  cases i with
  | zero => cases h1; cases h2; exact h
  | succ i => simp at h1
theorem dm_append : DM K W XC pn rAppend mAppend := ⟨fun B ok tm env σ H x v ds vs Q R l r h k => by
  obtain ⟨i, xs, y, rfl, rfl, e, hr, hl, h⟩ := h
  obtain ⟨w, rfl⟩ := len1 l
  obtain ⟨F, U, a, vs, r1, rfl, ha, l1, rp, up⟩ := Rel.chg (ts := [(w, y)]) (ys := []) (ws := []) r e
  obtain ⟨U', r2⟩ := up (vs ++ [w]) (xs ++ [y]) (by simp [l1]) (snoc_rep l1 rp (kids1 r1 hr))
  exact ⟨a, vs, w, rfl, rfl, ha, by omega, k _ _ _ _ h ⟨_, _, r2.push .non⟩⟩⟩
/-- xs.pop() -/
@[simp] def mPop : DMt := fun x ds env Q => ∃ i xs y, x = .ptr i ∧ ds = [] ∧ env[i]? = some (some (.mt xs)) ∧ xs[xs.length - 1]? = some y ∧ Q y (env.set i (some (.mt xs.dropLast)))
/-- xs.pop(k) -/
@[simp] def mPopAt : DMt := fun x ds env Q => ∃ i xs y n k, x = .ptr i ∧ ds = [.int n] ∧ env[i]? = some (some (.mt xs)) ∧ -(2 ^ 63) ≤ n ∧ n < 2 ^ 63 ∧ seqIndex? n xs.length = some k ∧ xs[k]? = some y ∧ Q y (env.set i (some (.mt (xs.eraseIdx k))))
theorem erase_rep {vs : List V} {xs : List D} (k : Nat) (r : ∀ (i : Nat) v d, vs[i]? = some v → xs[i]? = some d → Rep K F v d) : ∀ (i : Nat) w d, (vs.eraseIdx k)[i]? = some w → (xs.eraseIdx k)[i]? = some d → Rep K F w d := fun i w d h1 h2 => by
  rw [List.getElem?_eraseIdx] at h1 h2
  split at h1
  · rename_i h; rw [if_pos h] at h2; exact r _ _ _ h1 h2
  · rename_i h; rw [if_neg h] at h2; exact r _ _ _ h1 h2
theorem dm_popAt : DM K W XC pn rPopAt mPopAt := ⟨fun B ok tm env σ H x v ds vs Q R l r h k => by
  obtain ⟨i, xs, y, n, j, rfl, rfl, e, b1, b2, hj, hy, h⟩ := h
  obtain ⟨w, rfl⟩ := len1 l
  have qw : w = .int n := Rel.int (tm := (v, .ptr i) :: tm) r
  subst qw
  obtain ⟨F, U, a, vs, r1, rfl, ha, l1, rp, up⟩ := Rel.chg (ts := [(.int n, .int n)]) (ys := []) (ws := []) r e
  obtain ⟨U', r2⟩ := up (vs.eraseIdx j) (xs.eraseIdx j) (by rw [List.length_eraseIdx, List.length_eraseIdx, l1]) (erase_rep j rp)
  have hlt : j < vs.length := by rw [l1]; exact (List.getElem?_eq_some_iff.mp hy).1
  exact ⟨a, vs, n, j, vs[j], rfl, rfl, ha, b1, b2, by rw [l1]; exact hj, List.getElem?_eq_getElem hlt, k _ _ _ _ h ⟨_, _, r2.push (rp j _ _ (List.getElem?_eq_getElem hlt) hy)⟩⟩⟩
theorem dm_pop : DM K W XC pn rPop mPop := ⟨fun B ok tm env σ H x v ds vs Q R l r h k => by
  obtain ⟨i, xs, y, rfl, rfl, e, hy, h⟩ := h
  have : vs = [] := List.length_eq_zero_iff.mp l
  subst this
  obtain ⟨F, U, a, vs, r1, rfl, ha, l1, rp, up⟩ := Rel.chg (ts := []) (ys := []) (ws := []) r e
  obtain ⟨U', r2⟩ := up vs.dropLast xs.dropLast (by rw [List.length_dropLast, List.length_dropLast, l1]) (fun i w d h1 h2 => by
    rw [List.getElem?_dropLast] at h1 h2
    split at h1
    · rw [← l1] at h2; rename_i z; rw [if_pos z] at h2; exact rp _ _ _ h1 h2
    · cases h1)
  have hlt : vs.length - 1 < vs.length := by rw [l1]; exact (List.getElem?_eq_some_iff.mp hy).1
  exact ⟨a, vs, vs[vs.length - 1], rfl, rfl, ha, List.getElem?_eq_getElem hlt, k _ _ _ _ h ⟨_, _, r2.push (rp (vs.length - 1) _ _ (List.getElem?_eq_getElem hlt) (by rw [l1]; exact hy))⟩⟩⟩
/-! ### lists of lists of one's own -/
def isP : D → Bool
  | .ptr _ => true
  | _ => false
theorem isP_no {r : D} (h : isP r = false) : ∀ j, r ≠ .ptr j := fun j e => by rw [e] at h; exact nomatch h
theorem Own.deep {F H : Hp} {S : Addr → Prop} {xs : List D} (h : Own K F H v (.mt xs) S) : Own K F H v (.mm xs) S := by
  cases h with
  | frz h => cases h
  | mt ha h l r => exact .mm (fun _ _ => False) ha h l (fun i v d h1 h2 => .frz (r i v d h1 h2)) (fun i b z => z.elim) fun i j b z => z.elim
def deepC : D → Option (List D)
  | .mt xs => some xs
  | .mm xs => some xs
  | _ => none
@[simp] theorem deepC_mt (xs : List D) : deepC (.mt xs) = some xs := rfl
@[simp] theorem deepC_mm (xs : List D) : deepC (.mm xs) = some xs := rfl
theorem Own.mmOf {F H : Hp} {S : Addr → Prop} {xs : List D} (h : Own K F H v d S) (e : deepC d = some xs) : Own K F H v (.mm xs) S := by
  cases d <;> cases e
  · exact h.deep
  · exact h
/-- ys.append(y), y one's own: ys a list of one's own at a slot -/
@[simp] def mAppendM : DMt := fun x ds env Q => ∃ i d xs y, x = .ptr i ∧ ds = [y] ∧ env[i]? = some (some d) ∧ deepC d = some xs ∧ isP y = false ∧ xs.length < sizeLine ∧ Q .non (env.set i (some (.mm (xs ++ [y]))))
def abU (U : Fam) (i : Nat) : Fam
  | .inl j => if j = i then (fun b => U (.inl i) b ∨ U (.inr 0) b) else U (.inl j)
  | .inr j => U (.inr (j + 1))
theorem abU_same {i : Nat} : abU U i (.inl i) = fun b => U (.inl i) b ∨ U (.inr 0) b := if_pos rfl
theorem abU_ne {i j : Nat} (h : j ≠ i) : abU U i (.inl j) = U (.inl j) := if_neg h
/-- what is put by becomes a part of a slot's own -/
theorem RelF.absorb {w : V} {y : D} (R : RelF K B F U env σ ((w, y) :: tm) H) {i : Nat} {a : Addr} {o : HO} {v : V} {d' : D} (hv : σ[i]? = some (some v)) (ha : U (.inl i) a ∨ U (.inr 0) a)
    (h : Own K F (upd H a o) v d' (fun b => U (.inl i) b ∨ U (.inr 0) b)) : RelF K B F (abU U i) (env.set i (some d')) σ tm (upd H a o) := by
  have src : ∀ x b, abU U i x b → (x = .inl i ∧ (U (.inl i) b ∨ U (.inr 0) b)) ∨ ∃ y, U y b ∧ y ≠ .inl i ∧ y ≠ .inr 0 ∧ (match x with | .inl j => y = .inl j ∧ j ≠ i | .inr j => y = .inr (j + 1)) := by
    intro x b u
    rcases x with j | j
    · by_cases hj : j = i
      · subst hj
        rw [abU_same] at u; exact .inl ⟨rfl, u⟩
      · rw [abU_ne hj] at u
        exact .inr ⟨_, u, fun z => hj (by cases z; rfl), (fun z => nomatch z), rfl, hj⟩
    · exact .inr ⟨_, u, (fun z => nomatch z), (fun z => by cases z), rfl⟩
  have apart : ∀ y b, U y b → y ≠ .inl i → y ≠ .inr 0 → b ≠ a := fun y b u n1 n2 z => by
    subst z
    rcases ha with ha | ha
    · exact n1 (R.dis _ _ _ u ha)
    · exact n2 (R.dis _ _ _ u ha)
  have stay : ∀ y, y ≠ .inl i → y ≠ .inr 0 → ∀ b u, U y b → H b = some u → upd H a o b = some u := fun y n1 n2 b u s e => by
    rw [upd_ne (apart y b s n1 n2)]; exact e
  have any : ∀ x b, abU U i x b → ∃ y, U y b := fun x b u => by
    rcases src x b u with ⟨_, u | u⟩ | ⟨y, u, _⟩ <;> exact ⟨_, u⟩
  have hU : ∃ z, U z a := by rcases ha with ha | ha <;> exact ⟨_, ha⟩
  obtain ⟨za, hza⟩ := hU
  refine ⟨by rw [List.length_set]; exact R.len, fun j dj e => ?_, fun j u dj e => ?_, fun x y b u w => ?_, fun x b u => ?_, fun x b u => ?_, fun b u e => ?_, R.base, fun b u e n => ?_, R.new, fun x b u => ?_, R.ownA, R.pin, fun b e => upd_some (R.ther b e)⟩
  · by_cases hj : i = j
    · subst hj
      rw [List.getElem?_set_self'] at e
      cases q : env[i]? with
      | none => rw [q] at e; cases e
      | some z =>
        rw [q] at e
        cases e
        exact ⟨v, hv, by rw [abU_same]; exact h⟩
    · rw [List.getElem?_set_ne hj] at e
      obtain ⟨u, h1, h2⟩ := R.own j dj e
      exact ⟨u, h1, by rw [abU_ne (Ne.symm hj)]; exact h2.stay (Same.refl F) (stay _ (fun z => hj (by cases z; rfl)) fun z => nomatch z)⟩
  · rcases R.tmp (j + 1) u dj e with q | q
    · exact .inl (q.stay (Same.refl F) (stay _ (fun z => nomatch z) fun z => nomatch z))
    · exact .inr q
  · rcases src x b u with ⟨rfl, u1⟩ | ⟨x', u, n1, n2, hx⟩
    · rcases src y b w with ⟨rfl, w⟩ | ⟨y', w, m1, m2, hy⟩
      · rfl
      · rcases u1 with u | u
        · exact absurd (R.dis _ _ _ w u) m1
        · exact absurd (R.dis _ _ _ w u) m2
    · rcases src y b w with ⟨rfl, w1⟩ | ⟨y', w, m1, m2, hy⟩
      · rcases w1 with w | w
        · exact absurd (R.dis _ _ _ u w) n1
        · exact absurd (R.dis _ _ _ u w) n2
      · have e := R.dis _ _ _ u w
        subst e
        rcases x with j | j <;> rcases y with k | k
        · have hx1 := hx.1
          have hy1 := hy.1
          rw [hx1] at hy1; cases hy1; rfl
        · have hx1 := hx.1
          have hy : x' = .inr (k + 1) := hy
          rw [hx1] at hy; cases hy
        · have hy1 := hy.1
          have hx : x' = .inr (j + 1) := hx
          rw [hy1] at hx; cases hx
        · have hx : x' = .inr (j + 1) := hx
          have hy : x' = .inr (k + 1) := hy
          rw [hx] at hy; cases hy; rfl
  · obtain ⟨y, u⟩ := any x b u; exact R.nof y b u
  · obtain ⟨y, u⟩ := any x b u; exact upd_some (R.liv y b u)
  · rw [upd_ne (fun z => by have := R.nof _ a hza; rw [z, this] at e; cases e)]
    exact R.sub b u e
  · have q := R.keep b u e n
    rw [upd_ne (fun z => by
      rcases R.usr _ a hza with h | ⟨k, _, h⟩
      · rw [z, h] at e; cases e
      · exact n k (by rw [z]; exact h))]
    exact q
  · rcases src x b u with ⟨rfl, u | u⟩ | ⟨y, u, n1, n2, hx⟩
    · exact R.usr _ b u
    · rcases R.usr _ b u with h | ⟨_, e, _⟩
      · exact .inl h
      · cases e
    · rcases R.usr y b u with h | ⟨k, e, h⟩
      · exact .inl h
      · rcases x with j | j
        · have hx1 := hx.1
          rw [hx1] at e; cases e; exact .inr ⟨_, rfl, h⟩
        · have hx : y = .inr (j + 1) := hx
          rw [hx] at e; cases e
theorem dm_appendM : DM K W XC pn rAppend mAppendM := ⟨fun B ok tm env σ H x v ds vs Q R l r h k => by
  obtain ⟨i, d, xs, y, rfl, rfl, e, dc, hp, hl, h⟩ := h
  obtain ⟨w, rfl⟩ := len1 l
  obtain ⟨F, U, r⟩ := r
  have r : RelF K B F U env σ ((w, y) :: (v, .ptr i) :: tm) H := r
  have hv : σ[i]? = some (some v) := by
    rcases r.tmp 1 v (.ptr i) rfl with q | ⟨j, q, q2⟩
    · cases q with | frz q => cases q
    · cases q; exact q2
  obtain ⟨u, h1, h2⟩ := r.own i d e
  rw [hv] at h1; cases h1
  have oy : Own K F H w y (U (.inr 0)) := by
    rcases r.tmp 0 w y rfl with q | ⟨j, q, _⟩
    · exact q
    · exact absurd q (isP_no hp j)
  cases h2.mmOf dc with
  | frz q => cases q
  | @mm a vs _ _ Sc ha hH l1 rc sub dis =>
    have na : ∀ b, U (.inr 0) b → b ≠ a := fun b u z => by
      subst z
      have := r.dis _ _ _ u ha
      cases this
    have R2 := r.absorb (o := .lst (vs ++ [w])) (d' := .mm (xs ++ [y])) hv (.inl ha) (.mm (fun k b => (k < xs.length ∧ Sc k b) ∨ (k = xs.length ∧ U (.inr 0) b)) (.inl ha) upd_same (by simp [l1]) (fun k z dz e1 e2 => by
      by_cases hk : k < xs.length
      · rw [List.getElem?_append_left (by omega)] at e1
        rw [List.getElem?_append_left hk] at e2
        exact ((rc k z dz e1 e2).stay (Same.refl F) fun b o s q => by rw [upd_ne (sub k b s).2]; exact q).wide fun b s => .inl ⟨hk, s⟩
      · have hk2 : k = xs.length := by
          have := (List.getElem?_eq_some_iff.mp e2).1
          simp at this; omega
        subst hk2
        rw [List.getElem?_append_right (Nat.le_refl _), Nat.sub_self] at e2
        rw [List.getElem?_append_right (by omega), l1, Nat.sub_self] at e1
        cases e1; cases e2
        exact (oy.stay (Same.refl F) fun b o s q => by rw [upd_ne (na b s)]; exact q).wide fun b s => .inr ⟨rfl, s⟩) (fun k b s => by
      rcases s with ⟨_, s⟩ | ⟨_, s⟩
      · exact ⟨.inl (sub k b s).1, (sub k b s).2⟩
      · exact ⟨.inr s, na b s⟩) fun p q b s t => by
      rcases s with ⟨s1, s⟩ | ⟨s1, s⟩ <;> rcases t with ⟨t1, t⟩ | ⟨t1, t⟩
      · exact dis p q b s t
      · have := r.dis _ _ _ ((sub p b s).1) t; cases this
      · have := r.dis _ _ _ ((sub q b t).1) s; cases this
      · omega)
    exact ⟨a, vs, w, rfl, rfl, hH, by omega, k _ _ _ _ h (Rel.val (Rel.pop ⟨_, _, R2⟩) fun F => .non)⟩⟩
/-- xs[k].append(e), the lists of one's own -/
@[simp] def dAppAt (i : Nat) (dk de : DTE) : DTE := fun env Q => ∃ d0, env[i]? = some (some d0) ∧ dk env fun y e1 => ∃ k xs j ys, y = .int k ∧ e1[i]? = some (some (.mm xs)) ∧ ixN xs.length k = some j ∧ xs[j]? = some (.mt ys) ∧
  ∀ a, de (e1.set i (some (.mm (xs.set j (.at a))))) fun z e2 => ∃ xs2, e2[i]? = some (some (.mm xs2)) ∧ xs2[j]? = some (.at a) ∧ isR z = true ∧ ys.length < sizeLine ∧ Q .non (e2.set i (some (.mm (xs2.set j (.mt (ys ++ [z]))))))
theorem Own.isAt {F H : Hp} {S : Addr → Prop} {b : Addr} (h : Own K F H v (.at b) S) : v = .ref b := by
  cases h with
  | frz h => cases h; rfl
def splU (U : Fam) (i : Nat) (T : Addr → Prop) : Fam
  | .inl j => if j = i then (fun b => U (.inl i) b ∧ ¬ T b) else U (.inl j)
  | .inr 0 => T
  | .inr (j + 1) => U (.inr j)
theorem splU_same {i : Nat} {T : Addr → Prop} : splU U i T (.inl i) = fun b => U (.inl i) b ∧ ¬ T b := if_pos rfl
theorem splU_ne {i j : Nat} {T : Addr → Prop} (h : j ≠ i) : splU U i T (.inl j) = U (.inl j) := if_neg h
/-- a part of a slot's own is put by -/
theorem RelF.split (R : RelF K B F U env σ tm H) {i : Nat} {v w : V} {y d' : D} {T : Addr → Prop} (hv : σ[i]? = some (some v)) (hT : ∀ b, T b → U (.inl i) b) (hn : ∀ b, T b → B.H b = none) (h : Own K F H v d' (fun b => U (.inl i) b ∧ ¬ T b)) (hw : Own K F H w y T) :
    RelF K B F (splU U i T) (env.set i (some d')) σ ((w, y) :: tm) H := by
  have src : ∀ x b, splU U i T x b → ∃ y, U y b ∧ (match x with | .inl j => y = .inl j ∧ (j = i → ¬ T b) | .inr 0 => y = .inl i ∧ T b | .inr (j + 1) => y = .inr j) := by
    intro x b u
    rcases x with j | j
    · by_cases hj : j = i
      · subst hj
        rw [splU_same] at u; exact ⟨_, u.1, rfl, fun _ => u.2⟩
      · rw [splU_ne hj] at u; exact ⟨_, u, rfl, fun z => absurd z hj⟩
    · cases j with
      | zero => exact ⟨_, hT b u, rfl, u⟩
      | succ j => exact ⟨_, u, rfl⟩
  refine ⟨by rw [List.length_set]; exact R.len, fun j dj e => ?_, fun j u dj e => ?_, fun x z b u w => ?_, fun x b u => ?_, fun x b u => ?_, R.sub, R.base, R.keep, R.new, fun x b u => ?_, R.ownA, R.pin, R.ther⟩
  · by_cases hj : i = j
    · subst hj
      rw [List.getElem?_set_self'] at e
      cases q : env[i]? with
      | none => rw [q] at e; cases e
      | some z =>
        rw [q] at e
        cases e
        exact ⟨v, hv, by rw [splU_same]; exact h⟩
    · rw [List.getElem?_set_ne hj] at e
      obtain ⟨u, h1, h2⟩ := R.own j dj e
      exact ⟨u, h1, by rw [splU_ne (Ne.symm hj)]; exact h2⟩
  · cases j with
    | zero => cases e; exact .inl hw
    | succ j => exact R.tmp j u dj e
  · obtain ⟨x', u', hx⟩ := src x b u
    obtain ⟨z', w', hz⟩ := src z b w
    have e := R.dis _ _ _ u' w'
    subst e
    rcases x with j | j <;> rcases z with k | k
    · have h1 := hx.1; have h2 := hz.1
      rw [h1] at h2; cases h2; rfl
    · cases k with
      | zero =>
        have h1 := hx.1; have hz : x' = .inl i ∧ T b := hz
        rw [h1] at hz; cases hz.1; exact absurd hz.2 (hx.2 rfl)
      | succ k =>
        have h1 := hx.1; have hz : x' = .inr k := hz
        rw [h1] at hz; cases hz
    · cases j with
      | zero =>
        have h1 := hz.1; have hx : x' = .inl i ∧ T b := hx
        rw [h1] at hx; cases hx.1; exact absurd hx.2 (hz.2 rfl)
      | succ j =>
        have h1 := hz.1; have hx : x' = .inr j := hx
        rw [h1] at hx; cases hx
    · cases j with
      | zero =>
        cases k with
        | zero => rfl
        | succ k =>
          have hx : x' = .inl i ∧ T b := hx
          have hz : x' = .inr k := hz
          rw [hz] at hx; cases hx.1
      | succ j =>
        cases k with
        | zero =>
          have hz : x' = .inl i ∧ T b := hz
          have hx : x' = .inr j := hx
          rw [hx] at hz; cases hz.1
        | succ k =>
          have hx : x' = .inr j := hx
          have hz : x' = .inr k := hz
          rw [hx] at hz; cases hz; rfl
  · obtain ⟨y, u, _⟩ := src x b u; exact R.nof y b u
  · obtain ⟨y, u, _⟩ := src x b u; exact R.liv y b u
  · obtain ⟨y, u', hx⟩ := src x b u
    rcases x with j | j
    · rw [hx.1] at u'; exact R.usr _ b u'
    · cases j with
      | zero => exact .inl (hn b u)
      | succ j =>
        have hx : y = .inr j := hx
        rw [hx] at u'
        rcases R.usr _ b u' with h | ⟨_, e, _⟩
        · exact .inl h
        · cases e
theorem de_appAt {i : Nat} {tk te : TE} {dk de : DTE} (hi : pn.contains i = false) (hk : DE K W XC pn tk dk) (he : DE K W XC pn te de) : DE K W XC pn (tBM K "list" rAppend (tOp (rIxL K) (tVar i) tk) (tCons te tNil)) (dAppAt i dk de) := ⟨fun B ok tm env σ H Q R r h kk => by
  obtain ⟨d0, e0, h⟩ := h
  have hv : ∃ v, σ[i]? = some (some v) := by
    obtain ⟨F, U, r⟩ := r
    obtain ⟨v, h1, _⟩ := r.own i d0 e0
    exact ⟨v, h1⟩
  obtain ⟨v, hv⟩ := hv
  refine ⟨v, hv, hk.run B ok tm env σ H _ _ r h fun y e1 u H1 q r1 => ?_⟩
  obtain ⟨k, xs, j, ys, rfl, e2, e3, e4, q⟩ := q
  have qu := r1.int
  subst qu
  obtain ⟨F, U, r2⟩ := r1.pop
  obtain ⟨v', g1, g2⟩ := r2.own i _ e2
  rw [hv] at g1; cases g1
  have nown : i ∉ B.own := fun z => by
    have q1 := ok.own i z
    have q2 : i ∉ pn := by simpa using hi
    exact q2 q1
  cases g2 with
  | frz q => cases q
  | @mm a vs _ _ Sc ha hH l1 rc sub dis =>
    have hjx : j < xs.length := (List.getElem?_eq_some_iff.mp e4).1
    have hjv : vs[j]? = some vs[j] := List.getElem?_eq_getElem (by omega)
    have oc := rc j _ _ hjv e4
    cases hw : vs[j] with
    | ref b =>
      rw [hw] at oc hjv
      have ocb : Sc j b ∧ ∃ ws, H1 b = some (.lst ws) := by
        cases oc with
        | frz q => cases q
        | mt hb h1 => exact ⟨hb, _, h1⟩
      obtain ⟨hb, ws, hbl⟩ := ocb
      refine ⟨a, vs, k, .ref b, rfl, rfl, .of hH, ?_, .inl ⟨rfl, ws, .of hbl⟩, ?_⟩
      · unfold atI
        rw [l1, e3]
        exact hjv
      · have hn : ∀ c, Sc j c → B.H c = none := fun c s => by
          rcases r2.usr _ c (sub j c s).1 with z | ⟨p, e, z⟩
          · exact z
          · cases e; exact absurd (r2.ownA _ _ z) nown
        have R3 := r2.split (T := Sc j) (d' := .mm (xs.set j (.at b))) hv (fun c s => (sub j c s).1) hn (.mm (fun p c => p ≠ j ∧ Sc p c) ⟨ha, fun s => (sub j a s).2 rfl⟩ hH (by simp [l1]) (fun p z dz z1 z2 => by
          by_cases hp : j = p
          · subst hp
            rw [List.getElem?_set_self hjx] at z2
            rw [hjv] at z1
            cases z1; cases z2
            exact .frz (.at b)
          · rw [List.getElem?_set_ne hp] at z2
            exact (rc p z dz z1 z2).wide fun c s => ⟨Ne.symm hp, s⟩) (fun p c s => ⟨⟨(sub p c s.2).1, fun t => s.1 (dis p j c s.2 t)⟩, (sub p c s.2).2⟩) fun p p' c s t => dis p p' c s.2 t.2) oc
        refine he.run B ok _ _ σ H1 _ _ ⟨_, _, R3⟩ (q b) fun z e5 u2 H2 q2 r4 => ?_
        obtain ⟨xs2, e6, e7, e8, e9, q3⟩ := q2
        obtain ⟨F2, U2, r4⟩ := r4
        have rz := kids1 r4 e8
        have r5 := r4.re ((V.ref b, D.mt ys) :: tm) (· + 1) (fun i j e => Nat.succ.inj e) fun i x e => e
        obtain ⟨v'', g3, g4⟩ := r5.own i _ e6
        rw [hv] at g3; cases g3
        rcases r5.tmp 0 _ _ rfl with o | ⟨p, o, _⟩
        · cases o with
          | frz o => cases o
          | @mt _ ws2 _ _ hb2 hbl2 l2 rw2 =>
            refine ⟨b, ws2, u2, rfl, rfl, hbl2, by omega, ?_⟩
            cases g4 with
            | frz o => cases o
            | @mm a2 vs2 _ _ Sc2 ha2 hH2 l3 rc2 sub2 dis2 =>
              have hj2 : j < xs2.length := (List.getElem?_eq_some_iff.mp e7).1
              obtain ⟨vj, hjv2⟩ : ∃ x, vs2[j]? = some x := ⟨_, List.getElem?_eq_getElem (by omega)⟩
              have eb := (rc2 j _ _ hjv2 e7).isAt
              subst eb
              have nab : a ≠ b := fun z => by
                subst z
                have := r5.dis (.inl i) (.inr 0) _ ha2 hb2
                cases this
              have apart : ∀ p c, Sc2 p c → c ≠ b := fun p c s z => by
                subst z
                have := r5.dis (.inl i) (.inr 0) _ (sub2 p c s).1 hb2
                cases this
              have R6 := r5.absorb (o := .lst (ws2 ++ [u2])) (d' := .mm (xs2.set j (.mt (ys ++ [z])))) hv (.inr hb2) (.mm (fun p c => (p ≠ j ∧ Sc2 p c) ∨ (p = j ∧ c = b)) (.inl ha2) (by rw [upd_ne nab]; exact hH2) (by simp [l3]) (fun p y dz z1 z2 => by
                by_cases hp : j = p
                · subst hp
                  rw [List.getElem?_set_self hj2] at z2
                  rw [hjv2] at z1
                  cases z1; cases z2
                  exact .mt (.inr ⟨rfl, rfl⟩) upd_same (by simp [l2]) (snoc_rep l2 rw2 rz)
                · rw [List.getElem?_set_ne hp] at z2
                  exact ((rc2 p y dz z1 z2).stay (Same.refl F2) fun c o s q => by rw [upd_ne (apart p c s)]; exact q).wide fun c s => .inl ⟨Ne.symm hp, s⟩) (fun p c s => by
                rcases s with ⟨_, s⟩ | ⟨_, rfl⟩
                · exact ⟨.inl (sub2 p c s).1, (sub2 p c s).2⟩
                · exact ⟨.inr hb2, nab.symm⟩) fun p p' c s t => by
                rcases s with ⟨s1, s⟩ | ⟨s1, s⟩ <;> rcases t with ⟨t1, t⟩ | ⟨t1, t⟩
                · exact dis2 p p' c s t
                · exact absurd t (apart p c s)
                · exact absurd s (apart p' c t)
                · omega)
              exact kk _ _ _ _ q3 (Rel.val ⟨_, _, R6⟩ fun F => .non)
        · cases o
    | _ =>
      rw [hw] at oc
      cases oc with
      | frz q => cases q⟩
end
end DL

/-! ## DLg.lean -/
namespace DL
open PySem PySem.Spec PyProof.Rows L2
open Dat (toD)
section
variable {K : Frag} {W : WX} {XC : DX} {B : Base} {env : Env} {σ : L2.St} {tm : List (V × D)} {H : Hp} {v : V} {x d : D} {pn : List Nat} {F : Hp} {U : Fam}
/-! ### statements -/
@[simp] def dNext : DTS := fun D env => D.nx env
@[simp] def dSeq (t u : DTS) : DTS := fun D env => t { D with nx := u D } env
@[simp] def dDrop (da : DTE) : DTS := fun D env => da env fun _ e => D.nx e
@[simp] def dRet (da : DTE) : DTS := fun D env => da env fun x e => D.rt x e
@[simp] def dRetN : DTS := fun D env => D.rt .non env
@[simp] def dIfS (c : DTT) (t u : DTS) : DTS := fun D env => c env fun b e => if b = true then t D e else u D e
@[simp] def dBreak : DTS := fun D env => D.bk env
@[simp] def dCont : DTS := fun D env => D.ct env
@[simp] def dNever : DTS := fun _ _ => False
theorem ds_next : DS K W XC pn tNext dNext := ⟨fun B ok tm np env σ H D E R s h => s.nx _ _ _ R h⟩
theorem ds_seq {t u : TS} {da db : DTS} (ha : DS K W XC pn t da) (hb : DS K W XC pn u db) : DS K W XC pn (tSeq t u) (dSeq da db) := ⟨fun B ok tm np env σ H D E R s h =>
  ha.run B ok tm np env σ H { D with nx := db D } { E with nx := u E } R ⟨fun e s' H' R' h' => hb.run B ok tm np e s' H' D E R' s h', s.rt, s.bk, s.ct⟩ h⟩
theorem ds_drop {t : TE} {da : DTE} (ha : DE K W XC pn t da) : DS K W XC pn (tDrop t) (dDrop da) := ⟨fun B ok tm np env σ H D E R s h => ha.run B ok tm env σ H _ _ R h fun x e v H1 q r1 => s.nx _ _ _ r1.pop q⟩
theorem ds_ret {t : TE} {da : DTE} (ha : DE K W XC pn t da) : DS K W XC pn (tRet t) (dRet da) := ⟨fun B ok tm np env σ H D E R s h => ha.run B ok tm env σ H _ _ R h fun x e v H1 q r1 => s.rt _ _ _ _ _ r1 q⟩
theorem ds_retN : DS K W XC pn tRetN dRetN := ⟨fun B ok tm np env σ H D E R s h => s.rt .non .non env σ H (R.val fun F => .non) h⟩
theorem ds_if {c : TT} {t u : TS} {dc : DTT} {da db : DTS} (hc : DT K W XC pn c dc) (ha : DS K W XC pn t da) (hb : DS K W XC pn u db) : DS K W XC pn (tIfS c t u) (dIfS dc da db) := ⟨fun B ok tm np env σ H D E R s h => hc.run B ok tm env σ H _ _ R h fun b e H1 q r1 => by
  cases b with
  | true =>
    rw [if_pos rfl] at q ⊢
    exact ha.run B ok tm np e σ H1 D E r1 s q
  | false =>
    rw [if_neg Bool.false_ne_true] at q ⊢
    exact hb.run B ok tm np e σ H1 D E r1 s q⟩
theorem ds_break : DS K W XC pn tBreak dBreak := ⟨fun B ok tm np env σ H D E R s h => s.bk _ _ _ R h⟩
theorem ds_cont : DS K W XC pn tCont dCont := ⟨fun B ok tm np env σ H D E R s h => s.ct _ _ _ R h⟩
theorem ds_never : DS K W XC pn tNever dNever := ⟨fun B ok tm np env σ H D E R s h => h.elim⟩
theorem bok_pin (ok : Bok K W XC pn B) {i : Nat} (h : pn.contains i = false) : (∀ p ∈ B.pins, p.1 ≠ i) ∧ i ∉ B.own := by
  have n : i ∉ pn := by simpa using h
  exact ⟨fun p hp e => n (e ▸ ok.pin p hp), fun z => n (ok.own i z)⟩
@[simp] def gN (pn : List Nat) (i : Nat) : DTG := fun r env Q => isP r = false ∧ pn.contains i = false ∧ Q (env.set i (some r))
theorem dg_name (i : Nat) : DG K W XC pn [i] (gName i) (gN pn i) := ⟨fun B ok tm np env σ H v r Q R r1 ⟨h1, h2, h3⟩ k => by
  obtain ⟨F, U, r1⟩ := r1
  obtain ⟨z1, z2⟩ := bok_pin ok h2
  exact k _ _ _ h3 ⟨_, _, r1.store i z1 z2 (isP_no h1) np⟩ (fun j hj => List.getElem?_set_ne fun e => hj (by simp [e])) (List.length_set ..)⟩
@[simp] def dAsg (da : DTE) (g : DTG) : DTS := fun D env => da env fun x e => g x e D.nx
theorem ds_asg {ws : List Nat} {t : TE} {g : TG} {da : DTE} {dg : DTG} (ha : DE K W XC pn t da) (hg : DG K W XC pn ws g dg) : DS K W XC pn (tAsg t g) (dAsg da dg) := ⟨fun B ok tm np env σ H D E R s h => ha.run B ok tm env σ H _ _ R h fun x e v H1 q r1 =>
  hg.run B ok tm np e σ H1 v x _ _ r1 q fun e' σ' H' q' r' _ _ => s.nx _ _ _ r' q'⟩
/-- x += e -/
@[simp] def dAug (pn : List Nat) (i : Nat) (o : DOp) (da : DTE) : DTS := fun D env => ∃ d, env[i]? = some (some d) ∧ isR d = true ∧ da env fun y e => o d y e fun z => isP z = false ∧ pn.contains i = false ∧ D.nx (e.set i (some z))
theorem ds_aug {t : TE} {ti : TIp} {i : Nat} {o : DOp} {da : DTE} (ha : DE K W XC pn t da) (ho : DO K ti o) : DS K W XC pn (tAug i t ti) (dAug pn i o da) := ⟨fun B ok tm np env σ H D E R s h => by
  obtain ⟨d, e, hr, h⟩ := h
  obtain ⟨F, U, R⟩ := R
  obtain ⟨v, h1, h2⟩ := R.own i d e
  have R1 : Rel K B env σ ((v, d) :: tm) H := ⟨F, _, R.push (h2.toRep hr)⟩
  refine ⟨v, h1, ha.run B ok _ env σ H _ _ R1 h fun y e1 u H1 q r1 => ho.run B tm e1 σ H1 d y v u _ _ r1 q fun z w H2 ⟨q1, q2, q3⟩ r2 => ?_⟩
  obtain ⟨F, U, r2⟩ := r2
  obtain ⟨z1, z2⟩ := bok_pin ok q2
  exact s.nx _ _ _ ⟨_, _, r2.store i z1 z2 (isP_no q1) np⟩ q3⟩
/-! ### targets -/
abbrev DTGs := List D → Env → (Env → Prop) → Prop
structure DGs (K : Frag) (W : WX) (XC : DX) (pn ws : List Nat) (t : TGs) (d : DTGs) : Prop where
  run : ∀ (B : Base), Bok K W XC pn B → ∀ (tm : List (V × D)), NoPtr tm → ∀ (env : Env) (σ : L2.St) (H : Hp) (vs : List V) (rs : List D) (Q : L2.St → Hp → Prop) (R : Env → Prop), vs.length = rs.length → (∀ d ∈ rs, isP d = false) → Rel K B env σ (vs.zip rs ++ tm) H →
    d rs env R → (∀ env' σ' H', R env' → Rel K B env' σ' tm H' → (∀ i, i ∉ ws → σ'[i]? = σ[i]?) → σ'.length = σ.length → Q σ' H') → t vs σ H Q
@[simp] def gsNil : DTGs := fun rs env Q => rs = [] ∧ Q env
def gsCons (g : DTG) (gs : DTGs) : DTGs := fun rs env Q => match rs with | r :: l => g r env fun e => gs l e Q | [] => False
@[simp] theorem gsCons_cons (g : DTG) (gs : DTGs) (r : D) (l : List D) (env : Env) (Q : Env → Prop) : gsCons g gs (r :: l) env Q = g r env fun e => gs l e Q := rfl
@[simp] theorem conj3 {a b c : Prop} : ((a ∧ b) ∧ c) ↔ (a ∧ b ∧ c) := and_assoc
theorem dgs_nil : DGs K W XC pn [] gNil gsNil := ⟨fun B ok tm np env σ H vs rs Q R l a r ⟨h1, h2⟩ k => by
  subst h1
  have : vs = [] := List.length_eq_zero_iff.mp l
  subst this
  exact ⟨rfl, k _ _ _ h2 r (fun i _ => rfl) rfl⟩⟩
theorem noPtr_zip {vs : List V} {rs : List D} (a : ∀ d ∈ rs, isP d = false) (np : NoPtr tm) : NoPtr (vs.zip rs ++ tm) := fun v j h => by
  rcases List.mem_append.mp h with h | h
  · have := a _ (List.of_mem_zip h).2
    exact nomatch this
  · exact np v j h
theorem dgs_cons {w1 w2 : List Nat} {t : TG} {u : TGs} {g : DTG} {gs : DTGs} (h1 : DG K W XC pn w1 t g) (h2 : DGs K W XC pn w2 u gs) : DGs K W XC pn (w1 ++ w2) (gCons t u) (gsCons g gs) := ⟨fun B ok tm np env σ H vs rs Q R l a r h k => by
  match rs, vs, l, h with
  | [], _, _, h => exact h.elim
  | x :: l', v :: vs, l, h =>
    have h : g x env (fun e => gs l' e R) := h
    have a : isP x = false ∧ ∀ d ∈ l', isP d = false := ⟨a x (List.mem_cons_self ..), fun d hd => a d (List.mem_cons_of_mem _ hd)⟩
    exact ⟨v, vs, rfl, h1.run B ok _ (noPtr_zip a.2 np) env σ H v x _ _ r h fun e' σ' H' q r' s z => h2.run B ok tm np e' σ' H' vs l' _ _ (Nat.succ.inj l) a.2 r' q fun e2 σ2 H2 q2 r2 s2 z2 =>
      k _ _ _ q2 r2 (fun i hi => (s2 i fun z => hi (List.mem_append_right _ z)).trans (s i fun z => hi (List.mem_append_left _ z))) (z2.trans z)⟩⟩
@[simp] def gT (n : Nat) (gs : DTGs) : DTG := fun r env Q => ∃ ds, r = .tup ds ∧ ds.length = n ∧ gs ds env Q
theorem RelF.pushAll (R : RelF K B F U env σ tm H) : ∀ (vs : List V) (ds : List D), vs.length = ds.length → (∀ (i : Nat) v d, vs[i]? = some v → ds[i]? = some d → Rep K F v d) → ∃ U', RelF K B F U' env σ (vs.zip ds ++ tm) H
  | [], [], _, _ => ⟨_, R⟩
  | v :: vs, d :: ds, l, r => by
    obtain ⟨U', R'⟩ := RelF.pushAll R vs ds (Nat.succ.inj l) fun i v d h1 h2 => r (i + 1) v d h1 h2
    exact ⟨_, R'.push (r 0 v d rfl rfl)⟩
theorem all_isR {vs : List V} {ds : List D} (l : vs.length = ds.length) (r : ∀ (i : Nat) v d, vs[i]? = some v → ds[i]? = some d → Rep K F v d) : ds.all isR = true := List.all_eq_true.mpr fun d hd => by
  obtain ⟨i, hi⟩ := List.mem_iff_getElem?.mp hd
  have hlt : i < vs.length := by rw [l]; exact (List.getElem?_eq_some_iff.mp hi).1
  exact (r i _ d (List.getElem?_eq_getElem hlt) hi).isR
theorem dg_tup {n : Nat} {ws : List Nat} {u : TGs} {gs : DTGs} (h : DGs K W XC pn ws u gs) : DG K W XC pn ws (gTup K n u) (gT n gs) := ⟨fun B ok tm np env σ H v r Q R r1 ⟨ds, e, hl, h'⟩ k => by
  subst e
  obtain ⟨F, U, S, r2, o, sub⟩ := r1.look1 (d := .tup ds) rfl
  obtain ⟨a, vs, rfl, hs, l, rp⟩ := o.tuple sub rfl
  obtain ⟨U', r3⟩ := r2.pushAll vs ds l rp
  exact ⟨a, vs, rfl, hs, by omega, h.run B ok tm np env σ H vs ds _ _ l (fun d hd => by have := List.all_eq_true.mp (all_isR l rp) d hd; cases d <;> first | rfl | exact nomatch this) ⟨_, _, r3⟩ h' k⟩⟩
/-- xs[i] = e -/
@[simp] def gSetL (dx di : DTE) : DTG := fun r env Q => dx env fun x e1 => di e1 fun y e2 => ∃ i xs k j, x = .ptr i ∧ y = .int k ∧ e2[i]? = some (some (.mt xs)) ∧ ixN xs.length k = some j ∧ isR r = true ∧ Q (e2.set i (some (.mt (xs.set j r))))
theorem set_rep {vs : List V} {xs : List D} {v : V} {y : D} (j : Nat) (l : vs.length = xs.length) (r : ∀ (i : Nat) v d, vs[i]? = some v → xs[i]? = some d → Rep K F v d) (h : Rep K F v y) :
    ∀ (i : Nat) w d, (vs.set j v)[i]? = some w → (xs.set j y)[i]? = some d → Rep K F w d := fun i w d h1 h2 => by
  by_cases e : j = i
  · subst e
    by_cases hj : j < vs.length
    · rw [List.getElem?_set_self hj] at h1
      rw [List.getElem?_set_self (by omega)] at h2
      cases h1; cases h2; exact h
    · rw [List.getElem?_eq_none (by rw [List.length_set]; omega)] at h1
      cases h1
  · rw [List.getElem?_set_ne e] at h1 h2
    exact r i w d h1 h2
theorem dg_setL {to ti : TE} {dx di : DTE} (hx : DE K W XC pn to dx) (hi : DE K W XC pn ti di) : DG K W XC pn [] (gSub to ti rSetL) (gSetL dx di) := ⟨fun B ok tm np env σ H v r Q R r1 h k =>
  hx.run B ok _ env σ H _ _ r1 h fun x e1 w H1 q1 r2 => hi.run B ok _ e1 σ H1 _ _ r2 q1 fun y e2 u H2 ⟨i, xs, n, j, e3, e4, e5, e6, e7, q2⟩ r3 => by
    subst e3 e4
    have qu := r3.int
    subst qu
    obtain ⟨F, U, a, vs, r4, rfl, ha, l1, rp, up⟩ := Rel.chg (ts := [(.int n, .int n)]) (tm := (v, r) :: tm) (ys := []) (ws := []) r3 e5
    have r4' := (r4.re ((v, r) :: tm) (· + 2) (fun i j e => Nat.add_right_cancel e) fun i x e => e)
    have rr := kids1 r4' e7
    obtain ⟨U', r5⟩ := up (vs.set j v) (xs.set j r) (by simp [l1]) (set_rep j l1 rp rr)
    exact ⟨a, vs, n, j, rfl, rfl, ha, by rw [l1]; exact e6, k _ _ _ q2 (Rel.pop ⟨_, _, r5⟩) (fun i _ => rfl) rfl⟩⟩
/-- a slot's own is moved out -/
@[simp] def dMove (pn : List Nat) (i : Nat) : DTE := fun env Q => ∃ d, env[i]? = some (some d) ∧ pn.contains i = false ∧ Q d (env.set i none)
def mvU (U : Fam) (i : Nat) : Fam
  | .inl j => if j = i then fun _ => False else U (.inl j)
  | .inr 0 => U (.inl i)
  | .inr (j + 1) => U (.inr j)
theorem mvU_same {i : Nat} : mvU U i (.inl i) = fun _ => False := if_pos rfl
theorem mvU_ne {i j : Nat} (h : j ≠ i) : mvU U i (.inl j) = U (.inl j) := if_neg h
theorem RelF.move (R : RelF K B F U env σ tm H) {i : Nat} {v : V} (hi : i ∉ B.own) (e : env[i]? = some (some d)) (hv : σ[i]? = some (some v)) : RelF K B F (mvU U i) (env.set i none) σ ((v, d) :: tm) H := by
  have back : ∀ x a, mvU U i x a → ∃ y, U y a ∧ (match x with | .inl j => y = .inl j ∧ j ≠ i | .inr 0 => y = .inl i | .inr (j + 1) => y = .inr j) := by
    intro x a u
    rcases x with j | j
    · by_cases h : j = i
      · rw [h, mvU_same] at u; exact u.elim
      · rw [mvU_ne h] at u; exact ⟨_, u, rfl, h⟩
    · cases j with
      | zero => exact ⟨_, u, rfl⟩
      | succ j => exact ⟨_, u, rfl⟩
  refine ⟨by rw [List.length_set]; exact R.len, fun j d' e' => ?_, fun j w d' e' => ?_, fun x y a u w => ?_, fun x a u => ?_, fun x a u => ?_, R.sub, R.base, R.keep, R.new, fun x a u => ?_, R.ownA, R.pin, R.ther⟩
  · by_cases h : i = j
    · subst h
      rw [List.getElem?_set_self'] at e'
      rw [e] at e'; cases e'
    · rw [List.getElem?_set_ne h] at e'
      obtain ⟨w, h1, h2⟩ := R.own j d' e'
      exact ⟨w, h1, by rw [mvU_ne (Ne.symm h)]; exact h2⟩
  · cases j with
    | zero =>
      cases e'
      obtain ⟨w, h1, h2⟩ := R.own i d e
      rw [hv] at h1; cases h1
      exact .inl h2
    | succ j => exact R.tmp j w d' e'
  · obtain ⟨x', u', hx⟩ := back x a u
    obtain ⟨y', w', hy⟩ := back y a w
    have q := R.dis x' y' a u' w'
    subst q
    rcases x with j | j <;> rcases y with k | k
    · rw [hx.1] at hy; have := hy.1; cases this; rfl
    · cases k with
      | zero =>
        have hy : x' = .inl i := hy
        rw [hx.1] at hy; cases hy; exact absurd rfl hx.2
      | succ k =>
        have hy : x' = .inr k := hy
        rw [hx.1] at hy; cases hy
    · cases j with
      | zero =>
        have hx : x' = .inl i := hx
        rw [hy.1] at hx; cases hx; exact absurd rfl hy.2
      | succ j =>
        have hx : x' = .inr j := hx
        rw [hy.1] at hx; cases hx
    · cases j with
      | zero =>
        cases k with
        | zero => rfl
        | succ k =>
          have hx : x' = .inl i := hx
          have hy : x' = .inr k := hy
          rw [hx] at hy; cases hy
      | succ j =>
        cases k with
        | zero =>
          have hx : x' = .inr j := hx
          have hy : x' = .inl i := hy
          rw [hx] at hy; cases hy
        | succ k =>
          have hx : x' = .inr j := hx
          have hy : x' = .inr k := hy
          rw [hx] at hy; cases hy; rfl
  · obtain ⟨y, u', _⟩ := back x a u; exact R.nof y a u'
  · obtain ⟨y, u', _⟩ := back x a u; exact R.liv y a u'
  · obtain ⟨y, u', hx⟩ := back x a u
    rcases R.usr y a u' with h | ⟨k, q, h⟩
    · exact .inl h
    · rcases x with j | j
      · rw [hx.1] at q; cases q; exact .inr ⟨_, rfl, h⟩
      · cases j with
        | zero =>
          have hx : y = .inl i := hx
          rw [hx] at q; cases q
          exact absurd (R.ownA _ _ h) hi
        | succ j =>
          have hx : y = .inr j := hx
          rw [hx] at q; cases q
theorem de_move (i : Nat) : DE K W XC pn (tVar i) (dMove pn i) := ⟨fun B ok tm env σ H Q R r ⟨d, e, hp, h⟩ k => by
  obtain ⟨F, U, r⟩ := r
  obtain ⟨v, h1, h2⟩ := r.own i d e
  exact ⟨v, h1, k _ _ _ _ h ⟨_, _, r.move (bok_pin ok hp).2 e h1⟩⟩⟩
/-! ### while -/
def dWhile (c : DTT) (tb : DTS) : DTS := fun D env => ∃ I : Nat → Env → Prop, (∃ m, I m env) ∧ ∀ m env, I m env → c env fun b e => if b = true then tb { D with nx := fun e => ∃ m', m' < m ∧ I m' e, ct := fun e => ∃ m', m' < m ∧ I m' e, bk := D.nx } e else D.nx e
theorem ds_while {c : TT} {tb : TS} {dc : DTT} {db : DTS} (hc : DT K W XC pn c dc) (hb : DS K W XC pn tb db) : DS K W XC pn (tWhile c tb) (dWhile dc db) := ⟨fun B ok tm np env σ H D E R s ⟨I, ⟨m0, h0⟩, step⟩ => by
  refine ⟨fun m σ H => ∃ env, Rel K B env σ tm H ∧ I m env, ⟨m0, env, R, h0⟩, ?_⟩
  rintro m σ1 H1 ⟨env1, R1, i1⟩
  refine hc.run B ok tm env1 σ1 H1 _ _ R1 (step m env1 i1) fun b e H2 q r2 => ?_
  cases b with
  | true =>
    rw [if_pos rfl] at q ⊢
    have nx : ∀ e' σ' H', Rel K B e' σ' tm H' → (∃ m', m' < m ∧ I m' e') → ∃ m', m' < m ∧ ∃ env, Rel K B env σ' tm H' ∧ I m' env := fun e' σ' H' R' ⟨m', lt, i'⟩ => ⟨m', lt, e', R', i'⟩
    exact ⟨fun σ' H' => ∃ m', m' < m ∧ ∃ env, Rel K B env σ' tm H' ∧ I m' env, fun σ' H' h => h, hb.run B ok tm np e σ1 H2 { D with nx := fun e => ∃ m', m' < m ∧ I m' e, ct := fun e => ∃ m', m' < m ∧ I m' e, bk := D.nx } _ r2 ⟨nx, s.rt, s.nx, nx⟩ q⟩
  | false =>
    rw [if_neg Bool.false_ne_true] at q ⊢
    exact s.nx _ _ _ r2 q⟩
end
end DL

/-! ## DLh.lean -/
namespace DL
open PySem PySem.Spec PyProof.Rows L2
open Dat (toD)
section
variable {K : Frag} {W : WX} {XC : DX} {B : Base} {env : Env} {σ : L2.St} {tm : List (V × D)} {H : Hp} {v : V} {x d : D} {pn : List Nat} {F : Hp} {U : Fam}
/-! ### what is walked -/
structure Feeds (K : Frag) (B : Base) (tm : List (V × D)) (kp : Env → Prop) (J : It) (items : List D) : Prop where
  stop : ∀ ts env σ H, Rel K B env σ (ts ++ tm) H → kp env → J.stop items.length H
  go : ∀ (i : Nat) ts env σ H, i < items.length → Rel K B env σ (ts ++ tm) H → kp env → J.go i H
  yld : ∀ (i : Nat) (x : D) ts env σ H v H', items[i]? = some x → Rel K B env σ (ts ++ tm) H → kp env → J.yld i H v H' → Rel K B env σ ((v, x) :: (ts ++ tm)) H' ∧ isP x = false
/-- items, what the walk asks to stay, the slots behind -/
abbrev DTI := Env → (List D → (Env → Prop) → Env → Prop) → Prop
structure DI (K : Frag) (W : WX) (XC : DX) (pn ps : List Nat) (wi : TI) (di : DTI) : Prop where
  run : ∀ (B : Base), Bok K W XC pn B → ∀ (tm : List (V × D)) (env : Env) (σ : L2.St) (H : Hp) (Q : It → Hp → Prop) (R : List D → (Env → Prop) → Env → Prop), Rel K B env σ tm H → di env R →
    (∀ items kp env' J H' B' tm2, R items kp env' → Bok K W XC (ps ++ pn) B' → (∀ tm env σ H, Rel K B' env σ tm H → Rel K B env σ tm H) → (∀ p ∈ B'.pins, p ∈ B.pins ∨ p.1 ∈ ps) → NoPtr tm2 → Rel K B' env' σ (tm2 ++ tm) H' → Feeds K B' (tm2 ++ tm) kp J items → Q J H') → wi σ H Q
theorem noP1 {v : V} {x : D} (h : ∀ j, x ≠ .ptr j) : NoPtr [(v, x)] := fun w j q => by
  have := List.mem_singleton.mp q
  cases this; exact h j rfl
theorem Feeds.list {a : Addr} {x : D} {ds : List D} (e : lstC x = some ds) : Feeds K B ((.ref a, x) :: tm) (fun _ => True) (Itl K a) ds := by
  have key : ∀ ts env σ H, Rel K B env σ (ts ++ (V.ref a, x) :: tm) H → ∃ F U vs, RelF K B F U env σ (ts ++ (V.ref a, x) :: tm) H ∧ SqL K H a vs ∧ vs.length = ds.length ∧ ∀ (i : Nat) v d, vs[i]? = some v → ds[i]? = some d → Rep K F v d := fun ts env σ H R => by
    obtain ⟨F, U, R⟩ := R
    rcases R.tmp ts.length (.ref a) x (by rw [List.getElem?_append_right (Nat.le_refl _), Nat.sub_self]; rfl) with q | ⟨j, q, _⟩
    · obtain ⟨b, vs, e', hs, l, r⟩ := q.list R.sub e
      cases e'
      exact ⟨F, U, vs, R, hs, l, r⟩
    · rw [q] at e; cases e
  refine ⟨fun ts env σ H R _ => ?_, fun i ts env σ H hi R _ => ?_, fun i y ts env σ H v H' hy R _ q => ?_⟩
  · obtain ⟨F, U, vs, R, hs, l, r⟩ := key ts env σ H R
    exact ⟨vs, hs, by omega⟩
  · obtain ⟨F, U, vs, R, hs, l, r⟩ := key ts env σ H R
    exact ⟨vs, vs[i], hs, List.getElem?_eq_getElem (by omega)⟩
  · obtain ⟨F, U, vs, R, hs, l, r⟩ := key ts env σ H R
    obtain ⟨e1, e2⟩ := q
    subst e1
    have h := r i v y (e2 vs hs) hy
    exact ⟨⟨F, _, R.push h⟩, by have := h.isR; cases y <;> first | rfl | exact nomatch this⟩
/-- over a list that stands, or that was just made -/
@[simp] def iL (da : DTE) : DTI := fun env R => da env fun x e => ∃ ds, lstC x = some ds ∧ R ds (fun _ => True) e
theorem di_list {t : TE} {da : DTE} (h : DE K W XC pn t da) : DI K W XC pn [] (iList K t) (iL da) := ⟨fun B ok tm env σ H Q R r h' k => h.run B ok tm env σ H _ _ r h' fun x e v H1 ⟨ds, q1, q2⟩ r1 => by
  have n : ∀ j, x ≠ .ptr j := fun j z => by rw [z] at q1; cases q1
  have e1 : res e x = some x := by cases x <;> first | rfl | cases q1
  obtain ⟨F, U, S, r2, o, sub⟩ := r1.look1 e1
  obtain ⟨a, vs, rfl, hs, l, rp⟩ := o.list sub q1
  exact ⟨a, rfl, ⟨vs, hs⟩, k ds _ e (Itl K a) H1 B [(.ref a, x)] q2 ok (fun _ _ _ _ h => h) (fun p h => .inl h) (noP1 n) r1 (Feeds.list q1)⟩⟩
theorem Feeds.tuple {a : Addr} {ds : List D} : Feeds K B ((.ref a, .tup ds) :: tm) (fun _ => True) (Itt K a) ds := by
  have key : ∀ ts env σ H, Rel K B env σ (ts ++ (V.ref a, D.tup ds) :: tm) H → ∃ F U vs, RelF K B F U env σ (ts ++ (V.ref a, .tup ds) :: tm) H ∧ SqT K H a vs ∧ vs.length = ds.length ∧ ∀ (i : Nat) v d, vs[i]? = some v → ds[i]? = some d → Rep K F v d := fun ts env σ H R => by
    obtain ⟨F, U, R⟩ := R
    rcases R.tmp ts.length (.ref a) (.tup ds) (by rw [List.getElem?_append_right (Nat.le_refl _), Nat.sub_self]; rfl) with q | ⟨j, q, _⟩
    · obtain ⟨b, vs, e', hs, l, r⟩ := q.tuple R.sub rfl
      cases e'
      exact ⟨F, U, vs, R, hs, l, r⟩
    · cases q
  refine ⟨fun ts env σ H R _ => ?_, fun i ts env σ H hi R _ => ?_, fun i y ts env σ H v H' hy R _ q => ?_⟩
  · obtain ⟨F, U, vs, R, hs, l, r⟩ := key ts env σ H R
    exact ⟨vs, hs, by omega⟩
  · obtain ⟨F, U, vs, R, hs, l, r⟩ := key ts env σ H R
    exact ⟨vs, vs[i], hs, List.getElem?_eq_getElem (by omega)⟩
  · obtain ⟨F, U, vs, R, hs, l, r⟩ := key ts env σ H R
    obtain ⟨e1, e2⟩ := q
    subst e1
    have h := r i v y (e2 vs hs) hy
    exact ⟨⟨F, _, R.push h⟩, by have := h.isR; cases y <;> first | rfl | exact nomatch this⟩
@[simp] def iT (da : DTE) : DTI := fun env R => da env fun x e => ∃ ds, x = .tup ds ∧ R ds (fun _ => True) e
theorem di_tup {t : TE} {da : DTE} (h : DE K W XC pn t da) : DI K W XC pn [] (iTup K t) (iT da) := ⟨fun B ok tm env σ H Q R r h' k => h.run B ok tm env σ H _ _ r h' fun x e v H1 ⟨ds, q1, q2⟩ r1 => by
  subst q1
  obtain ⟨F, U, S, r2, o, sub⟩ := r1.look1 (d := .tup ds) rfl
  obtain ⟨a, vs, rfl, hs, l, rp⟩ := o.tuple sub rfl
  exact ⟨a, rfl, ⟨vs, hs⟩, k ds _ e (Itt K a) H1 B [(.ref a, .tup ds)] q2 ok (fun _ _ _ _ h => h) (fun p h => .inl h) (noP1 fun j z => nomatch z) r1 Feeds.tuple⟩⟩
/-- over a list of one's own at a slot, that the body leaves as it is -/
@[simp] def iLp (pn : List Nat) (i : Nat) : DTI := fun env R => ∃ ds, env[i]? = some (some (.mt ds)) ∧ R ds (fun e => e[i]? = some (some (.mt ds))) env
theorem di_listp (i : Nat) : DI K W XC pn [i] (iList K (tVar i)) (iLp pn i) := ⟨fun B ok tm env σ H Q R r ⟨ds, e, h'⟩ k => by
  obtain ⟨F, U, r⟩ := r
  obtain ⟨v, h1, h2⟩ := r.own i _ e
  obtain ⟨a, vs, rfl, hs, l, rp⟩ := h2.list r.sub rfl
  refine ⟨_, h1, a, rfl, ⟨vs, hs⟩, k ds _ env (Itl K a) H { B with pins := (i, .ref a) :: B.pins } [] h' ⟨fun j hj => List.mem_append_right _ (ok.own j hj), fun p hp => ?_, fun C fs env σ tm H d F U hx R => ok.xc C fs env σ tm H d F U hx ⟨R.len, R.own, R.tmp, R.dis, R.nof, R.liv, R.sub, R.base, R.keep, R.new, R.usr, R.ownA, fun p hp => R.pin p (List.mem_cons_of_mem _ hp), R.ther⟩⟩ (fun tm env σ H ⟨F, U, R⟩ => ⟨F, U, R.len, R.own, R.tmp, R.dis, R.nof, R.liv, R.sub, R.base, R.keep, R.new, R.usr, R.ownA, fun p hp => R.pin p (List.mem_cons_of_mem _ hp), R.ther⟩) (fun p hp => ?_) (fun v j q => nomatch q) ⟨F, U, r.len, r.own, r.tmp, r.dis, r.nof, r.liv, r.sub, r.base, r.keep, r.new, r.usr, r.ownA, fun p hp => ?_, r.ther⟩ ?_⟩
  · rcases List.mem_cons.mp hp with rfl | hp
    · exact List.mem_cons_self
    · exact List.mem_append_right _ (ok.pin p hp)
  · rcases List.mem_cons.mp hp with rfl | hp
    · exact .inr List.mem_cons_self
    · exact .inl hp
  · rcases List.mem_cons.mp hp with rfl | hp
    · exact h1
    · exact r.pin p hp
  · have key : ∀ ts env' σ H, Rel K { B with pins := (i, .ref a) :: B.pins } env' σ (ts ++ ([] ++ tm)) H → env'[i]? = some (some (.mt ds)) → ∃ F U vs, RelF K { B with pins := (i, .ref a) :: B.pins } F U env' σ (ts ++ ([] ++ tm)) H ∧ SqL K H a vs ∧ vs.length = ds.length ∧ ∀ (i : Nat) v d, vs[i]? = some v → ds[i]? = some d → Rep K F v d := fun ts env' σ H ⟨F, U, R⟩ e' => by
      obtain ⟨v, g1, g2⟩ := R.own i _ e'
      have g3 := R.pin (i, .ref a) List.mem_cons_self
      have g3 : σ[i]? = some (some (V.ref a)) := g3
      rw [g1] at g3; cases g3
      obtain ⟨b, vs, e2, hs, l, r⟩ := g2.list R.sub rfl
      cases e2
      exact ⟨F, U, vs, R, hs, l, r⟩
    refine ⟨fun ts env σ H R q => ?_, fun j ts env σ H hi R q => ?_, fun j y ts env σ H v H' hy R q q' => ?_⟩
    · obtain ⟨F, U, vs, R, hs, l, r⟩ := key ts env σ H R q
      exact ⟨vs, hs, by omega⟩
    · obtain ⟨F, U, vs, R, hs, l, r⟩ := key ts env σ H R q
      exact ⟨vs, vs[j], hs, List.getElem?_eq_getElem (by omega)⟩
    · obtain ⟨F, U, vs, R, hs, l, r⟩ := key ts env σ H R q
      obtain ⟨e1, e2⟩ := q'
      subst e1
      have h := r j v y (e2 vs hs) hy
      exact ⟨⟨F, _, R.push h⟩, by have := h.isR; cases y <;> first | rfl | exact nomatch this⟩⟩
/-- ranges by ones -/
def rngD (lo : Int) (n : Nat) : List D := (List.range n).map fun i => .int (lo + (i : Nat))
theorem rngD_len (lo : Int) (n : Nat) : (rngD lo n).length = n := by unfold rngD; rw [List.length_map, List.length_range]
theorem Feeds.rng {lo : Int} {n : Nat} : Feeds K B tm (fun _ => True) (Itr lo n) (rngD lo n) := by
  refine ⟨fun ts env σ H R _ => ?_, fun i ts env σ H hi R _ => ?_, fun i y ts env σ H v H' hy R _ q => ?_⟩
  · rw [rngD_len]; exact Nat.le_refl _
  · rw [rngD_len] at hi; exact hi
  · obtain ⟨e1, e2⟩ := q
    subst e1 e2
    unfold rngD at hy
    rw [List.getElem?_map] at hy
    cases e : (List.range n)[i]? with
    | none => rw [e] at hy; cases hy
    | some j =>
      rw [e] at hy
      cases hy
      have := List.getElem?_eq_some_iff.mp e
      obtain ⟨h1, h2⟩ := this
      rw [List.getElem_range] at h2
      subst h2
      exact ⟨R.val fun F => .int _, rfl⟩
@[simp] def iR1 (da : DTA) : DTI := fun env R => da env fun xs e => ∃ j : Int, xs = [.int j] ∧ -(2 ^ 62) ≤ j ∧ j < 2 ^ 62 ∧ R (rngD 0 j.toNat) (fun _ => True) e
@[simp] def iR2 (da : DTA) : DTI := fun env R => da env fun xs e => ∃ i j : Int, xs = [.int i, .int j] ∧ (-(2 ^ 62) ≤ i ∧ i < 2 ^ 62 ∧ -(2 ^ 62) ≤ j ∧ j < 2 ^ 62) ∧ R (rngD i (j - i).toNat) (fun _ => True) e
theorem di_rng1 {t : TA} {da : DTA} (h : DA K W XC pn t da) : DI K W XC pn [] (iRng1 t) (iR1 da) := ⟨fun B ok tm env σ H Q R r h' k => h.run B ok tm env σ H _ _ r h' fun xs e vs H1 ⟨j, q1, q2, q3, q4⟩ l r1 => by
  subst q1
  obtain ⟨w, rfl⟩ := len1 l
  have r1' : Rel K B e σ ((w, .int j) :: tm) H1 := r1
  have qw := r1'.int
  subst qw
  exact ⟨j, rfl, q2, q3, k _ _ e _ H1 B [] q4 ok (fun _ _ _ _ h => h) (fun p h => .inl h) (fun v j q => nomatch q) r1'.pop Feeds.rng⟩⟩
theorem di_rng2 {t : TA} {da : DTA} (h : DA K W XC pn t da) : DI K W XC pn [] (iRng2 t) (iR2 da) := ⟨fun B ok tm env σ H Q R r h' k => h.run B ok tm env σ H _ _ r h' fun xs e vs H1 ⟨i, j, q1, q2, q4⟩ l r1 => by
  subst q1
  obtain ⟨w, u, rfl⟩ := len2 l
  have r1' : Rel K B e σ ((w, .int i) :: (u, .int j) :: tm) H1 := r1
  have qw := r1'.int
  have qu := r1'.pop.int
  subst qw qu
  exact ⟨i, j, rfl, q2, k _ _ e _ H1 B [] q4 ok (fun _ _ _ _ h => h) (fun p h => .inl h) (fun v j q => nomatch q) r1'.pop.pop Feeds.rng⟩⟩
/-- enumerate, zip of lists that stand -/
def enumD (ds : List D) : List D := ds.mapIdx fun i d => .tup [.int (i : Nat), d]
def zipD (xs ys : List D) : List D := (xs.zip ys).map fun p => .tup [p.1, p.2]
theorem two_rep {v w : V} {x y : D} (h1 : Rep K F v x) (h2 : Rep K F w y) : ∀ (i : Nat) u d, [v, w][i]? = some u → [x, y][i]? = some d → Rep K F u d := fun i u d e1 e2 => by
  match i, e1, e2 with
  | 0, e1, e2 => cases e1; cases e2; exact h1
  | 1, e1, e2 => cases e1; cases e2; exact h2
theorem Feeds.enum {a : Addr} {x : D} {ds : List D} (e : lstC x = some ds) : Feeds K B ((.ref a, x) :: tm) (fun _ => True) (Ite K a) (enumD ds) := by
  have key : ∀ ts env σ H, Rel K B env σ (ts ++ (V.ref a, x) :: tm) H → ∃ F U vs, RelF K B F U env σ (ts ++ (V.ref a, x) :: tm) H ∧ SqL K H a vs ∧ vs.length = ds.length ∧ ∀ (i : Nat) v d, vs[i]? = some v → ds[i]? = some d → Rep K F v d := fun ts env σ H R => by
    obtain ⟨F, U, R⟩ := R
    rcases R.tmp ts.length (.ref a) x (by rw [List.getElem?_append_right (Nat.le_refl _), Nat.sub_self]; rfl) with q | ⟨j, q, _⟩
    · obtain ⟨b, vs, e', hs, l, r⟩ := q.list R.sub e
      cases e'
      exact ⟨F, U, vs, R, hs, l, r⟩
    · rw [q] at e; cases e
  refine ⟨fun ts env σ H R _ => ?_, fun i ts env σ H hi R _ => ?_, fun i y ts env σ H v H' hy R _ q => ?_⟩
  · obtain ⟨F, U, vs, R, hs, l, r⟩ := key ts env σ H R
    exact ⟨vs, hs, by rw [enumD, List.length_mapIdx]; omega⟩
  · obtain ⟨F, U, vs, R, hs, l, r⟩ := key ts env σ H R
    rw [enumD, List.length_mapIdx] at hi
    exact ⟨vs, vs[i], hs, List.getElem?_eq_getElem (by omega)⟩
  · obtain ⟨F, U, vs, R, hs, l, r⟩ := key ts env σ H R
    obtain ⟨T, z, rfl, hT, rfl, e2⟩ := q
    have hz := e2 vs hs
    unfold enumD at hy
    rw [List.getElem?_mapIdx] at hy
    cases e3 : ds[i]? with
    | none => rw [e3] at hy; cases hy
    | some y' =>
      rw [e3] at hy
      cases hy
      exact ⟨Rel.tupN R hT rfl (two_rep (.int _) (r i z y' hz e3)), rfl⟩
@[simp] def iE (da : DTA) : DTI := fun env R => da env fun xs e => ∃ x ds, xs = [x] ∧ lstC x = some ds ∧ R (enumD ds) (fun _ => True) e
theorem di_enum {t : TA} {da : DTA} (h : DA K W XC pn t da) : DI K W XC pn [] (iEnum K t) (iE da) := ⟨fun B ok tm env σ H Q R r h' k => h.run B ok tm env σ H _ _ r h' fun xs e vs H1 ⟨x, ds, q1, q2, q3⟩ l r1 => by
  subst q1
  obtain ⟨w, rfl⟩ := len1 l
  have r1' : Rel K B e σ ((w, x) :: tm) H1 := r1
  have n : ∀ j, x ≠ .ptr j := fun j z => by rw [z] at q2; cases q2
  have e1 : res e x = some x := by cases x <;> first | rfl | cases q2
  obtain ⟨F, U, S, r2, o, sub⟩ := r1'.look1 e1
  obtain ⟨a, vs, rfl, hs, l, rp⟩ := o.list sub q2
  exact ⟨a, vs, rfl, hs, k _ _ e _ H1 B [(.ref a, x)] q3 ok (fun _ _ _ _ h => h) (fun p h => .inl h) (noP1 n) r1' (Feeds.enum q2)⟩⟩
theorem Feeds.zip {a b : Addr} {x y : D} {xs ys : List D} (e : lstC x = some xs) (e' : lstC y = some ys) : Feeds K B ((.ref a, x) :: (.ref b, y) :: tm) (fun _ => True) (Itz K a b) (zipD xs ys) := by
  have key : ∀ ts env σ H, Rel K B env σ (ts ++ (V.ref a, x) :: (V.ref b, y) :: tm) H → ∃ F U vs ws, RelF K B F U env σ (ts ++ (V.ref a, x) :: (V.ref b, y) :: tm) H ∧ SqL K H a vs ∧ vs.length = xs.length ∧ (∀ (i : Nat) v d, vs[i]? = some v → xs[i]? = some d → Rep K F v d) ∧
      SqL K H b ws ∧ ws.length = ys.length ∧ ∀ (i : Nat) v d, ws[i]? = some v → ys[i]? = some d → Rep K F v d := fun ts env σ H R => by
    obtain ⟨F, U, R⟩ := R
    have g1 : ∃ vs, SqL K H a vs ∧ vs.length = xs.length ∧ ∀ (i : Nat) v d, vs[i]? = some v → xs[i]? = some d → Rep K F v d := by
      rcases R.tmp ts.length (.ref a) x (by rw [List.getElem?_append_right (Nat.le_refl _), Nat.sub_self]; rfl) with q | ⟨j, q, _⟩
      · obtain ⟨b, vs, e', hs, l, r⟩ := q.list R.sub e
        cases e'
        exact ⟨vs, hs, l, r⟩
      · rw [q] at e; cases e
    have g2 : ∃ vs, SqL K H b vs ∧ vs.length = ys.length ∧ ∀ (i : Nat) v d, vs[i]? = some v → ys[i]? = some d → Rep K F v d := by
      rcases R.tmp (ts.length + 1) (.ref b) y (by rw [List.getElem?_append_right (Nat.le_add_right _ _), Nat.add_sub_cancel_left]; rfl) with q | ⟨j, q, _⟩
      · obtain ⟨b, vs, e', hs, l, r⟩ := q.list R.sub e'
        cases e'
        exact ⟨vs, hs, l, r⟩
      · rw [q] at e'; cases e'
    obtain ⟨vs, h1, h2, h3⟩ := g1
    obtain ⟨ws, h4, h5, h6⟩ := g2
    exact ⟨F, U, vs, ws, R, h1, h2, h3, h4, h5, h6⟩
  have zl : (zipD xs ys).length = min xs.length ys.length := by unfold zipD; rw [List.length_map, List.length_zip]
  refine ⟨fun ts env σ H R _ => ?_, fun i ts env σ H hi R _ => ?_, fun i z ts env σ H v H' hy R _ q => ?_⟩
  · obtain ⟨F, U, vs, ws, R, h1, h2, h3, h4, h5, h6⟩ := key ts env σ H R
    exact ⟨vs, ws, h1, h4, by rw [zl]; omega⟩
  · obtain ⟨F, U, vs, ws, R, h1, h2, h3, h4, h5, h6⟩ := key ts env σ H R
    rw [zl] at hi
    exact ⟨vs, ws, vs[i], ws[i], h1, h4, List.getElem?_eq_getElem (by omega), List.getElem?_eq_getElem (by omega)⟩
  · obtain ⟨F, U, vs, ws, R, h1, h2, h3, h4, h5, h6⟩ := key ts env σ H R
    obtain ⟨T, p, p', rfl, hT, rfl, e2, e3⟩ := q
    have q1 := e2 vs h1
    have q2 := e3 ws h4
    unfold zipD at hy
    rw [List.getElem?_map] at hy
    cases e4 : (xs.zip ys)[i]? with
    | none => rw [e4] at hy; cases hy
    | some y' =>
      rw [e4] at hy
      cases hy
      obtain ⟨a1, a2⟩ := List.getElem?_zip_eq_some.mp e4
      exact ⟨Rel.tupN R hT rfl (two_rep (h3 i p _ q1 a1) (h6 i p' _ q2 a2)), rfl⟩
@[simp] def iZ (da : DTA) : DTI := fun env R => da env fun zs e => ∃ x y xs ys, zs = [x, y] ∧ lstC x = some xs ∧ lstC y = some ys ∧ R (zipD xs ys) (fun _ => True) e
theorem di_zip {t : TA} {da : DTA} (h : DA K W XC pn t da) : DI K W XC pn [] (iZip K t) (iZ da) := ⟨fun B ok tm env σ H Q R r h' k => h.run B ok tm env σ H _ _ r h' fun zs e vs H1 ⟨x, y, xs, ys, q1, q2, q2', q3⟩ l r1 => by
  subst q1
  obtain ⟨w, u, rfl⟩ := len2 l
  have r1' : Rel K B e σ ((w, x) :: (u, y) :: tm) H1 := r1
  have n : ∀ j, x ≠ .ptr j := fun j z => by rw [z] at q2; cases q2
  have n' : ∀ j, y ≠ .ptr j := fun j z => by rw [z] at q2'; cases q2'
  have e1 : res e x = some x := by cases x <;> first | rfl | cases q2
  have e1' : res e y = some y := by cases y <;> first | rfl | cases q2'
  obtain ⟨F, U, S, r2, o, sub⟩ := r1'.look1 e1
  obtain ⟨a, vs, rfl, hs, l, rp⟩ := o.list sub q2
  obtain ⟨F', U', S', r2', o', sub'⟩ := r1'.pop.look1 e1'
  obtain ⟨b, ws, rfl, hs', l', rp'⟩ := o'.list sub' q2'
  refine ⟨a, b, vs, ws, rfl, hs, hs', k _ _ e _ H1 B [(.ref a, x), (.ref b, y)] q3 ok (fun _ _ _ _ h => h) (fun p h => .inl h) (fun v j q => ?_) r1' (Feeds.zip q2 q2')⟩
  rcases List.mem_cons.mp q with q | q
  · cases q; exact n j rfl
  · exact noP1 n' v j q⟩
/-- the signs of a text -/
def strD (x : Str) : List D := x.cps.toList.map fun c => .str ⟨#[c]⟩
theorem Feeds.str {x : Str} : Feeds K B tm (fun _ => True) (Its x) (strD x) := by
  have hl : (strD x).length = x.cps.size := by unfold strD; rw [List.length_map, Array.length_toList]
  refine ⟨fun ts env σ H R _ => ?_, fun i ts env σ H hi R _ => ?_, fun i y ts env σ H v H' hy R _ q => ?_⟩
  · rw [hl]; exact Nat.le_refl _
  · rw [hl] at hi; exact hi
  · obtain ⟨e1, c, e2, e3⟩ := q
    subst e1 e3
    unfold strD at hy
    rw [List.getElem?_map, Array.getElem?_toList, e2] at hy
    cases hy
    exact ⟨R.val fun F => .str _, rfl⟩
@[simp] def iS (da : DTE) : DTI := fun env R => da env fun x e => ∃ z, x = .str z ∧ R (strD z) (fun _ => True) e
theorem di_str {t : TE} {da : DTE} (h : DE K W XC pn t da) : DI K W XC pn [] (iStr t) (iS da) := ⟨fun B ok tm env σ H Q R r h' k => h.run B ok tm env σ H _ _ r h' fun x e v H1 ⟨z, q1, q2⟩ r1 => by
  subst q1
  have q := r1.sc (u := .str z) rfl
  subst q
  exact ⟨z, rfl, k _ _ e _ H1 B [] q2 ok (fun _ _ _ _ h => h) (fun p h => .inl h) (fun v j q => nomatch q) r1.pop Feeds.str⟩⟩
/-! ### for -/
def forD (kp : Env → Prop) (g : DTG) (tb : DTS) : List D → DEnds → Env → Prop
  | [], D, env => kp env ∧ D.nx env
  | x :: xs, D, env => kp env ∧ g x env fun e2 => tb { D with nx := forD kp g tb xs D, ct := forD kp g tb xs D, bk := D.nx } e2
@[simp] def dFor (di : DTI) (g : DTG) (tb : DTS) : DTS := fun D env => di env fun items kp e => forD kp g tb items D e
theorem Rel.drop2 {w : V} {r : D} {tm2 : List (V × D)} (R : Rel K B env σ ((w, r) :: (tm2 ++ tm)) H) : Rel K B env σ ((w, r) :: tm) H := by
  obtain ⟨F, U, R⟩ := R
  refine ⟨F, _, R.re ((w, r) :: tm) (fun i => match i with | 0 => 0 | i + 1 => i + 1 + tm2.length) (fun i j e => ?_) fun i x e => ?_⟩
  · cases i <;> cases j <;> dsimp only at e <;> omega
  · cases i with
    | zero => exact e
    | succ i =>
      show ((w, r) :: (tm2 ++ tm))[i + 1 + tm2.length]? = some x
      rw [show i + 1 + tm2.length = (i + tm2.length) + 1 by omega, List.getElem?_cons_succ, List.getElem?_append_right (by omega), Nat.add_sub_cancel]
      exact e
theorem noP_app {t1 t2 : List (V × D)} (h1 : NoPtr t1) (h2 : NoPtr t2) : NoPtr (t1 ++ t2) := fun v j h => (List.mem_append.mp h).elim (h1 v j) (h2 v j)
theorem ds_for {ps ws : List Nat} {wi : TI} {g : TG} {tb : TS} {di : DTI} {dg : DTG} {db : DTS} (hi : DI K W XC pn ps wi di) (hg : DG K W XC (ps ++ pn) ws g dg) (hb : DS K W XC (ps ++ pn) tb db) : DS K W XC pn (tFor wi g tb) (dFor di dg db) :=
  ⟨fun B ok tm np env σ H D E R s h => hi.run B ok tm env σ H _ _ R h fun items kp e J H1 B' tm2 q ok' back _ np2 r1 fd => by
    refine ⟨fun i m σ H => m = items.length - i ∧ i ≤ items.length ∧ ∃ env, Rel K B' env σ (tm2 ++ tm) H ∧ forD kp dg db (items.drop i) D env, ⟨items.length, rfl, Nat.zero_le _, e, r1, q⟩, ?_⟩
    rintro i m σ2 H2 ⟨rfl, hi, e2, r2, q2⟩
    by_cases hlt : i < items.length
    · obtain ⟨x, hx⟩ : ∃ x, items[i]? = some x := ⟨_, List.getElem?_eq_getElem hlt⟩
      have hd : items.drop i = x :: items.drop (i + 1) := by
        rw [List.drop_eq_getElem_cons hlt]
        congr 1
        rw [List.getElem?_eq_getElem hlt] at hx; exact Option.some.inj hx
      rw [hd] at q2
      obtain ⟨q3, q4⟩ := q2
      have N : ∀ e' σ' H', Rel K B' e' σ' (tm2 ++ tm) H' → forD kp dg db (items.drop (i + 1)) D e' → ∃ env, Rel K B' env σ' (tm2 ++ tm) H' ∧ forD kp dg db (items.drop (i + 1)) D env := fun e' σ' H' R' h' => ⟨e', R', h'⟩
      refine .inr ⟨fd.go i [] e2 σ2 H2 hlt r2 q3, fun σ' H' => ∃ env, Rel K B' env σ' (tm2 ++ tm) H' ∧ forD kp dg db (items.drop (i + 1)) D env, fun σ' H' ⟨e', r', q'⟩ => ⟨items.length - (i + 1), by omega, rfl, hlt, e', r', q'⟩, fun v H' y => ?_⟩
      obtain ⟨r3, nx⟩ := fd.yld i x [] e2 σ2 H2 v H' hx r2 q3 y
      refine hg.run B' ok' (tm2 ++ tm) (noP_app np2 np) e2 σ2 H' v x _ _ r3 q4 fun e3 σ3 H3 q5 r4 _ _ => ?_
      exact hb.run B' ok' (tm2 ++ tm) (noP_app np2 np) e3 σ3 H3 { D with nx := forD kp dg db (items.drop (i + 1)) D, ct := forD kp dg db (items.drop (i + 1)) D, bk := D.nx } _ r4
        ⟨N, fun w r e' σ' H' R' h' => s.rt w r e' σ' H' (back _ _ _ _ R'.drop2) h', fun e' σ' H' R' h' => s.nx e' σ' H' (back _ _ _ _ R'.popN) h', N⟩ q5
    · have e0 : items.drop i = [] := List.drop_eq_nil_of_le (by omega)
      rw [e0] at q2
      have ei : i = items.length := by omega
      refine .inl ⟨?_, s.nx e2 σ2 H2 (back _ _ _ _ r2.popN) q2.2⟩
      rw [ei]
      exact fd.stop [] e2 σ2 H2 r2 q2.1⟩
end
end DL

/-! ## DLi.lean -/
namespace DL
open PySem PySem.Spec PyProof.Rows L2
open Dat (toD)
section
variable {K : Frag} {W : WX} {XC : DX} {B : Base} {env : Env} {σ : L2.St} {tm : List (V × D)} {H : Hp} {v : V} {x d : D} {pn : List Nat} {F : Hp} {U : Fam}
/-! ### comprehensions -/
@[simp] def wipeE (env : Env) : List Nat → Env
  | [] => env
  | v :: vs => (wipeE env vs).set v none
theorem wipeE_len (env : Env) : ∀ vs, (wipeE env vs).length = env.length
  | [] => rfl
  | v :: vs => by unfold wipeE; rw [List.length_set, wipeE_len env vs]
theorem wipeE_none {env : Env} : ∀ {vs : List Nat} {i : Nat}, i ∈ vs → ∀ d, (wipeE env vs)[i]? ≠ some (some d)
  | v :: vs, i, h, d => by
    unfold wipeE
    by_cases e : v = i
    · subst e
      rw [List.getElem?_set_self']
      cases (wipeE env vs)[v]? <;> simp
    · rw [List.getElem?_set_ne e]
      rcases List.mem_cons.mp h with h | h
      · exact absurd h.symm e
      · exact wipeE_none h d
theorem Rel.wipeE (R : Rel K B env σ tm H) : ∀ vs, Rel K B (wipeE env vs) σ tm H
  | [] => R
  | v :: vs => by
    obtain ⟨F, U, R⟩ := Rel.wipeE R vs
    exact ⟨F, U, R.forget v⟩
theorem wipe_get (σ : L2.St) : ∀ (vs : List Nat) (i : Nat), i ∉ vs → (wipe σ vs)[i]? = σ[i]?
  | [], i, _ => rfl
  | v :: vs, i, h => by
    unfold wipe
    rw [List.getElem?_set_ne (fun e => h (by simp [e]))]
    exact wipe_get σ vs i fun z => h (List.mem_cons_of_mem _ z)
theorem wipe_congr {σ σ' : L2.St} (l : σ'.length = σ.length) : ∀ (vs : List Nat), (∀ i, i ∉ vs → σ'[i]? = σ[i]?) → wipe σ' vs = wipe σ vs := fun vs h => by
  apply List.ext_getElem?
  intro i
  by_cases hi : i ∈ vs
  · have key : ∀ (σ : L2.St) (vs : List Nat), i ∈ vs → (wipe σ vs)[i]? = if i < σ.length then some none else none := by
      intro σ vs
      induction vs with
      | nil => intro h; cases h
      | cons v vs ih =>
        intro h
        unfold wipe
        by_cases e : v = i
        · subst e
          rw [List.getElem?_set_self', ]
          by_cases hl : v < σ.length
          · rw [if_pos hl, List.getElem?_eq_getElem (by rw [wipe_length]; exact hl)]; rfl
          · rw [if_neg hl, List.getElem?_eq_none (by rw [wipe_length]; omega)]; rfl
        · rw [List.getElem?_set_ne e]
          rcases List.mem_cons.mp h with h | h
          · exact absurd h.symm e
          · exact ih h
    rw [key σ' vs hi, key σ vs hi, l]
  · rw [wipe_get σ' vs i hi, wipe_get σ vs i hi]; exact h i hi
/-- without what means slots -/
def dep1 : V × D → V × D
  | (v, .ptr _) => (.non, .non)
  | p => p
theorem dep1_np {v : V} {d : D} (h : ∀ j, d ≠ .ptr j) : dep1 (v, d) = (v, d) := by
  cases d <;> first | rfl | exact absurd rfl (h _)
theorem noPtr_dep (tm : List (V × D)) : NoPtr (tm.map dep1) := fun v j h => by
  obtain ⟨⟨w, d⟩, _, e⟩ := List.mem_map.mp h
  rcases nptr_cases d with ⟨i, rfl⟩ | n
  · cases e
  · rw [dep1_np n] at e; cases e; exact n j rfl
/-- the slots' values exchanged where nothing is known of them -/
theorem RelF.swap (R : RelF K B F U env σ tm H) {σ' : L2.St} {tm' : List (V × D)} {vs : List Nat} (l : σ'.length = σ.length) (hs : ∀ i, i ∉ vs → σ'[i]? = σ[i]?) (he : ∀ i ∈ vs, ∀ d, env[i]? ≠ some (some d)) (hp : ∀ p ∈ B.pins, p.1 ∉ vs)
    (ht : ∀ (i : Nat) w d, tm'[i]? = some (w, d) → (tm[i]? = some (w, d) ∧ ∀ j, d ≠ .ptr j) ∨ (w = .non ∧ d = .non) ∨ ∃ j, d = .ptr j ∧ σ'[j]? = some (some w)) : RelF K B F U env σ' tm' H := by
  refine ⟨R.len.trans l.symm, fun i d e => ?_, fun i w d e => ?_, R.dis, R.nof, R.liv, R.sub, R.base, R.keep, R.new, R.usr, R.ownA, fun p h => ?_, R.ther⟩
  · obtain ⟨w, h1, h2⟩ := R.own i d e
    exact ⟨w, by rw [hs i fun z => he i z d e]; exact h1, h2⟩
  · rcases ht i w d e with ⟨q, n⟩ | ⟨rfl, rfl⟩ | q
    · rcases R.tmp i w d q with h | ⟨j, h, _⟩
      · exact .inl h
      · exact absurd h (n j)
    · exact .inl (.frz .non)
    · exact .inr q
  · rw [hs _ (hp p h)]; exact R.pin p h
/-- a list of one's own that is put by grows -/
theorem RelF.growT {a : Addr} {ws : List V} {acc : List D} {u : V} {y : D} (R : RelF K B F U env σ ((u, y) :: (.ref a, .mt acc) :: tm) H) (hy : isR y = true) :
    ∃ vs, H a = some (.lst vs) ∧ vs.length = acc.length ∧ Rel K B env σ ((.ref a, .mt (acc ++ [y])) :: tm) (upd H a (.lst (vs ++ [u]))) := by
  have ry := kids1 R hy
  rcases R.tmp 1 (.ref a) (.mt acc) rfl with q | ⟨j, q, _⟩
  · cases q with
    | frz q => cases q
    | @mt _ vs _ _ ha h l r =>
      refine ⟨vs, h, l, F, fun x => match x with | .inl i => U (.inl i) | .inr i => U (.inr (i + 1)), ?_⟩
      have oth : ∀ x, x ≠ .inr 1 → ∀ b o, U x b → H b = some o → upd H a (.lst (vs ++ [u])) b = some o := fun x n b o s e => by
        rw [upd_ne (fun z => n (R.dis x (.inr 1) a (by rw [← z]; exact s) ha))]; exact e
      refine ⟨R.len, fun i d e => ?_, fun i w d e => ?_, fun x y b u w => ?_, fun x b u => ?_, fun x b u => ?_, fun b o e => ?_, R.base, fun b o e n => ?_, R.new, fun x b u => ?_, R.ownA, R.pin, fun b e => upd_some (R.ther b e)⟩
      · obtain ⟨w, h1, h2⟩ := R.own i d e
        exact ⟨w, h1, h2.stay (Same.refl F) (oth _ fun z => nomatch z)⟩
      · cases i with
        | zero => cases e; exact .inl (.mt ha upd_same (by simp [l]) (snoc_rep l r ry))
        | succ i =>
          rcases R.tmp (i + 2) w d e with q | q
          · exact .inl (q.stay (Same.refl F) (oth _ fun z => by cases z))
          · exact .inr q
      · rcases x with i | i <;> rcases y with j | j
        · exact R.dis _ _ b u w
        · exact nomatch R.dis (.inl i) (.inr (j + 1)) b u w
        · exact nomatch R.dis (.inr (i + 1)) (.inl j) b u w
        · have e := R.dis (.inr (i + 1)) (.inr (j + 1)) b u w
          cases e; rfl
      · rcases x with i | i
        · exact R.nof _ b u
        · exact R.nof _ b u
      · rcases x with i | i
        · exact upd_some (R.liv _ b u)
        · exact upd_some (R.liv _ b u)
      · rw [upd_ne (fun z => by have := R.nof _ a ha; rw [z, this] at e; cases e)]
        exact R.sub b o e
      · have q := R.keep b o e n
        rw [upd_ne (fun z => by
          rcases R.usr _ a ha with h | ⟨k, h, _⟩
          · rw [z, h] at e; cases e
          · cases h)]
        exact q
      · rcases x with i | i
        · exact R.usr _ b u
        · rcases R.usr (.inr (i + 1)) b u with h | ⟨_, h, _⟩
          · exact .inl h
          · cases h
  · cases q
def lcD (kp : Env → Prop) (g : DTG) (tt : DTT) (te : DTE) (vs : List Nat) : List D → List D → Env → (D → Env → Prop) → Prop
  | [], acc, env, Q => kp env ∧ Q (.mt acc) env
  | x :: xs, acc, env, Q => kp env ∧ g x env fun e2 => tt e2 fun b e3 => if b = true then te e3 fun y e4 => isR y = true ∧ acc.length < sizeLine ∧ lcD kp g tt te vs xs (acc ++ [y]) (wipeE e4 vs) Q else lcD kp g tt te vs xs acc (wipeE e3 vs) Q
@[simp] def dLc (di : DTI) (g : DTG) (tt : DTT) (te : DTE) (vs : List Nat) : DTE := fun env Q => di env fun items kp e => lcD kp g tt te vs items [] (wipeE e vs) Q
theorem de_lc {ps ws vs : List Nat} {wi : TI} {g : TG} {tt : TT} {te : TE} {di : DTI} {dg : DTG} {dt : DTT} {de : DTE} (hi : DI K W XC pn ps wi di) (hg : DG K W0 X0 (ps ++ pn) ws g dg) (ht : DT K W0 X0 (ps ++ pn) tt dt) (he : DE K W0 X0 (ps ++ pn) te de)
    (hw : ∀ i ∈ ws, i ∈ vs) (hv : ∀ i ∈ vs, i ∉ ps ++ pn) : DE K W XC pn (tLc wi g tt te vs) (dLc di dg dt de vs) :=
  ⟨fun B ok tm env σ H Q R r h k => hi.run B ok tm env σ H _ _ r h fun items kp e J H1 B' tm2 q ok' back _ np2 r1 fd => by
    intro DA hD
    have okB : Bok K W0 X0 (ps ++ pn) B' := ⟨ok'.own, ok'.pin, fun _ _ _ _ _ _ _ _ _ hx => hx.elim⟩
    have hpv : ∀ p ∈ B'.pins, p.1 ∉ vs := fun p hp hz => hv _ hz (ok'.pin p hp)
    refine ⟨fun i m H => m = items.length - i ∧ i ≤ items.length ∧ ∃ env acc, Rel K B' env σ ((V.ref DA, D.mt acc) :: (tm2 ++ tm)) H ∧ (∀ i ∈ vs, ∀ d, env[i]? ≠ some (some d)) ∧ lcD kp dg dt de vs (items.drop i) acc env R, ⟨items.length, rfl, Nat.zero_le _, _, [], ?_, fun i hi d => wipeE_none hi d, q⟩, ?_⟩
    · obtain ⟨F, U, r2⟩ := r1.wipeE vs
      exact r2.newL hD rfl fun i v d e => by simp at e
    · rintro i m H2 ⟨rfl, hi, e2, acc, r2, hn, q2⟩
      by_cases hlt : i < items.length
      · obtain ⟨x, hx⟩ : ∃ x, items[i]? = some x := ⟨_, List.getElem?_eq_getElem hlt⟩
        have hd : items.drop i = x :: items.drop (i + 1) := by
          rw [List.drop_eq_getElem_cons hlt]
          congr 1
          rw [List.getElem?_eq_getElem hlt] at hx; exact Option.some.inj hx
        rw [hd] at q2
        obtain ⟨q3, q4⟩ := q2
        refine .inr ⟨fd.go i [_] e2 σ H2 hlt r2 q3, fun H' => ∃ env acc, Rel K B' env σ ((V.ref DA, D.mt acc) :: (tm2 ++ tm)) H' ∧ (∀ i ∈ vs, ∀ d, env[i]? ≠ some (some d)) ∧ lcD kp dg dt de vs (items.drop (i + 1)) acc env R,
          fun H' ⟨e', a', r', n', q'⟩ => ⟨items.length - (i + 1), by omega, rfl, hlt, e', a', r', n', q'⟩, fun v H' y => ?_⟩
        obtain ⟨r3, nx⟩ := fd.yld i x [_] e2 σ H2 v H' hx r2 q3 y
        -- into the block
        have r4 : Rel K B' e2 (wipe σ vs) ((v, x) :: (V.ref DA, D.mt acc) :: (tm2 ++ tm.map dep1)) H' := by
          obtain ⟨F, U, r3⟩ := r3
          refine ⟨F, U, r3.swap (vs := vs) (wipe_length σ vs) (fun i hi => wipe_get σ vs i hi) hn hpv fun j w d e => ?_⟩
          cases j with
          | zero => cases e; exact .inl ⟨rfl, isP_no nx⟩
          | succ j =>
            cases j with
            | zero => cases e; exact .inl ⟨rfl, fun j z => nomatch z⟩
            | succ j =>
              have e : (tm2 ++ tm.map dep1)[j]? = some (w, d) := e
              by_cases hj : j < tm2.length
              · rw [List.getElem?_append_left hj] at e
                exact .inl ⟨by show (tm2 ++ tm)[j]? = _; rw [List.getElem?_append_left hj]; exact e, fun k z => np2 w k (z ▸ List.mem_of_getElem? e)⟩
              · rw [List.getElem?_append_right (by omega), List.getElem?_map] at e
                cases e5 : tm[j - tm2.length]? with
                | none => rw [e5] at e; cases e
                | some p =>
                  rw [e5] at e
                  obtain ⟨w', d'⟩ := p
                  rcases nptr_cases d' with ⟨k, rfl⟩ | n
                  · cases e; exact .inr (.inl ⟨rfl, rfl⟩)
                  · have e : some (dep1 (w', d')) = some (w, d) := e
                    rw [dep1_np n] at e
                    cases e
                    exact .inl ⟨by show (tm2 ++ tm)[j]? = _; rw [List.getElem?_append_right (by omega)]; exact e5, n⟩
        have npt : NoPtr ((V.ref DA, D.mt acc) :: (tm2 ++ tm.map dep1)) := fun w j hm => by
          rcases List.mem_cons.mp hm with e | hm
          · cases e
          · exact noP_app np2 (noPtr_dep tm) w j hm
        -- out of the block
        have out : ∀ (e' : Env) (σ' : L2.St) (a' : List D) (H3 : Hp), Rel K B' e' σ' ((V.ref DA, D.mt a') :: (tm2 ++ tm.map dep1)) H3 → σ'.length = (wipe σ vs).length → (∀ i, i ∉ ws → σ'[i]? = (wipe σ vs)[i]?) → Rel K B' (DL.wipeE e' vs) σ ((V.ref DA, D.mt a') :: (tm2 ++ tm)) H3 := fun e' σ' a' H3 r' hl hs => by
          obtain ⟨F, U, r'⟩ := r'.wipeE vs
          refine ⟨F, U, r'.swap (vs := vs) (by rw [hl, wipe_length]) (fun i hi => by rw [hs i fun z => hi (hw i z), wipe_get σ vs i hi]) (fun i hi d => wipeE_none hi d) hpv fun j w d e => ?_⟩
          cases j with
          | zero => cases e; exact .inl ⟨rfl, fun j z => nomatch z⟩
          | succ j =>
            have e : (tm2 ++ tm)[j]? = some (w, d) := e
            by_cases hj : j < tm2.length
            · rw [List.getElem?_append_left hj] at e
              exact .inl ⟨by show (tm2 ++ tm.map dep1)[j]? = _; rw [List.getElem?_append_left hj]; exact e, fun k z => np2 w k (z ▸ List.mem_of_getElem? e)⟩
            · rw [List.getElem?_append_right (by omega)] at e
              rcases nptr_cases d with ⟨k, rfl⟩ | n
              · -- what meant a slot ahead of the block means it behind
                refine .inr (.inr ⟨k, rfl, ?_⟩)
                obtain ⟨F2, U2, r2⟩ := r2
                rcases r2.tmp (j + 1) w (.ptr k) (by show (tm2 ++ tm)[j]? = _; rw [List.getElem?_append_right (by omega)]; exact e) with q | ⟨k', q, q'⟩
                · cases q with | frz q => cases q
                · cases q; exact q'
              · refine .inl ⟨?_, n⟩
                show (tm2 ++ tm.map dep1)[j]? = _
                rw [List.getElem?_append_right (by omega), List.getElem?_map, e]
                show some (dep1 (w, d)) = _
                rw [dep1_np n]
        refine hg.run B' okB _ npt e2 (wipe σ vs) H' v x _ _ r4 q4 fun e3 σ3 H3 q5 r5 hs hl3 => ?_
        refine ⟨?_, ht.run B' okB _ e3 σ3 H3 _ _ r5 q5 fun b e4 H4 q6 r6 => ?_⟩
        · rw [wipe_congr hl3 vs fun i hi => hs i fun z => hi (hw i z)]
          exact wipe_congr (wipe_length σ vs) vs fun i hi => wipe_get σ vs i hi
        · cases b with
          | false =>
            rw [if_neg Bool.false_ne_true] at q6 ⊢
            exact ⟨_, acc, out e4 σ3 acc H4 r6 hl3 hs, fun i hi d => wipeE_none hi d, q6⟩
          | true =>
            rw [if_pos rfl] at q6 ⊢
            refine he.run B' okB _ e4 σ3 H4 _ _ r6 q6 fun y' e5 u H5 ⟨q7, q8, q9⟩ r7 => ?_
            obtain ⟨F, U, r7⟩ := r7
            obtain ⟨ws', hD', l', r8⟩ := r7.growT (ws := []) q7
            exact ⟨ws', hD', by omega, _, _, out e5 σ3 _ _ r8 hl3 hs, fun i hi d => wipeE_none hi d, q9⟩
      · have e0 : items.drop i = [] := List.drop_eq_nil_of_le (by omega)
        rw [e0] at q2
        have ei : i = items.length := by omega
        refine .inl ⟨by rw [ei]; exact fd.stop [_] e2 σ H2 r2 q2.1, k _ _ _ _ q2.2 (back _ _ _ _ (Rel.drop2 r2))⟩⟩
end
end DL

/-! ## DLj.lean -/
namespace DL
open PySem PySem.Spec PyProof.Rows L2
open Dat (toD)
/-! ### defs -/
/-- what a def does: its arguments, what is wanted of its value and of its own arguments' data at the end, what is wanted of an exception (its class, its fields) -/
abbrev DSp := List D → (D → List D → Prop) → (String → List (Str × V) → List D → Prop) → Prop
structure LiftOk (K : Frag) (ow : List Nat) (B : Base) (vs : List V) (ds : List D) (H : Hp) : Prop where
  h : B.H = H
  rel : ∃ U, RelF K B B.F U (ds.map some) (vs.map some) [] H
  own : B.own = ow
  pin : ∀ k ∈ ow, ∃ v, vs[k]? = some v ∧ (k, v) ∈ B.pins
  pin2 : ∀ p ∈ B.pins, p.1 ∈ ow
def liftSp (K : Frag) (ow : List Nat) (f : DSp) : Sp := fun vs H Q E => ∃ B ds R RX, LiftOk K ow B vs ds H ∧ f ds R RX ∧
  (∀ r os env' v H', R r os → isP r = false → Rel K B env' (vs.map some) [(v, r)] H' → outs ow env' = some os → Q v H') ∧
  (∀ C fs os env' d H' F U, RX C fs os → RelF K B F U env' (vs.map some) [] H' → outs ow env' = some os → XOk fs d F → (∀ p ∈ fs, flatV p.2 = true) → E (.ref (clsA K C)) d H')
/-- at a def's end -/
def rtD (ow : List Nat) (R : D → List D → Prop) : D → Env → Prop := fun r env => isP r = false ∧ ∃ os, outs ow env = some os ∧ R r os
@[simp] def endsD (ow : List Nat) (R : D → List D → Prop) : DEnds := { nx := rtD ow R .non, rt := rtD ow R }
/-- .. by an exception -/
@[simp] def xcD (ow : List Nat) (RX : String → List (Str × V) → List D → Prop) : DX := fun C fs env => ∃ os, outs ow env = some os ∧ RX C fs os
def startE (n : Nat) (ds : List D) : Env := ds.map some ++ List.replicate (n - ds.length) none
section
variable {K : Frag} {W : WX} {XC : DX} {B : Base} {env : Env} {σ : L2.St} {tm : List (V × D)} {H : Hp} {v : V} {x d : D} {pn : List Nat} {F : Hp} {U : Fam}
theorem map_some_get {α : Type} {xs : List α} {i : Nat} {y : Option α} : (xs.map some)[i]? = some y ↔ ∃ x, y = some x ∧ xs[i]? = some x := by
  rw [List.getElem?_map]
  cases xs[i]? with
  | none => simp
  | some a =>
    constructor
    · intro h; cases h; exact ⟨a, rfl, rfl⟩
    · rintro ⟨x, rfl, h⟩; cases h; rfl
theorem outs_get : ∀ {ow : List Nat} {env : Env} {os : List D}, outs ow env = some os → ∀ k ∈ ow, ∃ d, env[k]? = some (some d)
  | [], _, _, _, k, hk => nomatch hk
  | j :: ow, env, os, h, k, hk => by
    obtain ⟨d, os', rfl, e1, e2⟩ := outs_cons h
    rcases List.mem_cons.mp hk with rfl | hk
    · exact ⟨d, e1⟩
    · exact outs_get e2 k hk
theorem outs_congr {env env' : Env} : ∀ {ow : List Nat}, (∀ k ∈ ow, env[k]? = env'[k]?) → outs ow env = outs ow env'
  | [], _ => rfl
  | k :: ow, h => by
    unfold outs
    rw [List.mapM_cons, List.mapM_cons, h k List.mem_cons_self]
    have := outs_congr (env := env) (env' := env') (ow := ow) fun j hj => h j (List.mem_cons_of_mem _ hj)
    unfold outs at this
    rw [this]
/-- the slots beyond the arguments come, and go -/
theorem RelF.begin {vs : List V} {ds : List D} (n : Nat) (l : vs.length = ds.length) (R : RelF K B F U (ds.map some) (vs.map some) [] H) : RelF K B F U (startE n ds) (vs.map some ++ List.replicate (n - vs.length) none) [] H where
  len := by unfold startE; simp [l]
  own := fun i d e => by
    unfold startE at e
    by_cases hi : i < (ds.map some).length
    · rw [List.getElem?_append_left hi] at e
      obtain ⟨v, h1, h2⟩ := R.own i d e
      exact ⟨v, by rw [List.getElem?_append_left (by simp [l] at hi ⊢; omega)]; exact h1, h2⟩
    · rw [List.getElem?_append_right (by omega), List.getElem?_replicate] at e
      split at e <;> cases e
  tmp := fun i v d e => by simp at e
  dis := R.dis
  nof := R.nof
  liv := R.liv
  sub := R.sub
  base := R.base
  keep := R.keep
  new := R.new
  usr := R.usr
  ownA := R.ownA
  pin := fun p hp => by
    have q := R.pin p hp
    have hi : p.1 < (vs.map some).length := (List.getElem?_eq_some_iff.mp q).1
    rw [List.getElem?_append_left hi]; exact q
  ther := R.ther
theorem RelF.finish {vs : List V} {tm : List (V × D)} {ow : List Nat} (R : RelF K B F U env σ tm H) (hp : ∀ k ∈ ow, ∃ v, vs[k]? = some v ∧ (k, v) ∈ B.pins) (hp2 : ∀ p ∈ B.pins, p.1 ∈ ow) (np : NoPtr tm) {os : List D} (ho : outs ow env = some os) :
    ∃ env', RelF K B F U env' (vs.map some) tm H ∧ outs ow env' = some os := by
  refine ⟨(List.range vs.length).map fun i => if i ∈ ow then (env[i]?).join else none, ?_, ?_⟩
  · have get : ∀ i d, ((List.range vs.length).map fun i => if i ∈ ow then (env[i]?).join else none)[i]? = some (some d) → i ∈ ow ∧ env[i]? = some (some d) := fun i d e => by
      rw [List.getElem?_map] at e
      cases q : (List.range vs.length)[i]? with
      | none => rw [q] at e; cases e
      | some j =>
        rw [q] at e
        obtain ⟨h1, h2⟩ := List.getElem?_eq_some_iff.mp q
        rw [List.getElem_range] at h2
        subst h2
        have e : some (if i ∈ ow then (env[i]?).join else none) = some (some d) := e
        split at e
        · rename_i h; exact ⟨h, join_some.mp (Option.some.inj e)⟩
        · cases e
    have at_ : ∀ k ∈ ow, (vs.map some)[k]? = σ[k]? := fun k hk => by
      obtain ⟨v, h1, h2⟩ := hp k hk
      have q := R.pin _ h2
      have q : σ[k]? = some (some v) := q
      rw [q, List.getElem?_map, h1]; rfl
    refine ⟨by simp, fun i d e => ?_, fun i w d e => ?_, R.dis, R.nof, R.liv, R.sub, R.base, R.keep, R.new, R.usr, R.ownA, fun p hp' => ?_, R.ther⟩
    · obtain ⟨h1, h2⟩ := get i d e
      obtain ⟨v, h3, h4⟩ := R.own i d h2
      exact ⟨v, by rw [at_ i h1]; exact h3, h4⟩
    · rcases R.tmp i w d e with q | ⟨j, q, _⟩
      · exact .inl q
      · subst q; exact absurd (List.mem_of_getElem? e) (np w j)
    · rw [at_ _ (hp2 p hp')]; exact R.pin p hp'
  · rw [← ho]
    refine outs_congr fun k hk => ?_
    obtain ⟨v, h1, _⟩ := hp k hk
    have hlt : k < vs.length := (List.getElem?_eq_some_iff.mp h1).1
    obtain ⟨d, hd⟩ := outs_get ho k hk
    rw [List.getElem?_map, List.getElem?_range hlt, hd]
    show some (if k ∈ ow then (env[k]?).join else none) = _
    rw [if_pos hk, hd]; rfl
theorem Rel.finish {vs : List V} {tm : List (V × D)} {ow : List Nat} (R : Rel K B env σ tm H) (hp : ∀ k ∈ ow, ∃ v, vs[k]? = some v ∧ (k, v) ∈ B.pins) (hp2 : ∀ p ∈ B.pins, p.1 ∈ ow) (np : NoPtr tm) {os : List D} (ho : outs ow env = some os) :
    ∃ env', Rel K B env' (vs.map some) tm H ∧ outs ow env' = some os := by
  obtain ⟨F, U, R⟩ := R
  obtain ⟨e, h1, h2⟩ := R.finish hp hp2 np ho
  exact ⟨e, ⟨F, U, h1⟩, h2⟩
theorem RelF.bare (R : RelF K B F U env σ tm H) : ∃ U', RelF K B F U' env σ [] H := ⟨_, R.re [] (fun i => i) (fun i j e => e) fun i x e => by simp at e⟩
end
section
variable {P : Program} {w : World} {K : Frag} {mg : Str → Option Value} {base : Heap}
/-- THE RULE for a def that lets no exception out -/
theorem okD {x qual : Str} {st : Stmt} {f : Addr} {fd : FuncData} {N ps : List Str} {k : Nat} {ow : List Nat} {sp : DSp} {d : DTS} (Fn : Fun K x qual st f fd) (S : FnScope N ps (defScope st))
    (body : ∀ (cdv : Value) (A : Around) (outer : List PySem.Env) (s : Shared) (H : Hp) (E : XK), Room k (A.deeper (envOfC qual (defScope st) s.heap.objs.size f cdv)) → ∃ t, XSs (cxOf CX0 P w K mg base N qual (defScope st) f cdv A outer s H E).nox W0 X0 ow (defBody st) t d)
    (spec : ∀ ds R RX, sp ds R RX → ds.length = ps.length ∧ d (endsD ow R) (startE N.length ds)) : FnOk P w K mg base CX0 (k + 1) f fd ps (liftSp K ow sp) := by
  have len : ∀ vs H Q E, liftSp K ow sp vs H Q E → vs.length = ps.length := fun vs H Q E ⟨B, ds, R, RX, L, h, _⟩ => by
    obtain ⟨U, r⟩ := L.rel
    have := r.len
    rw [List.length_map, List.length_map] at this
    rw [← this]
    exact (spec ds R RX h).1
  refine Fn.ok S len fun cdv A outer s H vs Q E hr h => ?_
  obtain ⟨t, xs⟩ := body cdv A outer s H E hr
  obtain ⟨B, ds, R, RX, L, h, kq, kx⟩ := h
  obtain ⟨U, r⟩ := L.rel
  have hl : vs.length = ds.length := by
    have := r.len
    rw [List.length_map, List.length_map] at this
    exact this.symm
  refine ⟨t, xs.p, xs.d.run B ⟨fun i hi => L.own ▸ hi, L.pin2, fun _ _ _ _ _ _ _ _ _ hx => hx.elim⟩ [] (fun v j q => nomatch q) _ _ H _ _ ⟨B.F, U, r.begin N.length hl⟩ ?_ (spec ds R RX h).2⟩
  have fin : ∀ v r env σ H', Rel K B env σ [(v, r)] H' → rtD ow R r env → Q v H' := fun v r env σ H' R' ⟨h1, os, h2, h3⟩ => by
    obtain ⟨env', r2, h4⟩ := R'.finish L.pin L.pin2 (noP1 (isP_no h1)) h2
    exact kq r os env' v H' h3 h1 r2 h4
  exact ⟨fun env σ H' R' h' => fin .non .non env σ H' (R'.val fun F => .non) h', fun v r env σ H' R' h' => fin v r env σ H' R' h', fun env σ H' R' h' => h'.elim, fun env σ H' R' h' => h'.elim⟩
/-- .. for a def that may let one out -/
theorem okDX {x qual : Str} {st : Stmt} {f : Addr} {fd : FuncData} {N ps : List Str} {k : Nat} {ow : List Nat} {sp : DSp} {d : DX → DTS} (Fn : Fun K x qual st f fd) (S : FnScope N ps (defScope st))
    (body : ∀ (cdv : Value) (A : Around) (outer : List PySem.Env) (s : Shared) (H : Hp) (E : XK) (XC : DX), Room k (A.deeper (envOfC qual (defScope st) s.heap.objs.size f cdv)) →
      Takes (cxOf (L2.CX P w) P w K mg base N qual (defScope st) f cdv A outer s H E) (fun cls d _ H => E cls d H) →
      PassesOwn (model P w) (cxOf (L2.CX P w) P w K mg base N qual (defScope st) f cdv A outer s H E).A (cxOf (L2.CX P w) P w K mg base N qual (defScope st) f cdv A outer s H E).env (cxOf (L2.CX P w) P w K mg base N qual (defScope st) f cdv A outer s H E).xe →
      ∃ t, XSs (cxOf (L2.CX P w) P w K mg base N qual (defScope st) f cdv A outer s H E) (fun cls d _ H => E cls d H) XC ow (defBody st) t (d XC))
    (spec : ∀ ds R RX, sp ds R RX → ds.length = ps.length ∧ d (xcD ow RX) (endsD ow R) (startE N.length ds)) : FnOk P w K mg base (L2.CX P w) (k + 1) f fd ps (liftSp K ow sp) := by
  have len : ∀ vs H Q E, liftSp K ow sp vs H Q E → vs.length = ps.length := fun vs H Q E ⟨B, ds, R, RX, L, h, _⟩ => by
    obtain ⟨U, r⟩ := L.rel
    have := r.len
    rw [List.length_map, List.length_map] at this
    rw [← this]
    exact (spec ds R RX h).1
  refine Fun.okX Fn S len fun cdv A outer s H vs Q E hr h => ?_
  obtain ⟨B, ds, R, RX, L, h, kq, kx⟩ := h
  obtain ⟨t, xs⟩ := body cdv A outer s H E (xcD ow RX) hr (takes_of rfl rfl rfl rfl) (passes_of rfl)
  obtain ⟨U, r⟩ := L.rel
  have hl : vs.length = ds.length := by
    have := r.len
    rw [List.length_map, List.length_map] at this
    exact this.symm
  refine ⟨t, xs.p, xs.d.run B ⟨fun i hi => L.own ▸ hi, L.pin2, fun C fs env σ tm H' d F U hx R' xo fl => ?_⟩ [] (fun v j q => nomatch q) _ _ H _ _ ⟨B.F, U, r.begin N.length hl⟩ ?_ (spec ds R RX h).2⟩
  · obtain ⟨os, ho, hx⟩ := hx
    obtain ⟨U', R2⟩ := R'.bare
    obtain ⟨env', R3, h4⟩ := R2.finish L.pin L.pin2 (fun v j q => nomatch q) ho
    exact kx C fs os env' d H' F U' hx R3 h4 xo fl
  have fin : ∀ v r env σ H', Rel K B env σ [(v, r)] H' → rtD ow R r env → Q v H' := fun v r env σ H' R' ⟨h1, os, h2, h3⟩ => by
    obtain ⟨env', r2, h4⟩ := R'.finish L.pin L.pin2 (noP1 (isP_no h1)) h2
    exact kq r os env' v H' h3 h1 r2 h4
  exact ⟨fun env σ H' R' h' => fin .non .non env σ H' (R'.val fun F => .non) h', fun v r env σ H' R' h' => fin v r env σ H' R' h', fun env σ H' R' h' => h'.elim, fun env σ H' R' h' => h'.elim⟩
end
section
variable {K : Frag} {W : WX} {XC : DX} {B : Base} {env : Env} {σ : L2.St} {tm : List (V × D)} {H : Hp} {v : V} {x d : D} {pn : List Nat} {F : Hp} {U : Fam}
/-! ### calls -/
def sRes (f : DSp) (ds : List D) (Q : D → Prop) : Prop := f ds (fun r _ => Q r) fun _ _ _ => False
/-- f(..), all that is handed over stands -/
@[simp] def dCall (f : DSp) (dd : List D) (da : DTA) : DTE := fun env Q => da env fun ds e => ds.all isR = true ∧ f (ds ++ dd) (fun r _ => Q r e) fun _ _ _ => False
theorem argOk0 {ds : List D} (h : ds.all isR = true) : ArgOk [] env ds :=
  ⟨fun k hk => (nomatch hk), fun k d e _ => List.all_eq_true.mp h d (List.mem_of_getElem? e), fun k k' j e _ => by
    have := List.all_eq_true.mp h _ (List.mem_of_getElem? e)
    exact nomatch this⟩
theorem argD_R {ds : List D} (h : ds.all isR = true) : ds.map (argD env) = ds := by
  induction ds with
  | nil => rfl
  | cons d ds ih =>
    rw [List.all_cons, Bool.and_eq_true] at h
    rw [List.map_cons, ih h.2]
    congr 1
    have := h.1
    cases d <;> first | rfl | exact nomatch this
/-- the callee's promise out of the caller's state -/
theorem Rel.callee {vs : List V} {ds : List D} {ow : List Nat} {f : DSp} {Q : VK} {E : XK} {R : D → List D → Prop} {RX : String → List (Str × V) → List D → Prop} (r : Rel K B env σ (vs.zip ds ++ tm) H) (l : vs.length = ds.length) (ok : ArgOk ow env ds)
    (h : f (ds.map (argD env)) R RX) (hq : ∀ r os v H', R r os → Rel K B (putO ds ow os env) σ ((v, r) :: tm) H' → Q v H') (hx : ∀ C fs os d H' F U, RX C fs os → RelF K B F U (putO ds ow os env) σ tm H' → XOk fs d F → (∀ p ∈ fs, flatV p.2 = true) → E (.ref (clsA K C)) d H') : liftSp K ow f vs H Q E := by
  obtain ⟨F, U, r⟩ := r
  have R0 := r.entry l ok
  refine ⟨calleeB F H U ow vs ds, ds.map (argD env), R, RX, ⟨rfl, ⟨_, R0⟩, rfl, fun k hk => ?_, fun p hp => ?_⟩, h, fun r' os env' v H' h1 h2 h3 h4 => ?_, fun C fs os env' d H' F1 U1 h1 h3 h4 h5 h6 => ?_⟩
  · obtain ⟨j, d, e1, _⟩ := ok.own k hk
    obtain ⟨w, e2, _⟩ := zip_get l e1
    exact ⟨w, e2, List.mem_filterMap.mpr ⟨k, hk, by rw [e2]; rfl⟩⟩
  · obtain ⟨k, hk, e⟩ := List.mem_filterMap.mp hp
    cases q : vs[k]? with
    | none => rw [q] at e; cases e
    | some v => rw [q] at e; cases e; exact hk
  · obtain ⟨F1, U1, P⟩ := h3
    exact hq r' os v H' h1 ⟨_, _, r.after l ok P (isP_no h2) (putO_len ds ow os env) (putO_get ds env' ok.dis ow os env h4)⟩
  · have P := h3.push (v := .non) (d := .non) .non
    have q := r.after l ok P (fun j z => nomatch z) (putO_len ds ow os env) (putO_get ds env' ok.dis ow os env h4)
    exact hx C fs os d H' F1 _ h1 (q.re tm (· + 1) (fun i j e => Nat.succ.inj e) fun i x e => e) h5 h6
theorem putO_nil {ds os : List D} : putO ds [] os env = env := by unfold putO; rfl
theorem RelF.vals (R : RelF K B F U env σ tm H) : ∀ {dvs : List V} {dd : List D}, dvs.length = dd.length → (∀ (i : Nat) v d, dvs[i]? = some v → dd[i]? = some d → Rep K F v d) → ∃ U', RelF K B F U' env σ (dvs.zip dd ++ tm) H := fun {dvs dd} l r => R.pushAll dvs dd l r
theorem de_call {t : TA} {da : DTA} {f : DSp} {dvs : List V} {E : XK} (h : DA K W XC pn t da) (hd : dvs.all isSc = true) : DE K W XC pn (tCall (liftSp K [] f) dvs E t) (dCall f (dvs.map ofV) da) := ⟨fun B ok tm env σ H Q R r h' k => h.run B ok tm env σ H _ _ r h' fun ds e vs H1 ⟨q1, q2⟩ l r1 => by
  have hdd : (dvs.map ofV).all isR = true := List.all_eq_true.mpr fun d hd => by
    obtain ⟨v, _, rfl⟩ := List.mem_map.mp hd
    cases v <;> rfl
  have q3 : (ds ++ dvs.map ofV).all isR = true := by rw [List.all_append, q1, hdd]; rfl
  -- the defaults are put by, beneath the arguments
  have r2 : Rel K B e σ ((vs ++ dvs).zip (ds ++ dvs.map ofV) ++ tm) H1 := by
    obtain ⟨F, U, r1⟩ := r1
    have kd := r1.kids l q1
    obtain ⟨U1, r3⟩ := r1.popL
    have rd : ∀ (i : Nat) v d, dvs[i]? = some v → (dvs.map ofV)[i]? = some d → Rep K F v d := fun i v d e1 e2 => by
      rw [List.getElem?_map, e1] at e2
      cases e2
      exact rep_sc (List.all_eq_true.mp hd v (List.mem_of_getElem? e1))
    obtain ⟨U2, r4⟩ := r3.pushAll (vs ++ dvs) (ds ++ dvs.map ofV) (by simp [l]) (app_rep l (by simp) kd rd)
    exact ⟨_, _, r4⟩
  refine Rel.callee (ow := []) r2 (by simp [l]) (argOk0 q3) (R := fun r _ => R r e) (RX := fun _ _ _ => False) (by rw [argD_R q3]; exact q2) (fun r os v H' h1 h2 => ?_) fun C fs os d H' F U h1 => h1.elim
  rw [putO_nil] at h2
  exact k _ _ _ _ h1 h2⟩
/-- f(..), some of one's own is handed over, and is changed -/
@[simp] def argB (ow : List Nat) (e : Env) : Nat → List D → Bool
  | _, [] => true
  | k, d :: ds => (if ow.contains k then (match d with | .ptr j => (match e[j]? with | some (some _) => true | _ => false) | _ => false) else isR d) && argB ow e (k + 1) ds
@[simp] def ndB : List Nat → Bool
  | [] => true
  | i :: l => !l.contains i && ndB l
theorem argB_ok {ow : List Nat} {e : Env} : ∀ {ds : List D} {k : Nat}, argB ow e k ds = true → (∀ (i : Nat) d, ds[i]? = some d → (k + i ∈ ow → ∃ j dj, d = .ptr j ∧ e[j]? = some (some dj)) ∧ (k + i ∉ ow → isR d = true))
  | [], k, _, i, d, h => by simp at h
  | d :: ds, k, h, i, d', hd => by
    unfold argB at h
    rw [Bool.and_eq_true] at h
    cases i with
    | zero =>
      cases hd
      have h1 := h.1
      refine ⟨fun hk => ?_, fun hk => ?_⟩
      · rw [if_pos (by simpa using hk)] at h1
        split at h1
        · split at h1
          · rename_i j _ dj e1
            exact ⟨_, _, rfl, e1⟩
          · cases h1
        · cases h1
      · rw [if_neg (by simpa using hk)] at h1
        exact h1
    | succ i =>
      have := argB_ok (ds := ds) (k := k + 1) h.2 i d' hd
      rw [show k + 1 + i = k + (i + 1) by omega] at this
      exact this
theorem ptrs_mem : ∀ {ds : List D} {i j : Nat}, ds[i]? = some (D.ptr j) → j ∈ ptrs ds
  | [], i, j, h => by simp at h
  | d :: ds, 0, j, h => by cases h; unfold ptrs; exact List.mem_cons_self
  | d :: ds, i + 1, j, h => by
    have q := ptrs_mem (ds := ds) (i := i) (j := j) h
    cases d <;> first | exact q | exact List.mem_cons_of_mem _ q
theorem ndB_ok : ∀ {ds : List D}, ndB (ptrs ds) = true → ∀ (k k' j : Nat), ds[k]? = some (D.ptr j) → ds[k']? = some (.ptr j) → k = k'
  | [], _, k, k', j, h, _ => by simp at h
  | d :: ds, h, k, k', j, h1, h2 => by
    have tail : ndB (ptrs ds) = true := by
      cases d <;> first | exact h | (unfold ptrs ndB at h; rw [Bool.and_eq_true] at h; exact h.2)
    cases k <;> cases k'
    · rfl
    · cases h1
      unfold ptrs ndB at h
      rw [Bool.and_eq_true] at h
      have := ptrs_mem (ds := ds) h2
      simp [this] at h
    · cases h2
      unfold ptrs ndB at h
      rw [Bool.and_eq_true] at h
      have := ptrs_mem (ds := ds) h1
      simp [this] at h
    · rw [ndB_ok tail _ _ j h1 h2]
theorem argOk_of {ow : List Nat} {ds : List D} (h1 : argB ow env 0 ds = true) (h2 : ndB (ptrs ds) = true) (h3 : ow.all (fun k => decide (k < ds.length)) = true) : ArgOk ow env ds where
  own := fun k hk => by
    have lt : k < ds.length := by simpa using List.all_eq_true.mp h3 k hk
    obtain ⟨j, dj, e1, e2⟩ := (argB_ok h1 k _ (List.getElem?_eq_getElem lt)).1 (by rw [Nat.zero_add]; exact hk)
    exact ⟨j, dj, by rw [List.getElem?_eq_getElem lt, e1], e2⟩
  oth := fun k d e hk => (argB_ok h1 k d e).2 (by rw [Nat.zero_add]; exact hk)
  dis := ndB_ok h2
@[simp] def dCallO (ow : List Nat) (f : DSp) (da : DTA) : DTE := fun env Q => da env fun ds e => argB ow e 0 ds = true ∧ ndB (ptrs ds) = true ∧ ow.all (fun k => decide (k < ds.length)) = true ∧ f (ds.map (argD e)) (fun r os => Q r (putO ds ow os e)) fun _ _ _ => False
theorem de_callO {t : TA} {da : DTA} {f : DSp} {ow : List Nat} {E : XK} (h : DA K W XC pn t da) : DE K W XC pn (tCall (liftSp K ow f) [] E t) (dCallO ow f da) := ⟨fun B ok tm env σ H Q R r h' k => h.run B ok tm env σ H _ _ r h' fun ds e vs H1 ⟨q1, q2, q3, q4⟩ l r1 => by
  show liftSp K ow f (vs ++ []) H1 Q E
  rw [List.append_nil]
  exact Rel.callee r1 l (argOk_of q1 q2 q3) (R := fun r os => R r (putO ds ow os e)) (RX := fun _ _ _ => False) q4 (fun r os v H' h1 h2 => k _ _ _ _ h1 h2) fun C fs os d H' F U h1 => h1.elim⟩
end
end DL

/-! ## DLk.lean -/
namespace DL
open PySem PySem.Spec PyProof.Rows L2
open Dat (toD)
section
variable {K : Frag} {W : WX} {XC : DX} {B : Base} {env : Env} {σ : L2.St} {tm : List (V × D)} {H : Hp} {v : V} {x d : D} {pn : List Nat} {F : Hp} {U : Fam}
theorem de_ty (n : String) : DE K W XC pn (tC (.ty n)) (dC (.ty n)) := ⟨fun B ok tm env σ H Q R r h' k => k _ _ _ _ h' (r.val fun F => .ty n)⟩
theorem de_cls (n : String) : DE K W XC pn (tC (.ref (clsA K n))) (dC (.cls n)) := ⟨fun B ok tm env σ H Q R r h' k => k _ _ _ _ h' (r.val fun F => .cls n)⟩
@[simp] def dYes : DTT := fun env Q => Q true env
theorem dt_yes : DT K W XC pn tYes dYes := ⟨fun B ok tm env σ H Q R r h k => k _ _ _ h r⟩
/-! ### isinstance of a built-in class -/
def tyN : D → Option String
  | .non => some "NoneType"
  | .bl _ => some "bool"
  | .int _ => some "int"
  | .str _ => some "str"
  | .lst _ => some "list"
  | .mt _ => some "list"
  | .mm _ => some "list"
  | .tup _ => some "tuple"
  | .dc _ => some "dict"
  | _ => none
@[simp] theorem tyN_non : tyN .non = some "NoneType" := rfl
@[simp] theorem tyN_bl (b : Bool) : tyN (.bl b) = some "bool" := rfl
@[simp] theorem tyN_int (b : Int) : tyN (.int b) = some "int" := rfl
@[simp] theorem tyN_str (b : Str) : tyN (.str b) = some "str" := rfl
@[simp] theorem tyN_lst (b : List D) : tyN (.lst b) = some "list" := rfl
@[simp] theorem tyN_mt (b : List D) : tyN (.mt b) = some "list" := rfl
@[simp] theorem tyN_mm (b : List D) : tyN (.mm b) = some "list" := rfl
@[simp] theorem tyN_tup (b : List D) : tyN (.tup b) = some "tuple" := rfl
@[simp] theorem tyN_dc (b : List (Key × V)) : tyN (.dc b) = some "dict" := rfl
theorem Own.ty {S : Addr → Prop} {n : String} (h : Own K F H v d S) (sub : Same F H) (e : tyN d = some n) : TyX K H v (.type n) := by
  cases h with
  | frz h =>
    cases h with
    | non => cases e; exact .base .non
    | bl b => cases e; exact .base (.bl b)
    | int b => cases e; exact .base (.int b)
    | str b => cases e; exact .base (.str b)
    | lst h => cases e; exact .base (.lst (sub _ _ h))
    | tup h =>
      cases e
      rcases seqT_same sub h with (h | ⟨o, h⟩) | ⟨o, its, n, h, hc, _⟩
      · exact .base (.tup h)
      · exact .fTuple h
      · exact .kTuple h hc
    | _ => cases e
  | mt ha h => cases e; exact .base (.lst h)
  | mm Sc ha h => cases e; exact .base (.lst h)
  | mo => cases e
  | dc ha h => cases e; exact .base (.dK h)
def tyNs : List String := ["NoneType", "bool", "int", "str", "list", "tuple", "dict"]
def isT (a n : String) : Bool := a == n || (a == "bool" && n == "int")
theorem kitB_all : ∀ a ∈ tyNs, ∀ n ∈ tyNs, kitB a n = some (isT a n) := by decide +kernel
theorem tyN_mem {a : String} (h : tyN d = some a) : a ∈ tyNs := by
  cases d <;> cases h <;> decide
/-- isinstance(x, T), T a built-in class -/
@[simp] def cIsi : DFn := fun ds env Q => ∃ x n d a, ds = [x, .ty n] ∧ res env x = some d ∧ tyN d = some a ∧ tyNs.contains n = true ∧ Q (.bl (isT a n))
theorem dc_isi : DCl K (rIsi K) cIsi := ⟨fun B tm env σ H ds vs Q R l r h k => by
  obtain ⟨x, n, d, a, rfl, e1, e2, e3, h⟩ := h
  obtain ⟨v, w, rfl⟩ := len2 l
  have r' : Rel K B env σ ((v, x) :: (w, .ty n) :: tm) H := r
  have qw : w = .ty n := by
    obtain ⟨F, U, r2⟩ := r'
    rcases r2.tmp 1 w (.ty n) rfl with q | ⟨j, q, _⟩
    · cases q with | frz q => cases q; rfl
    · cases q
  subst qw
  obtain ⟨F, U, S, r2, o, sub⟩ := r'.look1 e1
  exact ⟨v, .ty n, .type a, .type n, _, rfl, .ty n, o.ty sub e2, kit_ty (kitB_all a (tyN_mem e2) n (by simpa using e3)), k _ _ _ h (r'.pop.pop.val fun F => .bl _)⟩⟩
/-! ### -x -/
@[simp] def dNeg (g : Int → Int) (da : DTE) : DTE := fun env Q => da env fun x e => ∃ i, x = .int i ∧ Q (.int (g i)) e
theorem de_neg {t : TE} {da : DTE} {g : Int → Int} (h : DE K W XC pn t da) : DE K W XC pn (tUn (rU fun i => .int (g i)) t) (dNeg g da) := ⟨fun B ok tm env σ H Q R r h' k => h.run B ok tm env σ H _ _ r h' fun x e v H1 ⟨i, q, q2⟩ r1 => by
  subst q
  have qi := r1.int
  subst qi
  exact ⟨i, rfl, k _ _ _ _ q2 (r1.pop.val fun F => .int _)⟩⟩
/-! ### a call that looks at one's own lists, and hands a flat value back -/
@[simp] def lookD (e : Env) (d : D) : D := frz (argD e d)
@[simp] def dCallB (f : DSp) (da : DTA) : DTE := fun env Q => da env fun ds e => ds.all (fun d => (res e d).isSome && isF (argD e d)) = true ∧ f (ds.map (lookD e)) (fun r _ => (scV r).isSome = true ∧ Q r e) fun _ _ _ => False
open Classical in
theorem de_callB {t : TA} {da : DTA} {f : DSp} {E : XK} (h : DA K W XC pn t da) : DE K W XC pn (tCall (liftSp K [] f) [] E t) (dCallB f da) := ⟨fun B ok tm env σ H Q R r h' k => h.run B ok tm env σ H _ _ r h' fun ds e vs H1 ⟨q1, q2⟩ l r1 => by
  show liftSp K [] f (vs ++ []) H1 Q E
  rw [List.append_nil]
  obtain ⟨F, U, r1⟩ := r1
  -- all that is one's own stands for the while
  let A : Addr → Prop := fun b => ∃ x, U x b
  let F2 : Hp := fun b => if A b then H1 b else F b
  have sF : Same F F2 := Same.both r1.sub fun a ⟨x, u⟩ => r1.nof x a u
  have sub2 : Same F2 H1 := fun b o q => by
    have q : (if A b then H1 b else F b) = some o := q
    split at q
    · exact q
    · exact r1.sub b o q
  have rp : ∀ (i : Nat) v d, vs[i]? = some v → (ds.map (lookD e))[i]? = some d → Rep K F2 v d := fun i v d h1 h2 => by
    rw [List.getElem?_map] at h2
    cases q : ds[i]? with
    | none => rw [q] at h2; cases h2
    | some d0 =>
      rw [q] at h2
      cases h2
      obtain ⟨w, g1, g2⟩ := zip_get l q
      rw [h1] at g1; cases g1
      have hlt : i < (vs.zip ds).length := (List.getElem?_eq_some_iff.mp g2).1
      have hz := List.all_eq_true.mp q1 d0 (List.mem_of_getElem? q)
      rw [Bool.and_eq_true] at hz
      obtain ⟨d1, hd1⟩ := Option.isSome_iff_exists.mp hz.1
      have ea : argD e d0 = d1 := by unfold argD; rw [hd1]; rfl
      have hf := hz.2
      rw [ea] at hf
      unfold lookD
      rw [ea]
      have own : ∃ S, Own K F H1 v d1 S ∧ ∀ a, S a → A a := by
        rcases r1.tmp i v d0 (by rw [List.getElem?_append_left hlt]; exact g2) with q' | ⟨j, rfl, q'⟩
        · have : d0 = d1 := by
            cases d0 <;> first | exact Option.some.inj hd1 | (cases q' with | frz q' => cases q')
          subst this
          exact ⟨_, q', fun a u => ⟨_, u⟩⟩
        · obtain ⟨w, g3, g4⟩ := r1.own j d1 (join_some.mp hd1)
          rw [g3] at q'; cases q'
          exact ⟨_, g4, fun a u => ⟨_, u⟩⟩
      obtain ⟨S, o, hS⟩ := own
      exact o.rep sF (fun a u s q => by show (if A a then H1 a else F a) = some u; rw [if_pos (hS a s)]; exact q) (Frz.of hf)
  refine ⟨⟨F2, H1, fun _ _ => False, [], []⟩, ds.map (lookD e), _, _, ⟨rfl, ⟨fun _ _ => False, ?_⟩, rfl, fun k hk => (nomatch hk), fun p hp => (nomatch hp)⟩, q2, fun r os env' v H' h1 h2 h3 h4 => ?_, fun C fs os env' d H' F U h1 => h1.elim⟩
  · refine ⟨by simp [l], fun i d e' => ?_, fun i v d e' => by simp at e', fun x y a u => u.elim, fun x a u => u.elim, fun x a u => u.elim, sub2, Same.refl F2, fun b o q _ => q, fun b o q => .inl q, fun x a u => u.elim, fun i a u => u.elim, fun p hp => (nomatch hp), fun b q => q⟩
    obtain ⟨d', q, e2⟩ := map_some_get.mp e'
    cases q
    have hlt : i < vs.length := by rw [l]; have := (List.getElem?_eq_some_iff.mp e2).1; simpa using this
    exact ⟨vs[i], by rw [List.getElem?_map, List.getElem?_eq_getElem hlt]; rfl, .frz (rp i _ d (List.getElem?_eq_getElem hlt) e2)⟩
  · obtain ⟨hs, h1⟩ := h1
    obtain ⟨u, hu⟩ := Option.isSome_iff_exists.mp hs
    obtain ⟨F1, U1, P⟩ := h3
    have fA : ∀ b, A b → F b = none := fun b ⟨x, u⟩ => r1.nof x b u
    let F3 : Hp := fun b => if A b then none else F1 b
    have s3 : Same F F3 := fun b o q => by
      show (if A b then none else F1 b) = some o
      rw [if_neg fun z => by rw [fA b z] at q; cases q]
      exact P.base b o (sF b o q)
    have st : ∀ b o, H1 b = some o → H' b = some o := fun b o q => P.keep b o q fun i z => z
    have qv : v = u := by
      rcases P.tmp 0 v r rfl with q | ⟨j, q, _⟩
      · exact q.sc hu
      · rw [q] at h2; cases h2
    obtain ⟨U', r2, hU⟩ : ∃ U', RelF K B F U' e σ tm H1 ∧ ∀ x b, U' x b → A b := by
      refine ⟨_, r1.re tm (· + (vs.zip ds).length) (fun i j e => Nat.add_right_cancel e) fun i x e => ?_, fun x b u => ?_⟩
      · rw [List.getElem?_append_right (by omega), Nat.add_sub_cancel]; exact e
      · rcases x with i | i
        · exact ⟨_, u⟩
        · exact ⟨_, u⟩
    refine k r e v H' h1 (Rel.val ⟨F3, U', ?_⟩ fun G => ?_)
    · refine ⟨r2.len, fun i d q => ?_, fun i w d q => ?_, r2.dis, fun x b u => if_pos (hU x b u), fun x b u => P.ther b (r2.liv x b u), fun b o q => ?_, r2.base.trans s3, fun b o q n => st b o (r2.keep b o q n), fun b o q => ?_, r2.usr, r2.ownA, r2.pin, fun b q => P.ther b (r2.ther b q)⟩
      · obtain ⟨w, h1, h2⟩ := r2.own i d q
        exact ⟨w, h1, h2.stay s3 fun a o _ q => st a o q⟩
      · exact (r2.tmp i w d q).imp (fun h => h.stay s3 fun a o _ q => st a o q) id
      · have q : (if A b then none else F1 b) = some o := q
        split at q
        · cases q
        · exact P.sub b o q
      · have q : (if A b then none else F1 b) = some o := q
        split at q
        · cases q
        · rename_i nA
          rcases P.new b o q with z | z
          · have z : (if A b then H1 b else F b) = some o := z
            rw [if_neg nA] at z
            exact r2.new b o z
          · rcases none_or (H := B.H) (b := b) with y | y
            · exact .inr y
            · exact absurd z (r2.ther b y)
    · have : Rep K G u (ofV u) := rep_sc (by cases r <;> cases hu <;> rfl)
      rw [qv]
      have e2 : ofV u = r := by cases r <;> cases hu <;> rfl
      rw [e2] at this; exact this⟩
end
end DL

/-! ## DLs.lean -/
namespace DL
open PySem PySem.Spec PyProof.Rows L2
open Dat (toD)
@[simp] theorem isR_int (i : Int) : isR (.int i) = true := rfl
@[simp] theorem isR_bl (i : Bool) : isR (.bl i) = true := rfl
@[simp] theorem isR_str (i : Str) : isR (.str i) = true := rfl
@[simp] theorem isR_non : isR .non = true := rfl
@[simp] theorem isR_lst (i : List D) : isR (.lst i) = true := rfl
@[simp] theorem isR_scr (i : List D) : isR (.scr i) = true := rfl
@[simp] theorem isR_tup (i : List D) : isR (.tup i) = true := rfl
@[simp] theorem isR_ty (i : String) : isR (.ty i) = true := rfl
@[simp] theorem isR_cls (i : String) : isR (.cls i) = true := rfl
@[simp] theorem isR_obj (C : String) (i : List (Str × D)) : isR (.obj C i) = true := rfl
@[simp] theorem isR_mt (i : List D) : isR (.mt i) = false := rfl
@[simp] theorem isR_mm (i : List D) : isR (.mm i) = false := rfl
@[simp] theorem isR_mo (C : String) (i : List (Str × D)) : isR (.mo C i) = false := rfl
@[simp] theorem isR_dc (i : List (Key × V)) : isR (.dc i) = false := rfl
@[simp] theorem isR_at (i : Addr) : isR (.at i) = true := rfl
@[simp] theorem isF_at (i : Addr) : isF (.at i) = true := rfl
@[simp] theorem frz_at (i : Addr) : frz (.at i) = .at i := rfl
@[simp] theorem isR_ptr' (i : Nat) : isR (.ptr i) = false := rfl
@[simp] theorem isR_toD {α : Type} [Dat α] (x : α) : isR (toD x) = true := Dat.rr x
@[simp] theorem isF_int' (i : Int) : isF (.int i) = true := rfl
@[simp] theorem isP_int' (i : Int) : isP (.int i) = false := rfl
@[simp] theorem frz_int' (i : Int) : frz (.int i) = (.int i) := rfl
@[simp] theorem isNon_int' (i : Int) : isNon (.int i) = false := rfl
@[simp] theorem tyD_int' (i : Int) : tyD "int" (.int i) = true := rfl
@[simp] theorem isF_bl' (i : Bool) : isF (.bl i) = true := rfl
@[simp] theorem isP_bl' (i : Bool) : isP (.bl i) = false := rfl
@[simp] theorem frz_bl' (i : Bool) : frz (.bl i) = (.bl i) := rfl
@[simp] theorem isNon_bl' (i : Bool) : isNon (.bl i) = false := rfl
@[simp] theorem isF_str' (i : Str) : isF (.str i) = true := rfl
@[simp] theorem isP_str' (i : Str) : isP (.str i) = false := rfl
@[simp] theorem frz_str' (i : Str) : frz (.str i) = (.str i) := rfl
@[simp] theorem isNon_str' (i : Str) : isNon (.str i) = false := rfl
@[simp] theorem tyD_str' (i : Str) : tyD "str" (.str i) = true := rfl
@[simp] theorem isF_non'  : isF .non = true := rfl
@[simp] theorem isP_non'  : isP .non = false := rfl
@[simp] theorem frz_non'  : frz .non = .non := rfl
@[simp] theorem isNon_non'  : isNon .non = true := rfl
@[simp] theorem isF_lst' (i : List D) : isF (.lst i) = true := rfl
@[simp] theorem isP_lst' (i : List D) : isP (.lst i) = false := rfl
@[simp] theorem frz_lst' (i : List D) : frz (.lst i) = (.lst i) := rfl
@[simp] theorem isNon_lst' (i : List D) : isNon (.lst i) = false := rfl
@[simp] theorem tyD_lst' (i : List D) : tyD "list" (.lst i) = true := rfl
@[simp] theorem isF_scr' (i : List D) : isF (.scr i) = true := rfl
@[simp] theorem isP_scr' (i : List D) : isP (.scr i) = false := rfl
@[simp] theorem frz_scr' (i : List D) : frz (.scr i) = (.scr i) := rfl
@[simp] theorem isNon_scr' (i : List D) : isNon (.scr i) = false := rfl
@[simp] theorem tyD_scr' (i : List D) : tyD "list" (.scr i) = true := rfl
@[simp] theorem isF_tup' (i : List D) : isF (.tup i) = true := rfl
@[simp] theorem isP_tup' (i : List D) : isP (.tup i) = false := rfl
@[simp] theorem frz_tup' (i : List D) : frz (.tup i) = (.tup i) := rfl
@[simp] theorem isNon_tup' (i : List D) : isNon (.tup i) = false := rfl
@[simp] theorem isF_ty' (i : String) : isF (.ty i) = true := rfl
@[simp] theorem isP_ty' (i : String) : isP (.ty i) = false := rfl
@[simp] theorem frz_ty' (i : String) : frz (.ty i) = (.ty i) := rfl
@[simp] theorem isNon_ty' (i : String) : isNon (.ty i) = false := rfl
@[simp] theorem isF_cls' (i : String) : isF (.cls i) = true := rfl
@[simp] theorem isP_cls' (i : String) : isP (.cls i) = false := rfl
@[simp] theorem frz_cls' (i : String) : frz (.cls i) = (.cls i) := rfl
@[simp] theorem isNon_cls' (i : String) : isNon (.cls i) = false := rfl
@[simp] theorem isF_obj' (C : String) (i : List (Str × D)) : isF (.obj C i) = true := rfl
@[simp] theorem isP_obj' (C : String) (i : List (Str × D)) : isP (.obj C i) = false := rfl
@[simp] theorem frz_obj' (C : String) (i : List (Str × D)) : frz (.obj C i) = (.obj C i) := rfl
@[simp] theorem isNon_obj' (C : String) (i : List (Str × D)) : isNon (.obj C i) = false := rfl
@[simp] theorem isF_mt' (i : List D) : isF (.mt i) = true := rfl
@[simp] theorem isP_mt' (i : List D) : isP (.mt i) = false := rfl
@[simp] theorem frz_mt' (i : List D) : frz (.mt i) = (.lst i) := rfl
@[simp] theorem isNon_mt' (i : List D) : isNon (.mt i) = false := rfl
@[simp] theorem tyD_mt' (i : List D) : tyD "list" (.mt i) = true := rfl
@[simp] theorem isF_mm' (i : List D) : isF (.mm i) = i.all isF1 := rfl
@[simp] theorem isP_mm' (i : List D) : isP (.mm i) = false := rfl
@[simp] theorem frz_mm' (i : List D) : frz (.mm i) = (.lst (i.map frz1)) := rfl
@[simp] theorem fixK_mm (pn : List Nat) (i : List D) (env : Env) (Q : D → Env → Prop) : fixK pn (.mm i) env Q = (i.all isF1 = true ∧ Q (.lst (i.map frz1)) env) := rfl
@[simp] theorem isNon_mm' (i : List D) : isNon (.mm i) = false := rfl
@[simp] theorem tyD_mm' (i : List D) : tyD "list" (.mm i) = true := rfl
@[simp] theorem isF_mo' (C : String) (i : List (Str × D)) : isF (.mo C i) = i.all (fun p => isR p.2) := rfl
@[simp] theorem isP_mo' (C : String) (i : List (Str × D)) : isP (.mo C i) = false := rfl
@[simp] theorem frz_mo' (C : String) (i : List (Str × D)) : frz (.mo C i) = (.obj C i) := rfl
@[simp] theorem isNon_mo' (C : String) (i : List (Str × D)) : isNon (.mo C i) = false := rfl
@[simp] theorem isF_dc' (i : List (Key × V)) : isF (.dc i) = false := rfl
@[simp] theorem isP_dc' (i : List (Key × V)) : isP (.dc i) = false := rfl
@[simp] theorem frz_dc' (i : List (Key × V)) : frz (.dc i) = (.dc i) := rfl
@[simp] theorem isNon_dc' (i : List (Key × V)) : isNon (.dc i) = false := rfl
@[simp] theorem tyD_dc' (i : List (Key × V)) : tyD "dict" (.dc i) = true := rfl
@[simp] theorem isF_ptr' (i : Nat) : isF (.ptr i) = false := rfl
@[simp] theorem isP_ptr' (i : Nat) : isP (.ptr i) = true := rfl
@[simp] theorem frz_ptr' (i : Nat) : frz (.ptr i) = (.ptr i) := rfl
@[simp] theorem isNon_ptr' (i : Nat) : isNon (.ptr i) = false := rfl
theorem isF_R {d : D} (h : isR d = true) : isF d = true := by cases d <;> first | rfl | exact nomatch h
theorem frz_R {d : D} (h : isR d = true) : frz d = d := by cases d <;> first | rfl | exact nomatch h
@[simp] theorem isF_toD {α : Type} [Dat α] (x : α) : isF (toD x) = true := isF_R (Dat.rr x)
@[simp] theorem frz_toD {α : Type} [Dat α] (x : α) : frz (toD x) = toD x := frz_R (Dat.rr x)
theorem isP_R {d : D} (h : isR d = true) : isP d = false := by cases d <;> first | rfl | exact nomatch h
@[simp] theorem isP_toD {α : Type} [Dat α] (x : α) : isP (toD x) = false := isP_R (Dat.rr x)
theorem res_R (e : Env) {d : D} (h : isR d = true) : res e d = some d := by cases d <;> first | rfl | exact nomatch h
@[simp] theorem res_toD {α : Type} [Dat α] (e : Env) (x : α) : res e (toD x) = some (toD x) := res_R e (Dat.rr x)
@[simp] theorem res_int (e : Env) (i : Int) : res e (.int i) = some (.int i) := rfl
@[simp] theorem res_bl (e : Env) (i : Bool) : res e (.bl i) = some (.bl i) := rfl
@[simp] theorem res_str (e : Env) (i : Str) : res e (.str i) = some (.str i) := rfl
@[simp] theorem res_non (e : Env) : res e .non = some .non := rfl
@[simp] theorem res_lst (e : Env) (i : List D) : res e (.lst i) = some (.lst i) := rfl
@[simp] theorem res_scr (e : Env) (i : List D) : res e (.scr i) = some (.scr i) := rfl
@[simp] theorem res_tup (e : Env) (i : List D) : res e (.tup i) = some (.tup i) := rfl
@[simp] theorem res_mt (e : Env) (i : List D) : res e (.mt i) = some (.mt i) := rfl
@[simp] theorem res_mm (e : Env) (i : List D) : res e (.mm i) = some (.mm i) := rfl
@[simp] theorem isR_exc (C : String) (i : List (Str × V)) : isR (.exc C i) = true := rfl
@[simp] theorem isF_exc (C : String) (i : List (Str × V)) : isF (.exc C i) = true := rfl
@[simp] theorem isP_exc (C : String) (i : List (Str × V)) : isP (.exc C i) = false := rfl
@[simp] theorem frz_exc (C : String) (i : List (Str × V)) : frz (.exc C i) = (.exc C i) := rfl
@[simp] theorem isNon_exc (C : String) (i : List (Str × V)) : isNon (.exc C i) = false := rfl
@[simp] theorem res_exc (e : Env) (C : String) (i : List (Str × V)) : res e (.exc C i) = some (.exc C i) := rfl
@[simp] theorem res_obj (e : Env) (C : String) (i : List (Str × D)) : res e (.obj C i) = some (.obj C i) := rfl
@[simp] theorem res_ptr (e : Env) (i : Nat) : res e (.ptr i) = (e[i]?).join := rfl
@[simp] theorem all_isR_toD {α : Type} [Dat α] (xs : List α) : (xs.map toD).all isR = true := by
  rw [List.all_eq_true]; intro d h; obtain ⟨x, _, rfl⟩ := List.mem_map.mp h; exact Dat.rr x
@[simp] theorem all_isR_int (xs : List Int) : (xs.map D.int).all isR = true := all_isR_toD xs
@[simp] theorem fixK_ptr (pn : List Nat) (i : Nat) (env : Env) (Q : D → Env → Prop) : fixK pn (.ptr i) env Q = ∃ d, env[i]? = some (some d) ∧ isF d = true ∧ pn.contains i = false ∧ Q (frz d) (env.set i (some (frz d))) := rfl
@[simp] theorem fixK_int (pn : List Nat) (i : Int) (env : Env) (Q : D → Env → Prop) : fixK pn (.int i) env Q = Q (.int i) env := by simp [fixK]
@[simp] theorem fixK_bl (pn : List Nat) (i : Bool) (env : Env) (Q : D → Env → Prop) : fixK pn (.bl i) env Q = Q (.bl i) env := by simp [fixK]
@[simp] theorem fixK_str (pn : List Nat) (i : Str) (env : Env) (Q : D → Env → Prop) : fixK pn (.str i) env Q = Q (.str i) env := by simp [fixK]
@[simp] theorem fixK_non (pn : List Nat) (env : Env) (Q : D → Env → Prop) : fixK pn .non env Q = Q .non env := by simp [fixK]
@[simp] theorem fixK_lst (pn : List Nat) (i : List D) (env : Env) (Q : D → Env → Prop) : fixK pn (.lst i) env Q = Q (.lst i) env := by simp [fixK]
@[simp] theorem fixK_scr (pn : List Nat) (i : List D) (env : Env) (Q : D → Env → Prop) : fixK pn (.scr i) env Q = Q (.scr i) env := by simp [fixK]
@[simp] theorem fixK_tup (pn : List Nat) (i : List D) (env : Env) (Q : D → Env → Prop) : fixK pn (.tup i) env Q = Q (.tup i) env := by simp [fixK]
@[simp] theorem fixK_mt (pn : List Nat) (i : List D) (env : Env) (Q : D → Env → Prop) : fixK pn (.mt i) env Q = Q (.lst i) env := by simp [fixK]
@[simp] theorem fixK_obj (pn : List Nat) (C : String) (i : List (Str × D)) (env : Env) (Q : D → Env → Prop) : fixK pn (.obj C i) env Q = Q (.obj C i) env := by simp [fixK]
@[simp] theorem fixK_exc (pn : List Nat) (C : String) (i : List (Str × V)) (env : Env) (Q : D → Env → Prop) : fixK pn (.exc C i) env Q = Q (.exc C i) env := by simp [fixK]
@[simp] theorem fixK_mo (pn : List Nat) (C : String) (i : List (Str × D)) (env : Env) (Q : D → Env → Prop) : fixK pn (.mo C i) env Q = ((i.all fun p => isR p.2) = true ∧ Q (.obj C i) env) := rfl
theorem fixK_R {pn : List Nat} {d : D} (h : isR d = true) (env : Env) (Q : D → Env → Prop) : fixK pn d env Q = Q d env := by
  cases d <;> first | exact absurd h Bool.false_ne_true | simp [fixK]
@[simp] theorem fixK_toD {α : Type} [Dat α] (pn : List Nat) (x : α) (env : Env) (Q : D → Env → Prop) : fixK pn (toD x) env Q = Q (toD x) env := fixK_R (Dat.rr x) env Q
@[simp] theorem rtD_nil (R : D → List D → Prop) (r : D) (env : Env) : rtD [] R r env = (isP r = false ∧ R r []) := by
  unfold rtD outs; simp
@[simp] theorem startE_eq (n : Nat) (ds : List D) : startE n ds = ds.map some ++ List.replicate (n - ds.length) none := rfl
@[simp] theorem tupC_lst (ds : List D) : tupC (.lst ds) = none := rfl
@[simp] theorem tupC_mt (ds : List D) : tupC (.mt ds) = none := rfl
@[simp] theorem tupC_scr (ds : List D) : tupC (.scr ds) = none := rfl
@[simp] theorem lstC_tup (ds : List D) : lstC (.tup ds) = none := rfl
/-! ### loops -/
theorem forD_of {kp : Env → Prop} {g : DTG} {tb : DTS} {D' : DEnds} {α : Type} {f : α → D} {xs : List α} {env : Env} (I : Nat → Env → Prop) (h0 : I 0 env)
    (step : ∀ (i : Nat) (x : α) (e : Env) (N : Env → Prop), xs[i]? = some x → I i e → (∀ e', I (i + 1) e' → N e') → kp e ∧ g (f x) e fun e2 => tb { D' with nx := N, ct := N, bk := D'.nx } e2)
    (fin : ∀ e, I xs.length e → kp e ∧ D'.nx e) : forD kp g tb (xs.map f) D' env := by
  have key : ∀ (ys zs : List α) (e : Env), xs = zs ++ ys → I zs.length e → forD kp g tb (ys.map f) D' e := by
    intro ys
    induction ys with
    | nil =>
      intro zs e h hi
      rw [List.append_nil] at h
      subst h
      exact fin e hi
    | cons y ys ih =>
      intro zs e h hi
      exact step zs.length y e _ (by rw [h]; simp) hi fun e' he' => ih (zs ++ [y]) e' (by rw [h]; simp) (by simpa using he')
  exact key xs [] env rfl h0
/-- a loop that reckons a fold -/
theorem forD_fold {kp : Env → Prop} {g : DTG} {tb : DTS} {D' : DEnds} {α β : Type} {f : α → D} {xs : List α} {env : Env} (E : β → Env → Prop) (s0 : β) (st : β → α → β) (h0 : E s0 env)
    (step : ∀ (s : β) (x : α) (e : Env) (N : Env → Prop), x ∈ xs → E s e → (∀ e', E (st s x) e' → N e') → kp e ∧ g (f x) e fun e2 => tb { D' with nx := N, ct := N, bk := D'.nx } e2)
    (fin : ∀ e, E (xs.foldl st s0) e → kp e ∧ D'.nx e) : forD kp g tb (xs.map f) D' env := by
  refine forD_of (fun i e => E ((xs.take i).foldl st s0) e) (by simpa using h0) (fun i x e N hx he hN => step _ x e N (List.mem_of_getElem? hx) he fun e' he' => hN e' ?_) fun e he => fin e (by simpa using he)
  have hi : i < xs.length := (List.getElem?_eq_some_iff.mp hx).1
  rw [List.take_add_one, hx, List.foldl_append]
  exact he'
/-- a comprehension that stores nothing -/
theorem lcD_map {kp : Env → Prop} {g : DTG} {te : DTE} {vs : List Nat} {α : Type} {f h : α → D} {xs : List α} {env : Env} {Q : D → Env → Prop} (hk : kp env) (hl : xs.length ≤ sizeLine) (hr : ∀ x ∈ xs, isR (h x) = true)
    (step : ∀ x ∈ xs, ∀ N : D → Env → Prop, (∀ e, wipeE e vs = env → N (h x) e) → g (f x) env fun e2 => te e2 N) (fin : Q (.mt (xs.map h)) env) : lcD kp g dYes te vs (xs.map f) [] env Q := by
  have key : ∀ (ys zs : List α), xs = zs ++ ys → lcD kp g dYes te vs (ys.map f) (zs.map h) env Q := by
    intro ys
    induction ys with
    | nil =>
      intro zs e
      rw [List.append_nil] at e
      subst e
      exact ⟨hk, fin⟩
    | cons y ys ih =>
      intro zs e
      have hy : y ∈ xs := by rw [e]; simp
      have hz : zs.length < sizeLine := by
        have := congrArg List.length e
        rw [List.length_append, List.length_cons] at this
        omega
      refine ⟨hk, step y hy _ fun e4 he => ?_⟩
      refine ⟨hr y hy, by rw [List.length_map]; exact hz, ?_⟩
      show lcD kp g dYes te vs (ys.map f) (zs.map h ++ [h y]) (wipeE e4 vs) Q
      rw [he]
      have := ih (zs ++ [y]) (by rw [e]; simp)
      rw [List.map_append] at this
      exact this
  exact key xs [] rfl
/-- .. with a test -/
theorem lcD_filter {kp : Env → Prop} {g : DTG} {tt : DTT} {te : DTE} {vs : List Nat} {α : Type} {f h : α → D} {p : α → Bool} {xs : List α} {env : Env} {Q : D → Env → Prop} (hk : kp env) (hl : xs.length ≤ sizeLine) (hr : ∀ x ∈ xs, isR (h x) = true)
    (step : ∀ x ∈ xs, ∀ (M : Env → Prop) (N : D → Env → Prop), (p x = false → ∀ e, wipeE e vs = env → M e) → (p x = true → ∀ e, wipeE e vs = env → N (h x) e) → g (f x) env fun e2 => tt e2 fun b e3 => if b = true then te e3 N else M e3) (fin : Q (.mt ((xs.filter p).map h)) env) : lcD kp g tt te vs (xs.map f) [] env Q := by
  have key : ∀ (ys zs : List α), xs = zs ++ ys → lcD kp g tt te vs (ys.map f) ((zs.filter p).map h) env Q := by
    intro ys
    induction ys with
    | nil =>
      intro zs e
      rw [List.append_nil] at e
      subst e
      exact ⟨hk, fin⟩
    | cons y ys ih =>
      intro zs e
      have hy : y ∈ xs := by rw [e]; simp
      have hz : zs.length < sizeLine := by
        have := congrArg List.length e
        rw [List.length_append, List.length_cons] at this
        omega
      have hf : (zs.filter p).length ≤ zs.length := List.length_filter_le _ _
      have := ih (zs ++ [y]) (by rw [e]; simp)
      rw [List.filter_append, List.map_append] at this
      refine ⟨hk, step y hy (fun e3 => lcD kp g tt te vs (ys.map f) ((zs.filter p).map h) (wipeE e3 vs) Q) _ (fun hp e4 he => ?_) fun hp e4 he => ?_⟩
      · rw [he]
        simpa [hp] using this
      · refine ⟨hr y hy, by rw [List.length_map]; omega, ?_⟩
        show lcD kp g tt te vs (ys.map f) ((zs.filter p).map h ++ [h y]) (wipeE e4 vs) Q
        rw [he]
        simpa [hp] using this
  exact key xs [] rfl
/-! ### a list's items -/
theorem atI_some {α : Type} {xs : List α} {j : Nat} (h : j < xs.length) : atI xs (j : Int) = some xs[j] := atI_nat (List.getElem?_eq_getElem h)
theorem atI_map {α β : Type} (f : α → β) (xs : List α) (i : Int) : atI (xs.map f) i = (atI xs i).map f := by
  unfold atI
  rw [List.length_map]
  cases ixN xs.length i with
  | none => rfl
  | some j => show (xs.map f)[j]? = (xs[j]?).map f; rw [List.getElem?_map]
theorem rngD_eq (lo : Int) (n : Nat) : rngD lo n = (List.range n).map fun i => .int (lo + (i : Nat)) := rfl
theorem enumD_eq {α : Type} (f : α → D) (xs : List α) : enumD (xs.map f) = xs.zipIdx.map fun p => .tup [.int (p.2 : Nat), f p.1] := by
  unfold enumD
  rw [List.mapIdx_eq_zipIdx_map, List.zipIdx_map, List.map_map]
  rfl
theorem zipD_eq {α β : Type} (f : α → D) (g : β → D) (xs : List α) (ys : List β) : zipD (xs.map f) (ys.map g) = (xs.zip ys).map fun p => .tup [f p.1, g p.2] := by
  unfold zipD
  rw [List.zip_map, List.map_map]
  rfl

theorem forD_enum {kp : Env → Prop} {g : DTG} {tb : DTS} {D' : DEnds} {α : Type} {f : α → D} {xs : List α} {env : Env} (I : Nat → Env → Prop) (h0 : I 0 env)
    (step : ∀ (i : Nat) (x : α) (e : Env) (N : Env → Prop), xs[i]? = some x → I i e → (∀ e', I (i + 1) e' → N e') → kp e ∧ g (.tup [.int (i : Nat), f x]) e fun e2 => tb { D' with nx := N, ct := N, bk := D'.nx } e2)
    (fin : ∀ e, I xs.length e → kp e ∧ D'.nx e) : forD kp g tb (enumD (xs.map f)) D' env := by
  rw [enumD_eq]
  refine forD_of I h0 (fun i p e N hp he hN => ?_) fun e he => fin e (by simpa using he)
  rw [List.getElem?_zipIdx] at hp
  cases q : xs[i]? with
  | none => rw [q] at hp; cases hp
  | some x =>
    rw [q] at hp
    cases hp
    rw [Nat.zero_add]
    exact step i x e N q he hN
theorem forD_rng {kp : Env → Prop} {g : DTG} {tb : DTS} {D' : DEnds} {lo : Int} {n : Nat} {env : Env} (I : Nat → Env → Prop) (h0 : I 0 env)
    (step : ∀ (i : Nat) (e : Env) (N : Env → Prop), i < n → I i e → (∀ e', I (i + 1) e' → N e') → kp e ∧ g (.int (lo + (i : Nat))) e fun e2 => tb { D' with nx := N, ct := N, bk := D'.nx } e2)
    (fin : ∀ e, I n e → kp e ∧ D'.nx e) : forD kp g tb (rngD lo n) D' env := by
  rw [rngD_eq]
  refine forD_of I h0 (fun i p e N hp he hN => ?_) fun e he => fin e (by simpa using he)
  obtain ⟨h1, h2⟩ := List.getElem?_eq_some_iff.mp hp
  rw [List.getElem_range] at h2
  subst h2
  rw [List.length_range] at h1
  exact step i e N h1 he hN
theorem forD_zip {kp : Env → Prop} {g : DTG} {tb : DTS} {D' : DEnds} {α β : Type} {f : α → D} {f' : β → D} {xs : List α} {ys : List β} {env : Env} (I : Nat → Env → Prop) (h0 : I 0 env)
    (step : ∀ (i : Nat) (x : α) (y : β) (e : Env) (N : Env → Prop), xs[i]? = some x → ys[i]? = some y → I i e → (∀ e', I (i + 1) e' → N e') → kp e ∧ g (.tup [f x, f' y]) e fun e2 => tb { D' with nx := N, ct := N, bk := D'.nx } e2)
    (fin : ∀ e, I (min xs.length ys.length) e → kp e ∧ D'.nx e) : forD kp g tb (zipD (xs.map f) (ys.map f')) D' env := by
  rw [zipD_eq]
  refine forD_of I h0 (fun i p e N hp he hN => ?_) fun e he => fin e (by simpa using he)
  obtain ⟨h1, h2⟩ := List.getElem?_zip_eq_some.mp hp
  exact step i p.1 p.2 e N h1 h2 he hN
theorem lcD_rng {kp : Env → Prop} {g : DTG} {te : DTE} {vs : List Nat} {h : Nat → D} {lo : Int} {n : Nat} {env : Env} {Q : D → Env → Prop} (hk : kp env) (hl : n ≤ sizeLine) (hr : ∀ i, i < n → isR (h i) = true)
    (step : ∀ i, i < n → ∀ N : D → Env → Prop, (∀ e, wipeE e vs = env → N (h i) e) → g (.int (lo + (i : Nat))) env fun e2 => te e2 N) (fin : Q (.mt ((List.range n).map h)) env) : lcD kp g dYes te vs (rngD lo n) [] env Q := by
  rw [rngD_eq]
  exact lcD_map hk (by simpa using hl) (fun i hi => hr i (by simpa using hi)) (fun i hi => step i (by simpa using hi)) fin
/-! ### what a list holds at a place -/
theorem atI_at {α : Type} {f : α → D} {xs : List α} {i : Nat} {a : α} (h : xs[i]? = some a) : atI (xs.map f) (i : Int) = some (f a) := atI_nat (by rw [List.getElem?_map, h]; rfl)
theorem atI_m1 {α : Type} {xs : List α} {a : α} (h : xs.getLast? = some a) : atI xs (-1) = some a := by
  have hn : xs ≠ [] := by rintro rfl; cases h
  rw [List.getLast?_eq_some_getLast hn] at h
  have := List.dropLast_concat_getLast hn
  rw [← this]
  cases h
  exact atI_last _ _
@[simp] theorem ixN_0 (n : Nat) : ixN (n + 1) 0 = some 0 := by unfold ixN; rw [if_pos (by omega), if_pos (by omega)]; rfl
@[simp] theorem ixN_1 (n : Nat) : ixN (n + 2) 1 = some 1 := by unfold ixN; rw [if_pos (by omega), if_pos (by omega)]; rfl
@[simp] theorem atI_c0 {α : Type} (a : α) (l : List α) : atI (a :: l) 0 = some a := by unfold atI; rw [List.length_cons, ixN_0]; rfl
@[simp] theorem atI_c1 {α : Type} (a b : α) (l : List α) : atI (a :: b :: l) 1 = some b := by unfold atI; rw [List.length_cons, List.length_cons, ixN_1]; rfl
/-! ### the law's own call -/
theorem entry (K : Frag) (f : DSp) (H : Hp) (a : Addr) (ns : List Int) (hS : SqL K H a (ns.map V.int)) (Q : VK) (E : XK) (h : f [.scr (ns.map D.int)] (fun r _ => r = .bl true) fun _ _ _ => False) (hq : ∀ H', Q (.bl true) H') : liftSp K [] f [.ref a] H Q E := by
  refine ⟨⟨H, H, fun _ _ => False, [], []⟩, _, _, _, ⟨rfl, ⟨fun _ _ => False, ?_⟩, rfl, fun k hk => (nomatch hk), fun p hp => (nomatch hp)⟩, h, fun r os env' v H' h1 h2 h3 h4 => ?_, fun C fs os env' d H' F U h1 => h1.elim⟩
  · refine ⟨rfl, fun i d e => ?_, fun i v d e => by simp at e, fun x y a u => u.elim, fun x a u => u.elim, fun x a u => u.elim, fun b o q => q, Same.refl H, fun b o q _ => q, fun b o q => .inl q, fun x a u => u.elim, fun i a u => u.elim, fun p hp => (nomatch hp), fun b q => q⟩
    cases i with
    | zero =>
      cases e
      refine ⟨.ref a, rfl, .frz (.scr hS (by simp) fun i v d e1 e2 => ?_)⟩
      rw [List.getElem?_map] at e1 e2
      cases q : ns[i]? with
      | none => rw [q] at e1; cases e1
      | some n => rw [q] at e1 e2; cases e1; cases e2; exact .int n
    | succ i => simp at e
  · subst h1
    have := h3.sc (u := .bl true) rfl
    subst this
    exact hq H'
end DL

/-! ## DLm.lean -/
namespace DL
open PySem PySem.Spec PyProof.Rows L2
open Dat (toD)
section
variable {K : Frag} {W : WX} {XC : DX} {B : Base} {env : Env} {σ : L2.St} {tm : List (V × D)} {H : Hp} {v : V} {x d : D} {pn : List Nat} {F : Hp} {U : Fam}
/-- a, b = (e1, e2): the tuple is dropped at once, its items may be one's own -/
@[simp] def dAsgT (n : Nat) (da : DTA) (gs : DTGs) : DTS := fun D env => da env fun ds e => ds.length = n ∧ n ≤ sizeLine ∧ (∀ d ∈ ds, isP d = false) ∧ gs ds e D.nx
theorem ds_asgT {n : Nat} {ws : List Nat} {t : TA} {u : TGs} {da : DTA} {gs : DTGs} (ha : DA K W XC pn t da) (hg : DGs K W XC pn ws u gs) : DS K W XC pn (tAsg (tTup t) (gTup K n u)) (dAsgT n da gs) := ⟨fun B ok tm np env σ H D E R s h =>
  ha.run B ok tm env σ H _ _ R h fun ds e vs H1 ⟨q1, q2, q3, q4⟩ l r1 => by
    refine ⟨by omega, fun p hp => ?_⟩
    obtain ⟨F, U, r1⟩ := r1
    refine ⟨p, vs, rfl, SqT.of upd_same, by omega, hg.run B ok tm np e σ _ vs ds _ _ l q3 ⟨_, _, r1.grow (.tup vs) hp⟩ q4 fun e' σ' H' q' r' _ _ => s.nx _ _ _ r' q'⟩⟩
/-- a, b = e1, e2 stored from the right -/
@[simp] def dPar2 (pn : List Nat) (i j : Nat) (da : DTA) : DTS := fun D env => da env fun ds e => ∃ a b, ds = [a, b] ∧ isP a = false ∧ isP b = false ∧ pn.contains i = false ∧ pn.contains j = false ∧ D.nx ((e.set i (some a)).set j (some b))
theorem ds_par2 {i j : Nat} {t : TA} {da : DTA} (ha : DA K W XC pn t da) : DS K W XC pn (tPar i j t) (dPar2 pn i j da) := ⟨fun B ok tm np env σ H D E R s h =>
  ha.run B ok tm env σ H _ _ R h fun ds e vs H1 ⟨a, b, q1, q2, q3, q4, q5, q6⟩ l r1 => by
    subst q1
    obtain ⟨v, w, rfl⟩ := len2 l
    obtain ⟨F, U, r1⟩ := r1
    have r1 : RelF K B F U e σ ((v, a) :: (w, b) :: tm) H1 := r1
    obtain ⟨y1, y2⟩ := bok_pin ok q4
    obtain ⟨z1, z2⟩ := bok_pin ok q5
    have np1 : NoPtr ((w, b) :: tm) := fun u k hk => by
      rcases List.mem_cons.mp hk with hk | hk
      · cases hk; exact nomatch q3
      · exact np u k hk
    have r2 := r1.store i y1 y2 (isP_no q2) np1
    exact ⟨v, w, rfl, s.nx _ _ _ ⟨_, _, r2.store j z1 z2 (isP_no q3) np⟩ q6⟩⟩
@[simp] def dPar3 (pn : List Nat) (i j k : Nat) (da : DTA) : DTS := fun D env => da env fun ds e => ∃ a b c, ds = [a, b, c] ∧ isP a = false ∧ isP b = false ∧ isP c = false ∧ pn.contains i = false ∧ pn.contains j = false ∧ pn.contains k = false ∧ D.nx (((e.set i (some a)).set j (some b)).set k (some c))
theorem len3 {vs : List V} {x y z : D} (l : vs.length = [x, y, z].length) : ∃ u v w, vs = [u, v, w] := by
  match vs, l with
  | [u, v, w], _ => exact ⟨u, v, w, rfl⟩
theorem ds_par3 {i j k : Nat} {t : TA} {da : DTA} (ha : DA K W XC pn t da) : DS K W XC pn (tPar3 i j k t) (dPar3 pn i j k da) := ⟨fun B ok tm np env σ H D E R s h =>
  ha.run B ok tm env σ H _ _ R h fun ds e vs H1 ⟨a, b, c, q1, q2, q3, q3', q4, q5, q5', q6⟩ l r1 => by
    subst q1
    obtain ⟨v, w, x, rfl⟩ := len3 l
    obtain ⟨F, U, r1⟩ := r1
    have r1 : RelF K B F U e σ ((v, a) :: (w, b) :: (x, c) :: tm) H1 := r1
    obtain ⟨y1, y2⟩ := bok_pin ok q4
    obtain ⟨z1, z2⟩ := bok_pin ok q5
    obtain ⟨t1, t2⟩ := bok_pin ok q5'
    have np1 : NoPtr ((x, c) :: tm) := fun u k hk => by
      rcases List.mem_cons.mp hk with hk | hk
      · cases hk; exact nomatch q3'
      · exact np u k hk
    have np2 : NoPtr ((w, b) :: (x, c) :: tm) := fun u k hk => by
      rcases List.mem_cons.mp hk with hk | hk
      · cases hk; exact nomatch q3
      · exact np1 u k hk
    have r2 := (r1.store i y1 y2 (isP_no q2) np2).store j z1 z2 (isP_no q3) np1
    exact ⟨v, w, x, rfl, s.nx _ _ _ ⟨_, _, r2.store k t1 t2 (isP_no q3') np⟩ q6⟩⟩
/-- xs.insert(k, e) -/
@[simp] def mInsert : DMt := fun x ds env Q => ∃ i xs n y, x = .ptr i ∧ ds = [.int n, y] ∧ env[i]? = some (some (.mt xs)) ∧ isR y = true ∧ xs.length < sizeLine ∧ 0 ≤ n ∧ n < 2 ^ 63 ∧ Q .non (env.set i (some (.mt (xs.take n.toNat ++ [y] ++ xs.drop n.toNat))))
theorem ins_rep {vs : List V} {xs : List D} {w : V} {y : D} (k : Nat) (l : vs.length = xs.length) (r : ∀ (i : Nat) v d, vs[i]? = some v → xs[i]? = some d → Rep K F v d) (h : Rep K F w y) :
    ∀ (i : Nat) v d, (vs.take k ++ [w] ++ vs.drop k)[i]? = some v → (xs.take k ++ [y] ++ xs.drop k)[i]? = some d → Rep K F v d := fun i v d h1 h2 => by
  have lt : (vs.take k ++ [w]).length = (xs.take k ++ [y]).length := by simp [l]
  by_cases h3 : i < (vs.take k ++ [w]).length
  · rw [List.getElem?_append_left h3] at h1
    rw [List.getElem?_append_left (by rw [← lt]; exact h3)] at h2
    by_cases h4 : i < (vs.take k).length
    · rw [List.getElem?_append_left h4] at h1
      rw [List.getElem?_append_left (by rw [List.length_take] at h4 ⊢; omega)] at h2
      rw [List.getElem?_take] at h1 h2
      split at h1
      · rename_i h5
        rw [if_pos h5] at h2
        exact r i v d h1 h2
      · cases h1
    · have e : i = (vs.take k).length := by simp at h3 h4 ⊢; omega
      have e2 : i = (xs.take k).length := by rw [e]; simp [l]
      rw [e, List.getElem?_append_right (Nat.le_refl _), Nat.sub_self] at h1
      rw [e2, List.getElem?_append_right (Nat.le_refl _), Nat.sub_self] at h2
      cases h1; cases h2
      exact h
  · rw [List.getElem?_append_right (Nat.le_of_not_lt h3), List.getElem?_drop] at h1
    rw [List.getElem?_append_right (by rw [← lt]; exact Nat.le_of_not_lt h3), List.getElem?_drop, ← lt] at h2
    exact r _ v d h1 h2
theorem dm_insert : DM K W XC pn (fun x vs H Q => ∃ (l : Addr) (xs : List V) (i : Int) (y : V), x = .ref l ∧ vs = [.int i, y] ∧ H l = some (.lst xs) ∧ xs.length < sizeLine ∧ 0 ≤ i ∧ i < 2 ^ 63 ∧
    Q .non (upd H l (.lst (xs.take i.toNat ++ [y] ++ xs.drop i.toNat)))) mInsert := ⟨fun B ok tm env σ H x v ds vs Q R l r h k => by
  obtain ⟨i, xs, n, y, rfl, rfl, e, hr, hl, h0, h1, h⟩ := h
  obtain ⟨w0, w, rfl⟩ := len2 l
  have qw : w0 = .int n := Rel.int (tm := (w, y) :: (v, .ptr i) :: tm) r
  subst qw
  obtain ⟨F, U, a, vs, r1, rfl, ha, l1, rp, up⟩ := Rel.chg (ts := [(.int n, .int n), (w, y)]) (ys := []) (ws := []) r e
  have r1' : RelF K B F U env σ ((.int n, .int n) :: (w, y) :: (.ref a, .ptr i) :: tm) H := r1
  have rw_ := kids1 (r1'.re ((w, y) :: (.ref a, .ptr i) :: tm) (· + 1) (fun i j e => Nat.succ.inj e) fun i x e => e) hr
  obtain ⟨U', r2⟩ := up (vs.take n.toNat ++ [w] ++ vs.drop n.toNat) (xs.take n.toNat ++ [y] ++ xs.drop n.toNat) (by simp [l1]) (ins_rep n.toNat l1 rp rw_)
  exact ⟨a, vs, n, w, rfl, rfl, ha, by omega, h0, h1, k _ _ _ _ h ⟨_, _, r2.push .non⟩⟩⟩
/-- [..] * k, the list one's own or standing -/
@[simp] def oRep : DOp := fun x y env Q => ∃ d xs k, res env x = some d ∧ trkC d = some xs ∧ y = .int k ∧ -(2 ^ 63) ≤ k ∧ k < 2 ^ 63 ∧ xs.length * k.toNat ≤ sizeLine ∧ Q (.mt (List.replicate k.toNat xs).flatten)
theorem app_len {vs ws : List V} {xs ys : List D} (l : vs.length = xs.length) (l2 : ws.length = ys.length) : (vs ++ ws).length = (xs ++ ys).length := by rw [List.length_append, List.length_append, l, l2]
theorem rep_flat {vs : List V} {xs : List D} (l : vs.length = xs.length) (r : ∀ (i : Nat) v d, vs[i]? = some v → xs[i]? = some d → Rep K F v d) :
    ∀ n, (List.replicate n vs).flatten.length = (List.replicate n xs).flatten.length ∧ ∀ (i : Nat) v d, (List.replicate n vs).flatten[i]? = some v → (List.replicate n xs).flatten[i]? = some d → Rep K F v d
  | 0 => ⟨rfl, fun i v d h => by simp at h⟩
  | n + 1 => by
    obtain ⟨g1, g2⟩ := rep_flat l r n
    rw [List.replicate_succ, List.replicate_succ, List.flatten_cons, List.flatten_cons]
    exact ⟨app_len l g1, app_rep l g1 r g2⟩
theorem do_rep : DO K rRep oRep := ⟨fun B tm env σ H x y v u Q R r h k => by
  obtain ⟨d, xs, n, e1, e3, rfl, b1, b2, hl, h⟩ := h
  have qu := r.int
  subst qu
  obtain ⟨F, U, r⟩ := r
  have r1 := r.re ((v, x) :: tm) (· + 1) (fun i j e => Nat.succ.inj e) fun i x e => e
  obtain ⟨S, o⟩ := r1.look e1
  obtain ⟨a, vs, rfl, ha, l1, p1⟩ := o.trk r.sub e3
  obtain ⟨g1, g2⟩ := rep_flat l1 p1 n.toNat
  refine ⟨a, n, vs, rfl, rfl, ha, b1, b2, by rw [l1]; exact hl, fun p hp => k _ _ _ h ?_⟩
  exact (r1.re tm (· + 1) (fun i j e => Nat.succ.inj e) fun i x e => e).newL hp g1 g2⟩
end
end DL

/-! ## DLo.lean -/
namespace DL
open PySem PySem.Spec PyProof.Rows L2
open Dat (toD)
section
variable {K : Frag} {W : WX} {XC : DX} {B : Base} {env : Env} {σ : L2.St} {tm : List (V × D)} {H : Hp} {v : V} {x d : D} {pn : List Nat} {F : Hp} {U : Fam}
/-! ### own classes -/
theorem lookup_rep {nm : Str} : ∀ {vs : List (Str × V)} {fs : List (Str × D)} {d : D}, vs.map (·.1) = fs.map (·.1) → fs.lookup nm = some d → ∃ (i : Nat) (v : V), vs.lookup nm = some v ∧ vs[i]? = some (nm, v) ∧ fs[i]? = some (nm, d)
  | [], [], _, _, h => by cases h
  | [], _ :: _, _, l, _ => by cases l
  | _ :: _, [], _, l, _ => by cases l
  | (k, v) :: vs, (k', d') :: fs, d, l, h => by
    have e : k = k' := (List.cons.inj l).1
    subst e
    rw [List.lookup_cons] at h ⊢
    cases q : nm == k with
    | true =>
      rw [q] at h
      cases h
      have := beq_iff_eq.mp q
      subst this
      exact ⟨0, v, rfl, rfl, rfl⟩
    | false =>
      rw [q] at h
      obtain ⟨i, w, h1, h2, h3⟩ := lookup_rep (vs := vs) (fs := fs) (List.cons.inj l).2 h
      exact ⟨i + 1, w, h1, h2, h3⟩
theorem lookup_none {nm : Str} : ∀ {vs : List (Str × V)} {fs : List (Str × D)}, vs.map (·.1) = fs.map (·.1) → fs.lookup nm = none → vs.lookup nm = none
  | [], [], _, _ => rfl
  | [], _ :: _, l, _ => by cases l
  | _ :: _, [], l, _ => by cases l
  | (k, v) :: vs, (k', d') :: fs, l, h => by
    have e : k = k' := (List.cons.inj l).1
    subst e
    rw [List.lookup_cons] at h ⊢
    cases q : nm == k with
    | true => rw [q] at h; cases h
    | false => rw [q] at h; exact lookup_none (List.cons.inj l).2 h
/-- e.name -/
@[simp] def dFld (cn : String) (nm : Str) (da : DTE) : DTE := fun env Q => da env fun x e => ∃ d fs y, res e x = some d ∧ (d = .obj cn fs ∨ d = .mo cn fs) ∧ fs.lookup nm = some y ∧ isR y = true ∧ Q y e
theorem de_fld {cn : String} {nm : Str} {t : TE} {da : DTE} (hc : Cls K (clsA K cn)) (hn : NoAttr K (clsA K cn) nm) (h : DE K W XC pn t da) : DE K W XC pn (tFld K t nm) (dFld cn nm da) := ⟨fun B ok tm env σ H Q R r h' k => h.run B ok tm env σ H _ _ r h' fun x e v H1 ⟨d, fs, y, q1, q2, q3, q4, q5⟩ r1 => by
  obtain ⟨F, U, r1⟩ := r1
  obtain ⟨S, o⟩ := r1.look q1
  have r2 := r1.re tm (· + 1) (fun i j e => Nat.succ.inj e) fun i x e => e
  rcases q2 with rfl | rfl
  · cases o with
    | frz o =>
      cases o with
      | obj hF l rp =>
        obtain ⟨i, w, h1, h2, h3⟩ := lookup_rep l q3
        exact ⟨_, _, _, _, w, rfl, r1.sub _ _ hF, hc, hn, h1, k _ _ _ _ q5 ⟨_, _, r2.push (rp i _ _ h2 h3)⟩⟩
  · cases o with
    | frz o => cases o
    | mo Sc ha hH l rp sub dis =>
      obtain ⟨i, w, h1, h2, h3⟩ := lookup_rep l q3
      exact ⟨_, _, _, _, w, rfl, hH, hc, hn, h1, k _ _ _ _ q5 ⟨_, _, r2.push ((rp i _ _ h2 h3).toRep q4)⟩⟩⟩
/-- e.name = value, e one's own -/
def putD (f : Str) (d : D) : List (Str × D) → List (Str × D)
  | [] => [(f, d)]
  | (g, x) :: r => if g = f then (g, d) :: r else (g, x) :: putD f d r
theorem put_rep {f : Str} {w : V} {y : D} (hw : Rep K F w y) : ∀ {vs : List (Str × V)} {fs : List (Str × D)}, vs.map (·.1) = fs.map (·.1) → (∀ (i : Nat) v d, vs[i]? = some v → fs[i]? = some d → Rep K F v.2 d.2) →
    (putF f w vs).map (·.1) = (putD f y fs).map (·.1) ∧ ∀ (i : Nat) v d, (putF f w vs)[i]? = some v → (putD f y fs)[i]? = some d → Rep K F v.2 d.2
  | [], [], _, _ => ⟨rfl, fun i v d h1 h2 => by
    cases i with
    | zero => cases h1; cases h2; exact hw
    | succ i => cases h1⟩
  | [], _ :: _, l, _ => by cases l
  | _ :: _, [], l, _ => by cases l
  | (k, v) :: vs, (k', d') :: fs, l, r => by
    have e : k = k' := (List.cons.inj l).1
    subst e
    unfold putF putD
    by_cases h : k = f
    · rw [if_pos h, if_pos h]
      refine ⟨l, fun i v' d h1 h2 => ?_⟩
      cases i with
      | zero => cases h1; cases h2; exact hw
      | succ i => exact r (i + 1) v' d h1 h2
    · rw [if_neg h, if_neg h]
      obtain ⟨g1, g2⟩ := put_rep hw (List.cons.inj l).2 fun i v d h1 h2 => r (i + 1) v d h1 h2
      refine ⟨by rw [List.map_cons, List.map_cons, g1], fun i v' d h1 h2 => ?_⟩
      cases i with
      | zero => cases h1; cases h2; exact r 0 _ _ rfl rfl
      | succ i => exact g2 i v' d h1 h2
theorem Rel.chgO {ts : List (V × D)} {i : Nat} {cn : String} {fs : List (Str × D)} (R : Rel K B env σ (ts ++ (v, .ptr i) :: tm) H) (e : env[i]? = some (some (.mo cn fs))) (ar : fs.all (fun p => isR p.2) = true) :
    ∃ F U a dx vs, RelF K B F U env σ (ts ++ (v, .ptr i) :: tm) H ∧ v = .ref a ∧ H a = some (.ins (clsA K cn) dx vs) ∧ vs.map (·.1) = fs.map (·.1) ∧ (∀ (i : Nat) v d, vs[i]? = some v → fs[i]? = some d → Rep K F v.2 d.2) ∧
      ∀ ws gs, ws.map (·.1) = gs.map (·.1) → (∀ (i : Nat) v d, ws[i]? = some v → gs[i]? = some d → Rep K F v.2 d.2) → ∃ U', RelF K B F U' (env.set i (some (.mo cn gs))) σ tm (upd H a (.ins (clsA K cn) dx ws)) := by
  obtain ⟨F, U, R⟩ := R
  have hv : σ[i]? = some (some v) := by
    rcases R.tmp ts.length v (.ptr i) (by rw [List.getElem?_append_right (Nat.le_refl _), Nat.sub_self]; rfl) with q | ⟨j, q, q2⟩
    · cases q with | frz q => cases q
    · cases q; exact q2
  obtain ⟨w, h1, h2⟩ := R.own i _ e
  rw [hv] at h1; cases h1
  cases h2 with
  | frz q => cases q
  | @mo a dx _ vs _ _ Sc ha h l r sub dis =>
    refine ⟨F, U, a, dx, vs, R, rfl, h, l, fun i v d q1 q2 => (r i v d q1 q2).toRep (List.all_eq_true.mp ar d (List.mem_of_getElem? q2)), fun ws gs l' r' => ?_⟩
    have R2 := R.write hv ha (.mo (fun _ _ => False) ha (upd_same (o := .ins (clsA K cn) dx ws)) l' (fun i v d q1 q2 => .frz (r' i v d q1 q2)) (fun _ _ z => z.elim) fun _ _ _ z => z.elim)
    obtain ⟨U', R3⟩ := R2.popL (l := ts)
    exact ⟨_, R3.re tm (· + 1) (fun i j e => Nat.succ.inj e) fun i x e => e⟩
@[simp] def dSetF (cn : String) (nm : Str) (da dv : DTE) : DTS := fun D env => dv env fun y e1 => da e1 fun x e2 => ∃ i fs, x = .ptr i ∧ e2[i]? = some (some (.mo cn fs)) ∧ fs.all (fun p => isR p.2) = true ∧ isR y = true ∧ fs.length < 1000 ∧ D.nx (e2.set i (some (.mo cn (putD nm y fs))))
theorem ds_fld {cn : String} {nm : Str} {ta tv : TE} {da dv : DTE} (hc : Cls K (clsA K cn)) (hn : NoAttr K (clsA K cn) nm) (ha : DE K W XC pn ta da) (hv : DE K W XC pn tv dv) : DS K W XC pn (sFld K ta tv nm) (dSetF cn nm da dv) := ⟨fun B ok tm np env σ H D' E R s h =>
  hv.run B ok tm env σ H _ _ R h fun y e1 w H1 q1 r1 => ha.run B ok _ e1 σ H1 _ _ r1 q1 fun x e2 u H2 ⟨i, fs, e3, e4, ar, e5, hl, q2⟩ r2 => by
    subst e3
    have r2' : Rel K B e2 σ ([] ++ (u, D.ptr i) :: (w, y) :: tm) H2 := r2
    obtain ⟨F, U, a, dx, vs, r3, rfl, hH, l, rr, up⟩ := Rel.chgO r2' e4 ar
    have ry : Rep K F w y := kids1 ((show RelF K B F U e2 σ ((.ref a, .ptr i) :: (w, y) :: tm) H2 from r3).re ((w, y) :: tm) (· + 1) (fun i j e => Nat.succ.inj e) fun i x e => e) e5
    obtain ⟨g1, g2⟩ := put_rep (f := nm) ry l rr
    obtain ⟨U', r4⟩ := up _ _ g1 g2
    have hl2 : vs.length < 1000 := by have := congrArg List.length l; simp at this; omega
    exact ⟨a, _, dx, vs, rfl, hH, hc, hn, hl2, s.nx _ _ _ (Rel.pop ⟨_, _, r4⟩) q2⟩⟩
/-- e.m(..), e an instance that stands -/
@[simp] def dMeth (cn : String) (m : Str) (f : DSp) (do_ : DTE) (da : DTA) : DTE := fun env Q => do_ env fun x e0 => ∃ fs, x = .obj cn fs ∧ fs.lookup m = none ∧ da e0 fun ds e => ds.all isR = true ∧ f (x :: ds) (fun r _ => Q r e) fun _ _ _ => False
theorem de_meth {cn : String} {m : Str} {t : TA} {ta : TE} {do_ : DTE} {da : DTA} {f : DSp} {E : XK} (ho : DE K W XC pn ta do_) (h : DA K W XC pn t da) : DE K W XC pn (tMeth (clsA K cn) m (liftSp K [] f) [] E ta t) (dMeth cn m f do_ da) := ⟨fun B ok tm env σ H Q R r h' k =>
  ho.run B ok tm env σ H _ _ r h' fun x e0 v H1 ⟨fs, ex, hm, q0⟩ r0 => by
    subst ex
    obtain ⟨F, U, r0'⟩ := id r0
    have rx : Rep K F v (.obj cn fs) := kids1 r0' rfl
    cases rx with
    | @obj a dx _ vs0 _ hF l rp =>
      refine ⟨a, dx, vs0, rfl, r0'.sub _ _ hF, lookup_none l hm, h.run B ok _ e0 σ H1 _ _ r0 q0 fun ds e vs H2 ⟨q1, q2⟩ l2 r1 => ?_⟩
      rw [List.append_nil]
      have q3 : (D.obj cn fs :: ds).all isR = true := by rw [List.all_cons, q1]; rfl
      have r2 : Rel K B e σ ((V.ref a :: vs).zip (D.obj cn fs :: ds) ++ tm) H2 := by
        obtain ⟨F, U, r1⟩ := r1
        have kd := r1.kids l2 q1
        obtain ⟨U1, r3⟩ := r1.popL
        have kx := kids1 r3 rfl
        have r4 := r3.re tm (· + 1) (fun i j e => Nat.succ.inj e) fun i x e => e
        obtain ⟨U2, r5⟩ := r4.pushAll (V.ref a :: vs) (D.obj cn fs :: ds) (by simp [l2]) fun i v d e1 e2 => by
          cases i with
          | zero => cases e1; cases e2; exact kx
          | succ i => exact kd i v d e1 e2
        exact ⟨_, _, r5⟩
      refine Rel.callee (ow := []) r2 (by simp [l2]) (argOk0 q3) (R := fun r _ => R r e) (RX := fun _ _ _ => False) (by rw [argD_R q3]; exact q2) (fun r os v H' h1 h2 => ?_) fun C fs os d H' F U h1 => h1.elim
      rw [putO_nil] at h2
      exact k _ _ _ _ h1 h2⟩
/-! ### an instance is made -/
theorem rep_none {α : Type} {m j : Nat} {x : α} (h : (List.replicate m (none : Option α))[j]? = some (some x)) : False := by
  rw [List.getElem?_replicate] at h
  split at h <;> cases h
theorem get_ext {α : Type} {l : List (Option α)} {m i : Nat} {x : α} (h : (l ++ List.replicate m none)[i]? = some (some x)) : l[i]? = some (some x) := by
  by_cases hi : i < l.length
  · rwa [List.getElem?_append_left hi] at h
  · rw [List.getElem?_append_right (by omega)] at h
    exact (rep_none h).elim
theorem ext_get {α : Type} {l l2 : List α} {i : Nat} {x : α} (h : l[i]? = some x) : (l ++ l2)[i]? = some x := by
  rw [List.getElem?_append_left (List.getElem?_eq_some_iff.mp h).1]; exact h
/-- more slots, all empty -/
theorem RelF.ext (R : RelF K B F U env σ tm H) (m : Nat) : RelF K B F U (env ++ List.replicate m none) (σ ++ List.replicate m none) tm H where
  len := by rw [List.length_append, List.length_append, R.len]; simp
  own := fun i d e => by
    obtain ⟨v, h1, h2⟩ := R.own i d (get_ext e)
    exact ⟨v, ext_get h1, h2⟩
  tmp := fun i v d e => by
    rcases R.tmp i v d e with q | ⟨j, q, q2⟩
    · exact .inl q
    · exact .inr ⟨j, q, ext_get q2⟩
  dis := R.dis
  nof := R.nof
  liv := R.liv
  sub := R.sub
  base := R.base
  keep := R.keep
  new := R.new
  usr := R.usr
  ownA := R.ownA
  pin := fun p hp => ext_get (R.pin p hp)
  ther := R.ther
/-- the last slots are empty again -/
theorem RelF.cut {m : Nat} {σ2 : L2.St} (R : RelF K B F U (env ++ List.replicate m none) (σ ++ σ2) tm H) (l : env.length = σ.length) (hp : ∀ p ∈ B.pins, σ[p.1]? = some (some p.2)) (ht : ∀ (i : Nat) v j, tm[i]? = some (v, D.ptr j) → σ[j]? = some (some v)) : RelF K B F U env σ tm H where
  len := l
  own := fun i d e => by
    obtain ⟨v, h1, h2⟩ := R.own i d (ext_get e)
    have hi : i < σ.length := by rw [← l]; exact (List.getElem?_eq_some_iff.mp e).1
    rw [List.getElem?_append_left hi] at h1
    exact ⟨v, h1, h2⟩
  tmp := fun i v d e => by
    rcases R.tmp i v d e with q | ⟨j, q, q2⟩
    · exact .inl q
    · subst q; exact .inr ⟨j, rfl, ht i v j e⟩
  dis := R.dis
  nof := R.nof
  liv := R.liv
  sub := R.sub
  base := R.base
  keep := R.keep
  new := R.new
  usr := R.usr
  ownA := R.ownA
  pin := hp
  ther := R.ther
theorem sum_ge {l : List Nat} {x : Nat} (h : x ∈ l) : x ≤ l.sum := by
  induction l with
  | nil => cases h
  | cons a l ih =>
    rw [List.sum_cons]
    rcases List.mem_cons.mp h with rfl | h
    · omega
    · have := ih h; omega
/-- C(..): f is what __init__ does -/
@[simp] def dMake (cn : String) (f : DSp) (da : DTA) : DTE := fun env Q => da env fun ds e => ds.all isR = true ∧ f (.mo cn [] :: ds) (fun r os => r = .non ∧ ∃ d, os = [d] ∧ isP d = false ∧ Q d e) fun _ _ _ => False
theorem de_make {cn : String} {t : TA} {da : DTA} {f : DSp} {E : XK} (h : DA K W XC pn t da) : DE K W XC pn (tMake (clsA K cn) (liftSp K [0] f) [] E t) (dMake cn f da) := ⟨fun B ok tm env σ H Q R r h' k => h.run B ok tm env σ H _ _ r h' fun ds e vs H1 ⟨q1, q2⟩ l r1 => by
  intro x dx hx hdx ne
  rw [List.append_nil]
  obtain ⟨F, U, r1⟩ := r1
  have tmP : ∀ (i : Nat) v j, tm[i]? = some (v, D.ptr j) → σ[j]? = some (some v) := fun i v j hi => by
    have hi' : (vs.zip ds ++ tm)[i + (vs.zip ds).length]? = some (v, D.ptr j) := by
      rw [List.getElem?_append_right (by omega), Nat.add_sub_cancel]; exact hi
    rcases r1.tmp _ v (.ptr j) hi' with q | ⟨j', q, q2⟩
    · cases q with | frz q => cases q
    · cases q; exact q2
  have pinP := r1.pin
  have lenP := r1.len
  -- a slot of its own for the new instance
  obtain ⟨n, hn⟩ : ∃ n, n = e.length + B.own.sum + 1 := ⟨_, rfl⟩
  obtain ⟨m, hm⟩ : ∃ m, m = B.own.sum + 2 := ⟨_, rfl⟩
  have nO : n ∉ B.own := fun hi => by have := sum_ge hi; omega
  have nP : ∀ p ∈ B.pins, p.1 ≠ n := fun p hp => by
    have := (List.getElem?_eq_some_iff.mp (pinP p hp)).1
    omega
  obtain ⟨e1, he1⟩ : ∃ e1, e ++ List.replicate m none = e1 := ⟨_, rfl⟩
  obtain ⟨σ1, hs1⟩ : ∃ σ1, σ ++ List.replicate m none = σ1 := ⟨_, rfl⟩
  have le1 : e1.length = e.length + m := by rw [← he1, List.length_append, List.length_replicate]
  have ls1 : σ1.length = σ.length + m := by rw [← hs1, List.length_append, List.length_replicate]
  have gn : e1[n]? = some none := by
    rw [← he1, List.getElem?_append_right (by omega), List.getElem?_replicate, if_pos (by omega)]
  have R1 := r1.ext m
  rw [he1, hs1] at R1
  have R2 := R1.grow (.own x) hdx
  have hx2 : upd H1 dx (.own x) x = none := by rw [upd_ne (fun z => ne z.symm)]; exact hx
  have R3 := R2.pushNew (p := x) (o := .ins (clsA K cn) dx []) (v := .ref x) (d := .mo cn []) hx2 (.mo (fun _ _ => False) rfl (upd_same (o := .ins (clsA K cn) dx [])) rfl (fun i v d q => by cases q) (fun _ _ z => z.elim) fun _ _ _ z => z.elim)
  have noP : ∀ w, (w, D.ptr n) ∉ vs.zip ds ++ tm := fun w hw => by
    rcases List.mem_append.mp hw with q | q
    · have := List.all_eq_true.mp q1 _ (List.of_mem_zip q).2
      exact nomatch this
    · obtain ⟨i, hi⟩ := List.mem_iff_getElem?.mp q
      have := (List.getElem?_eq_some_iff.mp (tmP i w n hi)).1
      omega
  have R4 := R3.storeP n nP nO (fun j z => nomatch z) noP
  have g2 : (e1.set n (some (.mo cn [])))[n]? = some (some (.mo cn [])) := by rw [List.getElem?_set_self (by omega)]
  have s2 : (σ1.set n (some (V.ref x)))[n]? = some (some (V.ref x)) := by rw [List.getElem?_set_self (by omega)]
  have R5 := R4.pushO (v := V.ref x) (d := .ptr n) (.inr ⟨n, rfl, s2⟩)
  have ea : (D.ptr n :: ds).map (argD (e1.set n (some (.mo cn [])))) = .mo cn [] :: ds := by
    rw [List.map_cons, argD_R q1]
    show (res _ (D.ptr n)).getD .non :: ds = _
    show ((e1.set n (some (D.mo cn [])))[n]?.join).getD .non :: ds = _
    rw [g2]; rfl
  refine Rel.callee (ow := [0]) (vs := V.ref x :: vs) (ds := D.ptr n :: ds) (tm := tm) (env := e1.set n (some (.mo cn []))) ⟨_, _, R5⟩ (by simp [l]) ⟨fun k hk => ?_, fun k d hd hk => ?_, fun k k' j h1 h2 => ?_⟩ (R := fun r os => r = .non ∧ ∃ d, os = [d] ∧ isP d = false ∧ R d e) (RX := fun _ _ _ => False) (by rw [ea]; exact q2) (fun r os v H' h1 h2 => ?_) fun C fs os d H' F U h1 => h1.elim
  · rw [List.mem_singleton] at hk
    subst hk
    exact ⟨n, _, rfl, g2⟩
  · cases k with
    | zero => exact absurd (List.mem_singleton.mpr rfl) hk
    | succ k => exact List.all_eq_true.mp q1 d (List.mem_of_getElem? hd)
  · have only : ∀ k j, (D.ptr n :: ds)[k]? = some (D.ptr j) → k = 0 := fun k j h => by
      cases k with
      | zero => rfl
      | succ k =>
        have := List.all_eq_true.mp q1 _ (List.mem_of_getElem? h)
        exact nomatch this
    rw [only k j h1, only k' j h2]
  · obtain ⟨rfl, d, rfl, dp, q3⟩ := h1
    have hv := h2.sc (u := .non) rfl
    subst hv
    refine ⟨rfl, ?_⟩
    have h3 : Rel K B ((e1.set n (some (.mo cn []))).set n (some d)) (σ1.set n (some (V.ref x))) tm H' := h2.pop
    obtain ⟨F3, U3, R6⟩ := h3
    have g3 : ((e1.set n (some (.mo cn []))).set n (some d))[n]? = some (some d) := by rw [List.getElem?_set_self (by rw [List.length_set]; omega)]
    have R7 := R6.move nO g3 s2
    have ee : ((e1.set n (some (D.mo cn []))).set n (some d)).set n none = e ++ List.replicate m none := by
      rw [List.set_set, List.set_set, he1]
      exact List.ext_getElem? fun i => by
        by_cases hi : n = i
        · subst hi; rw [List.getElem?_set_self (by omega), gn]
        · rw [List.getElem?_set_ne hi]
    have es : σ1.set n (some (V.ref x)) = σ ++ (List.replicate m none).set (n - σ.length) (some (V.ref x)) := by
      rw [← hs1, List.set_append_right _ _ (by omega)]
    rw [ee, es] at R7
    refine k _ _ _ _ q3 ⟨_, _, R7.cut lenP pinP fun i w j hi => ?_⟩
    cases i with
    | zero => cases hi; exact absurd dp (by simp [isP])
    | succ i => exact tmP i w j hi⟩
end
end DL

/-! ## DLp.lean -/
namespace DL
open PySem PySem.Spec PyProof.Rows L2
open Dat (toD)
section
variable {K : Frag} {W : WX} {XC : DX} {B : Base} {env : Env} {σ : L2.St} {tm : List (V × D)} {H : Hp} {v : V} {x d : D} {pn : List Nat} {F : Hp} {U : Fam}
/-! ### dicts of one's own: keys numbers or texts, values flat -/
@[simp] def keyD : D → Option Key
  | .int i => some (.inl i)
  | .str s => some (.inr s)
  | _ => none
theorem key_rep {k : Key} (h : keyD x = some k) (r : Rep K F v x) : v = kV k := by
  cases x <;> first | (cases h; cases r; rfl) | cases h
@[simp] def dNewD : DTE := fun env Q => Q (.dc []) env
theorem de_newD : DE K W XC pn tDNewK dNewD := ⟨fun B ok tm env σ H Q R r h' k => fun p hp => by
  obtain ⟨F, U, r⟩ := r
  exact k _ _ _ _ h' ⟨_, _, r.pushNew (p := p) (o := .dK []) (v := .ref p) (d := .dc []) hp (.dc rfl (upd_same (o := .dK [])) fun p q => by cases q)⟩⟩
theorem Rel.chgK {ts : List (V × D)} {i : Nat} {kvs : List (Key × V)} (R : Rel K B env σ (ts ++ (v, .ptr i) :: tm) H) (e : env[i]? = some (some (.dc kvs))) :
    ∃ F U a, RelF K B F U env σ (ts ++ (v, .ptr i) :: tm) H ∧ v = .ref a ∧ H a = some (.dK kvs) ∧ (∀ p ∈ kvs, flatV p.2 = true) ∧
      ∀ ws : List (Key × V), (∀ p ∈ ws, flatV p.2 = true) → ∃ U', RelF K B F U' (env.set i (some (.dc ws))) σ tm (upd H a (.dK ws)) := by
  obtain ⟨F, U, R⟩ := R
  have hv : σ[i]? = some (some v) := by
    rcases R.tmp ts.length v (.ptr i) (by rw [List.getElem?_append_right (Nat.le_refl _), Nat.sub_self]; rfl) with q | ⟨j, q, q2⟩
    · cases q with | frz q => cases q
    · cases q; exact q2
  obtain ⟨w, h1, h2⟩ := R.own i _ e
  rw [hv] at h1; cases h1
  cases h2 with
  | frz q => cases q
  | @dc a _ _ ha h fl =>
    refine ⟨F, U, a, R, rfl, h, fl, fun ws fw => ?_⟩
    have R2 := R.write hv ha (.dc ha (upd_same (o := .dK ws)) fw)
    obtain ⟨U', R3⟩ := R2.popL (l := ts)
    exact ⟨_, R3.re tm (· + 1) (fun i j e => Nat.succ.inj e) fun i x e => e⟩
theorem put_flat {kvs : List (Key × V)} {k : Key} {w : V} (h : ∀ p ∈ kvs, flatV p.2 = true) (hw : flatV w = true) : ∀ p ∈ putK kvs k w, flatV p.2 = true := by
  intro p hp
  unfold putK at hp
  split at hp
  · obtain ⟨q, hq, rfl⟩ := List.mem_map.mp hp
    split
    · exact hw
    · exact h q hq
  · rcases List.mem_append.mp hp with hp | hp
    · exact h p hp
    · rw [List.mem_singleton] at hp; subst hp; exact hw
/-- d[k] = e -/
@[simp] def dDPut (dd dk dv : DTE) : DTS := fun D env => dv env fun y e1 => dd e1 fun x e2 => dk e2 fun z e3 => ∃ i kvs u k, x = .ptr i ∧ e3[i]? = some (some (.dc kvs)) ∧ scV y = some u ∧ keyD z = some k ∧ kvs.length < sizeLine ∧ D.nx (e3.set i (some (.dc (putK kvs k u))))
theorem ds_dput {td ty tv : TE} {dd dk dv : DTE} (hd : DE K W XC pn td dd) (hk : DE K W XC pn ty dk) (hv : DE K W XC pn tv dv) : DS K W XC pn (sDPut td ty tv) (dDPut dd dk dv) := ⟨fun B ok tm np env σ H D' E R s h =>
  hv.run B ok tm env σ H _ _ R h fun y e1 w H1 q1 r1 => hd.run B ok _ e1 σ H1 _ _ r1 q1 fun x e2 p H2 q2 r2 => hk.run B ok _ e2 σ H2 _ _ r2 q2 fun z e3 kz H3 ⟨i, kvs, u, k, e4, e5, e6, e7, hl, q3⟩ r3 => by
    subst e4
    have r3' : Rel K B e3 σ ([(kz, z)] ++ (p, D.ptr i) :: (w, y) :: tm) H3 := r3
    obtain ⟨F, U, a, r4, rfl, hH, fl, up⟩ := Rel.chgK r3' e5
    have r4' : RelF K B F U e3 σ ((kz, z) :: (.ref a, .ptr i) :: (w, y) :: tm) H3 := r4
    have zR : isR z = true := by cases z <;> first | rfl | cases e7
    have ek : kz = kV k := key_rep e7 (kids1 r4' zR)
    have ew : w = u := Rel.sc (tm := tm) (x := y) ⟨_, _, r4'.re ((w, y) :: tm) (· + 2) (fun i j e => Nat.add_right_cancel e) fun i x e => e⟩ e6
    subst ek ew
    obtain ⟨U', r5⟩ := up (putK kvs k w) (put_flat fl (flat_sc e6))
    exact ⟨a, _, rfl, DPut.k hH hl, s.nx _ _ _ (Rel.pop ⟨_, _, r5⟩) q3⟩⟩
/-- k in d, k not in d -/
theorem Rel.lookK {ts : List (V × D)} {i : Nat} {kvs : List (Key × V)} (R : Rel K B env σ (ts ++ (v, .ptr i) :: tm) H) (e : env[i]? = some (some (.dc kvs))) : ∃ a, v = .ref a ∧ H a = some (.dK kvs) := by
  obtain ⟨F, U, a, _, h1, h2, _⟩ := Rel.chgK R e
  exact ⟨a, h1, h2⟩
@[simp] def dDIn (neg : Bool) (dk dd : DTE) : DTE := fun env Q => dk env fun z e1 => dd e1 fun x e2 => ∃ i kvs k, x = .ptr i ∧ e2[i]? = some (some (.dc kvs)) ∧ keyD z = some k ∧ Q (.bl (if neg then !(valV kvs k).isSome else (valV kvs k).isSome)) e2
theorem de_din {td ty : TE} {dd dk : DTE} (hk : DE K W XC pn ty dk) (hd : DE K W XC pn td dd) : DE K W XC pn (tDIn ty td) (dDIn false dk dd) := ⟨fun B ok tm env σ H Q R r h' kk =>
  hk.run B ok tm env σ H _ _ r h' fun z e1 kz H1 q1 r1 => hd.run B ok _ e1 σ H1 _ _ r1 q1 fun x e2 p H2 ⟨i, kvs, k, e4, e5, e7, q2⟩ r2 => by
    subst e4
    have r2' : Rel K B e2 σ ([] ++ (p, D.ptr i) :: (kz, z) :: tm) H2 := r2
    obtain ⟨a, rfl, hH⟩ := Rel.lookK r2' e5
    have r3 : Rel K B e2 σ ((kz, z) :: tm) H2 := r2.pop
    have zR : isR z = true := by cases z <;> first | rfl | cases e7
    obtain ⟨F, U, r4⟩ := id r3
    have ek : kz = kV k := key_rep e7 (kids1 r4 zR)
    subst ek
    exact ⟨a, _, rfl, DGet.k hH, kk _ _ _ _ q2 (r3.pop.val fun F => .bl _)⟩⟩
theorem de_dnotin {td ty : TE} {dd dk : DTE} (hk : DE K W XC pn ty dk) (hd : DE K W XC pn td dd) : DE K W XC pn (tDNotIn ty td) (dDIn true dk dd) := ⟨fun B ok tm env σ H Q R r h' kk =>
  hk.run B ok tm env σ H _ _ r h' fun z e1 kz H1 q1 r1 => hd.run B ok _ e1 σ H1 _ _ r1 q1 fun x e2 p H2 ⟨i, kvs, k, e4, e5, e7, q2⟩ r2 => by
    subst e4
    have r2' : Rel K B e2 σ ([] ++ (p, D.ptr i) :: (kz, z) :: tm) H2 := r2
    obtain ⟨a, rfl, hH⟩ := Rel.lookK r2' e5
    have r3 : Rel K B e2 σ ((kz, z) :: tm) H2 := r2.pop
    have zR : isR z = true := by cases z <;> first | rfl | cases e7
    obtain ⟨F, U, r4⟩ := id r3
    have ek : kz = kV k := key_rep e7 (kids1 r4 zR)
    subst ek
    exact ⟨a, _, rfl, DGet.k hH, kk _ _ _ _ q2 (r3.pop.val fun F => .bl _)⟩⟩
/-- d[k] -/
def ofV' : V → D := ofV
@[simp] def dDGet (dd dk : DTE) : DTE := fun env Q => dd env fun x e1 => dk e1 fun z e2 => ∃ i kvs k u, x = .ptr i ∧ e2[i]? = some (some (.dc kvs)) ∧ keyD z = some k ∧ valV kvs k = some u ∧ isSc u = true ∧ Q (ofV u) e2
theorem de_dget {td ty : TE} {dd dk : DTE} (hd : DE K W XC pn td dd) (hk : DE K W XC pn ty dk) : DE K W XC pn (tDGet td ty) (dDGet dd dk) := ⟨fun B ok tm env σ H Q R r h' kk =>
  hd.run B ok tm env σ H _ _ r h' fun x e1 p H1 q1 r1 => hk.run B ok _ e1 σ H1 _ _ r1 q1 fun z e2 kz H2 ⟨i, kvs, k, u, e4, e5, e7, e8, e9, q2⟩ r2 => by
    subst e4
    have r2' : Rel K B e2 σ ([(kz, z)] ++ (p, D.ptr i) :: tm) H2 := r2
    obtain ⟨a, rfl, hH⟩ := Rel.lookK r2' e5
    have zR : isR z = true := by cases z <;> first | rfl | cases e7
    obtain ⟨F, U, r4⟩ := id r2
    have ek : kz = kV k := key_rep e7 (kids1 r4 zR)
    subst ek
    exact ⟨a, u, rfl, by rw [← e8]; exact DGet.k hH, kk _ _ _ _ q2 (r2.pop.pop.val fun F => rep_sc e9)⟩⟩
/-- len(d) -/
@[simp] def cLenD : DFn := fun ds env Q => ∃ i kvs, ds = [.ptr i] ∧ env[i]? = some (some (.dc kvs)) ∧ Q (.int (kvs.length : Nat))
theorem dc_lenD : DCl K (fun xs H Q => ∃ a kvs, xs = [V.ref a] ∧ H a = some (.dK kvs) ∧ Q (.int kvs.length) H) cLenD := ⟨fun B tm env σ H ds vs Q R l r h k => by
  obtain ⟨i, kvs, rfl, e5, q⟩ := h
  obtain ⟨w, rfl⟩ := len1 l
  have r' : Rel K B env σ ([] ++ (w, D.ptr i) :: tm) H := r
  obtain ⟨a, rfl, hH⟩ := Rel.lookK r' e5
  exact ⟨a, kvs, rfl, hH, k _ _ _ q (r'.pop.val fun F => .int _)⟩⟩
end
end DL

/-! ## DLq.lean -/
namespace L2
open PySem PySem.Spec PyProof.Rows
theorem vals_of : ∀ {vs : List V} {us : List Value}, vs.length = us.length → (∀ (i : Nat) v u, vs[i]? = some v → us[i]? = some u → RelV v u) → Vals vs us
  | [], [], _, _ => .nil
  | [], _ :: _, l, _ => by cases l
  | _ :: _, [], l, _ => by cases l
  | v :: vs, u :: us, l, h => .cons (h 0 v u rfl rfl) (vals_of (Nat.succ.inj l) fun i x y h1 h2 => h (i + 1) x y h1 h2)
/-- list(o.values()), a dict with flat keys -/
def tListVals (td : TE) : TE := fun σ H Q => td σ H fun x H1 => ∃ a kvs, x = V.ref a ∧ H1 a = some (.dK kvs) ∧ ∀ l, H1 l = none → Q (.ref l) (upd H1 l (.lst (kvs.map (·.2))))
theorem pe_listVals {X : Cx} {o : Expr} {p pos apos mpos : Pos} {td : TE} (hc : X.calm = true) (hg : Gl X "list") (hm : X.mg "list" = none) (hd : PE X o td) (hbase : attributeBase o "values" X.env (eval o X.env) = eval o X.env := by rfl) (hline : (apos.endLine == mpos.line) = true := by rfl)
    (hse : starEach [Expr.Call (.Attribute o "values" apos) [] [] mpos] X.env = [(false, eval (Expr.Call (.Attribute o "values" apos) [] [] mpos) X.env)] := by rfl) :
    PE X (.Call (.Name "list" p) [.Call (.Attribute o "values" apos) [] [] mpos] [] pos) (tListVals td) := by
  refine ⟨fun pins s σ H Q I h => ?_⟩
  refine wpAny_Call_Name_kw (ld_blt I hg hm (u := .type "list") (by first | rfl | decide +kernel) ?_ (by first | decide +kernel | decide) (by first | decide +kernel | decide))
  rw [hse]
  refine PySem.callWith_type1 (wpAny_Call_method0_late hbase hline (thn (hd.run pins s σ H _ I h) fun v s1 ⟨x, H1, I1, r1, a, kvs, ex, ha, q⟩ => ?_))
  subst ex
  obtain rfl : v = Value.ref a := r1
  obtain ⟨hz, hsys, vs, rel, dof⟩ := dk_of I1.hok ha
  obtain ⟨ep, dat⟩ := dof.dictAt
  have dat' := dat
  obtain ⟨ob, es, ho, ex, hdat, hko, hpr, hnd⟩ := dat'
  refine ⟨"dict", "dict.values", F.plainAttrs_dict, F.slot_dict_values, F.type_dict_values, ⟨ob, ho, ex.1⟩, fun b e => ?_, Calls.callWith_builtin rfl (PySem.evalArgs_none ?_)⟩
  · cases e
    exact ⟨ob, ho, ex.2.1⟩
  refine call_meetsIn F.slot_dict_values ⟨ob, ho, ex.1⟩ F.entry_dict_values (F.args_dict_values_1 _) (meets_dict_values (mixKind X.prog X.w) a hsys) ⟨⟨vs, dof⟩, ?_⟩
  have k1 : ∀ b u, s1.heap.get? b = some u → (s1.heap.push { cls := .type "dict_values", data := .fields #[.ref a] }).get? b = some u := fun b u e => Heap.get?_push_of_some _ e
  have dat1 : (s1.heap.push { cls := .type "dict_values", data := .fields #[.ref a] }).DictAt (mixKind X.prog X.w) a vs ep := dat.keep k1
  have hlv : vs.length = kvs.length := (KV.length rel).symm
  refine PySem.W.kdl_call (PySem.W.kdl_values (knd := mixKind X.prog X.w) (kvs := vs) (ep := ep)) (I1.ok.hd hc) ⟨⟨_, Heap.get?_push_size _ rfl, rfl, rfl⟩, dat1⟩ (by rw [hlv]; exact hz) fun h' tk acc' c' hk hD hacc => ?_
  have hsz : (s1.heap.push { cls := .type "dict_values", data := .fields #[.ref a] }).objs.size = s1.heap.objs.size + 1 := Heap.size_push _ _
  have la : acc'.toList.length = vs.length := by rw [Array.length_toList]; exact hacc.1
  have hv : Vals (kvs.map (·.2)) acc'.toList := vals_of (by rw [List.length_map, la, hlv]) fun i x u h1 h2 => by
    obtain ⟨k, hk2⟩ := hacc.2 i u (by rw [← Array.getElem?_toList]; exact h2)
    obtain ⟨y, h3, h4⟩ := KV.at' rel hk2
    rw [List.getElem?_map, h3] at h1
    cases h1
    exact h4
  refine ⟨.ref _, _, I1.laid (t' := tk) (fun b o e => hk b o (k1 b o e)) (by rw [hsz]; exact Nat.le_succ _) (show ObjOk X.prog X.w _ h' _ (.lst (kvs.map (·.2))) from ⟨by rw [List.length_map]; exact hz, acc'.toList, c', hv, ?_⟩), rfl, q _ (I1.hok.fresh (by rw [hsz]; exact Nat.le_succ _))⟩
  simpa using hD
end L2
namespace DL
open PySem PySem.Spec PyProof.Rows L2
section
variable {K : Frag} {W : WX} {XC : DX} {B : Base} {env : Env} {σ : L2.St} {tm : List (V × D)} {H : Hp} {v : V} {x d : D} {pn : List Nat} {F : Hp} {U : Fam}
@[simp] def dVals (dd : DTE) : DTE := fun env Q => dd env fun x e => ∃ i kvs, x = .ptr i ∧ e[i]? = some (some (.dc kvs)) ∧ (kvs.all fun p => isSc p.2) = true ∧ Q (.mt (kvs.map fun p => ofV p.2)) e
theorem de_vals {td : TE} {dd : DTE} (hd : DE K W XC pn td dd) : DE K W XC pn (tListVals td) (dVals dd) := ⟨fun B ok tm env σ H Q R r h' kk =>
  hd.run B ok tm env σ H _ _ r h' fun x e p H1 ⟨i, kvs, e4, e5, e6, q2⟩ r1 => by
    subst e4
    have r1' : Rel K B e σ ([] ++ (p, D.ptr i) :: tm) H1 := r1
    obtain ⟨a, rfl, hH⟩ := Rel.lookK r1' e5
    obtain ⟨F, U, r2⟩ := (show Rel K B e σ tm H1 from r1.pop)
    refine ⟨a, kvs, rfl, hH, fun l hl => kk _ _ _ _ q2 (r2.newL hl (by simp) fun j v d h1 h2 => ?_)⟩
    rw [List.getElem?_map] at h1 h2
    cases q : kvs[j]? with
    | none => rw [q] at h1; cases h1
    | some kv =>
      rw [q] at h1 h2
      cases h1; cases h2
      exact rep_sc (List.all_eq_true.mp e6 kv (List.mem_of_getElem? q))⟩
end
end DL

/-! ## DLx.lean -/
/-! ### exceptions: a caught one is kept as a value -/
namespace L2
open PySem PySem.Spec PyProof.Rows
abbrev EXO := DL.EXO
theorem exo_stands {P : Program} {w : World} {H : Hp} {h : Heap} {a : Addr} {cls : Value} {d : Option Addr} {oe : Obj} {vs : Array Value} (he : h.get? a = some oe) (hz : Zc cls d oe) (hd : oe.data = .fields vs) : ObjOk P w H h a (EXO cls d a) :=
  ⟨⟨oe, vs, he, hz, hd⟩, ⟨oe, he⟩, fun _ _ ⟨o, v, q, r⟩ k => ⟨o, v, k o q, r⟩⟩
section
variable {X : Cx} {pins : List (Addr × Obj)} {σ : St} {H : Hp} {s : Shared} {a : Addr} {oe : Obj} {cls : Value} {d : Option Addr} {vs : Array Value}
/-- an exception that stands untracked is tracked -/
theorem Inv.trackE (I : Inv X pins σ H s) (he : s.heap.get? a = some oe) (hz : Zc cls d oe) (hd : oe.data = .fields vs) (na : H a = none) (nL : a ≠ X.env.locals) (nC : ∀ x c, X.env.cells.lookup x = some c → c ≠ a)
    (nP : ∀ p ∈ X.pn ++ pins, p.1 ≠ a) (n0 : ∀ o, X.s_0.heap.get? a = some o → X.H_0 a ≠ none) : Inv X pins σ (upd H a (EXO cls d a)) s := by
  have neT : ∀ b o, H b = some o → b ≠ a := fun b o e z => by rw [z, na] at e; cases e
  refine ⟨I.ok, I.os, I.bare, ⟨I.base.keep, I.base.slot, fun b o e n hx => ?_, I.base.there, fun b xs e => ?_, fun b o u e => ?_, fun b ps e => ?_⟩, I.loc, I.cell, ?_, fun x c e => ?_, fun p hp => ?_, fun b u e => ?_, I.len⟩
  · have hb : b ≠ a := fun z => by subst z; exact n0 o e n
    rw [upd_ne hb]; exact I.base.free b o e n hx
  · have q := I.base.tups b xs e
    rw [upd_ne (neT _ _ q)]; exact q
  · have q := I.base.frzs b o u e
    rw [upd_ne (neT _ _ q)]; exact q
  · obtain ⟨m, q⟩ := I.base.tbls b ps e
    exact ⟨m, by rw [upd_ne (neT _ _ q)]; exact q⟩
  · rw [upd_ne (Ne.symm nL)]; exact I.free
  · rw [upd_ne (nC x c e)]; exact I.freeC x c e
  · obtain ⟨p1, p2, p3⟩ := I.pin p hp
    exact ⟨p1, by rw [upd_ne (nP p hp)]; exact p2, p3⟩
  · by_cases hb : b = a
    · subst hb
      rw [upd_same] at e
      cases e
      exact exo_stands he hz hd
    · rw [upd_ne hb] at e
      exact (I.hok b u e).stay (fun c v hc q => q) (fun c q => by rw [upd_ne (neT _ _ q)]; exact q) fun c xs q => by rw [upd_ne (neT _ _ q)]; exact q
/-- out of a suite, the caught one pinned -/
theorem Inv.unsuiteP {q : Addr × Obj} {a : Addr} {pn' : List (Addr × Obj)} (I : Inv (X.suite a (q :: (X.pn ++ pins))) pn' σ H s) (ok : X.Ok) : Inv X (q :: pins) σ H s :=
  ⟨ok, I.os, I.bare, I.base, I.loc, I.cell, I.free, I.freeC, fun p hp => I.pin p (List.mem_append_left _ (by
    rcases List.mem_append.mp hp with h | h
    · exact List.mem_cons_of_mem _ (List.mem_append_left _ h)
    · rcases List.mem_cons.mp h with h | h
      · rw [h]; exact List.mem_cons_self
      · exact List.mem_cons_of_mem _ (List.mem_append_right _ h))), I.hok, I.len⟩
theorem Inv.dropP {q : Addr × Obj} (I : Inv X (q :: pins) σ H s) : Inv X pins σ H s :=
  ⟨I.ok, I.os, I.bare, I.base, I.loc, I.cell, I.free, I.freeC, fun p hp => I.pin p (by
    rcases List.mem_append.mp hp with h | h
    · exact List.mem_append_left _ h
    · exact List.mem_append_right _ (List.mem_cons_of_mem _ h)), I.hok, I.len⟩
end
/-- what the clause 'except x as n' wishes, the caught one tracked behind it -/
def wAsT (K : PySem.W.Frag) (c : Value) (i : Nat) (ts : Addr → Value → Option Addr → TS) (Wout : WX) (D : Ends) : WX := fun cls d σ H =>
  ∃ b, PySem.W.exmOne K cls c = some b ∧ (b = true → ∀ a, H a = none → ts a cls d { nx := fun σ' H' => D.nx (σ'.set i none) (upd H' a (EXO cls d a)), rt := fun _ _ => False, bk := fun _ _ => False, ct := fun _ _ => False } (σ.set i (some (.ref a))) H) ∧
    (b = false → Wout cls d σ H)
section
variable {X : Cx} {x n : Str} {c : Value} {i : Nat} {body suite : List Stmt} {b₀ : Stmt} {np pos pos' : Pos} {tb : WX → TS} {ts : Addr → Value → Option Addr → TS} {Wout : WX}
theorem ps_try_asT (hs : X.stack = X.env :: X.outer) (hf : X.env.frame = some X.env.locals) (hex : X.ex = []) (hN : X.N.Nodup) (hi : X.N[i]? = some n) (hln : X.env.kindOf n = some .local) (hc : Names X x c) (tk : Takes X Wout)
    (hb : ∀ (W : WX) (pn : List (Addr × Obj)) (xe : Value → Shared → Prop), Takes (X.tr pn xe) W → PassesOwn (model X.prog X.w) X.A X.env xe → PSs (X.tr pn xe) body (tb W))
    (hsu : ∀ (a : Addr) (oe : Obj) (cls : Value) (d : Option Addr) (pn : List (Addr × Obj)), Zc cls d oe → (∃ vs, oe.data = .fields vs) → PSs (X.suite a ((a, oe) :: pn)) (b₀ :: suite) (ts a cls d)) :
    PS X (.Try body [.ExceptHandler (some (.Name x np)) (some n) (b₀ :: suite) pos'] [] [] pos) (fun D σ H => tb (wAsT X.K c i ts Wout D) D σ H) := by
  refine ⟨fun pins s σ H D I h => ?_⟩
  have ok := I.ok
  have hfr : X.A.frames = some (X.env :: X.outer) := by rw [ok.frames, hs]
  have hloc : Loc X.env.scope n := .inl hln
  refine wpAny_Try_except ?_
  refine wpAny_mono ((hb (wAsT X.K c i ts Wout D) (X.pn ++ pins) (fun e s₁ => wpAny (model X.prog X.w) X.A (noteFrame e X.env) (fun _ s₂ => wpAny (model X.prog X.w) X.A (setFlight e none) (fun _ s₃ =>
    wpAny (model X.prog X.w) X.A (handleBy e X.env [.ExceptHandler (some (.Name x np)) (some n) (b₀ :: suite) pos']) (SP X pins D) X.xe s₃) X.xe s₂) X.xe s₁) (fun u s' xx => ?_) PassesOwn.looking).run [] s σ H D (I.toTry _) h) (fun f s1 hsp => ?_) (fun e s1 he => he)
  · -- the catch
    obtain ⟨a, B, sI, pins', σ', H', cls, d, rfl, J', nb, up, sky, na, os, ag, b, hb1, hyes, hno⟩ := xx
    have J : Inv X pins σ' H' sI := J'.ofTry ok
    have sky' : Sky B (X.env :: X.outer) a (Zc cls d) X.env.locals s'.heap := by rw [← hs]; exact sky
    show wpAny (model X.prog X.w) X.A (noteFrame (.ref a) X.env) _ _ _
    refine Sky.land Zc.steady hfr hf sky' fun h3 fl3 up3 => ?_
    have J3 : Inv X pins σ' H' { s' with heap := h3 } := J.landed nb fl3.1 (up.trans up3) os ag
    obtain ⟨oe3, vs3, he3, hz3, hd3⟩ := fl3.there
    have notFr : ∀ {h : Heap} {o : Obj} {vs : Array Value}, h.FunFrames B (X.env :: X.outer) → h.get? a = some o → o.data = .fields vs → a ∉ frs (X.env :: X.outer) := fun {h o vs} ff e dd hm => by
      obtain ⟨_, o', e', hnf⟩ := ff.mem hm
      rw [e] at e'; cases e'
      exact hnf _ dd
    have nfr := notFr fl3.2.2.1 he3 hd3
    have nL : a ≠ X.env.locals := fun z => nfr (List.mem_filterMap.mpr ⟨X.env, List.mem_cons_self, by rw [hf, z]⟩)
    have nF : a ∉ X.fs := fun hm => by
      obtain ⟨e, he, q⟩ := List.mem_filterMap.mp hm
      exact nfr (List.mem_filterMap.mpr ⟨e, List.mem_cons_of_mem _ he, q⟩)
    have nB : B.get? a = none := fl3.2.1
    have frsX : ∀ b, b ≠ X.env.locals → b ∉ X.fs → b ∉ frs X.stack := fun b h1 h2 hm => by
      rw [hs] at hm
      obtain ⟨e, he, q⟩ := List.mem_filterMap.mp hm
      rcases List.mem_cons.mp he with he | he
      · subst he
        rw [hf] at q
        exact h1 (Option.some.inj q).symm
      · exact h2 (List.mem_filterMap.mpr ⟨e, he, q⟩)
    have nP : ∀ p ∈ X.pn ++ pins, p.1 ≠ a := fun p hp z => by
      obtain ⟨p1, _, p3, p4, _⟩ := J.pin p hp
      have := nb p.1 p.2 p1 (frsX p.1 p3 p4)
      rw [z, nB] at this
      cases this
    have nC : ∀ x c, X.env.cells.lookup x = some c → c ≠ a := fun x c e z => by
      obtain ⟨v, o, ho, hdat⟩ := J3.cell x c e
      have ho : h3.get? c = some o := ho
      rw [z, he3] at ho
      cases ho
      rw [hd3] at hdat
      cases hdat
    have n0 : ∀ o, X.s_0.heap.get? a = some o → X.H_0 a ≠ none := fun o e n => by
      have q := J.base.keep a o e n nF (by rw [hex]; exact fun z => nomatch z)
      have := nb a o q (frsX a nL nF)
      rw [nB] at this
      cases this
    have S3 := J3.suite he3 hd3 na nL nF
    refine wpAny_handleBy_cons (codeAny_handlers_test ?_) (by intro q; cases q)
    have LT : PySem.W.Looks (model X.prog X.w) h3 (typeOf (.ref a)) cls := fun A Q E s k q => wpAny_typeOf_ref (k _ _ he3) (by rw [hz3.1]; exact q)
    have LM := PySem.W.exm_one (M := model X.prog X.w) (J3.kIn) LT hb1
    have test : ∀ {Q : Value → Shared → Prop} {E : Value → Shared → Prop}, Q c { s' with heap := h3 } → wpAny (model X.prog X.w) (X.A.mark (some (.ref a))) (eval (.Name x np) X.env) Q E { s' with heap := h3 } := fun {Q E} q => by
      obtain ⟨hg, hdbg, hm | ⟨hm, hv, hnn⟩⟩ := hc
      · exact ld_glob (X := X.suite a ((a, oe3) :: (X.pn ++ pins))) S3 hg hm q hdbg
      · exact ld_blt (X := X.suite a ((a, oe3) :: (X.pn ++ pins))) S3 hg hm hv q hnn hdbg
    refine test (LM.here ?_)
    cases b with
    | true =>
      refine codeAny_handlers_suite_as ?_
      refine HandSPX.lands_againZ fl3 fun h4 fl4 up4 => ?_
      have J4 : Inv X pins σ' H' { s' with heap := h4 } := J.landed nb fl4.1 ((up.trans up3).trans up4) os ag
      obtain ⟨oe4, vs4, he4, hz4, hd4⟩ := fl4.there
      have S4 := J4.suite he4 hd4 na nL nF
      refine store_ok (X := X.suite a ((a, oe4) :: (X.pn ++ pins))) (v := .ref a) S4 hN hi hloc rfl (fun s5 S5 => ?_) (.inr hln)
      refine wpAny_mono ((hsu a oe4 cls d (X.pn ++ pins) hz4 ⟨_, hd4⟩).run [] s5 _ H' _ S5 (hyes rfl a na)) (fun f s6 hsp => ?_) (fun _ _ z => False.elim z)
      have end_ : ∀ {σ6 : St} {H6 : Hp} {Q : Shared → Prop}, Inv (X.suite a ((a, oe4) :: (X.pn ++ pins))) [] σ6 H6 s6 → (∀ s7, Inv X pins (σ6.set i none) (upd H6 a (EXO cls d a)) s7 → Q s7) →
          wpAny (model X.prog X.w) X.A (do bindName X.env n .none; unbindBehindTheSuite X.env n pos') (fun _ s7 => Q s7) X.xe s6 := fun {σ6 H6 Q} S6 hq => gone_ok (S6.unsuiteP ok) hN hi hln fun s7 J7 => hq s7 (by
            obtain ⟨g1, g2, _⟩ := J7.pin (a, oe4) (List.mem_append_right _ List.mem_cons_self)
            exact J7.dropP.trackE g1 hz4 hd4 g2 nL nC nP n0)
      cases f with
      | next =>
        obtain ⟨σ6, H6, S6, q6⟩ := hsp
        exact end_ S6 fun s7 J7 => ⟨_, _, J7, q6⟩
      | brk =>
        obtain ⟨σ6, H6, S6, q6⟩ := hsp
        exact q6.elim
      | cont =>
        obtain ⟨σ6, H6, S6, q6⟩ := hsp
        exact q6.elim
      | ret u =>
        obtain ⟨v6, σ6, H6, S6, r6, q6⟩ := hsp
        exact q6.elim
    | false =>
      show wpAny _ X.A (handleBy (.ref a) X.env []) _ _ _
      refine wpAny_handleBy_nil ?_
      obtain ⟨k1, k2, k3, oe, vs, T, oT, ts', he, hz, hd, h1, hr⟩ := id fl3
      unfold PySem.passOn
      refine wpAny_bind (wpAny_field he hd h1 ?_)
      rw [if_neg (show ¬ ((Value.ref T == Value.none) = true) from by simp)]
      have fin : wpAny (model X.prog X.w) X.A (setFlight (.ref a) X.env.frame) (fun _ s4 => wpAny (model X.prog X.w) X.A (throw (.ref a) : Sem Flow) (SP X pins D) X.xe s4) X.xe { s' with heap := h3 } := by
        rw [hf]
        refine HandSPX.setFlight_upZ fl3 fun h4 hh4 up4 => wpAny_throw (tk _ _ ?_)
        exact ⟨a, B, sI, pins, σ', H', cls, d, rfl, J, nb, (up.trans up3).trans up4, .inr (.inr (by rw [hs]; exact hh4)), na, os, ag, hno rfl⟩
      first
        | exact wpAny_bind (wpAny_pure (wpAny_bind fin))
        | exact wpAny_bind fin
  · cases f with
    | next =>
      obtain ⟨σ', H', J', q⟩ := hsp
      exact wpAny_execs_nil ⟨σ', H', J'.ofTry ok, q⟩
    | brk =>
      obtain ⟨σ', H', J', q⟩ := hsp
      exact ⟨σ', H', J'.ofTry ok, q⟩
    | cont =>
      obtain ⟨σ', H', J', q⟩ := hsp
      exact ⟨σ', H', J'.ofTry ok, q⟩
    | ret u =>
      obtain ⟨v, σ', H', J', r, q⟩ := hsp
      exact ⟨v, σ', H', J'.ofTry ok, r, q⟩
end
end L2

/-! ## DLy.lean -/
namespace L2
open PySem PySem.Spec PyProof.Rows
/-! ### T.__init__(self, ..), T an own class over ValueError -/
structure TopC (K : PySem.W.Frag) (T : Addr) : Prop where
  hg : PySem.W.specialIn K (.ref T) "__getattribute__" = some (some (.builtin "type.__getattribute__"))
  hr : PySem.W.readsIn K T (.type "type") = true
  hf : PySem.W.findCls K (.ref T) (.type "type") "__init__" = some (.val (.builtin "ValueError.__init__"))
section
variable {X : Cx} {x f : Str} {T C fI : Addr} {e : Expr} {es : List Expr} {ta : TA} {p p1 p2 pos : Pos}
theorem pe_clsinit {pl : Sem Bool} (hg : Gl X x) (hm : X.mg x = some (.ref T)) (TC : TopC X.K T) (ha : PA X (e :: es) ta) (hdb : (x == ("__debug__" : Str)) = false := by decide)
    (hc : eval (.Call (.Attribute (.Name x p1) "__init__" p2) (e :: es) [] pos) X.env = (do
      let ov ← eval (.Name x p1) X.env
      standAt p2.atName
      let (f, first) ← holding [ov] (getMethod ov "__init__" pl)
      callWith pos f first (backTo pos (starEach (e :: es) X.env)) (backToKw pos (keywordEach [] X.env))) := by rfl)
    (he : starEach (e :: es) X.env = (false, eval e X.env) :: starEach es X.env := by rfl) (hpl : (backTo pos (starEach es X.env)).any (·.1) = false := by rfl) :
    PE X (.Call (.Attribute (.Name x p1) "__init__" p2) (e :: es) [] pos) (tVeI X.K ta) := by
  refine ⟨fun pins s σ H Q I h => ?_⟩
  refine PySem.W.methodCall_KW (ld_glob I hg hm ?_ hdb) hc
  refine PySem.W.method_cls I.kIn TC.hg (PySem.W.cls_value I.kIn TC.hr TC.hf (by decide +kernel) ?_)
  show wpAny _ _ (callWith pos (Value.builtin "ValueError.__init__") [] (backTo pos (starEach (e :: es) X.env)) []) _ _ _
  refine PyProof.Rows.callWith_method1 (thn (ha.run pos pins _ σ H _ (I.tok _) h) fun us s1 ⟨vs, H1, I1, r1, a, C, ws, ev, hl, T, ea, q⟩ => ?_) he hpl
  subst ev
  cases r1 with
  | @cons _ u0 _ ur ra rw' =>
    obtain rfl : u0 = Value.ref a := ra
    have hlen : ur.length ≤ sizeLine := by
      rw [← Paired.length rw', sizeLine_eq]
      omega
    exact oinit_ok T I1 ea hlen fun s' J => ⟨.non, H1, J, rfl, q⟩
/-- what an exception's __init__ does that calls its base and sets one field -/
def spXI (K : PySem.W.Frag) (f : Str) : Sp := fun vs H Q _ => ∃ (a C : Addr) (v : V), vs = [.ref a, v] ∧ H a = some (exo a C none) ∧ OexC K C ∧ PySem.W.findIn K (.ref C) f = some none ∧
  ∀ dx, H dx = none → dx ≠ a → Q .non (upd (upd H dx (exd dx [(f, v)])) a (exo a C (some dx)))
structure ExI (K : PySem.W.Frag) (mg : Str → Option Value) (n : Str) (f : Str) (C fI : Addr) : Prop where
  oc : OexC K C
  m : mg n = some (.ref C)
  no : PySem.W.findIn K (.ref C) f = some none
  iC : PySem.W.findIn K (.ref C) "__init__" = some (some (.ref fI))
  tI : PySem.W.typeIn K (.ref fI) = some (.type "function")
theorem pmk_exc {n par : Str} {k : Nat} {fd : FuncData} (T : ExI X.K X.mg n f C fI) (F1 : FnOk X.prog X.w X.K X.mg X.base CX0 k fI fd ["self", par] (spXI X.K f)) (hr : Room (k + 1) X.A) (hb : Binds X.K fd ["self", par] []) (hg : Gl X n) (ha : PA X [e] ta)
    (hdb : (n == ("__debug__" : Str)) = false := by decide) (he : starEach (e :: []) X.env = (false, eval e X.env) :: starEach [] X.env := by rfl) (hpl : (backTo pos (starEach [] X.env)).any (·.1) = false := by rfl) :
    PMk X (.Call (.Name n p) [e] [] pos) (tMkO C (spXI X.K f) [] ta) := pmk_oex (dvs := []) T.oc T.iC T.tI F1 hr hb .nil pass0 hg T.m ha hdb he hpl
/-! ### methods that may raise -/
def tMethX (C : Addr) (m : Str) (sp : Sp) (E : St → XK) (to : TE) (t : TA) : TE := fun σ H Q => to σ H fun x H1 => ∃ a dx fs, x = .ref a ∧ H1 a = some (.ins C dx fs) ∧ fs.lookup m = none ∧ t σ H1 fun vs H2 => sp (x :: vs) H2 Q (E σ)
theorem pe_methX {CX : CXT} {k : Nat} {fa : Addr} {fd : FuncData} {ps : List Str} {sp : Sp} {E : St → XK} {m : Str} {o : Expr} {to : TE} {apos : Pos} {pl : Sem Bool} (he : PE X o to) (c : Cls X.K C) (hm : Meth X.K C m fa) (F : FnOk X.prog X.w X.K X.mg X.base CX k fa fd ps sp) (hr : Room k X.A) (hb : Binds X.K fd ps []) (hx : ∀ σ, PassesAt CX X σ (E σ)) (ha : PA X (e :: es) ta)
    (hst : starEach (e :: es) X.env = (false, eval e X.env) :: starEach es X.env := by rfl) (hpl : (backTo pos (starEach es X.env)).any (·.1) = false := by rfl)
    (ht : eval (.Call (.Attribute o m apos) (e :: es) [] pos) X.env = (do
      let ov ← eval o X.env
      standAt apos.atName
      let (f, first) ← holding [ov] (getMethod ov m pl)
      callWith pos f first (backTo pos (starEach (e :: es) X.env)) (backToKw pos (keywordEach [] X.env))) := by rfl) :
    PE X (.Call (.Attribute o m apos) (e :: es) [] pos) (tMethX C m sp E to ta) := by
  refine ⟨fun pins s σ H Q I h => ?_⟩
  refine PySem.W.methodCall_KW (pl := pl) (thn (he.run pins s σ H _ I h) fun u s1 ⟨x, H1, I1, rx, a, dx, fs, ex, ea, l, q⟩ => ?_) ht
  subst ex
  obtain rfl : u = Value.ref a := rx
  refine getmeth_ok I1 ea c hm l ?_
  refine PySem.W.callWith_K (first := [.ref a]) (h₀ := X.base) I.ok.mod.kin hm.kp (thn (ha.run pos pins s1 σ H1 _ I1 q) fun us s2 ⟨vs, H2, I2, r, q2⟩ => ⟨I2.kIn, ?_⟩) hst hpl
  exact run_fnS (us := .ref a :: us) (vs := .ref a :: vs) F hr hb (hx σ) I2 (.cons rfl r) q2
theorem pe_methX0 {CX : CXT} {k : Nat} {fa : Addr} {fd : FuncData} {ps : List Str} {sp : Sp} {E : St → XK} {m : Str} {o : Expr} {to : TE} {apos : Pos} {pl : Sem Bool} (he : PE X o to) (c : Cls X.K C) (hm : Meth X.K C m fa) (F : FnOk X.prog X.w X.K X.mg X.base CX k fa fd ps sp) (hr : Room k X.A) (hb : Binds X.K fd ps []) (hx : ∀ σ, PassesAt CX X σ (E σ))
    (ht : eval (.Call (.Attribute o m apos) [] [] pos) X.env = (do
      let ov ← eval o X.env
      standAt apos.atName
      let (f, first) ← holding [ov] (getMethod ov m pl)
      callWith pos f first (backTo pos (starEach [] X.env)) (backToKw pos (keywordEach [] X.env))) := by rfl) :
    PE X (.Call (.Attribute o m apos) [] [] pos) (tMethX C m sp E to tNil) := by
  refine ⟨fun pins s σ H Q I h => ?_⟩
  refine PySem.W.methodCall_KW (pl := pl) (thn (he.run pins s σ H _ I h) fun u s1 ⟨x, H1, I1, rx, a, dx, fs, ex, ea, l, q⟩ => ?_) ht
  subst ex
  obtain rfl : u = Value.ref a := rx
  refine getmeth_ok I1 ea c hm l ?_
  exact PySem.W.callWith_K0 (first := [.ref a]) I1.kIn hm.kp (run_fnS (us := [.ref a]) (vs := [.ref a]) F hr hb (hx σ) I1 (.cons rfl .nil) q)
end
/-! ### two readings of one expression -/
theorem pe_alt {X : Cx} {e : Expr} {t u : TE} (h : PE X e t) (k : PE X e u) : PE X e (fun σ H Q => t σ H Q ∨ u σ H Q) := ⟨fun pins s σ H Q I q => q.elim (fun q => h.run pins s σ H Q I q) fun q => k.run pins s σ H Q I q⟩
theorem ps_alt {X : Cx} {e : Stmt} {t u : TS} (h : PS X e t) (k : PS X e u) : PS X e (fun D σ H => t D σ H ∨ u D σ H) := ⟨fun pins s σ H D I q => q.elim (fun q => h.run pins s σ H D I q) fun q => k.run pins s σ H D I q⟩
/-! ### isinstance of a kept exception, of an own instance, of None -/
/-- an exception's dict -/
def XDk (d : Option Addr) (H : Hp) : Prop := d = none ∨ ∃ dd fs, d = some dd ∧ H dd = some (.xd fs)
theorem exo_inst {X : Cx} {pins : List (Addr × Obj)} {σ : St} {H : Hp} {s : Shared} {a D : Addr} {d : Option Addr} (I : Inv X pins σ H s) (h : H a = some (EXO (.ref D) d a)) (hd : XDk d H) : ∃ oe od, PySem.W.InstAt s.heap a oe D od := by
  obtain ⟨⟨oe, vs, h1, h2, h3⟩, _⟩ := I.hok a _ h
  obtain ⟨oc, odi, oda, osl⟩ := oe
  obtain ⟨g1, g2⟩ := h2
  dsimp only at g1 g2 h3
  subst g1 g2 h3
  rcases hd with rfl | ⟨dd, fs, rfl, hx⟩
  · exact ⟨_, none, h1, rfl, rfl, trivial⟩
  · have hx : ObjOk X.prog X.w H s.heap dd (.xd fs) := I.hok dd _ hx
    obtain ⟨mA, hns, hr⟩ := hx
    obtain ⟨od, ho, hl⟩ := lookIn_ns hns
    exact ⟨_, some od, h1, rfl, rfl, ho⟩
def rIsX (K : PySem.W.Frag) : List V → Hp → VK → Prop := fun xs H Q => ∃ (a D : Addr) (d : Option Addr) (c : V) (u : Value) (b : Bool), xs = [.ref a, c] ∧ H a = some (EXO (.ref D) d a) ∧ XDk d H ∧ ExcC K D ∧ ClsV c u ∧ PySem.W.kitOne K (.ref D) u = some b ∧ Q (.bl b) H
theorem call_isX {X : Cx} : CallR X (.builtin "isinstance") (rIsX X.K) := by
  intro pins s σ H xs us Q I r h
  obtain ⟨a, D, d, c, u, b, rfl, ha, hd, C, k, e, q⟩ := h
  obtain ⟨u1, u2, rfl, r1, r2⟩ := vals2 r
  have e2 := k.eq r2
  subst e2
  obtain rfl : u1 = Value.ref a := r1
  obtain ⟨oe, od, J⟩ := exo_inst I ha hd
  have hcl : (PySem.W.clsIn X.K D).isSome = true := by
    obtain ⟨cd, hc, _⟩ := PySem.W.any_some C.hd
    rw [hc]; rfl
  exact PySem.W.kia_one (PySem.W.kitx_exc (od := od) (ox := oe) hcl C.hg C.hk C.hs C.ha C.hn C.ht C.hm) I.kIn J e (fun z => nomatch z) fun tk => ⟨.bl b, H, I.kept (t' := tk) fun _ _ z => z, rfl, q⟩
theorem call_or {X : Cx} {f : Value} {r1 r2 : List V → Hp → VK → Prop} (h : CallR X f r1) (k : CallR X f r2) : CallR X f (fun vs H Q => r1 vs H Q ∨ r2 vs H Q) := by
  intro pins s σ H xs us Q I r q
  exact q.elim (fun q => h pins s σ H xs us Q I r q) fun q => k pins s σ H xs us Q I r q
/-! ### e.f of a kept exception -/
def tXfT (K : PySem.W.Frag) (f : Str) (te : TE) : TE := fun σ H Q => te σ H fun x H1 => ∃ (a C dd : Addr) (fs : List (Str × V)) (v : V), x = .ref a ∧ H1 a = some (EXO (.ref C) (some dd) a) ∧ H1 dd = some (.xd fs) ∧ XfC K C ∧ PySem.W.findIn K (.ref C) f = some none ∧ fs.lookup f = some v ∧ Q v H1
theorem pe_xfT {X : Cx} {e : Expr} {te : TE} {pos : Pos} {n : Str} (he : PE X e te) (hb : attributeBase e n X.env (eval e X.env) = eval e X.env := by rfl) : PE X (.Attribute e n pos) (tXfT X.K n te) := by
  refine ⟨fun pins s σ H Q I h => ?_⟩
  refine attr_of hb (thn (he.run pins s σ H _ I h) fun u s1 hh => ?_)
  obtain ⟨x, H1, I1, rx, a, C, dd, fs, v, ex, ea, ed, T, hno, l, q⟩ := hh
  subst ex
  obtain rfl : u = Value.ref a := rx
  obtain ⟨⟨oe, vs, h1, hz, hd⟩, _⟩ := I1.hok a _ ea
  have hx : ObjOk X.prog X.w H1 s1.heap dd (.xd fs) := I1.hok dd _ ed
  obtain ⟨mA, hns, hr⟩ := hx
  obtain ⟨od, ho, hl⟩ := lookIn_ns hns
  obtain ⟨u, hu, ru⟩ := RelO.some_of (v := v) (o := mA n) (by rw [← l]; exact hr n)
  have J : PySem.W.InstAt s1.heap a oe C (some od) := ⟨h1, hz.1, by unfold PySem.W.notCls; rw [hd] <;> rfl, by rw [hz.2]; exact ho⟩
  exact HandSPX.exc_get I1.kIn J T.ga T.gg T.exC (PySem.W.findObj_own T.hdC hno rfl (by rw [hl, hu])) (handed_of ru) ⟨v, H1, I1.tok _, ru, q⟩
end L2

/-! ## DLz.lean -/
namespace DL
open PySem PySem.Spec PyProof.Rows L2
open Dat (toD)
section
variable {P : Program} {w : World} {K : Frag} {mg : Str → Option Value} {base : Heap}
/-- an exception's __init__ that calls its base with a text and sets one field -/
theorem okXI {qual : Str} {st : Stmt} {f : Addr} {fd : FuncData} {par fld m : Str} (Fn : Fun K "__init__" qual st f fd) (S : FnScope ["self", par] ["self", par] (defScope st))
    (body : ∀ (cdv : Value) (A : Around) (outer : List PySem.Env) (s : Shared) (H : Hp) (E : XK), PSs (cxOf CX0 P w K mg base ["self", par] qual (defScope st) f cdv A outer s H E).nox (defBody st)
      (tSeq (tDrop (tVeI K (tCons (tVar 0) (tCons (tC (.str m)) tNil)))) (tOst K fld (tVar 0) (tVar 1)))) : FnOk P w K mg base CX0 1 f fd ["self", par] (spXI K fld) := by
  refine Fn.ok S (fun vs H Q E ⟨a, C, v, h, _⟩ => by rw [h]; rfl) fun cdv A outer s H vs Q E hr h => ⟨_, body cdv A outer s H E, ?_⟩
  obtain ⟨a, C, v, rfl, h1, oc, no, k⟩ := h
  exact ⟨_, rfl, a, C, _, rfl, (by show 1 ≤ 1000; decide), oc, h1, _, rfl, _, rfl, a, C, rfl, oc, no, .inl ⟨h1, fun dx n ne => k dx n ne⟩⟩
end
/-- an own exception class without own __init__ -/
structure Ex0 (K : Frag) (mg : Str → Option Value) (n : Str) (C : Addr) : Prop where
  q : PySem.W.excIn K C PySem.HandSPX.veTail "ValueError.__new__" = true
  m : mg n = some (.ref C)
  kC : PySem.W.keepIn K (.ref C) = true
  exC : PySem.W.subIn K (.ref C) (.type "BaseException") = some true
  tyC : PySem.W.typeIn K (.ref C) = some (.type "type")
theorem pmk_own0 {X : Cx} {n m : Str} {C : Addr} {j : Nat} {p p2 pos : Pos} (T : Ex0 X.K X.mg n C) (hg : Gl X n) (hdb : (n == ("__debug__" : Str)) = false := by decide) : PMk X (.Call (.Name n p) [.Constant (.str m) j p2] [] pos) (fun _ H Q => Q (.ref C) none H) :=
  pmk_own F.excBase_ValueError T.q T.m T.kC (raises_own T.exC T.tyC) hg hdb
section
variable {K : Frag} {W : WX} {XC : DX} {B : Base} {env : Env} {σ : L2.St} {tm : List (V × D)} {H : Hp} {v : V} {x d : D} {pn : List Nat} {F : Hp} {U : Fam}
/-! ### calls that may raise -/
@[simp] def dCallX (ow : List Nat) (f : DSp) (XC : DX) (da : DTA) : DTE := fun env Q => da env fun ds e => argB ow e 0 ds = true ∧ ndB (ptrs ds) = true ∧ ow.all (fun k => decide (k < ds.length)) = true ∧ f (ds.map (argD e)) (fun r os => Q r (putO ds ow os e)) fun C fs os => XC C fs (putO ds ow os e)
theorem de_callX {t : TA} {da : DTA} {f : DSp} {ow : List Nat} (h : DA K W XC pn t da) : DE K W XC pn (tCallS (liftSp K ow f) (WE W) t) (dCallX ow f XC da) := ⟨fun B ok tm env σ H Q R r h' k => h.run B ok tm env σ H _ _ r h' fun ds e vs H1 ⟨q1, q2, q3, q4⟩ l r1 => by
  exact Rel.callee r1 l (argOk_of q1 q2 q3) (R := fun r os => R r (putO ds ow os e)) (RX := fun C fs os => XC C fs (putO ds ow os e)) q4 (fun r os v H' h1 h2 => k _ _ _ _ h1 h2) fun C fs os d H' F U h1 h2 h3 h4 => ok.xc C fs _ _ _ _ _ F U h1 h2 h3 h4⟩
/-- o.m(..) that may raise, o standing -/
@[simp] def dMethX (cn : String) (m : Str) (f : DSp) (XC : DX) (do_ : DTE) (da : DTA) : DTE := fun env Q => do_ env fun x e0 => ∃ fs, x = .obj cn fs ∧ fs.lookup m = none ∧ da e0 fun ds e => ds.all isR = true ∧ f (x :: ds) (fun r _ => Q r e) fun C fs _ => XC C fs e
theorem de_methX {cn : String} {m : Str} {t : TA} {ta : TE} {do_ : DTE} {da : DTA} {f : DSp} (ho : DE K W XC pn ta do_) (h : DA K W XC pn t da) : DE K W XC pn (tMethX (clsA K cn) m (liftSp K [] f) (WE W) ta t) (dMethX cn m f XC do_ da) := ⟨fun B ok tm env σ H Q R r h' k =>
  ho.run B ok tm env σ H _ _ r h' fun x e0 v H1 ⟨fs, ex, hm, q0⟩ r0 => by
    subst ex
    obtain ⟨F, U, r0'⟩ := id r0
    have rx : Rep K F v (.obj cn fs) := kids1 r0' rfl
    cases rx with
    | @obj a dx _ vs0 _ hF l rp =>
      refine ⟨a, dx, vs0, rfl, r0'.sub _ _ hF, lookup_none l hm, h.run B ok _ e0 σ H1 _ _ r0 q0 fun ds e vs H2 ⟨q1, q2⟩ l2 r1 => ?_⟩
      have q3 : (D.obj cn fs :: ds).all isR = true := by rw [List.all_cons, q1]; rfl
      have r2 : Rel K B e σ ((V.ref a :: vs).zip (D.obj cn fs :: ds) ++ tm) H2 := by
        obtain ⟨F, U, r1⟩ := r1
        have kd := r1.kids l2 q1
        obtain ⟨U1, r3⟩ := r1.popL
        have kx := kids1 r3 rfl
        have r4 := r3.re tm (· + 1) (fun i j e => Nat.succ.inj e) fun i x e => e
        obtain ⟨U2, r5⟩ := r4.pushAll (V.ref a :: vs) (D.obj cn fs :: ds) (by simp [l2]) fun i v d e1 e2 => by
          cases i with
          | zero => cases e1; cases e2; exact kx
          | succ i => exact kd i v d e1 e2
        exact ⟨_, _, r5⟩
      refine Rel.callee (ow := []) r2 (by simp [l2]) (argOk0 q3) (R := fun r _ => R r e) (RX := fun C fs _ => XC C fs e) (by rw [argD_R q3]; exact q2) (fun r os v H' h1 h2 => ?_) fun C fs os d H' F U h1 h2 h3 h4 => ?_
      · rw [putO_nil] at h2
        exact k _ _ _ _ h1 h2
      · rw [putO_nil] at h2
        exact ok.xc C fs _ _ _ _ _ F U h1 h2 h3 h4⟩
/-! ### raise -/
@[simp] def dRaise (C : String) (f : Str) (XC : DX) (da : DTA) : DTS := fun _ env => da env fun ds e => ∃ y v, ds = [y] ∧ scV y = some v ∧ XC C [(f, v)] e
theorem ds_raise {C : String} {f : Str} {t : TA} {da : DTA} (oc : OexC K (clsA K C)) (no : PySem.W.findIn K (.ref (clsA K C)) f = some none) (h : DA K W XC pn t da) :
    DS K W XC pn (fun _ σ H => tMkO (clsA K C) (spXI K f) [] t σ H fun cls d H' => W cls d σ H') (dRaise C f XC da) := ⟨fun B ok tm np env σ H D' E r s h' => h.run B ok tm env σ H _ _ r h' fun ds e vs H1 ⟨y, v, q1, q2, q3⟩ l r1 => by
  subst q1
  obtain ⟨u, rfl⟩ := len1 l
  have r1' : Rel K B e σ ((u, y) :: tm) H1 := r1
  have qu := r1'.sc q2
  subst qu
  refine ⟨(by show 1 ≤ 1000; decide), fun a na => ⟨a, clsA K C, u, rfl, upd_same, oc, no, fun dx n ne => ⟨rfl, dx, [(f, u)], upd_same, by rw [upd_ne ne, upd_same], ?_, ?_⟩⟩⟩
  · rw [upd_ne ne] at n; exact n
  · have n1 : H1 dx = none := by rw [upd_ne ne] at n; exact n
    have eq : upd (del (upd (upd (upd H1 a (exo a (clsA K C) none)) dx (exd dx [(f, u)])) a (exo a (clsA K C) (some dx))) a) dx (.xd [(f, u)]) = upd H1 dx (.xd [(f, u)]) := by
      funext b
      by_cases hb : b = dx
      · subst hb; rw [upd_same, upd_same]
      · rw [upd_ne hb, upd_ne hb]
        by_cases ha : b = a
        · subst ha; rw [del_same, na]
        · rw [del_ne ha, upd_ne ha, upd_ne hb, upd_ne ha]
    rw [eq]
    obtain ⟨F, U, R⟩ := r1'
    have R2 := R.grow (.xd [(f, u)]) n1
    refine ok.xc C [(f, u)] e σ _ _ (some dx) _ U q3 R2 (.inr ⟨dx, rfl, upd_same⟩) fun p hp => ?_
    rw [List.mem_singleton] at hp
    subst hp
    exact flat_sc q2⟩
@[simp] def dRaise0 (C : String) (XC : DX) : DTS := fun _ env => XC C [] env
theorem ds_raise0 {C : String} : DS K W XC pn (fun _ σ H => (fun (_ : L2.St) (H : Hp) (Q : XK) => Q (.ref (clsA K C)) none H) σ H fun cls d H' => W cls d σ H') (dRaise0 C XC) := ⟨fun B ok tm np env σ H D' E r s h' => by
  obtain ⟨F, U, R⟩ := r
  exact ok.xc C [] env σ tm H none F U h' R (.inl ⟨rfl, rfl⟩) fun p hp => nomatch hp⟩
/-! ### a def's own rows: nothing is put by -/
structure DS1 (K : Frag) (W : WX) (XC : DX) (pn : List Nat) (t : TS) (d : DTS) : Prop where
  run : ∀ (B : Base), Bok K W XC pn B → ∀ (env : Env) (σ : L2.St) (H : Hp) (D' : DEnds) (E : Ends), Rel K B env σ [] H → Sim K B [] D' E → d D' env → t E σ H
theorem ds1 {t : TS} {d : DTS} (h : DS K W XC pn t d) : DS1 K W XC pn t d := ⟨fun B ok env σ H D E R s q => h.run B ok [] (fun v j q => nomatch q) env σ H D E R s q⟩
theorem ds1_seq {t u : TS} {da db : DTS} (ha : DS1 K W XC pn t da) (hb : DS1 K W XC pn u db) : DS1 K W XC pn (tSeq t u) (dSeq da db) := ⟨fun B ok env σ H D E R s h =>
  ha.run B ok env σ H { D with nx := db D } { E with nx := u E } R ⟨fun e s' H' R' h' => hb.run B ok e s' H' D E R' s h', s.rt, s.bk, s.ct⟩ h⟩
/-- try: .. except c as n: y = n -/
@[simp] def dTry (es : List String) (i j : Nat) (db : DX → DTS) : DTS := fun D env => db (fun C fs env' => C ∈ es ∧ i < env'.length ∧ D.nx ((env'.set j (some (.exc C fs))).set i none)) D env
theorem ds_try {es : List String} {c : Value} {i j : Nat} {tb : WX → TS} {db : DX → DTS} {Wout : WX} (hE : ∀ C ∈ es, PySem.W.exmOne K (.ref (clsA K C)) c = some true) (hij : i ≠ j) (hi : pn.contains i = false) (hj : pn.contains j = false)
    (hb : ∀ (W : WX) (XC' : DX), DS K W XC' pn (tb W) (db XC')) : DS1 K W XC pn (fun D σ H => tb (wAsT K c i (fun _ _ _ => tAsg (tVar i) (gName j)) Wout D) D σ H) (dTry es i j db) := ⟨fun B ok env σ H D E R s h => by
  refine (hb _ _).run B ⟨ok.own, ok.pin, fun C fs env' σ' tm' H' d F U hx R' xo fl => ?_⟩ [] (fun v j q => nomatch q) env σ H D E R s h
  obtain ⟨hC, hlt, hn⟩ := hx
  refine ⟨true, hE C hC, fun _ a na => ?_, fun z => nomatch z⟩
  have hl : i < σ'.length := by rw [← R'.len]; exact hlt
  refine ⟨.ref a, by rw [List.getElem?_set_self hl], ?_⟩
  obtain ⟨U1, R1⟩ := R'.bare
  have R2 := R1.grow (EXO (.ref (clsA K C)) d a) na
  have sF : Same F (upd F a (EXO (.ref (clsA K C)) d a)) := fun b u e => by rw [upd_ne (ne_of_none e (R1.sub.free na))]; exact e
  have R3 := R2.push (v := .ref a) (d := .exc C fs) (.exc upd_same (xo.mono sF) fl)
  obtain ⟨y1, y2⟩ := bok_pin ok hj
  obtain ⟨z1, z2⟩ := bok_pin ok hi
  have R4 := (R3.store j y1 y2 (fun k z => nomatch z) (fun v k q => nomatch q)).forget i
  refine s.nx _ _ _ ⟨_, _, R4.swap (σ' := (((σ'.set i (some (.ref a))).set j (some (.ref a))).set i none)) (tm' := []) (vs := [i]) (by simp) (fun k hk => ?_) (fun k hk d => ?_) (fun p hp hz => ?_) (fun k w d e => by simp at e)⟩ hn
  · have hk : k ≠ i := by simpa using hk
    rw [List.getElem?_set_ne (Ne.symm hk)]
    by_cases hkj : k = j
    · subst hkj
      by_cases hkl : k < σ'.length
      · rw [List.getElem?_set_self (by rw [List.length_set]; exact hkl), List.getElem?_set_self hkl]
      · rw [List.getElem?_eq_none (by rw [List.length_set, List.length_set]; omega), List.getElem?_eq_none (by rw [List.length_set]; omega)]
    · rw [List.getElem?_set_ne (Ne.symm hkj), List.getElem?_set_ne (Ne.symm hk), List.getElem?_set_ne (Ne.symm hkj)]
  · have hk : k = i := by simpa using hk
    subst hk
    rw [List.getElem?_set_self (by rw [List.length_set]; exact hlt)]
    exact fun z => nomatch z
  · have hz : p.1 = i := by simpa using hz
    exact z1 p hp hz⟩
/-! ### isinstance -/
def isSubC (C n : String) : Bool := C == n || n == "TraitError"
/-- the facts of the classes: es exceptions, cs classes that are asked for, os own classes -/
structure IsiK (K : Frag) (es cs os : List String) : Prop where
  ex : ∀ C ∈ es, ExcC K (clsA K C)
  ec : ∀ C ∈ es, ∀ n ∈ cs, PySem.W.kitOne K (.ref (clsA K C)) (.ref (clsA K n)) = some (isSubC C n)
  ev : ∀ C ∈ es, PySem.W.kitOne K (.ref (clsA K C)) (.type "ValueError") = some true
  nc : ∀ n ∈ cs, PySem.W.kitOne K (.type "NoneType") (.ref (clsA K n)) = some false
  oc : ∀ C ∈ os, ∀ n ∈ cs, PySem.W.kitOne K (.ref (clsA K C)) (.ref (clsA K n)) = some (C == n)
  ot : ∀ C ∈ os, ∀ (H : Hp) (a dx : Addr) (fs : List (Str × V)), H a = some (.ins (clsA K C) dx fs) → TyX K H (.ref a) (.ref (clsA K C))
/-- isinstance(x, c) by data -/
inductive IsD (es cs os : List String) : D → D → Bool → Prop
  | bt {d : D} {a n : String} (e : tyN d = some a) (h : tyNs.contains n = true) : IsD es cs os d (.ty n) (isT a n)
  | ee {C n : String} {fs : List (Str × V)} (hC : C ∈ es) (hn : n ∈ cs) : IsD es cs os (.exc C fs) (.cls n) (isSubC C n)
  | ev {C : String} {fs : List (Str × V)} (hC : C ∈ es) : IsD es cs os (.exc C fs) (.ty "ValueError") true
  | nc {n : String} (hn : n ∈ cs) : IsD es cs os .non (.cls n) false
  | oc {C n : String} {fs : List (Str × D)} (hC : C ∈ os) (hn : n ∈ cs) : IsD es cs os (.obj C fs) (.cls n) (C == n)
@[simp] def cIsx (es cs os : List String) : DFn := fun ds env Q => ∃ x c d b, ds = [x, c] ∧ res env x = some d ∧ isR c = true ∧ IsD es cs os d c b ∧ Q (.bl b)
theorem rep_cls {n : String} {w : V} (h : Rep K F w (.cls n)) : w = .ref (clsA K n) := by cases h; rfl
theorem rep_ty {n : String} {w : V} (h : Rep K F w (.ty n)) : w = .ty n := by cases h; rfl
theorem exc_at {a : V} {C : String} {fs : List (Str × V)} (sub : Same F H) (h : Rep K F a (.exc C fs)) : ∃ b d, a = .ref b ∧ H b = some (EXO (.ref (clsA K C)) d b) ∧ XDk d H ∧ XOk fs d H := by
  cases h with
  | exc h x sc =>
    have x' := x.mono sub
    refine ⟨_, _, rfl, sub _ _ h, ?_, x'⟩
    rcases x' with ⟨_, q⟩ | ⟨dd, q1, q2⟩
    · exact .inl q
    · exact .inr ⟨dd, _, q1, q2⟩
theorem dc_isx {es cs os : List String} (T : IsiK K es cs os) : DCl K (fun vs H Q => rIsi K vs H Q ∨ rIsX K vs H Q) (cIsx es cs os) := ⟨fun B tm env σ H ds vs Q R l r h k => by
  obtain ⟨x, c, d, b, rfl, e1, hc, i, h⟩ := h
  obtain ⟨v, w, rfl⟩ := len2 l
  have r' : Rel K B env σ ((v, x) :: (w, c) :: tm) H := r
  obtain ⟨F, U, S, r2, o, sub⟩ := r'.look1 e1
  have rc : Rep K F w c := kids1 r2 hc
  have fin : Q (.bl b) H := k _ _ _ h (r'.pop.pop.val fun F => .bl _)
  cases i with
  | bt e h3 =>
    rw [rep_ty rc]
    exact .inl ⟨v, _, .type _, .type _, _, rfl, .ty _, o.ty sub e, kit_ty (kitB_all _ (tyN_mem e) _ (by simpa using h3)), fin⟩
  | ee hC hn =>
    rw [rep_cls rc]
    obtain ⟨a, d', rfl, g1, g2, _⟩ := exc_at sub (o.toRep rfl)
    exact .inr ⟨a, _, d', _, _, _, rfl, g1, g2, T.ex _ hC, .own _, T.ec _ hC _ hn, fin⟩
  | ev hC =>
    rw [rep_ty rc]
    obtain ⟨a, d', rfl, g1, g2, _⟩ := exc_at sub (o.toRep rfl)
    exact .inr ⟨a, _, d', _, _, _, rfl, g1, g2, T.ex _ hC, .ty _, T.ev _ hC, fin⟩
  | nc hn =>
    rw [rep_cls rc]
    have z : v = .non := o.sc rfl
    subst z
    exact .inl ⟨.non, _, .type "NoneType", _, _, rfl, .own _, .base .non, T.nc _ hn, fin⟩
  | oc hC hn =>
    rw [rep_cls rc]
    cases o.toRep rfl with
    | obj hF l rp => exact .inl ⟨_, _, _, _, _, rfl, .own _, T.ot _ hC _ _ _ _ (sub _ _ hF), T.oc _ hC _ hn, fin⟩⟩
/-! ### e.f of a kept exception -/
structure XfK (K : Frag) (es : List String) (f : Str) : Prop where
  xf : ∀ C ∈ es, XfC K (clsA K C)
  no : ∀ C ∈ es, PySem.W.findIn K (.ref (clsA K C)) f = some none
@[simp] def dXf (es : List String) (f : Str) (da : DTE) : DTE := fun env Q => da env fun x e => ∃ C fs v, x = .exc C fs ∧ C ∈ es ∧ fs.lookup f = some v ∧ isSc v = true ∧ Q (ofV v) e
theorem de_xf {es : List String} {f : Str} {t : TE} {da : DTE} (T : XfK K es f) (h : DE K W XC pn t da) : DE K W XC pn (tXfT K f t) (dXf es f da) := ⟨fun B ok tm env σ H Q R r h' k => h.run B ok tm env σ H _ _ r h' fun x e w H1 ⟨C, fs, v, q1, q2, q3, q4, q5⟩ r1 => by
  subst q1
  obtain ⟨F, U, r2⟩ := id r1
  obtain ⟨a, d, rfl, g1, g2, g3⟩ := exc_at r2.sub (kids1 r2 rfl)
  rcases g3 with ⟨q, _⟩ | ⟨dd, rfl, q⟩
  · subst q; cases q3
  · exact ⟨a, _, dd, fs, v, rfl, g1, q, T.xf C q2, T.no C q2, q3, k _ _ _ _ q5 (r1.pop.val fun F => rep_sc q4)⟩⟩
/-! ### two readings -/
@[simp] def dAlt (d1 d2 : DTE) : DTE := fun env Q => d1 env Q ∨ d2 env Q
theorem de_alt {t u : TE} {d1 d2 : DTE} (h : DE K W XC pn t d1) (k : DE K W XC pn u d2) : DE K W XC pn (fun σ H Q => t σ H Q ∨ u σ H Q) (dAlt d1 d2) := ⟨fun B ok tm env σ H Q R r q kk => q.elim (fun q => .inl (h.run B ok tm env σ H Q R r q kk)) fun q => .inr (k.run B ok tm env σ H Q R r q kk)⟩
theorem de_alts {t : TE} {d1 d2 : DTE} (h : DE K W XC pn t d1) (k : DE K W XC pn t d2) : DE K W XC pn t (dAlt d1 d2) := ⟨fun B ok tm env σ H Q R r q kk => q.elim (fun q => h.run B ok tm env σ H Q R r q kk) fun q => k.run B ok tm env σ H Q R r q kk⟩
@[simp] def dAltS (d1 d2 : DTS) : DTS := fun D env => d1 D env ∨ d2 D env
theorem ds_alt {t u : TS} {d1 d2 : DTS} (h : DS K W XC pn t d1) (k : DS K W XC pn u d2) : DS K W XC pn (fun D σ H => t D σ H ∨ u D σ H) (dAltS d1 d2) := ⟨fun B ok tm np env σ H D E R s q => q.elim (fun q => .inl (h.run B ok tm np env σ H D E R s q)) fun q => .inr (k.run B ok tm np env σ H D E R s q)⟩
theorem ds_alts {t : TS} {d1 d2 : DTS} (h : DS K W XC pn t d1) (k : DS K W XC pn t d2) : DS K W XC pn t (dAltS d1 d2) := ⟨fun B ok tm np env σ H D E R s q => q.elim (fun q => h.run B ok tm np env σ H D E R s q) fun q => k.run B ok tm np env σ H D E R s q⟩
end
end DL
namespace DL
open PySem PySem.Spec PyProof.Rows L2
structure XSs1 (X : Cx) (W : WX) (XC : DX) (pn : List Nat) (e : List Stmt) (t : TS) (d : DTS) : Prop where
  p : PSs X e t
  d : DS1 X.K W XC pn t d
section
variable {P : Program} {w : World} {K : Frag} {mg : Str → Option Value} {base : Heap}
/-- as okD, the body's own rows by DS1 -/
theorem okD1 {x qual : Str} {st : Stmt} {f : Addr} {fd : FuncData} {N ps : List Str} {k : Nat} {ow : List Nat} {sp : DSp} {d : DTS} (Fn : Fun K x qual st f fd) (S : FnScope N ps (defScope st))
    (body : ∀ (cdv : Value) (A : Around) (outer : List PySem.Env) (s : Shared) (H : Hp) (E : XK), Room k (A.deeper (envOfC qual (defScope st) s.heap.objs.size f cdv)) → ∃ t, XSs1 (cxOf CX0 P w K mg base N qual (defScope st) f cdv A outer s H E).nox W0 X0 ow (defBody st) t d)
    (spec : ∀ ds R RX, sp ds R RX → ds.length = ps.length ∧ d (endsD ow R) (startE N.length ds)) : FnOk P w K mg base CX0 (k + 1) f fd ps (liftSp K ow sp) := by
  have len : ∀ vs H Q E, liftSp K ow sp vs H Q E → vs.length = ps.length := fun vs H Q E ⟨B, ds, R, RX, L, h, _⟩ => by
    obtain ⟨U, r⟩ := L.rel
    have := r.len
    rw [List.length_map, List.length_map] at this
    rw [← this]
    exact (spec ds R RX h).1
  refine Fn.ok S len fun cdv A outer s H vs Q E hr h => ?_
  obtain ⟨t, xs⟩ := body cdv A outer s H E hr
  obtain ⟨B, ds, R, RX, L, h, kq, kx⟩ := h
  obtain ⟨U, r⟩ := L.rel
  have hl : vs.length = ds.length := by
    have := r.len
    rw [List.length_map, List.length_map] at this
    exact this.symm
  refine ⟨t, xs.p, xs.d.run B ⟨fun i hi => L.own ▸ hi, L.pin2, fun _ _ _ _ _ _ _ _ _ hx => hx.elim⟩ _ _ H _ _ ⟨B.F, U, r.begin N.length hl⟩ ?_ (spec ds R RX h).2⟩
  have fin : ∀ v r env σ H', Rel K B env σ [(v, r)] H' → rtD ow R r env → Q v H' := fun v r env σ H' R' ⟨h1, os, h2, h3⟩ => by
    obtain ⟨env', r2, h4⟩ := R'.finish L.pin L.pin2 (noP1 (isP_no h1)) h2
    exact kq r os env' v H' h3 h1 r2 h4
  exact ⟨fun env σ H' R' h' => fin .non .non env σ H' (R'.val fun F => .non) h', fun v r env σ H' R' h' => fin v r env σ H' R' h', fun env σ H' R' h' => h'.elim, fun env σ H' R' h' => h'.elim⟩
end
end DL

/-! ## DLt.lean -/
/-! ### texts and lists: methods -/
namespace L2
open PySem PySem.Spec PyProof.Rows
/-- xs.count(y), flat items -/
def rCntV (K : PySem.W.Frag) : V → List V → Hp → VK → Prop := fun x xs H Q => ∃ (a : Addr) (ys : List V) (y : V), x = V.ref a ∧ xs = [y] ∧ SqL K H a ys ∧ flatV y = true ∧ ys.all flatV = true ∧ Q (.int (ys.countP (fun z => eqV z y) : Nat)) H
theorem countP_eqU {y : V} : ∀ {ys : List V} {its : List Value}, Vals ys its → ys.all flatV = true → its.countP (eqU y) = ys.countP (fun z => eqV z y) := by
  intro ys its r
  induction r with
  | nil => intro _; rfl
  | cons rz t ih =>
    intro f
    rw [List.all_cons, Bool.and_eq_true] at f
    rw [List.countP_cons, List.countP_cons, ih f.2, eqU_of rz f.1]
theorem mt_cntV {X : Cx} : MtR X "list.count" (rCntV X.K) := by
  intro pins s σ H x xs v us Q I rx rxs h
  obtain ⟨a, ys, y, rfl, rfl, hs, fy, fys, q⟩ := h
  cases rx
  obtain ⟨uy, rfl, ry⟩ := Vals.one rxs
  obtain ⟨its, rv, ⟨⟨cls, dd, data, sl⟩, n, ho, hc, hdn, hd⟩, hlen⟩ := I.list hs
  simp only at hc hd
  subst hc hd
  refine call_meets PySem.F.slot_list_count ⟨_, ho, rfl⟩ PySem.F.entry_list_count (PySem.F.args_list_count_2 _ _)
    (SeqAt.list_countAt a its.toArray n dd sl uy (eqU y)) ⟨ho, fun u' hu' => mem_eqAt ry fy rv fys u' (by simpa using hu'), ?_⟩
  have ec : its.toArray.toList.countP (eqU y) = ys.countP (fun z => eqV z y) := countP_eqU rv fys
  refine ⟨.int (ys.countP (fun z => eqV z y) : Nat), H, I.tok _, ⟨s.toks, ?_⟩, q⟩
  show Value.int ((its.toArray.toList.countP (eqU y) : Nat) : Int) s.toks = Value.int ((ys.countP (fun z => eqV z y) : Nat) : Int) s.toks
  rw [ec]
end L2
namespace DL
open PySem PySem.Spec PyProof.Rows L2
open Dat (toD)
section
variable {K : Frag} {W : WX} {XC : DX} {B : Base} {env : Env} {σ : L2.St} {tm : List (V × D)} {H : Hp} {v : V} {x d : D} {pn : List Nat} {F : Hp} {U : Fam}
/-- a text's method of one argument -/
@[simp] def dM1 (o : DOp) (do_ da : DTE) : DTE := fun env Q => do_ env fun x e1 => (∃ a, x = .str a) ∧ da e1 fun y e2 => o x y e2 fun z => Q z e2
theorem de_m1 {to te : TE} {do_ da : DTE} {r : V → List V → Hp → VK → Prop} {o : DOp} (ho : DO K (fun x y H Q => r x [y] H Q) o) (ha : DE K W XC pn to do_) (hb : DE K W XC pn te da) : DE K W XC pn (tM1 r to te) (dM1 o do_ da) :=
  ⟨fun B ok tm env σ H Q R r' h k => ha.run B ok tm env σ H _ _ r' h fun x e1 v H1 ⟨⟨a, ex⟩, q1⟩ r1 => by
    subst ex
    have qv : v = .str a := r1.sc rfl
    subst qv
    exact ⟨⟨a, rfl⟩, hb.run B ok _ e1 σ H1 _ _ r1 q1 fun y e2 u H2 q2 r2 => ho.run B tm e2 σ H2 _ y _ u _ _ r2 q2 fun z w H3 q3 r3 => k _ _ _ _ q3 r3⟩⟩
theorem strs_rep {ys : List Str} : ∀ (i : Nat) v d, (ys.map V.str)[i]? = some v → (ys.map D.str)[i]? = some d → Rep K F v d := fun i v d h1 h2 => by
  rw [List.getElem?_map] at h1 h2
  cases e : ys[i]? with
  | none => rw [e] at h1; cases h1
  | some y => rw [e] at h1 h2; cases h1; cases h2; exact .str y
theorem strs_of {ns : List Str} : ∀ {vs : List V}, vs.length = (ns.map D.str).length → (∀ (i : Nat) v d, vs[i]? = some v → (ns.map D.str)[i]? = some d → Rep K F v d) → vs = ns.map V.str := by
  induction ns with
  | nil => intro vs l _; exact List.length_eq_zero_iff.mp l
  | cons n ns ih =>
    intro vs l r
    match vs, l with
    | v :: vs, l =>
      have h := r 0 v (.str n) rfl rfl
      cases h
      rw [ih (Nat.succ.inj l) fun i v d h1 h2 => r (i + 1) v d h1 h2]; rfl
/-- a.split(b) -/
@[simp] def oSplit : DOp := fun x y _ Q => ∃ a b, x = .str a ∧ y = .str b ∧ (b.length == 0) = false ∧ a.length + 2 ≤ sizeLine ∧ Q (.mt ((Txt.split a b).map .str))
theorem do_split : DO K (fun x y H Q => ∃ a b, x = .str a ∧ [y] = [.str b] ∧ (b.length == 0) = false ∧ a.length + 2 ≤ sizeLine ∧ rNewStrs (Txt.split a b) H Q) oSplit := ⟨fun B tm env σ H x y v u Q R r h k => by
  obtain ⟨a, b, rfl, rfl, h1, h2, h⟩ := h
  have z1 : v = .str a := r.pop.sc rfl
  have z2 : u = .str b := r.sc rfl
  subst z1 z2
  obtain ⟨F, U, r2⟩ := r.pop.pop
  exact ⟨a, b, rfl, rfl, h1, h2, fun p hp => k _ _ _ h (r2.newL hp (by simp) strs_rep)⟩⟩
/-- a.partition(b) -/
@[simp] def oPart : DOp := fun x y _ Q => ∃ a b, x = .str a ∧ y = .str b ∧ (b.length == 0) = false ∧ a.length ≤ sizeLine ∧ Q (.tup [.str (Txt.partition a b).1, .str (Txt.partition a b).2.1, .str (Txt.partition a b).2.2])
theorem three_rep {a b c : Str} : ∀ (i : Nat) v d, [V.str a, .str b, .str c][i]? = some v → [D.str a, .str b, .str c][i]? = some d → Rep K F v d := strs_rep (ys := [a, b, c])
theorem do_part : DO K (fun x y H Q => ∃ a b, x = .str a ∧ [y] = [.str b] ∧ (b.length == 0) = false ∧ a.length ≤ sizeLine ∧ ∀ p, H p = none → Q (.ref p) (upd H p (.tup [.str (Txt.partition a b).1, .str (Txt.partition a b).2.1, .str (Txt.partition a b).2.2]))) oPart := ⟨fun B tm env σ H x y v u Q R r h k => by
  obtain ⟨a, b, rfl, rfl, h1, h2, h⟩ := h
  have z1 : v = .str a := r.pop.sc rfl
  have z2 : u = .str b := r.sc rfl
  subst z1 z2
  obtain ⟨F, U, r2⟩ := r.pop.pop
  exact ⟨a, b, rfl, rfl, h1, h2, fun p hp => k _ _ _ h (Rel.tupN r2 hp rfl three_rep)⟩⟩
/-- a.startswith(b) -/
@[simp] def oStarts : DOp := fun x y _ Q => ∃ a b, x = .str a ∧ y = .str b ∧ Q (.bl (Txt.startswith a b))
theorem do_starts : DO K (fun x y H Q => ∃ a b, x = .str a ∧ [y] = [.str b] ∧ Q (.bl (Txt.startswith a b)) H) oStarts := ⟨fun B tm env σ H x y v u Q R r h k => by
  obtain ⟨a, b, rfl, rfl, h⟩ := h
  have z1 : v = .str a := r.pop.sc rfl
  have z2 : u = .str b := r.sc rfl
  subst z1 z2
  exact ⟨a, b, rfl, rfl, k _ _ _ h (r.pop.pop.val fun F => .bl _)⟩⟩
/-- a.join(ys) -/
@[simp] def oJoin : DOp := fun x y env Q => ∃ a d, ∃ ys : List Str, x = .str a ∧ res env y = some d ∧ lstC d = some (ys.map .str) ∧ (ys.map (·.length)).sum + ys.length * a.length ≤ 16777216 ∧ Q (.str (Txt.join a ys))
theorem do_join : DO K (fun x y H Q => ∃ a p, ∃ ys : List Str, x = .str a ∧ [y] = [.ref p] ∧ (SqL K H p (ys.map V.str) ∨ SqT K H p (ys.map V.str)) ∧ (ys.map (·.length)).sum + ys.length * a.length ≤ 16777216 ∧ Q (.str (Txt.join a ys)) H) oJoin := ⟨fun B tm env σ H x y v u Q R r h k => by
  obtain ⟨a, d, ys, rfl, e1, e2, h2, h⟩ := h
  have z1 : v = .str a := r.pop.sc rfl
  subst z1
  obtain ⟨F, U, S, r2, o, sub⟩ := r.look1 e1
  obtain ⟨p, vs, rfl, hs, l, rp⟩ := o.list sub e2
  have q := strs_of l rp
  subst q
  exact ⟨a, p, ys, rfl, rfl, .inl hs, h2, k _ _ _ h (r.pop.pop.val fun F => .str _)⟩⟩
/-- a sign in a text -/
@[simp] def oInS (neg : Bool) : DOp := fun x y _ Q => ∃ (c : Nat) (z : Str), x = .str ⟨#[c]⟩ ∧ y = .str z ∧ Q (.bl (if neg then !decide (c ∈ z.cps.toList) else decide (c ∈ z.cps.toList)))
theorem do_inS : DO K (fun x y H Q => ∃ (c : Nat) (z : Str), x = .str ⟨#[c]⟩ ∧ y = .str z ∧ Q (.bl (decide (c ∈ z.cps.toList))) H) (oInS false) := ⟨fun B tm env σ H x y v u Q R r h k => by
  obtain ⟨c, z, rfl, rfl, h⟩ := h
  have z1 : v = .str ⟨#[c]⟩ := r.pop.sc rfl
  have z2 : u = .str z := r.sc rfl
  subst z1 z2
  exact ⟨c, z, rfl, rfl, k _ _ _ h (r.pop.pop.val fun F => .bl _)⟩⟩
theorem do_notInS : DO K (fun x y H Q => ∃ (c : Nat) (z : Str), x = .str ⟨#[c]⟩ ∧ y = .str z ∧ Q (.bl (!decide (c ∈ z.cps.toList))) H) (oInS true) := ⟨fun B tm env σ H x y v u Q R r h k => by
  obtain ⟨c, z, rfl, rfl, h⟩ := h
  have z1 : v = .str ⟨#[c]⟩ := r.pop.sc rfl
  have z2 : u = .str z := r.sc rfl
  subst z1 z2
  exact ⟨c, z, rfl, rfl, k _ _ _ h (r.pop.pop.val fun F => .bl _)⟩⟩
/-- xs.index(y), xs.count(y): flat items -/
@[simp] def mIndex : DMt := fun x ds env Q => ∃ d xs y u vs j, res env x = some d ∧ lstC d = some xs ∧ ds = [y] ∧ scV y = some u ∧ xs.mapM scV = some vs ∧ (∃ z, vs[j]? = some z ∧ eqV z u = true) ∧ (∀ (m : Nat) (z : V), m < j → vs[m]? = some z → eqV z u = false) ∧ Q (.int (j : Nat)) env
@[simp] def mCount : DMt := fun x ds env Q => ∃ d xs y u vs, res env x = some d ∧ lstC d = some xs ∧ ds = [y] ∧ scV y = some u ∧ xs.mapM scV = some vs ∧ Q (.int (vs.countP (fun z => eqV z u) : Nat)) env
theorem dm_index : DM K W XC pn (rIndex K) mIndex := ⟨fun B ok tm env σ H x v ds vs Q R l r h k => by
  obtain ⟨d, xs, y, u, ws, j, e1, e2, rfl, e3, e4, ⟨z, h1, h2⟩, h3, h⟩ := h
  obtain ⟨w, rfl⟩ := len1 l
  have r' : Rel K B env σ ((w, y) :: (v, x) :: tm) H := r
  have qw := r'.sc e3
  subst qw
  obtain ⟨F, U, S, r2, o, sub⟩ := r'.look2 e1
  obtain ⟨a, vs, rfl, hs, l, rp⟩ := o.list sub e2
  have q := sc_all l rp e4
  subst q
  exact ⟨a, vs, w, j, z, rfl, rfl, hs, flat_sc e3, flat_all e4, h1, h2, h3, k _ _ _ _ h (r'.pop.pop.val fun F => .int _)⟩⟩
theorem dm_count : DM K W XC pn (rCntV K) mCount := ⟨fun B ok tm env σ H x v ds vs Q R l r h k => by
  obtain ⟨d, xs, y, u, ws, e1, e2, rfl, e3, e4, h⟩ := h
  obtain ⟨w, rfl⟩ := len1 l
  have r' : Rel K B env σ ((w, y) :: (v, x) :: tm) H := r
  have qw := r'.sc e3
  subst qw
  obtain ⟨F, U, S, r2, o, sub⟩ := r'.look2 e1
  obtain ⟨a, vs, rfl, hs, l, rp⟩ := o.list sub e2
  have q := sc_all l rp e4
  subst q
  exact ⟨a, vs, w, rfl, rfl, hs, flat_sc e3, flat_all e4, k _ _ _ _ h (r'.pop.pop.val fun F => .int _)⟩⟩
/-- xs.extend(ys) -/
@[simp] def mExtend : DMt := fun x ds env Q => ∃ i xs y d ys, x = .ptr i ∧ ds = [y] ∧ env[i]? = some (some (.mt xs)) ∧ isP y = false ∧ res env y = some d ∧ trkC d = some ys ∧ xs.length + ys.length ≤ sizeLine ∧ Q .non (env.set i (some (.mt (xs ++ ys))))
theorem dm_extend : DM K W XC pn rExtend mExtend := ⟨fun B ok tm env σ H x v ds vs Q R l r h k => by
  obtain ⟨i, xs, y, d, ys, rfl, rfl, e, hp, e1, e2, hl, h⟩ := h
  obtain ⟨w, rfl⟩ := len1 l
  have r' : Rel K B env σ ((w, y) :: (v, .ptr i) :: tm) H := r
  obtain ⟨F, U, a, vs, r1, rfl, ha, l1, rp, up⟩ := Rel.chg (ts := [(w, y)]) (ys := []) (ws := []) r e
  obtain ⟨S, o⟩ := RelF.look (show RelF K B F U env σ ((w, y) :: (.ref a, .ptr i) :: tm) H from r1) e1
  obtain ⟨b, ws, rfl, hb, l2, p2⟩ := o.trk r1.sub e2
  obtain ⟨U', r2⟩ := up (vs ++ ws) (xs ++ ys) (by simp [l1, l2]) (app_rep l1 l2 rp p2)
  exact ⟨a, b, vs, ws, rfl, rfl, ha, hb, by omega, k _ _ _ _ h ⟨_, _, r2.push .non⟩⟩⟩
/-- str(n), int(text) -/
@[simp] def cStr : DFn := fun ds _ Q => ∃ i, ds = [.int i] ∧ i.natAbs.log2 < 1920 ∧ Q (.str (toString i))
theorem dc_str : DCl K (fun xs H Q => ∃ i, xs = [.int i] ∧ i.natAbs.log2 < 1920 ∧ Q (.str (toString i)) H) cStr := ⟨fun B tm env σ H ds vs Q R l r h k => by
  obtain ⟨i, rfl, h1, h⟩ := h
  obtain ⟨v, rfl⟩ := len1 l
  have r' : Rel K B env σ ((v, .int i) :: tm) H := r
  have q1 := r'.int
  subst q1
  exact ⟨i, rfl, h1, k _ _ _ h (r'.pop.val fun F => .str _)⟩⟩
@[simp] def cIntS : DFn := fun ds _ Q => ∃ a n, ds = [.str a] ∧ PySem.intText? a = some n ∧ a.length ≤ 640 ∧ Q (.int n)
theorem dc_intS : DCl K (fun xs H Q => ∃ a n, xs = [.str a] ∧ PySem.intText? a = some n ∧ a.length ≤ 640 ∧ Q (.int n) H) cIntS := ⟨fun B tm env σ H ds vs Q R l r h k => by
  obtain ⟨a, n, rfl, h1, h2, h⟩ := h
  obtain ⟨v, rfl⟩ := len1 l
  have r' : Rel K B env σ ((v, .str a) :: tm) H := r
  have q1 : v = .str a := r'.sc rfl
  subst q1
  exact ⟨a, n, rfl, h1, h2, k _ _ _ h (r'.pop.val fun F => .int _)⟩⟩
/-- a op1 b op2 c, b flat -/
@[simp] def dChn (o o2 : DOp) (da db dc : DTE) : DTE := fun env Q => da env fun x e1 => db e1 fun y e2 => ∃ u, scV y = some u ∧ o x y e2 fun z => ∃ k, z = .bl k ∧ (if k = true then dc e2 fun w e3 => o2 y w e3 fun z' => Q z' e3 else Q (.bl false) e2)
theorem de_chn {ta tb tc : TE} {da db dc : DTE} {r r' : R2} {o o2 : DOp} (ho : DO K r o) (ho2 : DO K r' o2) (ha : DE K W XC pn ta da) (hb : DE K W XC pn tb db) (hc : DE K W XC pn tc dc) : DE K W XC pn (tChain r r' ta tb tc) (dChn o o2 da db dc) :=
  ⟨fun B ok tm env σ H Q R r0 h k => ha.run B ok tm env σ H _ _ r0 h fun x e1 v H1 q1 r1 => hb.run B ok _ e1 σ H1 _ _ r1 q1 fun y e2 u H2 ⟨uy, hy, q2⟩ r2 => by
    have hu : u = uy := r2.sc hy
    subst hu
    refine ho.run B tm e2 σ H2 x y v u _ _ r2 q2 fun z w H3 ⟨b, hz, q3⟩ r3 => ?_
    subst hz
    have hw : w = .bl b := r3.sc rfl
    subst hw
    refine ⟨b, rfl, ?_⟩
    cases b with
    | false =>
      rw [if_neg Bool.false_ne_true] at q3 ⊢
      exact k _ _ _ _ q3 r3
    | true =>
      rw [if_pos rfl] at q3 ⊢
      have r4 : Rel K B e2 σ ((u, y) :: tm) H3 := r3.pop.val fun F => by
        cases y <;> cases hy
        · exact .non
        · exact .bl _
        · exact .int _
        · exact .str _
      exact hc.run B ok _ e2 σ H3 _ _ r4 q3 fun w' e3 v4 H4 q4 r5 => ho2.run B tm e3 σ H4 y w' u v4 _ _ r5 q4 fun z' w5 H5 q5 r6 => k _ _ _ _ q5 r6⟩
/-- x is b, x is not b: two bools -/
@[simp] def oIsB (neg : Bool) : DOp := fun x y _ Q => ∃ a b, x = .bl a ∧ y = .bl b ∧ Q (.bl (if neg then !decide (a = b) else decide (a = b)))
theorem do_isB : DO K rIsB (oIsB false) := ⟨fun B tm env σ H x y v u Q R r h k => by
  obtain ⟨a, b, rfl, rfl, h⟩ := h
  have z1 : v = .bl a := r.pop.sc rfl
  have z2 : u = .bl b := r.sc rfl
  subst z1 z2
  exact ⟨a, b, rfl, rfl, k _ _ _ h (r.pop.pop.val fun F => .bl _)⟩⟩
theorem do_notB : DO K rNotB (oIsB true) := ⟨fun B tm env σ H x y v u Q R r h k => by
  obtain ⟨a, b, rfl, rfl, h⟩ := h
  have z1 : v = .bl a := r.pop.sc rfl
  have z2 : u = .bl b := r.sc rfl
  subst z1 z2
  exact ⟨a, b, rfl, rfl, k _ _ _ h (r.pop.pop.val fun F => .bl _)⟩⟩
end
end DL

/-! ## DLu.lean -/
namespace DL
open PySem PySem.Spec PyProof.Rows L2
open Dat (toD)
section
variable {K : Frag} {W : WX} {XC : DX} {B : Base} {env : Env} {σ : L2.St} {tm : List (V × D)} {H : Hp} {v : V} {x d : D} {pn : List Nat} {F : Hp} {U : Fam}
/-! ### one's own lists lent to a call whose answer keeps nothing of them -/
/-- made of flat things and tuples alone -/
def cleanT : D → Bool
  | .non => true
  | .bl _ => true
  | .int _ => true
  | .str _ => true
  | .ty _ => true
  | .cls _ => true
  | .tup ds => cleanTs ds
  | _ => false
where cleanTs : List D → Bool
  | [] => true
  | d :: ds => cleanT d && cleanTs ds
theorem cleanTs_get : ∀ {ds : List D} {i : Nat} {d : D}, cleanT.cleanTs ds = true → ds[i]? = some d → cleanT d = true
  | [], _, _, _, e => by simp at e
  | d :: ds, 0, _, h, e => by cases e; exact (Bool.and_eq_true_iff.mp h).1
  | d :: ds, i + 1, _, h, e => cleanTs_get (ds := ds) (i := i) (Bool.and_eq_true_iff.mp h).2 e
def cleanR : D → Bool
  | .mt xs => cleanT.cleanTs xs
  | d => cleanT d
theorem Rep.clean {F1 F3 : Hp} (h : Rep K F1 v d) (c : cleanT d = true) (st : ∀ a o, F1 a = some o → (∀ xs, o ≠ .lst xs) → F3 a = some o) : Rep K F3 v d := by
  induction h with
  | non => exact .non
  | bl b => exact .bl b
  | int b => exact .int b
  | str b => exact .str b
  | ty b => exact .ty b
  | cls b => exact .cls b
  | tup h l _ ih =>
    refine .tup ?_ l fun i v d h1 h2 => ih i v d h1 h2 (cleanTs_get c h2)
    rcases h with (h | ⟨o, h⟩) | h
    · exact .inl (.inl (st _ _ h fun xs z => nomatch z))
    · exact .inl (.inr ⟨o, st _ _ h fun xs z => nomatch z⟩)
    · exact .inr h
  | «at» => exact nomatch c
  | exc => exact nomatch c
  | lst => exact nomatch c
  | scr => exact nomatch c
  | obj => exact nomatch c
/-- what may be lent: what stands, or a list of one's own -/
@[simp] def okL (e : Env) (d : D) : Bool := isR d || (match d with | .ptr j => (match e[j]? with | some (some (.mt _)) => true | _ => false) | _ => false)
theorem okL_cases {e : Env} {d : D} (h : okL e d = true) : (isR d = true) ∨ ∃ j xs, d = .ptr j ∧ e[j]? = some (some (.mt xs)) := by
  unfold okL at h
  rcases Bool.or_eq_true_iff.mp h with h | h
  · exact .inl h
  · cases d with
    | ptr j =>
      dsimp only at h
      split at h
      · rename_i xs q; exact .inr ⟨j, xs, rfl, q⟩
      · cases h
    | _ => cases h
open Classical in
theorem RelF.lend {vs : List V} {ds : List D} {f : DSp} {Q : VK} {E : XK} {R : D → List D → Prop} {RX : String → List (Str × V) → List D → Prop} (r1 : RelF K B F U env σ (vs.zip ds ++ tm) H) (l : vs.length = ds.length) (ok : ds.all (okL env) = true)
    (h : f (ds.map (lookD env)) R RX) (hc : ∀ r os, R r os → cleanR r = true) (hq : ∀ r os v H', R r os → Rel K B env σ ((v, r) :: tm) H' → Q v H')
    (hx : ∀ C fs os d H' F U, RX C fs os → RelF K B F U env σ tm H' → XOk fs d F → (∀ p ∈ fs, flatV p.2 = true) → E (.ref (clsA K C)) d H') : liftSp K [] f vs H Q E := by
  let A : Addr → Prop := fun b => ∃ (j : Nat) (xs : List D), D.ptr j ∈ ds ∧ env[j]? = some (some (.mt xs)) ∧ σ[j]? = some (some (.ref b))
  let F2 : Hp := fun b => if A b then H b else F b
  have aL : ∀ b, A b → (∃ ws, H b = some (.lst ws)) ∧ F b = none := fun b ⟨j, xs, _, h1, h2⟩ => by
    obtain ⟨w, g1, g2⟩ := r1.own j _ h1
    rw [g1] at h2; cases h2
    cases g2 with
    | frz q => cases q
    | mt ha h l r => exact ⟨⟨_, h⟩, r1.nof _ _ ha⟩
  have sF : Same F F2 := fun b o q => by
    show (if A b then H b else F b) = some o
    rw [if_neg fun z => by rw [(aL b z).2] at q; cases q]; exact q
  have sub2 : Same F2 H := fun b o q => by
    have q : (if A b then H b else F b) = some o := q
    split at q
    · exact q
    · exact r1.sub b o q
  have rp : ∀ (i : Nat) v d, vs[i]? = some v → (ds.map (lookD env))[i]? = some d → Rep K F2 v d := fun i v d h1 h2 => by
    rw [List.getElem?_map] at h2
    cases q : ds[i]? with
    | none => rw [q] at h2; cases h2
    | some d0 =>
      rw [q] at h2
      cases h2
      obtain ⟨w, g1, g2⟩ := zip_get l q
      rw [h1] at g1; cases g1
      have hlt : i < (vs.zip ds).length := (List.getElem?_eq_some_iff.mp g2).1
      have ht := r1.tmp i v d0 (by rw [List.getElem?_append_left hlt]; exact g2)
      rcases okL_cases (List.all_eq_true.mp ok d0 (List.mem_of_getElem? q)) with hr | ⟨j, xs, rfl, e1⟩
      · have e2 : lookD env d0 = d0 := by cases d0 <;> first | rfl | exact nomatch hr
        rw [e2]
        rcases ht with q' | ⟨j, q', _⟩
        · exact (q'.toRep hr).mono sF
        · rw [q'] at hr; exact nomatch hr
      · have e2 : lookD env (.ptr j) = .lst xs := by
          show frz (((env[j]?).join).getD .non) = _
          rw [join_some.mpr e1]; rfl
        rw [e2]
        rcases ht with q' | ⟨k, q', q2⟩
        · cases q' with | frz q' => cases q'
        · cases q'
          obtain ⟨w, g3, g4⟩ := r1.own j _ e1
          rw [g3] at q2; cases q2
          cases g4 with
          | frz z => cases z
          | @mt a ws _ _ ha h l r =>
            refine .lst ?_ l fun i v d k1 k2 => (r i v d k1 k2).mono sF
            show (if A a then H a else F a) = _
            rw [if_pos ⟨j, xs, List.mem_of_getElem? q, e1, g3⟩]; exact h
  have key : ∀ F1 U1 env1 σ1 tm1 H1, RelF K ⟨F2, H, fun _ _ => False, [], []⟩ F1 U1 env1 σ1 tm1 H1 → ∃ U2, RelF K B (fun b => if A b then none else F1 b) U2 env σ tm H1 ∧ (∀ x b, U2 x b → H b ≠ none) ∧ (∀ a o, F1 a = some o → (∀ xs, o ≠ .lst xs) → (if A a then none else F1 a) = some o) := fun F1 U1 env1 σ1 tm1 H1 P => by
    have s3 : Same F (fun b => if A b then none else F1 b) := fun b o q => by
      show (if A b then none else F1 b) = some o
      rw [if_neg fun z => by rw [(aL b z).2] at q; cases q]
      exact P.base b o (sF b o q)
    have st : ∀ b o, H b = some o → H1 b = some o := fun b o q => P.keep b o q fun i z => z
    obtain ⟨U', r2⟩ := r1.popL
    have nF : ∀ x b, U' x b → (if A b then none else F1 b) = none := fun x b u => by
      split
      · rfl
      · rename_i nA
        cases q : F1 b with
        | none => rfl
        | some o =>
          rcases P.new b o q with h | h
          · have h : (if A b then H b else F b) = some o := h
            rw [if_neg nA, r2.nof x b u] at h; cases h
          · exact absurd h (r2.liv x b u)
    refine ⟨U', ⟨r2.len, fun i d q => ?_, fun i w d q => ?_, r2.dis, nF, fun x b u => P.ther b (r2.liv x b u), fun b o q => ?_, r2.base.trans s3, fun b o q n => st b o (r2.keep b o q n), fun b o q => ?_, r2.usr, r2.ownA, r2.pin, fun b q => P.ther b (r2.ther b q)⟩, r2.liv, fun a o q n => ?_⟩
    · obtain ⟨w, h1, h2⟩ := r2.own i d q
      exact ⟨w, h1, h2.stay s3 fun a o _ q => st a o q⟩
    · exact (r2.tmp i w d q).imp (fun h => h.stay s3 fun a o _ q => st a o q) id
    · have q : (if A b then none else F1 b) = some o := q
      split at q
      · cases q
      · exact P.sub b o q
    · have q : (if A b then none else F1 b) = some o := q
      split at q
      · cases q
      · rename_i nA
        rcases P.new b o q with h | h
        · have h : (if A b then H b else F b) = some o := h
          rw [if_neg nA] at h
          exact r2.new b o h
        · rcases none_or (H := B.H) (b := b) with z | z
          · exact .inr z
          · exact absurd h (r2.ther b z)
    · rw [if_neg]
      · exact q
      · intro z
        obtain ⟨⟨ws, hw⟩, _⟩ := aL a z
        have h2 : F2 a = some (.lst ws) := by show (if A a then H a else F a) = _; rw [if_pos z]; exact hw
        have := P.base a _ h2
        rw [q] at this
        cases this
        exact n ws rfl
  refine ⟨⟨F2, H, fun _ _ => False, [], []⟩, ds.map (lookD env), R, RX, ⟨rfl, ⟨fun _ _ => False, ?_⟩, rfl, fun k hk => (nomatch hk), fun p hp => (nomatch hp)⟩, h, fun r os env' v H' h1 h2 h3 h4 => ?_, fun C fs os env' d H' F1 U1 h1 P h4 h5 h6 => ?_⟩
  · refine ⟨by simp [l], fun i d e' => ?_, fun i v d e' => by simp at e', fun x y a u => u.elim, fun x a u => u.elim, fun x a u => u.elim, sub2, Same.refl F2, fun b o q _ => q, fun b o q => .inl q, fun x a u => u.elim, fun i a u => u.elim, fun p hp => (nomatch hp), fun b q => q⟩
    obtain ⟨d', q, e2⟩ := map_some_get.mp e'
    cases q
    have hlt : i < vs.length := by rw [l]; have := (List.getElem?_eq_some_iff.mp e2).1; simpa using this
    exact ⟨vs[i], by rw [List.getElem?_map, List.getElem?_eq_getElem hlt]; rfl, .frz (rp i _ d (List.getElem?_eq_getElem hlt) e2)⟩
  · obtain ⟨F1, U1, P⟩ := h3
    obtain ⟨U2, R2, lv, cl⟩ := key F1 U1 env' _ _ H' P
    have hcl := hc r os h1
    have o1 : Own K F1 H' v r (U1 (.inr 0)) := by
      rcases P.tmp 0 v r rfl with q | ⟨j, q, _⟩
      · exact q
      · exact absurd q (isP_no h2 j)
    have fr : ∀ b, U1 (.inr 0) b → H b = none := fun b u => by
      rcases P.usr _ b u with h | ⟨i, _, h⟩
      · exact h
      · exact h.elim
    have o2 : Own K (fun b => if A b then none else F1 b) H' v r (U1 (.inr 0)) := by
      cases o1 with
      | frz q => exact .frz (q.clean (by cases r <;> first | exact hcl | cases q) cl)
      | mt ha h l rr => exact .mt ha h l fun i v d k1 k2 => (rr i v d k1 k2).clean (cleanTs_get hcl k2) cl
      | mm => exact nomatch hcl
      | mo => exact nomatch hcl
      | dc => exact nomatch hcl
    refine hq r os v H' h1 ⟨fun b => if A b then none else F1 b, pushU U2 (U1 (.inr 0)), ?_⟩
    have back : ∀ x a, pushU U2 (U1 (.inr 0)) x a → (x = .inr 0 ∧ U1 (.inr 0) a) ∨ ∃ y, U2 y a ∧ (match x with | .inl i => y = .inl i | .inr i => ∃ j, i = j + 1 ∧ y = .inr j) := by
      intro x a u
      rcases x with i | i
      · exact .inr ⟨.inl i, u, rfl⟩
      · cases i with
        | zero => exact .inl ⟨rfl, u⟩
        | succ i => exact .inr ⟨.inr i, u, i, rfl, rfl⟩
    refine ⟨R2.len, R2.own, fun i w e q => ?_, fun x y a u w => ?_, fun x a u => ?_, fun x a u => ?_, R2.sub, R2.base, R2.keep, R2.new, fun x a u => ?_, R2.ownA, R2.pin, R2.ther⟩
    · cases i with
      | zero => cases q; exact .inl o2
      | succ i => exact R2.tmp i w e q
    · rcases back x a u with ⟨e1, e2⟩ | ⟨x', u', hx⟩
      · rcases back y a w with ⟨e3, e4⟩ | ⟨y', w', hy⟩
        · rw [e1, e3]
        · exact absurd (fr a e2) (lv _ _ w')
      · rcases back y a w with ⟨e3, e4⟩ | ⟨y', w', hy⟩
        · exact absurd (fr a e4) (lv _ _ u')
        · have e := R2.dis x' y' a u' w'
          subst e
          rcases x with i | i <;> rcases y with j | j
          · dsimp only at hx hy; rw [hx] at hy; cases hy; rfl
          · obtain ⟨k, e, q⟩ := hy; dsimp only at hx; rw [hx] at q; cases q
          · obtain ⟨k, e, q⟩ := hx; dsimp only at hy; rw [hy] at q; cases q
          · obtain ⟨k, e, q⟩ := hx
            obtain ⟨k', e', q'⟩ := hy
            rw [q] at q'; cases q'
            rw [e, e']
    · rcases back x a u with ⟨_, e⟩ | ⟨y, u', _⟩
      · show (if A a then none else F1 a) = none
        split
        · rfl
        · exact P.nof _ a e
      · exact R2.nof y a u'
    · rcases back x a u with ⟨_, e⟩ | ⟨y, u', _⟩
      · exact P.liv _ a e
      · exact R2.liv y a u'
    · rcases back x a u with ⟨_, e⟩ | ⟨y, u', hx⟩
      · refine .inl ?_
        rcases none_or (H := B.H) (b := a) with z | z
        · exact z
        · exact absurd (fr a e) (r1.ther a z)
      · rcases R2.usr y a u' with q | ⟨i, q, q2⟩
        · exact .inl q
        · rcases x with j | j
          · dsimp only at hx; rw [hx] at q; exact .inr ⟨i, q, q2⟩
          · obtain ⟨k, _, e⟩ := hx; rw [e] at q; cases q
  · obtain ⟨U2, R2, lv, cl⟩ := key F1 U1 env' _ _ H' P
    refine hx C fs os d H' (fun b => if A b then none else F1 b) U2 h1 R2 ?_ h6
    rcases h5 with h | ⟨dd, e1, e2⟩
    · exact .inl h
    · exact .inr ⟨dd, e1, cl dd _ e2 fun xs z => nomatch z⟩
@[simp] def dCallC (f : DSp) (da : DTA) : DTE := fun env Q => da env fun ds e => ds.all (okL e) = true ∧ f (ds.map (lookD e)) (fun r _ => cleanR r = true ∧ Q r e) fun _ _ _ => False
theorem de_callC {t : TA} {da : DTA} {f : DSp} {E : XK} (h : DA K W XC pn t da) : DE K W XC pn (tCall (liftSp K [] f) [] E t) (dCallC f da) := ⟨fun B ok tm env σ H Q R r h' k => h.run B ok tm env σ H _ _ r h' fun ds e vs H1 ⟨q1, q2⟩ l r1 => by
  show liftSp K [] f (vs ++ []) H1 Q E
  rw [List.append_nil]
  obtain ⟨F, U, r1⟩ := r1
  exact r1.lend l q1 q2 (fun r os z => z.1) (fun r os v H' z r2 => k _ _ _ _ z.2 r2) fun C fs os d H' F U z => z.elim⟩
@[simp] def dCallXC (f : DSp) (XC : DX) (da : DTA) : DTE := fun env Q => da env fun ds e => ds.all (okL e) = true ∧ f (ds.map (lookD e)) (fun r _ => cleanR r = true ∧ Q r e) fun C fs _ => XC C fs e
theorem de_callXC {t : TA} {da : DTA} {f : DSp} (h : DA K W XC pn t da) : DE K W XC pn (tCallS (liftSp K [] f) (WE W) t) (dCallXC f XC da) := ⟨fun B ok tm env σ H Q R r h' k => h.run B ok tm env σ H _ _ r h' fun ds e vs H1 ⟨q1, q2⟩ l r1 => by
  obtain ⟨F, U, r1⟩ := r1
  exact r1.lend l q1 q2 (fun r os z => z.1) (fun r os v H' z r2 => k _ _ _ _ z.2 r2) fun C fs os d H' F U z z2 z3 z4 => ok.xc C fs _ _ _ _ _ F U z z2 z3 z4⟩
end
end DL

/-! ## DLv.lean -/
namespace L2
open PySem PySem.Spec PyProof.Rows
/-! ### an expression that makes an exception, as a value -/
def tMkV (t : St → Hp → XK → Prop) : TE := fun σ H Q => t σ H fun cls d H' => ∀ a, H' a = none → Q (.ref a) (upd H' a (EXO cls d a))
theorem pe_mkV {X : Cx} {e : Expr} {t : St → Hp → XK → Prop} (h : PMk X e t) : PE X e (tMkV t) := by
  refine ⟨fun pins s σ H Q I q => ?_⟩
  refine wpAny_mono (h pins s σ H _ I q) (fun u s1 hu => ?_) fun _ _ x => x
  obtain ⟨a, oe, vs, sI, H', cls, d, rfl, J, k, hne, ha, hz, hd, h1, na, os, ag, r, q⟩ := hu
  obtain ⟨hp, g, dr, tk, o1⟩ := s1
  obtain ⟨hp2, g2, dr2, tk2, o2⟩ := sI
  have os' : o1 = o2 := os
  subst os'
  have J2 : Inv X pins σ (upd H' a (EXO cls d a)) ⟨hp, g, dr, tk, o1⟩ := J.call' (ch := []) rfl (Un.laidN k hne na) (J.hok.laidN k na (exo_stands ha hz hd)) ag (fun b z => absurd z (by simp))
  exact ⟨.ref a, _, J2, rfl, q a na⟩
end L2
namespace DL
open PySem PySem.Spec PyProof.Rows L2
open Dat (toD)
section
variable {K : Frag} {W : WX} {XC : DX} {B : Base} {env : Env} {σ : L2.St} {tm : List (V × D)} {H : Hp} {v : V} {x d : D} {pn : List Nat} {F : Hp} {U : Fam}
@[simp] def dMkX (C : String) (f : Str) (da : DTA) : DTE := fun env Q => da env fun ds e => ∃ y v, ds = [y] ∧ scV y = some v ∧ Q (.exc C [(f, v)]) e
theorem de_mkX {C : String} {f : Str} {t : TA} {da : DTA} (oc : OexC K (clsA K C)) (no : PySem.W.findIn K (.ref (clsA K C)) f = some none) (h : DA K W XC pn t da) :
    DE K W XC pn (tMkV (tMkO (clsA K C) (spXI K f) [] t)) (dMkX C f da) := ⟨fun B ok tm env σ H Q R r h' k => h.run B ok tm env σ H _ _ r h' fun ds e vs H1 ⟨y, v, q1, q2, q3⟩ l r1 => by
  subst q1
  obtain ⟨u, rfl⟩ := len1 l
  have r1' : Rel K B e σ ((u, y) :: tm) H1 := r1
  have qu := r1'.sc q2
  subst qu
  refine ⟨(by show 1 ≤ 1000; decide), fun a na => ⟨a, clsA K C, u, rfl, upd_same, oc, no, fun dx n ne => ⟨rfl, dx, [(f, u)], upd_same, by rw [upd_ne ne, upd_same], ?_, ?_⟩⟩⟩
  · rw [upd_ne ne] at n; exact n
  · have n1 : H1 dx = none := by rw [upd_ne ne] at n; exact n
    have eq : upd (del (upd (upd (upd H1 a (exo a (clsA K C) none)) dx (exd dx [(f, u)])) a (exo a (clsA K C) (some dx))) a) dx (.xd [(f, u)]) = upd H1 dx (.xd [(f, u)]) := by
      funext b
      by_cases hb : b = dx
      · subst hb; rw [upd_same, upd_same]
      · rw [upd_ne hb, upd_ne hb]
        by_cases ha : b = a
        · subst ha; rw [del_same, na]
        · rw [del_ne ha, upd_ne ha, upd_ne hb, upd_ne ha]
    rw [eq]
    intro b nb
    obtain ⟨F, U, R⟩ := r1'.pop
    have R1 := R.grow (.xd [(f, u)]) n1
    have R2 := R1.grow (EXO (.ref (clsA K C)) (some dx) b) nb
    refine k _ _ _ _ q3 ⟨_, _, R2.push (v := .ref b) (d := .exc C [(f, u)]) (.exc upd_same (.inr ⟨dx, rfl, ?_⟩) fun p hp => ?_)⟩
    · rw [upd_ne (fun z => by rw [z] at nb; rw [← z, upd_same] at nb; cases nb), upd_same]
    · rw [List.mem_singleton] at hp
      subst hp
      exact flat_sc q2⟩
end
end DL

/-! ## DLw.lean -/
namespace L2
open PySem PySem.Spec PyProof.Rows
/-! ### zip of three lists -/
theorem list_ne_iter {h : Heap} {a i l : Addr} {items : Array Value} {k : Nat} (hl : h.IsList a items) (hi : h.IsListIter i l k) : a ≠ i := by
  rintro rfl
  obtain ⟨o, e, c, _⟩ := hl
  obtain ⟨o', e', c', _⟩ := hi
  rw [e] at e'
  cases e'
  rw [c] at c'
  exact absurd c' (by decide)
theorem nA {x y : Nat} (h : x < y ∨ y < x) : (x : Addr) ≠ y := fun e => by
  have e : (x : Nat) = y := e
  omega
theorem nM {x y z : Nat} (h : (x < y ∨ y < x) ∧ (x < z ∨ z < x)) : (x : Addr) ∉ ([y, z] : List Addr) := fun e => by
  rcases List.mem_cons.mp e with e | e
  · exact nA h.1 e
  · exact nA h.2 (List.mem_singleton.mp e)
theorem apart3 {n a b c : Nat} (la : a < n) (lb : b < n) (lc : c < n) : ZipSep3 (n + 5 : Nat) (n + 3 : Nat) (n + 4 : Nat) n (n + 1 : Nat) (n + 2 : Nat) [n, a] [(n + 1 : Nat), b] [(n + 2 : Nat), c] :=
  { TIz := nA (by omega), TOz := nA (by omega), TITO := nA (by omega), TIi1 := nA (by omega), TIi2 := nA (by omega), TIi3 := nA (by omega), mem1 := List.mem_cons_self .., mem2 := List.mem_cons_self .., mem3 := List.mem_cons_self ..,
    zf1 := nM (by omega), zf2 := nM (by omega), zf3 := nM (by omega), Tf1 := nM (by omega), Tf2 := nM (by omega), Tf3 := nM (by omega), sep1_2 := nM (by omega), sep1_3 := nM (by omega), sep2_1 := nM (by omega), sep2_3 := nM (by omega), sep3_1 := nM (by omega), sep3_2 := nM (by omega) }
theorem apart3_le {n : Nat} {c : Addr} (h : c ∈ ([(n + 5 : Nat), (n + 3 : Nat), (n + 4 : Nat), n, (n + 1 : Nat), (n + 2 : Nat)] : List Addr)) : n ≤ c := by
  simp only [List.mem_cons, List.not_mem_nil, or_false] at h
  rcases h with rfl | rfl | rfl | rfl | rfl | rfl
  · exact Nat.le_add_right _ _
  · exact Nat.le_add_right _ _
  · exact Nat.le_add_right _ _
  · exact Nat.le_refl _
  · exact Nat.le_add_right _ _
  · exact Nat.le_add_right _ _
def Itz3 (K : PySem.W.Frag) (a b c : Addr) : It :=
  ⟨fun i H => ∃ (xs ys zs : List V) (x y z : V), SqL K H a xs ∧ SqL K H b ys ∧ SqL K H c zs ∧ xs[i]? = some x ∧ ys[i]? = some y ∧ zs[i]? = some z,
    fun i H v H' => ∃ T x y z, v = .ref T ∧ H T = none ∧ H' = upd H T (.tup [x, y, z]) ∧ (∀ xs, SqL K H a xs → xs[i]? = some x) ∧ (∀ ys, SqL K H b ys → ys[i]? = some y) ∧ ∀ zs, SqL K H c zs → zs[i]? = some z,
    fun i H => ∃ xs ys zs : List V, SqL K H a xs ∧ SqL K H b ys ∧ SqL K H c zs ∧ i ≤ xs.length ∧ i ≤ ys.length ∧ i ≤ zs.length ∧ (xs.length = i ∨ ys.length = i ∨ zs.length = i)⟩
theorem turn_zip3 {P : Program} {w : World} {K : PySem.W.Frag} {elts : List Expr} {kk : Nat} {tpos : Pos} {a b c z TI TO i1 i2 i3 : Addr} (D : ZipSep3 z TI TO i1 i2 i3 [i1, a] [i2, b] [i3, c]) :
    Turn P w K (.Tuple elts kk tpos) (Itz3 K a b c) [z, TI, TO, i1, i2, i3] z (fun i h => IsZip h z TI TO .none ∧ IsTupOf3 h TI (.ref i1) (.ref i2) (.ref i3) ∧ (∃ x y u, IsTupOf3 h TO x y u) ∧ h.IsListIter i1 a i ∧ h.IsListIter i2 b i ∧ h.IsListIter i3 c i) where
  mem := by simp
  obj := fun i h st q hq => by
    obtain ⟨hz, hTI, ⟨x, y, u, hTO⟩, ⟨o1, e1, _, d1⟩, ⟨o2, e2, _, d2⟩, ⟨o3, e3, _, d3⟩⟩ := st
    have e' : q = z ∨ q = TI ∨ q = TO ∨ q = i1 ∨ q = i2 ∨ q = i3 := by simpa using hq
    rcases e' with p | p | p | p | p | p
    · rw [p]; exact ⟨_, hz, fun v q => nomatch q⟩
    · rw [p]; exact ⟨_, hTI, fun v q => nomatch q⟩
    · rw [p]; exact ⟨_, hTO, fun v q => nomatch q⟩
    · rw [p]; exact ⟨o1, e1, fun v q => by rw [d1] at q; cases q⟩
    · rw [p]; exact ⟨o2, e2, fun v q => by rw [d2] at q; cases q⟩
    · rw [p]; exact ⟨o3, e3, fun v q => by rw [d3] at q; cases q⟩
  keep := fun i h h' st k => by
    obtain ⟨hz, hTI, ⟨x, y, u, hTO⟩, h1, h2, h3⟩ := st
    exact ⟨k z (by simp) _ hz, k TI (by simp) _ hTI, ⟨x, y, u, k TO (by simp) _ hTO⟩, h1.at fun o q => k i1 (by simp) o q, h2.at fun o q => k i2 (by simp) o q, h3.at fun o q => k i3 (by simp) o q⟩
  item := by
    intro X hP hw hK hc i pins s σ H E I hf st hg
    subst hP hw hK
    obtain ⟨hz, hTI, ⟨x0, y0, u0, hTO⟩, h1, h2, h3⟩ := st
    obtain ⟨xs, ys, zs, x, y, t, hqx, hqy, hqz, hx, hy, ht⟩ := hg
    obtain ⟨its, rv, p, _⟩ := I.list hqx
    obtain ⟨its2, rv2, p2, _⟩ := I.list hqy
    obtain ⟨its3, rv3, p3, _⟩ := I.list hqz
    obtain ⟨u, hu, ru⟩ := rv.get hx
    obtain ⟨u2, hu2, ru2⟩ := rv2.get hy
    obtain ⟨u3, hu3, ru3⟩ := rv3.get ht
    have hzl : z < s.heap.objs.size := Heap.lt_size hz
    have hn : ∀ A : Around, A.handled = none → A.in1.handled = none := fun _ h => h
    have hh := hn _ (I.ok.hd hc)
    have lt1 : i < its.toArray.size := by
      have := (List.getElem?_eq_some_iff.mp hu).1
      simpa using this
    have lt2 : i < its2.toArray.size := by
      have := (List.getElem?_eq_some_iff.mp hu2).1
      simpa using this
    have lt3 : i < its3.toArray.size := by
      have := (List.getElem?_eq_some_iff.mp hu3).1
      simpa using this
    refine wpAny_pyNext_zipD3_item D (Draws.list hh i1 a (list_ne_iter p.isList h1) its.toArray) (Draws.list hh i2 b (list_ne_iter p2.isList h2) its2.toArray) (Draws.list hh i3 c (list_ne_iter p3.isList h3) its3.toArray) hz hTI hTO ⟨h1, p.isList⟩ ⟨h2, p2.isList⟩ ⟨h3, p3.isList⟩ lt1 lt2 lt3 fun x1 x2 x3 h' tk y1 y2 y3 z' TO' h1' h2' h3' hT hsz hk => ?_
    have y1 : u = x1 := by
      rw [List.getElem?_toArray, hu] at y1
      exact Option.some.inj y1
    have y2 : u2 = x2 := by
      rw [List.getElem?_toArray, hu2] at y2
      exact Option.some.inj y2
    have y3 : u3 = x3 := by
      rw [List.getElem?_toArray, hu3] at y3
      exact Option.some.inj y3
    subst y1 y2 y3
    obtain ⟨h1', _⟩ := h1'
    obtain ⟨h2', _⟩ := h2'
    obtain ⟨h3', _⟩ := h3'
    refine ⟨_, rfl, wpAny_letOwnedTupleGo_zip (s := { s with heap := h', toks := tk }) z' fun h'' z'' sb => ?_⟩
    have hT2 : h''.get? s.heap.objs.size = some { cls := .type "tuple", data := .seq #[u, u2, u3] } := (sb.2 _ (Nat.ne_of_gt hzl)).trans hT
    have new : ObjOk X.prog X.w (upd H s.heap.objs.size (.tup [x, y, t])) h'' s.heap.objs.size (.tup [x, y, t]) :=
      ⟨by show 3 ≤ sizeLine; decide, [u, u2, u3], .cons ru (.cons ru2 (.cons ru3 .nil)), ⟨_, hT2, rfl, _, rfl⟩⟩
    have I1 : Inv X pins σ (upd H s.heap.objs.size (.tup [x, y, t])) { s with heap := h'', toks := tk } :=
      I.turnedNew (t' := tk) (ch := [z, TI, TO, i1, i2, i3]) (fun c o hb q => (sb.2 c (fun q' => hb (by simp [q']))).trans (hk c o (fun q' => hb (by simp [q'])) (fun q' => hb (by simp [q'])) (fun q' => hb (by simp [q'])) (fun q' => hb (by simp [q'])) (fun q' => hb (by simp [q'])) q)) hf (Nat.le_refl _) new
    refine ⟨.ref s.heap.objs.size, _, I1, rfl, ⟨_, x, y, t, rfl, I.hok.fresh (Nat.le_refl _), rfl, fun l hl => by rw [I.list_inj hl hqx]; exact hx, fun l hl => by rw [I.list_inj hl hqy]; exact hy, fun l hl => by rw [I.list_inj hl hqz]; exact ht⟩, ⟨z'', ?_, ⟨u, u2, u3, ?_⟩, ?_, ?_, ?_⟩, fun c hcm => ?_⟩
    · exact (sb.2 _ D.TIz).trans (hk _ _ D.TIz D.TITO D.TIi1 D.TIi2 D.TIi3 hTI)
    · exact (sb.2 _ D.TOz).trans TO'
    · exact h1'.at fun o q => (sb.2 _ D.zi1.symm).trans q
    · exact h2'.at fun o q => (sb.2 _ D.zi2.symm).trans q
    · exact h3'.at fun o q => (sb.2 _ D.zi3.symm).trans q
    · have hlt : c < s.heap.objs.size := by
        have e' : c = z ∨ c = TI ∨ c = TO ∨ c = i1 ∨ c = i2 ∨ c = i3 := by simpa using hcm
        rcases e' with q | q | q | q | q | q
        · rw [q]; exact hzl
        · rw [q]; exact Heap.lt_size hTI
        · rw [q]; exact Heap.lt_size hTO
        · rw [q]; obtain ⟨_, e1, _⟩ := h1; exact Heap.lt_size e1
        · rw [q]; obtain ⟨_, e2, _⟩ := h2; exact Heap.lt_size e2
        · rw [q]; obtain ⟨_, e2, _⟩ := h3; exact Heap.lt_size e2
      rw [upd_ne (Nat.ne_of_lt hlt)]
      exact (hf c hcm).1
  done := by
    intro X hP hw hK hc i pins s σ H E I hf st hg
    subst hP hw hK
    obtain ⟨hz, hTI, ⟨x0, y0, u0, hTO⟩, h1, h2, h3⟩ := st
    obtain ⟨xs, ys, zs, hqx, hqy, hqz, l1, l2, l3, hend⟩ := hg
    obtain ⟨its, rv, p, _⟩ := I.list hqx
    obtain ⟨its2, rv2, p2, _⟩ := I.list hqy
    obtain ⟨its3, rv3, p3, _⟩ := I.list hqz
    have hn : ∀ A : Around, A.handled = none → A.in1.handled = none := fun _ h => h
    have hh := hn _ (I.ok.hd hc)
    have m1 := rv.length
    have m2 := rv2.length
    have m3 := rv3.length
    exact wpAny_pyNext_zipD3_end D (Draws.list hh i1 a (list_ne_iter p.isList h1) its.toArray) (Draws.list hh i2 b (list_ne_iter p2.isList h2) its2.toArray) (Draws.list hh i3 c (list_ne_iter p3.isList h3) its3.toArray) hz hTI hTO ⟨h1, p.isList⟩ ⟨h2, p2.isList⟩ ⟨h3, p3.isList⟩
      (by simp; omega) (by simp; omega) (by simp; omega) (by simp; omega) fun h' tk hk => ⟨rfl, I.turnedL (t' := tk) (ch := [z, TI, TO, i1, i2, i3]) (fun c o hb q =>
      hk c o (fun q' => hb (by simp [q'])) (fun q' => hb (by simp [q'])) (fun q' => hb (by simp [q'])) (fun q' => hb (by simp [q'])) (fun q' => hb (by simp [q'])) q) hf⟩
  self := fun A i s Q E st h => wpAny_pyIter_zip st.1 h
def iZip3 (K : PySem.W.Frag) (ta : TA) : TI := fun σ H R => ta σ H fun vs H1 => ∃ a b c xs ys zs, vs = [.ref a, .ref b, .ref c] ∧ SqL K H1 a xs ∧ SqL K H1 b ys ∧ SqL K H1 c zs ∧ R (Itz3 K a b c) H1
theorem pi_zip3 {X : Cx} {e e2 e3 : Expr} {ta : TA} {p pos tpos : Pos} {elts : List Expr} {kk : Nat} (hg : Gl X "zip") (hm : X.mg "zip" = none) (ha : PA X [e, e2, e3] ta)
    (hs : starEach [e, e2, e3] X.env = (false, eval e X.env) :: starEach [e2, e3] X.env := by rfl) (hpl : (backTo pos (starEach [e2, e3] X.env)).any (·.1) = false := by rfl) :
    PI X (.Tuple elts kk tpos) (.Call (.Name "zip" p) [e, e2, e3] [] pos) (iZip3 X.K ta) := by
  refine ⟨fun pins s σ H R I h => ?_⟩
  refine Call_ (ld_blt I hg hm PyProof.Rows.boot_zip (PyProof.Rows.callWith_type1 (thn (ha.run pos pins s σ H _ I h) fun us s1 ⟨vs, H1, I1, r1, q1⟩ => ?_) hs hpl))
  obtain ⟨a, b, c, xs, ys, zs, ex, hqx, hqy, hqz, q⟩ := q1
  subst ex
  cases r1 with
  | cons r rr =>
    cases rr with
    | cons r' rr =>
      cases rr with
      | cons r'' rr =>
        cases rr
        cases r
        cases r'
        cases r''
        obtain ⟨its, rv, p1, _⟩ := I1.list hqx
        obtain ⟨its2, rv2, p2, _⟩ := I1.list hqy
        obtain ⟨its3, rv3, p3, _⟩ := I1.list hqz
        have la : a < s1.heap.objs.size := p1.lt
        have lb : b < s1.heap.objs.size := p2.lt
        have lc : c < s1.heap.objs.size := p3.lt
        refine zip_begins3 (begins_list a its.toArray) (begins_list b its2.toArray) (begins_list c its3.toArray) p1.isList p2.isList p3.isList fun h' hz hTI hTO h1 h2 h3 hsz hk => wpAny_pyIter_zip hz ?_
        have I2 : Inv X pins σ H1 { s1 with heap := h' } := I1.kept (t' := s1.toks) hk
        refine ⟨s1.heap.objs.size + 5, [s1.heap.objs.size + 5, s1.heap.objs.size + 3, s1.heap.objs.size + 4, s1.heap.objs.size, s1.heap.objs.size + 1, s1.heap.objs.size + 2], _, _, H1, rfl, I2, turn_zip3 (a := a) (b := b) (c := c) (apart3 la lb lc), ⟨hz, hTI, ⟨_, _, _, hTO⟩, ⟨_, h1, rfl, rfl⟩, ⟨_, h2, rfl, rfl⟩, ⟨_, h3, rfl, rfl⟩⟩, fun c hcm => ?_, q⟩
        have hle : s1.heap.objs.size ≤ c := apart3_le hcm
        exact I1.fpOk hle (I1.hok.fresh hle)
end L2
namespace DL
open PySem PySem.Spec PyProof.Rows L2
open Dat (toD)
section
variable {K : Frag} {W : WX} {XC : DX} {B : Base} {env : Env} {σ : L2.St} {tm : List (V × D)} {H : Hp} {v : V} {x d : D} {pn : List Nat} {F : Hp} {U : Fam}
def zipD3 (xs ys zs : List D) : List D := (xs.zip (ys.zip zs)).map fun p => .tup [p.1, p.2.1, p.2.2]
theorem zipD3_eq {α β γ : Type} (f : α → D) (g : β → D) (h : γ → D) (xs : List α) (ys : List β) (zs : List γ) : zipD3 (xs.map f) (ys.map g) (zs.map h) = (xs.zip (ys.zip zs)).map fun p => .tup [f p.1, g p.2.1, h p.2.2] := by
  unfold zipD3
  rw [List.zip_map, List.zip_map, List.map_map]
  rfl
theorem three_repZ {v w u : V} {x y z : D} (h1 : Rep K F v x) (h2 : Rep K F w y) (h3 : Rep K F u z) : ∀ (i : Nat) t d, [v, w, u][i]? = some t → [x, y, z][i]? = some d → Rep K F t d := fun i t d e1 e2 => by
  match i, e1, e2 with
  | 0, e1, e2 => cases e1; cases e2; exact h1
  | 1, e1, e2 => cases e1; cases e2; exact h2
  | 2, e1, e2 => cases e1; cases e2; exact h3
theorem Feeds.zip3 {a b c : Addr} {x y z : D} {xs ys zs : List D} (e : lstC x = some xs) (e' : lstC y = some ys) (e'' : lstC z = some zs) : Feeds K B ((.ref a, x) :: (.ref b, y) :: (.ref c, z) :: tm) (fun _ => True) (Itz3 K a b c) (zipD3 xs ys zs) := by
  have key : ∀ ts env σ H, Rel K B env σ (ts ++ (V.ref a, x) :: (V.ref b, y) :: (V.ref c, z) :: tm) H → ∃ F U vs ws us, RelF K B F U env σ (ts ++ (V.ref a, x) :: (V.ref b, y) :: (V.ref c, z) :: tm) H ∧ (SqL K H a vs ∧ vs.length = xs.length ∧ ∀ (i : Nat) v d, vs[i]? = some v → xs[i]? = some d → Rep K F v d) ∧
      (SqL K H b ws ∧ ws.length = ys.length ∧ ∀ (i : Nat) v d, ws[i]? = some v → ys[i]? = some d → Rep K F v d) ∧ SqL K H c us ∧ us.length = zs.length ∧ ∀ (i : Nat) v d, us[i]? = some v → zs[i]? = some d → Rep K F v d := fun ts env σ H R => by
    obtain ⟨F, U, R⟩ := R
    have g1 : ∃ vs, SqL K H a vs ∧ vs.length = xs.length ∧ ∀ (i : Nat) v d, vs[i]? = some v → xs[i]? = some d → Rep K F v d := by
      rcases R.tmp ts.length (.ref a) x (by rw [List.getElem?_append_right (Nat.le_refl _), Nat.sub_self]; rfl) with q | ⟨j, q, _⟩
      · obtain ⟨b, vs, e', hs, l, r⟩ := q.list R.sub e
        cases e'
        exact ⟨vs, hs, l, r⟩
      · rw [q] at e; cases e
    have g2 : ∃ vs, SqL K H b vs ∧ vs.length = ys.length ∧ ∀ (i : Nat) v d, vs[i]? = some v → ys[i]? = some d → Rep K F v d := by
      rcases R.tmp (ts.length + 1) (.ref b) y (by rw [List.getElem?_append_right (Nat.le_add_right _ _), Nat.add_sub_cancel_left]; rfl) with q | ⟨j, q, _⟩
      · obtain ⟨b, vs, e', hs, l, r⟩ := q.list R.sub e'
        cases e'
        exact ⟨vs, hs, l, r⟩
      · rw [q] at e'; cases e'
    have g3 : ∃ vs, SqL K H c vs ∧ vs.length = zs.length ∧ ∀ (i : Nat) v d, vs[i]? = some v → zs[i]? = some d → Rep K F v d := by
      rcases R.tmp (ts.length + 2) (.ref c) z (by rw [List.getElem?_append_right (Nat.le_add_right _ _), Nat.add_sub_cancel_left]; rfl) with q | ⟨j, q, _⟩
      · obtain ⟨b, vs, e', hs, l, r⟩ := q.list R.sub e''
        cases e'
        exact ⟨vs, hs, l, r⟩
      · rw [q] at e''; cases e''
    obtain ⟨vs, g1⟩ := g1
    obtain ⟨ws, g2⟩ := g2
    obtain ⟨us, g3⟩ := g3
    exact ⟨F, U, vs, ws, us, R, g1, g2, g3⟩
  have zl : (zipD3 xs ys zs).length = min xs.length (min ys.length zs.length) := by unfold zipD3; rw [List.length_map, List.length_zip, List.length_zip]
  refine ⟨fun ts env σ H R _ => ?_, fun i ts env σ H hi R _ => ?_, fun i z ts env σ H v H' hy R _ q => ?_⟩
  · obtain ⟨F, U, vs, ws, us, R, ⟨h1, h2, h3⟩, ⟨h4, h5, h6⟩, h7, h8, h9⟩ := key ts env σ H R
    exact ⟨vs, ws, us, h1, h4, h7, by rw [zl]; omega, by rw [zl]; omega, by rw [zl]; omega, by rw [zl]; omega⟩
  · obtain ⟨F, U, vs, ws, us, R, ⟨h1, h2, h3⟩, ⟨h4, h5, h6⟩, h7, h8, h9⟩ := key ts env σ H R
    rw [zl] at hi
    exact ⟨vs, ws, us, vs[i], ws[i], us[i], h1, h4, h7, List.getElem?_eq_getElem (by omega), List.getElem?_eq_getElem (by omega), List.getElem?_eq_getElem (by omega)⟩
  · obtain ⟨F, U, vs, ws, us, R, ⟨h1, h2, h3⟩, ⟨h4, h5, h6⟩, h7, h8, h9⟩ := key ts env σ H R
    obtain ⟨T, p, p', p'', rfl, hT, rfl, e2, e3, e5⟩ := q
    have q1 := e2 vs h1
    have q2 := e3 ws h4
    have q3 := e5 us h7
    unfold zipD3 at hy
    rw [List.getElem?_map] at hy
    cases e4 : (xs.zip (ys.zip zs))[i]? with
    | none => rw [e4] at hy; cases hy
    | some y' =>
      rw [e4] at hy
      cases hy
      obtain ⟨a1, a2⟩ := List.getElem?_zip_eq_some.mp e4
      obtain ⟨a2, a3⟩ := List.getElem?_zip_eq_some.mp a2
      exact ⟨Rel.tupN R hT rfl (three_repZ (h3 i p _ q1 a1) (h6 i p' _ q2 a2) (h9 i p'' _ q3 a3)), rfl⟩
@[simp] def iZ3 (da : DTA) : DTI := fun env R => da env fun ws e => ∃ x y z xs ys zs, ws = [x, y, z] ∧ lstC x = some xs ∧ lstC y = some ys ∧ lstC z = some zs ∧ R (zipD3 xs ys zs) (fun _ => True) e
theorem di_zip3 {t : TA} {da : DTA} (h : DA K W XC pn t da) : DI K W XC pn [] (iZip3 K t) (iZ3 da) := ⟨fun B ok tm env σ H Q R r h' k => h.run B ok tm env σ H _ _ r h' fun ds e vs H1 ⟨x, y, z, xs, ys, zs, q1, q2, q2', q2'', q3⟩ l r1 => by
  subst q1
  obtain ⟨w, u, t, rfl⟩ := len3 l
  have r1' : Rel K B e σ ((w, x) :: (u, y) :: (t, z) :: tm) H1 := r1
  have n : ∀ j, x ≠ .ptr j := fun j z => by rw [z] at q2; cases q2
  have n' : ∀ j, y ≠ .ptr j := fun j z => by rw [z] at q2'; cases q2'
  have n'' : ∀ j, z ≠ .ptr j := fun j z => by rw [z] at q2''; cases q2''
  have e1 : res e x = some x := by cases x <;> first | rfl | cases q2
  have e1' : res e y = some y := by cases y <;> first | rfl | cases q2'
  have e1'' : res e z = some z := by cases z <;> first | rfl | cases q2''
  obtain ⟨F, U, S, r2, o, sub⟩ := r1'.look1 e1
  obtain ⟨a, vs, rfl, hs, l, rp⟩ := o.list sub q2
  obtain ⟨F', U', S', r2', o', sub'⟩ := r1'.pop.look1 e1'
  obtain ⟨b, ws, rfl, hs', l', rp'⟩ := o'.list sub' q2'
  obtain ⟨F'', U'', S'', r2'', o'', sub''⟩ := r1'.pop.pop.look1 e1''
  obtain ⟨c, us, rfl, hs'', l'', rp''⟩ := o''.list sub'' q2''
  refine ⟨a, b, c, vs, ws, us, rfl, hs, hs', hs'', k _ _ e _ H1 B [(.ref a, x), (.ref b, y), (.ref c, z)] q3 ok (fun _ _ _ _ h => h) (fun p h => .inl h) (fun v j q => ?_) r1' (Feeds.zip3 q2 q2' q2'')⟩
  rcases List.mem_cons.mp q with q | q
  · cases q; exact n j rfl
  · rcases List.mem_cons.mp q with q | q
    · cases q; exact n' j rfl
    · exact noP1 n'' v j q⟩
theorem forD_zip3 {kp : Env → Prop} {g : DTG} {tb : DTS} {D' : DEnds} {α β γ : Type} {f : α → D} {f' : β → D} {f'' : γ → D} {xs : List α} {ys : List β} {zs : List γ} {env : Env} (I : Nat → Env → Prop) (h0 : I 0 env)
    (step : ∀ (i : Nat) (x : α) (y : β) (z : γ) (e : Env) (N : Env → Prop), xs[i]? = some x → ys[i]? = some y → zs[i]? = some z → I i e → (∀ e', I (i + 1) e' → N e') → kp e ∧ g (.tup [f x, f' y, f'' z]) e fun e2 => tb { D' with nx := N, ct := N, bk := D'.nx } e2)
    (fin : ∀ e, I (min xs.length (min ys.length zs.length)) e → kp e ∧ D'.nx e) : forD kp g tb (zipD3 (xs.map f) (ys.map f') (zs.map f'')) D' env := by
  rw [zipD3_eq]
  refine forD_of I h0 (fun i p e N hp he hN => ?_) fun e he => fin e (by simpa using he)
  obtain ⟨h1, h2⟩ := List.getElem?_zip_eq_some.mp hp
  obtain ⟨h2, h3⟩ := List.getElem?_zip_eq_some.mp h2
  exact step i p.1 p.2.1 p.2.2 e N h1 h2 h3 he hN
end
end DL

/-! ## M52a.lean -/
namespace DL
open PySem PySem.Spec PyProof.Rows L2
open Dat (toD)
/-! ## from a -/
/-! ### bits -/
theorem bAnd (a b : Nat) : Builtin.bitAnd (a : Int) (b : Int) = ((a &&& b : Nat) : Int) := PyProof.Rows.bitAnd_pp (Int.natCast_nonneg a) (Int.natCast_nonneg b)
theorem bOr (a b : Nat) : Builtin.bitOr (a : Int) (b : Int) = ((a ||| b : Nat) : Int) := Bits.bitOr_pp (Int.natCast_nonneg a) (Int.natCast_nonneg b)
theorem bit_of (m k : Nat) : (Builtin.bitAnd ((m : Int) / 2 ^ k) 1 = 1) ↔ m.testBit k = true := by
  have e : ((m : Int) / 2 ^ k) = ((m / 2 ^ k : Nat) : Int) := by simp
  rw [e, show (1 : Int) = ((1 : Nat) : Int) from rfl, bAnd, Nat.testBit_eq_decide_div_mod_eq, decide_eq_true_eq, Nat.and_one_is_mod]
  omega
/-! ### the greatest steps -/
def lastSet (m : Nat) : List Int → Nat → Int → Int
  | [], _, most => most
  | s :: r, k, most => lastSet m r (k + 1) (if m.testBit k then s else most)
def gs (m : Nat) : List (List Int) → Nat → List Int
  | [], _ => []
  | row :: r, k => lastSet m row k 0 :: gs m r (k + row.length)
theorem gs_len (m : Nat) : ∀ (steps : List (List Int)) (k : Nat), (gs m steps k).length = steps.length
  | [], _ => rfl
  | row :: r, k => by unfold gs; rw [List.length_cons, List.length_cons, gs_len m r]
def wid : List (List Int) → Nat
  | [] => 0
  | r :: rs => r.length + wid rs
theorem wid_snoc (r : List Int) : ∀ l : List (List Int), wid (l ++ [r]) = wid l + r.length
  | [] => by simp [wid]
  | x :: l => by simp [wid, wid_snoc r l]; omega
theorem lastSet_snoc (m : Nat) (s : Int) : ∀ (l : List Int) (k : Nat) (most : Int), lastSet m (l ++ [s]) k most = if m.testBit (k + l.length) then s else lastSet m l k most
  | [], k, most => by simp [lastSet]
  | x :: l, k, most => by
    simp only [List.cons_append, lastSet, List.length_cons]
    rw [lastSet_snoc m s l, show k + 1 + l.length = k + (l.length + 1) by omega]
theorem gs_snoc (m : Nat) (row : List Int) : ∀ (l : List (List Int)) (k : Nat), gs m (l ++ [row]) k = gs m l k ++ [lastSet m row (k + wid l) 0]
  | [], k => by simp [gs, wid]
  | x :: l, k => by
    simp only [List.cons_append, gs, wid]
    rw [gs_snoc m row l, show k + x.length + wid l = k + (x.length + wid l) by omega]
theorem take_snoc {α : Type} {l : List α} {i : Nat} {x : α} (h : l[i]? = some x) : l.take (i + 1) = l.take i ++ [x] := by
  rw [List.take_add_one, h]; rfl
def d_greatest_steps : DTS := (dSeq (dAsg (dLst dNil) (gN [] 2))
  (dSeq (dAsg (dC (.int 0)) (gN [] 3))
  (dSeq (dFor (iL (dVar 0)) (gN [] 4)
  (dSeq (dAsg (dC (.int 0)) (gN [] 5))
  (dSeq (dFor (iL (dVar 4)) (gN [] 6)
  (dSeq (dIfS (dTest (dOp (oEqS false) (dOp (oI0 fun i j => .int (Builtin.bitAnd i j)) (dOp (oI (fun _ j => 0 ≤ j) fun i j => .int (i / 2 ^ j.toNat)) (dVar 1) (dVar 3)) (dC (.int 1))) (dC (.int 1)))) (dAsg (dVar 6) (gN [] 5)) dNext)
  (dAug [] 3 (oI0 fun i j => .int (i + j)) (dC (.int 1)))))
  (dDrop (dBM "list" mAppend (dVar 2) (dCons (dVar 5) dNil))))))
  (dRet (dMove [] 2)))))
def sp_greatest_steps : DSp := fun ds R _ => ∃ (steps : List (List Int)) (m : Nat), ds = [toD steps, .int m] ∧ steps.length ≤ 100 ∧ R (.mt ((gs m steps 0).map D.int)) []
theorem spec_greatest_steps : ∀ ds R RX, sp_greatest_steps ds R RX → ds.length = 2 ∧ d_greatest_steps (endsD [] R) (startE 7 ds) := by
  rintro _ R RX ⟨steps, m, rfl, hl, h⟩
  refine ⟨rfl, ?_⟩
  simp [d_greatest_steps, toD]
  refine forD_of (fun i e => ∃ a b c, e = [some (D.lst (List.map (fun xs => D.lst (List.map D.int xs)) steps)), some (D.int ↑m), some (D.mt ((gs m (steps.take i) 0).map D.int)), some (D.int (wid (steps.take i) : Nat)), a, b, c]) ⟨_, _, _, rfl⟩ ?_ ?_
  · rintro i row e N hx ⟨a, b, c, rfl⟩ hN
    have hi : i < steps.length := (List.getElem?_eq_some_iff.mp hx).1
    simp
    refine forD_of (fun j e => ∃ c, e = [some (D.lst (List.map (fun xs => D.lst (List.map D.int xs)) steps)), some (D.int ↑m), some (D.mt ((gs m (steps.take i) 0).map D.int)), some (D.int ((wid (steps.take i) + j : Nat) : Int)), some (.lst (row.map .int)), some (.int (lastSet m (row.take j) (wid (steps.take i)) 0)), c]) ⟨c, by simp [lastSet]⟩ ?_ ?_
    · rintro j s e N hj ⟨c, rfl⟩ hN
      have hlt : j < row.length := (List.getElem?_eq_some_iff.mp hj).1
      have e1 := lastSet_snoc m s (row.take j) (wid (steps.take i)) 0
      rw [← take_snoc hj, List.length_take, Nat.min_eq_left (Nat.le_of_lt hlt)] at e1
      have hb := bit_of m (wid (steps.take i) + j)
      simp [dec_int, scal]
      refine ⟨by omega, ?_⟩
      split
      · rename_i hc
        rw [hb.mp hc] at e1
        exact hN _ (by simp [e1]; omega)
      · rename_i hc
        rw [if_neg (fun z => hc (hb.mpr z))] at e1
        exact hN _ (by simp [e1]; omega)
    · rintro e ⟨c, rfl⟩
      have e1 := gs_snoc m row (steps.take i) 0
      rw [← take_snoc hx, Nat.zero_add] at e1
      have e2 := wid_snoc row (steps.take i)
      rw [← take_snoc hx] at e2
      have e3 := gs_len m (steps.take i) 0
      rw [List.length_take] at e3
      simp
      refine ⟨?_, hN _ (by simp [e1, e2])⟩
      rw [e3]
      exact small1000 (by omega)
  · rintro e ⟨a, b, c, rfl⟩
    simpa using h
/-! ## from b -/
/-! ### worths that break, worths that keep -/
def wsOf : List (Int × Int) → List Int → List Int
  | c :: cs, a :: as => mxI c.1 a :: wsOf cs as
  | _, _ => []
def fits : List (Int × Int) → List Int → Bool
  | c :: cs, a :: as => !decide (c.2 < mxI c.1 a) && fits cs as
  | _, _ => true
def lack : List Int → List Int → Bool
  | w :: ws, b :: bs => decide (w < b) || lack ws bs
  | _, _ => false
def bw (cells : List (Int × Int)) (ahead behind : List Int) : Option (List Int) := if fits cells ahead && lack (wsOf cells ahead) behind then some (wsOf cells ahead) else none
def oD {α : Type} (f : α → D) : Option α → D
  | none => .non
  | some x => f x
theorem wsOf_len : ∀ (cs : List (Int × Int)) (as : List Int), cs.length = as.length → (wsOf cs as).length = cs.length
  | [], _, _ => by simp [wsOf]
  | c :: cs, [], h => by simp at h
  | c :: cs, a :: as, h => by simp only [wsOf, List.length_cons]; rw [wsOf_len cs as (by simpa using h)]
theorem wsOf_snoc (c : Int × Int) (a : Int) : ∀ (cs : List (Int × Int)) (as : List Int), cs.length = as.length → wsOf (cs ++ [c]) (as ++ [a]) = wsOf cs as ++ [mxI c.1 a]
  | [], [], _ => rfl
  | [], _ :: _, h => by simp at h
  | _ :: _, [], h => by simp at h
  | x :: cs, y :: as, h => by simp only [List.cons_append, wsOf]; rw [wsOf_snoc c a cs as (by simpa using h)]
theorem fits_snoc (c : Int × Int) (a : Int) : ∀ (cs : List (Int × Int)) (as : List Int), cs.length = as.length → fits (cs ++ [c]) (as ++ [a]) = (fits cs as && !decide (c.2 < mxI c.1 a))
  | [], [], _ => by simp [fits]
  | [], _ :: _, h => by simp at h
  | _ :: _, [], h => by simp at h
  | x :: cs, y :: as, h => by simp only [List.cons_append, fits]; rw [fits_snoc c a cs as (by simpa using h), Bool.and_assoc]
theorem lack_snoc (w b : Int) : ∀ (ws bs : List Int), ws.length = bs.length → lack (ws ++ [w]) (bs ++ [b]) = (lack ws bs || decide (w < b))
  | [], [], _ => by simp [lack]
  | [], _ :: _, h => by simp at h
  | _ :: _, [], h => by simp at h
  | x :: cs, y :: as, h => by simp only [List.cons_append, lack]; rw [lack_snoc w b cs as (by simpa using h), Bool.or_assoc]
theorem fits_take : ∀ (cs : List (Int × Int)) (as : List Int) (i : Nat), fits (cs.take i) (as.take i) = false → fits cs as = false
  | _, _, 0, h => by simp [fits] at h
  | [], _, i + 1, h => by simp [fits] at h
  | _ :: _, [], i + 1, h => by simp [fits] at h
  | c :: cs, a :: as, i + 1, h => by
    simp only [List.take_succ_cons, fits] at h ⊢
    cases q : !decide (c.2 < mxI c.1 a) with
    | false => rfl
    | true => rw [q] at h; simp only [Bool.true_and] at h ⊢; exact fits_take cs as i h
def d_broken_worths : DTS := (dSeq (dAsg (dLst dNil) (gN [] 3))
  (dSeq (dAsg (dC (.bl false)) (gN [] 4))
  (dSeq (dFor (iE (dCons (dVar 0) dNil)) (gT 2 (gsCons (gN [] 5) (gsCons (gN [] 6) gsNil)))
  (dSeq (dAsg (dCB (cI2 mxI) (dCons (dOp oIxT (dVar 6) (dC (.int 0))) (dCons (dOp oIxL (dVar 1) (dVar 5)) dNil))) (gN [] 7))
  (dSeq (dIfS (dTest (dOp (oI0 fun i j => .bl (decide (j < i))) (dVar 7) (dOp oIxT (dVar 6) (dC (.int 1))))) (dRet (dC .non)) dNext)
  (dSeq (dIfS (dTest (dOp (oI0 fun i j => .bl (decide (i < j))) (dVar 7) (dOp oIxL (dVar 2) (dVar 5)))) (dAsg (dC (.bl true)) (gN [] 4)) dNext)
  (dDrop (dBM "list" mAppend (dVar 3) (dCons (dVar 7) dNil)))))))
  (dSeq (dIfS (dTest (dVar 4)) (dRet (dMove [] 3)) dNext)
  (dRet (dC .non))))))
def sp_broken_worths : DSp := fun ds R _ => ∃ (cells : List (Int × Int)) (ahead behind : List Int), ds = [toD cells, toD ahead, toD behind] ∧ cells.length ≤ 100 ∧ ahead.length = cells.length ∧ behind.length = cells.length ∧
  R (oD (fun ws => .mt (ws.map D.int)) (bw cells ahead behind)) []
theorem spec_broken_worths : ∀ ds R RX, sp_broken_worths ds R RX → ds.length = 3 ∧ d_broken_worths (endsD [] R) (startE 8 ds) := by
  rintro _ R RX ⟨cells, ahead, behind, rfl, hl, ha, hb, h⟩
  refine ⟨rfl, ?_⟩
  simp [d_broken_worths, toD]
  refine forD_enum (f := fun p : Int × Int => D.tup [D.int p.1, D.int p.2]) (fun i e => ∃ a b c, fits (cells.take i) (ahead.take i) = true ∧ e = [some (D.lst (List.map (fun p => D.tup [D.int p.fst, D.int p.snd]) cells)), some (D.lst (List.map D.int ahead)), some (D.lst (List.map D.int behind)),
    some (D.mt ((wsOf (cells.take i) (ahead.take i)).map D.int)), some (D.bl (lack (wsOf (cells.take i) (ahead.take i)) (behind.take i))), a, b, c]) ⟨_, _, _, rfl, rfl⟩ ?_ ?_
  · rintro i ⟨lo, hi⟩ e N hx ⟨a, b, c, hf, rfl⟩ hN
    have hlt : i < cells.length := (List.getElem?_eq_some_iff.mp hx).1
    have hA : ahead[i]? = some ahead[i] := List.getElem?_eq_getElem (by omega)
    have hB : behind[i]? = some behind[i] := List.getElem?_eq_getElem (by omega)
    have tl : (cells.take i).length = (ahead.take i).length := by simp; omega
    have tl2 : (wsOf (cells.take i) (ahead.take i)).length = (behind.take i).length := by rw [wsOf_len _ _ tl]; simp; omega
    have e1 := wsOf_snoc (lo, hi) ahead[i] (cells.take i) (ahead.take i) tl
    have e2 := fits_snoc (lo, hi) ahead[i] (cells.take i) (ahead.take i) tl
    rw [← take_snoc hx, ← take_snoc hA] at e1 e2
    have e3 := lack_snoc (mxI lo ahead[i]) behind[i] (wsOf (cells.take i) (ahead.take i)) (behind.take i) tl2
    rw [← take_snoc hB] at e3
    have hsz : (wsOf (cells.take i) (ahead.take i)).length < sizeLine := small1000 (by rw [wsOf_len _ _ tl]; simp; omega)
    simp [atI_at hA, atI_at hB, hsz]
    split
    · rename_i hc
      have : fits cells ahead = false := fits_take _ _ (i + 1) (by rw [e2]; simp [hc])
      simpa [bw, this, oD] using h
    · rename_i hc
      have e2' : fits (cells.take (i + 1)) (ahead.take (i + 1)) = true := by rw [e2, hf]; simp [hc]
      rw [e2'] at hN
      rw [e1, e3] at hN
      split
      · rename_i hc2
        exact hN _ (by simp [hc2])
      · rename_i hc2
        exact hN _ (by simp [hc2])
  · rintro e ⟨a, b, c, hf, rfl⟩
    have tA : ahead.take cells.length = ahead := by rw [← ha]; exact List.take_length
    have tB : behind.take cells.length = behind := by rw [← hb]; exact List.take_length
    rw [List.take_length, tA] at hf
    rw [List.take_length, tA, tB]
    cases q : lack (wsOf cells ahead) behind with
    | true => simpa [bw, hf, q, oD] using h
    | false => simpa [bw, hf, q, oD] using h
def leL : List Int → List Int → Bool
  | g :: gs, w :: ws => decide (g ≤ w) && leL gs ws
  | _, _ => true
theorem leL_take {g w : Int} {t : Nat} : ∀ {gs ws : List Int}, gs[t]? = some g → ws[t]? = some w → w < g → leL gs ws = false := by
  induction t with
  | zero =>
    intro gs ws h1 h2 h3
    cases gs <;> cases ws <;> cases h1 <;> cases h2
    simp [leL]; intro; omega
  | succ t ih =>
    intro gs ws h1 h2 h3
    cases gs <;> cases ws <;> first | cases h1; done | cases h2; done | skip
    simp [leL]; intro _
    exact ih h1 h2 h3
theorem leL_snoc (g w : Int) : ∀ (gs ws : List Int), gs.length = ws.length → leL (gs ++ [g]) (ws ++ [w]) = (leL gs ws && decide (g ≤ w))
  | [], [], _ => by simp [leL]
  | [], _ :: _, h => by simp at h
  | _ :: _, [], h => by simp at h
  | x :: gs, y :: ws, h => by simp only [List.cons_append, leL]; rw [leL_snoc g w gs ws (by simpa using h), Bool.and_assoc]
def lows (row : List (Int × Int)) : List Int := row.map (·.1)
def highs (row : List (Int × Int)) : List Int := row.map (·.2)
def kw (cells : List (Int × Int)) (ahead behind : List Int) : Option (List Int) := if leL ahead (lows cells) = false then some (lows cells) else if leL behind (highs cells) = true then some (highs cells) else none
def d_kept_worths : DTS := (dSeq (dAsg (dFix [] (dLc (iL (dVar 0)) (gN [] 8) dYes (dOp oIxT (dVar 8) (dC (.int 0))) [8])) (gN [] 3))
  (dSeq (dFor (iE (dCons (dVar 3) dNil)) (gT 2 (gsCons (gN [] 4) (gsCons (gN [] 5) gsNil)))
  (dIfS (dTest (dOp (oI0 fun i j => .bl (decide (i < j))) (dVar 5) (dOp oIxL (dVar 1) (dVar 4)))) (dRet (dVar 3)) dNext))
  (dSeq (dAsg (dFix [] (dLc (iL (dVar 0)) (gN [] 8) dYes (dOp oIxT (dVar 8) (dC (.int 1))) [8])) (gN [] 6))
  (dSeq (dFor (iE (dCons (dVar 6) dNil)) (gT 2 (gsCons (gN [] 4) (gsCons (gN [] 7) gsNil)))
  (dIfS (dTest (dOp (oI0 fun i j => .bl (decide (i < j))) (dVar 7) (dOp oIxL (dVar 2) (dVar 4)))) (dRet (dC .non)) dNext))
  (dRet (dVar 6))))))
def sp_kept_worths : DSp := fun ds R _ => ∃ (cells : List (Int × Int)) (ahead behind : List Int), ds = [toD cells, toD ahead, toD behind] ∧ cells.length ≤ 100 ∧ ahead.length = cells.length ∧ behind.length = cells.length ∧
  R (oD (fun ws => .lst (ws.map D.int)) (kw cells ahead behind)) []
theorem spec_kept_worths : ∀ ds R RX, sp_kept_worths ds R RX → ds.length = 3 ∧ d_kept_worths (endsD [] R) (startE 9 ds) := by
  rintro _ R RX ⟨cells, ahead, behind, rfl, hl, ha, hb, h⟩
  refine ⟨rfl, ?_⟩
  simp [d_kept_worths, toD]
  refine lcD_map (h := fun p : Int × Int => .int p.1) (by simp) (Nat.le_of_lt (small1000 (by omega))) (fun x hx => rfl) (fun y hy N hN => ?_) ?_
  · simp
    exact hN _ (by simp)
  · simp
    have e1 : (cells.map fun p => D.int p.1) = (lows cells).map D.int := by simp [lows]
    have e2 : (cells.map fun p => D.int p.2) = (highs cells).map D.int := by simp [highs]
    rw [e1]
    refine forD_enum (f := D.int) (fun i e => leL (ahead.take i) ((lows cells).take i) = true ∧ ∃ a b, e = [some (D.lst (List.map (fun p => D.tup [D.int p.fst, D.int p.snd]) cells)), some (D.lst (List.map D.int ahead)), some (D.lst (List.map D.int behind)),
      some (D.lst ((lows cells).map D.int)), a, b, none, none, none]) ⟨rfl, by simp⟩ ?_ ?_
    · rintro i low e N hx ⟨hq, a, b, rfl⟩ hN
      have hi : i < cells.length := by have := (List.getElem?_eq_some_iff.mp hx).1; simpa [lows] using this
      have hA : ahead[i]? = some ahead[i] := List.getElem?_eq_getElem (by omega)
      simp [atI_at hA]
      split
      · rename_i hlt
        have : kw cells ahead behind = some (lows cells) := by unfold kw; rw [if_pos (leL_take hA hx hlt)]
        rw [this] at h
        simpa [oD] using h
      · exact hN _ ⟨by rw [take_snoc hA, take_snoc hx, leL_snoc _ _ _ _ (by simp [lows]; omega), hq]; simp; omega, by simp⟩
    · rintro e ⟨hq, a, b, rfl⟩
      rw [List.take_length, List.take_of_length_le (by simp [lows]; omega)] at hq
      simp
      refine lcD_map (h := fun p : Int × Int => .int p.2) (by simp) (Nat.le_of_lt (small1000 (by omega))) (fun x hx => rfl) (fun y hy N hN => ?_) ?_
      · simp
        exact hN _ (by simp)
      · simp
        rw [e2]
        refine forD_enum (f := D.int) (fun i e => leL (behind.take i) ((highs cells).take i) = true ∧ ∃ a b c d, e = [some (D.lst (List.map (fun p => D.tup [D.int p.fst, D.int p.snd]) cells)), some (D.lst (List.map D.int ahead)), some (D.lst (List.map D.int behind)),
          c, a, b, some (D.lst ((highs cells).map D.int)), d, none]) ⟨rfl, by simp⟩ ?_ ?_
        · rintro i low e N hx ⟨hq2, a, b, c, d, rfl⟩ hN
          have hi : i < cells.length := by have := (List.getElem?_eq_some_iff.mp hx).1; simpa [highs] using this
          have hA : behind[i]? = some behind[i] := List.getElem?_eq_getElem (by omega)
          simp [atI_at hA]
          split
          · rename_i hlt
            have : kw cells ahead behind = none := by unfold kw; rw [if_neg (by simp [hq]), if_neg (by rw [leL_take hA hx hlt]; simp)]
            rw [this] at h
            simpa [oD] using h
          · exact hN _ ⟨by rw [take_snoc hA, take_snoc hx, leL_snoc _ _ _ _ (by simp [highs]; omega), hq2]; simp; omega, by simp⟩
        · rintro e ⟨hq2, a, b, c, d, rfl⟩
          rw [List.take_length, List.take_of_length_le (by simp [highs]; omega)] at hq2
          have : kw cells ahead behind = some (highs cells) := by unfold kw; rw [if_neg (by simp [hq]), if_pos hq2]
          rw [this] at h
          simpa [oD] using h
/-! ## from c -/
/-! ### the law's small helpers -/
/-- rising marks -/
structure Rise (row : List Int) : Prop where
  pw : row.Pairwise (· < ·)
  lo : ∀ m ∈ row, 1 ≤ m
  hi : ∀ m ∈ row, m ≤ 999999999999999999
theorem cmul_r {i j : Int} (h1 : -1000000000000000000 ≤ j) (h2 : j ≤ 1000000000000000000) : CMul i j := .inr ⟨by omega, by omega⟩
theorem cmul_l {i j : Int} (h1 : -1000000000000000000 ≤ i) (h2 : i ≤ 1000000000000000000) : CMul i j := .inl ⟨by omega, by omega⟩
theorem cdiv_c {i j : Int} (h1 : 0 < j) (h2 : j < 1073741824) : CDiv i j := ⟨h1, h2⟩
theorem marks_step {l : List Int} {last gap : Int} (hl : l.getLast? = some last) (pw : l.Pairwise (· < ·)) (up : ∀ x ∈ l, x ≤ last) (g : 0 < gap) : (l ++ [last + gap]).Pairwise (· < ·) ∧ ∀ x ∈ l ++ [last + gap], x ≤ last + gap := by
  refine ⟨List.pairwise_append.mpr ⟨pw, List.pairwise_singleton _ _, fun x hx y hy => ?_⟩, fun x hx => ?_⟩
  · have := up x hx
    rw [List.mem_singleton] at hy
    omega
  · rcases List.mem_append.mp hx with hx | hx
    · have := up x hx; omega
    · rw [List.mem_singleton] at hx; omega
/-! ## from d -/
theorem cpow_c {i j : Int} (h0 : 0 ≤ j) (h1 : j ≤ 1000000) (h2 : i.natAbs < 2 ^ 64) : CPow i j := ⟨h0, h1, h2⟩
theorem mod_at {α : Type} (l : List α) (h : 0 < l.length) (n : Int) : ∃ a, l[(n % (l.length : Int)).toNat]? = some a ∧ a ∈ l ∧ atI l (n % (l.length : Int)) = some a := by
  have h1 : 0 ≤ n % (l.length : Int) := Int.emod_nonneg _ (by omega)
  have h2 : n % (l.length : Int) < l.length := Int.emod_lt_of_pos _ (by omega)
  have h3 : (n % (l.length : Int)).toNat < l.length := by omega
  refine ⟨l[(n % (l.length : Int)).toNat], List.getElem?_eq_getElem h3, List.getElem_mem h3, ?_⟩
  have := atI_nat (List.getElem?_eq_getElem h3)
  rwa [show (((n % (l.length : Int)).toNat : Nat) : Int) = n % (l.length : Int) by omega] at this
@[simp] theorem toNat_add_nat (a b : Nat) : ((a : Int) + (b : Int)).toNat = a + b := by omega
/-- columns of worths -/
def rowm (w : Int) : List Int → Nat → Nat → Nat
  | [], _, m => m
  | s :: r, k, m => rowm w r (k + 1) (if s ≤ w then m ||| 2 ^ k else m)
def colm : List (List Int) → List Int → Nat → Nat → Nat
  | row :: r, w :: ws, k, m => colm r ws (k + row.length) (rowm w row k m)
  | _, _, _, m => m
theorem rowm_snoc (w s : Int) : ∀ (l : List Int) (k m : Nat), rowm w (l ++ [s]) k m = if s ≤ w then rowm w l k m ||| 2 ^ (k + l.length) else rowm w l k m
  | [], k, m => by simp [rowm]
  | x :: l, k, m => by
    simp only [List.cons_append, rowm, List.length_cons]
    rw [rowm_snoc w s l, show k + 1 + l.length = k + (l.length + 1) by omega]
theorem colm_snoc (row : List Int) (w : Int) : ∀ (l : List (List Int)) (ws : List Int) (k m : Nat), l.length = ws.length → colm (l ++ [row]) (ws ++ [w]) k m = rowm w row (k + wid l) (colm l ws k m)
  | [], [], k, m, _ => by simp [colm, wid]
  | [], _ :: _, _, _, h => by simp at h
  | _ :: _, [], _, _, h => by simp at h
  | x :: l, y :: ws, k, m, h => by
    simp only [List.cons_append, colm, wid]
    rw [colm_snoc row w l ws _ _ (by simpa using h), show k + x.length + wid l = k + (x.length + wid l) by omega]
theorem wid_take (l : List (List Int)) (i : Nat) : wid (l.take i) ≤ wid l := by
  induction l generalizing i with
  | nil => simp [wid]
  | cons x l ih =>
    cases i with
    | zero => simp [wid]
    | succ i => simp only [List.take_succ_cons, wid]; have := ih i; omega
theorem wid_at {l : List (List Int)} {i : Nat} {row : List Int} (h : l[i]? = some row) : wid (l.take i) + row.length ≤ wid l := by
  have e := wid_snoc row (l.take i)
  rw [← take_snoc h] at e
  have := wid_take l (i + 1)
  omega
def brk (m a b : Nat) : Bool := decide (a &&& m = a) && !decide (b &&& m = b)
/-! ## from e -/
theorem side_pow {number : Int} {w : Nat} (hw : 0 < w) : ∃ k : Nat, k < w ∧ number % (w : Int) = k := by
  have h1 : 0 ≤ number % (w : Int) := Int.emod_nonneg _ (by omega)
  have h2 : number % (w : Int) < w := Int.emod_lt_of_pos _ (by omega)
  exact ⟨(number % (w : Int)).toNat, by omega, by omega⟩
theorem wid_sum : ∀ l : List (List Int), ((l.map fun r => (r.length : Int))).sum = wid l
  | [] => rfl
  | r :: l => by rw [List.map_cons, List.sum_cons, wid_sum l]; simp [wid]
/-! ## from f -/
/-- a filling's worths lie in the cells -/
structure InCells (cells : List (List (Int × Int))) (f : List (List Int)) : Prop where
  len : f.length = cells.length
  row : ∀ (i : Nat) ws row, f[i]? = some ws → cells[i]? = some row → ws.length = row.length ∧ ∀ (t : Nat) w c, ws[t]? = some w → row[t]? = some c → c.1 ≤ w ∧ w ≤ c.2
/-- cells fit the steps -/
structure CellsOk (steps : List (List Int)) (cells : List (List (Int × Int))) : Prop where
  many : cells.length ≤ 100
  row : ∀ row ∈ cells, row.length = steps.length ∧ ∀ c ∈ row, 0 ≤ c.1 ∧ c.1 ≤ c.2
structure StepsOk (steps : List (List Int)) : Prop where
  many : steps.length ≤ 100
  wide : wid steps ≤ 1000
  rise : ∀ row ∈ steps, row ≠ [] ∧ Rise row
theorem le1000 {n : Nat} (h : n ≤ 1000) : n ≤ sizeLine := Nat.le_of_lt (small1000 h)
/-! ## from g -/
theorem cdivw {i j : Int} (h1 : 0 < j) (h2 : j < 1000000) : CDivW i j := wide_div (b := 20) h1 (by omega) (by omega) (by omega)
theorem cut_len {α : Type} (xs : List α) (lo hi : Option Int) : (cutG xs lo hi).length ≤ xs.length := by
  unfold cutG
  rw [List.length_take, List.length_drop]
  omega
theorem sIx_none' (n d : Nat) : HT.sIx n d none = d := HT.sIx_none n d
theorem cut_upto {α : Type} (xs : List α) (k : Nat) : cutG xs none (some (k : Int)) = xs.take k := by
  unfold cutG
  rw [HT.sIx_none, HT.sIx_nat]
  simp
theorem cut_from {α : Type} (xs : List α) (k : Nat) : cutG xs (some (k : Int)) none = xs.drop k := by
  unfold cutG
  rw [HT.sIx_none, HT.sIx_nat]
  rw [List.take_of_length_le (by rw [List.length_drop]; omega)]
  by_cases h : k ≤ xs.length
  · rw [Nat.min_eq_left h]
  · rw [Nat.min_eq_right (by omega), List.drop_eq_nil_of_le (Nat.le_refl _), List.drop_eq_nil_of_le (by omega)]
/-! ## from h -/
def d_spoiling : DTS := (dSeq (dAsg (dFix [] (dCall sp_greatest_steps [] (dCons (dVar 0) (dCons (dOp oIxT (dVar 2) (dC (.int 0))) dNil)))) (gN [] 3))
  (dSeq (dAsg (dFix [] (dCall sp_greatest_steps [] (dCons (dVar 0) (dCons (dOp oIxT (dVar 2) (dC (.int 1))) dNil)))) (gN [] 4))
  (dSeq (dFor (iE (dCons (dVar 1) dNil)) (gT 2 (gsCons (gN [] 5) (gsCons (gN [] 6) gsNil)))
  (dSeq (dAsg (dFix [] (dCall sp_broken_worths [] (dCons (dVar 6) (dCons (dVar 3) (dCons (dVar 4) dNil))))) (gN [] 7))
  (dIfS (dTest (dOp (oIsN true) (dVar 7) (dC .non))) (dSeq (dAsg (dLc (iL (dVar 1)) (gN [] 9) dYes (dFix [] (dLc (iL (dVar 9)) (gN [] 10) dYes (dOp oIxT (dVar 10) (dC (.int 0))) [10])) [9]) (gN [] 8))
  (dSeq (dAsg (dVar 7) (gSetL (dVar 8) (dVar 5)))
  (dRet (dMove [] 8)))) dNext)))
  (dRet (dC .non)))))
def sp_spoiling : DSp := fun ds R _ => ∃ (steps : List (List Int)) (cells : List (List (Int × Int))) (a b : Nat), ds = [toD steps, toD cells, .tup [.int a, .int b]] ∧ StepsOk steps ∧ CellsOk steps cells ∧
  ((∀ row ∈ cells, bw row (gs a steps 0) (gs b steps 0) = none) → R .non []) ∧
  (∀ (i : Nat) row ws, cells[i]? = some row → bw row (gs a steps 0) (gs b steps 0) = some ws → R (.mt (((cells.map lows).set i ws).map toD)) [])
theorem spec_spoiling : ∀ ds R RX, sp_spoiling ds R RX → ds.length = 3 ∧ d_spoiling (endsD [] R) (startE 11 ds) := by
  rintro _ R RX ⟨steps, cells, a, b, rfl, so, co, h1, h2⟩
  refine ⟨rfl, ?_⟩
  have sm := so.many
  simp [d_spoiling, toD]
  refine ⟨steps, a, by simp [toD], sm, ?_⟩
  simp
  refine ⟨steps, b, by simp [toD], sm, ?_⟩
  simp
  refine forD_enum (f := fun xs : List (Int × Int) => D.lst (xs.map fun p => D.tup [D.int p.fst, D.int p.snd])) (fun i e => (∀ row ∈ cells.take i, bw row (gs a steps 0) (gs b steps 0) = none) ∧ ∃ q r s t, e = [some (D.lst (steps.map fun xs => D.lst (xs.map D.int))),
    some (D.lst (cells.map fun xs => D.lst (xs.map fun p => D.tup [D.int p.fst, D.int p.snd]))), some (.tup [.int a, .int b]), some (.lst ((gs a steps 0).map .int)), some (.lst ((gs b steps 0).map .int)), q, r, s, t, none, none]) ⟨by simp, _, _, _, _, rfl⟩ ?_ ?_
  · rintro i row e N hx ⟨hq, q, r, s, t, rfl⟩ hN
    have hi : i < cells.length := (List.getElem?_eq_some_iff.mp hx).1
    have hmem := List.mem_of_getElem? hx
    have hrl := (co.row row hmem).1
    simp
    refine ⟨row, gs a steps 0, gs b steps 0, by simp [toD], by omega, by rw [gs_len, hrl], by rw [gs_len, hrl], ?_⟩
    cases hb : bw row (gs a steps 0) (gs b steps 0) with
    | none =>
      simp [oD]
      exact hN _ ⟨fun r hr => by
        rw [take_snoc hx] at hr
        rcases List.mem_append.mp hr with hr | hr
        · exact hq r hr
        · rw [List.mem_singleton] at hr; subst hr; exact hb, by simp⟩
    | some ws =>
      simp [oD]
      refine lcD_map (h := fun row : List (Int × Int) => .lst (row.map fun p => .int p.1)) (by simp) (le1000 (by have := co.many; omega)) (fun x hx => rfl) (fun x hx N hN => ?_) ?_
      · simp
        refine lcD_map (h := fun p : Int × Int => .int p.1) (by simp) (le1000 (by have := (co.row x hx).1; omega)) (fun x hx => rfl) (fun y hy N hN => ?_) ?_
        · simp
          exact hN _ (by simp)
        · simp
          exact hN _ (by simp)
      · have hix : ixN cells.length (i : Int) = some i := by unfold ixN; rw [if_pos (by omega), if_pos (by omega)]; simp
        simp [hix]
        have := h2 i row ws hx hb
        rw [List.map_set, List.map_map] at this
        simpa [toD, lows, Function.comp_def] using this
  · rintro e ⟨hq, q, r, s, t, rfl⟩
    rw [List.take_length] at hq
    simpa using h1 hq
def d_sure : DTS := (dRet (dOp (oIsN false) (dCall sp_spoiling [] (dCons (dVar 0) (dCons (dVar 1) (dCons (dVar 2) dNil)))) (dC .non)))
def sp_sure : DSp := fun ds R _ => ∃ (steps : List (List Int)) (cells : List (List (Int × Int))) (a b : Nat), ds = [toD steps, toD cells, .tup [.int a, .int b]] ∧ StepsOk steps ∧ CellsOk steps cells ∧
  ((∀ row ∈ cells, bw row (gs a steps 0) (gs b steps 0) = none) → R (.bl true) []) ∧ (∀ row ∈ cells, bw row (gs a steps 0) (gs b steps 0) ≠ none → R (.bl false) [])
theorem spec_sure : ∀ ds R RX, sp_sure ds R RX → ds.length = 3 ∧ d_sure (endsD [] R) (startE 3 ds) := by
  rintro _ R RX ⟨steps, cells, a, b, rfl, so, co, h1, h2⟩
  refine ⟨rfl, ?_⟩
  simp [d_sure, toD]
  refine ⟨steps, cells, a, b, by simp [toD], so, co, fun h => ?_, fun i row ws hx hb => ?_⟩
  · simpa using h1 h
  · simpa using h2 row (List.mem_of_getElem? hx) (by rw [hb]; simp)
theorem in_lows {steps : List (List Int)} {cells : List (List (Int × Int))} (co : CellsOk steps cells) : InCells cells (cells.map lows) where
  len := by simp
  row := fun i ws row h1 h2 => by
    rw [List.getElem?_map, h2] at h1
    cases h1
    refine ⟨by simp [lows], fun t w c h3 h4 => ?_⟩
    unfold lows at h3
    rw [List.getElem?_map, h4] at h3
    cases h3
    exact ⟨Int.le_refl _, ((co.row row (List.mem_of_getElem? h2)).2 c (List.mem_of_getElem? h4)).2⟩
theorem in_highs {steps : List (List Int)} {cells : List (List (Int × Int))} (co : CellsOk steps cells) : InCells cells (cells.map highs) where
  len := by simp
  row := fun i ws row h1 h2 => by
    rw [List.getElem?_map, h2] at h1
    cases h1
    refine ⟨by simp [highs], fun t w c h3 h4 => ?_⟩
    unfold highs at h3
    rw [List.getElem?_map, h4] at h3
    cases h3
    exact ⟨((co.row row (List.mem_of_getElem? h2)).2 c (List.mem_of_getElem? h4)).2, Int.le_refl _⟩
def RowIn (row : List (Int × Int)) (ws : List Int) : Prop := ws.length = row.length ∧ ∀ (t : Nat) w c, ws[t]? = some w → row[t]? = some c → c.1 ≤ w ∧ w ≤ c.2
theorem RowIn.snoc {row : List (Int × Int)} {ws : List Int} {w : Int} {c : Int × Int} (h : RowIn row ws) (h1 : c.1 ≤ w) (h2 : w ≤ c.2) : RowIn (row ++ [c]) (ws ++ [w]) := by
  refine ⟨by simp [h.1], fun t w' c' e1 e2 => ?_⟩
  by_cases ht : t < ws.length
  · rw [List.getElem?_append_left ht] at e1
    rw [List.getElem?_append_left (by rw [← h.1]; exact ht)] at e2
    exact h.2 t w' c' e1 e2
  · have : t = ws.length := by
      have := (List.getElem?_eq_some_iff.mp e1).1
      simp at this; omega
    subst this
    rw [List.getElem?_append_right (Nat.le_refl _), Nat.sub_self] at e1
    rw [List.getElem?_append_right (by rw [h.1]; exact Nat.le_refl _), h.1, Nat.sub_self] at e2
    cases e1; cases e2
    exact ⟨h1, h2⟩
/-! ## from i -/
def hitR (w : Int) : List Int → Nat → Nat → Prop
  | [], _, _ => False
  | s :: r, k, j => (j = k ∧ s ≤ w) ∨ hitR w r (k + 1) j
def hitC : List (List Int) → List Int → Nat → Nat → Prop
  | row :: r, w :: ws, k, j => hitR w row k j ∨ hitC r ws (k + row.length) j
  | _, _, _, _ => False
theorem hitR_ge {w : Int} : ∀ {row : List Int} {k j : Nat}, hitR w row k j → k ≤ j ∧ j < k + row.length
  | [], _, _, h => h.elim
  | s :: r, k, j, h => by
    rcases h with ⟨rfl, _⟩ | h
    · exact ⟨Nat.le_refl _, by simp⟩
    · have := hitR_ge h; simp; omega
theorem hitC_ge : ∀ {steps : List (List Int)} {ws : List Int} {k j : Nat}, hitC steps ws k j → k ≤ j
  | [], _, _, _, h => h.elim
  | _ :: _, [], _, _, h => h.elim
  | row :: r, w :: ws, k, j, h => by
    rcases h with h | h
    · exact (hitR_ge h).1
    · have := hitC_ge h; omega
theorem rowm_bit (w : Int) (j : Nat) : ∀ (row : List Int) (k m : Nat), (rowm w row k m).testBit j = true ↔ (m.testBit j = true ∨ hitR w row k j)
  | [], k, m => by simp [rowm, hitR]
  | s :: r, k, m => by
    rw [rowm, rowm_bit w j r (k + 1)]
    by_cases hs : s ≤ w
    · rw [if_pos hs, Nat.testBit_or, Nat.testBit_two_pow, Bool.or_eq_true, decide_eq_true_eq]
      simp only [hitR, hs, and_true]
      rw [or_assoc, @eq_comm Nat k j]
    · rw [if_neg hs]
      simp only [hitR, hs, and_false, false_or]
theorem colm_bit (j : Nat) : ∀ (steps : List (List Int)) (ws : List Int) (k m : Nat), (colm steps ws k m).testBit j = true ↔ (m.testBit j = true ∨ hitC steps ws k j)
  | [], _, k, m => by simp [colm, hitC]
  | _ :: _, [], k, m => by simp [colm, hitC]
  | row :: r, w :: ws, k, m => by
    rw [colm, colm_bit j r ws, rowm_bit w j row, or_assoc]
    rfl
/-- the bits of m in a row are hit -/
theorem lastSet_le (m : Nat) (w : Int) : ∀ (row : List Int) (k : Nat) (most : Int), row.Pairwise (· < ·) → (∀ s ∈ row, most ≤ s) → (lastSet m row k most ≤ w ↔ most ≤ w ∧ ∀ j, k ≤ j → j < k + row.length → m.testBit j = true → hitR w row k j)
  | [], k, most, _, _ => by simp [lastSet]; omega
  | s :: r, k, most, hp, hm => by
    have hp' := List.pairwise_cons.mp hp
    have h1 := hm s (List.mem_cons_self ..)
    rw [lastSet]
    by_cases hb : m.testBit k = true
    · rw [if_pos hb, lastSet_le m w r (k + 1) s hp'.2 fun x hx => Int.le_of_lt (hp'.1 x hx)]
      constructor
      · rintro ⟨g1, g2⟩
        refine ⟨Int.le_trans h1 g1, fun j j1 j2 j3 => ?_⟩
        by_cases e : j = k
        · exact .inl ⟨e, g1⟩
        · exact .inr (g2 j (by omega) (by simp at j2; omega) j3)
      · rintro ⟨g1, g2⟩
        constructor
        · rcases g2 k (Nat.le_refl _) (by simp) hb with ⟨_, q⟩ | q
          · exact q
          · have := hitR_ge q; omega
        · intro j j1 j2 j3
          rcases g2 j (by omega) (by simp; omega) j3 with ⟨q, _⟩ | q
          · omega
          · exact q
    · rw [if_neg hb, lastSet_le m w r (k + 1) most hp'.2 fun x hx => hm x (List.mem_cons_of_mem _ hx)]
      constructor
      · rintro ⟨g1, g2⟩
        refine ⟨g1, fun j j1 j2 j3 => ?_⟩
        by_cases e : j = k
        · subst e; exact absurd j3 hb
        · exact .inr (g2 j (by omega) (by simp at j2; omega) j3)
      · rintro ⟨g1, g2⟩
        refine ⟨g1, fun j j1 j2 j3 => ?_⟩
        rcases g2 j (by omega) (by simp; omega) j3 with ⟨q, _⟩ | q
        · omega
        · exact q
theorem gs_le (m : Nat) : ∀ (steps : List (List Int)) (ws : List Int) (k : Nat), ws.length = steps.length → (∀ row ∈ steps, row ≠ [] ∧ Rise row) → (∀ w ∈ ws, 0 ≤ w) →
    (leL (gs m steps k) ws = true ↔ ∀ j, k ≤ j → j < k + wid steps → m.testBit j = true → hitC steps ws k j)
  | [], ws, k, _, _, _ => by simp [gs, leL, wid]; intros; omega
  | _ :: _, [], _, h, _, _ => by simp at h
  | row :: r, w :: ws, k, h, hr, hw => by
    have r1 := (hr row (List.mem_cons_self ..)).2
    have w0 := hw w (List.mem_cons_self ..)
    rw [gs, leL, Bool.and_eq_true, decide_eq_true_eq, lastSet_le m w row k 0 r1.pw fun s hs => by have := r1.lo s hs; omega,
      gs_le m r ws (k + row.length) (by simpa using h) (fun x hx => hr x (List.mem_cons_of_mem _ hx)) fun x hx => hw x (List.mem_cons_of_mem _ hx)]
    constructor
    · rintro ⟨⟨_, g1⟩, g2⟩ j j1 j2 j3
      by_cases e : j < k + row.length
      · exact .inl (g1 j j1 e j3)
      · exact .inr (g2 j (by omega) (by simp [wid] at j2; omega) j3)
    · intro g
      refine ⟨⟨w0, fun j j1 j2 j3 => ?_⟩, fun j j1 j2 j3 => ?_⟩
      · rcases g j j1 (by simp [wid]; omega) j3 with q | q
        · exact q
        · have := hitC_ge q; omega
      · rcases g j (by omega) (by simp [wid]; omega) j3 with q | q
        · have := (hitR_ge q).2; omega
        · exact q
theorem and_eq_iff (a M : Nat) : a &&& M = a ↔ ∀ j, a.testBit j = true → M.testBit j = true := by
  constructor
  · intro h j hj
    rw [← h, Nat.testBit_and, Bool.and_eq_true] at hj
    exact hj.2
  · intro h
    apply Nat.eq_of_testBit_eq
    intro j
    rw [Nat.testBit_and]
    cases q : a.testBit j with
    | false => rfl
    | true => rw [h j q]; rfl
theorem holds_iff {steps : List (List Int)} {ws : List Int} {a : Nat} (h : ws.length = steps.length) (hr : ∀ row ∈ steps, row ≠ [] ∧ Rise row) (hw : ∀ w ∈ ws, 0 ≤ w) (ha : a < 2 ^ wid steps) :
    a &&& colm steps ws 0 0 = a ↔ leL (gs a steps 0) ws = true := by
  rw [and_eq_iff, gs_le a steps ws 0 h hr hw]
  constructor
  · intro g j j1 j2 j3
    have := g j j3
    rw [colm_bit] at this
    rcases this with q | q
    · simp at q
    · exact q
  · intro g j j3
    rw [colm_bit]
    refine .inr (g j (Nat.zero_le _) ?_ j3)
    rw [Nat.zero_add]
    apply Decidable.byContradiction
    intro hc
    have := Nat.testBit_lt_two_pow (Nat.lt_of_lt_of_le ha (Nat.pow_le_pow_right (by omega) (Nat.le_of_not_lt hc)))
    rw [this] at j3
    cases j3
theorem brk_eq {steps : List (List Int)} {ws : List Int} {a b : Nat} (h : ws.length = steps.length) (hr : ∀ row ∈ steps, row ≠ [] ∧ Rise row) (hw : ∀ w ∈ ws, 0 ≤ w) (ha : a < 2 ^ wid steps) (hb : b < 2 ^ wid steps) :
    brk (colm steps ws 0 0) a b = (leL (gs a steps 0) ws && !leL (gs b steps 0) ws) := by
  unfold brk
  have h1 := holds_iff h hr hw ha
  have h2 := holds_iff h hr hw hb
  simp only [h1, h2, Bool.decide_eq_true]
/-- all pairs of two lists -/
def RI : List (Int × Int) → List Int → Prop
  | c :: cs, w :: ws => (c.1 ≤ w ∧ w ≤ c.2) ∧ RI cs ws
  | [], [] => True
  | _, _ => False
theorem RI_of : ∀ {row : List (Int × Int)} {ws : List Int}, RI row ws → RowIn row ws
  | [], [], _ => ⟨rfl, by simp⟩
  | [], _ :: _, h => h.elim
  | _ :: _, [], h => h.elim
  | c :: cs, w :: ws, h => by
    have := RI_of h.2
    refine ⟨by simp [this.1], fun t x d h1 h2 => ?_⟩
    cases t with
    | zero => cases h1; cases h2; exact h.1
    | succ t => exact this.2 t x d h1 h2
theorem RI_iff : ∀ {row : List (Int × Int)} {ws : List Int}, RowIn row ws → RI row ws
  | [], [], _ => trivial
  | [], _ :: _, h => by have := h.1; simp at this
  | _ :: _, [], h => by have := h.1; simp at this
  | c :: cs, w :: ws, h => ⟨h.2 0 w c rfl rfl, RI_iff ⟨by have := h.1; simpa using this, fun t x d h1 h2 => h.2 (t + 1) x d h1 h2⟩⟩
theorem ws_in : ∀ (row : List (Int × Int)) (as : List Int), row.length = as.length → (∀ c ∈ row, c.1 ≤ c.2) → fits row as = true → RI row (wsOf row as) ∧ leL as (wsOf row as) = true
  | [], [], _, _, _ => ⟨trivial, rfl⟩
  | [], _ :: _, h, _, _ => by simp at h
  | _ :: _, [], h, _, _ => by simp at h
  | c :: cs, a :: as, h, hc, hf => by
    simp only [fits, Bool.and_eq_true, Bool.not_eq_true', decide_eq_false_iff_not] at hf
    obtain ⟨g1, g2⟩ := ws_in cs as (by simpa using h) (fun x hx => hc x (List.mem_cons_of_mem _ hx)) hf.2
    have f1 := hf.1
    rw [mxI_eq] at f1
    refine ⟨⟨by rw [mxI_eq]; omega, g1⟩, ?_⟩
    simp only [wsOf, leL, Bool.and_eq_true, decide_eq_true_eq]
    rw [mxI_eq]
    exact ⟨by omega, g2⟩
theorem lack_not : ∀ (bs ws : List Int), bs.length = ws.length → lack ws bs = !leL bs ws
  | [], [], _ => rfl
  | [], _ :: _, h => by simp at h
  | _ :: _, [], h => by simp at h
  | b :: bs, w :: ws, h => by
    simp only [lack, leL]
    rw [lack_not bs ws (by simpa using h)]
    by_cases q : b ≤ w
    · have : ¬ w < b := by omega
      simp [q, this]
    · have : w < b := by omega
      simp [q, this]
/-- ahead holds in a filling: the least worths fit, and lie under it -/
theorem ahead_fits : ∀ (row : List (Int × Int)) (as xs : List Int), row.length = as.length → RI row xs → leL as xs = true → fits row as = true ∧ ∀ bs : List Int, leL bs (wsOf row as) = true → leL bs xs = true
  | [], [], [], _, _, _ => ⟨rfl, fun bs _ => by cases bs <;> rfl⟩
  | [], _ :: _, _, h, _, _ => by simp at h
  | _ :: _, [], _, h, _, _ => by simp at h
  | [], [], _ :: _, _, h, _ => h.elim
  | _ :: _, _ :: _, [], _, h, _ => h.elim
  | c :: cs, a :: as, x :: xs, h, hr, hl => by
    simp only [leL, Bool.and_eq_true, decide_eq_true_eq] at hl
    obtain ⟨g1, g2⟩ := ahead_fits cs as xs (by simpa using h) hr.2 hl.2
    have r1 := hr.1
    refine ⟨?_, fun bs hb => ?_⟩
    · simp only [fits, Bool.and_eq_true, Bool.not_eq_true', decide_eq_false_iff_not]
      rw [mxI_eq]
      exact ⟨by omega, g1⟩
    · cases bs with
      | nil => rfl
      | cons b bs =>
        simp only [wsOf, leL, Bool.and_eq_true, decide_eq_true_eq] at hb ⊢
        rw [mxI_eq] at hb
        exact ⟨by omega, g2 bs hb.2⟩
theorem RI_pos : ∀ {row : List (Int × Int)} {ws : List Int}, RI row ws → (∀ c ∈ row, 0 ≤ c.1) → ∀ w ∈ ws, 0 ≤ w
  | [], [], _, _, _, h => by cases h
  | [], _ :: _, h, _, _, _ => h.elim
  | _ :: _, [], h, _, _, _ => h.elim
  | c :: cs, w :: ws, h, hc, x, hx => by
    rcases List.mem_cons.mp hx with rfl | hx
    · have := hc c (List.mem_cons_self ..); have := h.1; omega
    · exact RI_pos h.2 (fun d hd => hc d (List.mem_cons_of_mem _ hd)) x hx
section
variable {steps : List (List Int)} {row : List (Int × Int)} {a b : Nat} (so : StepsOk steps) (hl : row.length = steps.length) (hc : ∀ c ∈ row, 0 ≤ c.1 ∧ c.1 ≤ c.2) (ha : a < 2 ^ wid steps) (hb : b < 2 ^ wid steps)
include so hl hc ha hb
theorem bw_some {ws : List Int} (h : bw row (gs a steps 0) (gs b steps 0) = some ws) : RowIn row ws ∧ ws.length = steps.length ∧ brk (colm steps ws 0 0) a b = true := by
  unfold bw at h
  split at h
  · rename_i hf
    rw [Bool.and_eq_true] at hf
    cases h
    obtain ⟨g1, g2⟩ := ws_in row (gs a steps 0) (by rw [gs_len, hl]) (fun c hc' => (hc c hc').2) hf.1
    have e := RI_of g1
    have e1 : (wsOf row (gs a steps 0)).length = steps.length := by rw [e.1, hl]
    refine ⟨e, e1, ?_⟩
    rw [brk_eq e1 so.rise (RI_pos g1 fun c hc' => (hc c hc').1) ha hb, g2]
    have := hf.2
    rw [lack_not _ _ (by rw [gs_len, e1])] at this
    rw [this]; rfl
  · cases h
theorem bw_none {ws : List Int} (h : bw row (gs a steps 0) (gs b steps 0) = none) (hr : RowIn row ws) : brk (colm steps ws 0 0) a b = false := by
  have g := RI_iff hr
  have e1 : ws.length = steps.length := by rw [hr.1, hl]
  rw [brk_eq e1 so.rise (RI_pos g fun c hc' => (hc c hc').1) ha hb]
  cases q : leL (gs a steps 0) ws with
  | false => rfl
  | true =>
    obtain ⟨g1, g2⟩ := ahead_fits row (gs a steps 0) ws (by rw [gs_len, hl]) g q
    unfold bw at h
    rw [g1, Bool.true_and] at h
    split at h
    · cases h
    · rename_i hn
      rw [Bool.not_eq_true, lack_not _ _ (by rw [gs_len, wsOf_len _ _ (by rw [gs_len, hl]), hl]), Bool.not_eq_false'] at hn
      rw [g2 _ hn]; rfl
end
section
variable {steps : List (List Int)} {row : List (Int × Int)} {a b : Nat} (so : StepsOk steps) (hl : row.length = steps.length) (hc : ∀ c ∈ row, 0 ≤ c.1 ∧ c.1 ≤ c.2) (ha : a < 2 ^ wid steps) (hb : b < 2 ^ wid steps)
theorem RI_lows : ∀ {row : List (Int × Int)}, (∀ c ∈ row, 0 ≤ c.1 ∧ c.1 ≤ c.2) → RI row (lows row)
  | [], _ => trivial
  | c :: cs, h => ⟨⟨Int.le_refl _, (h c (List.mem_cons_self ..)).2⟩, RI_lows fun d hd => h d (List.mem_cons_of_mem _ hd)⟩
theorem RI_highs : ∀ {row : List (Int × Int)}, (∀ c ∈ row, 0 ≤ c.1 ∧ c.1 ≤ c.2) → RI row (highs row)
  | [], _ => trivial
  | c :: cs, h => ⟨⟨(h c (List.mem_cons_self ..)).2, Int.le_refl _⟩, RI_highs fun d hd => h d (List.mem_cons_of_mem _ hd)⟩
theorem leL_up : ∀ {row : List (Int × Int)} {ws gs : List Int}, RI row ws → (leL gs (lows row) = true → leL gs ws = true) ∧ (leL gs ws = true → leL gs (highs row) = true)
  | [], [], gs, _ => by cases gs <;> simp [leL, lows, highs]
  | [], _ :: _, _, h => h.elim
  | _ :: _, [], _, h => h.elim
  | c :: cs, w :: ws, [], _ => by simp [leL, lows, highs]
  | c :: cs, w :: ws, g :: gs, h => by
    obtain ⟨i1, i2⟩ := leL_up (gs := gs) h.2
    have := h.1
    simp only [lows, highs] at i1 i2
    simp only [lows, highs, List.map_cons, leL, Bool.and_eq_true, decide_eq_true_eq]
    exact ⟨fun q => ⟨by omega, i1 q.2⟩, fun q => ⟨by omega, i2 q.2⟩⟩
include so hl hc ha hb
theorem kw_some {ws : List Int} (h : kw row (gs a steps 0) (gs b steps 0) = some ws) : RowIn row ws ∧ ws.length = steps.length ∧ brk (colm steps ws 0 0) a b = false := by
  unfold kw at h
  split at h
  · rename_i hf
    cases h
    have g := RI_lows hc
    have e := RI_of g
    have e1 : (lows row).length = steps.length := by rw [e.1, hl]
    refine ⟨e, e1, ?_⟩
    rw [brk_eq e1 so.rise (RI_pos g fun c hc' => (hc c hc').1) ha hb, hf]; rfl
  · split at h
    · rename_i hf
      cases h
      have g := RI_highs hc
      have e := RI_of g
      have e1 : (highs row).length = steps.length := by rw [e.1, hl]
      refine ⟨e, e1, ?_⟩
      rw [brk_eq e1 so.rise (RI_pos g fun c hc' => (hc c hc').1) ha hb, hf]; simp
    · cases h
theorem kw_none {ws : List Int} (h : kw row (gs a steps 0) (gs b steps 0) = none) (hr : RowIn row ws) : brk (colm steps ws 0 0) a b = true := by
  have g := RI_iff hr
  have e1 : ws.length = steps.length := by rw [hr.1, hl]
  rw [brk_eq e1 so.rise (RI_pos g fun c hc' => (hc c hc').1) ha hb]
  unfold kw at h
  split at h
  · cases h
  · rename_i h1
    split at h
    · cases h
    · rename_i h2
      rw [(leL_up g).1 (by simpa using h1)]
      cases q : leL (gs b steps 0) ws with
      | false => rfl
      | true => exact absurd ((leL_up g).2 q) h2
end
def d_mending : DTS := (dSeq (dAsg (dFix [] (dCall sp_greatest_steps [] (dCons (dVar 0) (dCons (dOp oIxT (dVar 2) (dC (.int 0))) dNil)))) (gN [] 3))
  (dSeq (dAsg (dFix [] (dCall sp_greatest_steps [] (dCons (dVar 0) (dCons (dOp oIxT (dVar 2) (dC (.int 1))) dNil)))) (gN [] 4))
  (dSeq (dAsg (dLst dNil) (gN [] 5))
  (dSeq (dFor (iL (dVar 1)) (gN [] 6)
  (dSeq (dAsg (dFix [] (dCall sp_kept_worths [] (dCons (dVar 6) (dCons (dVar 3) (dCons (dVar 4) dNil))))) (gN [] 7))
  (dSeq (dIfS (dTest (dOp (oIsN false) (dVar 7) (dC .non))) (dRet (dC .non)) dNext)
  (dDrop (dBM "list" mAppend (dVar 5) (dCons (dVar 7) dNil))))))
  (dRet (dMove [] 5))))))
def sp_mending : DSp := fun ds R _ => ∃ (steps : List (List Int)) (cells : List (List (Int × Int))) (a b : Nat), ds = [toD steps, toD cells, .tup [.int a, .int b]] ∧ StepsOk steps ∧ CellsOk steps cells ∧
  ((∃ row ∈ cells, kw row (gs a steps 0) (gs b steps 0) = none) → R .non []) ∧
  (∀ f : List (List Int), cells.map (fun row => kw row (gs a steps 0) (gs b steps 0)) = f.map some → R (.mt (f.map toD)) [])
theorem spec_mending : ∀ ds R RX, sp_mending ds R RX → ds.length = 3 ∧ d_mending (endsD [] R) (startE 8 ds) := by
  rintro _ R RX ⟨steps, cells, a, b, rfl, so, co, h1, h2⟩
  refine ⟨rfl, ?_⟩
  have sm := so.many
  have cm := co.many
  simp [d_mending, toD]
  refine ⟨steps, a, by simp [toD], sm, ?_⟩
  simp
  refine ⟨steps, b, by simp [toD], sm, ?_⟩
  simp
  refine forD_of (fun i e => ∃ f : List (List Int), (cells.take i).map (fun row => kw row (gs a steps 0) (gs b steps 0)) = f.map some ∧ ∃ q r, e = [some (D.lst (steps.map fun xs => D.lst (xs.map D.int))),
    some (D.lst (cells.map fun xs => D.lst (xs.map fun p => D.tup [D.int p.fst, D.int p.snd]))), some (.tup [.int a, .int b]), some (.lst ((gs a steps 0).map .int)), some (.lst ((gs b steps 0).map .int)), some (.mt (f.map fun ws => .lst (ws.map .int))), q, r]) ⟨[], by simp, _, _, rfl⟩ ?_ ?_
  · rintro i row e N hx ⟨f, hf, q, r, rfl⟩ hN
    have hi : i < cells.length := (List.getElem?_eq_some_iff.mp hx).1
    have hmem := List.mem_of_getElem? hx
    have hrl := (co.row row hmem).1
    have hfl : f.length = i := by have := congrArg List.length hf; simp at this; omega
    have hsz : f.length < sizeLine := small1000 (by omega)
    simp
    refine ⟨row, gs a steps 0, gs b steps 0, by simp [toD], by omega, by rw [gs_len, hrl], by rw [gs_len, hrl], ?_⟩
    cases hb : kw row (gs a steps 0) (gs b steps 0) with
    | none =>
      simp [oD]
      exact h1 ⟨row, hmem, hb⟩
    | some ws =>
      simp [oD, hsz]
      exact hN _ ⟨f ++ [ws], by rw [take_snoc hx, List.map_append, hf, List.map_append, List.map_singleton, hb]; rfl, by simp⟩
  · rintro e ⟨f, hf, q, r, rfl⟩
    rw [List.take_length] at hf
    simp
    simpa [toD] using h2 f hf
/-! ## from k -/
/-! ### sets of columns a thing may have -/
def partN (at_ : Nat) : Nat → Nat
  | 0 => 0
  | k + 1 => partN at_ k ||| 2 ^ (at_ + k)
theorem partN_bit (at_ j : Nat) : ∀ k, (partN at_ k).testBit j = true ↔ at_ ≤ j ∧ j < at_ + k
  | 0 => by simp [partN]
  | k + 1 => by
    rw [partN, Nat.testBit_or, Bool.or_eq_true, partN_bit at_ j k, Nat.testBit_two_pow, decide_eq_true_eq]
    omega
theorem hitR_iff {w : Int} : ∀ {st : List Int} {k j : Nat}, hitR w st k j ↔ ∃ i s, st[i]? = some s ∧ j = k + i ∧ s ≤ w
  | [], k, j => by simp [hitR]
  | s :: r, k, j => by
    rw [hitR, hitR_iff]
    constructor
    · rintro (⟨rfl, h⟩ | ⟨i, x, h1, h2, h3⟩)
      · exact ⟨0, s, rfl, rfl, h⟩
      · exact ⟨i + 1, x, h1, by omega, h3⟩
    · rintro ⟨i, x, h1, h2, h3⟩
      cases i with
      | zero => cases h1; exact .inl ⟨h2, h3⟩
      | succ i => exact .inr ⟨i, x, h1, by omega, h3⟩
/-- w reaches just the first k steps -/
def Cnt (st : List Int) (w : Int) (k : Nat) : Prop := k ≤ st.length ∧ ∀ i s, st[i]? = some s → (s ≤ w ↔ i < k)
theorem rowm_cnt {st : List Int} {w : Int} {k : Nat} (h : Cnt st w k) (at_ m : Nat) : rowm w st at_ m = m ||| partN at_ k := by
  apply Nat.eq_of_testBit_eq
  intro j
  rw [Bool.eq_iff_iff, rowm_bit, Nat.testBit_or, Bool.or_eq_true, partN_bit, hitR_iff]
  refine or_congr Iff.rfl ⟨?_, ?_⟩
  · rintro ⟨i, s, h1, h2, h3⟩
    have := (h.2 i s h1).mp h3
    omega
  · rintro ⟨h1, h2⟩
    have hi : j - at_ < st.length := by have := h.1; omega
    exact ⟨j - at_, st[j - at_], List.getElem?_eq_getElem hi, by omega, (h.2 _ _ (List.getElem?_eq_getElem hi)).mpr (by omega)⟩
theorem cnt_ex (w : Int) : ∀ {st : List Int}, st.Pairwise (· < ·) → ∃ k, Cnt st w k
  | [], _ => ⟨0, Nat.le_refl _, by simp⟩
  | s :: r, h => by
    have hp := List.pairwise_cons.mp h
    by_cases hs : s ≤ w
    · obtain ⟨k, h1, h2⟩ := cnt_ex w hp.2
      refine ⟨k + 1, by simp; omega, fun i x hx => ?_⟩
      cases i with
      | zero => cases hx; simp [hs]
      | succ i => rw [h2 i x hx]; omega
    · refine ⟨0, Nat.zero_le _, fun i x hx => ?_⟩
      cases i with
      | zero => cases hx; simp; omega
      | succ i =>
        have := hp.1 x (List.mem_of_getElem? hx)
        simp; omega
/-- the k that a cell may reach -/
def okK (st : List Int) (c : Int × Int) (k : Nat) : Bool := (decide (k = st.length) || (match st[k]? with | some s => decide (c.1 < s) | none => false)) && (decide (k = 0) || (match st[k - 1]? with | some s => decide (s ≤ c.2) | none => false))
theorem ok_of {st : List Int} {c : Int × Int} {w : Int} {k : Nat} (h : Cnt st w k) (h1 : c.1 ≤ w) (h2 : w ≤ c.2) : okK st c k = true := by
  unfold okK
  rw [Bool.and_eq_true, Bool.or_eq_true, Bool.or_eq_true, decide_eq_true_eq, decide_eq_true_eq]
  have := h.1
  constructor
  · by_cases e : k = st.length
    · exact .inl e
    · have hk : k < st.length := by omega
      have := h.2 k _ (List.getElem?_eq_getElem hk)
      rw [List.getElem?_eq_getElem hk]
      refine .inr ?_
      simp; omega
  · by_cases e : k = 0
    · exact .inl e
    · have hk : k - 1 < st.length := by omega
      have := (h.2 (k - 1) _ (List.getElem?_eq_getElem hk)).mpr (by omega)
      rw [List.getElem?_eq_getElem hk]
      refine .inr ?_
      simp; omega
theorem rise_le {st : List Int} (h : st.Pairwise (· < ·)) {i j : Nat} {x y : Int} (h1 : st[i]? = some x) (h2 : st[j]? = some y) (hij : i ≤ j) : x ≤ y := by
  by_cases e : i = j
  · subst e; rw [h1] at h2; cases h2; exact Int.le_refl _
  · obtain ⟨hi, rfl⟩ := List.getElem?_eq_some_iff.mp h1
    obtain ⟨hj, rfl⟩ := List.getElem?_eq_some_iff.mp h2
    have := List.pairwise_iff_getElem.mp h i j hi hj (by omega)
    omega
theorem of_ok {st : List Int} (hp : st.Pairwise (· < ·)) {c : Int × Int} {k : Nat} (hc : c.1 ≤ c.2) (hk : k ≤ st.length) (h : okK st c k = true) : ∃ w, c.1 ≤ w ∧ w ≤ c.2 ∧ Cnt st w k := by
  unfold okK at h
  rw [Bool.and_eq_true, Bool.or_eq_true, Bool.or_eq_true, decide_eq_true_eq, decide_eq_true_eq] at h
  have up : k < st.length → ∀ i s, k ≤ i → st[i]? = some s → c.1 < s := by
    intro hlt i s hi hs
    have h1 := h.1
    rw [List.getElem?_eq_getElem hlt] at h1
    rcases h1 with h1 | h1
    · omega
    · simp at h1
      have := rise_le hp (List.getElem?_eq_getElem hlt) hs hi
      omega
  by_cases e : k = 0
  · subst e
    refine ⟨c.1, Int.le_refl _, hc, Nat.zero_le _, fun i s hs => ?_⟩
    have := up (by have := (List.getElem?_eq_some_iff.mp hs).1; omega) i s (Nat.zero_le _) hs
    omega
  · have hlt : k - 1 < st.length := by omega
    have h2 := h.2
    rw [List.getElem?_eq_getElem hlt] at h2
    have h3 : st[k - 1] ≤ c.2 := by
      rcases h2 with h2 | h2
      · omega
      · simpa using h2
    refine ⟨max c.1 st[k - 1], by omega, by omega, hk, fun i s hs => ?_⟩
    constructor
    · intro hle
      apply Decidable.byContradiction
      intro hc2
      have hi := (List.getElem?_eq_some_iff.mp hs).1
      have g1 := up (by omega) i s (by omega) hs
      have g2 : st[k - 1] < s := by
        obtain ⟨hi, rfl⟩ := List.getElem?_eq_some_iff.mp hs
        exact List.pairwise_iff_getElem.mp hp (k - 1) i hlt hi (by omega)
      omega
    · intro hik
      have := rise_le hp hs (List.getElem?_eq_getElem hlt) (by omega)
      omega
def partsN (st : List Int) (c : Int × Int) (at_ n : Nat) : List Nat := ((List.range n).filter (okK st c)).map (partN at_)
theorem partsN_succ (st : List Int) (c : Int × Int) (at_ n : Nat) : partsN st c at_ (n + 1) = if okK st c n = true then partsN st c at_ n ++ [partN at_ n] else partsN st c at_ n := by
  unfold partsN
  rw [List.range_succ, List.filter_append, List.map_append]
  split
  · rename_i h; simp [h]
  · rename_i h; simp [h]
theorem partsN_len (st : List Int) (c : Int × Int) (at_ n : Nat) : (partsN st c at_ n).length ≤ n := by
  unfold partsN
  rw [List.length_map]
  have := List.length_filter_le (okK st c) (List.range n)
  rw [List.length_range] at this
  exact this
def growN (M S : List Nat) : List Nat := M.flatMap fun m => S.map fun p => m ||| p
theorem growN_len (M S : List Nat) : (growN M S).length = M.length * S.length := by
  unfold growN
  induction M with
  | nil => simp
  | cons m M ih => rw [List.flatMap_cons, List.length_append, ih, List.length_map, List.length_cons, Nat.succ_mul, Nat.add_comm]
/-- the masks are just the columns of the row's worths -/
structure Masks (steps : List (List Int)) (row : List (Int × Int)) (M : List Nat) : Prop where
  from_ : ∀ m ∈ M, ∃ ws, RI row ws ∧ m = colm steps ws 0 0
  to_ : ∀ ws, RI row ws → colm steps ws 0 0 ∈ M
  len : M.length ≤ 2 ^ wid steps
theorem RI_snoc {row : List (Int × Int)} {ws : List Int} {c : Int × Int} {w : Int} : RI (row ++ [c]) (ws ++ [w]) ↔ (RI row ws ∧ c.1 ≤ w ∧ w ≤ c.2) := by
  induction row generalizing ws with
  | nil =>
    cases ws with
    | nil => simp [RI]
    | cons y ws => cases ws <;> simp [RI]
  | cons d row ih =>
    cases ws with
    | nil =>
      cases row <;> simp [RI]
    | cons y ws => simp [RI, ih, and_assoc]
theorem RI_len {row : List (Int × Int)} {ws : List Int} (h : RI row ws) : ws.length = row.length := (RI_of h).1
theorem masks_snoc {steps : List (List Int)} {row : List (Int × Int)} {M : List Nat} {st : List Int} {c : Int × Int} (h : Masks steps row M) (hl : row.length = steps.length) (hp : st.Pairwise (· < ·)) (hc : c.1 ≤ c.2) :
    Masks (steps ++ [st]) (row ++ [c]) (growN M (partsN st c (wid steps) (st.length + 1))) where
  from_ := fun m hm => by
    unfold growN at hm
    obtain ⟨m0, h0, hm⟩ := List.mem_flatMap.mp hm
    obtain ⟨p, hp0, rfl⟩ := List.mem_map.mp hm
    unfold partsN at hp0
    obtain ⟨k, hk, rfl⟩ := List.mem_map.mp hp0
    rw [List.mem_filter, List.mem_range] at hk
    obtain ⟨w, w1, w2, w3⟩ := of_ok hp hc (by omega) hk.2
    obtain ⟨ws, g1, rfl⟩ := h.from_ m0 h0
    refine ⟨ws ++ [w], RI_snoc.mpr ⟨g1, w1, w2⟩, ?_⟩
    rw [colm_snoc _ _ _ _ _ _ (by rw [RI_len g1, hl]), Nat.zero_add, rowm_cnt w3]
  to_ := fun ws hws => by
    have hlen := RI_len hws
    rw [List.length_append, List.length_singleton] at hlen
    have hne : ws ≠ [] := by intro e; rw [e] at hlen; simp at hlen
    rw [← List.dropLast_concat_getLast hne] at hws ⊢
    obtain ⟨g1, g2, g3⟩ := RI_snoc.mp hws
    obtain ⟨k, hk⟩ := cnt_ex (ws.getLast hne) hp
    rw [colm_snoc _ _ _ _ _ _ (by rw [RI_len g1, hl]), Nat.zero_add, rowm_cnt hk]
    unfold growN partsN
    refine List.mem_flatMap.mpr ⟨_, h.to_ _ g1, List.mem_map.mpr ⟨_, List.mem_map.mpr ⟨k, ?_, rfl⟩, rfl⟩⟩
    rw [List.mem_filter, List.mem_range]
    exact ⟨by have := hk.1; omega, ok_of hk g2 g3⟩
  len := by
    rw [growN_len, wid_snoc, Nat.pow_add]
    refine Nat.mul_le_mul h.len (Nat.le_trans (partsN_len ..) ?_)
    exact Nat.lt_two_pow_self
end DL

/-! ## M52b.lean -/
namespace DL
open PySem PySem.Spec PyProof.Rows L2
open Dat (toD)
def d__law_cell_at : DTS := (dSeq (dIfS (dTest (dOp (oI0 fun i j => .bl (decide (i < j))) (dVar 1) (dCB cLen (dCons (dVar 0) dNil)))) (dRet (dOp oIxL (dVar 0) (dVar 1))) dNext)
  (dRet (dC (.int 0))))
def sp__law_cell_at : DSp := fun ds R _ => ∃ (s : List Int) (k : Nat), ds = [.scr (s.map .int), .int k] ∧ ∀ v : Int, R (.int v) []
theorem spec__law_cell_at : ∀ ds R RX, sp__law_cell_at ds R RX → ds.length = 2 ∧ d__law_cell_at (endsD [] R) (startE 2 ds) := by
  rintro _ R RX ⟨s, k, rfl, h⟩
  refine ⟨rfl, ?_⟩
  simp [d__law_cell_at]
  split
  · rename_i hk
    rw [atI_at (List.getElem?_eq_getElem hk)]
    simpa using h _
  · exact h 0
def d__law_mixed : DTS := (dSeq (dAsg (dOp (oI (fun _ j => 0 < j) fun i j => .int (i % j)) (dOp (oI CMul fun i j => .int (i * j)) (dOp (oI0 fun i j => .int (i + j)) (dOp (oI0 fun i j => .int (i + j)) (dOp (oI (fun _ j => 0 < j) fun i j => .int (i % j)) (dVar 0) (dC (.int 1000000007))) (dOp (oI CMul fun i j => .int (i * j)) (dC (.int 7)) (dVar 1))) (dC (.int 1))) (dC (.int 48271))) (dC (.int 2147483647))) (gN [] 2))
  (dSeq (dAsg (dOp (oI (fun _ j => 0 < j) fun i j => .int (i % j)) (dOp (oI CMul fun i j => .int (i * j)) (dVar 2) (dOp (oI0 fun i j => .int (i + j)) (dOp (oI0 fun i j => .int (i + j)) (dOp (oI (fun _ j => 0 < j) fun i j => .int (i % j)) (dVar 2) (dC (.int 1009))) (dVar 1)) (dC (.int 3)))) (dC (.int 998244353))) (gN [] 3))
  (dRet (dOp (oI (fun _ j => 0 < j) fun i j => .int (i % j)) (dOp (oI0 fun i j => .int (i + j)) (dOp (oI CMul fun i j => .int (i * j)) (dVar 3) (dC (.int 69621))) (dVar 2)) (dC (.int 2147483629))))))
def sp__law_mixed : DSp := fun ds R _ => ∃ a b : Int, ds = [.int a, .int b] ∧ ∀ v : Int, 0 ≤ v → R (.int v) []
theorem spec__law_mixed : ∀ ds R RX, sp__law_mixed ds R RX → ds.length = 2 ∧ d__law_mixed (endsD [] R) (startE 4 ds) := by
  rintro _ R RX ⟨a, b, rfl, h⟩
  refine ⟨rfl, ?_⟩
  have c1 : CMul 7 b := cmul_l (by omega) (by omega)
  have c2 : ∀ i : Int, CMul i 48271 := fun i => cmul_r (by omega) (by omega)
  have c3 : ∀ i : Int, CMul i 69621 := fun i => cmul_r (by omega) (by omega)
  have c4 : ∀ i j : Int, CMul (i % 2147483647) j := fun i j => cmul_l (by omega) (by omega)
  simp [d__law_mixed, c1, c2, c3, c4]
  exact h _ (by omega)
def d__law_box : DTS := (dSeq (dAsg (dCall sp__law_cell_at [] (dCons (dVar 0) (dCons (dVar 1) dNil))) (gN [] 2))
  (dRet (dLst (dCons (dOp (oI CMul fun i j => .int (i * j)) (dCB (cI1 fun i => if i < 0 then -i else i) (dCons (dVar 2) dNil)) (dCB cInt (dCons (dOp (oI0 fun i j => .bl (decide (j ≤ i))) (dCB (cI1 fun i => if i < 0 then -i else i) (dCons (dVar 2) dNil)) (dOp (oI CPow fun i j => .int (i ^ j.toNat)) (dC (.int 10)) (dC (.int 18)))) dNil))) (dCons (dCall sp__law_mixed [] (dCons (dVar 2) (dCons (dOp (oI0 fun i j => .int (i + j)) (dC (.int 900)) (dVar 1)) dNil))) (dCons (dC (.int 0)) dNil))))))
def sp__law_box : DSp := fun ds R _ => ∃ (s : List Int) (k : Nat), ds = [.scr (s.map .int), .int k] ∧ ∀ a b : Int, 0 ≤ a → R (.mt [.int a, .int b, .int 0]) []
theorem spec__law_box : ∀ ds R RX, sp__law_box ds R RX → ds.length = 2 ∧ d__law_box (endsD [] R) (startE 3 ds) := by
  rintro _ R RX ⟨s, k, rfl, h⟩
  refine ⟨rfl, ?_⟩
  simp [d__law_box]
  refine ⟨s, k, rfl, fun v => ?_⟩
  have cp : CPow 10 18 := cpow_c (by omega) (by omega) (by decide)
  have c1 : ∀ i : Int, CMul i 1 := fun i => cmul_r (by omega) (by omega)
  have c0 : ∀ i : Int, CMul i 0 := fun i => cmul_r (by omega) (by omega)
  have three : 3 ≤ sizeLine := by decide
  simp [cp]
  have key : ∀ n : Int, (n = 0 ∨ n = 1) → CMul (if v < 0 then -v else v) n ∧ sp__law_mixed [.int v, .int (900 + (k : Int))] (fun r _ => 3 ≤ sizeLine ∧ isR r = true ∧ R (.mt [.int ((if v < 0 then -v else v) * n), r, .int 0]) []) fun _ _ _ => False := by
    intro n hn
    refine ⟨by rcases hn with rfl | rfl; exact c0 _; exact c1 _, v, 900 + k, rfl, fun x hx => ⟨three, rfl, h _ _ ?_⟩⟩
    rcases hn with rfl | rfl
    · simp
    · split <;> omega
  obtain ⟨n, hn⟩ : ∃ n : Int, (if 1000000000000000000 ≤ (if v < 0 then -v else v) then (1 : Int) else 0) = n := ⟨_, rfl⟩
  rw [hn]
  exact key n (by
    subst hn
    by_cases hc : 1000000000000000000 ≤ (if v < 0 then -v else v)
    · rw [if_pos hc]; exact .inr rfl
    · rw [if_neg hc]; exact .inl rfl)
@[simp] theorem ixN_2 (n : Nat) : ixN (n + 3) 2 = some 2 := by unfold ixN; rw [if_pos (by omega), if_pos (by omega)]; rfl
@[simp] theorem atI_c2 {α : Type} (a b c : α) (l : List α) : atI (a :: b :: c :: l) 2 = some c := by unfold atI; rw [List.length_cons, List.length_cons, List.length_cons, ixN_2]; rfl
theorem cdivW {i j : Int} (h1 : 0 < j) (h2 : j ≤ 1000000000) : CDivW i j := wide_div (b := 30) h1 (by omega) (by omega) (by omega)
@[simp] theorem ixN_3 (n : Nat) : ixN (n + 4) 3 = some 3 := by unfold ixN; rw [if_pos (by omega), if_pos (by omega)]; rfl
def d__law_take : DTS := (dSeq (dIfS (dTest (dOp (oI0 fun i j => .bl (decide (j < i))) (dOp oIxL (dVar 0) (dC (.int 0))) (dC (.int 0)))) (dSeq (dAsg (dOp (oI (fun _ j => 0 < j) fun i j => .int (i % j)) (dOp oIxL (dVar 0) (dC (.int 0))) (dVar 1)) (gN [0] 2))
  (dSeq (dAsg (dOp (oI CDivW fun i j => .int (i / j)) (dOp oIxL (dVar 0) (dC (.int 0))) (dVar 1)) (gSetL (dVar 0) (dC (.int 0))))
  (dRet (dVar 2)))) dNext)
  (dSeq (dAsg (dOp (oI0 fun i j => .int (i + j)) (dOp oIxL (dVar 0) (dC (.int 2))) (dC (.int 1))) (gSetL (dVar 0) (dC (.int 2))))
  (dRet (dOp (oI (fun _ j => 0 < j) fun i j => .int (i % j)) (dCall sp__law_mixed [] (dCons (dOp oIxL (dVar 0) (dC (.int 1))) (dCons (dOp oIxL (dVar 0) (dC (.int 2))) dNil))) (dVar 1)))))
def sp__law_take : DSp := fun ds R _ => ∃ a b c many : Int, ds = [.mt [.int a, .int b, .int c], .int many] ∧ 0 ≤ a ∧ 0 < many ∧ many ≤ 1000000000 ∧ ∀ v a' c' : Int, 0 ≤ v → v < many → 0 ≤ a' → R (.int v) [.mt [.int a', .int b, .int c']]
abbrev boxD (a b c : Int) : D := .mt [.int a, .int b, .int c]
theorem spec__law_take : ∀ ds R RX, sp__law_take ds R RX → ds.length = 2 ∧ d__law_take (endsD [0] R) (startE 3 ds) := by
  rintro _ R RX ⟨a, b, c, many, rfl, ha, hm, hm2, h⟩
  refine ⟨rfl, ?_⟩
  have cd : CDivW a many := cdivW hm hm2
  simp [d__law_take, hm, cd]
  split
  · rename_i ha0
    simp [rtD, outs]
    exact h _ _ _ (Int.emod_nonneg _ (by omega)) (Int.emod_lt_of_pos _ hm) (Int.ediv_nonneg ha (by omega))
  · refine ⟨b, c + 1, by simp, fun v hv => ?_⟩
    simp [rtD, outs]
    exact h _ _ _ (Int.emod_nonneg _ (by omega)) (Int.emod_lt_of_pos _ hm) ha
theorem take_box {a b c many : Int} (ha : 0 ≤ a) (hm : 0 < many) (hm2 : many ≤ 1000000000) {R : D → List D → Prop} {RX} (h : ∀ v a' c' : Int, 0 ≤ v → v < many → 0 ≤ a' → R (.int v) [boxD a' b c']) : sp__law_take [boxD a b c, .int many] R RX := ⟨a, b, c, many, rfl, ha, hm, hm2, h⟩
abbrev mostI : Int := 999999999999999999
def d__law_worth_c2 : DTS := (dRet (dOp oIxL (dLst (dCons (dC (.int 0)) (dCons (dVar 3) (dCons (dOp (oI0 fun i j => .int (i - j)) (dVar 3) (dC (.int 1))) (dCons (dCB (cI2 mnI) (dCons (dOp (oI0 fun i j => .int (i + j)) (dVar 3) (dC (.int 1))) (dCons (dVar 2) dNil))) (dCons (dVar 2) (dCons (dVar 4) dNil))))))) (dCallO [0] sp__law_take (dCons (dVar 0) (dCons (dC (.int 6)) dNil)))))
def d__law_worth_c1 : DTS := (dSeq (dAsg (dOp (oI0 fun i j => .int (i + j)) (dOp (oI CMul fun i j => .int (i * j)) (dCallO [0] sp__law_take (dCons (dVar 0) (dCons (dOp (oI CPow fun i j => .int (i ^ j.toNat)) (dC (.int 10)) (dC (.int 9))) dNil))) (dOp (oI CPow fun i j => .int (i ^ j.toNat)) (dC (.int 10)) (dC (.int 9)))) (dCallO [0] sp__law_take (dCons (dVar 0) (dCons (dOp (oI CPow fun i j => .int (i ^ j.toNat)) (dC (.int 10)) (dC (.int 9))) dNil)))) (gN [0] 4))
  d__law_worth_c2)
def d__law_worth : DTS := (dSeq (dAsg (dOp (oI0 fun i j => .int (i - j)) (dOp (oI CPow fun i j => .int (i ^ j.toNat)) (dC (.int 10)) (dC (.int 18))) (dC (.int 1))) (gN [0] 2))
  (dSeq (dAsg (dOp oIxL (dVar 1) (dCallO [0] sp__law_take (dCons (dVar 0) (dCons (dCB cLen (dCons (dVar 1) dNil)) dNil)))) (gN [0] 3))
  d__law_worth_c1))
def sp__law_worth : DSp := fun ds R _ => ∃ (a b c : Int) (row : List Int), ds = [boxD a b c, toD row] ∧ 0 ≤ a ∧ row ≠ [] ∧ row.length ≤ 10 ∧ Rise row ∧ ∀ (w a' c' : Int), 0 ≤ w → w ≤ 999999999999999999 → 0 ≤ a' → R (.int w) [boxD a' b c']
theorem worth_c2 {R : D → List D → Prop} {a b c step any : Int} {row : List Int} (ha : 0 ≤ a) (s0 : 1 ≤ step) (s1 : step ≤ 999999999999999999) (n0 : 0 ≤ any) (n1 : any ≤ 999999999999999999) (h : ∀ (w a' c' : Int), 0 ≤ w → w ≤ 999999999999999999 → 0 ≤ a' → R (.int w) [boxD a' b c']) :
    d__law_worth_c2 (endsD [0] R) [some (boxD a b c), some (toD row), some (.int 999999999999999999), some (.int step), some (.int any)] := by
  have two : 2 ≤ sizeLine := by decide
  have six : 6 ≤ sizeLine := by decide
  simp [d__law_worth_c2, mnI_eq, two, six]
  refine take_box ha (by omega) (by omega) fun v a1 c1 v0 v1 ha1 => ?_
  have hv : v = 0 ∨ v = 1 ∨ v = 2 ∨ v = 3 ∨ v = 4 ∨ v = 5 := by omega
  have r5 : ∀ x0 x1 x2 x3 x4 x5 : D, atI [x0, x1, x2, x3, x4, x5] 3 = some x3 ∧ atI [x0, x1, x2, x3, x4, x5] 4 = some x4 ∧ atI [x0, x1, x2, x3, x4, x5] 5 = some x5 := fun _ _ _ _ _ _ => ⟨rfl, rfl, rfl⟩
  rcases hv with rfl | rfl | rfl | rfl | rfl | rfl <;> simp [putO, rtD, outs, r5] <;> exact h _ _ _ (by omega) (by omega) ha1
theorem worth_c1 {R : D → List D → Prop} {a b c step : Int} {row : List Int} (ha : 0 ≤ a) (s0 : 1 ≤ step) (s1 : step ≤ 999999999999999999) (h : ∀ (w a' c' : Int), 0 ≤ w → w ≤ 999999999999999999 → 0 ≤ a' → R (.int w) [boxD a' b c']) :
    d__law_worth_c1 (endsD [0] R) [some (boxD a b c), some (toD row), some (.int 999999999999999999), some (.int step), none] := by
  have p9 : CPow 10 9 := cpow_c (by omega) (by omega) (by decide)
  have cm : ∀ v : Int, CMul v 1000000000 := fun v => cmul_r (by omega) (by omega)
  simp [d__law_worth_c1, p9]
  refine take_box ha (by omega) (by omega) fun v a1 c1 v0 v1 ha1 => ?_
  simp [putO, cm]
  refine take_box ha1 (by omega) (by omega) fun u a2 c2 u0 u1 ha2 => ?_
  simp [putO]
  exact worth_c2 ha2 s0 s1 (by omega) (by omega) h
theorem spec__law_worth : ∀ ds R RX, sp__law_worth ds R RX → ds.length = 2 ∧ d__law_worth (endsD [0] R) (startE 5 ds) := by
  rintro _ R RX ⟨a, b, c, row, rfl, ha, hr, hl, rise, h⟩
  refine ⟨rfl, ?_⟩
  have p18 : CPow 10 18 := cpow_c (by omega) (by omega) (by decide)
  have hpos : 0 < row.length := List.length_pos_iff.mpr hr
  simp [d__law_worth, toD, p18]
  refine take_box ha (by omega) (by omega) fun v a1 c1 v0 v1 ha1 => ?_
  obtain ⟨j, rfl⟩ : ∃ j : Nat, v = j := ⟨v.toNat, by omega⟩
  have hj : row[j]? = some row[j] := List.getElem?_eq_getElem (by omega)
  have eB := atI_at (f := D.int) hj
  have m := List.mem_of_getElem? hj
  simp [putO, eB]
  exact worth_c1 ha1 (rise.lo _ m) (rise.hi _ m) h
def d__law_cell : DTS := (dSeq (dAsg (dCallO [0] sp__law_worth (dCons (dVar 0) (dCons (dVar 1) dNil))) (gN [0] 3))
  (dSeq (dAsg (dVar 3) (gN [0] 4))
  (dSeq (dIfS (dTest (dOp (oEqS true) (dVar 2) (dC (.int 0)))) (dAsg (dCallO [0] sp__law_worth (dCons (dVar 0) (dCons (dVar 1) dNil))) (gN [0] 4)) dNext)
  (dRet (dTup (dCons (dCB (cI2 mnI) (dCons (dVar 3) (dCons (dVar 4) dNil))) (dCons (dCB (cI2 mxI) (dCons (dVar 3) (dCons (dVar 4) dNil))) dNil)))))))
def sp__law_cell : DSp := fun ds R _ => ∃ (a b c whole : Int) (row : List Int), ds = [boxD a b c, toD row, .int whole] ∧ 0 ≤ a ∧ row ≠ [] ∧ row.length ≤ 10 ∧ Rise row ∧ ∀ (p : Int × Int) (a' c' : Int), 0 ≤ p.1 → p.1 ≤ p.2 → p.2 ≤ 999999999999999999 → 0 ≤ a' → R (.tup [.int p.1, .int p.2]) [boxD a' b c']
theorem spec__law_cell : ∀ ds R RX, sp__law_cell ds R RX → ds.length = 3 ∧ d__law_cell (endsD [0] R) (startE 5 ds) := by
  rintro _ R RX ⟨a, b, c, whole, row, rfl, ha, hr, hl, rise, h⟩
  refine ⟨rfl, ?_⟩
  have two : 2 ≤ sizeLine := by decide
  simp [d__law_cell, toD]
  refine ⟨a, b, c, row, by simp [toD], ha, hr, hl, rise, fun w a1 c1 w0 w1 ha1 => ?_⟩
  simp [putO, scal, dec_int]
  by_cases hw : whole = 0
  · refine .inl ⟨hw, two, ?_⟩
    simp [mnI_eq, mxI_eq, rtD, outs]
    exact h (w, w) _ _ w0 (Int.le_refl _) w1 ha1
  · refine .inr ⟨hw, a1, b, c1, row, by simp [toD], ha1, hr, hl, rise, fun u a2 c2 u0 u1 ha2 => ?_⟩
    simp [putO, two, mnI_eq, mxI_eq, rtD, outs]
    exact h (min w u, max w u) _ _ (by simp; omega) (by simp; omega) (by simp; omega) ha2
end DL

/-! ## M52c.lean -/
namespace DL
open PySem PySem.Spec PyProof.Rows L2
open Dat (toD)
/-- a comprehension with an invariant of its own -/
theorem lcD_inv {kp : Env → Prop} {g : DTG} {te : DTE} {vs : List Nat} {α : Type} {f : α → D} {xs : List α} {env : Env} {Q : D → Env → Prop} (I : Nat → List D → Env → Prop) (h0 : I 0 [] env) (hl : xs.length ≤ sizeLine)
    (step : ∀ (i : Nat) (x : α) (acc : List D) (e : Env) (N : D → Env → Prop), xs[i]? = some x → I i acc e → (∀ y e', isR y = true → I (i + 1) (acc ++ [y]) (wipeE e' vs) → N y e') → kp e ∧ g (f x) e fun e2 => te e2 N)
    (hn : ∀ i acc e, I i acc e → acc.length ≤ i) (hR : ∀ i x acc e, xs[i]? = some x → I i acc e → True)
    (fin : ∀ acc e, I xs.length acc e → kp e ∧ Q (.mt acc) e) : lcD kp g dYes te vs (xs.map f) [] env Q := by
  have key : ∀ (ys zs : List α) (acc : List D) (e : Env), xs = zs ++ ys → I zs.length acc e → lcD kp g dYes te vs (ys.map f) acc e Q := by
    intro ys
    induction ys with
    | nil =>
      intro zs acc e h hi
      rw [List.append_nil] at h
      subst h
      exact fin acc e hi
    | cons y ys ih =>
      intro zs acc e h hi
      have hz : zs.length < xs.length := by rw [h]; simp
      have hacc := hn _ _ _ hi
      obtain ⟨k, s⟩ := step zs.length y acc e (fun z e4 => isR z = true ∧ acc.length < sizeLine ∧ lcD kp g dYes te vs (ys.map f) (acc ++ [z]) (wipeE e4 vs) Q) (by rw [h]; simp) hi fun z e' hr he' => ⟨hr, by omega, ih (zs ++ [y]) (acc ++ [z]) _ (by rw [h]; simp) (by simpa using he')⟩
      refine ⟨k, ?_⟩
      simpa [dYes] using s
  exact key xs [] [] env rfl h0
theorem rowm_add (w : Int) : ∀ (row : List Int) (k m : Nat), m < 2 ^ k → (rowm w row k m : Int) = m + (((row.zipIdx k).filter fun p => decide (p.1 ≤ w)).map fun p => (2 ^ p.2 : Int)).sum ∧ rowm w row k m < 2 ^ (k + row.length)
  | [], k, m, h => by simp [rowm]; simpa using h
  | s :: r, k, m, h => by
    have e : m ||| 2 ^ k = m + 2 ^ k := by
      have := Nat.two_pow_add_eq_or_of_lt h 1
      rw [Nat.mul_one] at this
      rw [Nat.or_comm, ← this, Nat.add_comm]
    rw [rowm, List.zipIdx_cons]
    have h2 : m < 2 ^ (k + 1) := by rw [Nat.pow_succ]; omega
    by_cases hs : s ≤ w
    · rw [if_pos hs, e]
      obtain ⟨g1, g2⟩ := rowm_add w r (k + 1) (m + 2 ^ k) (by rw [Nat.pow_succ]; omega)
      refine ⟨?_, by rw [List.length_cons]; rwa [show k + (r.length + 1) = k + 1 + r.length by omega]⟩
      rw [g1]
      simp [hs]
      omega
    · rw [if_neg hs]
      obtain ⟨g1, g2⟩ := rowm_add w r (k + 1) m h2
      refine ⟨?_, by rw [List.length_cons]; rwa [show k + (r.length + 1) = k + 1 + r.length by omega]⟩
      rw [g1]
      simp [hs]
theorem zipIdx_from (row : List Int) (k : Nat) : row.zipIdx k = (row.zipIdx).map fun p => (p.1, k + p.2) := by
  rw [List.zipIdx_eq_map_add]
def d__law_reached : DTS := (dRet (dCB cSum (dCons (dLc (iE (dCons (dVar 0) dNil)) (gT 2 (gsCons (gN [] 3) (gsCons (gN [] 4) gsNil))) (dTest (dOp (oI0 fun i j => .bl (decide (j ≤ i))) (dVar 1) (dVar 4))) (dOp (oI CPow fun i j => .int (i * 2 ^ j.toNat)) (dC (.int 1)) (dOp (oI0 fun i j => .int (i + j)) (dVar 2) (dVar 3))) [3, 4]) dNil)))
def sp__law_reached : DSp := fun ds R _ => ∃ (row : List Int) (w : Int) (at_ : Nat), ds = [toD row, .int w, .int (at_ : Nat)] ∧ row.length ≤ 100 ∧ at_ ≤ 1000 ∧ R (.int (rowm w row at_ 0 : Nat)) []
theorem spec__law_reached : ∀ ds R RX, sp__law_reached ds R RX → ds.length = 3 ∧ d__law_reached (endsD [] R) (startE 5 ds) := by
  rintro _ R RX ⟨row, w, at_, rfl, hl, ha, h⟩
  refine ⟨rfl, ?_⟩
  simp [d__law_reached, toD]
  rw [enumD_eq]
  refine lcD_filter (h := fun p : Int × Nat => .int ((2 ^ (at_ + p.2) : Nat) : Int)) (p := fun p : Int × Nat => decide (p.1 ≤ w)) (by simp) (le1000 (by simp; omega)) (fun x hx => rfl) (fun p hp M N h1 h2 => ?_) ?_
  · have hp2 : p.2 < row.length := by
      have := List.mem_zipIdx hp
      omega
    have cp : CPow 1 ((at_ : Int) + p.2) := cpow_c (by omega) (by omega) (by decide)
    have et : ((at_ : Int) + p.2).toNat = at_ + p.2 := by omega
    simp [cp, et]
    split
    · rename_i hw
      simpa using h2 (by simpa using hw) _ (by simp)
    · rename_i hw
      exact h1 (by simpa using hw) _ (by simp)
  · simp
    have e := (rowm_add w row at_ 0 (Nat.two_pow_pos _)).1
    rw [zipIdx_from, List.filter_map, List.map_map] at e
    refine ⟨((row.zipIdx.filter fun p => decide (p.1 ≤ w)).map fun p => ((2 ^ (at_ + p.2) : Nat) : Int)), by simp [Function.comp_def], ?_⟩
    rw [e] at h
    simpa [Function.comp_def] using h
abbrev natD (n : Nat) : D := .int (n : Int)
/-! ### ways -/
abbrev colsN (at_ n : Nat) : Nat := 2 ^ (at_ + n) - 2 ^ at_
def waysW (row : List Int) (p : Int × Int) : List Int := p.1 :: row.filter fun s => decide (p.1 < s) && decide (s ≤ p.2)
def waysN (row : List Int) (p : Int × Int) (at_ : Nat) : List Nat := (waysW row p).map fun w => rowm w row at_ 0
def d__law_ways : DTS := (dSeq (dAsg (dFix [] (dOp oCat (dLst (dCons (dOp oIxT (dVar 1) (dC (.int 0))) dNil)) (dLc (iL (dVar 0)) (gN [] 4) (dTest (dChn (oI0 fun i j => .bl (decide (i < j))) (oI0 fun i j => .bl (decide (i ≤ j))) (dOp oIxT (dVar 1) (dC (.int 0))) (dVar 4) (dOp oIxT (dVar 1) (dC (.int 1))))) (dVar 4) [4]))) (gN [] 3))
  (dRet (dTup (dCons (dFix [] (dLc (iL (dVar 3)) (gN [] 5) dYes (dCall sp__law_reached [] (dCons (dVar 0) (dCons (dVar 5) (dCons (dVar 2) dNil)))) [5])) (dCons (dOp (oI0 fun i j => .int (i - j)) (dOp (oI CPow fun i j => .int (i * 2 ^ j.toNat)) (dC (.int 1)) (dOp (oI0 fun i j => .int (i + j)) (dVar 2) (dCB cLen (dCons (dVar 0) dNil)))) (dOp (oI CPow fun i j => .int (i * 2 ^ j.toNat)) (dC (.int 1)) (dVar 2))) dNil)))))
def sp__law_ways : DSp := fun ds R _ => ∃ (row : List Int) (p : Int × Int) (at_ : Nat), ds = [toD row, .tup [.int p.1, .int p.2], .int (at_ : Nat)] ∧ row.length ≤ 100 ∧ at_ ≤ 800 ∧ R (.tup [.lst ((waysN row p at_).map natD), natD (colsN at_ row.length)]) []
theorem spec__law_ways : ∀ ds R RX, sp__law_ways ds R RX → ds.length = 3 ∧ d__law_ways (endsD [] R) (startE 6 ds) := by
  rintro _ R RX ⟨row, p, at_, rfl, hl, ha, h⟩
  refine ⟨rfl, ?_⟩
  have two : 2 ≤ sizeLine := by decide
  have one : 1 ≤ sizeLine := by decide
  simp [d__law_ways, toD, two, one]
  refine lcD_filter (h := D.int) (p := fun s : Int => decide (p.1 < s) && decide (s ≤ p.2)) (by simp) (le1000 (by omega)) (fun x hx => rfl) (fun s hs M N h1 h2 => ?_) ?_
  · simp
    split
    · split
      · rename_i g1 g2
        exact h2 (by simp [g1, g2]) _ (by simp)
      · rename_i g1 g2
        exact h1 (by simp [g2]) _ (by simp)
    · rename_i g1
      exact h1 (by simp [g1]) _ (by simp)
  · simp
    have hf := List.length_filter_le (fun s : Int => decide (p.1 < s) && decide (s ≤ p.2)) row
    refine ⟨le1000 (by omega), ?_⟩
    have e1 : (D.int p.1 :: List.map D.int (row.filter fun s => decide (p.1 < s) && decide (s ≤ p.2))) = (waysW row p).map D.int := rfl
    have ew : (waysW row p).length ≤ 101 := by unfold waysW; rw [List.length_cons]; omega
    rw [e1]
    refine lcD_map (h := fun w : Int => natD (rowm w row at_ 0)) (by simp) (le1000 (by omega)) (fun x hx => rfl) (fun w hw N hN => ?_) ?_
    · simp
      exact ⟨row, w, at_, by simp [toD], hl, by omega, by simpa using hN _ (by simp)⟩
    · have cp : CPow 1 ((at_ : Int) + row.length) := cpow_c (by omega) (by omega) (by decide)
      have cp2 : CPow 1 (at_ : Int) := cpow_c (by omega) (by omega) (by decide)
      have et : ((at_ : Int) + row.length).toNat = at_ + row.length := by omega
      simp [cp, cp2, et]
      have e2 : (2 : Int) ^ (at_ + row.length) - 2 ^ at_ = ((colsN at_ row.length : Nat) : Int) := by
        have := Nat.pow_le_pow_right (show 0 < 2 by omega) (show at_ ≤ at_ + row.length by omega)
        rw [Int.natCast_sub this]; simp
      rw [e2]
      unfold waysN at h
      rw [List.map_map] at h
      exact h
def d__law_rule_c3 : DTS := (dRet (dTup (dCons (dVar 2) (dCons (dVar 3) dNil))))
def d__law_rule_c2 : DTS := (dSeq (dIfS (dAnd (dTest (dOp (oEqS false) (dCallO [0] sp__law_take (dCons (dVar 0) (dCons (dC (.int 3)) dNil))) (dC (.int 0)))) (dTest (dOp (oI0 fun i j => .bl (decide (j < i))) (dVar 1) (dC (.int 0))))) (dAsg (dOp (oI CPow fun i j => .int (i * 2 ^ j.toNat)) (dC (.int 1)) (dCallO [0] sp__law_take (dCons (dVar 0) (dCons (dVar 1) dNil)))) (gN [0] 2)) dNext)
  d__law_rule_c3)
def d__law_rule_c1 : DTS := (dSeq (dIfS (dAnd (dTest (dOp (oI0 fun i j => .bl (decide (j < i))) (dCallO [0] sp__law_take (dCons (dVar 0) (dCons (dC (.int 3)) dNil))) (dC (.int 0)))) (dTest (dOp (oI0 fun i j => .bl (decide (j < i))) (dVar 1) (dC (.int 0))))) (dAsg (dOp (oI CPow fun i j => .int (i * 2 ^ j.toNat)) (dC (.int 1)) (dCallO [0] sp__law_take (dCons (dVar 0) (dCons (dVar 1) dNil)))) (gN [0] 3)) dNext)
  d__law_rule_c2)
def d__law_rule : DTS := (dSeq (dPar2 [0] 2 3 (dCons (dCallO [0] sp__law_take (dCons (dVar 0) (dCons (dOp (oI CPow fun i j => .int (i * 2 ^ j.toNat)) (dC (.int 1)) (dVar 1)) dNil))) (dCons (dCallO [0] sp__law_take (dCons (dVar 0) (dCons (dOp (oI CPow fun i j => .int (i * 2 ^ j.toNat)) (dC (.int 1)) (dVar 1)) dNil))) dNil)))
  d__law_rule_c1)
def sp__law_rule : DSp := fun ds R _ => ∃ (a b c : Int) (n : Nat), ds = [boxD a b c, natD n] ∧ 0 ≤ a ∧ n ≤ 10 ∧ ∀ (x y : Nat) (a' c' : Int), x < 2 ^ n → y < 2 ^ n → 0 ≤ a' → R (.tup [natD x, natD y]) [boxD a' b c']
theorem nat_of {v : Int} (h : 0 ≤ v) : ∃ n : Nat, v = n := ⟨v.toNat, by omega⟩
theorem rule_c3 {R : D → List D → Prop} {a b c : Int} {n x y : Nat} (ha : 0 ≤ a) (hx : x < 2 ^ n) (hy : y < 2 ^ n) (h : ∀ (x y : Nat) (a' c' : Int), x < 2 ^ n → y < 2 ^ n → 0 ≤ a' → R (.tup [natD x, natD y]) [boxD a' b c']) :
    d__law_rule_c3 (endsD [0] R) [some (boxD a b c), some (natD n), some (natD x), some (natD y)] := by
  have two : 2 ≤ sizeLine := by decide
  simp [d__law_rule_c3, two, rtD, outs]
  exact h _ _ _ _ hx hy ha
theorem rule_c2 {R : D → List D → Prop} {a b c : Int} {n x y : Nat} (ha : 0 ≤ a) (hn : n ≤ 10) (hx : x < 2 ^ n) (hy : y < 2 ^ n) (h : ∀ (x y : Nat) (a' c' : Int), x < 2 ^ n → y < 2 ^ n → 0 ≤ a' → R (.tup [natD x, natD y]) [boxD a' b c']) :
    d__law_rule_c2 (endsD [0] R) [some (boxD a b c), some (natD n), some (natD x), some (natD y)] := by
  simp [d__law_rule_c2]
  refine take_box ha (by omega) (by omega) fun v a1 c1 v0 v1 ha1 => ?_
  obtain ⟨v, rfl⟩ := nat_of v0
  simp [putO, scal, dec_int]
  split
  · split
    · refine take_box ha1 (by omega) (by omega) fun u a2 c2 u0 u1 ha2 => ?_
      obtain ⟨u, rfl⟩ := nat_of u0
      have cp : CPow 1 (u : Int) := cpow_c (by omega) (by omega) (by decide)
      have hu : 2 ^ u < 2 ^ n := Nat.pow_lt_pow_right (by omega) (by omega)
      have p3 : (2 : Int) ^ u = ((2 ^ u : Nat) : Int) := by simp
      simp [putO, cp]
      rw [p3]
      exact rule_c3 ha2 hu hy h
    · exact rule_c3 ha1 hx hy h
  · exact rule_c3 ha1 hx hy h
theorem rule_c1 {R : D → List D → Prop} {a b c : Int} {n x y : Nat} (ha : 0 ≤ a) (hn : n ≤ 10) (hx : x < 2 ^ n) (hy : y < 2 ^ n) (h : ∀ (x y : Nat) (a' c' : Int), x < 2 ^ n → y < 2 ^ n → 0 ≤ a' → R (.tup [natD x, natD y]) [boxD a' b c']) :
    d__law_rule_c1 (endsD [0] R) [some (boxD a b c), some (natD n), some (natD x), some (natD y)] := by
  simp [d__law_rule_c1]
  refine take_box ha (by omega) (by omega) fun v a1 c1 v0 v1 ha1 => ?_
  obtain ⟨v, rfl⟩ := nat_of v0
  simp [putO, scal, dec_int]
  split
  · split
    · refine take_box ha1 (by omega) (by omega) fun u a2 c2 u0 u1 ha2 => ?_
      obtain ⟨u, rfl⟩ := nat_of u0
      have cp : CPow 1 (u : Int) := cpow_c (by omega) (by omega) (by decide)
      have hu : 2 ^ u < 2 ^ n := Nat.pow_lt_pow_right (by omega) (by omega)
      have p3 : (2 : Int) ^ u = ((2 ^ u : Nat) : Int) := by simp
      simp [putO, cp]
      rw [p3]
      exact rule_c2 ha2 hn hx hu h
    · exact rule_c2 ha1 hn hx hy h
  · exact rule_c2 ha1 hn hx hy h
theorem spec__law_rule : ∀ ds R RX, sp__law_rule ds R RX → ds.length = 2 ∧ d__law_rule (endsD [0] R) (startE 4 ds) := by
  rintro _ R RX ⟨a, b, c, n, rfl, ha, hn, h⟩
  refine ⟨rfl, ?_⟩
  have cp : CPow 1 (n : Int) := cpow_c (by omega) (by omega) (by decide)
  have p1 : (2 : Nat) ^ n ≤ 1024 := Nat.pow_le_pow_right (show 0 < 2 by omega) hn
  have p2 : 0 < (2 : Nat) ^ n := Nat.two_pow_pos n
  have p3 : (2 : Int) ^ n = ((2 ^ n : Nat) : Int) := by simp
  simp [d__law_rule, cp]
  rw [p3]
  refine take_box ha (by omega) (by omega) fun v a1 c1 v0 v1 ha1 => ?_
  obtain ⟨v, rfl⟩ := nat_of v0
  simp [putO, cp]
  rw [p3]
  refine take_box ha1 (by omega) (by omega) fun u a2 c2 u0 u1 ha2 => ?_
  obtain ⟨u, rfl⟩ := nat_of u0
  simp [putO]
  exact rule_c1 ha2 hn (by omega) (by omega) h
def d__law_steps_c4 : DTS := (dSeq (dDrop (dBM "list" mAppend (dVar 3) (dCons (dFix [0] (dLc (iR1 (dCons (dVar 6) dNil)) (gN [0] 9) dYes (dCB (cI2 mnI) (dCons (dOp (oI0 fun i j => .int (i + j)) (dVar 7) (dOp (oI CMul fun i j => .int (i * j)) (dVar 8) (dVar 9))) (dCons (dOp (oI0 fun i j => .int (i + j)) (dOp (oI0 fun i j => .int (i + j)) (dOp (oI0 fun i j => .int (i - j)) (dVar 2) (dVar 6)) (dC (.int 1))) (dVar 9)) dNil))) [9])) dNil)))
  (dAsg (dOp (oI0 fun i j => .int (i - j)) (dVar 4) (dVar 6)) (gN [0] 4)))
def d__law_steps_c3 : DTS := (dSeq (dAsg (dOp oIxL (dLst (dCons (dC (.int 1)) (dCons (dOp (oI0 fun i j => .int (i + j)) (dC (.int 1)) (dOp (oI CMul fun i j => .int (i * j)) (dCallO [0] sp__law_take (dCons (dVar 0) (dCons (dOp (oI CPow fun i j => .int (i ^ j.toNat)) (dC (.int 10)) (dC (.int 9))) dNil))) (dC (.int 90000000)))) dNil))) (dCallO [0] sp__law_take (dCons (dVar 0) (dCons (dC (.int 2)) dNil)))) (gN [0] 8))
  d__law_steps_c4)
def d__law_steps_c2 : DTS := (dSeq (dAsg (dOp (oI0 fun i j => .int (i + j)) (dC (.int 1)) (dOp oIxL (dLst (dCons (dCallO [0] sp__law_take (dCons (dVar 0) (dCons (dC (.int 9)) dNil))) (dCons (dOp (oI CMul fun i j => .int (i * j)) (dCallO [0] sp__law_take (dCons (dVar 0) (dCons (dOp (oI CPow fun i j => .int (i ^ j.toNat)) (dC (.int 10)) (dC (.int 9))) dNil))) (dC (.int 900000000))) (dCons (dOp (oI0 fun i j => .int (i - j)) (dVar 2) (dC (.int 5))) dNil)))) (dCallO [0] sp__law_take (dCons (dVar 0) (dCons (dC (.int 3)) dNil))))) (gN [0] 7))
  d__law_steps_c3)
def d__law_steps_c1 : DTS := (dSeq (dWhile (dTest (dOp (oI0 fun i j => .bl (decide (j < i))) (dVar 4) (dC (.int 0)))) (dSeq (dAsg (dOp oIxL (dLst (dCons (dOp (oI0 fun i j => .int (i + j)) (dC (.int 1)) (dCallO [0] sp__law_take (dCons (dVar 0) (dCons (dCB (cI2 mnI) (dCons (dC (.int 4)) (dCons (dVar 4) dNil))) dNil)))) (dCons (dC (.int 1)) dNil))) (dVar 5)) (gN [0] 6))
  d__law_steps_c2))
  (dRet (dMove [0] 3)))
def d__law_steps : DTS := (dSeq (dAsg (dOp (oI0 fun i j => .int (i - j)) (dOp (oI CPow fun i j => .int (i ^ j.toNat)) (dC (.int 10)) (dC (.int 18))) (dC (.int 1))) (gN [0] 2))
  (dSeq (dAsg (dLst dNil) (gN [0] 3))
  (dSeq (dAsg (dVar 1) (gN [0] 4))
  (dSeq (dAsg (dCallO [0] sp__law_take (dCons (dVar 0) (dCons (dC (.int 2)) dNil))) (gN [0] 5))
  d__law_steps_c1))))
def sp__law_steps : DSp := fun ds R _ => ∃ (a b c : Int) (n : Nat), ds = [boxD a b c, natD n] ∧ 0 ≤ a ∧ n ≤ 10 ∧ ∀ (steps : List (List Int)) (a' c' : Int), wid steps = n → steps.length ≤ n → (∀ row ∈ steps, row ≠ [] ∧ Rise row) → 0 ≤ a' → R (.mt (steps.map toD)) [boxD a' b c']
theorem steps_c4 {D' : DEnds} {a b c : Int} {n m : Nat} {found : List (List Int)} {left first step : Int} {sg : D} (hf : found.length ≤ 100) (m1 : 1 ≤ m) (m4 : m ≤ 4) (f1 : 1 ≤ first) (f2 : first ≤ 999999999999999999) (s1 : 1 ≤ step) (s2 : step ≤ 999999999999999999)
    (h : ∀ row : List Int, row.length = m → row ≠ [] → Rise row → D'.nx [some (boxD a b c), some (natD n), some (.int 999999999999999999), some (.mt ((found ++ [row]).map toD)), some (.int (left - m)), some sg, some (natD m), some (.int first), some (.int step), none]) :
    d__law_steps_c4 D' [some (boxD a b c), some (natD n), some (.int 999999999999999999), some (.mt (found.map toD)), some (.int left), some sg, some (natD m), some (.int first), some (.int step), none] := by
  have cm : ∀ v : Int, CMul step v := fun v => cmul_l (by omega) (by omega)
  simp [d__law_steps_c4]
  refine ⟨by omega, ?_⟩
  refine @lcD_rng _ _ _ _ (fun i : Nat => .int (min (first + step * (i : Int)) (999999999999999999 - (m : Int) + 1 + (i : Int)))) _ _ _ _ ?_ ?_ ?_ (fun i hi N hN => ?_) ?_
  · trivial
  · exact le1000 (by omega)
  · exact fun i hi => rfl
  · simp [cm, mnI_eq]
    exact hN _ (by simp)
  · have hsz : found.length < sizeLine := Nat.lt_of_lt_of_le (show found.length < 1000 by omega) (by decide)
    simp [hsz]
    obtain ⟨row, hrow⟩ : ∃ row : List Int, (List.range m).map (fun i : Nat => min (first + step * (i : Int)) (999999999999999999 - (m : Int) + 1 + (i : Int))) = row := ⟨_, rfl⟩
    have hlen : row.length = m := by rw [← hrow, List.length_map, List.length_range]
    have g := h row hlen (List.ne_nil_of_length_pos (by omega)) ?_
    rw [← hrow] at g
    rotate_left
    rw [← hrow]
    refine ⟨?_, ?_, ?_⟩
    rotate_right
    · simpa [toD, Function.comp_def] using g
    · rw [List.pairwise_map]
      refine List.pairwise_lt_range.imp ?_
      intro x y hxy
      have : step * (x : Int) + step ≤ step * (y : Int) := by
        have h1 : (x : Int) + 1 ≤ y := by omega
        have h2 := Int.mul_le_mul_of_nonneg_left h1 (show 0 ≤ step by omega)
        rw [Int.mul_add, Int.mul_one] at h2
        exact h2
      omega
    · intro z hz
      obtain ⟨i, hi, rfl⟩ := List.mem_map.mp hz
      have hi := List.mem_range.mp hi
      have : 0 ≤ step * (i : Int) := Int.mul_nonneg (by omega) (by omega)
      omega
    · intro z hz
      obtain ⟨i, hi, rfl⟩ := List.mem_map.mp hz
      have hi := List.mem_range.mp hi
      omega
theorem steps_c3 {D' : DEnds} {a b c : Int} {n m : Nat} {found : List (List Int)} {left first : Int} {sg : D} {q : Option D} (ha : 0 ≤ a) (hf : found.length ≤ 100) (m1 : 1 ≤ m) (m4 : m ≤ 4) (f1 : 1 ≤ first) (f2 : first ≤ 999999999999999999)
    (h : ∀ (row : List Int) (a' c' : Int) (q7 q8 : Option D), row.length = m → row ≠ [] → Rise row → 0 ≤ a' → D'.nx [some (boxD a' b c'), some (natD n), some (.int 999999999999999999), some (.mt ((found ++ [row]).map toD)), some (.int (left - m)), some sg, some (natD m), q7, q8, none]) :
    d__law_steps_c3 D' [some (boxD a b c), some (natD n), some (.int 999999999999999999), some (.mt (found.map toD)), some (.int left), some sg, some (natD m), some (.int first), q, none] := by
  have cm : ∀ v : Int, CMul v 90000000 := fun v => cmul_r (by omega) (by omega)
  have p9 : CPow 10 9 := cpow_c (by omega) (by omega) (by decide)
  have two : 2 ≤ sizeLine := by decide
  simp [d__law_steps_c3, p9]
  refine take_box ha (by omega) (by omega) fun v a1 c1 v0 v1 ha1 => ?_
  simp [putO, cm, two]
  refine take_box ha1 (by omega) (by omega) fun u a2 c2 u0 u1 ha2 => ?_
  have hu : u = 0 ∨ u = 1 := by omega
  rcases hu with rfl | rfl <;> simp [putO]
  · exact steps_c4 hf m1 m4 f1 f2 (by omega) (by omega) fun row g1 g2 g3 => h row _ _ _ _ g1 g2 g3 ha2
  · exact steps_c4 hf m1 m4 f1 f2 (by omega) (by omega) fun row g1 g2 g3 => h row _ _ _ _ g1 g2 g3 ha2
theorem steps_c2 {D' : DEnds} {a b c : Int} {n m : Nat} {found : List (List Int)} {left : Int} {sg : D} {q0 q : Option D} (ha : 0 ≤ a) (hf : found.length ≤ 100) (m1 : 1 ≤ m) (m4 : m ≤ 4)
    (h : ∀ (row : List Int) (a' c' : Int) (q7 q8 : Option D), row.length = m → row ≠ [] → Rise row → 0 ≤ a' → D'.nx [some (boxD a' b c'), some (natD n), some (.int 999999999999999999), some (.mt ((found ++ [row]).map toD)), some (.int (left - m)), some sg, some (natD m), q7, q8, none]) :
    d__law_steps_c2 D' [some (boxD a b c), some (natD n), some (.int 999999999999999999), some (.mt (found.map toD)), some (.int left), some sg, some (natD m), q0, q, none] := by
  have cm : ∀ v : Int, CMul v 900000000 := fun v => cmul_r (by omega) (by omega)
  have p9 : CPow 10 9 := cpow_c (by omega) (by omega) (by decide)
  have three : 3 ≤ sizeLine := by decide
  simp [d__law_steps_c2, p9]
  refine take_box ha (by omega) (by omega) fun v a1 c1 v0 v1 ha1 => ?_
  simp [putO, cm, three]
  refine take_box ha1 (by omega) (by omega) fun u a2 c2 u0 u1 ha2 => ?_
  simp [putO]
  refine take_box ha2 (by omega) (by omega) fun t a3 c3 t0 t1 ha3 => ?_
  have ht : t = 0 ∨ t = 1 ∨ t = 2 := by omega
  rcases ht with rfl | rfl | rfl <;> simp [putO]
  · exact steps_c3 ha3 hf m1 m4 (by omega) (by omega) h
  · exact steps_c3 ha3 hf m1 m4 (by omega) (by omega) h
  · exact steps_c3 ha3 hf m1 m4 (by omega) (by omega) h
theorem steps_c1 {R : D → List D → Prop} {a b c : Int} {n : Nat} {sg : Int} (ha : 0 ≤ a) (hn : n ≤ 10) (g0 : sg = 0 ∨ sg = 1)
    (h : ∀ (steps : List (List Int)) (a' c' : Int), wid steps = n → steps.length ≤ n → (∀ row ∈ steps, row ≠ [] ∧ Rise row) → 0 ≤ a' → R (.mt (steps.map toD)) [boxD a' b c']) :
    d__law_steps_c1 (endsD [0] R) [some (boxD a b c), some (natD n), some (.int 999999999999999999), some (.mt []), some (natD n), some (.int sg), none, none, none, none] := by
  simp [d__law_steps_c1, dWhile]
  refine ⟨fun k e => ∃ (found : List (List Int)) (a' c' : Int) (q6 q7 q8 : Option D), wid found + k = n ∧ found.length ≤ wid found ∧ (∀ row ∈ found, row ≠ [] ∧ Rise row) ∧ 0 ≤ a' ∧ e = [some (boxD a' b c'), some (natD n), some (.int 999999999999999999), some (.mt (found.map toD)), some (natD k), some (.int sg), q6, q7, q8, none],
    ⟨n, [], a, c, none, none, none, by simp [wid], by simp [wid], by simp, ha, by simp⟩, ?_⟩
  rintro k e ⟨found, a', c', q6, q7, q8, hk, hfl, hall, ha', rfl⟩
  have two : 2 ≤ sizeLine := by decide
  simp
  split
  · rename_i hk0
    have hmn : mnI 4 (k : Int) = ((min 4 k : Nat) : Int) := by rw [mnI_eq]; omega
    rw [hmn]
    refine take_box ha' (by omega) (by omega) fun v a1 c1 v0 v1 ha1 => ?_
    obtain ⟨v, rfl⟩ := nat_of v0
    have fin : ∀ m : Nat, 1 ≤ m → m ≤ 4 → m ≤ k → ∀ (row : List Int) (a' c' : Int) (q7 q8 : Option D), row.length = m → row ≠ [] → Rise row → 0 ≤ a' →
        ∃ m', m' < k ∧ ∃ fnd : List (List Int), wid fnd + m' = n ∧ fnd.length ≤ wid fnd ∧ (∀ row ∈ fnd, ¬ row = [] ∧ Rise row) ∧ ∃ x, 0 ≤ x ∧ ∃ x3 x4 x5 x6, [some (boxD a' b c'), some (natD n), some (D.int 999999999999999999), some (D.mt ((found ++ [row]).map toD)), some (.int ((k : Int) - m)), some (D.int sg), some (natD m), q7, q8, none] =
          [some (boxD x b x3), some (natD n), some (D.int 999999999999999999), some (D.mt (List.map toD fnd)), some (natD m'), some (D.int sg), x4, x5, x6, none] := by
      intro m m1 m4 mk row a' c' q7 q8 hl hne hr ha
      have ew := wid_snoc row found
      refine ⟨k - m, by omega, found ++ [row], by omega, by rw [List.length_append, List.length_singleton]; omega, ?_, a', ha, c', some (natD m), q7, q8, ?_⟩
      · intro r hr2
        rcases List.mem_append.mp hr2 with h1 | h1
        · exact hall r h1
        · rw [List.mem_singleton] at h1
          rw [h1]
          exact ⟨hne, hr⟩
      · show _ = [_, _, _, _, some (D.int ((k - m : Nat) : Int)), _, _, _, _, _]
        rw [show ((k - m : Nat) : Int) = (k : Int) - m by omega]
    have e1 : ((1 : Int) + (v : Nat)) = ((1 + v : Nat) : Int) := by omega
    rcases g0 with rfl | rfl <;> simp [putO, two]
    · rw [e1]
      exact steps_c2 ha1 (by omega) (by omega) (by omega) (fin (1 + v) (by omega) (by omega) (by omega))
    · exact steps_c2 (m := 1) ha1 (by omega) (by omega) (by omega) (fin 1 (by omega) (by omega) (by omega))
  · simp [rtD, outs]
    exact h found _ _ (by omega) (by omega) hall ha'
theorem spec__law_steps : ∀ ds R RX, sp__law_steps ds R RX → ds.length = 2 ∧ d__law_steps (endsD [0] R) (startE 10 ds) := by
  rintro _ R RX ⟨a, b, c, n, rfl, ha, hn, h⟩
  refine ⟨rfl, ?_⟩
  have p18 : CPow 10 18 := cpow_c (by omega) (by omega) (by decide)
  simp [d__law_steps, p18]
  refine take_box ha (by omega) (by omega) fun v a1 c1 v0 v1 ha1 => ?_
  simp [putO]
  exact steps_c1 ha1 hn (by omega) h
end DL

/-! ## M52d.lean -/
namespace DL
open PySem PySem.Spec PyProof.Rows L2
open Dat (toD)
def fitB (m x : Nat) : Bool := decide (m &&& x = x)
theorem bAndN (x y : Nat) : Builtin.bitAnd (x : Int) (y : Int) = ((x &&& y : Nat) : Int) := bAnd x y
theorem fitI (m y : Nat) : decide (((m &&& y : Nat) : Int) = (y : Int)) = fitB m y := by unfold fitB; simp [Int.natCast_inj]
theorem eqNilL (L : List Nat) : EqD (.lst (L.map natD)) (.mt []) (decide (L = [])) := by
  have := eqD_of (L.map fun n : Nat => (n : Int)) [] (by decide) (by show (List.all _ fun _ => true) = true; simp) rfl
  rw [toD_list, toD_list, List.map_map] at this
  have e : decide ((L.map fun n : Nat => (n : Int)) = []) = decide (L = []) := by simp
  rw [e] at this
  exact ⟨this.p1, this.p2, this.s1, this.s2, this.eq⟩
abbrev envC (S C Ru : D) (ha lb la hb : Bool) (at_ : Nat) (q8 q9 q10 q11 q12 q13 q14 : Option D) : Env := [some S, some C, some Ru, some (.bl ha), some (.bl lb), some (.bl la), some (.bl hb), some (natD at_), q8, q9, q10, q11, q12, q13, q14, none]
def d__law_can_c6 : DTS := (dAsg (dOp (oI0 fun i j => .int (i + j)) (dVar 7) (dCB cLen (dCons (dVar 8) dNil))) (gN [] 7))
def d__law_can_c5 : DTS := (dSeq (dAsg (dAndV (dVar 6) (dCB (cBools fun bs => bs.any id) (dCons (dLc (iL (dVar 10)) (gN [] 15) dYes (dOp (oEqS false) (dOp (oI0 fun i j => .int (Builtin.bitAnd i j)) (dVar 15) (dVar 13)) (dVar 13)) [15]) dNil))) (gN [] 6))
  d__law_can_c6)
def d__law_can_c4 : DTS := (dSeq (dAsg (dOrV (dVar 5) (dCB (cBools fun bs => bs.any id) (dCons (dLc (iL (dVar 10)) (gN [] 15) dYes (dOp (oEqS true) (dOp (oI0 fun i j => .int (Builtin.bitAnd i j)) (dVar 15) (dVar 12)) (dVar 12)) [15]) dNil))) (gN [] 5))
  d__law_can_c5)
def d__law_can_c3 : DTS := (dSeq (dAsg (dOrV (dVar 4) (dCB (cBools fun bs => bs.any id) (dCons (dLc (iL (dVar 14)) (gN [] 15) dYes (dOp (oEqS true) (dOp (oI0 fun i j => .int (Builtin.bitAnd i j)) (dVar 15) (dVar 13)) (dVar 13)) [15]) dNil))) (gN [] 4))
  d__law_can_c4)
def d__law_can_c2 : DTS := (dSeq (dAsg (dAndV (dVar 3) (dOp (oEqD true) (dVar 14) (dLst dNil))) (gN [] 3))
  d__law_can_c3)
def d__law_can_c1 : DTS := (dSeq (dAsgT 2 (dCons (dOp (oI0 fun i j => .int (Builtin.bitAnd i j)) (dOp oIxT (dVar 2) (dC (.int 0))) (dVar 11)) (dCons (dOp (oI0 fun i j => .int (Builtin.bitAnd i j)) (dOp oIxT (dVar 2) (dC (.int 1))) (dVar 11)) dNil)) (gsCons (gN [] 12) (gsCons (gN [] 13) gsNil)))
  (dSeq (dAsg (dFix [] (dLc (iL (dVar 10)) (gN [] 15) (dTest (dOp (oEqS false) (dOp (oI0 fun i j => .int (Builtin.bitAnd i j)) (dVar 15) (dVar 12)) (dVar 12))) (dVar 15) [15])) (gN [] 14))
  d__law_can_c2))
def d__law_can : DTS := (dSeq (dAsgT 4 (dCons (dC (.bl true)) (dCons (dC (.bl false)) (dCons (dC (.bl false)) (dCons (dC (.bl true)) dNil)))) (gsCons (gN [] 3) (gsCons (gN [] 4) (gsCons (gN [] 5) (gsCons (gN [] 6) gsNil)))))
  (dSeq (dAsg (dC (.int 0)) (gN [] 7))
  (dSeq (dFor (iZ (dCons (dVar 0) (dCons (dVar 1) dNil))) (gT 2 (gsCons (gN [] 8) (gsCons (gN [] 9) gsNil)))
  (dSeq (dAsg (dFix [] (dCall sp__law_ways [] (dCons (dVar 8) (dCons (dVar 9) (dCons (dVar 7) dNil))))) (gT 2 (gsCons (gN [] 10) (gsCons (gN [] 11) gsNil))))
  d__law_can_c1))
  (dRet (dTup (dCons (dAndV (dVar 3) (dVar 4)) (dCons (dOrV (dVar 5) (dVar 6)) dNil)))))))
def CanN (D' : DEnds) (S C Ru : D) (ha lb la hb : Bool) (at_ : Nat) : Prop := ∀ q8 q9 q10 q11 q12 q13 q14, D'.nx (envC S C Ru ha lb la hb at_ q8 q9 q10 q11 q12 q13 q14)
section
variable {D' : DEnds} {S C : D} {a b : Nat} {ha lb la hb : Bool} {at_ x y : Nat} {row : List Int} {W F : List Nat} {q9 q11 q14 : Option D}
theorem can_c6 {q10 q12 q13 : Option D} (h : CanN D' S C (.tup [natD a, natD b]) ha lb la hb (at_ + row.length)) : d__law_can_c6 D' (envC S C (.tup [natD a, natD b]) ha lb la hb at_ (some (toD row)) q9 q10 q11 q12 q13 q14) := by
  have e : ((at_ : Int) + row.length) = ((at_ + row.length : Nat) : Int) := by omega
  simp [d__law_can_c6, envC, toD]
  rw [e]
  exact h _ _ _ _ _ _ _
theorem can_c5 {q12 : Option D} (hW : W.length ≤ 200) (h : CanN D' S C (.tup [natD a, natD b]) ha lb la (hb && W.any fun m => fitB m y) (at_ + row.length)) :
    d__law_can_c5 D' (envC S C (.tup [natD a, natD b]) ha lb la hb at_ (some (toD row)) q9 (some (.lst (W.map natD))) q11 q12 (some (natD y)) q14) := by
  simp [d__law_can_c5, envC]
  cases hb with
  | false =>
    simp
    exact can_c6 (by simpa using h)
  | true =>
    simp
    refine lcD_map (h := fun m : Nat => D.bl (fitB m y)) (by simp) (le1000 (by omega)) (fun x hx => rfl) (fun m hm N hN => ?_) ?_
    · simp [scal, bAndN, dec_int, fitI]
      exact hN _ (by simp)
    · simp
      refine ⟨W.map fun m => fitB m y, by simp [Function.comp_def], ?_⟩
      have e : ((W.map fun m => fitB m y).any id) = W.any fun m => fitB m y := by simp [List.any_map, Function.comp_def]
      rw [e]
      exact can_c6 (by simpa using h)
theorem can_c4 (hW : W.length ≤ 200) (h : CanN D' S C (.tup [natD a, natD b]) ha lb (la || W.any fun m => !fitB m x) (hb && W.any fun m => fitB m y) (at_ + row.length)) :
    d__law_can_c4 D' (envC S C (.tup [natD a, natD b]) ha lb la hb at_ (some (toD row)) q9 (some (.lst (W.map natD))) q11 (some (natD x)) (some (natD y)) q14) := by
  cases la with
  | true =>
    simp [d__law_can_c4, envC]
    exact can_c5 hW (by simpa using h)
  | false =>
    simp [d__law_can_c4, envC]
    refine lcD_map (h := fun m : Nat => D.bl (!fitB m x)) (by simp) (le1000 (by omega)) (fun x hx => rfl) (fun m hm N hN => ?_) ?_
    · simp [scal, bAndN, dec_int]
      rw [fitI]
      exact hN _ (by simp)
    · simp
      refine ⟨W.map fun m => !fitB m x, by simp [Function.comp_def], ?_⟩
      have e : ((W.map fun m => !fitB m x).any id) = W.any fun m => !fitB m x := by simp [List.any_map, Function.comp_def]
      rw [e]
      exact can_c5 hW (by simpa using h)
theorem can_c3 (hW : W.length ≤ 200) (hF : F.length ≤ 200) (h : CanN D' S C (.tup [natD a, natD b]) ha (lb || F.any fun m => !fitB m y) (la || W.any fun m => !fitB m x) (hb && W.any fun m => fitB m y) (at_ + row.length)) :
    d__law_can_c3 D' (envC S C (.tup [natD a, natD b]) ha lb la hb at_ (some (toD row)) q9 (some (.lst (W.map natD))) q11 (some (natD x)) (some (natD y)) (some (.lst (F.map natD)))) := by
  cases lb with
  | true =>
    simp [d__law_can_c3, envC]
    exact can_c4 hW (by simpa using h)
  | false =>
    simp [d__law_can_c3, envC]
    refine lcD_map (h := fun m : Nat => D.bl (!fitB m y)) (by simp) (le1000 (by omega)) (fun x hx => rfl) (fun m hm N hN => ?_) ?_
    · simp [scal, bAndN, dec_int]
      rw [fitI]
      exact hN _ (by simp)
    · simp
      refine ⟨F.map fun m => !fitB m y, by simp [Function.comp_def], ?_⟩
      have e : ((F.map fun m => !fitB m y).any id) = F.any fun m => !fitB m y := by simp [List.any_map, Function.comp_def]
      rw [e]
      exact can_c4 hW (by simpa using h)
theorem can_c2 (hW : W.length ≤ 200) (hF : F.length ≤ 200) (h : CanN D' S C (.tup [natD a, natD b]) (ha && !decide (F = [])) (lb || F.any fun m => !fitB m y) (la || W.any fun m => !fitB m x) (hb && W.any fun m => fitB m y) (at_ + row.length)) :
    d__law_can_c2 D' (envC S C (.tup [natD a, natD b]) ha lb la hb at_ (some (toD row)) q9 (some (.lst (W.map natD))) q11 (some (natD x)) (some (natD y)) (some (.lst (F.map natD)))) := by
  cases ha with
  | false =>
    simp [d__law_can_c2, envC]
    exact can_c3 hW hF (by simpa using h)
  | true =>
    simp [d__law_can_c2, envC]
    by_cases hF0 : F = []
    · subst hF0
      refine .inr ⟨by simpa using eqNilL [], ?_⟩
      exact can_c3 hW hF (by simpa using h)
    · refine .inl ⟨by simpa [hF0] using eqNilL F, ?_⟩
      exact can_c3 hW hF (by simpa [hF0] using h)
theorem can_c1 {cols : Nat} {q12 q13 : Option D} (hW : W.length ≤ 200) (h : CanN D' S C (.tup [natD a, natD b]) (ha && !decide ((W.filter fun m => fitB m (a &&& cols)) = [])) (lb || (W.filter fun m => fitB m (a &&& cols)).any fun m => !fitB m (b &&& cols)) (la || W.any fun m => !fitB m (a &&& cols)) (hb && W.any fun m => fitB m (b &&& cols)) (at_ + row.length)) :
    d__law_can_c1 D' (envC S C (.tup [natD a, natD b]) ha lb la hb at_ (some (toD row)) q9 (some (.lst (W.map natD))) (some (natD cols)) q12 q13 q14) := by
  simp [d__law_can_c1, envC, bAndN]
  refine ⟨by decide, ?_⟩
  refine lcD_filter (h := natD) (p := fun m => fitB m (a &&& cols)) (by simp) (le1000 (by omega)) (fun x hx => rfl) (fun m hm M N h1 h2 => ?_) ?_
  · simp [scal, bAndN, dec_int]
    split
    · rename_i q
      exact h2 (by unfold fitB; simpa [Int.natCast_inj] using q) _ (by simp)
    · rename_i q
      exact h1 (by unfold fitB; simpa [Int.natCast_inj] using q) _ (by simp)
  · simp
    have hf := List.length_filter_le (fun m => fitB m (a &&& cols)) W
    exact can_c2 hW (by omega) h
end
abbrev CS := Bool × Bool × Bool × Bool × Nat
def canS (a b : Nat) (s : CS) (p : List Int × (Int × Int)) : CS :=
  let W := waysN p.1 p.2 s.2.2.2.2
  let c := colsN s.2.2.2.2 p.1.length
  (s.1 && !decide ((W.filter fun m => fitB m (a &&& c)) = []), s.2.1 || (W.filter fun m => fitB m (a &&& c)).any fun m => !fitB m (b &&& c), s.2.2.1 || W.any fun m => !fitB m (a &&& c), s.2.2.2.1 && W.any fun m => fitB m (b &&& c), s.2.2.2.2 + p.1.length)
def canF (a b : Nat) (steps : List (List Int)) (row : List (Int × Int)) : CS := (steps.zip row).foldl (canS a b) (true, false, false, true, 0)
def sp__law_can : DSp := fun ds R _ => ∃ (steps : List (List Int)) (row : List (Int × Int)) (a b : Nat), ds = [toD steps, toD row, .tup [natD a, natD b]] ∧ row.length = steps.length ∧ steps.length ≤ 100 ∧ wid steps ≤ 100 ∧
  R (.tup [.bl ((canF a b steps row).1 && (canF a b steps row).2.1), .bl ((canF a b steps row).2.2.1 || (canF a b steps row).2.2.2.1)]) []
theorem wid_mem : ∀ {l : List (List Int)} {row : List Int}, row ∈ l → row.length ≤ wid l
  | x :: l, row, h => by
    rw [wid]
    rcases List.mem_cons.mp h with rfl | h
    · omega
    · have := wid_mem h; omega
theorem zip_take_fst {steps : List (List Int)} {row : List (Int × Int)} (h : row.length = steps.length) (i : Nat) : ((steps.zip row).take i).map Prod.fst = steps.take i := by
  rw [List.map_take, List.map_fst_zip (by omega)]
theorem foldl_at (a b : Nat) : ∀ (l : List (List Int × (Int × Int))) (s : CS), (l.foldl (canS a b) s).2.2.2.2 = s.2.2.2.2 + wid (l.map Prod.fst)
  | [], s => by simp [wid]
  | p :: l, s => by
    rw [List.foldl_cons, foldl_at a b l, List.map_cons, wid]
    show s.2.2.2.2 + p.1.length + _ = _
    omega
theorem ways_len (row : List Int) (p : Int × Int) (k : Nat) : (waysN row p k).length ≤ row.length + 1 := by
  unfold waysN waysW
  rw [List.length_map, List.length_cons]
  have := List.length_filter_le (fun s : Int => decide (p.1 < s) && decide (s ≤ p.2)) row
  omega
theorem spec__law_can : ∀ ds R RX, sp__law_can ds R RX → ds.length = 3 ∧ d__law_can (endsD [] R) (startE 16 ds) := by
  rintro _ R RX ⟨steps, row, a, b, rfl, hr, hl, hw, h⟩
  refine ⟨rfl, ?_⟩
  have two : 2 ≤ sizeLine := by decide
  simp [d__law_can, toD]
  refine ⟨by decide, ?_⟩
  rw [zipD_eq]
  refine forD_of (fun i e => ∃ (s : CS) (q8 q9 q10 q11 q12 q13 q14 : Option D), ((steps.zip row).take i).foldl (canS a b) (true, false, false, true, 0) = s ∧ e = envC (D.lst (List.map (fun xs => D.lst (List.map D.int xs)) steps)) (D.lst (List.map (fun p => D.tup [D.int p.fst, D.int p.snd]) row)) (D.tup [natD a, natD b]) s.1 s.2.1 s.2.2.1 s.2.2.2.1 s.2.2.2.2 q8 q9 q10 q11 q12 q13 q14)
    ⟨_, _, _, _, _, _, _, _, by simp; rfl, rfl⟩ ?_ ?_
  · rintro i p e N hp ⟨s, q8, q9, q10, q11, q12, q13, q14, hs, rfl⟩ hN
    obtain ⟨hp1, hp2⟩ := List.getElem?_zip_eq_some.mp hp
    have hat := foldl_at a b ((steps.zip row).take i) (true, false, false, true, 0)
    rw [hs, zip_take_fst hr] at hat
    have hat : s.2.2.2.2 = wid (steps.take i) := by simpa using hat
    have hwt := wid_at hp1
    have hwl := ways_len p.1 p.2 s.2.2.2.2
    refine ⟨trivial, ?_⟩
    simp [envC]
    refine ⟨p.1, p.2, s.2.2.2.2, by simp [toD], by omega, by omega, ?_⟩
    simp
    refine can_c1 (by omega) ?_
    intro r8 r9 r10 r11 r12 r13 r14
    refine hN _ ⟨canS a b s p, r8, r9, r10, r11, r12, r13, r14, ?_, rfl⟩
    rw [take_snoc hp, List.foldl_append, hs]
    rfl
  · rintro e ⟨s, q8, q9, q10, q11, q12, q13, q14, hs, rfl⟩
    rw [List.take_length] at hs
    refine ⟨trivial, ?_⟩
    have hs : canF a b steps row = s := hs
    rw [hs] at h
    obtain ⟨s1, s2, s3, s4, s5⟩ := s
    simp [envC, two]
    cases s1 <;> cases s2 <;> cases s3 <;> cases s4 <;> simpa using h
end DL

/-! ## M52e.lean -/
namespace DL
open PySem PySem.Spec PyProof.Rows L2
open Dat (toD)
theorem colm_lt : ∀ (l : List (List Int)) (ws : List Int) (k m : Nat), m < 2 ^ k → colm l ws k m < 2 ^ (k + wid l)
  | [], _, k, m, h => by simpa [colm, wid] using h
  | row :: l, [], k, m, h => by
    rw [colm]
    exact Nat.lt_of_lt_of_le h (Nat.pow_le_pow_right (by omega) (by omega))
    all_goals simp
  | row :: l, w :: ws, k, m, h => by
    rw [colm, wid]
    have := colm_lt l ws (k + row.length) _ (rowm_add w row k m h).2
    rwa [show k + (row.length + wid l) = k + row.length + wid l by omega]
theorem rowm_plus (w : Int) (row : List Int) {k m : Nat} (h : m < 2 ^ k) : rowm w row k m = m + rowm w row k 0 := by
  have h1 := (rowm_add w row k m h).1
  have h2 := (rowm_add w row k 0 (Nat.two_pow_pos _)).1
  omega
def d_spread : DTS := (dSeq (dAsg (dC (.int 0)) (gN [] 2))
  (dSeq (dAsg (dC (.int 0)) (gN [] 3))
  (dSeq (dFor (iE (dCons (dVar 0) dNil)) (gT 2 (gsCons (gN [] 4) (gsCons (gN [] 5) gsNil)))
  (dFor (iL (dVar 5)) (gN [] 6)
  (dSeq (dIfS (dTest (dOp (oI0 fun i j => .bl (decide (j ≤ i))) (dOp oIxL (dVar 1) (dVar 4)) (dVar 6))) (dAug [] 2 (oI0 fun i j => .int (Builtin.bitOr i j)) (dOp (oI CPow fun i j => .int (i * 2 ^ j.toNat)) (dC (.int 1)) (dVar 3))) dNext)
  (dAug [] 3 (oI0 fun i j => .int (i + j)) (dC (.int 1))))))
  (dRet (dVar 2)))))
def sp_spread : DSp := fun ds R _ => ∃ (steps : List (List Int)) (ws : List Int), ds = [toD steps, toD ws] ∧ ws.length = steps.length ∧ steps.length ≤ 100 ∧ wid steps ≤ 1000 ∧ R (.int (colm steps ws 0 0 : Nat)) []
theorem spec_spread : ∀ ds R RX, sp_spread ds R RX → ds.length = 2 ∧ d_spread (endsD [] R) (startE 7 ds) := by
  rintro _ R RX ⟨steps, ws, rfl, hw, hl, hwid, h⟩
  refine ⟨rfl, ?_⟩
  simp [d_spread, toD]
  refine forD_enum (fun i e => ∃ a b c, e = [some (D.lst (List.map (fun xs => D.lst (List.map D.int xs)) steps)), some (D.lst (ws.map D.int)), some (D.int (colm (steps.take i) (ws.take i) 0 0 : Nat)), some (D.int (wid (steps.take i) : Nat)), a, b, c]) ⟨_, _, _, rfl⟩ ?_ ?_
  · rintro i row e N hS ⟨a, b, c, rfl⟩ hN
    have hi : i < steps.length := (List.getElem?_eq_some_iff.mp hS).1
    have hW : ws[i]? = some ws[i] := List.getElem?_eq_getElem (by omega)
    have hb := wid_at hS
    simp
    refine forD_of (fun j e => ∃ b, e = [some (D.lst (List.map (fun xs => D.lst (List.map D.int xs)) steps)), some (D.lst (ws.map D.int)), some (D.int (rowm ws[i] (row.take j) (wid (steps.take i)) (colm (steps.take i) (ws.take i) 0 0) : Nat)), some (D.int ((wid (steps.take i) + j : Nat) : Int)), some (.int i), some (.lst (row.map D.int)), b]) ⟨c, by simp [rowm]⟩ ?_ ?_
    · rintro j s e N hj ⟨b, rfl⟩ hN
      have hlt : j < row.length := (List.getElem?_eq_some_iff.mp hj).1
      have e1 := rowm_snoc ws[i] s (row.take j) (wid (steps.take i)) (colm (steps.take i) (ws.take i) 0 0)
      rw [← take_snoc hj, List.length_take, Nat.min_eq_left (Nat.le_of_lt hlt)] at e1
      have cp : CPow 1 ((wid (steps.take i) + j : Nat) : Int) := cpow_c (by omega) (by omega) (by decide)
      have eb : Builtin.bitOr ((rowm ws[i] (row.take j) (wid (steps.take i)) (colm (steps.take i) (ws.take i) 0 0) : Nat) : Int) (2 ^ (wid (steps.take i) + j)) = ((rowm ws[i] (row.take j) (wid (steps.take i)) (colm (steps.take i) (ws.take i) 0 0) ||| 2 ^ (wid (steps.take i) + j) : Nat) : Int) := by
        rw [show (2 : Int) ^ (wid (steps.take i) + j) = ((2 ^ (wid (steps.take i) + j) : Nat) : Int) by simp, bOr]
      simp [atI_at hW]
      split
      · rename_i hc
        rw [if_pos hc] at e1
        simp at cp
        refine ⟨cp, ?_⟩
        rw [eb]
        exact hN _ (by rw [e1]; simp; omega)
      · rename_i hc
        rw [if_neg hc] at e1
        exact hN _ (by rw [e1]; simp; omega)
    · rintro e ⟨b, rfl⟩
      have e1 := colm_snoc row ws[i] (steps.take i) (ws.take i) 0 0 (by simp; omega)
      rw [← take_snoc hS, ← take_snoc hW, Nat.zero_add] at e1
      have e2 := wid_snoc row (steps.take i)
      rw [← take_snoc hS] at e2
      simp
      exact hN _ (by rw [e1, e2]; simp)
  · rintro e ⟨a, b, c, rfl⟩
    rw [List.take_length, ← hw, List.take_length]
    simpa using h
def d__law_filling_c4 : DTS := (dIfS (dTest (dOp (oEqS true) (dCall sp_spread [] (dCons (dVar 0) (dCons (dFix [] (dCB cList (dCons (dVar 6) dNil))) dNil))) (dVar 7))) (dRet (dC .non)) dNext)
def d__law_filling_c3 : DTS := (dSeq (dIfS (dAnd (dTest (dOp (oEqS false) (dOp (oI0 fun i j => .int (Builtin.bitAnd i j)) (dVar 7) (dOp oIxT (dVar 2) (dC (.int 0)))) (dOp oIxT (dVar 2) (dC (.int 0))))) (dTest (dOp (oEqS true) (dOp (oI0 fun i j => .int (Builtin.bitAnd i j)) (dVar 7) (dOp oIxT (dVar 2) (dC (.int 1)))) (dOp oIxT (dVar 2) (dC (.int 1)))))) (dAsg (dC (.bl false)) (gN [] 4)) dNext)
  d__law_filling_c4)
def d__law_filling_c2 : DTS := (dSeq (dAsgT 2 (dCons (dC (.int 0)) (dCons (dC (.int 0)) dNil)) (gsCons (gN [] 7) (gsCons (gN [] 8) gsNil)))
  (dSeq (dFor (iZ3 (dCons (dVar 0) (dCons (dVar 5) (dCons (dVar 6) dNil)))) (gT 3 (gsCons (gN [] 9) (gsCons (gN [] 10) (gsCons (gN [] 11) gsNil))))
  (dSeq (dIfS (dOr (dNot (dTest (dCB cIsi (dCons (dVar 11) (dCons (dC (.ty "int")) dNil))))) (dOr (dTest (dCB cIsi (dCons (dVar 11) (dCons (dC (.ty "bool")) dNil)))) (dNot (dTest (dChn (oI0 fun i j => .bl (decide (i ≤ j))) (oI0 fun i j => .bl (decide (i ≤ j))) (dOp oIxT (dVar 10) (dC (.int 0))) (dVar 11) (dOp oIxT (dVar 10) (dC (.int 1)))))))) (dRet (dC .non)) dNext)
  (dSeq (dAsg (dOp (oI0 fun i j => .int (i + j)) (dVar 7) (dCall sp__law_reached [] (dCons (dVar 9) (dCons (dVar 11) (dCons (dVar 8) dNil))))) (gN [] 7))
  (dAsg (dOp (oI0 fun i j => .int (i + j)) (dVar 8) (dCB cLen (dCons (dVar 9) dNil))) (gN [] 8)))))
  d__law_filling_c3))
def d__law_filling_c1 : DTS := (dSeq (dFor (iZ (dCons (dVar 1) (dCons (dVar 3) dNil))) (gT 2 (gsCons (gN [] 5) (gsCons (gN [] 6) gsNil)))
  (dSeq (dIfS (dOr (dNot (dTest (dCB cIsi (dCons (dVar 6) (dCons (dC (.ty "list")) dNil))))) (dTest (dOp (oEqS true) (dCB cLen (dCons (dVar 6) dNil)) (dCB cLen (dCons (dVar 5) dNil))))) (dRet (dC .non)) dNext)
  d__law_filling_c2))
  (dRet (dVar 4)))
def d__law_filling : DTS := (dSeq (dIfS (dOr (dNot (dTest (dCB cIsi (dCons (dVar 3) (dCons (dC (.ty "list")) dNil))))) (dTest (dOp (oEqS true) (dCB cLen (dCons (dVar 3) dNil)) (dCB cLen (dCons (dVar 1) dNil))))) (dRet (dC .non)) dNext)
  (dSeq (dAsg (dC (.bl true)) (gN [] 4))
  d__law_filling_c1))
def sp__law_filling : DSp := fun ds R _ => ∃ (steps : List (List Int)) (cells : List (List (Int × Int))) (a b : Nat) (f : List (List Int)), ds = [toD steps, toD cells, .tup [natD a, natD b], toD f] ∧ StepsOk steps ∧ wid steps ≤ 100 ∧ CellsOk steps cells ∧ InCells cells f ∧
  R (.bl (!(f.any fun ws => brk (colm steps ws 0 0) a b))) []
section
variable {D' : DEnds} {steps : List (List Int)} {a b : Nat} {S C Fl : D} {right : Bool} {row : List (Int × Int)} {ws : List Int} {q9 q10 q11 : Option D}
theorem fill_c4 (hs : StepsOk steps) (hw : wid steps ≤ 100) (hl : ws.length = steps.length) {q5 : Option D} {q8 : Option D}
    (h : ∀ q5 q6 q7 q8 q9 q10 q11, D'.nx [some (toD steps), some C, some (.tup [natD a, natD b]), some Fl, some (.bl right), q5, q6, q7, q8, q9, q10, q11]) :
    d__law_filling_c4 D' [some (toD steps), some C, some (.tup [natD a, natD b]), some Fl, some (.bl right), q5, some (toD ws), some (natD (colm steps ws 0 0)), q8, q9, q10, q11] := by
  simp [d__law_filling_c4, toD]
  refine ⟨steps, ws, by simp [toD], hl, hs.many, by omega, ?_⟩
  simp [scal]
  exact h _ _ _ _ _ _ _
theorem fill_c3 (hs : StepsOk steps) (hw : wid steps ≤ 100) (hl : ws.length = steps.length) {q5 : Option D} {q8 : Option D}
    (h : ∀ q5 q6 q7 q8 q9 q10 q11, D'.nx [some (toD steps), some C, some (.tup [natD a, natD b]), some Fl, some (.bl (right && !brk (colm steps ws 0 0) a b)), q5, q6, q7, q8, q9, q10, q11]) :
    d__law_filling_c3 D' [some (toD steps), some C, some (.tup [natD a, natD b]), some Fl, some (.bl right), q5, some (toD ws), some (natD (colm steps ws 0 0)), q8, q9, q10, q11] := by
  have eb : brk (colm steps ws 0 0) a b = (fitB (colm steps ws 0 0) a && !fitB (colm steps ws 0 0) b) := by
    unfold brk fitB
    rw [Nat.and_comm a, Nat.and_comm b]
  rw [eb] at h
  simp [d__law_filling_c3, bAndN, scal, dec_int, Int.natCast_inj]
  by_cases h1 : colm steps ws 0 0 &&& a = a
  · rw [if_pos h1]
    by_cases h2 : colm steps ws 0 0 &&& b = b
    · exact .inl ⟨h2, fill_c4 hs hw hl (by simpa [fitB, h1, h2] using h)⟩
    · exact .inr ⟨h2, fill_c4 hs hw hl (by simpa [fitB, h1, h2] using h)⟩
  · rw [if_neg h1]
    exact fill_c4 hs hw hl (by simpa [fitB, h1] using h)
theorem fill_c2 (hs : StepsOk steps) (hw : wid steps ≤ 100) (hr : row.length = steps.length) (hi : RowIn row ws) {q7 q8 : Option D}
    (h : ∀ q5 q6 q7 q8 q9 q10 q11, D'.nx [some (toD steps), some C, some (.tup [natD a, natD b]), some Fl, some (.bl (right && !brk (colm steps ws 0 0) a b)), q5, q6, q7, q8, q9, q10, q11]) :
    d__law_filling_c2 D' [some (toD steps), some C, some (.tup [natD a, natD b]), some Fl, some (.bl right), some (toD row), some (toD ws), q7, q8, q9, q10, q11] := by
  have hwl : ws.length = steps.length := by rw [hi.1, hr]
  simp [d__law_filling_c2, toD]
  refine ⟨by decide, ?_⟩
  refine forD_zip3 (f := fun xs : List Int => D.lst (xs.map D.int)) (f' := fun p : Int × Int => D.tup [D.int p.fst, D.int p.snd]) (f'' := D.int) (fun i e => ∃ q9 q10 q11, e = [some (toD steps), some C, some (.tup [natD a, natD b]), some Fl, some (.bl right), some (toD row), some (toD ws), some (natD (colm (steps.take i) (ws.take i) 0 0)), some (natD (wid (steps.take i))), q9, q10, q11]) ⟨q9, q10, q11, by simp [toD, colm, wid]⟩ ?_ ?_
  · rintro i st c w e N h1 h2 h3 ⟨r9, r10, r11, rfl⟩ hN
    obtain ⟨g1, g2⟩ := hi.2 i w c h3 h2
    have hb := wid_at h1
    refine ⟨trivial, ?_⟩
    simp [isT, tyNs]
    rw [if_pos g1, if_pos g2]
    have hwlt := colm_lt (steps.take i) (ws.take i) 0 0 (by simp)
    rw [Nat.zero_add] at hwlt
    have e1 := colm_snoc st w (steps.take i) (ws.take i) 0 0 (by simp; omega)
    rw [← take_snoc h1, ← take_snoc h3, Nat.zero_add, rowm_plus w st hwlt] at e1
    have e2 := wid_snoc st (steps.take i)
    rw [← take_snoc h1] at e2
    have hrl := hs.rise st (List.mem_of_getElem? h1)
    refine ⟨st, w, wid (steps.take i), by simp [toD], by omega, by omega, ?_⟩
    simp
    refine hN _ ⟨some (.lst (st.map D.int)), some (.tup [.int c.1, .int c.2]), some (.int w), ?_⟩
    rw [e1, e2]
    simp
  · rintro e ⟨q9, q10, q11, rfl⟩
    have hm : min steps.length (min row.length ws.length) = steps.length := by omega
    rw [hm, List.take_length, ← hwl, List.take_length]
    exact ⟨trivial, fill_c3 hs hw hwl h⟩
end
theorem spec__law_filling : ∀ ds R RX, sp__law_filling ds R RX → ds.length = 4 ∧ d__law_filling (endsD [] R) (startE 12 ds) := by
  rintro _ R RX ⟨steps, cells, a, b, f, rfl, hs, hw, hc, hi, h⟩
  refine ⟨rfl, ?_⟩
  have hfl := hi.len
  simp [d__law_filling, toD, isT, tyNs, dec_int, scal, hfl]
  simp [d__law_filling_c1]
  refine forD_zip (f := fun xs : List (Int × Int) => D.lst (xs.map fun p => D.tup [D.int p.fst, D.int p.snd])) (f' := fun xs : List Int => D.lst (xs.map D.int)) (fun i e => ∃ q5 q6 q7 q8 q9 q10 q11, e = [some (toD steps), some (toD cells), some (.tup [natD a, natD b]), some (toD f), some (.bl (!((f.take i).any fun ws => brk (colm steps ws 0 0) a b))), q5, q6, q7, q8, q9, q10, q11]) ⟨_, _, _, _, _, _, _, by simp [toD]; rfl⟩ ?_ ?_
  · rintro i row ws e N h1 h2 ⟨q5, q6, q7, q8, q9, q10, q11, rfl⟩ hN
    have ri := hi.row i ws row h2 h1
    have hr := (hc.row row (List.mem_of_getElem? h1)).1
    refine ⟨trivial, ?_⟩
    simp [isT, tyNs, dec_int, scal, ri.1]
    refine fill_c2 hs hw hr ri ?_
    intro r5 r6 r7 r8 r9 r10 r11
    refine hN _ ⟨r5, r6, r7, r8, r9, r10, r11, ?_⟩
    rw [take_snoc h2, List.any_append]
    simp
  · rintro e ⟨q5, q6, q7, q8, q9, q10, q11, rfl⟩
    have hm : min cells.length f.length = f.length := by omega
    rw [hm, List.take_length]
    refine ⟨trivial, ?_⟩
    simp
    simpa using h
end DL

/-! ## M52f.lean -/
namespace DL
open PySem PySem.Spec PyProof.Rows L2
open Dat (toD)
/-! ### what a thing can do, trait by trait -/
theorem colsN_bit (k n j : Nat) : (colsN k n).testBit j = (decide (k ≤ j) && decide (j < k + n)) := by
  have e : colsN k n = (2 ^ n - 1) <<< k := by
    rw [Nat.shiftLeft_eq, Nat.sub_mul, Nat.one_mul, ← Nat.pow_add, Nat.add_comm n k]
  rw [e, Nat.testBit_shiftLeft, Nat.testBit_two_pow_sub_one, Bool.eq_iff_iff]
  simp
  omega
def FitL (x k n m : Nat) : Prop := ∀ j, k ≤ j → j < k + n → x.testBit j = true → m.testBit j = true
theorem fitB_iff (x k n m : Nat) : fitB m (x &&& colsN k n) = true ↔ FitL x k n m := by
  unfold fitB FitL
  rw [decide_eq_true_eq, Nat.and_comm, and_eq_iff]
  constructor
  · intro h j h1 h2 h3
    exact h j (by rw [Nat.testBit_and, colsN_bit, h3]; simp [h1, h2])
  · intro h j hj
    rw [Nat.testBit_and, colsN_bit] at hj
    simp at hj
    exact h j hj.2.1 hj.2.2 hj.1
theorem ways_any {st : List Int} {c : Int × Int} (hp : st.Pairwise (· < ·)) (hc : c.1 ≤ c.2) (k : Nat) (P : Nat → Bool) : (waysN st c k).any P = true ↔ ∃ w, c.1 ≤ w ∧ w ≤ c.2 ∧ P (rowm w st k 0) = true := by
  unfold waysN
  rw [List.any_map, List.any_eq_true]
  constructor
  · rintro ⟨w, hw, h⟩
    unfold waysW at hw
    rcases List.mem_cons.mp hw with rfl | hw
    · exact ⟨_, Int.le_refl _, hc, h⟩
    · have := (List.mem_filter.mp hw).2
      simp at this
      exact ⟨w, by omega, this.2, h⟩
  · rintro ⟨w, h1, h2, h⟩
    obtain ⟨n, hn⟩ := cnt_ex w hp
    have low : Cnt st c.1 n → ∃ x ∈ waysW st c, (P ∘ fun w => rowm w st k 0) x = true := fun hc1 => ⟨c.1, List.mem_cons_self .., by
      show P (rowm c.1 st k 0) = true
      rw [rowm_cnt hc1, ← rowm_cnt hn]; exact h⟩
    by_cases n0 : n = 0
    · subst n0
      refine low ⟨Nat.zero_le _, fun i s hs => ?_⟩
      have := hn.2 i s hs
      omega
    · have hlt : n - 1 < st.length := by have := hn.1; omega
      have hs := List.getElem?_eq_getElem hlt
      have hle : st[n - 1] ≤ w := (hn.2 _ _ hs).mpr (by omega)
      by_cases q : c.1 < st[n - 1]
      · refine ⟨st[n - 1], List.mem_cons_of_mem _ (List.mem_filter.mpr ⟨List.getElem_mem hlt, by simp; omega⟩), ?_⟩
        have hc1 : Cnt st st[n - 1] n := ⟨hn.1, fun i s hi => by
          constructor
          · intro g
            exact (hn.2 i s hi).mp (by omega)
          · intro g
            exact rise_le hp hi hs (by omega)⟩
        show P (rowm st[n - 1] st k 0) = true
        rw [rowm_cnt hc1, ← rowm_cnt hn]; exact h
      · refine low ⟨hn.1, fun i s hi => ?_⟩
        constructor
        · intro g
          exact (hn.2 i s hi).mp (by omega)
        · intro g
          have := rise_le hp hi hs (by omega)
          omega
abbrev PL := List (List Int × (Int × Int))
def InW (c : Int × Int) (w : Int) : Prop := c.1 ≤ w ∧ w ≤ c.2
def HA (x : Nat) : PL → Nat → Prop
  | [], _ => True
  | p :: l, k => (∃ w, InW p.2 w ∧ FitL x k p.1.length (rowm w p.1 k 0)) ∧ HA x l (k + p.1.length)
def LB (a b : Nat) : PL → Nat → Prop
  | [], _ => False
  | p :: l, k => (∃ w, InW p.2 w ∧ FitL a k p.1.length (rowm w p.1 k 0) ∧ ¬ FitL b k p.1.length (rowm w p.1 k 0)) ∨ LB a b l (k + p.1.length)
def LA (a : Nat) : PL → Nat → Prop
  | [], _ => False
  | p :: l, k => (∃ w, InW p.2 w ∧ ¬ FitL a k p.1.length (rowm w p.1 k 0)) ∨ LA a l (k + p.1.length)
def PLok (l : PL) : Prop := ∀ p ∈ l, p.1.Pairwise (· < ·) ∧ p.2.1 ≤ p.2.2
theorem fold_can (a b : Nat) : ∀ (l : PL) (s : CS), PLok l → (((l.foldl (canS a b) s).1 = true ↔ s.1 = true ∧ HA a l s.2.2.2.2) ∧ ((l.foldl (canS a b) s).2.1 = true ↔ s.2.1 = true ∨ LB a b l s.2.2.2.2) ∧
    ((l.foldl (canS a b) s).2.2.1 = true ↔ s.2.2.1 = true ∨ LA a l s.2.2.2.2) ∧ ((l.foldl (canS a b) s).2.2.2.1 = true ↔ s.2.2.2.1 = true ∧ HA b l s.2.2.2.2))
  | [], s, _ => by simp [HA, LB, LA]
  | p :: l, s, h => by
    obtain ⟨hp, hc⟩ := h p (List.mem_cons_self ..)
    obtain ⟨g1, g2, g3, g4⟩ := fold_can a b l (canS a b s p) fun q hq => h q (List.mem_cons_of_mem _ hq)
    rw [List.foldl_cons, g1, g2, g3, g4]
    have k1 : (!decide ((waysN p.1 p.2 s.2.2.2.2).filter (fun m => fitB m (a &&& colsN s.2.2.2.2 p.1.length)) = [])) = (waysN p.1 p.2 s.2.2.2.2).any (fun m => fitB m (a &&& colsN s.2.2.2.2 p.1.length)) := by
      rw [Bool.eq_iff_iff]
      simp [List.filter_eq_nil_iff]
    have k2 : ((waysN p.1 p.2 s.2.2.2.2).filter (fun m => fitB m (a &&& colsN s.2.2.2.2 p.1.length))).any (fun m => !fitB m (b &&& colsN s.2.2.2.2 p.1.length)) = (waysN p.1 p.2 s.2.2.2.2).any (fun m => fitB m (a &&& colsN s.2.2.2.2 p.1.length) && !fitB m (b &&& colsN s.2.2.2.2 p.1.length)) := by
      rw [List.any_filter]
    have nf : ∀ x m, (!fitB m (x &&& colsN s.2.2.2.2 p.1.length)) = true ↔ ¬ FitL x s.2.2.2.2 p.1.length m := fun x m => by
      rw [← fitB_iff]; simp
    show (((s.1 && !decide ((waysN p.1 p.2 s.2.2.2.2).filter (fun m => fitB m (a &&& colsN s.2.2.2.2 p.1.length)) = [])) = true ∧ HA a l (s.2.2.2.2 + p.1.length)) ↔ _) ∧ (((s.2.1 || ((waysN p.1 p.2 s.2.2.2.2).filter (fun m => fitB m (a &&& colsN s.2.2.2.2 p.1.length))).any (fun m => !fitB m (b &&& colsN s.2.2.2.2 p.1.length))) = true ∨ LB a b l (s.2.2.2.2 + p.1.length)) ↔ _) ∧
      (((s.2.2.1 || (waysN p.1 p.2 s.2.2.2.2).any fun m => !fitB m (a &&& colsN s.2.2.2.2 p.1.length)) = true ∨ LA a l (s.2.2.2.2 + p.1.length)) ↔ _) ∧ (((s.2.2.2.1 && (waysN p.1 p.2 s.2.2.2.2).any fun m => fitB m (b &&& colsN s.2.2.2.2 p.1.length)) = true ∧ HA b l (s.2.2.2.2 + p.1.length)) ↔ _)
    rw [k1, k2, Bool.and_eq_true, Bool.or_eq_true, Bool.or_eq_true, Bool.and_eq_true, ways_any hp hc, ways_any hp hc, ways_any hp hc, ways_any hp hc]
    simp only [Bool.and_eq_true, nf, fitB_iff, HA, LB, LA, InW, and_assoc, or_assoc, and_self]
theorem colm_or (l : List (List Int)) (ws : List Int) (k m : Nat) : colm l ws k m = m ||| colm l ws k 0 := by
  apply Nat.eq_of_testBit_eq
  intro j
  rw [Bool.eq_iff_iff, colm_bit, Nat.testBit_or, Bool.or_eq_true, colm_bit]
  simp
theorem hitC_geq : ∀ {l : List (List Int)} {ws : List Int} {k j : Nat}, hitC l ws k j → k ≤ j
  | [], _, _, _, h => by simp [hitC] at h
  | _ :: _, [], _, _, h => by simp [hitC] at h
  | row :: r, w :: ws, k, j, h => by
    rw [hitC] at h
    rcases h with h | h
    · obtain ⟨i, s, _, e, _⟩ := hitR_iff.mp h
      omega
    · have := hitC_geq h
      omega
theorem fit_cons (x : Nat) (st : List Int) (w : Int) (S : List (List Int)) (ws : List Int) (k : Nat) : FitL x k (wid (st :: S)) (colm (st :: S) (w :: ws) k 0) ↔ (FitL x k st.length (rowm w st k 0) ∧ FitL x (k + st.length) (wid S) (colm S ws (k + st.length) 0)) := by
  rw [colm, colm_or, wid]
  have hu := (rowm_add w st k 0 (Nat.two_pow_pos _)).2
  constructor
  · intro h
    refine ⟨fun j h1 h2 h3 => ?_, fun j h1 h2 h3 => ?_⟩
    · have := h j h1 (by omega) h3
      rw [Nat.testBit_or, Bool.or_eq_true] at this
      rcases this with g | g
      · exact g
      · rw [colm_bit] at g
        simp at g
        have := hitC_geq g
        omega
    · have := h j (by omega) (by omega) h3
      rw [Nat.testBit_or, Bool.or_eq_true] at this
      rcases this with g | g
      · rw [Nat.testBit_lt_two_pow (Nat.lt_of_lt_of_le hu (Nat.pow_le_pow_right (by omega) h1))] at g
        cases g
      · exact g
  · rintro ⟨h1, h2⟩ j g1 g2 g3
    rw [Nat.testBit_or, Bool.or_eq_true]
    by_cases q : j < k + st.length
    · exact .inl (h1 j g1 q g3)
    · exact .inr (h2 j (by omega) (by omega) g3)
abbrev col (l : PL) (ws : List Int) (k : Nat) : Nat := colm (l.map Prod.fst) ws k 0
abbrev Ws (l : PL) (ws : List Int) : Prop := RI (l.map Prod.snd) ws
theorem ha_iff (x : Nat) : ∀ (l : PL) (k : Nat), HA x l k ↔ ∃ ws, Ws l ws ∧ FitL x k (wid (l.map Prod.fst)) (col l ws k)
  | [], k => by
    refine ⟨fun _ => ⟨[], trivial, fun j h1 h2 => ?_⟩, fun _ => trivial⟩
    simp [wid] at h2
    omega
  | p :: l, k => by
    rw [HA, ha_iff x l]
    constructor
    · rintro ⟨⟨w, h1, h2⟩, ws, h3, h4⟩
      exact ⟨w :: ws, ⟨h1, h3⟩, (fit_cons ..).mpr ⟨h2, h4⟩⟩
    · rintro ⟨ws, h1, h2⟩
      cases ws with
      | nil => exact h1.elim
      | cons w ws =>
        obtain ⟨g1, g2⟩ := (fit_cons ..).mp h2
        exact ⟨⟨w, h1.1, g1⟩, ws, h1.2, g2⟩
theorem ws_ex : ∀ {l : PL}, PLok l → ∃ ws, Ws l ws
  | [], _ => ⟨[], trivial⟩
  | p :: l, h => by
    obtain ⟨ws, hw⟩ := ws_ex (l := l) fun q hq => h q (List.mem_cons_of_mem _ hq)
    exact ⟨p.2.1 :: ws, ⟨Int.le_refl _, (h p (List.mem_cons_self ..)).2⟩, hw⟩
theorem lb_iff (a b : Nat) : ∀ (l : PL) (k : Nat), (HA a l k ∧ LB a b l k) ↔ ∃ ws, Ws l ws ∧ FitL a k (wid (l.map Prod.fst)) (col l ws k) ∧ ¬ FitL b k (wid (l.map Prod.fst)) (col l ws k)
  | [], k => by
    refine ⟨fun h => h.2.elim, fun ⟨ws, h1, h2, h3⟩ => absurd (fun j h1 h2 => ?_) h3⟩
    simp [wid] at h2
    omega
  | p :: l, k => by
    constructor
    · rintro ⟨⟨⟨w, h1, h2⟩, h3⟩, h4⟩
      rcases h4 with ⟨v, g1, g2, g3⟩ | h4
      · obtain ⟨ws, k1, k2⟩ := (ha_iff a l _).mp h3
        exact ⟨v :: ws, ⟨g1, k1⟩, (fit_cons ..).mpr ⟨g2, k2⟩, fun q => g3 ((fit_cons ..).mp q).1⟩
      · obtain ⟨ws, k1, k2, k3⟩ := (lb_iff a b l _).mp ⟨h3, h4⟩
        exact ⟨w :: ws, ⟨h1, k1⟩, (fit_cons ..).mpr ⟨h2, k2⟩, fun q => k3 ((fit_cons ..).mp q).2⟩
    · rintro ⟨ws, h1, h2, h3⟩
      cases ws with
      | nil => exact h1.elim
      | cons w ws =>
        obtain ⟨g1, g2⟩ := (fit_cons ..).mp h2
        refine ⟨⟨⟨w, h1.1, g1⟩, (ha_iff a l _).mpr ⟨ws, h1.2, g2⟩⟩, ?_⟩
        by_cases q : FitL b k p.1.length (rowm w p.1 k 0)
        · exact .inr ((lb_iff a b l _).mpr ⟨ws, h1.2, g2, fun z => h3 ((fit_cons ..).mpr ⟨q, z⟩)⟩).2
        · exact .inl ⟨w, h1.1, g1, q⟩
theorem la_iff (a : Nat) : ∀ (l : PL) (k : Nat), PLok l → (LA a l k ↔ ∃ ws, Ws l ws ∧ ¬ FitL a k (wid (l.map Prod.fst)) (col l ws k))
  | [], k, _ => by
    refine ⟨fun h => h.elim, fun ⟨ws, h1, h3⟩ => absurd (fun j h1 h2 => ?_) h3⟩
    simp [wid] at h2
    omega
  | p :: l, k, ok => by
    have ok' : PLok l := fun q hq => ok q (List.mem_cons_of_mem _ hq)
    rw [LA, la_iff a l _ ok']
    constructor
    · rintro (⟨w, h1, h2⟩ | ⟨ws, h1, h2⟩)
      · obtain ⟨ws, hw⟩ := ws_ex ok'
        exact ⟨w :: ws, ⟨h1, hw⟩, fun q => h2 ((fit_cons ..).mp q).1⟩
      · exact ⟨p.2.1 :: ws, ⟨⟨Int.le_refl _, (ok p (List.mem_cons_self ..)).2⟩, h1⟩, fun q => h2 ((fit_cons ..).mp q).2⟩
    · rintro ⟨ws, h1, h2⟩
      cases ws with
      | nil => exact h1.elim
      | cons w ws =>
        by_cases q : FitL a k p.1.length (rowm w p.1 k 0)
        · exact .inr ⟨ws, h1.2, fun z => h2 ((fit_cons ..).mpr ⟨q, z⟩)⟩
        · exact .inl ⟨w, h1.1, q⟩
theorem brk_fit {steps : List (List Int)} {ws : List Int} {a b : Nat} (ha : a < 2 ^ wid steps) (hb : b < 2 ^ wid steps) : brk (colm steps ws 0 0) a b = true ↔ FitL a 0 (wid steps) (colm steps ws 0 0) ∧ ¬ FitL b 0 (wid steps) (colm steps ws 0 0) := by
  have key : ∀ x, x < 2 ^ wid steps → (x &&& colm steps ws 0 0 = x ↔ FitL x 0 (wid steps) (colm steps ws 0 0)) := fun x hx => by
    rw [and_eq_iff]
    constructor
    · intro h j _ _ h3
      exact h j h3
    · intro h j hj
      refine h j (Nat.zero_le _) ?_ hj
      apply Decidable.byContradiction
      intro hc
      rw [Nat.testBit_lt_two_pow (Nat.lt_of_lt_of_le hx (Nat.pow_le_pow_right (by omega) (by omega)))] at hj
      cases hj
  unfold brk
  rw [Bool.and_eq_true, decide_eq_true_eq, key a ha]
  simp [key b hb]
section
variable {steps : List (List Int)} {row : List (Int × Int)} {a b : Nat} (so : StepsOk steps) (hl : row.length = steps.length) (hc : ∀ c ∈ row, 0 ≤ c.1 ∧ c.1 ≤ c.2) (ha : a < 2 ^ wid steps) (hb : b < 2 ^ wid steps)
include so hl hc
theorem pl_ok : PLok (steps.zip row) := fun p hp => by
  obtain ⟨h1, h2⟩ := List.of_mem_zip (a := p.1) (b := p.2) hp
  exact ⟨(so.rise _ h1).2.pw, (hc _ h2).2⟩
include ha hb
theorem can_break : ((canF a b steps row).1 && (canF a b steps row).2.1) = (bw row (gs a steps 0) (gs b steps 0)).isSome := by
  obtain ⟨g1, g2, g3, g4⟩ := fold_can a b (steps.zip row) (true, false, false, true, 0) (pl_ok so hl hc)
  have e1 : (steps.zip row).map Prod.fst = steps := List.map_fst_zip (by omega)
  have e2 : (steps.zip row).map Prod.snd = row := List.map_snd_zip (by omega)
  have key := lb_iff a b (steps.zip row) 0
  rw [Bool.eq_iff_iff, Bool.and_eq_true]
  unfold canF
  rw [g1, g2]
  simp only [true_and, Bool.false_eq_true, false_or]
  rw [key]
  unfold Ws col
  rw [e1, e2]
  constructor
  · rintro ⟨ws, h1, h2⟩
    cases hx : bw row (gs a steps 0) (gs b steps 0) with
    | some x => rfl
    | none =>
      have := bw_none so hl hc ha hb hx (RI_of h1)
      rw [(brk_fit ha hb).mpr h2] at this
      cases this
  · intro h
    obtain ⟨ws, hx⟩ := Option.isSome_iff_exists.mp h
    obtain ⟨g1, g2, g3⟩ := bw_some so hl hc ha hb hx
    exact ⟨ws, RI_iff g1, (brk_fit ha hb).mp g3⟩
theorem can_keep : ((canF a b steps row).2.2.1 || (canF a b steps row).2.2.2.1) = (kw row (gs a steps 0) (gs b steps 0)).isSome := by
  obtain ⟨g1, g2, g3, g4⟩ := fold_can a b (steps.zip row) (true, false, false, true, 0) (pl_ok so hl hc)
  have e1 : (steps.zip row).map Prod.fst = steps := List.map_fst_zip (by omega)
  have e2 : (steps.zip row).map Prod.snd = row := List.map_snd_zip (by omega)
  rw [Bool.eq_iff_iff, Bool.or_eq_true]
  unfold canF
  rw [g3, g4]
  simp only [true_and, Bool.false_eq_true, false_or]
  rw [la_iff _ _ _ (pl_ok so hl hc), ha_iff]
  unfold Ws col
  rw [e1, e2]
  constructor
  · intro h
    have : ∃ ws, RI row ws ∧ brk (colm steps ws 0 0) a b = false := by
      rcases h with ⟨ws, h1, h2⟩ | ⟨ws, h1, h2⟩
      · refine ⟨ws, h1, ?_⟩
        rw [← Bool.not_eq_true, brk_fit ha hb]
        exact fun q => h2 q.1
      · refine ⟨ws, h1, ?_⟩
        rw [← Bool.not_eq_true, brk_fit ha hb]
        exact fun q => q.2 h2
    obtain ⟨ws, h1, h2⟩ := this
    cases hx : kw row (gs a steps 0) (gs b steps 0) with
    | some x => rfl
    | none => rw [kw_none so hl hc ha hb hx (RI_of h1)] at h2; cases h2
  · intro h
    obtain ⟨ws, hx⟩ := Option.isSome_iff_exists.mp h
    obtain ⟨g1, g2, g3⟩ := kw_some so hl hc ha hb hx
    rw [← Bool.not_eq_true, brk_fit ha hb] at g3
    by_cases q : FitL a 0 (wid steps) (colm steps ws 0 0)
    · exact .inr ⟨ws, RI_iff g1, Classical.byContradiction fun z => g3 ⟨q, z⟩⟩
    · exact .inl ⟨ws, RI_iff g1, q⟩
end
end DL

/-! ## M52g.lean -/
namespace DL
open PySem PySem.Spec PyProof.Rows L2
open Dat (toD)
theorem any_false {steps : List (List Int)} {cells : List (List (Int × Int))} {a b : Nat} {f : List (List Int)} (so : StepsOk steps) (co : CellsOk steps cells) (ic : InCells cells f) (ha : a < 2 ^ wid steps) (hb : b < 2 ^ wid steps)
    (h : ∀ row ∈ cells, bw row (gs a steps 0) (gs b steps 0) = none) : f.any (fun ws => brk (colm steps ws 0 0) a b) = false := by
  rw [List.any_eq_false]
  intro ws hws
  obtain ⟨i, hi, rfl⟩ := List.getElem_of_mem hws
  have hi' : i < cells.length := by rw [← ic.len]; exact hi
  have hr := co.row cells[i] (List.getElem_mem hi')
  rw [Bool.not_eq_true]
  exact bw_none so hr.1 hr.2 ha hb (h _ (List.getElem_mem hi')) (ic.row i _ _ (List.getElem?_eq_getElem hi) (List.getElem?_eq_getElem hi'))
theorem inC_len {steps : List (List Int)} {cells : List (List (Int × Int))} {f : List (List Int)} (co : CellsOk steps cells) (ic : InCells cells f) : ∀ ws ∈ f, ws.length = steps.length := by
  intro ws hws
  obtain ⟨i, hi, rfl⟩ := List.getElem_of_mem hws
  have hi' : i < cells.length := by rw [← ic.len]; exact hi
  rw [(ic.row i _ _ (List.getElem?_eq_getElem hi) (List.getElem?_eq_getElem hi')).1]
  exact (co.row cells[i] (List.getElem_mem hi')).1
theorem inC_set {steps : List (List Int)} {cells : List (List (Int × Int))} {i : Nat} {row : List (Int × Int)} {ws : List Int} (co : CellsOk steps cells) (hx : cells[i]? = some row) (hr : RowIn row ws) : InCells cells ((cells.map lows).set i ws) := by
  have il := in_lows co
  refine ⟨by simp, fun k vs r h1 h2 => ?_⟩
  rw [List.getElem?_set] at h1
  split at h1
  · rename_i e
    subst e
    split at h1
    · cases h1
      rw [hx] at h2
      cases h2
      exact hr
    · cases h1
  · exact il.row k vs r h1 h2
theorem okLL (x : List (List Int)) : Dat.ok x = true := by
  show (x.all fun y => y.all fun _ => true) = true
  simp
theorem okLP (x : List (List (Int × Int))) : Dat.ok x = true := by
  show (x.all fun y => y.all fun p => (true && true)) = true
  simp
theorem eqLL (x : List (List Int)) : EqD (.lst (x.map toD)) (.lst (x.map toD)) true := by
  have := eqD_of x x (by decide) (okLL x) (okLL x)
  simpa [toD_list] using this
theorem eqLP (x : List (List (Int × Int))) : EqD (.lst (x.map toD)) (.lst (x.map toD)) true := by
  have := eqD_of x x (by decide) (okLP x) (okLP x)
  simpa [toD_list] using this
theorem kw_at {cells : List (List (Int × Int))} {f : List (List Int)} {k : List (Int × Int) → Option (List Int)} (h : cells.map k = f.map some) {i : Nat} {ws : List Int} {row : List (Int × Int)} (h1 : f[i]? = some ws) (h2 : cells[i]? = some row) : k row = some ws := by
  have := congrArg (fun l => l[i]?) h
  simp only [List.getElem?_map, h1, h2] at this
  simpa using this
theorem told_ok {steps : List (List Int)} {cells : List (List (Int × Int))} {a b : Nat} {f : List (List Int)} (so : StepsOk steps) (co : CellsOk steps cells) (ha : a < 2 ^ wid steps) (hb : b < 2 ^ wid steps)
    (h : cells.map (fun row => kw row (gs a steps 0) (gs b steps 0)) = f.map some) : InCells cells f ∧ f.any (fun ws => brk (colm steps ws 0 0) a b) = false := by
  have hl : f.length = cells.length := by have := congrArg List.length h; simpa using this.symm
  refine ⟨⟨hl, fun i ws row h1 h2 => ?_⟩, ?_⟩
  · have hr := co.row row (List.mem_of_getElem? h2)
    exact (kw_some so hr.1 hr.2 ha hb (kw_at h h1 h2)).1
  · rw [List.any_eq_false]
    intro ws hws
    obtain ⟨i, hi, rfl⟩ := List.getElem_of_mem hws
    have hi' : i < cells.length := by omega
    have hr := co.row cells[i] (List.getElem_mem hi')
    rw [Bool.not_eq_true]
    exact (kw_some so hr.1 hr.2 ha hb (kw_at h (List.getElem?_eq_getElem hi) (List.getElem?_eq_getElem hi'))).2.2
abbrev envL (q0 q1 q2 q3 q4 q5 q6 q7 q8 q9 q10 q11 q12 q13 q14 q15 q16 q17 : Option D) : Env := [q0, q1, q2, q3, q4, q5, q6, q7, q8, q9, q10, q11, q12, q13, q14, q15, q16, q17, none, none, none]
def d_law_c16 : DTS := (dIfS (dAnd (dTest (dVar 14)) (dTest (dOp (oIsB true) (dCall sp__law_filling [] (dCons (dVar 3) (dCons (dVar 7) (dCons (dVar 11) (dCons (dVar 16) dNil))))) (dC (.bl true))))) (dRet (dC (.bl false))) dNext)
def d_law_c15 : DTS := (dSeq (dIfS (dAnd (dTest (dVar 13)) (dTest (dOp (oIsB true) (dCall sp__law_filling [] (dCons (dVar 3) (dCons (dVar 7) (dCons (dVar 11) (dCons (dVar 15) dNil))))) (dC (.bl false))))) (dRet (dC (.bl false))) dNext)
  d_law_c16)
def d_law_c14 : DTS := (dSeq (dIfS (dOr (dNot (dTest (dCB cIsi (dCons (dVar 17) (dCons (dC (.ty "bool")) dNil))))) (dOr (dTest (dOp (oEqS false) (dVar 17) (dVar 13))) (dOr (dTest (dOp (oEqS false) (dOp (oIsN false) (dVar 15) (dC .non)) (dVar 13))) (dTest (dOp (oEqS false) (dOp (oIsN false) (dVar 16) (dC .non)) (dVar 14)))))) (dRet (dC (.bl false))) dNext)
  d_law_c15)
def d_law_c13 : DTS := (dSeq (dAsg (dCall sp_sure [] (dCons (dVar 9) (dCons (dVar 8) (dCons (dVar 11) dNil)))) (gN [] 17))
  d_law_c14)
def d_law_c12 : DTS := (dSeq (dPar2 [] 15 16 (dCons (dFix [] (dCall sp_spoiling [] (dCons (dVar 9) (dCons (dVar 8) (dCons (dVar 11) dNil))))) (dCons (dFix [] (dCall sp_mending [] (dCons (dVar 9) (dCons (dVar 8) (dCons (dVar 11) dNil))))) dNil)))
  d_law_c13)
def d_law_c11 : DTS := (dSeq (dPar2 [] 13 14 (dCons (dCB (cBools fun bs => bs.any id) (dCons (dLc (iL (dVar 12)) (gN [] 20) dYes (dOp oIxT (dVar 20) (dC (.int 0))) [20]) dNil)) (dCons (dCB (cBools fun bs => bs.all id) (dCons (dLc (iL (dVar 12)) (gN [] 20) dYes (dOp oIxT (dVar 20) (dC (.int 1))) [20]) dNil)) dNil)))
  d_law_c12)
def d_law_c10 : DTS := (dSeq (dAsg (dFix [] (dLc (iL (dVar 7)) (gN [] 19) dYes (dFix [] (dCall sp__law_can [] (dCons (dVar 3) (dCons (dVar 19) (dCons (dVar 11) dNil))))) [19])) (gN [] 12))
  d_law_c11)
def d_law_c17 : DTS := (dRet (dAndV (dOp (oEqD false) (dVar 8) (dVar 7)) (dOp (oEqD false) (dVar 9) (dVar 3))))
def d_law_c9 : DTS := (dSeq (dFor (iR1 (dCons (dC (.int 6)) dNil)) (gN [] 10)
  (dSeq (dAsg (dFix [] (dCallO [0] sp__law_rule (dCons (dVar 1) (dCons (dVar 2) dNil)))) (gN [] 11))
  d_law_c10))
  d_law_c17)
def d_law_c8 : DTS := (dSeq (dAsg (dFix [] (dLc (iL (dVar 3)) (gN [] 19) dYes (dFix [] (dCB cList (dCons (dVar 19) dNil))) [19])) (gN [] 9))
  d_law_c9)
def d_law_c7 : DTS := (dSeq (dAsg (dFix [] (dLc (iL (dVar 7)) (gN [] 19) dYes (dFix [] (dCB cList (dCons (dVar 19) dNil))) [19])) (gN [] 8))
  d_law_c8)
def d_law_c6 : DTS := (dSeq (dAsg (dFix [] (dLc (iR1 (dCons (dVar 5) dNil)) (gN [] 18) dYes (dFix [] (dLc (iL (dVar 3)) (gN [] 19) dYes (dFix [] (dCallO [0] sp__law_cell (dCons (dVar 6) (dCons (dVar 19) (dCons (dCallO [0] sp__law_take (dCons (dVar 6) (dCons (dVar 4) dNil))) dNil))))) [19])) [18])) (gN [] 7))
  d_law_c7)
def d_law_c5 : DTS := (dSeq (dAsg (dLst (dCons (dOp (oI CMul fun i j => .int (i * j)) (dCB (cI1 fun i => if i < 0 then -i else i) (dCons (dCall sp__law_cell_at [] (dCons (dVar 0) (dCons (dC (.int 1)) dNil))) dNil)) (dCB cInt (dCons (dOp (oI0 fun i j => .bl (decide (j ≤ i))) (dCB (cI1 fun i => if i < 0 then -i else i) (dCons (dCall sp__law_cell_at [] (dCons (dVar 0) (dCons (dC (.int 1)) dNil))) dNil)) (dOp (oI CPow fun i j => .int (i ^ j.toNat)) (dC (.int 10)) (dC (.int 18)))) dNil))) (dCons (dOp oIxL (dVar 1) (dC (.int 1))) (dCons (dOp (oI0 fun i j => .int (i + j)) (dOp oIxL (dVar 1) (dC (.int 2))) (dC (.int 1000))) dNil)))) (gN [] 6))
  d_law_c6)
def d_law_c4 : DTS := (dSeq (dAsg (dOp oIxL (dLst (dCons (dC (.int 60)) (dCons (dCallO [0] sp__law_take (dCons (dVar 1) (dCons (dC (.int 61)) dNil))) dNil))) (dCallO [0] sp__law_take (dCons (dVar 1) (dCons (dC (.int 2)) dNil)))) (gN [] 5))
  d_law_c5)
def d_law_c3 : DTS := (dSeq (dAsg (dOp (oI0 fun i j => .int (i + j)) (dC (.int 1)) (dCallO [0] sp__law_take (dCons (dVar 1) (dCons (dC (.int 12)) dNil)))) (gN [] 4))
  d_law_c4)
def d_law_c2 : DTS := (dSeq (dAsg (dFix [] (dCallO [0] sp__law_steps (dCons (dVar 1) (dCons (dVar 2) dNil)))) (gN [] 3))
  d_law_c3)
def d_law_c1 : DTS := (dSeq (dAsg (dOp oIxL (dLst (dCons (dC (.int 10)) (dCons (dCallO [0] sp__law_take (dCons (dVar 1) (dCons (dC (.int 11)) dNil))) dNil))) (dCallO [0] sp__law_take (dCons (dVar 1) (dCons (dC (.int 2)) dNil)))) (gN [] 2))
  d_law_c2)
def d_law : DTS := (dSeq (dAsg (dCall sp__law_box [] (dCons (dVar 0) (dCons (dC (.int 0)) dNil))) (gN [] 1))
  d_law_c1)
abbrev brokenB (steps : List (List Int)) (cells : List (List (Int × Int))) (a b : Nat) : Bool := cells.any fun row => (bw row (gs a steps 0) (gs b steps 0)).isSome
abbrev keepB (steps : List (List Int)) (cells : List (List (Int × Int))) (a b : Nat) : Bool := cells.all fun row => (kw row (gs a steps 0) (gs b steps 0)).isSome
def anyB (steps f : List (List Int)) (a b : Nat) : Bool := f.any fun ws => brk (colm steps ws 0 0) a b
section
variable {D' : DEnds} {steps : List (List Int)} {cells : List (List (Int × Int))} {a b : Nat} {q0 q1 q2 q4 q5 q6 q8 q9 q10 q12 q13 q14 q15 q16 q17 : Option D} {br kp : Bool} {md td : D}
theorem law_c16 (so : StepsOk steps) (hw : wid steps ≤ 10) (co : CellsOk steps cells) (hk : kp = true → ∃ f, md = toD f ∧ InCells cells f ∧ anyB steps f a b = false)
    (h : D'.nx (envL q0 q1 q2 (some (toD steps)) q4 q5 q6 (some (toD cells)) q8 q9 q10 (some (.tup [natD a, natD b])) q12 q13 (some (.bl kp)) q15 (some md) q17)) :
    d_law_c16 D' (envL q0 q1 q2 (some (toD steps)) q4 q5 q6 (some (toD cells)) q8 q9 q10 (some (.tup [natD a, natD b])) q12 q13 (some (.bl kp)) q15 (some md) q17) := by
  cases kp with
  | false => simpa [d_law_c16, envL] using h
  | true =>
    obtain ⟨f, rfl, h1, h2⟩ := hk rfl
    have e : ∀ x : List (List Int), toD x = D.lst (x.map toD) := fun _ => rfl
    simp [d_law_c16, envL, e]
    refine ⟨steps, cells, a, b, f, rfl, so, by omega, co, h1, ?_⟩
    have h2 : (f.any fun ws => brk (colm steps ws 0 0) a b) = false := h2
    rw [h2]
    exact .inr ⟨rfl, h⟩
theorem law_c15 (so : StepsOk steps) (hw : wid steps ≤ 10) (co : CellsOk steps cells) (hb : br = true → ∃ f, td = toD f ∧ InCells cells f ∧ anyB steps f a b = true) (hk : kp = true → ∃ f, md = toD f ∧ InCells cells f ∧ anyB steps f a b = false)
    (h : D'.nx (envL q0 q1 q2 (some (toD steps)) q4 q5 q6 (some (toD cells)) q8 q9 q10 (some (.tup [natD a, natD b])) q12 (some (.bl br)) (some (.bl kp)) (some td) (some md) q17)) :
    d_law_c15 D' (envL q0 q1 q2 (some (toD steps)) q4 q5 q6 (some (toD cells)) q8 q9 q10 (some (.tup [natD a, natD b])) q12 (some (.bl br)) (some (.bl kp)) (some td) (some md) q17) := by
  cases br with
  | false =>
    simp [d_law_c15, envL]
    exact law_c16 so hw co hk h
  | true =>
    obtain ⟨f, rfl, h1, h2⟩ := hb rfl
    have e : ∀ x : List (List Int), toD x = D.lst (x.map toD) := fun _ => rfl
    simp [d_law_c15, envL, e]
    refine ⟨steps, cells, a, b, f, rfl, so, by omega, co, h1, ?_⟩
    have h2 : (f.any fun ws => brk (colm steps ws 0 0) a b) = true := h2
    rw [h2]
    exact .inl ⟨rfl, law_c16 so hw co hk h⟩
theorem law_c14 (so : StepsOk steps) (hw : wid steps ≤ 10) (co : CellsOk steps cells) (hb : br = true → ∃ f, td = toD f ∧ InCells cells f ∧ anyB steps f a b = true) (hk : kp = true → ∃ f, md = toD f ∧ InCells cells f ∧ anyB steps f a b = false)
    (hb0 : br = false → td = .non) (hk0 : kp = false → md = .non)
    (h : D'.nx (envL q0 q1 q2 (some (toD steps)) q4 q5 q6 (some (toD cells)) q8 q9 q10 (some (.tup [natD a, natD b])) q12 (some (.bl br)) (some (.bl kp)) (some td) (some md) (some (.bl (!br))))) :
    d_law_c14 D' (envL q0 q1 q2 (some (toD steps)) q4 q5 q6 (some (toD cells)) q8 q9 q10 (some (.tup [natD a, natD b])) q12 (some (.bl br)) (some (.bl kp)) (some td) (some md) (some (.bl (!br)))) := by
  have r := law_c15 so hw co hb hk h
  have e : ∀ x : List (List Int), toD x = D.lst (x.map toD) := fun _ => rfl
  cases br with
  | false =>
    obtain rfl := hb0 rfl
    cases kp with
    | false =>
      obtain rfl := hk0 rfl
      simp [d_law_c14, envL, isT, tyNs, scal]
      exact r
    | true =>
      obtain ⟨f, rfl, h1, h2⟩ := hk rfl
      simp [d_law_c14, envL, isT, tyNs, scal, e]
      exact r
  | true =>
    obtain ⟨f, rfl, h1, h2⟩ := hb rfl
    cases kp with
    | false =>
      obtain rfl := hk0 rfl
      simp [d_law_c14, envL, isT, tyNs, scal, e]
      exact r
    | true =>
      obtain ⟨g, rfl, h3, h4⟩ := hk rfl
      simp [d_law_c14, envL, isT, tyNs, scal, e]
      exact r
theorem law_c13 (so : StepsOk steps) (hw : wid steps ≤ 10) (co : CellsOk steps cells) (hb : brokenB steps cells a b = true → ∃ f, td = toD f ∧ InCells cells f ∧ anyB steps f a b = true) (hk : kp = true → ∃ f, md = toD f ∧ InCells cells f ∧ anyB steps f a b = false)
    (hb0 : brokenB steps cells a b = false → td = .non) (hk0 : kp = false → md = .non)
    (h : ∀ q15 q16 q17, D'.nx (envL q0 q1 q2 (some (toD steps)) q4 q5 q6 (some (toD cells)) (some (toD cells)) (some (toD steps)) q10 (some (.tup [natD a, natD b])) q12 (some (.bl (brokenB steps cells a b))) (some (.bl kp)) q15 q16 q17)) :
    d_law_c13 D' (envL q0 q1 q2 (some (toD steps)) q4 q5 q6 (some (toD cells)) (some (toD cells)) (some (toD steps)) q10 (some (.tup [natD a, natD b])) q12 (some (.bl (brokenB steps cells a b))) (some (.bl kp)) (some td) (some md) q17) := by
  have r := law_c14 (D' := D') (q0 := q0) (q1 := q1) (q2 := q2) (q4 := q4) (q5 := q5) (q6 := q6) (q8 := some (toD cells)) (q9 := some (toD steps)) (q10 := q10) (q12 := q12) so hw co hb hk hb0 hk0 (h _ _ _)
  have e : ∀ x : List (List Int), toD x = D.lst (x.map toD) := fun _ => rfl
  have e' : ∀ x : List (List (Int × Int)), toD x = D.lst (x.map toD) := fun _ => rfl
  simp [d_law_c13, envL, e, e']
  refine ⟨steps, cells, a, b, rfl, so, co, fun hn => ?_, fun row hm hn => ?_⟩
  · have eb : brokenB steps cells a b = false := by
      unfold brokenB
      rw [List.any_eq_false]
      intro row hrow
      rw [hn row hrow]; simp
    rw [eb] at r ⊢
    simp
    exact r
  · have eb : brokenB steps cells a b = true := by
      unfold brokenB
      rw [List.any_eq_true]
      exact ⟨row, hm, by rw [Option.isSome_iff_ne_none]; exact hn⟩
    rw [eb] at r ⊢
    simp
    exact r
theorem law_c12 (so : StepsOk steps) (hw : wid steps ≤ 10) (co : CellsOk steps cells) (ha : a < 2 ^ wid steps) (hb : b < 2 ^ wid steps)
    (h : ∀ q15 q16 q17, D'.nx (envL q0 q1 q2 (some (toD steps)) q4 q5 q6 (some (toD cells)) (some (toD cells)) (some (toD steps)) q10 (some (.tup [natD a, natD b])) q12 (some (.bl (brokenB steps cells a b))) (some (.bl (keepB steps cells a b))) q15 q16 q17)) :
    d_law_c12 D' (envL q0 q1 q2 (some (toD steps)) q4 q5 q6 (some (toD cells)) (some (toD cells)) (some (toD steps)) q10 (some (.tup [natD a, natD b])) q12 (some (.bl (brokenB steps cells a b))) (some (.bl (keepB steps cells a b))) q15 q16 q17) := by
  have e : ∀ x : List (List Int), toD x = D.lst (x.map toD) := fun _ => rfl
  have e' : ∀ x : List (List (Int × Int)), toD x = D.lst (x.map toD) := fun _ => rfl
  have mendN : (∃ row ∈ cells, kw row (gs a steps 0) (gs b steps 0) = none) → keepB steps cells a b = false := by
    rintro ⟨row, h1, h2⟩
    unfold keepB
    rw [List.all_eq_false]
    exact ⟨row, h1, by rw [h2]; simp⟩
  have mendS : ∀ f : List (List Int), cells.map (fun row => kw row (gs a steps 0) (gs b steps 0)) = f.map some → keepB steps cells a b = true := by
    intro f hf
    unfold keepB
    rw [List.all_eq_true]
    intro row hrow
    have : kw row (gs a steps 0) (gs b steps 0) ∈ f.map some := by
      rw [← hf]
      exact List.mem_map.mpr ⟨row, hrow, rfl⟩
    obtain ⟨x, _, hx⟩ := List.mem_map.mp this
    rw [← hx]; rfl
  have brkN : (∀ row ∈ cells, bw row (gs a steps 0) (gs b steps 0) = none) → brokenB steps cells a b = false := by
    intro hn
    unfold brokenB
    rw [List.any_eq_false]
    intro row hrow
    rw [hn row hrow]; simp
  have fin := fun (td md : D) => law_c13 (D' := D') (q0 := q0) (q1 := q1) (q2 := q2) (q4 := q4) (q5 := q5) (q6 := q6) (q10 := q10) (q12 := q12) (q17 := q17) (td := td) (md := md) (kp := keepB steps cells a b) (a := a) (b := b) so hw co
  simp [d_law_c12, envL, e, e']
  refine ⟨steps, cells, a, b, rfl, so, co, fun hn => ?_, fun i row ws hi hx => ?_⟩
  · have b0 := brkN hn
    simp
    refine ⟨steps, cells, a, b, rfl, so, co, fun hn2 => ?_, fun f hf => ?_⟩
    · simp
      exact fin .non .non (fun z => by rw [b0] at z; cases z) (fun z => by rw [mendN hn2] at z; cases z) (fun _ => rfl) (fun _ => rfl) h
    · simp
      obtain ⟨g1, g2⟩ := told_ok so co ha hb hf
      exact fin .non (toD f) (fun z => by rw [b0] at z; cases z) (fun _ => ⟨f, rfl, g1, g2⟩) (fun _ => rfl) (fun z => by rw [mendS f hf] at z; cases z) h
  · have b1 : brokenB steps cells a b = true := by
      unfold brokenB
      rw [List.any_eq_true]
      exact ⟨row, List.mem_of_getElem? hi, by rw [hx]; rfl⟩
    have hr := co.row row (List.mem_of_getElem? hi)
    obtain ⟨w1, w2, w3⟩ := bw_some so hr.1 hr.2 ha hb hx
    have ic := inC_set co hi w1
    have ab : anyB steps ((cells.map lows).set i ws) a b = true := by
      unfold anyB
      rw [List.any_eq_true]
      refine ⟨ws, ?_, w3⟩
      have hlt : i < ((cells.map lows).set i ws).length := by
        rw [List.length_set, List.length_map]
        exact (List.getElem?_eq_some_iff.mp hi).1
      exact List.mem_iff_getElem.mpr ⟨i, hlt, by simp⟩
    simp
    refine ⟨steps, cells, a, b, rfl, so, co, fun hn2 => ?_, fun f hf => ?_⟩
    · simp
      have := fin (toD ((cells.map lows).set i ws)) .non (fun _ => ⟨_, rfl, ic, ab⟩) (fun z => by rw [mendN hn2] at z; cases z) (fun z => by rw [b1] at z; cases z) (fun _ => rfl) h
      simpa [e, e', envL] using this
    · simp
      obtain ⟨g1, g2⟩ := told_ok so co ha hb hf
      have := fin (toD ((cells.map lows).set i ws)) (toD f) (fun _ => ⟨_, rfl, ic, ab⟩) (fun _ => ⟨f, rfl, g1, g2⟩) (fun z => by rw [b1] at z; cases z) (fun z => by rw [mendS f hf] at z; cases z) h
      simpa [e, e', envL] using this
/-- the two answers of each thing -/
abbrev canD (steps : List (List Int)) (a b : Nat) (row : List (Int × Int)) : D := .tup [.bl (bw row (gs a steps 0) (gs b steps 0)).isSome, .bl (kw row (gs a steps 0) (gs b steps 0)).isSome]
theorem law_c11 (so : StepsOk steps) (hw : wid steps ≤ 10) (co : CellsOk steps cells) (ha : a < 2 ^ wid steps) (hb : b < 2 ^ wid steps)
    (h : ∀ q12 q13 q14 q15 q16 q17, D'.nx (envL q0 q1 q2 (some (toD steps)) q4 q5 q6 (some (toD cells)) (some (toD cells)) (some (toD steps)) q10 (some (.tup [natD a, natD b])) q12 q13 q14 q15 q16 q17)) :
    d_law_c11 D' (envL q0 q1 q2 (some (toD steps)) q4 q5 q6 (some (toD cells)) (some (toD cells)) (some (toD steps)) q10 (some (.tup [natD a, natD b])) (some (.lst (cells.map (canD steps a b)))) q13 q14 q15 q16 q17) := by
  simp [d_law_c11, envL]
  refine lcD_map (f := canD steps a b) (h := fun row => D.bl (bw row (gs a steps 0) (gs b steps 0)).isSome) (by simp) (le1000 (by have := co.many; omega)) (fun x hx => rfl) (fun row hrow N hN => ?_) ?_
  · simp
    exact hN _ (by simp)
  · simp
    refine ⟨cells.map fun row => (bw row (gs a steps 0) (gs b steps 0)).isSome, by simp [Function.comp_def], ?_⟩
    refine lcD_map (f := canD steps a b) (h := fun row => D.bl (kw row (gs a steps 0) (gs b steps 0)).isSome) (by simp) (le1000 (by have := co.many; omega)) (fun x hx => rfl) (fun row hrow N hN => ?_) ?_
    · simp
      exact hN _ (by simp)
    · simp
      refine ⟨cells.map fun row => (kw row (gs a steps 0) (gs b steps 0)).isSome, by simp [Function.comp_def], ?_⟩
      have e2 : ((cells.map fun row => (kw row (gs a steps 0) (gs b steps 0)).isSome).all id) = keepB steps cells a b := by simp [keepB, List.all_map, Function.comp_def]
      rw [e2]
      exact law_c12 so hw co ha hb (h _ _ _)
theorem law_c10 (so : StepsOk steps) (hw : wid steps ≤ 10) (co : CellsOk steps cells) (ha : a < 2 ^ wid steps) (hb : b < 2 ^ wid steps)
    (h : ∀ q12 q13 q14 q15 q16 q17, D'.nx (envL q0 q1 q2 (some (toD steps)) q4 q5 q6 (some (toD cells)) (some (toD cells)) (some (toD steps)) q10 (some (.tup [natD a, natD b])) q12 q13 q14 q15 q16 q17)) :
    d_law_c10 D' (envL q0 q1 q2 (some (toD steps)) q4 q5 q6 (some (toD cells)) (some (toD cells)) (some (toD steps)) q10 (some (.tup [natD a, natD b])) q12 q13 q14 q15 q16 q17) := by
  have e : ∀ x : List (List Int), toD x = D.lst (x.map toD) := fun _ => rfl
  have e' : ∀ x : List (List (Int × Int)), toD x = D.lst (x.map toD) := fun _ => rfl
  simp [d_law_c10, envL, e']
  refine lcD_map (h := canD steps a b) (by simp) (le1000 (by have := co.many; omega)) (fun x hx => rfl) (fun row hrow N hN => ?_) ?_
  · have hr := co.row row hrow
    simp
    refine ⟨steps, row, a, b, rfl, hr.1, so.many, by omega, ?_⟩
    rw [can_break so hr.1 hr.2 ha hb, can_keep so hr.1 hr.2 ha hb]
    simp
    exact hN _ (by simp)
  · simp
    exact law_c11 so hw co ha hb h
theorem law_c17 {R : D → List D → Prop} {q11 : Option D} (h : R (.bl true) []) : d_law_c17 (endsD [] R) (envL q0 q1 q2 (some (toD steps)) q4 q5 q6 (some (toD cells)) (some (toD cells)) (some (toD steps)) q10 q11 q12 q13 q14 q15 q16 q17) := by
  have e : ∀ x : List (List Int), toD x = D.lst (x.map toD) := fun _ => rfl
  have e' : ∀ x : List (List (Int × Int)), toD x = D.lst (x.map toD) := fun _ => rfl
  simp [d_law_c17, envL, e, e']
  exact .inr ⟨eqLP cells, .inr ⟨eqLL steps, h⟩⟩
theorem law_c9 {R : D → List D → Prop} {x y z : Int} {n : Nat} (so : StepsOk steps) (hx : 0 ≤ x) (hn : n ≤ 10) (hw : wid steps = n) (co : CellsOk steps cells) (h : R (.bl true) []) :
    d_law_c9 (endsD [] R) (envL q0 (some (boxD x y z)) (some (natD n)) (some (toD steps)) q4 q5 q6 (some (toD cells)) (some (toD cells)) (some (toD steps)) none none none none none none none none) := by
  simp [d_law_c9, envL]
  refine forD_rng (fun i e => ∃ x' z' q10 q11 q12 q13 q14 q15 q16 q17, 0 ≤ x' ∧ e = envL q0 (some (boxD x' y z')) (some (natD n)) (some (toD steps)) q4 q5 q6 (some (toD cells)) (some (toD cells)) (some (toD steps)) q10 q11 q12 q13 q14 q15 q16 q17) ⟨x, z, none, none, none, none, none, none, none, none, hx, rfl⟩ ?_ ?_
  · rintro i e N hi ⟨x', z', r10, r11, r12, r13, r14, r15, r16, r17, hx', rfl⟩ hN
    refine ⟨trivial, ?_⟩
    simp [envL]
    refine ⟨x', y, z', n, rfl, hx', hn, fun a b x2 z2 ha hb hx2 => ?_⟩
    simp [putO]
    exact law_c10 so (by omega) co (by rw [hw]; exact ha) (by rw [hw]; exact hb) fun r12 r13 r14 r15 r16 r17 => hN _ ⟨x2, z2, _, _, r12, r13, r14, r15, r16, r17, hx2, rfl⟩
  · rintro e ⟨x', z', r10, r11, r12, r13, r14, r15, r16, r17, hx', rfl⟩
    exact ⟨trivial, law_c17 h⟩
theorem law_c7 {R : D → List D → Prop} {x y z : Int} {n : Nat} (so : StepsOk steps) (hx : 0 ≤ x) (hn : n ≤ 10) (hw : wid steps = n) (co : CellsOk steps cells) (h : R (.bl true) []) :
    d_law_c7 (endsD [] R) (envL q0 (some (boxD x y z)) (some (natD n)) (some (toD steps)) q4 q5 q6 (some (toD cells)) none none none none none none none none none none) := by
  have e : ∀ x : List (List Int), toD x = D.lst (x.map toD) := fun _ => rfl
  have e' : ∀ x : List (List (Int × Int)), toD x = D.lst (x.map toD) := fun _ => rfl
  have e1 : ∀ x : List Int, toD x = D.lst (x.map toD) := fun _ => rfl
  have e1' : ∀ x : List (Int × Int), toD x = D.lst (x.map toD) := fun _ => rfl
  simp [d_law_c7, envL, e']
  refine lcD_map (f := fun r : List (Int × Int) => toD r) (h := fun r : List (Int × Int) => toD r) (by simp) (le1000 (by have := co.many; omega)) (fun x hx => rfl) (fun row hrow N hN => ?_) ?_
  · simp [e1']
    exact hN _ (by simp [e'])
  · simp [d_law_c8, e]
    refine lcD_map (f := fun r : List Int => toD r) (h := fun r : List Int => toD r) (by simp) (le1000 (by have := so.many; omega)) (fun x hx => rfl) (fun row hrow N hN => ?_) ?_
    · simp [e1]
      exact hN _ (by simp [e, e'])
    · simp
      exact law_c9 so hx hn hw co h
end
section
variable {R : D → List D → Prop} {s : List Int} {x y z u v w : Int} {n : Nat} {steps : List (List Int)}
theorem law_c6 {share : Nat} {things : Nat} (so : StepsOk steps) (hx : 0 ≤ x) (hn : n ≤ 10) (hw : wid steps = n) (hu : 0 ≤ u) (s1 : 1 ≤ share) (s2 : share ≤ 12) (ht : things ≤ 60) (h : R (.bl true) []) :
    d_law_c6 (endsD [] R) (envL (some (.scr (s.map .int))) (some (boxD x y z)) (some (natD n)) (some (toD steps)) (some (natD share)) (some (natD things)) (some (boxD u v w)) none none none none none none none none none none none) := by
  have e : ∀ x : List (List Int), toD x = D.lst (x.map toD) := fun _ => rfl
  have e' : ∀ x : List (List (Int × Int)), toD x = D.lst (x.map toD) := fun _ => rfl
  have e1' : ∀ x : List (Int × Int), toD x = D.lst (x.map toD) := fun _ => rfl
  simp [d_law_c6, envL, e]
  rw [rngD_eq]
  refine ⟨by omega, ?_⟩
  refine lcD_inv (xs := List.range things) (fun i acc e => ∃ (cells : List (List (Int × Int))) (u' w' : Int), 0 ≤ u' ∧ acc = cells.map toD ∧ cells.length = i ∧ (∀ row ∈ cells, row.length = steps.length ∧ ∀ c ∈ row, 0 ≤ c.1 ∧ c.1 ≤ c.2) ∧
    e = envL (some (.scr (s.map .int))) (some (boxD x y z)) (some (natD n)) (some (D.lst (steps.map toD))) (some (natD share)) (some (natD things)) (some (boxD u' v w')) none none none none none none none none none none none) ⟨[], u, w, hu, rfl, rfl, by simp, rfl⟩ (le1000 (by simp; omega)) ?_ ?_ (fun _ _ _ _ _ _ => trivial) ?_
  · rintro i k acc e N hk ⟨cells, u', w', hu', rfl, hcl, hall, rfl⟩ hN
    refine ⟨trivial, ?_⟩
    simp [envL]
    refine lcD_inv (xs := steps) (f := fun r : List Int => toD r) (fun j acc e => ∃ (row : List (Int × Int)) (u' w' : Int), 0 ≤ u' ∧ acc = row.map toD ∧ row.length = j ∧ (∀ c ∈ row, 0 ≤ c.1 ∧ c.1 ≤ c.2) ∧
      e = [some (.scr (s.map .int)), some (boxD x y z), some (natD n), some (D.lst (steps.map toD)), some (natD share), some (natD things), some (boxD u' v w'), none, none, none, none, none, none, none, none, none, none, none, some (.int (k : Nat)), none, none]) ⟨[], u', w', hu', rfl, rfl, by simp, by simp⟩ (le1000 (by have := so.many; omega)) ?_ ?_ (fun _ _ _ _ _ _ => trivial) ?_
    · rintro j st acc e N hst ⟨row, u1, w1, hu1, rfl, hrl, hrow, rfl⟩ hN
      have hm := List.mem_of_getElem? hst
      have hlen := wid_mem hm
      refine ⟨trivial, ?_⟩
      simp
      refine take_box hu1 (by omega) (by omega) fun t a1 c1 t0 t1 ha1 => ?_
      simp [putO, ndB]
      refine ⟨a1, v, c1, t, st, rfl, ha1, (so.rise st hm).1, by omega, (so.rise st hm).2, fun p a2 c2 p0 p1 p2 ha2 => ?_⟩
      simp [putO]
      refine hN _ _ rfl ⟨row ++ [p], a2, c2, ha2, by simp [toD], by simp [hrl], ?_, by simp⟩
      intro c hc
      rcases List.mem_append.mp hc with h1 | h1
      · exact hrow c h1
      · rw [List.mem_singleton] at h1
        rw [h1]
        exact ⟨p0, p1⟩
    · rintro j acc e ⟨row, u1, w1, hu1, rfl, hrl, hrow, rfl⟩
      simp; omega
    · rintro acc e ⟨row, u1, w1, hu1, rfl, hrl, hrow, rfl⟩
      refine ⟨trivial, ?_⟩
      simp
      refine hN _ _ rfl ⟨cells ++ [row], u1, w1, hu1, by simp [e1'], by simp [hcl], ?_, by simp⟩
      intro r hr
      rcases List.mem_append.mp hr with h1 | h1
      · exact hall r h1
      · rw [List.mem_singleton] at h1
        rw [h1]
        exact ⟨hrl, hrow⟩
  · rintro i acc e ⟨cells, u', w', hu', rfl, hcl, hall, rfl⟩
    simp; omega
  · rintro acc e ⟨cells, u', w', hu', rfl, hcl, hall, rfl⟩
    refine ⟨trivial, ?_⟩
    simp [envL]
    exact law_c7 so hx hn hw ⟨by simp at hcl; omega, hall⟩ h
theorem law_c5 {share : Nat} {things : Nat} (so : StepsOk steps) (hx : 0 ≤ x) (hn : n ≤ 10) (hw : wid steps = n) (s1 : 1 ≤ share) (s2 : share ≤ 12) (ht : things ≤ 60) (h : R (.bl true) []) :
    d_law_c5 (endsD [] R) (envL (some (.scr (s.map .int))) (some (boxD x y z)) (some (natD n)) (some (toD steps)) (some (natD share)) (some (natD things)) none none none none none none none none none none none none) := by
  have cp : CPow 10 18 := cpow_c (by omega) (by omega) (by decide)
  have c1 : ∀ i : Int, CMul i 1 := fun i => cmul_r (by omega) (by omega)
  have c0 : ∀ i : Int, CMul i 0 := fun i => cmul_r (by omega) (by omega)
  have three : 3 ≤ sizeLine := by decide
  simp [d_law_c5, envL]
  refine ⟨s, 1, by simp, fun v1 => ?_⟩
  simp [cp]
  refine ⟨s, 1, by simp, fun v2 => ?_⟩
  simp [cp]
  obtain ⟨k, hk⟩ : ∃ k : Int, (if 1000000000000000000 ≤ (if v2 < 0 then -v2 else v2) then (1 : Int) else 0) = k := ⟨_, rfl⟩
  have hk2 : k = 0 ∨ k = 1 := by
    rw [← hk]
    by_cases hc : 1000000000000000000 ≤ (if v2 < 0 then -v2 else v2)
    · rw [if_pos hc]; exact .inr rfl
    · rw [if_neg hc]; exact .inl rfl
  obtain ⟨g, hg⟩ : ∃ g : Int, (if v1 < 0 then -v1 else v1) = g := ⟨_, rfl⟩
  have hg0 : 0 ≤ g := by rw [← hg]; split <;> omega
  rw [hk, hg]
  refine ⟨by rcases hk2 with rfl | rfl; exact c0 _; exact c1 _, three, ?_⟩
  refine law_c6 so hx hn hw ?_ s1 s2 ht h
  rcases hk2 with rfl | rfl
  · simp
  · simpa using hg0
theorem law_c3 (so : StepsOk steps) (hx : 0 ≤ x) (hn : n ≤ 10) (hw : wid steps = n) (h : R (.bl true) []) :
    d_law_c3 (endsD [] R) (envL (some (.scr (s.map .int))) (some (boxD x y z)) (some (natD n)) (some (toD steps)) none none none none none none none none none none none none none none) := by
  have two : 2 ≤ sizeLine := by decide
  simp [d_law_c3, envL]
  refine take_box hx (by omega) (by omega) fun t x1 z1 t0 t1 hx1 => ?_
  obtain ⟨t, rfl⟩ := nat_of t0
  simp [putO, d_law_c4]
  refine take_box hx1 (by omega) (by omega) fun r x2 z2 r0 r1 hx2 => ?_
  obtain ⟨r, rfl⟩ := nat_of r0
  simp [putO, two]
  refine take_box hx2 (by omega) (by omega) fun q x3 z3 g0 g1 hx3 => ?_
  have hq : q = 0 ∨ q = 1 := by omega
  have et : ((1 : Int) + (t : Nat)) = ((1 + t : Nat) : Int) := by omega
  rw [et]
  rcases hq with rfl | rfl <;> simp [putO]
  · exact law_c5 (share := 1 + t) (things := 60) so hx3 hn hw (by omega) (by omega) (by omega) h
  · exact law_c5 (share := 1 + t) (things := r) so hx3 hn hw (by omega) (by omega) (by omega) h
theorem law_c2 (hx : 0 ≤ x) (hn : n ≤ 10) (h : R (.bl true) []) :
    d_law_c2 (endsD [] R) (envL (some (.scr (s.map .int))) (some (boxD x y z)) (some (natD n)) none none none none none none none none none none none none none none none) := by
  simp [d_law_c2, envL]
  refine ⟨x, y, z, n, rfl, hx, hn, fun steps x1 z1 h1 h2 h3 hx1 => ?_⟩
  simp [putO]
  exact law_c3 ⟨by omega, by omega, h3⟩ hx1 hn h1 h
end
def sp_law : DSp := fun ds R _ => ∃ s : List Int, ds = [.scr (s.map .int)] ∧ s.length ≤ 63 ∧ R (.bl true) []
theorem spec_law : ∀ ds R RX, sp_law ds R RX → ds.length = 1 ∧ d_law (endsD [] R) (startE 21 ds) := by
  rintro _ R RX ⟨s, rfl, hl, h⟩
  refine ⟨rfl, ?_⟩
  have two : 2 ≤ sizeLine := by decide
  simp [d_law]
  refine ⟨s, 0, by simp, fun x y hx => ?_⟩
  simp [d_law_c1]
  refine take_box hx (by omega) (by omega) fun r x2 z2 r0 r1 hx2 => ?_
  obtain ⟨r, rfl⟩ := nat_of r0
  simp [putO, two]
  refine take_box hx2 (by omega) (by omega) fun q x3 z3 g0 g1 hx3 => ?_
  have hq : q = 0 ∨ q = 1 := by omega
  rcases hq with rfl | rfl <;> simp [putO]
  · exact law_c2 (n := 10) hx3 (by omega) h
  · exact law_c2 (n := r) hx3 (by omega) h
end DL

namespace DL
open PySem PySem.Spec PyProof.Rows L2
open Dat (toD)
def topS (i : Nat) : Stmt := PySem.Challenge.pw_traitlattice_k52_gaps_of_wide_tables.main.body.getD i (.Pass ⟨0, 0, 0, 0⟩)
abbrev s_spread : Stmt := topS 1
theorem sc_spread : FnScope ["steps", "worths", "mask", "column", "trait", "row", "step"] ["steps", "worths"] (defScope s_spread) := ⟨rfl, rfl, rfl, by decide +kernel, rfl, by decide +kernel, by decide +kernel⟩
abbrev s_greatest_steps : Stmt := topS 2
theorem sc_greatest_steps : FnScope ["steps", "mask", "found", "column", "row", "most", "step"] ["steps", "mask"] (defScope s_greatest_steps) := ⟨rfl, rfl, rfl, by decide +kernel, rfl, by decide +kernel, by decide +kernel⟩
abbrev s_broken_worths : Stmt := topS 3
theorem sc_broken_worths : FnScope ["cells", "ahead", "behind", "worths", "lacks", "trait", "cell", "worth"] ["cells", "ahead", "behind"] (defScope s_broken_worths) := ⟨rfl, rfl, rfl, by decide +kernel, rfl, by decide +kernel, by decide +kernel⟩
abbrev s_kept_worths : Stmt := topS 4
theorem sc_kept_worths : FnScope ["cells", "ahead", "behind", "lows", "trait", "low", "highs", "high", "cell"] ["cells", "ahead", "behind"] (defScope s_kept_worths) := ⟨rfl, rfl, rfl, by decide +kernel, rfl, by decide +kernel, by decide +kernel⟩
abbrev s__law_cell_at : Stmt := topS 9
theorem sc__law_cell_at : FnScope ["script", "k"] ["script", "k"] (defScope s__law_cell_at) := ⟨rfl, rfl, rfl, by decide +kernel, rfl, by decide +kernel, by decide +kernel⟩
abbrev s__law_mixed : Stmt := topS 10
theorem sc__law_mixed : FnScope ["number", "k", "once", "twice"] ["number", "k"] (defScope s__law_mixed) := ⟨rfl, rfl, rfl, by decide +kernel, rfl, by decide +kernel, by decide +kernel⟩
abbrev s__law_reached : Stmt := topS 16
theorem sc__law_reached : FnScope ["row", "worth", "first", "k", "step"] ["row", "worth", "first"] (defScope s__law_reached) := ⟨rfl, rfl, rfl, by decide +kernel, rfl, by decide +kernel, by decide +kernel⟩
abbrev s_spoiling : Stmt := topS 5
theorem sc_spoiling : FnScope ["steps", "cells", "rule", "ahead", "behind", "thing", "row", "worths", "filling", "other", "cell"] ["steps", "cells", "rule"] (defScope s_spoiling) := ⟨rfl, rfl, rfl, by decide +kernel, rfl, by decide +kernel, by decide +kernel⟩
abbrev s_mending : Stmt := topS 6
theorem sc_mending : FnScope ["steps", "cells", "rule", "ahead", "behind", "filling", "row", "worths"] ["steps", "cells", "rule"] (defScope s_mending) := ⟨rfl, rfl, rfl, by decide +kernel, rfl, by decide +kernel, by decide +kernel⟩
abbrev s__law_box : Stmt := topS 11
theorem sc__law_box : FnScope ["script", "k", "cell"] ["script", "k"] (defScope s__law_box) := ⟨rfl, rfl, rfl, by decide +kernel, rfl, by decide +kernel, by decide +kernel⟩
abbrev s__law_take : Stmt := topS 12
theorem sc__law_take : FnScope ["box", "many", "found"] ["box", "many"] (defScope s__law_take) := ⟨rfl, rfl, rfl, by decide +kernel, rfl, by decide +kernel, by decide +kernel⟩
abbrev s__law_ways : Stmt := topS 17
theorem sc__law_ways : FnScope ["row", "cell", "first", "worths", "step", "worth"] ["row", "cell", "first"] (defScope s__law_ways) := ⟨rfl, rfl, rfl, by decide +kernel, rfl, by decide +kernel, by decide +kernel⟩
abbrev s__law_filling : Stmt := topS 19
theorem sc__law_filling : FnScope ["steps", "cells", "rule", "filling", "right", "row", "worths", "mask", "first", "one", "cell", "worth"] ["steps", "cells", "rule", "filling"] (defScope s__law_filling) := ⟨rfl, rfl, rfl, by decide +kernel, rfl, by decide +kernel, by decide +kernel⟩
abbrev s_sure : Stmt := topS 7
theorem sc_sure : FnScope ["steps", "cells", "rule"] ["steps", "cells", "rule"] (defScope s_sure) := ⟨rfl, rfl, rfl, by decide +kernel, rfl, by decide +kernel, by decide +kernel⟩
abbrev s__law_steps : Stmt := topS 13
theorem sc__law_steps : FnScope ["box", "columns", "most", "found", "left", "single", "many", "first", "step", "k"] ["box", "columns"] (defScope s__law_steps) := ⟨rfl, rfl, rfl, by decide +kernel, rfl, by decide +kernel, by decide +kernel⟩
abbrev s__law_worth : Stmt := topS 14
theorem sc__law_worth : FnScope ["box", "row", "most", "step", "any_worth"] ["box", "row"] (defScope s__law_worth) := ⟨rfl, rfl, rfl, by decide +kernel, rfl, by decide +kernel, by decide +kernel⟩
abbrev s__law_can : Stmt := topS 18
theorem sc__law_can : FnScope ["steps", "cells", "rule", "has_ahead", "lacks_behind", "lacks_ahead", "has_behind", "first", "row", "cell", "ways", "columns", "ahead", "behind", "fit", "some"] ["steps", "cells", "rule"] (defScope s__law_can) := ⟨rfl, rfl, rfl, by decide +kernel, rfl, by decide +kernel, by decide +kernel⟩
abbrev s__law_rule : Stmt := topS 20
theorem sc__law_rule : FnScope ["box", "columns", "ahead", "behind"] ["box", "columns"] (defScope s__law_rule) := ⟨rfl, rfl, rfl, by decide +kernel, rfl, by decide +kernel, by decide +kernel⟩
abbrev s__law_cell : Stmt := topS 15
theorem sc__law_cell : FnScope ["box", "row", "whole", "low", "high"] ["box", "row", "whole"] (defScope s__law_cell) := ⟨rfl, rfl, rfl, by decide +kernel, rfl, by decide +kernel, by decide +kernel⟩
abbrev s_law : Stmt := topS 21
theorem sc_law : FnScope ["script", "box", "columns", "steps", "share", "things", "own", "cells", "kept", "mine", "turn", "rule", "cans", "broken", "keeping", "told", "mended", "said", "k", "row", "one"] ["script"] (defScope s_law) := ⟨rfl, rfl, rfl, by decide +kernel, rfl, by decide +kernel, by decide +kernel⟩
structure Txt (K : Frag) (mg : Str → Option Value) where
  f_spread : Addr
  fd_spread : FuncData
  F_spread : Fun K "spread" "spread" s_spread f_spread fd_spread
  m_spread : mg "spread" = some (.ref f_spread)
  f_greatest_steps : Addr
  fd_greatest_steps : FuncData
  F_greatest_steps : Fun K "greatest_steps" "greatest_steps" s_greatest_steps f_greatest_steps fd_greatest_steps
  m_greatest_steps : mg "greatest_steps" = some (.ref f_greatest_steps)
  f_broken_worths : Addr
  fd_broken_worths : FuncData
  F_broken_worths : Fun K "broken_worths" "broken_worths" s_broken_worths f_broken_worths fd_broken_worths
  m_broken_worths : mg "broken_worths" = some (.ref f_broken_worths)
  f_kept_worths : Addr
  fd_kept_worths : FuncData
  F_kept_worths : Fun K "kept_worths" "kept_worths" s_kept_worths f_kept_worths fd_kept_worths
  m_kept_worths : mg "kept_worths" = some (.ref f_kept_worths)
  f__law_cell_at : Addr
  fd__law_cell_at : FuncData
  F__law_cell_at : Fun K "_law_cell_at" "_law_cell_at" s__law_cell_at f__law_cell_at fd__law_cell_at
  m__law_cell_at : mg "_law_cell_at" = some (.ref f__law_cell_at)
  f__law_mixed : Addr
  fd__law_mixed : FuncData
  F__law_mixed : Fun K "_law_mixed" "_law_mixed" s__law_mixed f__law_mixed fd__law_mixed
  m__law_mixed : mg "_law_mixed" = some (.ref f__law_mixed)
  f__law_reached : Addr
  fd__law_reached : FuncData
  F__law_reached : Fun K "_law_reached" "_law_reached" s__law_reached f__law_reached fd__law_reached
  m__law_reached : mg "_law_reached" = some (.ref f__law_reached)
  f_spoiling : Addr
  fd_spoiling : FuncData
  F_spoiling : Fun K "spoiling" "spoiling" s_spoiling f_spoiling fd_spoiling
  m_spoiling : mg "spoiling" = some (.ref f_spoiling)
  f_mending : Addr
  fd_mending : FuncData
  F_mending : Fun K "mending" "mending" s_mending f_mending fd_mending
  m_mending : mg "mending" = some (.ref f_mending)
  f__law_box : Addr
  fd__law_box : FuncData
  F__law_box : Fun K "_law_box" "_law_box" s__law_box f__law_box fd__law_box
  m__law_box : mg "_law_box" = some (.ref f__law_box)
  f__law_take : Addr
  fd__law_take : FuncData
  F__law_take : Fun K "_law_take" "_law_take" s__law_take f__law_take fd__law_take
  m__law_take : mg "_law_take" = some (.ref f__law_take)
  f__law_ways : Addr
  fd__law_ways : FuncData
  F__law_ways : Fun K "_law_ways" "_law_ways" s__law_ways f__law_ways fd__law_ways
  m__law_ways : mg "_law_ways" = some (.ref f__law_ways)
  f__law_filling : Addr
  fd__law_filling : FuncData
  F__law_filling : Fun K "_law_filling" "_law_filling" s__law_filling f__law_filling fd__law_filling
  m__law_filling : mg "_law_filling" = some (.ref f__law_filling)
  f_sure : Addr
  fd_sure : FuncData
  F_sure : Fun K "sure" "sure" s_sure f_sure fd_sure
  m_sure : mg "sure" = some (.ref f_sure)
  f__law_steps : Addr
  fd__law_steps : FuncData
  F__law_steps : Fun K "_law_steps" "_law_steps" s__law_steps f__law_steps fd__law_steps
  m__law_steps : mg "_law_steps" = some (.ref f__law_steps)
  f__law_worth : Addr
  fd__law_worth : FuncData
  F__law_worth : Fun K "_law_worth" "_law_worth" s__law_worth f__law_worth fd__law_worth
  m__law_worth : mg "_law_worth" = some (.ref f__law_worth)
  f__law_can : Addr
  fd__law_can : FuncData
  F__law_can : Fun K "_law_can" "_law_can" s__law_can f__law_can fd__law_can
  m__law_can : mg "_law_can" = some (.ref f__law_can)
  f__law_rule : Addr
  fd__law_rule : FuncData
  F__law_rule : Fun K "_law_rule" "_law_rule" s__law_rule f__law_rule fd__law_rule
  m__law_rule : mg "_law_rule" = some (.ref f__law_rule)
  f__law_cell : Addr
  fd__law_cell : FuncData
  F__law_cell : Fun K "_law_cell" "_law_cell" s__law_cell f__law_cell fd__law_cell
  m__law_cell : mg "_law_cell" = some (.ref f__law_cell)
  f_law : Addr
  fd_law : FuncData
  F_law : Fun K "law" "law" s_law f_law fd_law
  m_law : mg "law" = some (.ref f_law)
  z_abs : mg "abs" = none
  z_all : mg "all" = none
  z_any : mg "any" = none
  z_bool : mg "bool" = none
  z_enumerate : mg "enumerate" = none
  z_int : mg "int" = none
  z_isinstance : mg "isinstance" = none
  z_len : mg "len" = none
  z_list : mg "list" = none
  z_max : mg "max" = none
  z_min : mg "min" = none
  z_range : mg "range" = none
  z_sum : mg "sum" = none
  z_zip : mg "zip" = none
section
variable {P : Program} {w : World} {K : Frag} {mg : Str → Option Value} {base : Heap}
theorem b_spread (T : Txt K mg) : Binds K T.fd_spread ["steps", "worths"] [] := T.F_spread.binds (ps := ["steps", "worths"]) fun _ _ _ _ _ _ us hl => match us, hl with | [_, _], _ => rfl
-- spread
theorem ok_spread (T : Txt K mg) : FnOk P w K mg base CX0 1 T.f_spread T.fd_spread ["steps", "worths"] (liftSp K [] sp_spread) :=
  okD (d := d_spread) T.F_spread sc_spread (fun cdv A outer s H E hr => ⟨_, ⟨(pss_cons (ps_set (i := 2) sc_spread.nd rfl (Or.inl rfl) pe_int) (pss_cons (ps_set (i := 3) sc_spread.nd rfl (Or.inl rfl) pe_int) (pss_cons (ps_for PassesOwn.never rfl (pi_enum rfl T.z_enumerate (pa_cons (pv 0) pa_nil)) (pg_tup rfl (pgs_cons (pg_name (i := 4) sc_spread.nd rfl (Or.inl rfl)) (pgs_cons (pg_name (i := 5) sc_spread.nd rfl (Or.inl rfl)) pgs_nil))) (pss_one (ps_for PassesOwn.never rfl (pi_list (pv 5)) (pg_name (i := 6) sc_spread.nd rfl (Or.inl rfl)) (pss_cons (ps_if (pt_cmpR op_ge (pe_ix ix_list (pv 1) (pv 4) (fun _ _ => rfl)) (pv 6) (nomark _)) (pss_one (ps_aug (i := 2) sc_spread.nd rfl (Or.inl rfl) (pe_op op_shl pe_int (pv 3)) iop_or)) pss_nil) (pss_one (ps_aug (i := 3) sc_spread.nd rfl (Or.inl rfl) pe_int ip_add)))))) (pss_one (ps_ret (pv 2)))))),
    (ds_seq (ds_asg (de_c (v := .int 0) rfl) (dg_name 2)) (ds_seq (ds_asg (de_c (v := .int 0) rfl) (dg_name 3)) (ds_seq (ds_for (di_enum (da_cons (de_var 0) da_nil)) (dg_tup (dgs_cons (dg_name 4) (dgs_cons (dg_name 5) dgs_nil))) (ds_for (di_list (de_var 5)) (dg_name 6) (ds_seq (ds_if (dt_test (de_op do_I0 (de_op do_ixL (de_var 1) (de_var 4)) (de_var 6))) (ds_aug (de_op do_I (de_c (v := .int 1) rfl) (de_var 3)) do_I0) ds_next) (ds_aug (de_c (v := .int 1) rfl) do_I0)))) (ds_ret (de_var 2)))))⟩⟩) spec_spread
theorem b_greatest_steps (T : Txt K mg) : Binds K T.fd_greatest_steps ["steps", "mask"] [] := T.F_greatest_steps.binds (ps := ["steps", "mask"]) fun _ _ _ _ _ _ us hl => match us, hl with | [_, _], _ => rfl
-- greatest_steps
theorem ok_greatest_steps (T : Txt K mg) : FnOk P w K mg base CX0 1 T.f_greatest_steps T.fd_greatest_steps ["steps", "mask"] (liftSp K [] sp_greatest_steps) :=
  okD (d := d_greatest_steps) T.F_greatest_steps sc_greatest_steps (fun cdv A outer s H E hr => ⟨_, ⟨(pss_cons (ps_set (i := 2) sc_greatest_steps.nd rfl (Or.inl rfl) (pe_lst pa_nil)) (pss_cons (ps_set (i := 3) sc_greatest_steps.nd rfl (Or.inl rfl) pe_int) (pss_cons (ps_for PassesOwn.never rfl (pi_list (pv 0)) (pg_name (i := 4) sc_greatest_steps.nd rfl (Or.inl rfl)) (pss_cons (ps_set (i := 5) sc_greatest_steps.nd rfl (Or.inl rfl) pe_int) (pss_cons (ps_for PassesOwn.never rfl (pi_list (pv 4)) (pg_name (i := 6) sc_greatest_steps.nd rfl (Or.inl rfl)) (pss_cons (ps_if (pt_cmpR op_eq (pe_op op_and (pe_op op_shr (pv 1) (pv 3)) pe_int) pe_int (nomark _)) (pss_one (ps_set (i := 5) sc_greatest_steps.nd rfl (Or.inl rfl) (pv 6))) pss_nil) (pss_one (ps_aug (i := 3) sc_greatest_steps.nd rfl (Or.inl rfl) pe_int ip_add)))) (pss_one (ps_expr (pe_bm PySem.F.plainAttrs_list PySem.F.slot_list_append PySem.F.type_list_append mt_append (pv 2) (pa_cons (pv 5) pa_nil))))))) (pss_one (ps_ret (pv 2)))))),
    (ds_seq (ds_asg (de_lst da_nil) (dg_name 2)) (ds_seq (ds_asg (de_c (v := .int 0) rfl) (dg_name 3)) (ds_seq (ds_for (di_list (de_var 0)) (dg_name 4) (ds_seq (ds_asg (de_c (v := .int 0) rfl) (dg_name 5)) (ds_seq (ds_for (di_list (de_var 4)) (dg_name 6) (ds_seq (ds_if (dt_test (de_op do_eqS (de_op do_I0 (de_op do_I (de_var 1) (de_var 3)) (de_c (v := .int 1) rfl)) (de_c (v := .int 1) rfl))) (ds_asg (de_var 6) (dg_name 5)) ds_next) (ds_aug (de_c (v := .int 1) rfl) do_I0))) (ds_drop (de_bm dm_append (de_var 2) (da_cons (de_var 5) da_nil)))))) (ds_ret (de_move 2)))))⟩⟩) spec_greatest_steps
theorem b_broken_worths (T : Txt K mg) : Binds K T.fd_broken_worths ["cells", "ahead", "behind"] [] := T.F_broken_worths.binds (ps := ["cells", "ahead", "behind"]) fun _ _ _ _ _ _ us hl => match us, hl with | [_, _, _], _ => rfl
-- broken_worths
theorem ok_broken_worths (T : Txt K mg) : FnOk P w K mg base CX0 1 T.f_broken_worths T.fd_broken_worths ["cells", "ahead", "behind"] (liftSp K [] sp_broken_worths) :=
  okD (d := d_broken_worths) T.F_broken_worths sc_broken_worths (fun cdv A outer s H E hr => ⟨_, ⟨(pss_cons (ps_set (i := 3) sc_broken_worths.nd rfl (Or.inl rfl) (pe_lst pa_nil)) (pss_cons (ps_set (i := 4) sc_broken_worths.nd rfl (Or.inl rfl) pe_bl) (pss_cons (ps_for PassesOwn.never rfl (pi_enum rfl T.z_enumerate (pa_cons (pv 0) pa_nil)) (pg_tup rfl (pgs_cons (pg_name (i := 5) sc_broken_worths.nd rfl (Or.inl rfl)) (pgs_cons (pg_name (i := 6) sc_broken_worths.nd rfl (Or.inl rfl)) pgs_nil))) (pss_cons (ps_set (i := 7) sc_broken_worths.nd rfl (Or.inl rfl) (pe_callB (call_max2 rfl) rfl T.z_max (by decide +kernel) (pa_cons (pe_ix ix_tup (pv 6) pe_int (fun _ _ => rfl)) (pa_cons (pe_ix ix_list (pv 1) (pv 5) (fun _ _ => rfl)) pa_nil)))) (pss_cons (ps_if (pt_cmpR op_gt (pv 7) (pe_ix ix_tup (pv 6) pe_int (fun _ _ => rfl)) (nomark _)) (pss_one (ps_ret pe_non)) pss_nil) (pss_cons (ps_if (pt_cmpR op_lt (pv 7) (pe_ix ix_list (pv 2) (pv 5) (fun _ _ => rfl)) (nomark _)) (pss_one (ps_set (i := 4) sc_broken_worths.nd rfl (Or.inl rfl) pe_bl)) pss_nil) (pss_one (ps_expr (pe_bm PySem.F.plainAttrs_list PySem.F.slot_list_append PySem.F.type_list_append mt_append (pv 3) (pa_cons (pv 7) pa_nil)))))))) (pss_cons (ps_if (pt_val (pv 4)) (pss_one (ps_ret (pv 3))) pss_nil) (pss_one (ps_ret pe_non)))))),
    (ds_seq (ds_asg (de_lst da_nil) (dg_name 3)) (ds_seq (ds_asg (de_c (v := .bl false) rfl) (dg_name 4)) (ds_seq (ds_for (di_enum (da_cons (de_var 0) da_nil)) (dg_tup (dgs_cons (dg_name 5) (dgs_cons (dg_name 6) dgs_nil))) (ds_seq (ds_asg (de_cb (dc_I2 (g := mxI)) (da_cons (de_op do_ixT (de_var 6) (de_c (v := .int 0) rfl)) (da_cons (de_op do_ixL (de_var 1) (de_var 5)) da_nil))) (dg_name 7)) (ds_seq (ds_if (dt_test (de_op do_I0 (de_var 7) (de_op do_ixT (de_var 6) (de_c (v := .int 1) rfl)))) (ds_ret (de_c (v := .non) rfl)) ds_next) (ds_seq (ds_if (dt_test (de_op do_I0 (de_var 7) (de_op do_ixL (de_var 2) (de_var 5)))) (ds_asg (de_c (v := .bl true) rfl) (dg_name 4)) ds_next) (ds_drop (de_bm dm_append (de_var 3) (da_cons (de_var 7) da_nil))))))) (ds_seq (ds_if (dt_b (de_var 4)) (ds_ret (de_move 3)) ds_next) (ds_ret (de_c (v := .non) rfl))))))⟩⟩) spec_broken_worths
theorem b_kept_worths (T : Txt K mg) : Binds K T.fd_kept_worths ["cells", "ahead", "behind"] [] := T.F_kept_worths.binds (ps := ["cells", "ahead", "behind"]) fun _ _ _ _ _ _ us hl => match us, hl with | [_, _, _], _ => rfl
-- kept_worths
theorem ok_kept_worths (T : Txt K mg) : FnOk P w K mg base CX0 1 T.f_kept_worths T.fd_kept_worths ["cells", "ahead", "behind"] (liftSp K [] sp_kept_worths) :=
  okD (d := d_kept_worths) T.F_kept_worths sc_kept_worths (fun cdv A outer s H E hr => ⟨_, ⟨(pss_cons (ps_setLc (i := 3) (own := [("cell", 8)]) rfl sc_kept_worths.nd rfl rfl (sw_true rfl rfl rfl (by decide +kernel)) (pi_list (pv 0)) (blkOk_by (by exact rfl)) (fun _ _ _ _ _ => (pg_name (i := 8) sc_kept_worths.nd rfl (Or.inl rfl))) (fun _ _ _ _ _ => pts_nil) (fun _ _ _ _ _ => (pe_ix ix_tup (pv 8) pe_int (fun _ _ => rfl)))) (pss_cons (ps_for PassesOwn.never rfl (pi_enum rfl T.z_enumerate (pa_cons (pv 3) pa_nil)) (pg_tup rfl (pgs_cons (pg_name (i := 4) sc_kept_worths.nd rfl (Or.inl rfl)) (pgs_cons (pg_name (i := 5) sc_kept_worths.nd rfl (Or.inl rfl)) pgs_nil))) (pss_one (ps_if (pt_cmpR op_lt (pv 5) (pe_ix ix_list (pv 1) (pv 4) (fun _ _ => rfl)) (nomark _)) (pss_one (ps_ret (pv 3))) pss_nil))) (pss_cons (ps_setLc (i := 6) (own := [("cell", 8)]) rfl sc_kept_worths.nd rfl rfl (sw_true rfl rfl rfl (by decide +kernel)) (pi_list (pv 0)) (blkOk_by (by exact rfl)) (fun _ _ _ _ _ => (pg_name (i := 8) sc_kept_worths.nd rfl (Or.inl rfl))) (fun _ _ _ _ _ => pts_nil) (fun _ _ _ _ _ => (pe_ix ix_tup (pv 8) pe_int (fun _ _ => rfl)))) (pss_cons (ps_for PassesOwn.never rfl (pi_enum rfl T.z_enumerate (pa_cons (pv 6) pa_nil)) (pg_tup rfl (pgs_cons (pg_name (i := 4) sc_kept_worths.nd rfl (Or.inl rfl)) (pgs_cons (pg_name (i := 7) sc_kept_worths.nd rfl (Or.inl rfl)) pgs_nil))) (pss_one (ps_if (pt_cmpR op_lt (pv 7) (pe_ix ix_list (pv 2) (pv 4) (fun _ _ => rfl)) (nomark _)) (pss_one (ps_ret pe_non)) pss_nil))) (pss_one (ps_ret (pv 6))))))),
    (ds_seq (ds_asg (de_fix (de_lc (di_list (de_var 0)) (dg_name 8) dt_yes (de_op do_ixT (de_var 8) (de_c (v := .int 0) rfl)) (by decide) (by decide))) (dg_name 3)) (ds_seq (ds_for (di_enum (da_cons (de_var 3) da_nil)) (dg_tup (dgs_cons (dg_name 4) (dgs_cons (dg_name 5) dgs_nil))) (ds_if (dt_test (de_op do_I0 (de_var 5) (de_op do_ixL (de_var 1) (de_var 4)))) (ds_ret (de_var 3)) ds_next)) (ds_seq (ds_asg (de_fix (de_lc (di_list (de_var 0)) (dg_name 8) dt_yes (de_op do_ixT (de_var 8) (de_c (v := .int 1) rfl)) (by decide) (by decide))) (dg_name 6)) (ds_seq (ds_for (di_enum (da_cons (de_var 6) da_nil)) (dg_tup (dgs_cons (dg_name 4) (dgs_cons (dg_name 7) dgs_nil))) (ds_if (dt_test (de_op do_I0 (de_var 7) (de_op do_ixL (de_var 2) (de_var 4)))) (ds_ret (de_c (v := .non) rfl)) ds_next)) (ds_ret (de_var 6))))))⟩⟩) spec_kept_worths
theorem b__law_cell_at (T : Txt K mg) : Binds K T.fd__law_cell_at ["script", "k"] [] := T.F__law_cell_at.binds (ps := ["script", "k"]) fun _ _ _ _ _ _ us hl => match us, hl with | [_, _], _ => rfl
-- _law_cell_at
theorem ok__law_cell_at (T : Txt K mg) : FnOk P w K mg base CX0 1 T.f__law_cell_at T.fd__law_cell_at ["script", "k"] (liftSp K [] sp__law_cell_at) :=
  okD (d := d__law_cell_at) T.F__law_cell_at sc__law_cell_at (fun cdv A outer s H E hr => ⟨_, ⟨(pss_cons (ps_if (pt_cmpR op_lt (pv 1) (pe_callB call_len_seq rfl T.z_len PySem.boot_len (pa_cons (pv 0) pa_nil)) (nomark _)) (pss_one (ps_ret (pe_ix ix_list (pv 0) (pv 1) (fun _ _ => rfl)))) pss_nil) (pss_one (ps_ret pe_int))),
    (ds_seq (ds_if (dt_test (de_op do_I0 (de_var 1) (de_cb dc_len (da_cons (de_var 0) da_nil)))) (ds_ret (de_op do_ixL (de_var 0) (de_var 1))) ds_next) (ds_ret (de_c (v := .int 0) rfl)))⟩⟩) spec__law_cell_at
theorem b__law_mixed (T : Txt K mg) : Binds K T.fd__law_mixed ["number", "k"] [] := T.F__law_mixed.binds (ps := ["number", "k"]) fun _ _ _ _ _ _ us hl => match us, hl with | [_, _], _ => rfl
-- _law_mixed
theorem ok__law_mixed (T : Txt K mg) : FnOk P w K mg base CX0 1 T.f__law_mixed T.fd__law_mixed ["number", "k"] (liftSp K [] sp__law_mixed) :=
  okD (d := d__law_mixed) T.F__law_mixed sc__law_mixed (fun cdv A outer s H E hr => ⟨_, ⟨(pss_cons (ps_set (i := 2) sc__law_mixed.nd rfl (Or.inl rfl) (pe_op op_mod (pe_op op_mul (pe_op op_add (pe_op op_add (pe_op op_mod (pv 0) pe_int) (pe_op op_mul pe_int (pv 1))) pe_int) pe_int) pe_int)) (pss_cons (ps_set (i := 3) sc__law_mixed.nd rfl (Or.inl rfl) (pe_op op_mod (pe_op op_mul (pv 2) (pe_op op_add (pe_op op_add (pe_op op_mod (pv 2) pe_int) (pv 1)) pe_int)) pe_int)) (pss_one (ps_ret (pe_op op_mod (pe_op op_add (pe_op op_mul (pv 3) pe_int) (pv 2)) pe_int))))),
    (ds_seq (ds_asg (de_op do_I (de_op do_I (de_op do_I0 (de_op do_I0 (de_op do_I (de_var 0) (de_c (v := .int 1000000007) rfl)) (de_op do_I (de_c (v := .int 7) rfl) (de_var 1))) (de_c (v := .int 1) rfl)) (de_c (v := .int 48271) rfl)) (de_c (v := .int 2147483647) rfl)) (dg_name 2)) (ds_seq (ds_asg (de_op do_I (de_op do_I (de_var 2) (de_op do_I0 (de_op do_I0 (de_op do_I (de_var 2) (de_c (v := .int 1009) rfl)) (de_var 1)) (de_c (v := .int 3) rfl))) (de_c (v := .int 998244353) rfl)) (dg_name 3)) (ds_ret (de_op do_I (de_op do_I0 (de_op do_I (de_var 3) (de_c (v := .int 69621) rfl)) (de_var 2)) (de_c (v := .int 2147483629) rfl)))))⟩⟩) spec__law_mixed
theorem b__law_reached (T : Txt K mg) : Binds K T.fd__law_reached ["row", "worth", "first"] [] := T.F__law_reached.binds (ps := ["row", "worth", "first"]) fun _ _ _ _ _ _ us hl => match us, hl with | [_, _, _], _ => rfl
-- _law_reached
theorem ok__law_reached (T : Txt K mg) : FnOk P w K mg base CX0 1 T.f__law_reached T.fd__law_reached ["row", "worth", "first"] (liftSp K [] sp__law_reached) :=
  okD (d := d__law_reached) T.F__law_reached sc__law_reached (fun cdv A outer s H E hr => ⟨_, ⟨(pss_one (ps_ret (pe_callB (cr_sum rfl) rfl T.z_sum (by decide +kernel) (pa_cons (pe_lc (own := [("k", 3), ("step", 4)]) rfl sc__law_reached.nd (pi_enum rfl T.z_enumerate (pa_cons (pv 0) pa_nil)) (blkOk_by (by exact rfl)) (fun _ _ _ _ _ => (pg_tup rfl (pgs_cons (pg_name (i := 3) sc__law_reached.nd rfl (Or.inl rfl)) (pgs_cons (pg_name (i := 4) sc__law_reached.nd rfl (Or.inl rfl)) pgs_nil)))) (fun _ _ _ _ _ => pts_one (pt_cmpR op_ge (pv 1) (pv 4) (nomark _))) (fun _ _ _ _ _ => (pe_op op_shl pe_int (pe_op op_add (pv 2) (pv 3))))) pa_nil)))),
    (ds_ret (de_cb dc_sum (da_cons (de_lc (di_enum (da_cons (de_var 0) da_nil)) (dg_tup (dgs_cons (dg_name 3) (dgs_cons (dg_name 4) dgs_nil))) (dt_test (de_op do_I0 (de_var 1) (de_var 4))) (de_op do_I (de_c (v := .int 1) rfl) (de_op do_I0 (de_var 2) (de_var 3))) (by decide) (by decide)) da_nil)))⟩⟩) spec__law_reached
theorem b_spoiling (T : Txt K mg) : Binds K T.fd_spoiling ["steps", "cells", "rule"] [] := T.F_spoiling.binds (ps := ["steps", "cells", "rule"]) fun _ _ _ _ _ _ us hl => match us, hl with | [_, _, _], _ => rfl
-- spoiling
theorem ok_spoiling (T : Txt K mg) : FnOk P w K mg base CX0 2 T.f_spoiling T.fd_spoiling ["steps", "cells", "rule"] (liftSp K [] sp_spoiling) :=
  okD (d := d_spoiling) T.F_spoiling sc_spoiling (fun cdv A outer s H E hr => ⟨_, ⟨(pss_cons (ps_set (i := 3) sc_spoiling.nd rfl (Or.inl rfl) (pe_call (ok_greatest_steps T) (hr.mono (by decide)) rfl T.m_greatest_steps T.F_greatest_steps.kp (b_greatest_steps T) .nil pass0 (pa_cons (pv 0) (pa_cons (pe_ix ix_tup (pv 2) pe_int (fun _ _ => rfl)) pa_nil)))) (pss_cons (ps_set (i := 4) sc_spoiling.nd rfl (Or.inl rfl) (pe_call (ok_greatest_steps T) (hr.mono (by decide)) rfl T.m_greatest_steps T.F_greatest_steps.kp (b_greatest_steps T) .nil pass0 (pa_cons (pv 0) (pa_cons (pe_ix ix_tup (pv 2) pe_int (fun _ _ => rfl)) pa_nil)))) (pss_cons (ps_for PassesOwn.never rfl (pi_enum rfl T.z_enumerate (pa_cons (pv 1) pa_nil)) (pg_tup rfl (pgs_cons (pg_name (i := 5) sc_spoiling.nd rfl (Or.inl rfl)) (pgs_cons (pg_name (i := 6) sc_spoiling.nd rfl (Or.inl rfl)) pgs_nil))) (pss_cons (ps_set (i := 7) sc_spoiling.nd rfl (Or.inl rfl) (pe_call (ok_broken_worths T) (hr.mono (by decide)) rfl T.m_broken_worths T.F_broken_worths.kp (b_broken_worths T) .nil pass0 (pa_cons (pv 6) (pa_cons (pv 3) (pa_cons (pv 4) pa_nil))))) (pss_one (ps_if (pt_cmpR op_notN (pv 7) pe_non (nomark _)) (pss_cons (ps_setLc (i := 8) (own := [("other", 9)]) rfl sc_spoiling.nd rfl rfl (sw_true rfl rfl rfl (by decide +kernel)) (pi_list (pv 1)) (blkOk_by (by exact rfl)) (fun _ _ _ _ _ => (pg_name (i := 9) sc_spoiling.nd rfl (Or.inl rfl))) (fun _ _ _ _ _ => pts_nil) (fun _ _ _ _ _ => (pe_lc (own := [("cell", 10)]) rfl sc_spoiling.nd (pi_list (pv 9)) (blkOk_by (by exact rfl)) (fun _ _ _ _ _ => (pg_name (i := 10) sc_spoiling.nd rfl (Or.inl rfl))) (fun _ _ _ _ _ => pts_nil) (fun _ _ _ _ _ => (pe_ix ix_tup (pv 10) pe_int (fun _ _ => rfl)))))) (pss_cons (ps_asg (pv 7) (pg_sub (pv 8) (pv 5) set_list)) (pss_one (ps_ret (pv 8))))) pss_nil)))) (pss_one (ps_ret pe_non))))),
    (ds_seq (ds_asg (de_fix (de_call (dvs := []) (da_cons (de_var 0) (da_cons (de_op do_ixT (de_var 2) (de_c (v := .int 0) rfl)) da_nil)) rfl)) (dg_name 3)) (ds_seq (ds_asg (de_fix (de_call (dvs := []) (da_cons (de_var 0) (da_cons (de_op do_ixT (de_var 2) (de_c (v := .int 1) rfl)) da_nil)) rfl)) (dg_name 4)) (ds_seq (ds_for (di_enum (da_cons (de_var 1) da_nil)) (dg_tup (dgs_cons (dg_name 5) (dgs_cons (dg_name 6) dgs_nil))) (ds_seq (ds_asg (de_fix (de_call (dvs := []) (da_cons (de_var 6) (da_cons (de_var 3) (da_cons (de_var 4) da_nil))) rfl)) (dg_name 7)) (ds_if (dt_test (de_op do_notN (de_var 7) (de_c (v := .non) rfl))) (ds_seq (ds_asg (de_lc (di_list (de_var 1)) (dg_name 9) dt_yes (de_fix (de_lc (di_list (de_var 9)) (dg_name 10) dt_yes (de_op do_ixT (de_var 10) (de_c (v := .int 0) rfl)) (by decide) (by decide))) (by decide) (by decide)) (dg_name 8)) (ds_seq (ds_asg (de_var 7) (dg_setL (de_var 8) (de_var 5))) (ds_ret (de_move 8)))) ds_next))) (ds_ret (de_c (v := .non) rfl)))))⟩⟩) spec_spoiling
theorem b_mending (T : Txt K mg) : Binds K T.fd_mending ["steps", "cells", "rule"] [] := T.F_mending.binds (ps := ["steps", "cells", "rule"]) fun _ _ _ _ _ _ us hl => match us, hl with | [_, _, _], _ => rfl
-- mending
theorem ok_mending (T : Txt K mg) : FnOk P w K mg base CX0 2 T.f_mending T.fd_mending ["steps", "cells", "rule"] (liftSp K [] sp_mending) :=
  okD (d := d_mending) T.F_mending sc_mending (fun cdv A outer s H E hr => ⟨_, ⟨(pss_cons (ps_set (i := 3) sc_mending.nd rfl (Or.inl rfl) (pe_call (ok_greatest_steps T) (hr.mono (by decide)) rfl T.m_greatest_steps T.F_greatest_steps.kp (b_greatest_steps T) .nil pass0 (pa_cons (pv 0) (pa_cons (pe_ix ix_tup (pv 2) pe_int (fun _ _ => rfl)) pa_nil)))) (pss_cons (ps_set (i := 4) sc_mending.nd rfl (Or.inl rfl) (pe_call (ok_greatest_steps T) (hr.mono (by decide)) rfl T.m_greatest_steps T.F_greatest_steps.kp (b_greatest_steps T) .nil pass0 (pa_cons (pv 0) (pa_cons (pe_ix ix_tup (pv 2) pe_int (fun _ _ => rfl)) pa_nil)))) (pss_cons (ps_set (i := 5) sc_mending.nd rfl (Or.inl rfl) (pe_lst pa_nil)) (pss_cons (ps_for PassesOwn.never rfl (pi_list (pv 1)) (pg_name (i := 6) sc_mending.nd rfl (Or.inl rfl)) (pss_cons (ps_set (i := 7) sc_mending.nd rfl (Or.inl rfl) (pe_call (ok_kept_worths T) (hr.mono (by decide)) rfl T.m_kept_worths T.F_kept_worths.kp (b_kept_worths T) .nil pass0 (pa_cons (pv 6) (pa_cons (pv 3) (pa_cons (pv 4) pa_nil))))) (pss_cons (ps_if (pt_cmpR op_isN (pv 7) pe_non (nomark _)) (pss_one (ps_ret pe_non)) pss_nil) (pss_one (ps_expr (pe_bm PySem.F.plainAttrs_list PySem.F.slot_list_append PySem.F.type_list_append mt_append (pv 5) (pa_cons (pv 7) pa_nil))))))) (pss_one (ps_ret (pv 5))))))),
    (ds_seq (ds_asg (de_fix (de_call (dvs := []) (da_cons (de_var 0) (da_cons (de_op do_ixT (de_var 2) (de_c (v := .int 0) rfl)) da_nil)) rfl)) (dg_name 3)) (ds_seq (ds_asg (de_fix (de_call (dvs := []) (da_cons (de_var 0) (da_cons (de_op do_ixT (de_var 2) (de_c (v := .int 1) rfl)) da_nil)) rfl)) (dg_name 4)) (ds_seq (ds_asg (de_lst da_nil) (dg_name 5)) (ds_seq (ds_for (di_list (de_var 1)) (dg_name 6) (ds_seq (ds_asg (de_fix (de_call (dvs := []) (da_cons (de_var 6) (da_cons (de_var 3) (da_cons (de_var 4) da_nil))) rfl)) (dg_name 7)) (ds_seq (ds_if (dt_test (de_op do_isN (de_var 7) (de_c (v := .non) rfl))) (ds_ret (de_c (v := .non) rfl)) ds_next) (ds_drop (de_bm dm_append (de_var 5) (da_cons (de_var 7) da_nil)))))) (ds_ret (de_move 5))))))⟩⟩) spec_mending
theorem b__law_box (T : Txt K mg) : Binds K T.fd__law_box ["script", "k"] [] := T.F__law_box.binds (ps := ["script", "k"]) fun _ _ _ _ _ _ us hl => match us, hl with | [_, _], _ => rfl
-- _law_box
theorem ok__law_box (T : Txt K mg) : FnOk P w K mg base CX0 2 T.f__law_box T.fd__law_box ["script", "k"] (liftSp K [] sp__law_box) :=
  okD (d := d__law_box) T.F__law_box sc__law_box (fun cdv A outer s H E hr => ⟨_, ⟨(pss_cons (ps_set (i := 2) sc__law_box.nd rfl (Or.inl rfl) (pe_call (ok__law_cell_at T) (hr.mono (by decide)) rfl T.m__law_cell_at T.F__law_cell_at.kp (b__law_cell_at T) .nil pass0 (pa_cons (pv 0) (pa_cons (pv 1) pa_nil)))) (pss_one (ps_ret (pe_lst (pa_cons (pe_op op_mul (pe_callB call_abs rfl T.z_abs (by decide +kernel) (pa_cons (pv 2) pa_nil)) (pe_callTy call_int1 rfl T.z_int (by decide +kernel) (pa_cons (pe_cmpR op_ge (pe_callB call_abs rfl T.z_abs (by decide +kernel) (pa_cons (pv 2) pa_nil)) (pe_op op_pow pe_int pe_int) (nomark _)) pa_nil))) (pa_cons (pe_call (ok__law_mixed T) (hr.mono (by decide)) rfl T.m__law_mixed T.F__law_mixed.kp (b__law_mixed T) .nil pass0 (pa_cons (pv 2) (pa_cons (pe_op op_add pe_int (pv 1)) pa_nil))) (pa_cons pe_int pa_nil))))))),
    (ds_seq (ds_asg (de_call (dvs := []) (da_cons (de_var 0) (da_cons (de_var 1) da_nil)) rfl) (dg_name 2)) (ds_ret (de_lst (da_cons (de_op do_I (de_cb dc_I1 (da_cons (de_var 2) da_nil)) (de_cb dc_int (da_cons (de_op do_I0 (de_cb dc_I1 (da_cons (de_var 2) da_nil)) (de_op do_I (de_c (v := .int 10) rfl) (de_c (v := .int 18) rfl))) da_nil))) (da_cons (de_call (dvs := []) (da_cons (de_var 2) (da_cons (de_op do_I0 (de_c (v := .int 900) rfl) (de_var 1)) da_nil)) rfl) (da_cons (de_c (v := .int 0) rfl) da_nil))))))⟩⟩) spec__law_box
theorem b__law_take (T : Txt K mg) : Binds K T.fd__law_take ["box", "many"] [] := T.F__law_take.binds (ps := ["box", "many"]) fun _ _ _ _ _ _ us hl => match us, hl with | [_, _], _ => rfl
-- _law_take
theorem ok__law_take (T : Txt K mg) : FnOk P w K mg base CX0 2 T.f__law_take T.fd__law_take ["box", "many"] (liftSp K [0] sp__law_take) :=
  okD (d := d__law_take) T.F__law_take sc__law_take (fun cdv A outer s H E hr => ⟨_, ⟨(pss_cons (ps_if (pt_cmpR op_gt (pe_ix ix_list (pv 0) pe_int (fun _ _ => rfl)) pe_int (nomark _)) (pss_cons (ps_set (i := 2) sc__law_take.nd rfl (Or.inl rfl) (pe_op op_mod (pe_ix ix_list (pv 0) pe_int (fun _ _ => rfl)) (pv 1))) (pss_cons (ps_asg (pe_op op_fdivW (pe_ix ix_list (pv 0) pe_int (fun _ _ => rfl)) (pv 1)) (pg_sub (pv 0) pe_int set_list)) (pss_one (ps_ret (pv 2))))) pss_nil) (pss_cons (ps_asg (pe_op op_add (pe_ix ix_list (pv 0) pe_int (fun _ _ => rfl)) pe_int) (pg_sub (pv 0) pe_int set_list)) (pss_one (ps_ret (pe_op op_mod (pe_call (ok__law_mixed T) (hr.mono (by decide)) rfl T.m__law_mixed T.F__law_mixed.kp (b__law_mixed T) .nil pass0 (pa_cons (pe_ix ix_list (pv 0) pe_int (fun _ _ => rfl)) (pa_cons (pe_ix ix_list (pv 0) pe_int (fun _ _ => rfl)) pa_nil))) (pv 1)))))),
    (ds_seq (ds_if (dt_test (de_op do_I0 (de_op do_ixL (de_var 0) (de_c (v := .int 0) rfl)) (de_c (v := .int 0) rfl))) (ds_seq (ds_asg (de_op do_I (de_op do_ixL (de_var 0) (de_c (v := .int 0) rfl)) (de_var 1)) (dg_name 2)) (ds_seq (ds_asg (de_op do_I (de_op do_ixL (de_var 0) (de_c (v := .int 0) rfl)) (de_var 1)) (dg_setL (de_var 0) (de_c (v := .int 0) rfl))) (ds_ret (de_var 2)))) ds_next) (ds_seq (ds_asg (de_op do_I0 (de_op do_ixL (de_var 0) (de_c (v := .int 2) rfl)) (de_c (v := .int 1) rfl)) (dg_setL (de_var 0) (de_c (v := .int 2) rfl))) (ds_ret (de_op do_I (de_call (dvs := []) (da_cons (de_op do_ixL (de_var 0) (de_c (v := .int 1) rfl)) (da_cons (de_op do_ixL (de_var 0) (de_c (v := .int 2) rfl)) da_nil)) rfl) (de_var 1)))))⟩⟩) spec__law_take
theorem b__law_ways (T : Txt K mg) : Binds K T.fd__law_ways ["row", "cell", "first"] [] := T.F__law_ways.binds (ps := ["row", "cell", "first"]) fun _ _ _ _ _ _ us hl => match us, hl with | [_, _, _], _ => rfl
-- _law_ways
theorem ok__law_ways (T : Txt K mg) : FnOk P w K mg base CX0 2 T.f__law_ways T.fd__law_ways ["row", "cell", "first"] (liftSp K [] sp__law_ways) :=
  okD (d := d__law_ways) T.F__law_ways sc__law_ways (fun cdv A outer s H E hr => ⟨_, ⟨(pss_cons (ps_set (i := 3) sc__law_ways.nd rfl (Or.inl rfl) (pe_op op_cat (pe_lst (pa_cons (pe_ix ix_tup (pv 1) pe_int (fun _ _ => rfl)) pa_nil)) (pe_lc (own := [("step", 4)]) rfl sc__law_ways.nd (pi_list (pv 0)) (blkOk_by (by exact rfl)) (fun _ _ _ _ _ => (pg_name (i := 4) sc__law_ways.nd rfl (Or.inl rfl))) (fun _ _ _ _ _ => pts_one (pt_chain op_lt op_le (pe_ix ix_tup (pv 1) pe_int (fun _ _ => rfl)) (pv 4) (pe_ix ix_tup (pv 1) pe_int (fun _ _ => rfl)))) (fun _ _ _ _ _ => (pv 4))))) (pss_one (ps_ret (pe_tup (pa_cons (pe_lc (own := [("worth", 5)]) rfl sc__law_ways.nd (pi_list (pv 3)) (blkOk_by (by exact rfl)) (fun _ _ _ _ _ => (pg_name (i := 5) sc__law_ways.nd rfl (Or.inl rfl))) (fun _ _ _ _ _ => pts_nil) (fun _ _ _ _ _ => (pe_call (ok__law_reached T) (hr.mono (by decide)) rfl T.m__law_reached T.F__law_reached.kp (b__law_reached T) .nil pass0 (pa_cons (pv 0) (pa_cons (pv 5) (pa_cons (pv 2) pa_nil)))))) (pa_cons (pe_op op_sub (pe_op op_shl pe_int (pe_op op_add (pv 2) (pe_callB call_len_seq rfl T.z_len PySem.boot_len (pa_cons (pv 0) pa_nil)))) (pe_op op_shl pe_int (pv 2))) pa_nil)))))),
    (ds_seq (ds_asg (de_fix (de_op do_cat (de_lst (da_cons (de_op do_ixT (de_var 1) (de_c (v := .int 0) rfl)) da_nil)) (de_lc (di_list (de_var 0)) (dg_name 4) (dt_test (de_chn do_I0 do_I0 (de_op do_ixT (de_var 1) (de_c (v := .int 0) rfl)) (de_var 4) (de_op do_ixT (de_var 1) (de_c (v := .int 1) rfl)))) (de_var 4) (by decide) (by decide)))) (dg_name 3)) (ds_ret (de_tup (da_cons (de_fix (de_lc (di_list (de_var 3)) (dg_name 5) dt_yes (de_call (dvs := []) (da_cons (de_var 0) (da_cons (de_var 5) (da_cons (de_var 2) da_nil))) rfl) (by decide) (by decide))) (da_cons (de_op do_I0 (de_op do_I (de_c (v := .int 1) rfl) (de_op do_I0 (de_var 2) (de_cb dc_len (da_cons (de_var 0) da_nil)))) (de_op do_I (de_c (v := .int 1) rfl) (de_var 2))) da_nil)))))⟩⟩) spec__law_ways
theorem b__law_filling (T : Txt K mg) : Binds K T.fd__law_filling ["steps", "cells", "rule", "filling"] [] := T.F__law_filling.binds (ps := ["steps", "cells", "rule", "filling"]) fun _ _ _ _ _ _ us hl => match us, hl with | [_, _, _, _], _ => rfl
-- _law_filling
theorem ok__law_filling (T : Txt K mg) : FnOk P w K mg base CX0 2 T.f__law_filling T.fd__law_filling ["steps", "cells", "rule", "filling"] (liftSp K [] sp__law_filling) :=
  okD (d := d__law_filling) T.F__law_filling sc__law_filling (fun cdv A outer s H E hr => ⟨_, ⟨(pss_cons (ps_if (PW.pt (pw_or (pt_not (pt_val (pe_callB call_isi rfl T.z_isinstance (by decide +kernel) (pa_cons (pv 3) (pa_cons (pe_bltn (v := .ty "list") rfl T.z_list (by decide +kernel) rfl) pa_nil))))) (pw_or1 (pt_cmpR op_ne (pe_callB call_len_seq rfl T.z_len PySem.boot_len (pa_cons (pv 3) pa_nil)) (pe_callB call_len_seq rfl T.z_len PySem.boot_len (pa_cons (pv 1) pa_nil)) (nomark _))))) (pss_one (ps_ret pe_non)) pss_nil) (pss_cons (ps_set (i := 4) sc__law_filling.nd rfl (Or.inl rfl) pe_bl) (pss_cons (ps_for PassesOwn.never rfl (pi_zip rfl T.z_zip (pa_cons (pv 1) (pa_cons (pv 3) pa_nil))) (pg_tup rfl (pgs_cons (pg_name (i := 5) sc__law_filling.nd rfl (Or.inl rfl)) (pgs_cons (pg_name (i := 6) sc__law_filling.nd rfl (Or.inl rfl)) pgs_nil))) (pss_cons (ps_if (PW.pt (pw_or (pt_not (pt_val (pe_callB call_isi rfl T.z_isinstance (by decide +kernel) (pa_cons (pv 6) (pa_cons (pe_bltn (v := .ty "list") rfl T.z_list (by decide +kernel) rfl) pa_nil))))) (pw_or1 (pt_cmpR op_ne (pe_callB call_len_seq rfl T.z_len PySem.boot_len (pa_cons (pv 6) pa_nil)) (pe_callB call_len_seq rfl T.z_len PySem.boot_len (pa_cons (pv 5) pa_nil)) (nomark _))))) (pss_one (ps_ret pe_non)) pss_nil) (pss_cons (ps_asg (pe_tup (pa_cons pe_int (pa_cons pe_int pa_nil))) (pg_tup rfl (pgs_cons (pg_name (i := 7) sc__law_filling.nd rfl (Or.inl rfl)) (pgs_cons (pg_name (i := 8) sc__law_filling.nd rfl (Or.inl rfl)) pgs_nil)))) (pss_cons (ps_for PassesOwn.never rfl (pi_zip3 rfl T.z_zip (pa_cons (pv 0) (pa_cons (pv 5) (pa_cons (pv 6) pa_nil)))) (pg_tup rfl (pgs_cons (pg_name (i := 9) sc__law_filling.nd rfl (Or.inl rfl)) (pgs_cons (pg_name (i := 10) sc__law_filling.nd rfl (Or.inl rfl)) (pgs_cons (pg_name (i := 11) sc__law_filling.nd rfl (Or.inl rfl)) pgs_nil)))) (pss_cons (ps_if (PW.pt (pw_or (pt_not (pt_val (pe_callB call_isi rfl T.z_isinstance (by decide +kernel) (pa_cons (pv 11) (pa_cons (pe_bltn (v := .ty "int") rfl T.z_int (by decide +kernel) rfl) pa_nil))))) (pw_or (pt_val (pe_callB call_isi rfl T.z_isinstance (by decide +kernel) (pa_cons (pv 11) (pa_cons (pe_bltn (v := .ty "bool") rfl T.z_bool (by decide +kernel) rfl) pa_nil)))) (pw_or1 (pt_not (pt_chain op_le op_le (pe_ix ix_tup (pv 10) pe_int (fun _ _ => rfl)) (pv 11) (pe_ix ix_tup (pv 10) pe_int (fun _ _ => rfl)))))))) (pss_one (ps_ret pe_non)) pss_nil) (pss_cons (ps_set (i := 7) sc__law_filling.nd rfl (Or.inl rfl) (pe_op op_add (pv 7) (pe_call (ok__law_reached T) (hr.mono (by decide)) rfl T.m__law_reached T.F__law_reached.kp (b__law_reached T) .nil pass0 (pa_cons (pv 9) (pa_cons (pv 11) (pa_cons (pv 8) pa_nil)))))) (pss_one (ps_set (i := 8) sc__law_filling.nd rfl (Or.inl rfl) (pe_op op_add (pv 8) (pe_callB call_len_seq rfl T.z_len PySem.boot_len (pa_cons (pv 9) pa_nil)))))))) (pss_cons (ps_if (PW.pt (pw_and (pt_cmpR op_eq (pe_op op_and (pv 7) (pe_ix ix_tup (pv 2) pe_int (fun _ _ => rfl))) (pe_ix ix_tup (pv 2) pe_int (fun _ _ => rfl)) (nomark _)) (pw_and1 (pt_cmpR op_ne (pe_op op_and (pv 7) (pe_ix ix_tup (pv 2) pe_int (fun _ _ => rfl))) (pe_ix ix_tup (pv 2) pe_int (fun _ _ => rfl)) (nomark _))))) (pss_one (ps_set (i := 4) sc__law_filling.nd rfl (Or.inl rfl) pe_bl)) pss_nil) (pss_one (ps_if (pt_cmpR op_ne (pe_call (ok_spread T) (hr.mono (by decide)) rfl T.m_spread T.F_spread.kp (b_spread T) .nil pass0 (pa_cons (pv 0) (pa_cons (pe_callTy call_list_of rfl T.z_list (by decide +kernel) (pa_cons (pv 6) pa_nil)) pa_nil))) (pv 7) (nomark _)) (pss_one (ps_ret pe_non)) pss_nil))))))) (pss_one (ps_ret (pv 4)))))),
    (ds_seq (ds_if (dt_or (dt_not (dt_b (de_cb dc_isi (da_cons (de_var 3) (da_cons (de_ty "list") da_nil))))) (dt_test (de_op do_neS (de_cb dc_len (da_cons (de_var 3) da_nil)) (de_cb dc_len (da_cons (de_var 1) da_nil))))) (ds_ret (de_c (v := .non) rfl)) ds_next) (ds_seq (ds_asg (de_c (v := .bl true) rfl) (dg_name 4)) (ds_seq (ds_for (di_zip (da_cons (de_var 1) (da_cons (de_var 3) da_nil))) (dg_tup (dgs_cons (dg_name 5) (dgs_cons (dg_name 6) dgs_nil))) (ds_seq (ds_if (dt_or (dt_not (dt_b (de_cb dc_isi (da_cons (de_var 6) (da_cons (de_ty "list") da_nil))))) (dt_test (de_op do_neS (de_cb dc_len (da_cons (de_var 6) da_nil)) (de_cb dc_len (da_cons (de_var 5) da_nil))))) (ds_ret (de_c (v := .non) rfl)) ds_next) (ds_seq (ds_asgT (da_cons (de_c (v := .int 0) rfl) (da_cons (de_c (v := .int 0) rfl) da_nil)) (dgs_cons (dg_name 7) (dgs_cons (dg_name 8) dgs_nil))) (ds_seq (ds_for (di_zip3 (da_cons (de_var 0) (da_cons (de_var 5) (da_cons (de_var 6) da_nil)))) (dg_tup (dgs_cons (dg_name 9) (dgs_cons (dg_name 10) (dgs_cons (dg_name 11) dgs_nil)))) (ds_seq (ds_if (dt_or (dt_not (dt_b (de_cb dc_isi (da_cons (de_var 11) (da_cons (de_ty "int") da_nil))))) (dt_or (dt_b (de_cb dc_isi (da_cons (de_var 11) (da_cons (de_ty "bool") da_nil)))) (dt_not (dt_test (de_chn do_I0 do_I0 (de_op do_ixT (de_var 10) (de_c (v := .int 0) rfl)) (de_var 11) (de_op do_ixT (de_var 10) (de_c (v := .int 1) rfl))))))) (ds_ret (de_c (v := .non) rfl)) ds_next) (ds_seq (ds_asg (de_op do_I0 (de_var 7) (de_call (dvs := []) (da_cons (de_var 9) (da_cons (de_var 11) (da_cons (de_var 8) da_nil))) rfl)) (dg_name 7)) (ds_asg (de_op do_I0 (de_var 8) (de_cb dc_len (da_cons (de_var 9) da_nil))) (dg_name 8))))) (ds_seq (ds_if (dt_and (dt_test (de_op do_eqS (de_op do_I0 (de_var 7) (de_op do_ixT (de_var 2) (de_c (v := .int 0) rfl))) (de_op do_ixT (de_var 2) (de_c (v := .int 0) rfl)))) (dt_test (de_op do_neS (de_op do_I0 (de_var 7) (de_op do_ixT (de_var 2) (de_c (v := .int 1) rfl))) (de_op do_ixT (de_var 2) (de_c (v := .int 1) rfl))))) (ds_asg (de_c (v := .bl false) rfl) (dg_name 4)) ds_next) (ds_if (dt_test (de_op do_neS (de_call (dvs := []) (da_cons (de_var 0) (da_cons (de_fix (de_cb dc_list (da_cons (de_var 6) da_nil))) da_nil)) rfl) (de_var 7))) (ds_ret (de_c (v := .non) rfl)) ds_next)))))) (ds_ret (de_var 4)))))⟩⟩) spec__law_filling
theorem b_sure (T : Txt K mg) : Binds K T.fd_sure ["steps", "cells", "rule"] [] := T.F_sure.binds (ps := ["steps", "cells", "rule"]) fun _ _ _ _ _ _ us hl => match us, hl with | [_, _, _], _ => rfl
-- sure
theorem ok_sure (T : Txt K mg) : FnOk P w K mg base CX0 3 T.f_sure T.fd_sure ["steps", "cells", "rule"] (liftSp K [] sp_sure) :=
  okD (d := d_sure) T.F_sure sc_sure (fun cdv A outer s H E hr => ⟨_, ⟨(pss_one (ps_ret (pe_cmpR op_isN (pe_call (ok_spoiling T) (hr.mono (by decide)) rfl T.m_spoiling T.F_spoiling.kp (b_spoiling T) .nil pass0 (pa_cons (pv 0) (pa_cons (pv 1) (pa_cons (pv 2) pa_nil)))) pe_non (nomark _)))),
    (ds_ret (de_op do_isN (de_call (dvs := []) (da_cons (de_var 0) (da_cons (de_var 1) (da_cons (de_var 2) da_nil))) rfl) (de_c (v := .non) rfl)))⟩⟩) spec_sure
theorem b__law_steps (T : Txt K mg) : Binds K T.fd__law_steps ["box", "columns"] [] := T.F__law_steps.binds (ps := ["box", "columns"]) fun _ _ _ _ _ _ us hl => match us, hl with | [_, _], _ => rfl
-- _law_steps
theorem ok__law_steps (T : Txt K mg) : FnOk P w K mg base CX0 3 T.f__law_steps T.fd__law_steps ["box", "columns"] (liftSp K [0] sp__law_steps) :=
  okD (d := d__law_steps) T.F__law_steps sc__law_steps (fun cdv A outer s H E hr => ⟨_, ⟨(pss_cons (ps_set (i := 2) sc__law_steps.nd rfl (Or.inr rfl) (pe_op op_sub (pe_op op_pow pe_int pe_int) pe_int)) (pss_cons (ps_set (i := 3) sc__law_steps.nd rfl (Or.inl rfl) (pe_lst pa_nil)) (pss_cons (ps_set (i := 4) sc__law_steps.nd rfl (Or.inl rfl) (pv 1)) (pss_cons (ps_set (i := 5) sc__law_steps.nd rfl (Or.inl rfl) (pe_call (ok__law_take T) (hr.mono (by decide)) rfl T.m__law_take T.F__law_take.kp (b__law_take T) .nil pass0 (pa_cons (pv 0) (pa_cons pe_int pa_nil)))) (pss_cons (ps_while PassesOwn.never (pt_cmpR op_gt (pv 4) pe_int (nomark _)) (pss_cons (ps_set (i := 6) sc__law_steps.nd rfl (Or.inr rfl) (pe_ix ix_list (pe_lst (pa_cons (pe_op op_add pe_int (pe_call (ok__law_take T) (hr.mono (by decide)) rfl T.m__law_take T.F__law_take.kp (b__law_take T) .nil pass0 (pa_cons (pv 0) (pa_cons (pe_callB (call_min2 rfl) rfl T.z_min (by decide +kernel) (pa_cons pe_int (pa_cons (pv 4) pa_nil))) pa_nil)))) (pa_cons pe_int pa_nil))) (pv 5) (fun _ _ => rfl))) (pss_cons (ps_set (i := 7) sc__law_steps.nd rfl (Or.inr rfl) (pe_op op_add pe_int (pe_ix ix_list (pe_lst (pa_cons (pe_call (ok__law_take T) (hr.mono (by decide)) rfl T.m__law_take T.F__law_take.kp (b__law_take T) .nil pass0 (pa_cons (pv 0) (pa_cons pe_int pa_nil))) (pa_cons (pe_op op_mul (pe_call (ok__law_take T) (hr.mono (by decide)) rfl T.m__law_take T.F__law_take.kp (b__law_take T) .nil pass0 (pa_cons (pv 0) (pa_cons (pe_op op_pow pe_int pe_int) pa_nil))) pe_int) (pa_cons (pe_op op_sub (pv 2) pe_int) pa_nil)))) (pe_call (ok__law_take T) (hr.mono (by decide)) rfl T.m__law_take T.F__law_take.kp (b__law_take T) .nil pass0 (pa_cons (pv 0) (pa_cons pe_int pa_nil))) (fun _ _ => rfl)))) (pss_cons (ps_set (i := 8) sc__law_steps.nd rfl (Or.inr rfl) (pe_ix ix_list (pe_lst (pa_cons pe_int (pa_cons (pe_op op_add pe_int (pe_op op_mul (pe_call (ok__law_take T) (hr.mono (by decide)) rfl T.m__law_take T.F__law_take.kp (b__law_take T) .nil pass0 (pa_cons (pv 0) (pa_cons (pe_op op_pow pe_int pe_int) pa_nil))) pe_int)) pa_nil))) (pe_call (ok__law_take T) (hr.mono (by decide)) rfl T.m__law_take T.F__law_take.kp (b__law_take T) .nil pass0 (pa_cons (pv 0) (pa_cons pe_int pa_nil))) (fun _ _ => rfl))) (pss_cons (ps_expr (pe_bm PySem.F.plainAttrs_list PySem.F.slot_list_append PySem.F.type_list_append mt_append (pv 3) (pa_cons (pe_lc (own := [("k", 9)]) rfl sc__law_steps.nd (pi_range1 rfl T.z_range (pa_cons (pv 6) pa_nil)) (blkOk_by (by exact rfl)) (fun _ _ _ _ _ => (pg_name (i := 9) sc__law_steps.nd rfl (Or.inl rfl))) (fun _ _ _ _ _ => pts_nil) (fun _ _ _ _ _ => (pe_callB (call_min2 rfl) rfl T.z_min (by decide +kernel) (pa_cons (pe_op op_add (pv 7) (pe_op op_mul (pv 8) (pv 9))) (pa_cons (pe_op op_add (pe_op op_add (pe_op op_sub (pv 2) (pv 6)) pe_int) (pv 9)) pa_nil))))) pa_nil))) (pss_one (ps_set (i := 4) sc__law_steps.nd rfl (Or.inl rfl) (pe_op op_sub (pv 4) (pv 6))))))))) (pss_one (ps_ret (pv 3)))))))),
    (ds_seq (ds_asg (de_op do_I0 (de_op do_I (de_c (v := .int 10) rfl) (de_c (v := .int 18) rfl)) (de_c (v := .int 1) rfl)) (dg_name 2)) (ds_seq (ds_asg (de_lst da_nil) (dg_name 3)) (ds_seq (ds_asg (de_var 1) (dg_name 4)) (ds_seq (ds_asg (de_callO (da_cons (de_var 0) (da_cons (de_c (v := .int 2) rfl) da_nil))) (dg_name 5)) (ds_seq (ds_while (dt_test (de_op do_I0 (de_var 4) (de_c (v := .int 0) rfl))) (ds_seq (ds_asg (de_op do_ixL (de_lst (da_cons (de_op do_I0 (de_c (v := .int 1) rfl) (de_callO (da_cons (de_var 0) (da_cons (de_cb (dc_I2 (g := mnI)) (da_cons (de_c (v := .int 4) rfl) (da_cons (de_var 4) da_nil))) da_nil)))) (da_cons (de_c (v := .int 1) rfl) da_nil))) (de_var 5)) (dg_name 6)) (ds_seq (ds_asg (de_op do_I0 (de_c (v := .int 1) rfl) (de_op do_ixL (de_lst (da_cons (de_callO (da_cons (de_var 0) (da_cons (de_c (v := .int 9) rfl) da_nil))) (da_cons (de_op do_I (de_callO (da_cons (de_var 0) (da_cons (de_op do_I (de_c (v := .int 10) rfl) (de_c (v := .int 9) rfl)) da_nil))) (de_c (v := .int 900000000) rfl)) (da_cons (de_op do_I0 (de_var 2) (de_c (v := .int 5) rfl)) da_nil)))) (de_callO (da_cons (de_var 0) (da_cons (de_c (v := .int 3) rfl) da_nil))))) (dg_name 7)) (ds_seq (ds_asg (de_op do_ixL (de_lst (da_cons (de_c (v := .int 1) rfl) (da_cons (de_op do_I0 (de_c (v := .int 1) rfl) (de_op do_I (de_callO (da_cons (de_var 0) (da_cons (de_op do_I (de_c (v := .int 10) rfl) (de_c (v := .int 9) rfl)) da_nil))) (de_c (v := .int 90000000) rfl))) da_nil))) (de_callO (da_cons (de_var 0) (da_cons (de_c (v := .int 2) rfl) da_nil)))) (dg_name 8)) (ds_seq (ds_drop (de_bm dm_append (de_var 3) (da_cons (de_fix (de_lc (di_rng1 (da_cons (de_var 6) da_nil)) (dg_name 9) dt_yes (de_cb (dc_I2 (g := mnI)) (da_cons (de_op do_I0 (de_var 7) (de_op do_I (de_var 8) (de_var 9))) (da_cons (de_op do_I0 (de_op do_I0 (de_op do_I0 (de_var 2) (de_var 6)) (de_c (v := .int 1) rfl)) (de_var 9)) da_nil))) (by decide) (by decide))) da_nil))) (ds_asg (de_op do_I0 (de_var 4) (de_var 6)) (dg_name 4))))))) (ds_ret (de_move 3)))))))⟩⟩) spec__law_steps
theorem b__law_worth (T : Txt K mg) : Binds K T.fd__law_worth ["box", "row"] [] := T.F__law_worth.binds (ps := ["box", "row"]) fun _ _ _ _ _ _ us hl => match us, hl with | [_, _], _ => rfl
-- _law_worth
theorem ok__law_worth (T : Txt K mg) : FnOk P w K mg base CX0 3 T.f__law_worth T.fd__law_worth ["box", "row"] (liftSp K [0] sp__law_worth) :=
  okD (d := d__law_worth) T.F__law_worth sc__law_worth (fun cdv A outer s H E hr => ⟨_, ⟨(pss_cons (ps_set (i := 2) sc__law_worth.nd rfl (Or.inl rfl) (pe_op op_sub (pe_op op_pow pe_int pe_int) pe_int)) (pss_cons (ps_set (i := 3) sc__law_worth.nd rfl (Or.inl rfl) (pe_ix ix_list (pv 1) (pe_call (ok__law_take T) (hr.mono (by decide)) rfl T.m__law_take T.F__law_take.kp (b__law_take T) .nil pass0 (pa_cons (pv 0) (pa_cons (pe_callB call_len_seq rfl T.z_len PySem.boot_len (pa_cons (pv 1) pa_nil)) pa_nil))) (fun _ _ => rfl))) (pss_cons (ps_set (i := 4) sc__law_worth.nd rfl (Or.inl rfl) (pe_op op_add (pe_op op_mul (pe_call (ok__law_take T) (hr.mono (by decide)) rfl T.m__law_take T.F__law_take.kp (b__law_take T) .nil pass0 (pa_cons (pv 0) (pa_cons (pe_op op_pow pe_int pe_int) pa_nil))) (pe_op op_pow pe_int pe_int)) (pe_call (ok__law_take T) (hr.mono (by decide)) rfl T.m__law_take T.F__law_take.kp (b__law_take T) .nil pass0 (pa_cons (pv 0) (pa_cons (pe_op op_pow pe_int pe_int) pa_nil))))) (pss_one (ps_ret (pe_ix ix_list (pe_lst (pa_cons pe_int (pa_cons (pv 3) (pa_cons (pe_op op_sub (pv 3) pe_int) (pa_cons (pe_callB (call_min2 rfl) rfl T.z_min (by decide +kernel) (pa_cons (pe_op op_add (pv 3) pe_int) (pa_cons (pv 2) pa_nil))) (pa_cons (pv 2) (pa_cons (pv 4) pa_nil))))))) (pe_call (ok__law_take T) (hr.mono (by decide)) rfl T.m__law_take T.F__law_take.kp (b__law_take T) .nil pass0 (pa_cons (pv 0) (pa_cons pe_int pa_nil))) (fun _ _ => rfl))))))),
    (ds_seq (ds_asg (de_op do_I0 (de_op do_I (de_c (v := .int 10) rfl) (de_c (v := .int 18) rfl)) (de_c (v := .int 1) rfl)) (dg_name 2)) (ds_seq (ds_asg (de_op do_ixL (de_var 1) (de_callO (da_cons (de_var 0) (da_cons (de_cb dc_len (da_cons (de_var 1) da_nil)) da_nil)))) (dg_name 3)) (ds_seq (ds_asg (de_op do_I0 (de_op do_I (de_callO (da_cons (de_var 0) (da_cons (de_op do_I (de_c (v := .int 10) rfl) (de_c (v := .int 9) rfl)) da_nil))) (de_op do_I (de_c (v := .int 10) rfl) (de_c (v := .int 9) rfl))) (de_callO (da_cons (de_var 0) (da_cons (de_op do_I (de_c (v := .int 10) rfl) (de_c (v := .int 9) rfl)) da_nil)))) (dg_name 4)) (ds_ret (de_op do_ixL (de_lst (da_cons (de_c (v := .int 0) rfl) (da_cons (de_var 3) (da_cons (de_op do_I0 (de_var 3) (de_c (v := .int 1) rfl)) (da_cons (de_cb (dc_I2 (g := mnI)) (da_cons (de_op do_I0 (de_var 3) (de_c (v := .int 1) rfl)) (da_cons (de_var 2) da_nil))) (da_cons (de_var 2) (da_cons (de_var 4) da_nil))))))) (de_callO (da_cons (de_var 0) (da_cons (de_c (v := .int 6) rfl) da_nil))))))))⟩⟩) spec__law_worth
theorem b__law_can (T : Txt K mg) : Binds K T.fd__law_can ["steps", "cells", "rule"] [] := T.F__law_can.binds (ps := ["steps", "cells", "rule"]) fun _ _ _ _ _ _ us hl => match us, hl with | [_, _, _], _ => rfl
-- _law_can
theorem ok__law_can (T : Txt K mg) : FnOk P w K mg base CX0 3 T.f__law_can T.fd__law_can ["steps", "cells", "rule"] (liftSp K [] sp__law_can) :=
  okD (d := d__law_can) T.F__law_can sc__law_can (fun cdv A outer s H E hr => ⟨_, ⟨(pss_cons (ps_asg (pe_tup (pa_cons pe_bl (pa_cons pe_bl (pa_cons pe_bl (pa_cons pe_bl pa_nil))))) (pg_tup rfl (pgs_cons (pg_name (i := 3) sc__law_can.nd rfl (Or.inl rfl)) (pgs_cons (pg_name (i := 4) sc__law_can.nd rfl (Or.inl rfl)) (pgs_cons (pg_name (i := 5) sc__law_can.nd rfl (Or.inl rfl)) (pgs_cons (pg_name (i := 6) sc__law_can.nd rfl (Or.inl rfl)) pgs_nil)))))) (pss_cons (ps_set (i := 7) sc__law_can.nd rfl (Or.inl rfl) pe_int) (pss_cons (ps_for PassesOwn.never rfl (pi_zip rfl T.z_zip (pa_cons (pv 0) (pa_cons (pv 1) pa_nil))) (pg_tup rfl (pgs_cons (pg_name (i := 8) sc__law_can.nd rfl (Or.inl rfl)) (pgs_cons (pg_name (i := 9) sc__law_can.nd rfl (Or.inl rfl)) pgs_nil))) (pss_cons (ps_asg (pe_call (ok__law_ways T) (hr.mono (by decide)) rfl T.m__law_ways T.F__law_ways.kp (b__law_ways T) .nil pass0 (pa_cons (pv 8) (pa_cons (pv 9) (pa_cons (pv 7) pa_nil)))) (pg_tup rfl (pgs_cons (pg_name (i := 10) sc__law_can.nd rfl (Or.inl rfl)) (pgs_cons (pg_name (i := 11) sc__law_can.nd rfl (Or.inl rfl)) pgs_nil)))) (pss_cons (ps_asg (pe_tup (pa_cons (pe_op op_and (pe_ix ix_tup (pv 2) pe_int (fun _ _ => rfl)) (pv 11)) (pa_cons (pe_op op_and (pe_ix ix_tup (pv 2) pe_int (fun _ _ => rfl)) (pv 11)) pa_nil))) (pg_tup rfl (pgs_cons (pg_name (i := 12) sc__law_can.nd rfl (Or.inr rfl)) (pgs_cons (pg_name (i := 13) sc__law_can.nd rfl (Or.inr rfl)) pgs_nil)))) (pss_cons (ps_setLc (i := 14) (own := [("some", 15)]) rfl sc__law_can.nd rfl rfl (sw_true rfl rfl rfl (by decide +kernel)) (pi_list (pv 10)) (blkOk_by (by exact rfl)) (fun _ _ _ _ _ => (pg_name (i := 15) sc__law_can.nd rfl (Or.inl rfl))) (fun _ _ _ _ _ => pts_one (pt_cmpR op_eq (pe_op op_and (pv 15) (pv 12)) (pv 12) (nomark _))) (fun _ _ _ _ _ => (pv 15))) (pss_cons (ps_set (i := 3) sc__law_can.nd rfl (Or.inl rfl) (pe_and (pv 3) (pe_one (pe_cmpR (op_neD hr.units) (pv 14) (pe_lst pa_nil) (nomark _))))) (pss_cons (ps_set (i := 4) sc__law_can.nd rfl (Or.inl rfl) (pe_or (pv 4) (pe_one (pe_callB (cr_any rfl) rfl T.z_any (by decide +kernel) (pa_cons (pe_lc (own := [("some", 15)]) rfl sc__law_can.nd (pi_list (pv 14)) (blkOk_by (by exact rfl)) (fun _ _ _ _ _ => (pg_name (i := 15) sc__law_can.nd rfl (Or.inl rfl))) (fun _ _ _ _ _ => pts_nil) (fun _ _ _ _ _ => (pe_cmpR op_ne (pe_op op_and (pv 15) (pv 13)) (pv 13) (nomark _)))) pa_nil))))) (pss_cons (ps_set (i := 5) sc__law_can.nd rfl (Or.inl rfl) (pe_or (pv 5) (pe_one (pe_callB (cr_any rfl) rfl T.z_any (by decide +kernel) (pa_cons (pe_lc (own := [("some", 15)]) rfl sc__law_can.nd (pi_list (pv 10)) (blkOk_by (by exact rfl)) (fun _ _ _ _ _ => (pg_name (i := 15) sc__law_can.nd rfl (Or.inl rfl))) (fun _ _ _ _ _ => pts_nil) (fun _ _ _ _ _ => (pe_cmpR op_ne (pe_op op_and (pv 15) (pv 12)) (pv 12) (nomark _)))) pa_nil))))) (pss_cons (ps_set (i := 6) sc__law_can.nd rfl (Or.inl rfl) (pe_and (pv 6) (pe_one (pe_callB (cr_any rfl) rfl T.z_any (by decide +kernel) (pa_cons (pe_lc (own := [("some", 15)]) rfl sc__law_can.nd (pi_list (pv 10)) (blkOk_by (by exact rfl)) (fun _ _ _ _ _ => (pg_name (i := 15) sc__law_can.nd rfl (Or.inl rfl))) (fun _ _ _ _ _ => pts_nil) (fun _ _ _ _ _ => (pe_cmpR op_eq (pe_op op_and (pv 15) (pv 13)) (pv 13) (nomark _)))) pa_nil))))) (pss_one (ps_set (i := 7) sc__law_can.nd rfl (Or.inl rfl) (pe_op op_add (pv 7) (pe_callB call_len_seq rfl T.z_len PySem.boot_len (pa_cons (pv 8) pa_nil))))))))))))) (pss_one (ps_ret (pe_tup (pa_cons (pe_and (pv 3) (pe_one (pv 4))) (pa_cons (pe_or (pv 5) (pe_one (pv 6))) pa_nil)))))))),
    (ds_seq (ds_asgT (da_cons (de_c (v := .bl true) rfl) (da_cons (de_c (v := .bl false) rfl) (da_cons (de_c (v := .bl false) rfl) (da_cons (de_c (v := .bl true) rfl) da_nil)))) (dgs_cons (dg_name 3) (dgs_cons (dg_name 4) (dgs_cons (dg_name 5) (dgs_cons (dg_name 6) dgs_nil))))) (ds_seq (ds_asg (de_c (v := .int 0) rfl) (dg_name 7)) (ds_seq (ds_for (di_zip (da_cons (de_var 0) (da_cons (de_var 1) da_nil))) (dg_tup (dgs_cons (dg_name 8) (dgs_cons (dg_name 9) dgs_nil))) (ds_seq (ds_asg (de_fix (de_call (dvs := []) (da_cons (de_var 8) (da_cons (de_var 9) (da_cons (de_var 7) da_nil))) rfl)) (dg_tup (dgs_cons (dg_name 10) (dgs_cons (dg_name 11) dgs_nil)))) (ds_seq (ds_asgT (da_cons (de_op do_I0 (de_op do_ixT (de_var 2) (de_c (v := .int 0) rfl)) (de_var 11)) (da_cons (de_op do_I0 (de_op do_ixT (de_var 2) (de_c (v := .int 1) rfl)) (de_var 11)) da_nil)) (dgs_cons (dg_name 12) (dgs_cons (dg_name 13) dgs_nil))) (ds_seq (ds_asg (de_fix (de_lc (di_list (de_var 10)) (dg_name 15) (dt_test (de_op do_eqS (de_op do_I0 (de_var 15) (de_var 12)) (de_var 12))) (de_var 15) (by decide) (by decide))) (dg_name 14)) (ds_seq (ds_asg (de_andV (de_var 3) (de_op do_neD (de_var 14) (de_lst da_nil))) (dg_name 3)) (ds_seq (ds_asg (de_orV (de_var 4) (de_cb (dc_bools (g := fun bs => bs.any id)) (da_cons (de_lc (di_list (de_var 14)) (dg_name 15) dt_yes (de_op do_neS (de_op do_I0 (de_var 15) (de_var 13)) (de_var 13)) (by decide) (by decide)) da_nil))) (dg_name 4)) (ds_seq (ds_asg (de_orV (de_var 5) (de_cb (dc_bools (g := fun bs => bs.any id)) (da_cons (de_lc (di_list (de_var 10)) (dg_name 15) dt_yes (de_op do_neS (de_op do_I0 (de_var 15) (de_var 12)) (de_var 12)) (by decide) (by decide)) da_nil))) (dg_name 5)) (ds_seq (ds_asg (de_andV (de_var 6) (de_cb (dc_bools (g := fun bs => bs.any id)) (da_cons (de_lc (di_list (de_var 10)) (dg_name 15) dt_yes (de_op do_eqS (de_op do_I0 (de_var 15) (de_var 13)) (de_var 13)) (by decide) (by decide)) da_nil))) (dg_name 6)) (ds_asg (de_op do_I0 (de_var 7) (de_cb dc_len (da_cons (de_var 8) da_nil))) (dg_name 7)))))))))) (ds_ret (de_tup (da_cons (de_andV (de_var 3) (de_var 4)) (da_cons (de_orV (de_var 5) (de_var 6)) da_nil)))))))⟩⟩) spec__law_can
theorem b__law_rule (T : Txt K mg) : Binds K T.fd__law_rule ["box", "columns"] [] := T.F__law_rule.binds (ps := ["box", "columns"]) fun _ _ _ _ _ _ us hl => match us, hl with | [_, _], _ => rfl
-- _law_rule
theorem ok__law_rule (T : Txt K mg) : FnOk P w K mg base CX0 3 T.f__law_rule T.fd__law_rule ["box", "columns"] (liftSp K [0] sp__law_rule) :=
  okD (d := d__law_rule) T.F__law_rule sc__law_rule (fun cdv A outer s H E hr => ⟨_, ⟨(pss_cons (ps_par (i := 2) (j := 3) rfl sc__law_rule.nd rfl rfl (by decide) rfl rfl (pa_cons (pe_call (ok__law_take T) (hr.mono (by decide)) rfl T.m__law_take T.F__law_take.kp (b__law_take T) .nil pass0 (pa_cons (pv 0) (pa_cons (pe_op op_shl pe_int (pv 1)) pa_nil))) (pa_cons (pe_call (ok__law_take T) (hr.mono (by decide)) rfl T.m__law_take T.F__law_take.kp (b__law_take T) .nil pass0 (pa_cons (pv 0) (pa_cons (pe_op op_shl pe_int (pv 1)) pa_nil))) pa_nil)) (by rfl)) (pss_cons (ps_if (PW.pt (pw_and (pt_cmpR op_gt (pe_call (ok__law_take T) (hr.mono (by decide)) rfl T.m__law_take T.F__law_take.kp (b__law_take T) .nil pass0 (pa_cons (pv 0) (pa_cons pe_int pa_nil))) pe_int (nomark _)) (pw_and1 (pt_cmpR op_gt (pv 1) pe_int (nomark _))))) (pss_one (ps_set (i := 3) sc__law_rule.nd rfl (Or.inl rfl) (pe_op op_shl pe_int (pe_call (ok__law_take T) (hr.mono (by decide)) rfl T.m__law_take T.F__law_take.kp (b__law_take T) .nil pass0 (pa_cons (pv 0) (pa_cons (pv 1) pa_nil)))))) pss_nil) (pss_cons (ps_if (PW.pt (pw_and (pt_cmpR op_eq (pe_call (ok__law_take T) (hr.mono (by decide)) rfl T.m__law_take T.F__law_take.kp (b__law_take T) .nil pass0 (pa_cons (pv 0) (pa_cons pe_int pa_nil))) pe_int (nomark _)) (pw_and1 (pt_cmpR op_gt (pv 1) pe_int (nomark _))))) (pss_one (ps_set (i := 2) sc__law_rule.nd rfl (Or.inl rfl) (pe_op op_shl pe_int (pe_call (ok__law_take T) (hr.mono (by decide)) rfl T.m__law_take T.F__law_take.kp (b__law_take T) .nil pass0 (pa_cons (pv 0) (pa_cons (pv 1) pa_nil)))))) pss_nil) (pss_one (ps_ret (pe_tup (pa_cons (pv 2) (pa_cons (pv 3) pa_nil)))))))),
    (ds_seq (ds_par2 (da_cons (de_callO (da_cons (de_var 0) (da_cons (de_op do_I (de_c (v := .int 1) rfl) (de_var 1)) da_nil))) (da_cons (de_callO (da_cons (de_var 0) (da_cons (de_op do_I (de_c (v := .int 1) rfl) (de_var 1)) da_nil))) da_nil))) (ds_seq (ds_if (dt_and (dt_test (de_op do_I0 (de_callO (da_cons (de_var 0) (da_cons (de_c (v := .int 3) rfl) da_nil))) (de_c (v := .int 0) rfl))) (dt_test (de_op do_I0 (de_var 1) (de_c (v := .int 0) rfl)))) (ds_asg (de_op do_I (de_c (v := .int 1) rfl) (de_callO (da_cons (de_var 0) (da_cons (de_var 1) da_nil)))) (dg_name 3)) ds_next) (ds_seq (ds_if (dt_and (dt_test (de_op do_eqS (de_callO (da_cons (de_var 0) (da_cons (de_c (v := .int 3) rfl) da_nil))) (de_c (v := .int 0) rfl))) (dt_test (de_op do_I0 (de_var 1) (de_c (v := .int 0) rfl)))) (ds_asg (de_op do_I (de_c (v := .int 1) rfl) (de_callO (da_cons (de_var 0) (da_cons (de_var 1) da_nil)))) (dg_name 2)) ds_next) (ds_ret (de_tup (da_cons (de_var 2) (da_cons (de_var 3) da_nil)))))))⟩⟩) spec__law_rule
theorem b__law_cell (T : Txt K mg) : Binds K T.fd__law_cell ["box", "row", "whole"] [] := T.F__law_cell.binds (ps := ["box", "row", "whole"]) fun _ _ _ _ _ _ us hl => match us, hl with | [_, _, _], _ => rfl
-- _law_cell
theorem ok__law_cell (T : Txt K mg) : FnOk P w K mg base CX0 4 T.f__law_cell T.fd__law_cell ["box", "row", "whole"] (liftSp K [0] sp__law_cell) :=
  okD (d := d__law_cell) T.F__law_cell sc__law_cell (fun cdv A outer s H E hr => ⟨_, ⟨(pss_cons (ps_set (i := 3) sc__law_cell.nd rfl (Or.inl rfl) (pe_call (ok__law_worth T) (hr.mono (by decide)) rfl T.m__law_worth T.F__law_worth.kp (b__law_worth T) .nil pass0 (pa_cons (pv 0) (pa_cons (pv 1) pa_nil)))) (pss_cons (ps_set (i := 4) sc__law_cell.nd rfl (Or.inl rfl) (pv 3)) (pss_cons (ps_if (pt_cmpR op_ne (pv 2) pe_int (nomark _)) (pss_one (ps_set (i := 4) sc__law_cell.nd rfl (Or.inl rfl) (pe_call (ok__law_worth T) (hr.mono (by decide)) rfl T.m__law_worth T.F__law_worth.kp (b__law_worth T) .nil pass0 (pa_cons (pv 0) (pa_cons (pv 1) pa_nil))))) pss_nil) (pss_one (ps_ret (pe_tup (pa_cons (pe_callB (call_min2 rfl) rfl T.z_min (by decide +kernel) (pa_cons (pv 3) (pa_cons (pv 4) pa_nil))) (pa_cons (pe_callB (call_max2 rfl) rfl T.z_max (by decide +kernel) (pa_cons (pv 3) (pa_cons (pv 4) pa_nil))) pa_nil)))))))),
    (ds_seq (ds_asg (de_callO (da_cons (de_var 0) (da_cons (de_var 1) da_nil))) (dg_name 3)) (ds_seq (ds_asg (de_var 3) (dg_name 4)) (ds_seq (ds_if (dt_test (de_op do_neS (de_var 2) (de_c (v := .int 0) rfl))) (ds_asg (de_callO (da_cons (de_var 0) (da_cons (de_var 1) da_nil))) (dg_name 4)) ds_next) (ds_ret (de_tup (da_cons (de_cb (dc_I2 (g := mnI)) (da_cons (de_var 3) (da_cons (de_var 4) da_nil))) (da_cons (de_cb (dc_I2 (g := mxI)) (da_cons (de_var 3) (da_cons (de_var 4) da_nil))) da_nil)))))))⟩⟩) spec__law_cell
theorem b_law (T : Txt K mg) : Binds K T.fd_law ["script"] [] := T.F_law.binds (ps := ["script"]) fun _ _ _ _ _ _ us hl => match us, hl with | [_], _ => rfl
-- law
theorem ok_law (T : Txt K mg) : FnOk P w K mg base CX0 5 T.f_law T.fd_law ["script"] (liftSp K [] sp_law) :=
  okD (d := d_law) T.F_law sc_law (fun cdv A outer s H E hr => ⟨_, ⟨(pss_cons (ps_set (i := 1) sc_law.nd rfl (Or.inl rfl) (pe_call (ok__law_box T) (hr.mono (by decide)) rfl T.m__law_box T.F__law_box.kp (b__law_box T) .nil pass0 (pa_cons (pv 0) (pa_cons pe_int pa_nil)))) (pss_cons (ps_set (i := 2) sc_law.nd rfl (Or.inl rfl) (pe_ix ix_list (pe_lst (pa_cons pe_int (pa_cons (pe_call (ok__law_take T) (hr.mono (by decide)) rfl T.m__law_take T.F__law_take.kp (b__law_take T) .nil pass0 (pa_cons (pv 1) (pa_cons pe_int pa_nil))) pa_nil))) (pe_call (ok__law_take T) (hr.mono (by decide)) rfl T.m__law_take T.F__law_take.kp (b__law_take T) .nil pass0 (pa_cons (pv 1) (pa_cons pe_int pa_nil))) (fun _ _ => rfl))) (pss_cons (ps_set (i := 3) sc_law.nd rfl (Or.inr rfl) (pe_call (ok__law_steps T) (hr.mono (by decide)) rfl T.m__law_steps T.F__law_steps.kp (b__law_steps T) .nil pass0 (pa_cons (pv 1) (pa_cons (pv 2) pa_nil)))) (pss_cons (ps_set (i := 4) sc_law.nd rfl (Or.inr rfl) (pe_op op_add pe_int (pe_call (ok__law_take T) (hr.mono (by decide)) rfl T.m__law_take T.F__law_take.kp (b__law_take T) .nil pass0 (pa_cons (pv 1) (pa_cons pe_int pa_nil))))) (pss_cons (ps_set (i := 5) sc_law.nd rfl (Or.inl rfl) (pe_ix ix_list (pe_lst (pa_cons pe_int (pa_cons (pe_call (ok__law_take T) (hr.mono (by decide)) rfl T.m__law_take T.F__law_take.kp (b__law_take T) .nil pass0 (pa_cons (pv 1) (pa_cons pe_int pa_nil))) pa_nil))) (pe_call (ok__law_take T) (hr.mono (by decide)) rfl T.m__law_take T.F__law_take.kp (b__law_take T) .nil pass0 (pa_cons (pv 1) (pa_cons pe_int pa_nil))) (fun _ _ => rfl))) (pss_cons (ps_set (i := 6) sc_law.nd rfl (Or.inr rfl) (pe_lst (pa_cons (pe_op op_mul (pe_callB call_abs rfl T.z_abs (by decide +kernel) (pa_cons (pe_call (ok__law_cell_at T) (hr.mono (by decide)) rfl T.m__law_cell_at T.F__law_cell_at.kp (b__law_cell_at T) .nil pass0 (pa_cons (pv 0) (pa_cons pe_int pa_nil))) pa_nil)) (pe_callTy call_int1 rfl T.z_int (by decide +kernel) (pa_cons (pe_cmpR op_ge (pe_callB call_abs rfl T.z_abs (by decide +kernel) (pa_cons (pe_call (ok__law_cell_at T) (hr.mono (by decide)) rfl T.m__law_cell_at T.F__law_cell_at.kp (b__law_cell_at T) .nil pass0 (pa_cons (pv 0) (pa_cons pe_int pa_nil))) pa_nil)) (pe_op op_pow pe_int pe_int) (nomark _)) pa_nil))) (pa_cons (pe_ix ix_list (pv 1) pe_int (fun _ _ => rfl)) (pa_cons (pe_op op_add (pe_ix ix_list (pv 1) pe_int (fun _ _ => rfl)) pe_int) pa_nil))))) (pss_cons (ps_setLc (i := 7) (own := [("k", 18)]) rfl sc_law.nd rfl rfl (sw_true rfl rfl rfl (by decide +kernel)) (pi_range1 rfl T.z_range (pa_cons (pv 5) pa_nil)) (blkOk_by (by exact rfl)) (fun _ _ _ _ _ => (pg_name (i := 18) sc_law.nd rfl (Or.inl rfl))) (fun _ _ _ _ _ => pts_nil) (fun _ _ _ _ _ => (pe_lc (own := [("row", 19)]) rfl sc_law.nd (pi_list (pv 3)) (blkOk_by (by exact rfl)) (fun _ _ _ _ _ => (pg_name (i := 19) sc_law.nd rfl (Or.inl rfl))) (fun _ _ _ _ _ => pts_nil) (fun _ _ _ _ _ => (pe_call (ok__law_cell T) (hr.mono (by decide)) rfl T.m__law_cell T.F__law_cell.kp (b__law_cell T) .nil pass0 (pa_cons (pv 6) (pa_cons (pv 19) (pa_cons (pe_call (ok__law_take T) (hr.mono (by decide)) rfl T.m__law_take T.F__law_take.kp (b__law_take T) .nil pass0 (pa_cons (pv 6) (pa_cons (pv 4) pa_nil))) pa_nil)))))))) (pss_cons (ps_setLc (i := 8) (own := [("row", 19)]) rfl sc_law.nd rfl rfl (sw_true rfl rfl rfl (by decide +kernel)) (pi_list (pv 7)) (blkOk_by (by exact rfl)) (fun _ _ _ _ _ => (pg_name (i := 19) sc_law.nd rfl (Or.inl rfl))) (fun _ _ _ _ _ => pts_nil) (fun _ _ _ _ _ => (pe_callTy call_list_of rfl T.z_list (by decide +kernel) (pa_cons (pv 19) pa_nil)))) (pss_cons (ps_setLc (i := 9) (own := [("row", 19)]) rfl sc_law.nd rfl rfl (sw_true rfl rfl rfl (by decide +kernel)) (pi_list (pv 3)) (blkOk_by (by exact rfl)) (fun _ _ _ _ _ => (pg_name (i := 19) sc_law.nd rfl (Or.inl rfl))) (fun _ _ _ _ _ => pts_nil) (fun _ _ _ _ _ => (pe_callTy call_list_of rfl T.z_list (by decide +kernel) (pa_cons (pv 19) pa_nil)))) (pss_cons (ps_for PassesOwn.never rfl (pi_range1 rfl T.z_range (pa_cons pe_int pa_nil)) (pg_name (i := 10) sc_law.nd rfl (Or.inl rfl)) (pss_cons (ps_set (i := 11) sc_law.nd rfl (Or.inr rfl) (pe_call (ok__law_rule T) (hr.mono (by decide)) rfl T.m__law_rule T.F__law_rule.kp (b__law_rule T) .nil pass0 (pa_cons (pv 1) (pa_cons (pv 2) pa_nil)))) (pss_cons (ps_setLc (i := 12) (own := [("row", 19)]) rfl sc_law.nd rfl rfl (sw_true rfl rfl rfl (by decide +kernel)) (pi_list (pv 7)) (blkOk_by (by exact rfl)) (fun _ _ _ _ _ => (pg_name (i := 19) sc_law.nd rfl (Or.inl rfl))) (fun _ _ _ _ _ => pts_nil) (fun _ _ _ _ _ => (pe_call (ok__law_can T) (hr.mono (by decide)) rfl T.m__law_can T.F__law_can.kp (b__law_can T) .nil pass0 (pa_cons (pv 3) (pa_cons (pv 19) (pa_cons (pv 11) pa_nil)))))) (pss_cons (ps_par (i := 13) (j := 14) rfl sc_law.nd rfl rfl (by decide) rfl rfl (pa_cons (pe_callB (cr_any rfl) rfl T.z_any (by decide +kernel) (pa_cons (pe_lc (own := [("one", 20)]) rfl sc_law.nd (pi_list (pv 12)) (blkOk_by (by exact rfl)) (fun _ _ _ _ _ => (pg_name (i := 20) sc_law.nd rfl (Or.inl rfl))) (fun _ _ _ _ _ => pts_nil) (fun _ _ _ _ _ => (pe_ix ix_tup (pv 20) pe_int (fun _ _ => rfl)))) pa_nil)) (pa_cons (pe_callB (cr_all rfl) rfl T.z_all (by decide +kernel) (pa_cons (pe_lc (own := [("one", 20)]) rfl sc_law.nd (pi_list (pv 12)) (blkOk_by (by exact rfl)) (fun _ _ _ _ _ => (pg_name (i := 20) sc_law.nd rfl (Or.inl rfl))) (fun _ _ _ _ _ => pts_nil) (fun _ _ _ _ _ => (pe_ix ix_tup (pv 20) pe_int (fun _ _ => rfl)))) pa_nil)) pa_nil)) (by rfl)) (pss_cons (ps_par (i := 15) (j := 16) rfl sc_law.nd rfl rfl (by decide) rfl rfl (pa_cons (pe_call (ok_spoiling T) (hr.mono (by decide)) rfl T.m_spoiling T.F_spoiling.kp (b_spoiling T) .nil pass0 (pa_cons (pv 9) (pa_cons (pv 8) (pa_cons (pv 11) pa_nil)))) (pa_cons (pe_call (ok_mending T) (hr.mono (by decide)) rfl T.m_mending T.F_mending.kp (b_mending T) .nil pass0 (pa_cons (pv 9) (pa_cons (pv 8) (pa_cons (pv 11) pa_nil)))) pa_nil)) (by rfl)) (pss_cons (ps_set (i := 17) sc_law.nd rfl (Or.inl rfl) (pe_call (ok_sure T) (hr.mono (by decide)) rfl T.m_sure T.F_sure.kp (b_sure T) .nil pass0 (pa_cons (pv 9) (pa_cons (pv 8) (pa_cons (pv 11) pa_nil))))) (pss_cons (ps_if (PW.pt (pw_or (pt_not (pt_val (pe_callB call_isi rfl T.z_isinstance (by decide +kernel) (pa_cons (pv 17) (pa_cons (pe_bltn (v := .ty "bool") rfl T.z_bool (by decide +kernel) rfl) pa_nil))))) (pw_or (pt_cmpR op_eq (pv 17) (pv 13) (nomark _)) (pw_or (pt_cmpR op_eq (pe_cmpR op_isN (pv 15) pe_non (nomark _)) (pv 13) (nomark _)) (pw_or1 (pt_cmpR op_eq (pe_cmpR op_isN (pv 16) pe_non (nomark _)) (pv 14) (nomark _))))))) (pss_one (ps_ret pe_bl)) pss_nil) (pss_cons (ps_if (PW.pt (pw_and (pt_val (pv 13)) (pw_and1 (pt_cmpR op_notBl (pe_call (ok__law_filling T) (hr.mono (by decide)) rfl T.m__law_filling T.F__law_filling.kp (b__law_filling T) .nil pass0 (pa_cons (pv 3) (pa_cons (pv 7) (pa_cons (pv 11) (pa_cons (pv 15) pa_nil))))) pe_bl (nomark _))))) (pss_one (ps_ret pe_bl)) pss_nil) (pss_one (ps_if (PW.pt (pw_and (pt_val (pv 14)) (pw_and1 (pt_cmpR op_notBl (pe_call (ok__law_filling T) (hr.mono (by decide)) rfl T.m__law_filling T.F__law_filling.kp (b__law_filling T) .nil pass0 (pa_cons (pv 3) (pa_cons (pv 7) (pa_cons (pv 11) (pa_cons (pv 16) pa_nil))))) pe_bl (nomark _))))) (pss_one (ps_ret pe_bl)) pss_nil)))))))))) (pss_one (ps_ret (pe_and (pe_cmpR (op_eqD hr.units) (pv 8) (pv 7) (nomark _)) (pe_one (pe_cmpR (op_eqD hr.units) (pv 9) (pv 3) (nomark _)))))))))))))))),
    (ds_seq (ds_asg (de_call (dvs := []) (da_cons (de_var 0) (da_cons (de_c (v := .int 0) rfl) da_nil)) rfl) (dg_name 1)) (ds_seq (ds_asg (de_op do_ixL (de_lst (da_cons (de_c (v := .int 10) rfl) (da_cons (de_callO (da_cons (de_var 1) (da_cons (de_c (v := .int 11) rfl) da_nil))) da_nil))) (de_callO (da_cons (de_var 1) (da_cons (de_c (v := .int 2) rfl) da_nil)))) (dg_name 2)) (ds_seq (ds_asg (de_fix (de_callO (da_cons (de_var 1) (da_cons (de_var 2) da_nil)))) (dg_name 3)) (ds_seq (ds_asg (de_op do_I0 (de_c (v := .int 1) rfl) (de_callO (da_cons (de_var 1) (da_cons (de_c (v := .int 12) rfl) da_nil)))) (dg_name 4)) (ds_seq (ds_asg (de_op do_ixL (de_lst (da_cons (de_c (v := .int 60) rfl) (da_cons (de_callO (da_cons (de_var 1) (da_cons (de_c (v := .int 61) rfl) da_nil))) da_nil))) (de_callO (da_cons (de_var 1) (da_cons (de_c (v := .int 2) rfl) da_nil)))) (dg_name 5)) (ds_seq (ds_asg (de_lst (da_cons (de_op do_I (de_cb dc_I1 (da_cons (de_call (dvs := []) (da_cons (de_var 0) (da_cons (de_c (v := .int 1) rfl) da_nil)) rfl) da_nil)) (de_cb dc_int (da_cons (de_op do_I0 (de_cb dc_I1 (da_cons (de_call (dvs := []) (da_cons (de_var 0) (da_cons (de_c (v := .int 1) rfl) da_nil)) rfl) da_nil)) (de_op do_I (de_c (v := .int 10) rfl) (de_c (v := .int 18) rfl))) da_nil))) (da_cons (de_op do_ixL (de_var 1) (de_c (v := .int 1) rfl)) (da_cons (de_op do_I0 (de_op do_ixL (de_var 1) (de_c (v := .int 2) rfl)) (de_c (v := .int 1000) rfl)) da_nil)))) (dg_name 6)) (ds_seq (ds_asg (de_fix (de_lc (di_rng1 (da_cons (de_var 5) da_nil)) (dg_name 18) dt_yes (de_fix (de_lc (di_list (de_var 3)) (dg_name 19) dt_yes (de_fix (de_callO (da_cons (de_var 6) (da_cons (de_var 19) (da_cons (de_callO (da_cons (de_var 6) (da_cons (de_var 4) da_nil))) da_nil))))) (by decide) (by decide))) (by decide) (by decide))) (dg_name 7)) (ds_seq (ds_asg (de_fix (de_lc (di_list (de_var 7)) (dg_name 19) dt_yes (de_fix (de_cb dc_list (da_cons (de_var 19) da_nil))) (by decide) (by decide))) (dg_name 8)) (ds_seq (ds_asg (de_fix (de_lc (di_list (de_var 3)) (dg_name 19) dt_yes (de_fix (de_cb dc_list (da_cons (de_var 19) da_nil))) (by decide) (by decide))) (dg_name 9)) (ds_seq (ds_for (di_rng1 (da_cons (de_c (v := .int 6) rfl) da_nil)) (dg_name 10) (ds_seq (ds_asg (de_fix (de_callO (da_cons (de_var 1) (da_cons (de_var 2) da_nil)))) (dg_name 11)) (ds_seq (ds_asg (de_fix (de_lc (di_list (de_var 7)) (dg_name 19) dt_yes (de_fix (de_call (dvs := []) (da_cons (de_var 3) (da_cons (de_var 19) (da_cons (de_var 11) da_nil))) rfl)) (by decide) (by decide))) (dg_name 12)) (ds_seq (ds_par2 (da_cons (de_cb (dc_bools (g := fun bs => bs.any id)) (da_cons (de_lc (di_list (de_var 12)) (dg_name 20) dt_yes (de_op do_ixT (de_var 20) (de_c (v := .int 0) rfl)) (by decide) (by decide)) da_nil)) (da_cons (de_cb (dc_bools (g := fun bs => bs.all id)) (da_cons (de_lc (di_list (de_var 12)) (dg_name 20) dt_yes (de_op do_ixT (de_var 20) (de_c (v := .int 1) rfl)) (by decide) (by decide)) da_nil)) da_nil))) (ds_seq (ds_par2 (da_cons (de_fix (de_call (dvs := []) (da_cons (de_var 9) (da_cons (de_var 8) (da_cons (de_var 11) da_nil))) rfl)) (da_cons (de_fix (de_call (dvs := []) (da_cons (de_var 9) (da_cons (de_var 8) (da_cons (de_var 11) da_nil))) rfl)) da_nil))) (ds_seq (ds_asg (de_call (dvs := []) (da_cons (de_var 9) (da_cons (de_var 8) (da_cons (de_var 11) da_nil))) rfl) (dg_name 17)) (ds_seq (ds_if (dt_or (dt_not (dt_b (de_cb dc_isi (da_cons (de_var 17) (da_cons (de_ty "bool") da_nil))))) (dt_or (dt_test (de_op do_eqS (de_var 17) (de_var 13))) (dt_or (dt_test (de_op do_eqS (de_op do_isN (de_var 15) (de_c (v := .non) rfl)) (de_var 13))) (dt_test (de_op do_eqS (de_op do_isN (de_var 16) (de_c (v := .non) rfl)) (de_var 14)))))) (ds_ret (de_c (v := .bl false) rfl)) ds_next) (ds_seq (ds_if (dt_and (dt_b (de_var 13)) (dt_test (de_op do_notB (de_call (dvs := []) (da_cons (de_var 3) (da_cons (de_var 7) (da_cons (de_var 11) (da_cons (de_var 15) da_nil)))) rfl) (de_c (v := .bl false) rfl)))) (ds_ret (de_c (v := .bl false) rfl)) ds_next) (ds_if (dt_and (dt_b (de_var 14)) (dt_test (de_op do_notB (de_call (dvs := []) (da_cons (de_var 3) (da_cons (de_var 7) (da_cons (de_var 11) (da_cons (de_var 16) da_nil)))) rfl) (de_c (v := .bl true) rfl)))) (ds_ret (de_c (v := .bl false) rfl)) ds_next))))))))) (ds_ret (de_andV (de_op do_eqD (de_var 8) (de_var 7)) (de_op do_eqD (de_var 9) (de_var 3))))))))))))))⟩⟩) spec_law
end

theorem mkF {K : PySem.W.Frag} {h : Heap} {mg : Str → Option Value} (X : K.In h) (G : h.Ns mainGlobals mg) {st : Stmt} {nm q : Str} {f : Addr} {od an : Option Addr} {sl : Array (Option Value)} {oc kV dc pm cd ct : Value}
    (a : PySem.W.nsIn K mainGlobals nm = some (some (.ref f))) (l : K.lookup f = some ⟨oc, od, .func (PySem.W.fnOf nm q (defArgs st) (defBody st) (defScope st) .none kV dc pm an cd ct), sl⟩)
    (c : PySem.W.codeIn K cd q = true) (k : PySem.W.keepIn K (.ref f) = true) : ∃ (f : Addr) (fd : FuncData), Fun K nm q st f fd ∧ mg nm = some (.ref f) :=
  ⟨f, _, fun_mk (st := st) l c k, PySem.W.mg_of X G a⟩
theorem mkL {K : PySem.W.Frag} {h : Heap} {mg : Str → Option Value} (X : K.In h) (G : h.Ns mainGlobals mg) {st : Stmt} {nm q : Str} {x : Str} {f : Addr} {od an : Option Addr} {sl : Array (Option Value)} {oc kV dc pm cd ct : Value}
    (hb : ∀ (kV dc pm cd ct : Value) (an : Option Addr) (s : Shared) (v : Value), BindsTo s (PySem.W.fnOf nm q (defArgs st) (defBody st) (defScope st) .none kV dc pm an cd ct) ⟨[v], []⟩ [(x, v)])
    (a : PySem.W.nsIn K mainGlobals nm = some (some (.ref f))) (l : K.lookup f = some ⟨oc, od, .func (PySem.W.fnOf nm q (defArgs st) (defBody st) (defScope st) .none kV dc pm an cd ct), sl⟩)
    (c : PySem.W.codeIn K cd q = true) (k : PySem.W.keepIn K (.ref f) = true) : ∃ (f : Addr) (fd : FuncData), (∀ (s : Shared) (v : Value), BindsTo s fd ⟨[v], []⟩ [(x, v)]) ∧ Fun K nm q st f fd ∧ mg nm = some (.ref f) :=
  ⟨f, _, hb _ _ _ _ _ _, fun_mk (st := st) l c k, PySem.W.mg_of X G a⟩
theorem clsA_of {K : PySem.W.Frag} {n : String} {C : Addr} (b : PySem.W.nsIn K mainGlobals (Str.ofString n) = some (some (.ref C))) : clsA K n = C := by unfold clsA; rw [b]
theorem mkMe {K : PySem.W.Frag} {h : Heap} (_X : K.In h) {n : String} {C : Addr} {st : Stmt} {nm q : Str} {f : Addr} {od an : Option Addr} {sl : Array (Option Value)} {oc kV dc pm cd ct : Value} (b : PySem.W.nsIn K mainGlobals (Str.ofString n) = some (some (.ref C)))
    (a : PySem.W.findIn K (.ref C) nm = some (some (.ref f))) (i : PySem.W.isFn K (.ref f) = true) (l : K.lookup f = some ⟨oc, od, .func (PySem.W.fnOf nm q (defArgs st) (defBody st) (defScope st) .none kV dc pm an cd ct), sl⟩)
    (c : PySem.W.codeIn K cd q = true) (k : PySem.W.keepIn K (.ref f) = true) : ∃ (f : Addr) (fd : FuncData), Fun K nm q st f fd ∧ Meth K (clsA K n) nm f := by
  rw [clsA_of b]
  exact ⟨f, _, fun_mk (st := st) l c k, ⟨a, i, k⟩⟩
theorem mkC {K : PySem.W.Frag} {h : Heap} {mg : Str → Option Value} {n : String} {C : Addr} (X : K.In h) (G : h.Ns mainGlobals mg) (b : PySem.W.nsIn K mainGlobals (Str.ofString n) = some (some (.ref C)))
    (p : PySem.W.plainGet K C Str.empty = true) (hd : PySem.W.hasDictIn K C = true) (o : PySem.W.plainOver K C = true) (s : PySem.W.findIn K (.ref C) "__setattr__" = some (some (.builtin "object.__setattr__"))) : Cls K (clsA K n) ∧ mg (Str.ofString n) = some (.ref (clsA K n)) := by
  rw [clsA_of b]
  exact ⟨⟨p, hd, o, s⟩, PySem.W.mg_of X G b⟩
theorem mkM {K : PySem.W.Frag} {h : Heap} (_X : K.In h) {n : String} {C f : Addr} (me : Meth K (clsA K n) "__init__" f) (b : PySem.W.nsIn K mainGlobals (Str.ofString n) = some (some (.ref C))) (m : PySem.W.makesIn K C = true) (k : PySem.W.keepIn K (.ref C) = true) : Mk K (clsA K n) f := by
  rw [clsA_of b] at me ⊢
  obtain ⟨a, i, _⟩ := me
  exact ⟨m, a, i, k⟩
theorem mkN {K : PySem.W.Frag} {h : Heap} (_X : K.In h) {n : String} {C : Addr} {m : Str} (b : PySem.W.nsIn K mainGlobals (Str.ofString n) = some (some (.ref C))) (a : PySem.W.findIn K (.ref C) m = some none) : NoAttr K (clsA K n) m := by
  rw [clsA_of b]
  exact a
theorem mkMC {K : PySem.W.Frag} {h : Heap} {mg : Str → Option Value} {n : String} {C : Addr} (X : K.In h) (G : h.Ns mainGlobals mg) (b : PySem.W.nsIn K mainGlobals (Str.ofString n) = some (some (.ref C))) : mg (Str.ofString n) = some (.ref (clsA K n)) := by
  rw [clsA_of b]
  exact PySem.W.mg_of X G b
theorem mkMe2 {K : PySem.W.Frag} {h : Heap} (_X : K.In h) {n : String} {C : Addr} {st : Stmt} {nm q m : Str} {f : Addr} {fd : FuncData} (_F : Fun K nm q st f fd) (b : PySem.W.nsIn K mainGlobals (Str.ofString n) = some (some (.ref C)))
    (a : PySem.W.findIn K (.ref C) m = some (some (.ref f))) (i : PySem.W.isFn K (.ref f) = true) (k : PySem.W.keepIn K (.ref f) = true) : Meth K (clsA K n) m f := by
  rw [clsA_of b]
  exact ⟨a, i, k⟩
theorem mkGI {K : PySem.W.Frag} {h : Heap} {mg : Str → Option Value} (X : K.In h) (G : h.Ns mainGlobals mg) {g : Str} {i : Int} {t : Tok} (a : PySem.W.nsIn K mainGlobals g = some (some (.int i t))) : ∃ t, mg g = some (.int i t) := ⟨t, PySem.W.mg_of X G a⟩
theorem mkGS {K : PySem.W.Frag} {h : Heap} {mg : Str → Option Value} (X : K.In h) (G : h.Ns mainGlobals mg) {g : Str} {i : Str} {t : Tok} (a : PySem.W.nsIn K mainGlobals g = some (some (.str i t))) : ∃ t, mg g = some (.str i t) := ⟨t, PySem.W.mg_of X G a⟩
theorem mkXI {K : PySem.W.Frag} {h : Heap} {mg : Str → Option Value} (X : K.In h) (G : h.Ns mainGlobals mg) {n : String} {fl : Str} {st : Stmt} {qI : Str} {C f : Addr} {od an : Option Addr} {sl : Array (Option Value)} {oc kV dc pm cd ct : Value}
    {nm q : Str} {N : Addr} {bs bm : List Value} {sn : List Str} {sub : List Value} {ab : Bool} {col : Option Bool} {dd : Option Addr} {m0 m1 m2 m3 m5 : Option Value}
    (b : PySem.W.nsIn K mainGlobals (Str.ofString n) = some (some (.ref C)))
    (xL : K.lookup C = some (excClassObj nm q C N bs bm true sn sub ab col dd m0 m1 m2 m3 m5 "ValueError.__new__")) (rv : PySem.HandSPX.refsVE bm = true)
    (sa : PySem.W.findIn K (.ref C) "__setattr__" = some (some (.builtin "object.__setattr__"))) (no : PySem.W.findIn K (.ref C) fl = some none)
    (a : PySem.W.findIn K (.ref C) "__init__" = some (some (.ref f))) (t : PySem.W.typeIn K (.ref f) = some (.type "function"))
    (l : K.lookup f = some ⟨oc, od, .func (PySem.W.fnOf "__init__" qI (defArgs st) (defBody st) (defScope st) .none kV dc pm an cd ct), sl⟩) (c : PySem.W.codeIn K cd qI = true) (kf : PySem.W.keepIn K (.ref f) = true)
    (kC : PySem.W.keepIn K (.ref C) = true) (eC : PySem.W.subIn K (.ref C) (.type "BaseException") = some true) (tC : PySem.W.typeIn K (.ref C) = some (.type "type")) :
    ∃ (f : Addr) (fd : FuncData), Fun K "__init__" qI st f fd ∧ ExI K mg (Str.ofString n) fl (clsA K n) f := by
  rw [clsA_of b]
  exact ⟨f, _, fun_mk (st := st) l c kf, ⟨⟨_, _, _, _, _, _, _, _, _, _, _, _, _, _, _, xL, rv⟩, sa, eC, tC, kC⟩, PySem.W.mg_of X G b, no, a, t⟩
theorem mkTop {K : PySem.W.Frag} {h : Heap} {mg : Str → Option Value} {n : String} {C : Addr} (X : K.In h) (G : h.Ns mainGlobals mg) (b : PySem.W.nsIn K mainGlobals (Str.ofString n) = some (some (.ref C)))
    (hg : PySem.W.specialIn K (.ref C) "__getattribute__" = some (some (.builtin "type.__getattribute__"))) (hr : PySem.W.readsIn K C (.type "type") = true)
    (hf : PySem.W.findCls K (.ref C) (.type "type") "__init__" = some (.val (.builtin "ValueError.__init__"))) : TopC K (clsA K n) := by
  rw [clsA_of b]
  exact ⟨hg, hr, hf⟩
theorem mkEx {K : PySem.W.Frag} {h : Heap} (_X : K.In h) {n : String} {D : Addr} (b : PySem.W.nsIn K mainGlobals (Str.ofString n) = some (some (.ref D))) (hg : PySem.W.findIn K (.ref D) "__getattribute__" = some (some (.builtin "BaseException.__getattribute__")))
  (hk : PySem.W.findIn K (.ref D) "__getattr__" = some none) (hs : PySem.W.subIn K (.ref D) (.type "BaseException") = some true) (hd : PySem.W.hasDictIn K D = true) (ha : PySem.W.findIn K (.ref D) "__class__" = some (some (.builtin "object.__class__")))
  (hn : PySem.W.specialIn K (.builtin "object.__class__") "__get__" = some (some (.builtin "getset_descriptor.__get__"))) (ht : PySem.W.takesIn K (.builtin "object.__class__") = some true) (hm : PySem.W.mroIn K D (.type "object") = some true) : ExcC K (clsA K n) := by
  rw [clsA_of b]
  exact ⟨hg, hk, hs, hd, ha, hn, ht, hm⟩
theorem mkXf {K : PySem.W.Frag} {h : Heap} (_X : K.In h) {n : String} {C : Addr} (b : PySem.W.nsIn K mainGlobals (Str.ofString n) = some (some (.ref C))) (ga : PySem.W.findIn K (.ref C) "__getattribute__" = some (some (.builtin "BaseException.__getattribute__")))
  (gg : PySem.W.findIn K (.ref C) "__getattr__" = some none) (exC : PySem.W.subIn K (.ref C) (.type "BaseException") = some true) (hdC : PySem.W.hasDictIn K C = true) : XfC K (clsA K n) := by
  rw [clsA_of b]
  exact ⟨ga, gg, exC, hdC⟩
theorem mkNo {K : PySem.W.Frag} {h : Heap} (_X : K.In h) {n : String} {C : Addr} {f : Str} (b : PySem.W.nsIn K mainGlobals (Str.ofString n) = some (some (.ref C))) (no : PySem.W.findIn K (.ref C) f = some none) : PySem.W.findIn K (.ref (clsA K n)) f = some none := by
  rw [clsA_of b]
  exact no
theorem mkKit {K : PySem.W.Frag} {h : Heap} (_X : K.In h) {n m : String} {C D : Addr} {t : Bool} (b : PySem.W.nsIn K mainGlobals (Str.ofString n) = some (some (.ref C))) (b2 : PySem.W.nsIn K mainGlobals (Str.ofString m) = some (some (.ref D)))
  (k : PySem.W.kitOne K (.ref C) (.ref D) = some t) : PySem.W.kitOne K (.ref (clsA K n)) (.ref (clsA K m)) = some t := by
  rw [clsA_of b, clsA_of b2]
  exact k
theorem mkKitV {K : PySem.W.Frag} {h : Heap} (_X : K.In h) {n : String} {C : Addr} (b : PySem.W.nsIn K mainGlobals (Str.ofString n) = some (some (.ref C)))
  (k : PySem.W.kitOne K (.ref C) (.type "ValueError") = some true) : PySem.W.kitOne K (.ref (clsA K n)) (.type "ValueError") = some true := by
  rw [clsA_of b]
  exact k
theorem mkKitN {K : PySem.W.Frag} {h : Heap} (_X : K.In h) {n : String} {C : Addr} (b : PySem.W.nsIn K mainGlobals (Str.ofString n) = some (some (.ref C)))
  (k : PySem.W.kitOne K (.type "NoneType") (.ref C) = some false) : PySem.W.kitOne K (.type "NoneType") (.ref (clsA K n)) = some false := by
  rw [clsA_of b]
  exact k
theorem mkX0 {K : PySem.W.Frag} {h : Heap} {mg : Str → Option Value} {n : String} {C : Addr} (X : K.In h) (G : h.Ns mainGlobals mg) (b : PySem.W.nsIn K mainGlobals (Str.ofString n) = some (some (.ref C)))
  (q : PySem.W.excIn K C PySem.HandSPX.veTail "ValueError.__new__" = true) (kC : PySem.W.keepIn K (.ref C) = true) (exC : PySem.W.subIn K (.ref C) (.type "BaseException") = some true) (tyC : PySem.W.typeIn K (.ref C) = some (.type "type")) : Ex0 K mg (Str.ofString n) (clsA K n) := by
  rw [clsA_of b]
  exact ⟨q, PySem.W.mg_of X G b, kC, exC, tyC⟩
theorem mkExm {K : PySem.W.Frag} {h : Heap} (_X : K.In h) {n m : String} {C D : Addr} (b : PySem.W.nsIn K mainGlobals (Str.ofString n) = some (some (.ref C))) (b2 : PySem.W.nsIn K mainGlobals (Str.ofString m) = some (some (.ref D)))
  (k : PySem.W.exmOne K (.ref C) (.ref D) = some true) : PySem.W.exmOne K (.ref (clsA K n)) (.ref (clsA K m)) = some true := by
  rw [clsA_of b, clsA_of b2]
  exact k
theorem lawOf {P : Program} {w : World} {K : Frag} {mg : Str → Option Value} {fa : Addr} (T : Txt K mg) (hb : ∀ (s : Shared) (v : Value), BindsTo s T.fd_law ⟨[v], []⟩ [("script", v)]) (hmg : mg "law" = some (.ref fa)) :
    ∃ fd : FuncData, (∀ (s : Shared) (v : Value), BindsTo s fd ⟨[v], []⟩ [("script", v)]) ∧ ∀ base : Heap, K.In base → base.Ns mainGlobals mg → FnOk P w K mg base CX0 5 fa fd ["script"] (liftSp K [] sp_law) := by
  have e := hmg.symm.trans T.m_law
  cases e
  exact ⟨T.fd_law, hb, fun base _ _ => ok_law T⟩
end DL
open PySem PySem.W PyProof.Rows in
set_option maxHeartbeats 0 in
theorem PySem.Challenge.cw_traitlattice_k52_gaps_of_wide_tables_holds : PySem.Challenge.rw_traitlattice_k52_gaps_of_wide_tables.Holds := by
  w_on; o_law; k_head; (case hw => w_witness2)
  k_fill
  refine L2.walk_of (l := PySem.Challenge.rw_traitlattice_k52_gaps_of_wide_tables) (n := 63) (k := 5) (x := "script") (CX := fun _ => L2.CX0) (sp := fun w => DL.liftSp _ [] DL.sp_law) rfl (by decide) rfl ⟨rfl, by decide, by decide⟩ (fun w h Y => PySem.W.kIn_of Y) ?F (fun _ H a ns hl _ hS => DL.entry _ _ H a ns hS _ _ ⟨ns, rfl, hl, rfl⟩ (fun _ => rfl)) (fun _ _ _ _ _ h => h)
  case F =>
    intro w mg fa h KX G hmg
    obtain ⟨f_spread, fd_spread, F_spread, m_spread⟩ : ∃ (f : PySem.Addr) (fd : PySem.FuncData), L2.Fun _ "spread" "spread" DL.s_spread f fd ∧ mg "spread" = some (.ref f) := by
      refine' DL.mkF (st := DL.s_spread) KX G ?a ?l ?c ?k
      (case a => k_is); (case l => k_is); (case c => k_is); (case k => k_is)
    obtain ⟨f_greatest_steps, fd_greatest_steps, F_greatest_steps, m_greatest_steps⟩ : ∃ (f : PySem.Addr) (fd : PySem.FuncData), L2.Fun _ "greatest_steps" "greatest_steps" DL.s_greatest_steps f fd ∧ mg "greatest_steps" = some (.ref f) := by
      refine' DL.mkF (st := DL.s_greatest_steps) KX G ?a ?l ?c ?k
      (case a => k_is); (case l => k_is); (case c => k_is); (case k => k_is)
    obtain ⟨f_broken_worths, fd_broken_worths, F_broken_worths, m_broken_worths⟩ : ∃ (f : PySem.Addr) (fd : PySem.FuncData), L2.Fun _ "broken_worths" "broken_worths" DL.s_broken_worths f fd ∧ mg "broken_worths" = some (.ref f) := by
      refine' DL.mkF (st := DL.s_broken_worths) KX G ?a ?l ?c ?k
      (case a => k_is); (case l => k_is); (case c => k_is); (case k => k_is)
    obtain ⟨f_kept_worths, fd_kept_worths, F_kept_worths, m_kept_worths⟩ : ∃ (f : PySem.Addr) (fd : PySem.FuncData), L2.Fun _ "kept_worths" "kept_worths" DL.s_kept_worths f fd ∧ mg "kept_worths" = some (.ref f) := by
      refine' DL.mkF (st := DL.s_kept_worths) KX G ?a ?l ?c ?k
      (case a => k_is); (case l => k_is); (case c => k_is); (case k => k_is)
    obtain ⟨f__law_cell_at, fd__law_cell_at, F__law_cell_at, m__law_cell_at⟩ : ∃ (f : PySem.Addr) (fd : PySem.FuncData), L2.Fun _ "_law_cell_at" "_law_cell_at" DL.s__law_cell_at f fd ∧ mg "_law_cell_at" = some (.ref f) := by
      refine' DL.mkF (st := DL.s__law_cell_at) KX G ?a ?l ?c ?k
      (case a => k_is); (case l => k_is); (case c => k_is); (case k => k_is)
    obtain ⟨f__law_mixed, fd__law_mixed, F__law_mixed, m__law_mixed⟩ : ∃ (f : PySem.Addr) (fd : PySem.FuncData), L2.Fun _ "_law_mixed" "_law_mixed" DL.s__law_mixed f fd ∧ mg "_law_mixed" = some (.ref f) := by
      refine' DL.mkF (st := DL.s__law_mixed) KX G ?a ?l ?c ?k
      (case a => k_is); (case l => k_is); (case c => k_is); (case k => k_is)
    obtain ⟨f__law_reached, fd__law_reached, F__law_reached, m__law_reached⟩ : ∃ (f : PySem.Addr) (fd : PySem.FuncData), L2.Fun _ "_law_reached" "_law_reached" DL.s__law_reached f fd ∧ mg "_law_reached" = some (.ref f) := by
      refine' DL.mkF (st := DL.s__law_reached) KX G ?a ?l ?c ?k
      (case a => k_is); (case l => k_is); (case c => k_is); (case k => k_is)
    obtain ⟨f_spoiling, fd_spoiling, F_spoiling, m_spoiling⟩ : ∃ (f : PySem.Addr) (fd : PySem.FuncData), L2.Fun _ "spoiling" "spoiling" DL.s_spoiling f fd ∧ mg "spoiling" = some (.ref f) := by
      refine' DL.mkF (st := DL.s_spoiling) KX G ?a ?l ?c ?k
      (case a => k_is); (case l => k_is); (case c => k_is); (case k => k_is)
    obtain ⟨f_mending, fd_mending, F_mending, m_mending⟩ : ∃ (f : PySem.Addr) (fd : PySem.FuncData), L2.Fun _ "mending" "mending" DL.s_mending f fd ∧ mg "mending" = some (.ref f) := by
      refine' DL.mkF (st := DL.s_mending) KX G ?a ?l ?c ?k
      (case a => k_is); (case l => k_is); (case c => k_is); (case k => k_is)
    obtain ⟨f__law_box, fd__law_box, F__law_box, m__law_box⟩ : ∃ (f : PySem.Addr) (fd : PySem.FuncData), L2.Fun _ "_law_box" "_law_box" DL.s__law_box f fd ∧ mg "_law_box" = some (.ref f) := by
      refine' DL.mkF (st := DL.s__law_box) KX G ?a ?l ?c ?k
      (case a => k_is); (case l => k_is); (case c => k_is); (case k => k_is)
    obtain ⟨f__law_take, fd__law_take, F__law_take, m__law_take⟩ : ∃ (f : PySem.Addr) (fd : PySem.FuncData), L2.Fun _ "_law_take" "_law_take" DL.s__law_take f fd ∧ mg "_law_take" = some (.ref f) := by
      refine' DL.mkF (st := DL.s__law_take) KX G ?a ?l ?c ?k
      (case a => k_is); (case l => k_is); (case c => k_is); (case k => k_is)
    obtain ⟨f__law_ways, fd__law_ways, F__law_ways, m__law_ways⟩ : ∃ (f : PySem.Addr) (fd : PySem.FuncData), L2.Fun _ "_law_ways" "_law_ways" DL.s__law_ways f fd ∧ mg "_law_ways" = some (.ref f) := by
      refine' DL.mkF (st := DL.s__law_ways) KX G ?a ?l ?c ?k
      (case a => k_is); (case l => k_is); (case c => k_is); (case k => k_is)
    obtain ⟨f__law_filling, fd__law_filling, F__law_filling, m__law_filling⟩ : ∃ (f : PySem.Addr) (fd : PySem.FuncData), L2.Fun _ "_law_filling" "_law_filling" DL.s__law_filling f fd ∧ mg "_law_filling" = some (.ref f) := by
      refine' DL.mkF (st := DL.s__law_filling) KX G ?a ?l ?c ?k
      (case a => k_is); (case l => k_is); (case c => k_is); (case k => k_is)
    obtain ⟨f_sure, fd_sure, F_sure, m_sure⟩ : ∃ (f : PySem.Addr) (fd : PySem.FuncData), L2.Fun _ "sure" "sure" DL.s_sure f fd ∧ mg "sure" = some (.ref f) := by
      refine' DL.mkF (st := DL.s_sure) KX G ?a ?l ?c ?k
      (case a => k_is); (case l => k_is); (case c => k_is); (case k => k_is)
    obtain ⟨f__law_steps, fd__law_steps, F__law_steps, m__law_steps⟩ : ∃ (f : PySem.Addr) (fd : PySem.FuncData), L2.Fun _ "_law_steps" "_law_steps" DL.s__law_steps f fd ∧ mg "_law_steps" = some (.ref f) := by
      refine' DL.mkF (st := DL.s__law_steps) KX G ?a ?l ?c ?k
      (case a => k_is); (case l => k_is); (case c => k_is); (case k => k_is)
    obtain ⟨f__law_worth, fd__law_worth, F__law_worth, m__law_worth⟩ : ∃ (f : PySem.Addr) (fd : PySem.FuncData), L2.Fun _ "_law_worth" "_law_worth" DL.s__law_worth f fd ∧ mg "_law_worth" = some (.ref f) := by
      refine' DL.mkF (st := DL.s__law_worth) KX G ?a ?l ?c ?k
      (case a => k_is); (case l => k_is); (case c => k_is); (case k => k_is)
    obtain ⟨f__law_can, fd__law_can, F__law_can, m__law_can⟩ : ∃ (f : PySem.Addr) (fd : PySem.FuncData), L2.Fun _ "_law_can" "_law_can" DL.s__law_can f fd ∧ mg "_law_can" = some (.ref f) := by
      refine' DL.mkF (st := DL.s__law_can) KX G ?a ?l ?c ?k
      (case a => k_is); (case l => k_is); (case c => k_is); (case k => k_is)
    obtain ⟨f__law_rule, fd__law_rule, F__law_rule, m__law_rule⟩ : ∃ (f : PySem.Addr) (fd : PySem.FuncData), L2.Fun _ "_law_rule" "_law_rule" DL.s__law_rule f fd ∧ mg "_law_rule" = some (.ref f) := by
      refine' DL.mkF (st := DL.s__law_rule) KX G ?a ?l ?c ?k
      (case a => k_is); (case l => k_is); (case c => k_is); (case k => k_is)
    obtain ⟨f__law_cell, fd__law_cell, F__law_cell, m__law_cell⟩ : ∃ (f : PySem.Addr) (fd : PySem.FuncData), L2.Fun _ "_law_cell" "_law_cell" DL.s__law_cell f fd ∧ mg "_law_cell" = some (.ref f) := by
      refine' DL.mkF (st := DL.s__law_cell) KX G ?a ?l ?c ?k
      (case a => k_is); (case l => k_is); (case c => k_is); (case k => k_is)
    obtain ⟨f_law, fd_law, hb, F_law, m_law⟩ : ∃ (f : PySem.Addr) (fd : PySem.FuncData), (∀ (s : PySem.Shared) (v : PySem.Value), BindsTo s fd ⟨[v], []⟩ [("script", v)]) ∧ L2.Fun _ "law" "law" DL.s_law f fd ∧ mg "law" = some (.ref f) := by
      refine' DL.mkL (st := DL.s_law) KX G (fun kV dc pm cd ct an s v => .of_eq rfl) ?a ?l ?c ?k
      (case a => k_is); (case l => k_is); (case c => k_is); (case k => k_is)
    have z_abs : mg "abs" = none := by
      refine' PySem.W.mg_none_of KX G ?a
      (case a => k_is)
    have z_all : mg "all" = none := by
      refine' PySem.W.mg_none_of KX G ?a
      (case a => k_is)
    have z_any : mg "any" = none := by
      refine' PySem.W.mg_none_of KX G ?a
      (case a => k_is)
    have z_bool : mg "bool" = none := by
      refine' PySem.W.mg_none_of KX G ?a
      (case a => k_is)
    have z_enumerate : mg "enumerate" = none := by
      refine' PySem.W.mg_none_of KX G ?a
      (case a => k_is)
    have z_int : mg "int" = none := by
      refine' PySem.W.mg_none_of KX G ?a
      (case a => k_is)
    have z_isinstance : mg "isinstance" = none := by
      refine' PySem.W.mg_none_of KX G ?a
      (case a => k_is)
    have z_len : mg "len" = none := by
      refine' PySem.W.mg_none_of KX G ?a
      (case a => k_is)
    have z_list : mg "list" = none := by
      refine' PySem.W.mg_none_of KX G ?a
      (case a => k_is)
    have z_max : mg "max" = none := by
      refine' PySem.W.mg_none_of KX G ?a
      (case a => k_is)
    have z_min : mg "min" = none := by
      refine' PySem.W.mg_none_of KX G ?a
      (case a => k_is)
    have z_range : mg "range" = none := by
      refine' PySem.W.mg_none_of KX G ?a
      (case a => k_is)
    have z_sum : mg "sum" = none := by
      refine' PySem.W.mg_none_of KX G ?a
      (case a => k_is)
    have z_zip : mg "zip" = none := by
      refine' PySem.W.mg_none_of KX G ?a
      (case a => k_is)
    exact DL.lawOf { f_spread := f_spread, fd_spread := fd_spread, F_spread := F_spread, m_spread := m_spread, f_greatest_steps := f_greatest_steps, fd_greatest_steps := fd_greatest_steps, F_greatest_steps := F_greatest_steps, m_greatest_steps := m_greatest_steps, f_broken_worths := f_broken_worths, fd_broken_worths := fd_broken_worths, F_broken_worths := F_broken_worths, m_broken_worths := m_broken_worths, f_kept_worths := f_kept_worths, fd_kept_worths := fd_kept_worths, F_kept_worths := F_kept_worths, m_kept_worths := m_kept_worths, f__law_cell_at := f__law_cell_at, fd__law_cell_at := fd__law_cell_at, F__law_cell_at := F__law_cell_at, m__law_cell_at := m__law_cell_at, f__law_mixed := f__law_mixed, fd__law_mixed := fd__law_mixed, F__law_mixed := F__law_mixed, m__law_mixed := m__law_mixed, f__law_reached := f__law_reached, fd__law_reached := fd__law_reached, F__law_reached := F__law_reached, m__law_reached := m__law_reached, f_spoiling := f_spoiling, fd_spoiling := fd_spoiling, F_spoiling := F_spoiling, m_spoiling := m_spoiling, f_mending := f_mending, fd_mending := fd_mending, F_mending := F_mending, m_mending := m_mending, f__law_box := f__law_box, fd__law_box := fd__law_box, F__law_box := F__law_box, m__law_box := m__law_box, f__law_take := f__law_take, fd__law_take := fd__law_take, F__law_take := F__law_take, m__law_take := m__law_take, f__law_ways := f__law_ways, fd__law_ways := fd__law_ways, F__law_ways := F__law_ways, m__law_ways := m__law_ways, f__law_filling := f__law_filling, fd__law_filling := fd__law_filling, F__law_filling := F__law_filling, m__law_filling := m__law_filling, f_sure := f_sure, fd_sure := fd_sure, F_sure := F_sure, m_sure := m_sure, f__law_steps := f__law_steps, fd__law_steps := fd__law_steps, F__law_steps := F__law_steps, m__law_steps := m__law_steps, f__law_worth := f__law_worth, fd__law_worth := fd__law_worth, F__law_worth := F__law_worth, m__law_worth := m__law_worth, f__law_can := f__law_can, fd__law_can := fd__law_can, F__law_can := F__law_can, m__law_can := m__law_can, f__law_rule := f__law_rule, fd__law_rule := fd__law_rule, F__law_rule := F__law_rule, m__law_rule := m__law_rule, f__law_cell := f__law_cell, fd__law_cell := fd__law_cell, F__law_cell := F__law_cell, m__law_cell := m__law_cell, f_law := f_law, fd_law := fd_law, F_law := F_law, m_law := m_law, z_abs := z_abs, z_all := z_all, z_any := z_any, z_bool := z_bool, z_enumerate := z_enumerate, z_int := z_int, z_isinstance := z_isinstance, z_len := z_len, z_list := z_list, z_max := z_max, z_min := z_min, z_range := z_range, z_sum := z_sum, z_zip := z_zip } hb hmg
