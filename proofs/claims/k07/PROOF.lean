import PyProof.Rows.All
import HandS.ForMost
import HandS.IsInst
import HandS.Style
import HandS.TupAny
import HandS.TupLe
import HandS.Zip
import HandS.Wide
import HandS.Head0
import HandS.Head1
import HandS.Head2
import HandS.HeadEnd
import HandS.HeadHook1
import HandS.HeadHook2
import HandS.WordsExc
import HandS.Defaults
import HandS.More
import HandS.SortInts
import HandS.Conv
import HandS.Deep
import HandS.TupMul
import KE.KUnpack
import PySem.Challenge.RW_latticepoints_k07_whole_completed_vector
set_option Elab.async false
set_option linter.all false
set_option maxRecDepth 100000
set_option maxHeartbeats 4000000
set_option exponentiation.threshold 1000000
/-! Z0: a pure layer over HandS: values as data, environments as lists of slots, a def's meaning as a weakest precondition over data. -/
namespace Z0
open PySem PySem.Spec PyProof.Rows L2

/-! ### data -/
inductive Ty where
  | int | bool | str | tuple | list | dict
def Ty.name : Ty → String
  | .int => "int"
  | .bool => "bool"
  | .str => "str"
  | .tuple => "tuple"
  | .list => "list"
  | .dict => "dict"
inductive D where
  | non | bl (b : Bool) | int (i : Int) | str (x : Str) | tup (xs : List D) | lst (xs : List D) | row | ty (t : Ty)
abbrev Kf := PySem.W.Frag
/-- an own length bound -/
abbrev big : Nat := 16000000
theorem big_line {n : Nat} (h : n ≤ big) : n ≤ sizeLine := Nat.le_trans h (by rw [sizeLine_eq]; decide)
theorem big_lt {n : Nat} (h : n < big) : n < sizeLine := Nat.lt_of_lt_of_le h (by rw [sizeLine_eq]; decide)

mutual
/-- a value that stands for a datum in the frozen part F; rw: where the law's row of draws stands -/
def Rep (K : Kf) (rw : Option Addr) (F : Hp) : D → V → Prop
  | .non, v => v = .non
  | .bl b, v => v = .bl b
  | .int i, v => v = .int i
  | .str x, v => v = .str x
  | .tup ds, v => ∃ a vs, v = .ref a ∧ SqT K F a vs ∧ Reps K rw F ds vs
  | .lst ds, v => ∃ a vs, v = .ref a ∧ F a = some (.lst vs) ∧ Reps K rw F ds vs
  | .row, v => ∃ a, rw = some a ∧ v = .ref a
  | .ty t, v => v = .ty t.name
def Reps (K : Kf) (rw : Option Addr) (F : Hp) : List D → List V → Prop
  | [], vs => vs = []
  | d :: ds, vs => ∃ v r, vs = v :: r ∧ Rep K rw F d v ∧ Reps K rw F ds r
end
def Ex (F F' : Hp) : Prop := ∀ a o, F a = some o → F' a = some o
theorem Ex.refl (F : Hp) : Ex F F := fun _ _ h => h
theorem Ex.trans {F G H : Hp} (a : Ex F G) (b : Ex G H) : Ex F H := fun x o h => b x o (a x o h)
theorem Ex.upd {F : Hp} {p : Addr} {o : HO} (h : F p = none) : Ex F (upd F p o) := fun a u e => by
  rw [upd_ne (ne_of_none e h)]; exact e
theorem Ex.none {F G : Hp} (e : Ex F G) {a : Addr} (h : G a = none) : F a = none := by
  cases q : F a with
  | none => rfl
  | some o => rw [e a o q] at h; cases h
def ExR (rw : Option Addr) (H H' : Hp) : Prop := ∀ a o, rw ≠ some a → H a = some o → H' a = some o
theorem ExR.refl (rw : Option Addr) (H : Hp) : ExR rw H H := fun _ _ _ h => h
theorem ExR.trans {rw : Option Addr} {F G H : Hp} (a : ExR rw F G) (b : ExR rw G H) : ExR rw F H := fun x o n h => b x o n (a x o n h)
theorem ExR.upd {rw : Option Addr} {H : Hp} {p : Addr} {o : HO} (h : H p = none) : ExR rw H (upd H p o) := fun a u _ e => by
  rw [upd_ne (ne_of_none e h)]; exact e
theorem rd_ex {F F' : Hp} {a : Addr} {u : HO} (e : Ex F F') (h : Rd F a u) : Rd F' a u := by
  rcases h with h | ⟨o, h⟩
  · exact .inl (e a _ h)
  · exact .inr ⟨o, e a _ h⟩
theorem sql_ex {K : Kf} {F F' : Hp} {a : Addr} {xs : List V} (e : Ex F F') (h : SqL K F a xs) : SqL K F' a xs := by
  rcases h with h | h
  · exact .inl (rd_ex e h)
  · exact .inr h
theorem sqt_ex {K : Kf} {F F' : Hp} {a : Addr} {xs : List V} (e : Ex F F') (h : SqT K F a xs) : SqT K F' a xs := by
  rcases h with h | h
  · exact .inl (rd_ex e h)
  · exact .inr h
theorem sql_exr {K : Kf} {rw : Option Addr} {F F' : Hp} {a : Addr} {xs : List V} (n : rw ≠ some a) (e : ExR rw F F') (h : SqL K F a xs) : SqL K F' a xs := by
  rcases h with (h | ⟨o, h⟩) | h
  · exact .inl (.inl (e a _ n h))
  · exact .inl (.inr ⟨o, e a _ n h⟩)
  · exact .inr h
mutual
theorem Rep.ex {K : Kf} {rw : Option Addr} {F F' : Hp} (e : Ex F F') : ∀ (d : D) (v : V), Rep K rw F d v → Rep K rw F' d v
  | .non, _, h => h
  | .bl _, _, h => h
  | .int _, _, h => h
  | .str _, _, h => h
  | .tup ds, _, ⟨a, vs, q, s, r⟩ => ⟨a, vs, q, sqt_ex e s, Reps.ex e ds vs r⟩
  | .lst ds, _, ⟨a, vs, q, s, r⟩ => ⟨a, vs, q, e _ _ s, Reps.ex e ds vs r⟩
  | .row, _, h => h
  | .ty _, _, h => h
theorem Reps.ex {K : Kf} {rw : Option Addr} {F F' : Hp} (e : Ex F F') : ∀ (ds : List D) (vs : List V), Reps K rw F ds vs → Reps K rw F' ds vs
  | [], _, h => h
  | d :: ds, _, ⟨v, r, q, h, t⟩ => ⟨v, r, q, Rep.ex e d v h, Reps.ex e ds r t⟩
end
theorem Reps.length {K : Kf} {rw : Option Addr} {F : Hp} : ∀ {ds : List D} {vs : List V}, Reps K rw F ds vs → vs.length = ds.length
  | [], _, h => by cases (show _ = [] from h); rfl
  | d :: ds, _, h => by
    obtain ⟨v, r, rfl, _, t⟩ := (show ∃ v r, _ = v :: r ∧ _ ∧ _ from h)
    show r.length + 1 = ds.length + 1
    rw [Reps.length t]
theorem Reps.get {K : Kf} {rw : Option Addr} {F : Hp} : ∀ {ds : List D} {vs : List V} {i : Nat} {d : D}, Reps K rw F ds vs → ds[i]? = some d → ∃ v, vs[i]? = some v ∧ Rep K rw F d v
  | [], _, _, _, _, e => by simp at e
  | d :: ds, _, i, x, h, e => by
    obtain ⟨v, r, rfl, h1, t⟩ := (show ∃ v r, _ = v :: r ∧ _ ∧ _ from h)
    cases i with
    | zero => simp at e; subst e; exact ⟨v, rfl, h1⟩
    | succ i =>
      obtain ⟨w, e1, e2⟩ := Reps.get (i := i) t (by simpa using e)
      exact ⟨w, by simpa using e1, e2⟩
theorem Reps.app {K : Kf} {rw : Option Addr} {F : Hp} : ∀ {ds es : List D} {vs us : List V}, Reps K rw F ds vs → Reps K rw F es us → Reps K rw F (ds ++ es) (vs ++ us)
  | [], _, _, _, h, q => by cases (show _ = [] from h); exact q
  | d :: ds, _, _, _, h, q => by
    obtain ⟨v, r, rfl, h1, t⟩ := (show ∃ v r, _ = v :: r ∧ _ ∧ _ from h)
    exact ⟨v, _, rfl, h1, Reps.app t q⟩
theorem Reps.one {K : Kf} {rw : Option Addr} {F : Hp} {d : D} {v : V} (h : Rep K rw F d v) : Reps K rw F [d] [v] := ⟨v, [], rfl, h, rfl⟩
theorem Reps.two {K : Kf} {rw : Option Addr} {F : Hp} {d e : D} {v u : V} (h : Rep K rw F d v) (k : Rep K rw F e u) : Reps K rw F [d, e] [v, u] := ⟨v, [u], rfl, h, Reps.one k⟩
theorem Reps.take {K : Kf} {rw : Option Addr} {F : Hp} : ∀ (n : Nat) {ds : List D} {vs : List V}, Reps K rw F ds vs → Reps K rw F (ds.take n) (vs.take n)
  | 0, _, _, _ => by simp [Reps]
  | n + 1, [], _, h => by cases (show _ = [] from h); simp [Reps]
  | n + 1, d :: ds, _, h => by
    obtain ⟨v, r, rfl, h1, t⟩ := (show ∃ v r, _ = v :: r ∧ _ ∧ _ from h)
    exact ⟨v, _, rfl, h1, Reps.take n t⟩
theorem Reps.drop {K : Kf} {rw : Option Addr} {F : Hp} : ∀ (n : Nat) {ds : List D} {vs : List V}, Reps K rw F ds vs → Reps K rw F (ds.drop n) (vs.drop n)
  | 0, _, _, h => by simpa using h
  | n + 1, [], _, h => by cases (show _ = [] from h); simp [Reps]
  | n + 1, d :: ds, _, h => by
    obtain ⟨v, r, rfl, h1, t⟩ := (show ∃ v r, _ = v :: r ∧ _ ∧ _ from h)
    exact Reps.drop n t
theorem Reps.rev {K : Kf} {rw : Option Addr} {F : Hp} : ∀ {ds : List D} {vs : List V}, Reps K rw F ds vs → Reps K rw F ds.reverse vs.reverse
  | [], _, h => by cases (show _ = [] from h); simp [Reps]
  | d :: ds, _, h => by
    obtain ⟨v, r, rfl, h1, t⟩ := (show ∃ v r, _ = v :: r ∧ _ ∧ _ from h)
    rw [List.reverse_cons, List.reverse_cons]
    exact Reps.app (Reps.rev t) (Reps.one h1)
theorem Reps.set {K : Kf} {rw : Option Addr} {F : Hp} {d : D} {v : V} (q : Rep K rw F d v) : ∀ (i : Nat) {ds : List D} {vs : List V}, Reps K rw F ds vs → Reps K rw F (ds.set i d) (vs.set i v)
  | _, [], _, h => by cases (show _ = [] from h); simp [Reps]
  | 0, d :: ds, _, h => by
    obtain ⟨v, r, rfl, h1, t⟩ := (show ∃ v r, _ = v :: r ∧ _ ∧ _ from h)
    exact ⟨_, _, rfl, q, t⟩
  | i + 1, d :: ds, _, h => by
    obtain ⟨v, r, rfl, h1, t⟩ := (show ∃ v r, _ = v :: r ∧ _ ∧ _ from h)
    exact ⟨_, _, rfl, h1, Reps.set q i t⟩
theorem Reps.ints {K : Kf} {rw : Option Addr} {F : Hp} : ∀ {ns : List Int} {vs : List V}, Reps K rw F (ns.map D.int) vs → vs = ns.map V.int
  | [], _, h => h
  | n :: ns, _, h => by
    obtain ⟨v, r, rfl, h1, t⟩ := (show ∃ v r, _ = v :: r ∧ _ ∧ _ from h)
    rw [Reps.ints t, show v = .int n from h1]; rfl
theorem Reps.of_ints {K : Kf} {rw : Option Addr} {F : Hp} : ∀ {ns : List Int}, Reps K rw F (ns.map D.int) (ns.map V.int)
  | [] => rfl
  | n :: ns => ⟨_, _, rfl, rfl, Reps.of_ints⟩

/-! ### environments and their relation to states -/
inductive Slot where
  | sh (d : D) | own (ds : List D)
abbrev REnv := List (Option Slot)
structure Zs where
  rw : Option Addr
  H0 : Hp
  F0 : Hp
/-- the script: known to the object, or of the written part -/
def ScOk (K : Kf) (H : Hp) (sc : Addr) (ns : List Int) : Prop := (∃ o, H sc = some (.frz o (.lst (ns.map V.int)))) ∨ SqL K (fun _ => none) sc (ns.map V.int)
theorem ScOk.sql {K : Kf} {H : Hp} {sc : Addr} {ns : List Int} (h : ScOk K H sc ns) : SqL K H sc (ns.map V.int) := by
  rcases h with ⟨o, h⟩ | h
  · exact .inl (.inr ⟨o, h⟩)
  · rcases h with (h | ⟨o, h⟩) | h
    · cases h
    · cases h
    · exact .inr h
theorem ScOk.keep {K : Kf} {H H' : Hp} {sc : Addr} {ns : List Int} (h : ScOk K H sc ns) (k : ∀ o, H sc = some (.frz o (.lst (ns.map V.int))) → H' sc = some (.frz o (.lst (ns.map V.int)))) : ScOk K H' sc ns := by
  rcases h with ⟨o, h⟩ | h
  · exact .inl ⟨o, k o h⟩
  · exact .inr h
/-- the row of draws: the script, and three ints -/
def RowOk (K : Kf) (rw : Option Addr) (H : Hp) : Prop := ∀ a, rw = some a → ∃ (sc : Addr) (ns : List Int) (p m r : Int),
  H a = some (.lst [.ref sc, .int p, .int m, .int r]) ∧ ScOk K H sc ns ∧ 0 ≤ p
structure Base (K : Kf) (Z : Zs) (F H : Hp) : Prop where
  fh : Ex F H
  f0 : Ex Z.F0 F
  hh : ExR Z.rw Z.H0 H
  new : ∀ a, F a ≠ none → Z.F0 a ≠ none ∨ Z.H0 a = none
  row : RowOk K Z.rw H
  frow : ∀ a, Z.rw = some a → F a = none
def SlotOk (K : Kf) (Z : Zs) (F H : Hp) (σ : L2.St) (i : Nat) : Slot → Prop
  | .sh d => ∃ v, σ[i]? = some (some v) ∧ Rep K Z.rw F d v
  | .own ds => ∃ a vs, σ[i]? = some (some (.ref a)) ∧ H a = some (.lst vs) ∧ Reps K Z.rw F ds vs ∧ F a = none ∧ Z.H0 a = none ∧ Z.rw ≠ some a
structure R (K : Kf) (Z : Zs) (F : Hp) (ρ : REnv) (σ : L2.St) (H : Hp) : Prop where
  base : Base K Z F H
  len : ρ.length = σ.length
  slot : ∀ i s, ρ[i]? = some (some s) → SlotOk K Z F H σ i s
  apart : ∀ (i j : Nat) (ds es : List D) (a : Addr), ρ[i]? = some (some (Slot.own ds)) → ρ[j]? = some (some (Slot.own es)) → σ[i]? = some (some (V.ref a)) → σ[j]? = some (some (V.ref a)) → i = j
section
variable {K : Kf} {Z : Zs} {F F' : Hp} {ρ : REnv} {σ : L2.St} {H H' : Hp}
/-- what grows: the frozen part, the heap -/
structure Gr (K : Kf) (Z : Zs) (F H F' H' : Hp) : Prop where
  f : Ex F F'
  h : ExR Z.rw H H'
  b : Base K Z F' H'
  n : ∀ a, F' a ≠ none → F a ≠ none ∨ H a = none
theorem Gr.refl (b : Base K Z F H) : Gr K Z F H F H := ⟨Ex.refl _, ExR.refl _ _, b, fun _ h => .inl h⟩
theorem Gr.trans {F1 H1 F2 H2 : Hp} (a : Gr K Z F H F1 H1) (c : Gr K Z F1 H1 F2 H2) : Gr K Z F H F2 H2 :=
  ⟨a.f.trans c.f, a.h.trans c.h, c.b, fun x hx => by
    rcases c.n x hx with q | q
    · exact a.n x q
    · by_cases hr : Z.rw = some x
      · exact absurd (c.b.frow x hr) hx
      · cases e : H x with
        | none => exact .inr rfl
        | some o => rw [a.h x o hr e] at q; cases q⟩
theorem R.grow (r : R K Z F ρ σ H) (g : Gr K Z F H F' H') : R K Z F' ρ σ H' := by
  refine ⟨g.b, r.len, fun i s e => ?_, r.apart⟩
  have q := r.slot i s e
  cases s with
  | sh d => obtain ⟨v, e1, e2⟩ := q; exact ⟨v, e1, Rep.ex g.f _ _ e2⟩
  | own ds =>
    obtain ⟨a, vs, e1, e2, e3, e4, e5, e6⟩ := q
    refine ⟨a, vs, e1, g.h a _ e6 e2, Reps.ex g.f _ _ e3, ?_, e5, e6⟩
    cases z : F' a with
    | none => rfl
    | some o =>
      rcases g.n a (by rw [z]; simp) with y | y
      · exact absurd e4 y
      · rw [e2] at y; cases y
/-- a new object is laid and frozen -/
theorem Base.lay (b : Base K Z F H) {p : Addr} {o : HO} (h : H p = none) : Gr K Z F H (upd F p o) (upd H p o) := by
  have hF : F p = none := b.fh.none h
  have hrow : Z.rw ≠ some p := fun e => by obtain ⟨_, _, _, _, _, q, _⟩ := b.row p e; rw [h] at q; cases q
  refine ⟨Ex.upd hF, ExR.upd h, ⟨fun a u e => ?_, b.f0.trans (Ex.upd hF), b.hh.trans (ExR.upd h), fun a e => ?_, fun a e => ?_, fun a e => ?_⟩, fun a e => ?_⟩
  · by_cases ha : a = p
    · subst ha; rw [upd_same] at e ⊢; exact e
    · rw [upd_ne ha] at e ⊢; exact b.fh a u e
  · by_cases ha : a = p
    · subst ha
      right
      cases z : Z.H0 a with
      | none => rfl
      | some u => rw [b.hh a u hrow z] at h; cases h
    · rw [upd_ne ha] at e; exact b.new a e
  · obtain ⟨sc, ns, q, m, r, e1, e3, e4⟩ := b.row a e
    refine ⟨sc, ns, q, m, r, ?_, ?_, e4⟩
    · rw [upd_ne (ne_of_none e1 h)]; exact e1
    · exact e3.keep fun o q => by rw [upd_ne (ne_of_none q h)]; exact q
  · rw [upd_ne (fun z : a = p => hrow (by rw [← z]; exact e))]; exact b.frow a e
  · by_cases ha : a = p
    · subst ha; exact .inr h
    · rw [upd_ne ha] at e; exact .inl e
/-- a new object is laid, not frozen -/
theorem Base.lay0 (b : Base K Z F H) {p : Addr} {o : HO} (h : H p = none) : Gr K Z F H F (upd H p o) := by
  have hrow : Z.rw ≠ some p := fun e => by obtain ⟨_, _, _, _, _, q, _⟩ := b.row p e; rw [h] at q; cases q
  refine ⟨Ex.refl F, ExR.upd h, ⟨fun a u e => ?_, b.f0, b.hh.trans (ExR.upd h), b.new, fun a e => ?_, b.frow⟩, fun a e => .inl e⟩
  · have := b.fh a u e
    rw [upd_ne (ne_of_none this h)]; exact this
  · obtain ⟨sc, ns, q, m, r, e1, e3, e4⟩ := b.row a e
    refine ⟨sc, ns, q, m, r, ?_, ?_, e4⟩
    · rw [upd_ne (ne_of_none e1 h)]; exact e1
    · exact e3.keep fun o q => by rw [upd_ne (ne_of_none q h)]; exact q
theorem Base.norow (b : Base K Z F H) {p : Addr} (h : H p = none) : Z.rw ≠ some p := fun e => by obtain ⟨_, _, _, _, _, q, _⟩ := b.row p e; rw [h] at q; cases q
theorem Base.h0 (b : Base K Z F H) {p : Addr} (h : H p = none) : Z.H0 p = none := by
  cases z : Z.H0 p with
  | none => rfl
  | some u => rw [b.hh p u (b.norow h) z] at h; cases h
end

/-! ### readings of values -/
/-- a value that may be looked at now: a datum, or a list that may still change -/
def RepP (K : Kf) (rw : Option Addr) (F H : Hp) (d : D) (v : V) : Prop :=
  Rep K rw F d v ∨ ∃ ds a vs, d = .lst ds ∧ v = .ref a ∧ H a = some (.lst vs) ∧ Reps K rw F ds vs ∧ rw ≠ some a
section
variable {K : Kf} {Z : Zs} {F F' : Hp} {ρ : REnv} {σ : L2.St} {H H' : Hp} {d : D} {v : V}
theorem RepP.gr (h : RepP K Z.rw F H d v) (g : Gr K Z F H F' H') : RepP K Z.rw F' H' d v := by
  rcases h with h | ⟨ds, a, vs, e1, e2, e3, e4, e5⟩
  · exact .inl (Rep.ex g.f _ _ h)
  · exact .inr ⟨ds, a, vs, e1, e2, g.h a _ e5 e3, Reps.ex g.f _ _ e4, e5⟩
theorem RepP.int {rw : Option Addr} {i : Int} (h : RepP K rw F H (.int i) v) : v = .int i := by
  rcases h with h | ⟨ds, a, vs, e1, _⟩
  · exact h
  · cases e1
theorem RepP.bl {rw : Option Addr} {b : Bool} (h : RepP K rw F H (.bl b) v) : v = .bl b := by
  rcases h with h | ⟨ds, a, vs, e1, _⟩
  · exact h
  · cases e1
theorem RepP.str {rw : Option Addr} {x : Str} (h : RepP K rw F H (.str x) v) : v = .str x := by
  rcases h with h | ⟨ds, a, vs, e1, _⟩
  · exact h
  · cases e1
theorem RepP.non {rw : Option Addr} (h : RepP K rw F H .non v) : v = .non := by
  rcases h with h | ⟨ds, a, vs, e1, _⟩
  · exact h
  · cases e1
theorem RepP.tup {ds : List D} (h : RepP K Z.rw F H (.tup ds) v) (b : Base K Z F H) : ∃ a vs, v = .ref a ∧ SqT K H a vs ∧ Reps K Z.rw F ds vs ∧ SqT K F a vs := by
  rcases h with ⟨a, vs, e1, e2, e3⟩ | ⟨ds, a, vs, e1, _⟩
  · exact ⟨a, vs, e1, sqt_ex b.fh e2, e3, e2⟩
  · cases e1
theorem RepP.lst {ds : List D} (h : RepP K Z.rw F H (.lst ds) v) (b : Base K Z F H) : ∃ a vs, v = .ref a ∧ H a = some (.lst vs) ∧ Reps K Z.rw F ds vs ∧ Z.rw ≠ some a := by
  rcases h with ⟨a, vs, e1, e2, e3⟩ | ⟨ds', a, vs, e1, e2, e3, e4, e5⟩
  · exact ⟨a, vs, e1, b.fh a _ e2, e3, fun z => by rw [b.frow a z] at e2; cases e2⟩
  · cases e1; exact ⟨a, vs, e2, e3, e4, e5⟩
end

/-! ### meanings: expressions, tests, argument lists, statements -/
abbrev SE := REnv → (D → Prop) → Prop
abbrev SA := REnv → (List D → Prop) → Prop
abbrev ST := REnv → (Bool → Prop) → Prop
structure Kt where
  nx : REnv → Prop
  rt : D → Prop
  bk : REnv → Prop
  ct : REnv → Prop
abbrev SS := REnv → Kt → Prop
def Kt.le (k l : Kt) : Prop := (∀ ρ, k.nx ρ → l.nx ρ) ∧ (∀ d, k.rt d → l.rt d) ∧ (∀ ρ, k.bk ρ → l.bk ρ) ∧ (∀ ρ, k.ct ρ → l.ct ρ)
def MonoE {α : Type} (f : REnv → (α → Prop) → Prop) : Prop := ∀ ρ (P Q : α → Prop), (∀ d, P d → Q d) → f ρ P → f ρ Q
def MonoS (f : SS) : Prop := ∀ ρ k l, Kt.le k l → f ρ k → f ρ l
def TEof (K : Kf) (f : SE) : TE := fun σ H Q => ∃ Z F ρ, R K Z F ρ σ H ∧ f ρ fun d => ∀ v F' H', Gr K Z F H F' H' → Rep K Z.rw F' d v → Q v H'
def TPof (K : Kf) (f : SE) : TE := fun σ H Q => ∃ Z F ρ, R K Z F ρ σ H ∧ f ρ fun d => ∀ v F' H', Gr K Z F H F' H' → RepP K Z.rw F' H' d v → Q v H'
/-- a new list, not frozen yet -/
def Fresh (Z : Zs) (F : Hp) (ρ : REnv) (σ : L2.St) (p : Addr) : Prop := F p = none ∧ Z.H0 p = none ∧ Z.rw ≠ some p ∧ ∀ (i : Nat) (ds : List D), ρ[i]? = some (some (Slot.own ds)) → σ[i]? ≠ some (some (V.ref p))
def TFof (K : Kf) (f : SA) : TE := fun σ H Q => ∃ Z F ρ, R K Z F ρ σ H ∧ f ρ fun ds => ∀ p vs F' H', Gr K Z F H F' H' → H p = none → Fresh Z F' ρ σ p → H' p = some (.lst vs) → Reps K Z.rw F' ds vs → Q (.ref p) H'
def TTof (K : Kf) (f : ST) : TT := fun σ H Q => ∃ Z F ρ, R K Z F ρ σ H ∧ f ρ fun b => ∀ F' H', Gr K Z F H F' H' → Q b H'
def TAof (K : Kf) (f : SA) : TA := fun σ H Q => ∃ Z F ρ, R K Z F ρ σ H ∧ f ρ fun ds => ∀ vs F' H', Gr K Z F H F' H' → Reps K Z.rw F' ds vs → Q vs H'
def kOf (K : Kf) (Z : Zs) (F : Hp) (D' : Ends) : Kt where
  nx ρ := ∀ σ' F' H', Ex F F' → R K Z F' ρ σ' H' → D'.nx σ' H'
  rt d := ∀ v F' H', Ex F F' → Base K Z F' H' → Rep K Z.rw F' d v → D'.rt v H'
  bk ρ := ∀ σ' F' H', Ex F F' → R K Z F' ρ σ' H' → D'.bk σ' H'
  ct ρ := ∀ σ' F' H', Ex F F' → R K Z F' ρ σ' H' → D'.ct σ' H'
def TSof (K : Kf) (f : SS) : TS := fun D' σ H => ∃ Z F ρ, R K Z F ρ σ H ∧ f ρ (kOf K Z F D')
theorem kOf_ex {K : Kf} {Z : Zs} {F F' : Hp} {D' : Ends} (e : Ex F F') : Kt.le (kOf K Z F D') (kOf K Z F' D') :=
  ⟨fun _ h σ' G H' e' r => h σ' G H' (e.trans e') r, fun _ h v G H' e' b r => h v G H' (e.trans e') b r, fun _ h σ' G H' e' r => h σ' G H' (e.trans e') r, fun _ h σ' G H' e' r => h σ' G H' (e.trans e') r⟩
theorem Kt.le.rfl {k : Kt} : Kt.le k k := ⟨fun _ h => h, fun _ h => h, fun _ h => h, fun _ h => h⟩
theorem Kt.le.trans {k l m : Kt} (a : Kt.le k l) (b : Kt.le l m) : Kt.le k m := ⟨fun x h => b.1 x (a.1 x h), fun x h => b.2.1 x (a.2.1 x h), fun x h => b.2.2.1 x (a.2.2.1 x h), fun x h => b.2.2.2 x (a.2.2.2 x h)⟩

structure E (X : Cx) (e : Expr) (f : SE) : Prop where
  mono : MonoE f
  run : PE X e (TEof X.K f)
structure P (X : Cx) (e : Expr) (f : SE) : Prop where
  mono : MonoE f
  run : PE X e (TPof X.K f)
structure F (X : Cx) (e : Expr) (f : SA) : Prop where
  mono : MonoE f
  run : PE X e (TFof X.K f)
structure T (X : Cx) (e : Expr) (f : ST) : Prop where
  mono : MonoE f
  run : PT X e (TTof X.K f)
structure Tw (X : Cx) (e : Expr) (f : ST) : Prop where
  mono : MonoE f
  run : PW X e (TTof X.K f)
structure A (X : Cx) (es : List Expr) (f : SA) : Prop where
  mono : MonoE f
  run : PA X es (TAof X.K f)
  cnt : ∀ ρ Q, f ρ Q → f ρ fun ds => ds.length = es.length ∧ Q ds
structure S (X : Cx) (st : Stmt) (f : SS) : Prop where
  mono : MonoS f
  run : PS X st (TSof X.K f)
structure Ss (X : Cx) (st : List Stmt) (f : SS) : Prop where
  mono : MonoS f
  run : PSs X st (TSof X.K f)

section
variable {X : Cx} {e a b c : Expr} {f g k : SE}
theorem PE.weak {t t' : TE} (h : PE X e t) (hw : ∀ σ H Q, t' σ H Q → t σ H Q) : PE X e t' := ⟨fun pins s σ H Q I q => h.run pins s σ H Q I (hw σ H Q q)⟩
theorem PT.weak {t t' : TT} (h : PT X e t) (hw : ∀ σ H Q, t' σ H Q → t σ H Q) : PT X e t' := ⟨fun pins s σ H Q I q => h.run pins s σ H Q I (hw σ H Q q)⟩
theorem PW.weak {t t' : TT} (h : PW X e t) (hw : ∀ σ H Q, t' σ H Q → t σ H Q) : PW X e t' := ⟨fun wh pins s σ H Q I q => h.run wh pins s σ H Q I (hw σ H Q q)⟩
theorem PA.weak {es : List Expr} {t t' : TA} (h : PA X es t) (hw : ∀ σ H Q, t' σ H Q → t σ H Q) : PA X es t' := ⟨fun pos pins s σ H Q I q => h.run pos pins s σ H Q I (hw σ H Q q)⟩
theorem PS.weak {st : Stmt} {t t' : TS} (h : PS X st t) (hw : ∀ D σ H, t' D σ H → t D σ H) : PS X st t' := ⟨fun pins s σ H D I q => h.run pins s σ H D I (hw D σ H q)⟩
theorem PSs.weak {st : List Stmt} {t t' : TS} (h : PSs X st t) (hw : ∀ D σ H, t' D σ H → t D σ H) : PSs X st t' := ⟨fun pins s σ H D I q => h.run pins s σ H D I (hw D σ H q)⟩

theorem E.p (h : E X e f) : P X e f := ⟨h.mono, PE.weak h.run fun σ H Q ⟨Z, F, ρ, r, q⟩ => ⟨Z, F, ρ, r, h.mono ρ _ _ (fun d hd v F' H' g rep => hd v F' H' g (.inl rep)) q⟩⟩
/-- freeze a new list -/
theorem freeze {K : Kf} {Z : Zs} {F G : Hp} {ρ : REnv} {σ : L2.St} {H H' : Hp} {p : Addr} {vs : List V} (r : R K Z F ρ σ H) (g : Gr K Z F H G H') (fr : Fresh Z G ρ σ p) (hp : H' p = some (.lst vs)) (h0 : H p = none) : Gr K Z F H (upd G p (.lst vs)) H' := by
  obtain ⟨f1, f2, f3, f4⟩ := fr
  refine ⟨g.f.trans (Ex.upd f1), g.h, ⟨fun a u e => ?_, g.b.f0.trans (Ex.upd f1), g.b.hh, fun a e => ?_, g.b.row, fun a e => ?_⟩, fun a e => ?_⟩
  · by_cases ha : a = p
    · subst ha; rw [upd_same] at e; cases e; exact hp
    · rw [upd_ne ha] at e; exact g.b.fh a u e
  · by_cases ha : a = p
    · subst ha; exact .inr f2
    · rw [upd_ne ha] at e; exact g.b.new a e
  · rw [upd_ne (fun z : a = p => f3 (by rw [← z]; exact e))]; exact g.b.frow a e
  · by_cases ha : a = p
    · subst ha; exact .inr h0
    · rw [upd_ne ha] at e; exact g.n a e
end

section
variable {X : Cx} {e a b c : Expr} {f g k : SE} {pos : Pos}
theorem E.ofF {f : SA} (h : F X e f) : E X e (fun ρ Q => f ρ fun ds => Q (.lst ds)) :=
  ⟨fun ρ P Q hpq q => h.mono ρ _ _ (fun ds hd => hpq _ hd) q,
   PE.weak h.run fun σ H Q ⟨Z, F, ρ, r, q⟩ => ⟨Z, F, ρ, r, h.mono ρ _ _ (fun ds hd p vs F' H' g h0 fr hp rs => by
     have g2 := freeze r g fr hp h0
     refine hd (.ref p) _ H' g2 ⟨p, vs, rfl, upd_same, Reps.ex (Ex.upd fr.1) _ _ rs⟩) q⟩⟩
theorem P.ofF {f : SA} (h : F X e f) : P X e (fun ρ Q => f ρ fun ds => Q (.lst ds)) := (E.ofF h).p

/-! ### names, constants -/
def varE (i : Nat) : SE := fun ρ Q => match ρ[i]? with
  | some (some (Slot.sh d)) => Q d
  | _ => False
def varP (i : Nat) : SE := fun ρ Q => match ρ[i]? with
  | some (some (Slot.sh d)) => Q d
  | some (some (Slot.own ds)) => Q (.lst ds)
  | _ => False
theorem varE_mono (i : Nat) : MonoE (varE i) := fun ρ P Q h q => by
  unfold varE at *
  split at q
  · exact h _ q
  · exact q.elim
theorem varP_mono (i : Nat) : MonoE (varP i) := fun ρ P Q h q => by
  unfold varP at *
  split at q
  · exact h _ q
  · exact h _ q
  · exact q.elim
theorem E.var (i : Nat) (h : PE X e (tVar i)) : E X e (varE i) := ⟨varE_mono i, PE.weak h fun σ H Q ⟨Z, F, ρ, r, q⟩ => by
  unfold varE at q
  split at q
  · rename_i d hd
    obtain ⟨v, e1, e2⟩ := r.slot i _ hd
    exact ⟨v, e1, q v F H (Gr.refl r.base) e2⟩
  · exact q.elim⟩
theorem P.var (i : Nat) (h : PE X e (tVar i)) : P X e (varP i) := ⟨varP_mono i, PE.weak h fun σ H Q ⟨Z, F, ρ, r, q⟩ => by
  unfold varP at q
  split at q
  · rename_i d hd
    obtain ⟨v, e1, e2⟩ := r.slot i _ hd
    exact ⟨v, e1, q v F H (Gr.refl r.base) (.inl e2)⟩
  · rename_i ds hd
    obtain ⟨a, vs, e1, e2, e3, _, _, e6⟩ := r.slot i _ hd
    exact ⟨_, e1, q _ F H (Gr.refl r.base) (.inr ⟨ds, a, vs, rfl, rfl, e2, e3, e6⟩)⟩
  · exact q.elim⟩
def cE (d : D) : SE := fun _ Q => Q d
theorem E.cst {d : D} {v : V} (hd : ∀ K rw F, Rep K rw F d v) (h : PE X e (tC v)) : E X e (cE d) := ⟨fun _ _ _ h q => h _ q, PE.weak h fun σ H Q ⟨Z, F, ρ, r, q⟩ => q v F H (Gr.refl r.base) (hd _ _ _)⟩
theorem E.int {i : Int} {j : Nat} : E X (.Constant (.int i) j pos) (cE (.int i)) := E.cst (fun _ _ _ => rfl) pe_int
theorem E.bl {b : Bool} {j : Nat} : E X (.Constant (.bool b) j pos) (cE (.bl b)) := E.cst (fun _ _ _ => rfl) pe_bl
theorem E.non {j : Nat} : E X (.Constant .none j pos) (cE .non) := E.cst (fun _ _ _ => rfl) pe_non
theorem E.str {x : Str} {j : Nat} : E X (.Constant (.str x) j pos) (cE (.str x)) := E.cst (fun _ _ _ => rfl) pe_str
/-- a constant of the module -/
theorem E.glob {x : Str} {d : D} {v : V} {u : Value} (hd : ∀ rw F, Rep X.K rw F d v) (hg : Gl X x) (hm : X.mg x = some u) (r : RelV v u) (hdb : (x == ("__debug__" : Str)) = false := by decide) : E X (.Name x pos) (cE d) :=
  ⟨fun _ _ _ h q => h _ q, PE.weak (pe_glob hg hm r hdb) fun σ H Q ⟨Z, F, ρ, r, q⟩ => q v F H (Gr.refl r.base) (hd _ _)⟩

/-! ### operators by values -/
abbrev O1 := D → (D → Prop) → Prop
abbrev O2 := D → D → (D → Prop) → Prop
def Mono1 (o : O1) : Prop := ∀ x (P Q : D → Prop), (∀ d, P d → Q d) → o x P → o x Q
def Mono2 (o : O2) : Prop := ∀ x y (P Q : D → Prop), (∀ d, P d → Q d) → o x y P → o x y Q
def OpS (K : Kf) (r : R2) (o : O2) : Prop := ∀ (Z : Zs) (F H : Hp) (dx dy : D) (x y : V) (Q : VK), Base K Z F H → RepP K Z.rw F H dx x → RepP K Z.rw F H dy y →
  (o dx dy fun d => ∀ v F' H', Gr K Z F H F' H' → Rep K Z.rw F' d v → Q v H') → r x y H Q
def UnS (K : Kf) (r : V → Hp → VK → Prop) (o : O1) : Prop := ∀ (Z : Zs) (F H : Hp) (dx : D) (x : V) (Q : VK), Base K Z F H → RepP K Z.rw F H dx x →
  (o dx fun d => ∀ v F' H', Gr K Z F H F' H' → Rep K Z.rw F' d v → Q v H') → r x H Q
def sOp (o : O2) (f g : SE) : SE := fun ρ Q => f ρ fun x => g ρ fun y => o x y Q
def sUn (o : O1) (f : SE) : SE := fun ρ Q => f ρ fun x => o x Q
theorem sOp_mono {o : O2} (mo : Mono2 o) (mf : MonoE f) (mg : MonoE g) : MonoE (sOp o f g) := fun ρ P Q h q => mf ρ _ _ (fun x hx => mg ρ _ _ (fun y hy => mo x y _ _ h hy) hx) q
theorem sUn_mono {o : O1} (mo : Mono1 o) (mf : MonoE f) : MonoE (sUn o f) := fun ρ P Q h q => mf ρ _ _ (fun x hx => mo x _ _ h hx) q
theorem op_tp {K : Kf} {r : R2} {o : O2} (hs : OpS K r o) (mo : Mono2 o) (mf : MonoE f) (mg : MonoE g) : ∀ σ H Q, TEof K (sOp o f g) σ H Q → tOp r (TPof K f) (TPof K g) σ H Q := fun σ H Q ⟨Z, F, ρ, r, q⟩ =>
  ⟨Z, F, ρ, r, mf ρ _ _ (fun x hx v F1 H1 g1 rp => ⟨Z, F1, ρ, r.grow g1, mg ρ _ _ (fun y hy u F2 H2 g2 rq => hs Z F2 H2 x y v u Q g2.b (rp.gr g2) rq
    (mo _ _ _ _ (fun d hd w F3 H3 g3 rep => hd w F3 H3 ((g1.trans g2).trans g3) rep) hy)) hx⟩) q⟩
theorem E.op {op : Operator} {r : R2} {o : O2} (ho : OpR X (binaryOp op) r) (hs : OpS X.K r o) (mo : Mono2 o) (ha : P X a f) (hb : P X b g) : E X (.BinOp a op b pos) (sOp o f g) :=
  ⟨sOp_mono mo ha.mono hb.mono, PE.weak (pe_op ho ha.run hb.run) (op_tp hs mo ha.mono hb.mono)⟩
theorem E.cmp {op : CmpOp} {r : R2} {o : O2} (ho : OpR X (compareOp op) r) (hs : OpS X.K r o) (mo : Mono2 o) (hm : behindInMarks op b = false) (ha : P X a f) (hb : P X b g) : E X (.Compare a [op] [b] pos) (sOp o f g) :=
  ⟨sOp_mono mo ha.mono hb.mono, PE.weak (pe_cmpR ho ha.run hb.run hm) (op_tp hs mo ha.mono hb.mono)⟩
theorem E.un {op : UnaryOp} {r : V → Hp → VK → Prop} {o : O1} (ho : UnR X (unaryOp op) r) (hs : UnS X.K r o) (mo : Mono1 o) (ha : P X a f) : E X (.UnaryOp op a pos) (sUn o f) :=
  ⟨sUn_mono mo ha.mono, PE.weak (pe_un ho ha.run) fun σ H Q ⟨Z, F, ρ, r, q⟩ => ⟨Z, F, ρ, r, ha.mono ρ _ _ (fun x hx v F1 H1 g1 rp => hs Z F1 H1 x v Q g1.b rp (mo _ _ _ (fun d hd w F3 H3 g3 rep => hd w F3 H3 (g1.trans g3) rep) hx)) q⟩⟩
/-- a bool's value as a test -/
def tV (f : SE) : ST := fun ρ Q => f ρ fun d => match d with
  | .bl b => Q b
  | _ => False
theorem tV_mono (mf : MonoE f) : MonoE (tV f) := fun ρ P Q h q => mf ρ _ _ (fun d hd => by
  cases d with
  | bl b => exact h b hd
  | _ => exact hd) q
theorem T.cmp {op : CmpOp} {r : R2} {o : O2} (ho : OpR X (compareOp op) r) (hs : OpS X.K r o) (mo : Mono2 o) (hm : behindInMarks op b = false) (ha : P X a f) (hb : P X b g) : T X (.Compare a [op] [b] pos) (tV (sOp o f g)) :=
  ⟨tV_mono (sOp_mono mo ha.mono hb.mono), PT.weak (pt_cmpR ho ha.run hb.run hm) fun σ H Q ⟨Z, F, ρ, r, q⟩ => op_tp hs mo ha.mono hb.mono σ H _ ⟨Z, F, ρ, r, sOp_mono mo ha.mono hb.mono ρ _ _ (fun d hd v F' H' g rep => by
    cases d with
    | bl b => exact ⟨b, rep, hd F' H' g⟩
    | _ => exact hd.elim) q⟩⟩
theorem T.val (h : E X e f) (he : ∀ whole, isTrue e X.env whole = (do let v ← whole; standAt e.pos; holding [v] (truthy v)) := by intro _; rfl) : T X e (tV f) :=
  ⟨tV_mono h.mono, PT.weak (pt_val h.run he) fun σ H Q ⟨Z, F, ρ, r, q⟩ => ⟨Z, F, ρ, r, h.mono ρ _ _ (fun d hd v F' H' g rep => by
    cases d with
    | bl b => exact ⟨b, rep, hd F' H' g⟩
    | _ => exact hd.elim) q⟩⟩

/-! ### and, or, not -/
def br (b : Bool) (p q : Prop) : Prop := match b with
  | true => p
  | false => q
theorem br_imp {b : Bool} {p q p' q' : Prop} (h : br b p q) (h1 : p → p') (h2 : q → q') : br b p' q' := by
  cases b with
  | true => exact h1 h
  | false => exact h2 h
theorem br_ite {b : Bool} {p q : Prop} (h : br b p q) : if b = true then p else q := by
  cases b with
  | true => rw [if_pos rfl]; exact h
  | false => rw [if_neg (by decide)]; exact h
def andT (f g : ST) : ST := fun ρ Q => f ρ fun b => br b (g ρ Q) (Q false)
def orT (f g : ST) : ST := fun ρ Q => f ρ fun b => br b (Q true) (g ρ Q)
def notT (f : ST) : ST := fun ρ Q => f ρ fun b => Q (!b)
theorem andT_mono {f g : ST} (mf : MonoE f) (mg : MonoE g) : MonoE (andT f g) := fun ρ P Q h q => mf ρ _ _ (fun b hb => br_imp hb (fun z => mg ρ _ _ h z) (h _)) q
theorem orT_mono {f g : ST} (mf : MonoE f) (mg : MonoE g) : MonoE (orT f g) := fun ρ P Q h q => mf ρ _ _ (fun b hb => br_imp hb (h _) (fun z => mg ρ _ _ h z)) q
theorem Tw.and1 {f : ST} (ha : T X a f) : Tw X (.BoolOp .And [a] pos) f := ⟨ha.mono, pw_and1 ha.run⟩
theorem Tw.or1 {f : ST} (ha : T X a f) : Tw X (.BoolOp .Or [a] pos) f := ⟨ha.mono, pw_or1 ha.run⟩
variable {rest : List Expr}
theorem Tw.and {f g : ST} (ha : T X a f) (hb : Tw X (.BoolOp .And (b :: rest) pos) g) : Tw X (.BoolOp .And (a :: b :: rest) pos) (andT f g) :=
  ⟨andT_mono ha.mono hb.mono, PW.weak (pw_and ha.run hb.run) fun σ H Q ⟨Z, F, ρ, r, q⟩ => ⟨Z, F, ρ, r, ha.mono ρ _ _ (fun b hb' F' H' g1 => br_ite (br_imp hb' (fun z => ⟨Z, F', ρ, r.grow g1, hb.mono ρ _ _ (fun c hc F2 H2 g2 => hc F2 H2 (g1.trans g2)) z⟩) (fun z => z F' H' g1))) q⟩⟩
theorem Tw.or {f g : ST} (ha : T X a f) (hb : Tw X (.BoolOp .Or (b :: rest) pos) g) : Tw X (.BoolOp .Or (a :: b :: rest) pos) (orT f g) :=
  ⟨orT_mono ha.mono hb.mono, PW.weak (pw_or ha.run hb.run) fun σ H Q ⟨Z, F, ρ, r, q⟩ => ⟨Z, F, ρ, r, ha.mono ρ _ _ (fun b hb' F' H' g1 => br_ite (br_imp hb' (fun z => z F' H' g1) (fun z => ⟨Z, F', ρ, r.grow g1, hb.mono ρ _ _ (fun c hc F2 H2 g2 => hc F2 H2 (g1.trans g2)) z⟩))) q⟩⟩
theorem Tw.t {f : ST} (h : Tw X e f) : T X e f := ⟨h.mono, h.run.pt⟩
theorem T.not {f : ST} (ha : T X a f) : T X (.UnaryOp .Not a pos) (notT f) := ⟨fun ρ P Q h q => ha.mono ρ _ _ (fun b hb => h _ hb) q, PT.weak (pt_not ha.run) fun σ H Q ⟨Z, F, ρ, r, q⟩ => ⟨Z, F, ρ, r, ha.mono ρ _ _ (fun b hb F' H' g => hb F' H' g) q⟩⟩
/-- .. as values (bools) -/
def vB (f : ST) : SE := fun ρ Q => f ρ fun b => Q (.bl b)
theorem vB_mono {f : ST} (mf : MonoE f) : MonoE (vB f) := fun ρ P Q h q => mf ρ _ _ (fun b hb => h _ hb) q
/-- an expression whose value is a bool -/
structure B (X : Cx) (e : Expr) (f : ST) : Prop where
  mono : MonoE f
  run : PE X e (TEof X.K (vB f))
theorem B.of {f : SE} (h : E X e f) : B X e (tV f) := ⟨tV_mono h.mono, PE.weak h.run fun σ H Q ⟨Z, F, ρ, r, q⟩ => ⟨Z, F, ρ, r, h.mono ρ _ _ (fun d hd v F' H' g rep => by
    cases d with
    | bl b => exact hd v F' H' g rep
    | _ => exact hd.elim) q⟩⟩
theorem B.val {f : ST} (h : B X e f) : E X e (vB f) := ⟨vB_mono h.mono, h.run⟩
theorem B.one {f : ST} {op} (h : B X a f) : B X (.BoolOp op [a] pos) f := ⟨h.mono, pe_one h.run⟩
theorem B.and {f g : ST} (ha : B X a f) (hb : B X (.BoolOp .And (b :: rest) pos) g) : B X (.BoolOp .And (a :: b :: rest) pos) (andT f g) :=
  ⟨andT_mono ha.mono hb.mono, PE.weak (pe_and ha.run hb.run) fun σ H Q ⟨Z, F, ρ, r, q⟩ => ⟨Z, F, ρ, r, ha.mono ρ _ _ (fun b hb' v F' H' g1 rep => ⟨b, rep, br_ite (br_imp hb' (fun z => ⟨Z, F', ρ, r.grow g1, hb.mono ρ _ _ (fun c hc v F2 H2 g2 rep => hc v F2 H2 (g1.trans g2) rep) z⟩) (fun z => z _ F' H' g1 rfl))⟩) q⟩⟩
theorem B.or {f g : ST} (ha : B X a f) (hb : B X (.BoolOp .Or (b :: rest) pos) g) : B X (.BoolOp .Or (a :: b :: rest) pos) (orT f g) :=
  ⟨orT_mono ha.mono hb.mono, PE.weak (pe_or ha.run hb.run) fun σ H Q ⟨Z, F, ρ, r, q⟩ => ⟨Z, F, ρ, r, ha.mono ρ _ _ (fun b hb' v F' H' g1 rep => ⟨b, rep, br_ite (br_imp hb' (fun z => z _ F' H' g1 rfl) (fun z => ⟨Z, F', ρ, r.grow g1, hb.mono ρ _ _ (fun c hc v F2 H2 g2 rep => hc v F2 H2 (g1.trans g2) rep) z⟩))⟩) q⟩⟩
theorem B.not {f : ST} (ha : B X a f) : B X (.UnaryOp .Not a pos) (notT f) := ⟨fun ρ P Q h q => ha.mono ρ _ _ (fun b hb => h _ hb) q, PE.weak (pe_not ha.run) fun σ H Q ⟨Z, F, ρ, r, q⟩ => ⟨Z, F, ρ, r, ha.mono ρ _ _ (fun b hb v F' H' g rep => ⟨b, rep, hb _ F' H' g rfl⟩) q⟩⟩
def ifE (t : ST) (f g : SE) : SE := fun ρ Q => t ρ fun b => br b (f ρ Q) (g ρ Q)
theorem E.ifx {t : ST} (ht : T X c t) (ha : E X a f) (hb : E X b g) : E X (.IfExp c a b pos) (ifE t f g) :=
  ⟨fun ρ P Q h q => ht.mono ρ _ _ (fun b z => br_imp z (ha.mono ρ _ _ h) (hb.mono ρ _ _ h)) q, PE.weak (pe_ifExp ht.run ha.run hb.run) fun σ H Q ⟨Z, F, ρ, r, q⟩ => ⟨Z, F, ρ, r, ht.mono ρ _ _ (fun b z F' H' g1 => br_ite (br_imp z
    (fun z => ⟨Z, F', ρ, r.grow g1, ha.mono ρ _ _ (fun d hd v F2 H2 g2 rep => hd v F2 H2 (g1.trans g2) rep) z⟩) (fun z => ⟨Z, F', ρ, r.grow g1, hb.mono ρ _ _ (fun d hd v F2 H2 g2 rep => hd v F2 H2 (g1.trans g2) rep) z⟩))) q⟩⟩
/-- a < b < c -/
def chE (o o' : O2) (f g k : SE) : ST := fun ρ Q => f ρ fun x => g ρ fun y => o x y fun d => match d with
  | .bl b => br b (k ρ fun z => o' y z fun d' => match d' with
    | .bl b' => Q b'
    | _ => False) (Q false)
  | _ => False

/-! ### argument lists, displays -/
def nilA : SA := fun _ Q => Q []
def consA (f : SE) (g : SA) : SA := fun ρ Q => f ρ fun x => g ρ fun xs => Q (x :: xs)
theorem A.nil : A X [] nilA := ⟨fun _ _ _ h q => h _ q, PA.weak pa_nil fun σ H Q ⟨Z, F, ρ, r, q⟩ => q [] F H (Gr.refl r.base) rfl, fun _ _ q => ⟨rfl, q⟩⟩
theorem A.cons {es : List Expr} {g : SA} (ha : E X e f) (hr : A X es g) (hs : starEach (e :: es) X.env = (false, eval e X.env) :: starEach es X.env := by rfl) : A X (e :: es) (consA f g) :=
  ⟨fun ρ P Q h q => ha.mono ρ _ _ (fun x hx => hr.mono ρ _ _ (fun xs hxs => h _ hxs) hx) q, PA.weak (pa_cons ha.run hr.run hs) fun σ H Q ⟨Z, F, ρ, r, q⟩ => ⟨Z, F, ρ, r, ha.mono ρ _ _ (fun x hx v F1 H1 g1 rep => ⟨Z, F1, ρ, r.grow g1, hr.mono ρ _ _ (fun xs hxs vs F2 H2 g2 reps => hxs (v :: vs) F2 H2 (g1.trans g2) ⟨v, vs, rfl, Rep.ex g2.f _ _ rep, reps⟩) hx⟩) q⟩,
   fun ρ Q q => ha.mono ρ _ _ (fun x hx => hr.mono ρ _ _ (fun xs hxs => ⟨by rw [List.length_cons, List.length_cons, hxs.1], hxs.2⟩) (hr.cnt ρ _ hx)) q⟩
def tupE (f : SA) : SE := fun ρ Q => f ρ fun ds => ds.length ≤ big ∧ Q (.tup ds)
def lstF (f : SA) : SA := fun ρ Q => f ρ fun ds => ds.length ≤ big ∧ Q ds
theorem E.tup {es : List Expr} {f : SA} {x1} (h : A X es f) : E X (.Tuple es x1 pos) (tupE f) :=
  ⟨fun ρ P Q hpq q => h.mono ρ _ _ (fun ds hd => ⟨hd.1, hpq _ hd.2⟩) q, PE.weak (pe_tup h.run) fun σ H Q ⟨Z, F, ρ, r, q⟩ => ⟨Z, F, ρ, r, h.mono ρ _ _ (fun ds hd vs F1 H1 g1 reps => ⟨by rw [reps.length]; exact big_line hd.1, fun p hp =>
    hd.2 (.ref p) _ _ (g1.trans (g1.b.lay hp)) ⟨p, vs, rfl, .inl (.inl upd_same), Reps.ex (Ex.upd (g1.b.fh.none hp)) _ _ reps⟩⟩) q⟩⟩
theorem own_ne {K : Kf} {Z : Zs} {F H : Hp} {ρ : REnv} {σ : L2.St} (r : R K Z F ρ σ H) {p : Addr} (hp : H p = none) : ∀ (i : Nat) (ds : List D), ρ[i]? = some (some (Slot.own ds)) → σ[i]? ≠ some (some (V.ref p)) := fun i ds e z => by
  obtain ⟨a, vs, e1, e2, _⟩ := r.slot i _ e
  rw [z] at e1
  cases e1
  rw [hp] at e2
  cases e2
theorem fresh_of {K : Kf} {Z : Zs} {F H F1 H1 : Hp} {ρ : REnv} {σ : L2.St} (r : R K Z F ρ σ H) (g1 : Gr K Z F H F1 H1) {p : Addr} (hp : H1 p = none) : Fresh Z F1 ρ σ p :=
  ⟨g1.b.fh.none hp, g1.b.h0 hp, g1.b.norow hp, own_ne (r.grow g1) hp⟩
theorem back_none {K : Kf} {Z : Zs} {F H F1 H1 : Hp} (b : Base K Z F H) (g1 : Gr K Z F H F1 H1) {p : Addr} (hp : H1 p = none) : H p = none := by
  cases e : H p with
  | none => rfl
  | some o => rw [g1.h p o (g1.b.norow hp) e] at hp; cases hp
theorem F.lst {es : List Expr} {f : SA} (h : A X es f) : F X (.List es pos) (lstF f) :=
  ⟨fun ρ P Q hpq q => h.mono ρ _ _ (fun ds hd => ⟨hd.1, hpq _ hd.2⟩) q, PE.weak (pe_lst h.run) fun σ H Q ⟨Z, F, ρ, r, q⟩ => ⟨Z, F, ρ, r, h.mono ρ _ _ (fun ds hd vs F1 H1 g1 reps => ⟨by rw [reps.length]; exact big_line hd.1, fun p hp =>
    hd.2 p vs F1 _ (g1.trans (g1.b.lay0 hp)) (back_none r.base g1 hp) (fresh_of r g1 hp) upd_same reps⟩) q⟩⟩

/-! ### chains of two comparisons -/
def bOf (Q : Bool → Prop) (d : D) : Prop := match d with
  | .bl b => Q b
  | _ => False
theorem bOf_mono {P Q : Bool → Prop} (h : ∀ b, P b → Q b) : ∀ d, bOf P d → bOf Q d := fun d q => by
  cases d with
  | bl b => exact h b q
  | _ => exact q.elim
def chT (o o' : O2) (f g k : SE) : ST := fun ρ Q => f ρ fun x => g ρ fun y => o x y (bOf fun b => br b (k ρ fun z => o' y z (bOf Q)) (Q false))
theorem chT_mono {o o' : O2} (mo : Mono2 o) (mo' : Mono2 o') (mf : MonoE f) (mg : MonoE g) (mk : MonoE k) : MonoE (chT o o' f g k) := fun ρ P Q h q =>
  mf ρ _ _ (fun x hx => mg ρ _ _ (fun y hy => mo x y _ _ (bOf_mono fun b hb => br_imp hb (fun z => mk ρ _ _ (fun z hz => mo' y z _ _ (bOf_mono h) hz) z) (h _)) hy) hx) q
theorem ch_tp {K : Kf} {r r' : R2} {o o' : O2} (hs : OpS K r o) (hs' : OpS K r' o') (mo : Mono2 o) (mo' : Mono2 o') (mf : MonoE f) (mg : MonoE g) (mk : MonoE k) :
    ∀ σ H Q, TEof K (vB (chT o o' f g k)) σ H Q → tChain r r' (TPof K f) (TPof K g) (TPof K k) σ H Q := fun σ H Q ⟨Z, F, ρ, r, q⟩ =>
  ⟨Z, F, ρ, r, mf ρ _ _ (fun x hx v F1 H1 g1 rp => ⟨Z, F1, ρ, r.grow g1, mg ρ _ _ (fun y hy u F2 H2 g2 rq => hs Z F2 H2 x y v u _ g2.b (rp.gr g2) rq
    (mo _ _ _ _ (fun d hd w F3 H3 g3 rep => by
      cases d with
      | bl b => exact ⟨b, rep, br_ite (br_imp hd (fun z => ⟨Z, F3, ρ, r.grow ((g1.trans g2).trans g3), mk ρ _ _ (fun z hz w' F4 H4 g4 rz => hs' Z F4 H4 y z u w' Q g4.b ((rq.gr g3).gr g4) rz (mo' _ _ _ _ (fun d' hd' w2 F5 H5 g5 rep' => by
          cases d' with
          | bl b' => exact hd' w2 F5 H5 ((((g1.trans g2).trans g3).trans g4).trans g5) rep'
          | _ => exact hd'.elim) hz)) z⟩) (fun z => z _ F3 H3 ((g1.trans g2).trans g3) rfl))⟩
      | _ => exact hd.elim) hy)) hx⟩) q⟩
theorem B.chain {op op' : CmpOp} {r r' : R2} {o o' : O2} (ho : OpR X (compareOp op) r) (ho' : OpR X (compareOp op') r') (hs : OpS X.K r o) (hs' : OpS X.K r' o') (mo : Mono2 o) (mo' : Mono2 o') (h1 : behindInMarks op b = false) (h2 : behindInMarks op' c = false)
    (ha : P X a f) (hb : P X b g) (hc : P X c k) (hp : PE X (.Compare a [op, op'] [b, c] pos) (tChain r r' (TPof X.K f) (TPof X.K g) (TPof X.K k))) : B X (.Compare a [op, op'] [b, c] pos) (chT o o' f g k) :=
  ⟨chT_mono mo mo' ha.mono hb.mono hc.mono, PE.weak hp (ch_tp hs hs' mo mo' ha.mono hb.mono hc.mono)⟩
theorem T.chain {op op' : CmpOp} {r r' : R2} {o o' : O2} (hs : OpS X.K r o) (hs' : OpS X.K r' o') (mo : Mono2 o) (mo' : Mono2 o')
    (ha : P X a f) (hb : P X b g) (hc : P X c k) (hp : PT X (.Compare a [op, op'] [b, c] pos) (tTest (tChain r r' (TPof X.K f) (TPof X.K g) (TPof X.K k)))) : T X (.Compare a [op, op'] [b, c] pos) (chT o o' f g k) :=
  ⟨chT_mono mo mo' ha.mono hb.mono hc.mono, PT.weak hp fun σ H Q ⟨Z, F, ρ, r, q⟩ => ch_tp hs hs' mo mo' ha.mono hb.mono hc.mono σ H _ ⟨Z, F, ρ, r, chT_mono mo mo' ha.mono hb.mono hc.mono ρ _ _ (fun b hb v F' H' g1 rep => ⟨b, rep, hb F' H' g1⟩) q⟩⟩
/-- a bool-valued expression as a test -/
theorem T.ofB {f : ST} (h : B X e f) (he : ∀ whole, isTrue e X.env whole = (do let v ← whole; standAt e.pos; holding [v] (truthy v)) := by intro _; rfl) : T X e f :=
  ⟨h.mono, PT.weak (pt_val h.run he) fun σ H Q ⟨Z, F, ρ, r, q⟩ => ⟨Z, F, ρ, r, h.mono ρ _ _ (fun b hb v F' H' g rep => ⟨b, rep, hb F' H' g⟩) q⟩⟩

/-! ### arguments that are only looked at -/
inductive RepPs (K : Kf) (rw : Option Addr) (F H : Hp) : List D → List V → Prop
  | nil : RepPs K rw F H [] []
  | cons {d : D} {v : V} {ds : List D} {vs : List V} : RepP K rw F H d v → RepPs K rw F H ds vs → RepPs K rw F H (d :: ds) (v :: vs)
def TQof (K : Kf) (f : SA) : TA := fun σ H Q => ∃ Z F ρ, R K Z F ρ σ H ∧ f ρ fun ds => ∀ vs F' H', Gr K Z F H F' H' → RepPs K Z.rw F' H' ds vs → Q vs H'
structure Ap (X : Cx) (es : List Expr) (f : SA) : Prop where
  mono : MonoE f
  run : PA X es (TQof X.K f)
theorem Ap.nil : Ap X [] nilA := ⟨fun _ _ _ h q => h _ q, PA.weak pa_nil fun σ H Q ⟨Z, F, ρ, r, q⟩ => q [] F H (Gr.refl r.base) .nil⟩
theorem Ap.cons {es : List Expr} {g : SA} (ha : P X e f) (hr : Ap X es g) (hs : starEach (e :: es) X.env = (false, eval e X.env) :: starEach es X.env := by rfl) : Ap X (e :: es) (consA f g) :=
  ⟨fun ρ P Q h q => ha.mono ρ _ _ (fun x hx => hr.mono ρ _ _ (fun xs hxs => h _ hxs) hx) q, PA.weak (pa_cons ha.run hr.run hs) fun σ H Q ⟨Z, F, ρ, r, q⟩ => ⟨Z, F, ρ, r, ha.mono ρ _ _ (fun x hx v F1 H1 g1 rep => ⟨Z, F1, ρ, r.grow g1, hr.mono ρ _ _ (fun xs hxs vs F2 H2 g2 reps => hxs (v :: vs) F2 H2 (g1.trans g2) (.cons (rep.gr g2) reps)) hx⟩) q⟩⟩
abbrev OC := List D → (D → Prop) → Prop
def MonoC (o : OC) : Prop := ∀ x (P Q : D → Prop), (∀ d, P d → Q d) → o x P → o x Q
def CallS (K : Kf) (r : List V → Hp → VK → Prop) (o : OC) : Prop := ∀ (Z : Zs) (F H : Hp) (ds : List D) (vs : List V) (Q : VK), Base K Z F H → RepPs K Z.rw F H ds vs →
  (o ds fun d => ∀ v F' H', Gr K Z F H F' H' → Rep K Z.rw F' d v → Q v H') → r vs H Q
def callE (o : OC) (f : SA) : SE := fun ρ Q => f ρ fun ds => o ds Q
theorem callE_mono {o : OC} {f : SA} (mo : MonoC o) (mf : MonoE f) : MonoE (callE o f) := fun ρ P Q h q => mf ρ _ _ (fun x hx => mo x _ _ h hx) q
theorem cb_tp {K : Kf} {r : List V → Hp → VK → Prop} {o : OC} {f : SA} (hs : CallS K r o) (mo : MonoC o) (mf : MonoE f) : ∀ σ H Q, TEof K (callE o f) σ H Q → tCB r (TQof K f) σ H Q := fun σ H Q ⟨Z, F, ρ, r, q⟩ =>
  ⟨Z, F, ρ, r, mf ρ _ _ (fun ds hd vs F1 H1 g1 rp => hs Z F1 H1 ds vs Q g1.b rp (mo _ _ _ (fun d hd w F3 H3 g3 rep => hd w F3 H3 (g1.trans g3) rep) hd)) q⟩
theorem E.callB {r : List V → Hp → VK → Prop} {o : OC} {f : SA} {es : List Expr} (hs : CallS X.K r o) (mo : MonoC o) (ha : Ap X es f) (h : PE X e (tCB r (TQof X.K f))) : E X e (callE o f) :=
  ⟨callE_mono mo ha.mono, PE.weak h (cb_tp hs mo ha.mono)⟩
/-- a call that makes a new list -/
abbrev OF := List D → (List D → Prop) → Prop
def MonoF (o : OF) : Prop := ∀ x (P Q : List D → Prop), (∀ d, P d → Q d) → o x P → o x Q
def CallF (K : Kf) (r : List V → Hp → VK → Prop) (o : OF) : Prop := ∀ (Z : Zs) (F H : Hp) (ds : List D) (vs : List V) (Q : VK), Base K Z F H → RepPs K Z.rw F H ds vs →
  (o ds fun es => ∀ p us, H p = none → Reps K Z.rw F es us → Q (.ref p) (upd H p (.lst us))) → r vs H Q
def callF (o : OF) (f : SA) : SA := fun ρ Q => f ρ fun ds => o ds Q
theorem F.callB {r : List V → Hp → VK → Prop} {o : OF} {f : SA} {es : List Expr} (hs : CallF X.K r o) (mo : MonoF o) (ha : Ap X es f) (h : PE X e (tCB r (TQof X.K f))) : F X e (callF o f) :=
  ⟨fun ρ P Q h q => ha.mono ρ _ _ (fun x hx => mo x _ _ h hx) q, PE.weak h fun σ H Q ⟨Z, F, ρ, r, q⟩ => ⟨Z, F, ρ, r, ha.mono ρ _ _ (fun ds hd vs F1 H1 g1 rp => hs Z F1 H1 ds vs Q g1.b rp (mo _ _ _ (fun es hd p us hp reps =>
    hd p us F1 _ (g1.trans (g1.b.lay0 hp)) (back_none r.base g1 hp) (fresh_of r g1 hp) upd_same reps) hd)) q⟩⟩
/-- a two-place operation that makes a new list -/
abbrev OF2 := D → D → (List D → Prop) → Prop
def MonoF2 (o : OF2) : Prop := ∀ x y (P Q : List D → Prop), (∀ d, P d → Q d) → o x y P → o x y Q
def OpF (K : Kf) (r : R2) (o : OF2) : Prop := ∀ (Z : Zs) (F H : Hp) (dx dy : D) (x y : V) (Q : VK), Base K Z F H → RepP K Z.rw F H dx x → RepP K Z.rw F H dy y →
  (o dx dy fun es => ∀ p us, H p = none → Reps K Z.rw F es us → Q (.ref p) (upd H p (.lst us))) → r x y H Q
def opF (o : OF2) (f g : SE) : SA := fun ρ Q => f ρ fun x => g ρ fun y => o x y Q
theorem F.op {op : Operator} {r : R2} {o : OF2} (ho : OpR X (binaryOp op) r) (hs : OpF X.K r o) (mo : MonoF2 o) (ha : P X a f) (hb : P X b g) : F X (.BinOp a op b pos) (opF o f g) :=
  ⟨fun ρ P Q h q => ha.mono ρ _ _ (fun x hx => hb.mono ρ _ _ (fun y hy => mo x y _ _ h hy) hx) q, PE.weak (pe_op ho ha.run hb.run) fun σ H Q ⟨Z, F, ρ, r, q⟩ => ⟨Z, F, ρ, r, ha.mono ρ _ _ (fun x hx v F1 H1 g1 rp => ⟨Z, F1, ρ, r.grow g1, hb.mono ρ _ _ (fun y hy u F2 H2 g2 rq =>
    hs Z F2 H2 x y v u Q g2.b (rp.gr g2) rq (mo _ _ _ _ (fun es hd p us hp reps => hd p us F2 _ ((g1.trans g2).trans (g2.b.lay0 hp)) (back_none r.base (g1.trans g2) hp) (fresh_of r (g1.trans g2) hp) upd_same reps) hy)) hx⟩) q⟩⟩

/-! ### subscripts, slices -/
theorem Reps.at {K : Kf} {rw : Option Addr} {F : Hp} {ds : List D} {vs : List V} {i : Int} {d : D} (h : Reps K rw F ds vs) (e : atI ds i = some d) : ∃ v, atI vs i = some v ∧ Rep K rw F d v := by
  unfold atI at *
  rw [h.length]
  cases q : ixN ds.length i with
  | none => rw [q] at e; cases e
  | some j =>
    rw [q] at e
    exact h.get (show ds[j]? = some d from e)
def ixO : O2 := fun x y Q => match x, y with
  | .tup ds, .int i => (match atI ds i with
    | some d => Q d
    | none => False)
  | .lst ds, .int i => (match atI ds i with
    | some d => Q d
    | none => False)
  | _, _ => False
theorem ixO_mono : Mono2 ixO := fun x y P Q h q => by
  unfold ixO at *
  split at q
  · split at q
    · exact h _ q
    · exact q.elim
  · split at q
    · exact h _ q
    · exact q.elim
  · exact q.elim
theorem ixO_s {K : Kf} : OpS K (rIx K) ixO := fun Z F H dx dy x y Q b rx ry q => by
  unfold ixO at q
  split at q
  · rename_i ds i
    split at q
    · rename_i d hd
      obtain ⟨a, vs, rfl, e1, e2, _⟩ := rx.tup b
      obtain ⟨v, e3, e4⟩ := e2.at hd
      exact .inr (.inl ⟨a, vs, i, v, rfl, ry.int, e1, e3, q v F H (Gr.refl b) e4⟩)
    · exact q.elim
  · rename_i ds i
    split at q
    · rename_i d hd
      obtain ⟨a, vs, rfl, e1, e2, _⟩ := rx.lst b
      obtain ⟨v, e3, e4⟩ := e2.at hd
      exact .inl ⟨a, vs, i, v, rfl, ry.int, SqL.of e1, e3, q v F H (Gr.refl b) e4⟩
    · exact q.elim
  · exact q.elim
theorem E.ix (ha : P X a f) (hb : P X b g) (hs : PlainIx b) : E X (.Subscript a b pos) (sOp ixO f g) :=
  ⟨sOp_mono ixO_mono ha.mono hb.mono, PE.weak (pe_ix ix_seq ha.run hb.run hs) (op_tp ixO_s ixO_mono ha.mono hb.mono)⟩
abbrev SO := REnv → (Option Int → Prop) → Prop
def TOof (K : Kf) (f : SO) : TO := fun σ H Q => ∃ Z F ρ, R K Z F ρ σ H ∧ f ρ fun o => ∀ F' H', Gr K Z F H F' H' → Q o H'
structure O (X : Cx) (e : Option Expr) (f : SO) : Prop where
  mono : MonoE f
  run : PO X e (TOof X.K f)
theorem PO.weak {e : Option Expr} {t t' : TO} (h : PO X e t) (hw : ∀ σ H Q, t' σ H Q → t σ H Q) : PO X e t' := ⟨fun pins s σ H Q I q => h.run pins s σ H Q I (hw σ H Q q)⟩
def noO : SO := fun _ Q => Q none
def intOf (Q : Option Int → Prop) (d : D) : Prop := match d with
  | .int i => Q (some i)
  | _ => False
def someO (f : SE) : SO := fun ρ Q => f ρ (intOf Q)
theorem O.none : O X Option.none noO := ⟨fun _ _ _ h q => h _ q, PO.weak po_none fun σ H Q ⟨Z, F, ρ, r, q⟩ => q F H (Gr.refl r.base)⟩
theorem O.some (h : P X e f) : O X (Option.some e) (someO f) := ⟨fun ρ P Q hpq q => h.mono ρ _ _ (fun d hd => by
    cases d with
    | int i => exact hpq _ hd
    | _ => exact hd.elim) q, PO.weak (po_some h.run) fun σ H Q ⟨Z, F, ρ, r, q⟩ => ⟨Z, F, ρ, r, h.mono ρ _ _ (fun d hd v F' H' g rep => by
    cases d with
    | int i => exact ⟨i, rep.int, hd F' H' g⟩
    | _ => exact hd.elim) q⟩⟩
def cutD (xs : List D) (lo hi : Option Int) : List D := (xs.drop (HT.sIx xs.length 0 lo)).take (HT.sIx xs.length xs.length hi - HT.sIx xs.length 0 lo)
theorem Reps.cut {K : Kf} {rw : Option Addr} {F : Hp} {ds : List D} {vs : List V} (h : Reps K rw F ds vs) (lo hi : Option Int) : Reps K rw F (cutD ds lo hi) (cutV vs lo hi) := by
  unfold cutD cutV
  rw [h.length]
  exact Reps.take _ (Reps.drop _ h)
theorem cut_whole {α : Type} {xs : List α} {lo hi : Option Int} (h : HT.sIx xs.length 0 lo = 0 ∧ HT.sIx xs.length xs.length hi = xs.length) : (xs.drop (HT.sIx xs.length 0 lo)).take (HT.sIx xs.length xs.length hi - HT.sIx xs.length 0 lo) = xs := by
  rw [h.1, h.2]; simp
def slO (x : D) (lo hi : Option Int) (Q : D → Prop) : Prop := match x with
  | .tup ds => Q (.tup (cutD ds lo hi))
  | .lst ds => Q (.lst (cutD ds lo hi))
  | _ => False
def slE (f : SE) (l h : SO) : SE := fun ρ Q => f ρ fun x => l ρ fun lo => h ρ fun hi => slO x lo hi Q
theorem slO_mono {x : D} {lo hi : Option Int} {P Q : D → Prop} (h : ∀ d, P d → Q d) (q : slO x lo hi P) : slO x lo hi Q := by
  unfold slO at *
  split at q
  · exact h _ q
  · exact h _ q
  · exact q.elim
theorem E.sl {lo hi : Option Expr} {l h : SO} {p2 : Pos} (ha : P X e f) (hl : O X lo l) (hh : O X hi h) : E X (.Subscript e (.Slice lo hi none p2) pos) (slE f l h) :=
  ⟨fun ρ P Q hpq q => ha.mono ρ _ _ (fun x hx => hl.mono ρ _ _ (fun o ho => hh.mono ρ _ _ (fun u hu => slO_mono hpq hu) ho) hx) q,
   PE.weak (pe_slice (SlR.or sl_list sl_tupA) ha.run hl.run hh.run) fun σ H Q ⟨Z, F, ρ, r, q⟩ => ⟨Z, F, ρ, r, ha.mono ρ _ _ (fun x hx v F1 H1 g1 rp => ⟨Z, F1, ρ, r.grow g1, hl.mono ρ _ _ (fun o ho F2 H2 g2 => ⟨Z, F2, ρ, (r.grow g1).grow g2, hh.mono ρ _ _ (fun u hu F3 H3 g3 => by
     have gg := (g1.trans g2).trans g3
     have rp3 := (rp.gr g2).gr g3
     unfold slO at hu
     split at hu
     · obtain ⟨a, vs, rfl, e1, e2, e3⟩ := rp3.tup g3.b
       refine .inr ⟨a, vs, rfl, e1, fun hw => hu _ F3 H3 gg ⟨a, vs, rfl, e3, ?_⟩, fun _ p hp => hu _ _ _ (gg.trans (g3.b.lay hp)) ⟨p, _, rfl, .inl (.inl upd_same), Reps.ex (Ex.upd (g3.b.fh.none hp)) _ _ (e2.cut o u)⟩⟩
       have hw' := hw
       rw [e2.length] at hw'
       have : cutD _ o u = _ := cut_whole hw'
       rw [this]; exact e2
     · obtain ⟨a, vs, rfl, e1, e2, _⟩ := rp3.lst g3.b
       exact .inl ⟨a, vs, rfl, SqL.of e1, fun p hp => hu _ _ _ (gg.trans (g3.b.lay hp)) ⟨p, _, rfl, upd_same, Reps.ex (Ex.upd (g3.b.fh.none hp)) _ _ (e2.cut o u)⟩⟩
     · exact hu.elim) ho⟩) hx⟩) q⟩⟩

/-! ### calls of defs -/
def spOf (K : Kf) (n : Nat) (G : OC) : Sp := fun vs H Q _ => vs.length = n ∧ ∃ rw F ds, Base K ⟨rw, H, F⟩ F H ∧ Reps K rw F ds vs ∧ G ds fun d => ∀ v F' H', Base K ⟨rw, H, F⟩ F' H' → Rep K rw F' d v → Q v H'
theorem base_in {K : Kf} {Z : Zs} {F H : Hp} (b : Base K Z F H) : Base K ⟨Z.rw, H, F⟩ F H := ⟨b.fh, Ex.refl _, ExR.refl _ _, fun _ h => .inl h, b.row, b.frow⟩
theorem base_out {K : Kf} {Z : Zs} {F H F' H' : Hp} (b : Base K Z F H) (c : Base K ⟨Z.rw, H, F⟩ F' H') : Gr K Z F H F' H' :=
  ⟨c.f0, c.hh, ⟨c.fh, b.f0.trans c.f0, b.hh.trans c.hh, fun a h => by
    rcases c.new a h with q | q
    · exact b.new a q
    · exact .inr (b.h0 q), c.row, c.frow⟩, c.new⟩
theorem E.call {es : List Expr} {fa : SA} {G : OC} {n : Nat} (mo : MonoC G) (ha : A X es fa) (hn : es.length = n) (h : PA X es (TAof X.K fa) → PE X e (tCall (spOf X.K n G) [] E0 (TAof X.K fa))) : E X e (callE G fa) :=
  ⟨callE_mono mo ha.mono, PE.weak (h ha.run) fun σ H Q ⟨Z, F, ρ, r, q⟩ => ⟨Z, F, ρ, r, ha.mono ρ _ _ (fun ds hd vs F1 H1 g1 reps => by
    show spOf X.K n G (vs ++ []) H1 Q E0
    rw [List.append_nil]
    exact ⟨reps.length.trans (hd.1.trans hn), Z.rw, F1, ds, base_in g1.b, reps, mo _ _ _ (fun d hd v F' H' b' rep => hd v F' H' (g1.trans (base_out g1.b b')) rep) hd.2⟩) (ha.cnt ρ _ q)⟩⟩
end

/-! ### statements -/
section
variable {X : Cx} {e a b c : Expr} {f g k : SE} {pos : Pos} {st : Stmt} {rest : List Stmt} {s t : SS}
def nextS : SS := fun ρ k => k.nx ρ
def seqS (s t : SS) : SS := fun ρ k => s ρ { k with nx := fun ρ' => t ρ' k }
theorem Ss.nil : Ss X [] nextS := ⟨fun ρ k l h q => h.1 _ q, PSs.weak pss_nil fun D σ H ⟨Z, F, ρ, r, q⟩ => q σ F H (Ex.refl _) r⟩
theorem seq_tp {K : Kf} {s t : SS} (ms : MonoS s) (mt : MonoS t) : ∀ D σ H, TSof K (seqS s t) D σ H → tSeq (TSof K s) (TSof K t) D σ H := fun D σ H ⟨Z, F, ρ, r, q⟩ =>
  ⟨Z, F, ρ, r, ms ρ { kOf K Z F D with nx := fun ρ' => t ρ' (kOf K Z F D) } _ ⟨fun ρ' h σ' F' H' e r' => ⟨Z, F', ρ', r', mt ρ' _ _ (kOf_ex e) h⟩, fun _ h => h, fun _ h => h, fun _ h => h⟩ q⟩
theorem seqS_mono (ms : MonoS s) (mt : MonoS t) : MonoS (seqS s t) := fun ρ k l h q => ms ρ { k with nx := fun ρ' => t ρ' k } _ ⟨fun ρ' z => mt ρ' _ _ h z, h.2.1, h.2.2.1, h.2.2.2⟩ q
theorem Ss.cons (h1 : S X st s) (h2 : Ss X rest t) : Ss X (st :: rest) (seqS s t) := ⟨seqS_mono h1.mono h2.mono, PSs.weak (pss_cons h1.run h2.run) (seq_tp h1.mono h2.mono)⟩
theorem Ss.one (h1 : S X st s) : Ss X [st] s := ⟨h1.mono, pss_one h1.run⟩
theorem kOf_gr {K : Kf} {Z : Zs} {F F' H H' : Hp} {D' : Ends} (g : Gr K Z F H F' H') : Kt.le (kOf K Z F D') (kOf K Z F' D') := kOf_ex g.f
def passS : SS := nextS
theorem S.pass : S X (.Pass pos) nextS := ⟨fun ρ k l h q => h.1 _ q, PS.weak ps_pass fun D σ H ⟨Z, F, ρ, r, q⟩ => q σ F H (Ex.refl _) r⟩
def brkS : SS := fun ρ k => k.bk ρ
def cntS : SS := fun ρ k => k.ct ρ
theorem S.brk : S X (.Break pos) brkS := ⟨fun ρ k l h q => h.2.2.1 _ q, PS.weak ps_break fun D σ H ⟨Z, F, ρ, r, q⟩ => q σ F H (Ex.refl _) r⟩
theorem S.cnt : S X (.Continue pos) cntS := ⟨fun ρ k l h q => h.2.2.2 _ q, PS.weak ps_continue fun D σ H ⟨Z, F, ρ, r, q⟩ => q σ F H (Ex.refl _) r⟩
def retS (f : SE) : SS := fun ρ k => f ρ k.rt
theorem S.ret (h : E X e f) : S X (.Return (some e) pos) (retS f) := ⟨fun ρ k l hk q => h.mono ρ _ _ hk.2.1 q, PS.weak (ps_ret h.run) fun D σ H ⟨Z, F, ρ, r, q⟩ => ⟨Z, F, ρ, r, h.mono ρ _ _ (fun d hd v F' H' g rep => hd v F' H' g.f g.b rep) q⟩⟩
def retNS : SS := fun _ k => k.rt .non
/-- a statement on a way that can't be -/
def noS : SS := fun _ _ => False
theorem S.no {t : TS} (h : PS X st t) (ht : ∀ D σ H, False → t D σ H) : S X st noS := ⟨fun _ _ _ _ q => q, PS.weak h fun D σ H ⟨_, _, _, _, q⟩ => q.elim⟩
def dropS (f : SE) : SS := fun ρ k => f ρ fun _ => k.nx ρ
theorem S.expr (h : E X e f) (hs : swapsWith e none pos.line X.env = pure false := by rfl) : S X (.Expr e pos) (dropS f) := ⟨fun ρ k l hk q => h.mono ρ _ _ (fun _ z => hk.1 _ z) q, PS.weak (ps_expr h.run hs) fun D σ H ⟨Z, F, ρ, r, q⟩ => ⟨Z, F, ρ, r, h.mono ρ _ _ (fun d hd v F' H' g rep => hd σ F' H' g.f (r.grow g)) q⟩⟩
def ifS (t : ST) (s u : SS) : SS := fun ρ k => t ρ fun b => br b (s ρ k) (u ρ k)
theorem S.ifs {tt : ST} {u : SS} {xs ys : List Stmt} (ht : T X c tt) (h1 : Ss X xs s) (h2 : Ss X ys u) : S X (.If c xs ys pos) (ifS tt s u) :=
  ⟨fun ρ k l hk q => ht.mono ρ _ _ (fun b z => br_imp z (h1.mono ρ _ _ hk) (h2.mono ρ _ _ hk)) q, PS.weak (ps_if ht.run h1.run h2.run) fun D σ H ⟨Z, F, ρ, r, q⟩ => ⟨Z, F, ρ, r, ht.mono ρ _ _ (fun b z F' H' g1 => br_ite (br_imp z
    (fun z => ⟨Z, F', ρ, r.grow g1, h1.mono ρ _ _ (kOf_gr g1) z⟩) (fun z => ⟨Z, F', ρ, r.grow g1, h2.mono ρ _ _ (kOf_gr g1) z⟩))) q⟩⟩

/-! ### stores -/
theorem R.setSh {K : Kf} {Z : Zs} {F H : Hp} {ρ : REnv} {σ : L2.St} (r : R K Z F ρ σ H) (i : Nat) {d : D} {v : V} (h : Rep K Z.rw F d v) : R K Z F (ρ.set i (some (.sh d))) (σ.set i (some v)) H := by
  refine ⟨r.base, by rw [List.length_set, List.length_set]; exact r.len, fun j s e => ?_, fun j l ds es x e1 e2 e3 e4 => ?_⟩
  · by_cases hj : i = j
    · subst hj
      rw [List.getElem?_set] at e
      simp only [if_true] at e
      split at e
      · rename_i hl
        cases e
        exact ⟨v, by rw [List.getElem?_set_self (by rw [← r.len]; exact hl)], h⟩
      · cases e
    · rw [List.getElem?_set_ne hj] at e
      have q := r.slot j s e
      cases s with
      | sh d => obtain ⟨u, e1, e2⟩ := q; exact ⟨u, by rw [List.getElem?_set_ne hj]; exact e1, e2⟩
      | own ds => obtain ⟨u, vs, e1, e2⟩ := q; exact ⟨u, vs, by rw [List.getElem?_set_ne hj]; exact e1, e2⟩
  · have hj : i ≠ j := fun z => by
      subst z
      rw [List.getElem?_set] at e1
      simp only [if_true] at e1
      split at e1 <;> cases e1
    have hl : i ≠ l := fun z => by
      subst z
      rw [List.getElem?_set] at e2
      simp only [if_true] at e2
      split at e2 <;> cases e2
    rw [List.getElem?_set_ne hj] at e1 e3
    rw [List.getElem?_set_ne hl] at e2 e4
    exact r.apart j l ds es x e1 e2 e3 e4
theorem R.setOwn {K : Kf} {Z : Zs} {F H : Hp} {ρ : REnv} {σ : L2.St} (r : R K Z F ρ σ H) (i : Nat) {ds : List D} {vs : List V} {p : Addr} (hp : H p = some (.lst vs)) (fr : Fresh Z F ρ σ p) (h : Reps K Z.rw F ds vs) : R K Z F (ρ.set i (some (.own ds))) (σ.set i (some (.ref p))) H := by
  obtain ⟨f1, f2, f3, f4⟩ := fr
  refine ⟨r.base, by rw [List.length_set, List.length_set]; exact r.len, fun j s e => ?_, fun j l ds' es x e1 e2 e3 e4 => ?_⟩
  · by_cases hj : i = j
    · subst hj
      rw [List.getElem?_set] at e
      simp only [if_true] at e
      split at e
      · rename_i hl
        cases e
        exact ⟨p, vs, by rw [List.getElem?_set_self (by rw [← r.len]; exact hl)], hp, h, f1, f2, f3⟩
      · cases e
    · rw [List.getElem?_set_ne hj] at e
      have q := r.slot j s e
      cases s with
      | sh d => obtain ⟨u, e1, e2⟩ := q; exact ⟨u, by rw [List.getElem?_set_ne hj]; exact e1, e2⟩
      | own ds => obtain ⟨u, vs, e1, e2⟩ := q; exact ⟨u, vs, by rw [List.getElem?_set_ne hj]; exact e1, e2⟩
  · by_cases hj : i = j
    · by_cases hl : i = l
      · exact hj.symm.trans hl
      · exfalso
        subst hj
        rw [List.getElem?_set] at e3
        simp only [if_true] at e3
        split at e3
        · cases e3
          rw [List.getElem?_set_ne hl] at e2 e4
          exact f4 l _ e2 e4
        · cases e3
    · by_cases hl : i = l
      · exfalso
        subst hl
        rw [List.getElem?_set] at e4
        simp only [if_true] at e4
        split at e4
        · cases e4
          rw [List.getElem?_set_ne hj] at e1 e3
          exact f4 j _ e1 e3
        · cases e4
      · rw [List.getElem?_set_ne hj] at e1 e3
        rw [List.getElem?_set_ne hl] at e2 e4
        exact r.apart j l ds' es x e1 e2 e3 e4
def setS (i : Nat) (f : SE) : SS := fun ρ k => f ρ fun d => k.nx (ρ.set i (some (.sh d)))
def setO (i : Nat) (f : SA) : SS := fun ρ k => f ρ fun ds => k.nx (ρ.set i (some (.own ds)))
theorem setS_mono {i : Nat} (mf : MonoE f) : MonoS (setS i f) := fun ρ k l hk q => mf ρ _ _ (fun _ z => hk.1 _ z) q
theorem setO_mono {i : Nat} {f : SA} (mf : MonoE f) : MonoS (setO i f) := fun ρ k l hk q => mf ρ _ _ (fun _ z => hk.1 _ z) q
theorem set_tp {K : Kf} {i : Nat} (mf : MonoE f) : ∀ D σ H, TSof K (setS i f) D σ H → tAsg (TEof K f) (gName i) D σ H := fun D σ H ⟨Z, F, ρ, r, q⟩ =>
  ⟨Z, F, ρ, r, mf ρ _ _ (fun d hd v F' H' g rep => hd _ F' H' g.f ((r.grow g).setSh i rep)) q⟩
theorem setO_tp {K : Kf} {i : Nat} {f : SA} (mf : MonoE f) : ∀ D σ H, TSof K (setO i f) D σ H → tAsg (TFof K f) (gName i) D σ H := fun D σ H ⟨Z, F, ρ, r, q⟩ =>
  ⟨Z, F, ρ, r, mf ρ _ _ (fun ds hd p vs F' H' g h0 fr hp reps => hd _ F' H' g.f ((r.grow g).setOwn i hp fr reps)) q⟩
theorem S.set {i : Nat} (h : E X e f) (hp : PS X st (tAsg (TEof X.K f) (gName i))) : S X st (setS i f) := ⟨setS_mono h.mono, PS.weak hp (set_tp h.mono)⟩
theorem S.setO {i : Nat} {f : SA} (h : F X e f) (hp : PS X st (tAsg (TFof X.K f) (gName i))) : S X st (setO i f) := ⟨setO_mono h.mono, PS.weak hp (setO_tp h.mono)⟩
/-- forget that a list is one's own: it may be handed on from here -/
def frzS (i : Nat) (s : SS) : SS := fun ρ k => match ρ[i]? with
  | some (some (.own ds)) => s (ρ.set i (some (.sh (.lst ds)))) k
  | _ => False
theorem R.frz {K : Kf} {Z : Zs} {F H : Hp} {ρ : REnv} {σ : L2.St} (r : R K Z F ρ σ H) {i : Nat} {ds : List D} (h : ρ[i]? = some (some (.own ds))) : ∃ F', Ex F F' ∧ R K Z F' (ρ.set i (some (.sh (.lst ds)))) σ H := by
  obtain ⟨a, vs, e1, e2, e3, e4, e5, e6⟩ := r.slot i _ h
  refine ⟨upd F a (.lst vs), Ex.upd e4, ⟨⟨fun x u e => ?_, r.base.f0.trans (Ex.upd e4), r.base.hh, fun x e => ?_, r.base.row, fun x e => ?_⟩, by rw [List.length_set]; exact r.len, fun j s e => ?_, fun j l ds' es x q1 q2 q3 q4 => ?_⟩⟩
  · by_cases ha : x = a
    · subst ha; rw [upd_same] at e; cases e; exact e2
    · rw [upd_ne ha] at e; exact r.base.fh x u e
  · by_cases ha : x = a
    · subst ha; exact .inr e5
    · rw [upd_ne ha] at e; exact r.base.new x e
  · rw [upd_ne (fun z : x = a => e6 (by rw [← z]; exact e))]; exact r.base.frow x e
  · by_cases hj : i = j
    · subst hj
      rw [List.getElem?_set] at e
      simp only [if_true] at e
      split at e
      · cases e
        exact ⟨.ref a, e1, a, vs, rfl, upd_same, Reps.ex (Ex.upd e4) _ _ e3⟩
      · cases e
    · rw [List.getElem?_set_ne hj] at e
      have q := r.slot j s e
      cases s with
      | sh d => obtain ⟨u, q1, q2⟩ := q; exact ⟨u, q1, Rep.ex (Ex.upd e4) _ _ q2⟩
      | own ds' =>
        obtain ⟨u, us, q1, q2, q3, q4, q5, q6⟩ := q
        refine ⟨u, us, q1, q2, Reps.ex (Ex.upd e4) _ _ q3, ?_, q5, q6⟩
        rw [upd_ne (fun z : u = a => hj (r.apart i j ds ds' a h e e1 (by rw [← z]; exact q1)))]
        exact q4
  · have hj : i ≠ j := fun z => by
      subst z
      rw [List.getElem?_set] at q1
      simp only [if_true] at q1
      split at q1 <;> cases q1
    have hl : i ≠ l := fun z => by
      subst z
      rw [List.getElem?_set] at q2
      simp only [if_true] at q2
      split at q2 <;> cases q2
    rw [List.getElem?_set_ne hj] at q1
    rw [List.getElem?_set_ne hl] at q2
    exact r.apart j l ds' es x q1 q2 q3 q4
theorem frzS_mono {i : Nat} (m : MonoS s) : MonoS (frzS i s) := fun ρ k l hk q => by
  unfold frzS at *
  split at q
  · exact m _ _ _ hk q
  · exact q.elim
theorem S.frz (i : Nat) (h : S X st s) : S X st (frzS i s) := ⟨frzS_mono h.mono, PS.weak h.run fun D σ H ⟨Z, F, ρ, r, q⟩ => by
  unfold frzS at q
  split at q
  · rename_i ds hd
    obtain ⟨F', e, r'⟩ := r.frz hd
    exact ⟨Z, F', _, r', h.mono _ _ _ (kOf_ex e) q⟩
  · exact q.elim⟩
end

/-! ### stores into one's own lists -/
theorem R.mut {K : Kf} {Z : Zs} {F H : Hp} {ρ : REnv} {σ : L2.St} (r : R K Z F ρ σ H) {i : Nat} {ds es : List D} {a : Addr} {vs us : List V} (h : ρ[i]? = some (some (.own ds))) (e1 : σ[i]? = some (some (.ref a))) (e2 : H a = some (.lst vs)) (h2 : Reps K Z.rw F es us) :
    R K Z F (ρ.set i (some (.own es))) σ (upd H a (.lst us)) := by
  obtain ⟨a', vs', q1, q2, q3, q4, q5, q6⟩ := r.slot i _ h
  rw [e1] at q1
  cases q1
  refine ⟨⟨fun x u e => ?_, r.base.f0, fun x u n e => ?_, r.base.new, fun x e => ?_, r.base.frow⟩, by rw [List.length_set]; exact r.len, fun j s e => ?_, fun j l ds' es' x q1 q2 q3 q4 => ?_⟩
  · rw [upd_ne (fun z : x = a => by rw [z, q4] at e; cases e)]; exact r.base.fh x u e
  · rw [upd_ne (fun z : x = a => by rw [z, q5] at e; cases e)]; exact r.base.hh x u n e
  · obtain ⟨sc, ns, p, m, t, w1, w2, w3⟩ := r.base.row x e
    refine ⟨sc, ns, p, m, t, ?_, w2.keep fun o q => ?_, w3⟩
    · rw [upd_ne (fun z : x = a => q6 (by rw [← z]; exact e))]; exact w1
    · rw [upd_ne (fun z : sc = a => by rw [z, e2] at q; cases q)]; exact q
  · by_cases hj : i = j
    · subst hj
      rw [List.getElem?_set] at e
      simp only [if_true] at e
      split at e
      · cases e
        exact ⟨a, us, e1, upd_same, h2, q4, q5, q6⟩
      · cases e
    · rw [List.getElem?_set_ne hj] at e
      have q := r.slot j s e
      cases s with
      | sh d => exact q
      | own ds' =>
        obtain ⟨u, ws, w1, w2, w3, w4, w5, w6⟩ := q
        refine ⟨u, ws, w1, ?_, w3, w4, w5, w6⟩
        rw [upd_ne (fun z : u = a => hj (r.apart i j ds ds' a h e e1 (by rw [← z]; exact w1)))]
        exact w2
  · have hh : ∀ (j : Nat) (y : List D), (ρ.set i (some (Slot.own es)))[j]? = some (some (Slot.own y)) → ∃ y', ρ[j]? = some (some (Slot.own y')) := fun j y z => by
      by_cases hj : i = j
      · subst hj; exact ⟨ds, h⟩
      · rw [List.getElem?_set_ne hj] at z; exact ⟨y, z⟩
    obtain ⟨y1, w1⟩ := hh j _ q1
    obtain ⟨y2, w2⟩ := hh l _ q2
    exact r.apart j l y1 y2 x w1 w2 q3 q4
section
variable {X : Cx} {e a b c : Expr} {f g k : SE} {pos : Pos} {st : Stmt} {rest : List Stmt} {s t : SS}
theorem R.ownAt {K : Kf} {Z : Zs} {F H : Hp} {ρ : REnv} {σ : L2.St} (r : R K Z F ρ σ H) {i : Nat} {ds : List D} (h : ρ[i]? = some (some (.own ds))) : ∃ a vs, σ[i]? = some (some (.ref a)) ∧ H a = some (.lst vs) ∧ Reps K Z.rw F ds vs ∧ Z.rw ≠ some a := by
  obtain ⟨a, vs, e1, e2, e3, _, _, e6⟩ := r.slot i _ h
  exact ⟨a, vs, e1, e2, e3, e6⟩
/-- x.append(e) -/
def appS (i : Nat) (f : SE) : SS := fun ρ k => match ρ[i]? with
  | some (some (.own ds)) => ds.length < big ∧ f ρ fun d => k.nx (ρ.set i (some (.own (ds ++ [d]))))
  | _ => False
theorem appS_mono {i : Nat} (mf : MonoE f) : MonoS (appS i f) := fun ρ k l hk q => by
  unfold appS at *
  split at q
  · exact ⟨q.1, mf ρ _ _ (fun d hd => hk.1 _ hd) q.2⟩
  · exact q.elim
theorem S.app {i : Nat} (hf : E X e f) (h : PS X st (tDrop (tBM X.K "list" rAppend (tVar i) (tCons (TEof X.K f) tNil)))) : S X st (appS i f) := ⟨appS_mono hf.mono, PS.weak h fun D σ H ⟨Z, F, ρ, r, q⟩ => by
  unfold appS at q
  split at q
  · rename_i ds hd
    obtain ⟨a, vs, e1, e2, e3, e6⟩ := r.ownAt hd
    refine ⟨.ref a, e1, .inl ⟨rfl, vs, SqL.of e2⟩, Z, F, ρ, r, hf.mono ρ _ _ (fun d hd' v F' H' g rep => ?_) q.2⟩
    have r' := r.grow g
    refine ⟨a, vs, v, rfl, rfl, g.h a _ e6 e2, by rw [e3.length]; exact big_lt q.1, hd' _ F' _ g.f (r'.mut hd e1 (g.h a _ e6 e2) (Reps.app (Reps.ex g.f _ _ e3) (Reps.one rep)))⟩
  · exact q.elim⟩
/-- x.pop() as a statement -/
def popS (i : Nat) : SS := fun ρ k => match ρ[i]? with
  | some (some (.own ds)) => ds ≠ [] ∧ k.nx (ρ.set i (some (.own ds.dropLast)))
  | _ => False
theorem Reps.dropLast {K : Kf} {rw : Option Addr} {F : Hp} {ds : List D} {vs : List V} (h : Reps K rw F ds vs) : Reps K rw F ds.dropLast vs.dropLast := by
  rw [List.dropLast_eq_take, List.dropLast_eq_take, h.length]
  exact Reps.take _ h
theorem S.pop {i : Nat} (h : PS X st (tDrop (tBM0 X.K "list" rPop (tVar i)))) : S X st (popS i) := ⟨fun ρ k l hk q => by
    unfold popS at *
    split at q
    · exact ⟨q.1, hk.1 _ q.2⟩
    · exact q.elim, PS.weak h fun D σ H ⟨Z, F, ρ, r, q⟩ => by
  unfold popS at q
  split at q
  · rename_i ds hd
    obtain ⟨a, vs, e1, e2, e3, e6⟩ := r.ownAt hd
    have hne : vs ≠ [] := fun z => q.1 (by
      have := e3.length
      rw [z] at this
      exact List.eq_nil_of_length_eq_zero this.symm)
    have hl : vs.length - 1 < vs.length := Nat.sub_lt (List.length_pos_iff.mpr hne) (by decide)
    exact ⟨.ref a, e1, .inl ⟨rfl, vs, SqL.of e2⟩, a, vs, vs[vs.length - 1], rfl, rfl, e2, List.getElem?_eq_getElem hl, q.2 _ F _ (Ex.refl _) (r.mut hd e1 e2 (Reps.dropLast e3))⟩
  · exact q.elim⟩
/-- x[j] = e -/
def putS (i : Nat) (f g : SE) : SS := fun ρ k => match ρ[i]? with
  | some (some (.own ds)) => f ρ fun d => g ρ fun z => match z with
    | .int j => (match ixN ds.length j with
      | some m => k.nx (ρ.set i (some (.own (ds.set m d))))
      | none => False)
    | _ => False
  | _ => False
theorem putS_mono {i : Nat} (mf : MonoE f) (mg : MonoE g) : MonoS (putS i f g) := fun ρ k l hk q => by
  unfold putS at *
  split at q
  · exact mf ρ _ _ (fun d hd => mg ρ _ _ (fun z hz => by
      split at hz
      · split at hz
        · exact hk.1 _ hz
        · exact hz.elim
      · exact hz.elim) hd) q
  · exact q.elim
theorem S.put {i : Nat} (hf : E X a f) (hg : P X b g) (h : PS X st (tAsg (TEof X.K f) (gSub (tVar i) (TPof X.K g) rSetL))) : S X st (putS i f g) := ⟨putS_mono hf.mono hg.mono, PS.weak h fun D σ H ⟨Z, F, ρ, r, q⟩ => by
  unfold putS at q
  split at q
  · rename_i ds hd
    obtain ⟨a, vs, e1, e2, e3, e6⟩ := r.ownAt hd
    refine ⟨Z, F, ρ, r, hf.mono ρ _ _ (fun d hd' v F1 H1 g1 rep => ?_) q⟩
    refine ⟨.ref a, e1, Z, F1, ρ, r.grow g1, hg.mono ρ _ _ (fun z hz u F2 H2 g2 rq => ?_) hd'⟩
    split at hz
    · rename_i j
      split at hz
      · rename_i m hm
        have g3 := g1.trans g2
        exact ⟨a, vs, j, m, rfl, rq.int, g3.h a _ e6 e2, by rw [e3.length]; exact hm, hz _ F2 _ g3.f ((r.grow g3).mut hd e1 (g3.h a _ e6 e2) (Reps.set (Rep.ex g2.f _ _ rep) m (Reps.ex g3.f _ _ e3)))⟩
      · exact hz.elim
    · exact hz.elim
  · exact q.elim⟩
/-- x op= e, x no list of one's own -/
def augS (i : Nat) (o : O2) (f : SE) : SS := fun ρ k => match ρ[i]? with
  | some (some (.sh x)) => f ρ fun y => o x y fun d => k.nx (ρ.set i (some (.sh d)))
  | _ => False
theorem S.aug {i : Nat} {o : O2} {r : R2} (hs : OpS X.K r o) (mo : Mono2 o) (hf : P X e f) (h : PS X st (tAug i (TPof X.K f) r)) : S X st (augS i o f) := ⟨fun ρ k l hk q => by
    unfold augS at *
    split at q
    · exact hf.mono ρ _ _ (fun y hy => mo _ _ _ _ (fun d hd => hk.1 _ hd) hy) q
    · exact q.elim, PS.weak h fun D σ H ⟨Z, F, ρ, r, q⟩ => by
  unfold augS at q
  split at q
  · rename_i x hx
    obtain ⟨v, e1, e2⟩ := r.slot i _ hx
    exact ⟨v, e1, Z, F, ρ, r, hf.mono ρ _ _ (fun y hy u F1 H1 g1 rq => hs Z F1 H1 x y v u _ g1.b (.inl (Rep.ex g1.f _ _ e2)) rq (mo _ _ _ _ (fun d hd w F2 H2 g2 rep => hd _ F2 H2 (g1.trans g2).f ((r.grow (g1.trans g2)).setSh i rep)) hy)) q⟩
  · exact q.elim⟩
/-- a, b = x, y -/
def parS (i j : Nat) (f : SA) : SS := fun ρ k => f ρ fun ds => match ds with
  | [x, y] => k.nx ((ρ.set i (some (.sh x))).set j (some (.sh y)))
  | _ => False
theorem S.par {i j : Nat} {fa : SA} {es : List Expr} (ha : A X es fa) (h : PS X st (tPar i j (TAof X.K fa))) : S X st (parS i j fa) := ⟨fun ρ k l hk q => ha.mono ρ _ _ (fun ds hd => by
    split at hd
    · exact hk.1 _ hd
    · exact hd.elim) q, PS.weak h fun D σ H ⟨Z, F, ρ, r, q⟩ => ⟨Z, F, ρ, r, ha.mono ρ _ _ (fun ds hd vs F' H' g reps => by
    split at hd
    · rename_i x y
      obtain ⟨v, r1, rfl, h1, v2, r2, rfl, h2, h3⟩ := (show ∃ v r1, vs = v :: r1 ∧ Rep _ _ _ x v ∧ ∃ v2 r2, r1 = v2 :: r2 ∧ Rep _ _ _ y v2 ∧ r2 = [] from reps)
      subst h3
      exact ⟨v, v2, rfl, hd _ F' H' g.f (((r.grow g).setSh i h1).setSh j h2)⟩
    · exact hd.elim) q⟩⟩
def par3S (i j l : Nat) (f : SA) : SS := fun ρ k => f ρ fun ds => match ds with
  | [x, y, z] => k.nx (((ρ.set i (some (.sh x))).set j (some (.sh y))).set l (some (.sh z)))
  | _ => False
theorem S.par3 {i j l : Nat} {fa : SA} {es : List Expr} (ha : A X es fa) (h : PS X st (tPar3 i j l (TAof X.K fa))) : S X st (par3S i j l fa) := ⟨fun ρ k l hk q => ha.mono ρ _ _ (fun ds hd => by
    split at hd
    · exact hk.1 _ hd
    · exact hd.elim) q, PS.weak h fun D σ H ⟨Z, F, ρ, r, q⟩ => ⟨Z, F, ρ, r, ha.mono ρ _ _ (fun ds hd vs F' H' g reps => by
    split at hd
    · rename_i x y z
      obtain ⟨v, r1, rfl, h1, v2, r2, rfl, h2, v3, r3, rfl, h3, h4⟩ := (show ∃ v r1, vs = v :: r1 ∧ Rep _ _ _ x v ∧ ∃ v2 r2, r1 = v2 :: r2 ∧ Rep _ _ _ y v2 ∧ ∃ v3 r3, r2 = v3 :: r3 ∧ Rep _ _ _ z v3 ∧ r3 = [] from reps)
      subst h4
      exact ⟨v, v2, v3, rfl, hd _ F' H' g.f ((((r.grow g).setSh i h1).setSh j h2).setSh l h3)⟩
    · exact hd.elim) q⟩⟩

/-! ### targets -/
abbrev SG := D → REnv → (REnv → Prop) → Prop
abbrev SGs := List D → REnv → (REnv → Prop) → Prop
def TGof (K : Kf) (is : List Nat) (g : SG) : TG := fun v σ H Q => ∃ Z F ρ d, R K Z F ρ σ H ∧ Rep K Z.rw F d v ∧ g d ρ fun ρ' => ∀ σ', R K Z F ρ' σ' H → (∀ vs : List Nat, (∀ i ∈ is, i ∈ vs) → wipe σ' vs = wipe σ vs) → Q σ' H
def TGsof (K : Kf) (is : List Nat) (g : SGs) : TGs := fun us σ H Q => ∃ Z F ρ ds, R K Z F ρ σ H ∧ Reps K Z.rw F ds us ∧ g ds ρ fun ρ' => ∀ σ', R K Z F ρ' σ' H → (∀ vs : List Nat, (∀ i ∈ is, i ∈ vs) → wipe σ' vs = wipe σ vs) → Q σ' H
def MonoG {α : Type} (g : α → REnv → (REnv → Prop) → Prop) : Prop := ∀ d ρ (P Q : REnv → Prop), (∀ ρ', P ρ' → Q ρ') → g d ρ P → g d ρ Q
structure G (X : Cx) (tg : Expr) (is : List Nat) (g : SG) : Prop where
  mono : MonoG g
  run : PG X tg (TGof X.K is g)
structure Gs (X : Cx) (ts : List Expr) (is : List Nat) (g : SGs) : Prop where
  mono : MonoG g
  run : PGs X ts (TGsof X.K is g)
theorem PG.weak {tg : Expr} {t t' : TG} (h : PG X tg t) (hw : ∀ v σ H Q, t' v σ H Q → t v σ H Q) : PG X tg t' := ⟨fun pins s σ H v u Q I r q => h.run pins s σ H v u Q I r (hw v σ H Q q)⟩
theorem PGs.weak {tg : List Expr} {t t' : TGs} (h : PGs X tg t) (hw : ∀ v σ H Q, t' v σ H Q → t v σ H Q) : PGs X tg t' := ⟨fun pins s σ H v u Q I r q => h.run pins s σ H v u Q I r (hw v σ H Q q)⟩
theorem wipe_set {σ : L2.St} {i : Nat} {x : Option V} : ∀ {vs : List Nat}, i ∈ vs → wipe (σ.set i x) vs = wipe σ vs
  | v :: vs, h => by
    unfold wipe
    by_cases hv : i ∈ vs
    · rw [wipe_set hv]
    · have e : i = v := by
        rcases List.mem_cons.mp h with e | e
        · exact e
        · exact absurd e hv
      subst e
      have : ∀ us : List Nat, i ∉ us → wipe (σ.set i x) us = (wipe σ us).set i x := by
        intro us
        induction us with
        | nil => intro _; rfl
        | cons u us ih =>
          intro hu
          unfold wipe
          rw [ih (fun z => hu (List.mem_cons_of_mem _ z)), List.set_comm _ _ (fun z : i = u => hu (by rw [z]; exact List.mem_cons_self))]
      rw [this vs hv, List.set_set]
theorem wipe_none {σ : L2.St} : ∀ {vs : List Nat} (us : List Nat), (∀ v ∈ us, v ∈ vs) → wipe (wipe σ vs) us = wipe σ vs
  | vs, [], _ => rfl
  | vs, u :: us, h => by
    show (wipe (wipe σ vs) us).set u none = _
    rw [wipe_none us fun v hv => h v (List.mem_cons_of_mem _ hv)]
    have : ∀ (ws : List Nat), u ∈ ws → (wipe σ ws).set u none = wipe σ ws := by
      intro ws
      induction ws with
      | nil => intro z; cases z
      | cons w ws ih =>
        intro z
        show ((wipe σ ws).set w none).set u none = (wipe σ ws).set w none
        by_cases hw : w = u
        · subst hw; rw [List.set_set]
        · rw [List.set_comm _ _ hw, ih (by rcases List.mem_cons.mp z with e | e; exact absurd e.symm hw; exact e)]
    exact this vs (h u List.mem_cons_self)
theorem wipe_wipe {σ : L2.St} {vs : List Nat} : wipe (wipe σ vs) vs = wipe σ vs := wipe_none vs fun _ h => h
def gVar (i : Nat) : SG := fun d ρ Q => Q (ρ.set i (some (.sh d)))
theorem G.var {i : Nat} {tg : Expr} (h : PG X tg (gName i)) : G X tg [i] (gVar i) := ⟨fun d ρ P Q hpq q => hpq _ q, PG.weak h fun v σ H Q ⟨Z, F, ρ, d, r, rep, q⟩ => q _ (r.setSh i rep) fun vs hvs => wipe_set (hvs i List.mem_cons_self)⟩
def gNilS : SGs := fun ds ρ Q => match ds with
  | [] => Q ρ
  | _ => False
def gConsS (g : SG) (gs : SGs) : SGs := fun ds ρ Q => match ds with
  | d :: r => g d ρ fun ρ' => gs r ρ' Q
  | [] => False
theorem Gs.nil : Gs X [] [] gNilS := ⟨fun ds ρ P Q hpq q => by
    cases ds with
    | nil => exact hpq _ q
    | cons _ _ => exact q, PGs.weak pgs_nil fun us σ H Q ⟨Z, F, ρ, ds, r, reps, q⟩ => by
    cases ds with
    | nil => exact ⟨reps, q σ r fun _ _ => rfl⟩
    | cons _ _ => exact q.elim⟩
theorem Gs.cons {tg : Expr} {ts : List Expr} {is js : List Nat} {g : SG} {gs : SGs} (h1 : G X tg is g) (h2 : Gs X ts js gs) (h : PGs X (tg :: ts) (gCons (TGof X.K is g) (TGsof X.K js gs))) : Gs X (tg :: ts) (is ++ js) (gConsS g gs) :=
  ⟨fun ds ρ P Q hpq q => by
    cases ds with
    | nil => exact q
    | cons d r => exact h1.mono d ρ _ _ (fun ρ' z => h2.mono r ρ' _ _ hpq z) q, PGs.weak h fun us σ H Q ⟨Z, F, ρ, ds, r, reps, q⟩ => by
    cases ds with
    | nil => exact q.elim
    | cons d ds =>
      obtain ⟨v, vs, rfl, h3, h4⟩ := (show ∃ v vs, us = v :: vs ∧ Rep _ _ _ d v ∧ Reps _ _ _ ds vs from reps)
      exact ⟨v, vs, rfl, Z, F, ρ, d, r, h3, h1.mono d ρ _ _ (fun ρ' z σ' r' hw => ⟨Z, F, ρ', ds, r', h4, h2.mono ds ρ' _ _ (fun ρ2 z2 σ2 r2 hw2 => z2 σ2 r2 fun vs hvs => (hw2 vs fun i hi => hvs i (List.mem_append_right _ hi)).trans (hw vs fun i hi => hvs i (List.mem_append_left _ hi))) z⟩) q⟩⟩
def gTupS (gs : SGs) : SG := fun d ρ Q => match d with
  | .tup ds => gs ds ρ Q
  | _ => False
theorem G.tup {tg : Expr} {is : List Nat} {gs : SGs} {n : Nat} {ts : List Expr} (hn : ∀ ds ρ Q, gs ds ρ Q → ds.length = n) (h2 : Gs X ts is gs) (h : PG X tg (gTup X.K n (TGsof X.K is gs))) : G X tg is (gTupS gs) :=
  ⟨fun d ρ P Q hpq q => by
    cases d with
    | tup ds => exact h2.mono ds ρ _ _ hpq q
    | _ => exact q.elim, PG.weak h fun v σ H Q ⟨Z, F, ρ, d, r, rep, q⟩ => by
    cases d with
    | tup ds =>
      obtain ⟨a, vs, rfl, e1, e2⟩ := (show ∃ a vs, v = V.ref a ∧ SqT _ F a vs ∧ Reps _ _ _ ds vs from rep)
      exact ⟨a, vs, rfl, sqt_ex r.base.fh e1, e2.length.trans (hn _ _ _ q), Z, F, ρ, ds, r, e2, q⟩
    | _ => exact q.elim⟩
/-- target = e -/
def asgS (f : SE) (g : SG) : SS := fun ρ k => f ρ fun d => g d ρ k.nx
theorem S.asg {tg : Expr} {is : List Nat} {g : SG} (hf : E X e f) (hg : G X tg is g) (h : PS X st (tAsg (TEof X.K f) (TGof X.K is g))) : S X st (asgS f g) :=
  ⟨fun ρ k l hk q => hf.mono ρ _ _ (fun d hd => hg.mono d ρ _ _ hk.1 hd) q, PS.weak h fun D σ H ⟨Z, F, ρ, r, q⟩ => ⟨Z, F, ρ, r, hf.mono ρ _ _ (fun d hd v F' H' g1 rep => ⟨Z, F', ρ, d, r.grow g1, rep, hg.mono d ρ _ _ (fun ρ' z σ' r' _ => z σ' F' H' g1.f r') hd⟩) q⟩⟩
end

/-! ### what is walked -/
section
variable {X : Cx} {e a b c : Expr} {f g k : SE} {pos : Pos} {st : Stmt} {rest : List Stmt} {s t : SS}
def TurnOk (K : Kf) (Z : Zs) (J : It) (xs : List D) (F H : Hp) (i : Nat) : Prop := (i = xs.length → J.stop i H) ∧ ∀ d, xs[i]? = some d → J.go i H ∧ ∀ x H', J.yld i H x H' → ∃ F', Gr K Z F H F' H' ∧ Rep K Z.rw F' d x
def ItE (K : Kf) (Z : Zs) (J : It) (xs : List D) (F1 : Hp) : Prop := ∀ F H i, Ex F1 F → Base K Z F H → TurnOk K Z J xs F H i
def ItG (K : Kf) (Z : Zs) (J : It) (xs : List D) (F1 H1 : Hp) : Prop := ∀ F H i, Gr K Z F1 H1 F H → TurnOk K Z J xs F H i
theorem ItE.toG {K : Kf} {Z : Zs} {J : It} {xs : List D} {F1 H1 : Hp} (h : ItE K Z J xs F1) : ItG K Z J xs F1 H1 := fun F H i g => h F H i g.f g.b
def TIof (K : Kf) (f : SA) : TI := fun σ H Rc => ∃ Z F ρ, R K Z F ρ σ H ∧ f ρ fun xs => ∀ J F' H', Gr K Z F H F' H' → ItE K Z J xs F' → Rc J H'
def TIGof (K : Kf) (f : SA) : TI := fun σ H Rc => ∃ Z F ρ, R K Z F ρ σ H ∧ f ρ fun xs => ∀ J F' H', Gr K Z F H F' H' → ItG K Z J xs F' H' → Rc J H'
structure I (X : Cx) (tg e : Expr) (f : SA) : Prop where
  mono : MonoE f
  run : PI X tg e (TIof X.K f)
/-- for comprehensions: what is walked may be a list of one's own -/
structure Ig (X : Cx) (tg e : Expr) (f : SA) : Prop where
  mono : MonoE f
  run : PI X tg e (TIGof X.K f)
theorem PI.weak {tg : Expr} {t t' : TI} (h : PI X tg e t) (hw : ∀ σ H Rc, t' σ H Rc → t σ H Rc) : PI X tg e t' := ⟨fun pins s σ H Rc I q => h.run pins s σ H Rc I (hw σ H Rc q)⟩
theorem I.toG {tg : Expr} {f : SA} (h : I X tg e f) : Ig X tg e f := ⟨h.mono, PI.weak h.run fun σ H Rc ⟨Z, F, ρ, r, q⟩ => ⟨Z, F, ρ, r, h.mono ρ _ _ (fun xs hx J F' H' g i => hx J F' H' g i.toG) q⟩⟩
def seqOf (Q : List D → Prop) (d : D) : Prop := match d with
  | .tup ds => Q ds
  | .lst ds => Q ds
  | _ => False
theorem seqOf_mono {P Q : List D → Prop} (h : ∀ d, P d → Q d) : ∀ d, seqOf P d → seqOf Q d := fun d q => by
  cases d with
  | tup ds => exact h _ q
  | lst ds => exact h _ q
  | _ => exact q.elim
def seqI (f : SE) : SA := fun ρ Q => f ρ (seqOf Q)
def iSeq (K : Kf) (tl : TE) : TI := fun σ H Rc => tl σ H fun x H1 => ∃ a, x = .ref a ∧ (((∃ xs, SqL K H1 a xs) ∧ Rc (Itl K a) H1) ∨ ((∃ xs, SqT K H1 a xs) ∧ Rc (Itt K a) H1))
theorem pi_seq {tg l : Expr} {tl : TE} (hl : PE X l tl) : PI X tg l (iSeq X.K tl) := by
  refine ⟨fun pins s σ H R I h => ?_⟩
  refine thn (hl.run pins s σ H _ I h) fun v s1 ⟨x, H1, I1, r1, q1⟩ => ?_
  obtain ⟨a, e, q1⟩ := q1
  subst e
  cases r1
  rcases q1 with ⟨⟨xs, hq⟩, q⟩ | ⟨⟨xs, hq⟩, q⟩
  · obtain ⟨its, rv, p, hz⟩ := I1.list hq
    refine wpAny_pyIter_list p.isList ?_
    refine ⟨s1.heap.objs.size, [s1.heap.objs.size], _, _, H1, rfl, I1.kept (t' := s1.toks) fun b o e => Heap.get?_push_of_some _ e, turn_list a _, ⟨_, Heap.get?_push_size _ rfl, rfl, rfl⟩, fun b hb => ?_, q⟩
    have e : b = s1.heap.objs.size := by simpa using hb
    subst e
    exact I1.fpOk (Nat.le_refl _) (I1.hok.fresh (Nat.le_refl _))
  · obtain ⟨its, rv, p, hz⟩ := I1.tuple hq
    refine wpAny_pyIter_tuple (show s1.heap.IsTuple a its.toArray from p) ?_
    refine ⟨s1.heap.objs.size, [s1.heap.objs.size], _, _, H1, rfl, I1.kept (t' := s1.toks) fun b o e => Heap.get?_push_of_some _ e, turn_tuple a _, ⟨_, Heap.get?_push_size _ rfl, rfl, rfl⟩, fun b hb => ?_, q⟩
    have e : b = s1.heap.objs.size := by simpa using hb
    subst e
    exact I1.fpOk (Nat.le_refl _) (I1.hok.fresh (Nat.le_refl _))
theorem turn_l {K : Kf} {Z : Zs} {F H : Hp} {a : Addr} {vs : List V} {ds : List D} (b : Base K Z F H) (h : H a = some (.lst vs)) (hr : Reps K Z.rw F ds vs) (i : Nat) : TurnOk K Z (Itl K a) ds F H i :=
  ⟨fun e => ⟨vs, SqL.of h, by rw [hr.length, e]; exact Nat.le_refl _⟩, fun d hd => by
    obtain ⟨v, e1, e2⟩ := hr.get hd
    refine ⟨⟨vs, v, SqL.of h, e1⟩, fun x H' y => ?_⟩
    obtain ⟨rfl, y2⟩ := y
    have := y2 vs (SqL.of h)
    rw [e1] at this
    cases this
    exact ⟨F, Gr.refl b, e2⟩⟩
theorem turn_t {K : Kf} {Z : Zs} {F H : Hp} {a : Addr} {vs : List V} {ds : List D} (b : Base K Z F H) (h : SqT K H a vs) (hr : Reps K Z.rw F ds vs) (i : Nat) : TurnOk K Z (Itt K a) ds F H i :=
  ⟨fun e => ⟨vs, h, by rw [hr.length, e]; exact Nat.le_refl _⟩, fun d hd => by
    obtain ⟨v, e1, e2⟩ := hr.get hd
    refine ⟨⟨vs, v, h, e1⟩, fun x H' y => ?_⟩
    obtain ⟨rfl, y2⟩ := y
    have := y2 vs h
    rw [e1] at this
    cases this
    exact ⟨F, Gr.refl b, e2⟩⟩
theorem I.seq {tg : Expr} (h : E X e f) : I X tg e (seqI f) := ⟨fun ρ P Q hpq q => h.mono ρ _ _ (seqOf_mono hpq) q, PI.weak (pi_seq h.run) fun σ H Rc ⟨Z, F, ρ, r, q⟩ => ⟨Z, F, ρ, r, h.mono ρ _ _ (fun d hd v F1 H1 g1 rep => by
    cases d with
    | lst ds =>
      obtain ⟨a, vs, rfl, e1, e2⟩ := (show ∃ a vs, v = V.ref a ∧ F1 a = some (.lst vs) ∧ Reps _ _ _ ds vs from rep)
      exact ⟨a, rfl, .inl ⟨⟨vs, SqL.of (g1.b.fh _ _ e1)⟩, hd _ F1 H1 g1 fun F2 H2 i ex b2 => turn_l b2 (b2.fh _ _ (ex _ _ e1)) (Reps.ex ex _ _ e2) i⟩⟩
    | tup ds =>
      obtain ⟨a, vs, rfl, e1, e2⟩ := (show ∃ a vs, v = V.ref a ∧ SqT _ F1 a vs ∧ Reps _ _ _ ds vs from rep)
      exact ⟨a, rfl, .inr ⟨⟨vs, sqt_ex g1.b.fh e1⟩, hd _ F1 H1 g1 fun F2 H2 i ex b2 => turn_t b2 (sqt_ex b2.fh (sqt_ex ex e1)) (Reps.ex ex _ _ e2) i⟩⟩
    | _ => exact hd.elim) q⟩⟩
theorem Ig.seq {tg : Expr} (h : P X e f) : Ig X tg e (seqI f) := ⟨fun ρ P Q hpq q => h.mono ρ _ _ (seqOf_mono hpq) q, PI.weak (pi_seq h.run) fun σ H Rc ⟨Z, F, ρ, r, q⟩ => ⟨Z, F, ρ, r, h.mono ρ _ _ (fun d hd v F1 H1 g1 rep => by
    cases d with
    | lst ds =>
      obtain ⟨a, vs, rfl, e1, e2, e3⟩ := rep.lst g1.b
      exact ⟨a, rfl, .inl ⟨⟨vs, SqL.of e1⟩, hd _ F1 H1 g1 fun F2 H2 i g2 => turn_l g2.b (g2.h _ _ e3 e1) (Reps.ex g2.f _ _ e2) i⟩⟩
    | tup ds =>
      obtain ⟨a, vs, rfl, e1, e2, e3⟩ := rep.tup g1.b
      exact ⟨a, rfl, .inr ⟨⟨vs, e1⟩, hd _ F1 H1 g1 fun F2 H2 i g2 => turn_t g2.b (sqt_ex g2.b.fh (sqt_ex g2.f e3)) (Reps.ex g2.f _ _ e2) i⟩⟩
    | _ => exact hd.elim) q⟩⟩
/-- lo, lo + 1, .. below hi -/
def rngD (lo hi : Int) : List D := (List.range (hi - lo).toNat).map fun (i : Nat) => D.int (lo + i)
theorem rngD_len {lo hi : Int} : (rngD lo hi).length = (hi - lo).toNat := by unfold rngD; rw [List.length_map, List.length_range]
theorem turn_r {K : Kf} {Z : Zs} {F H : Hp} {lo hi : Int} (b : Base K Z F H) (i : Nat) : TurnOk K Z (Itr lo (hi - lo).toNat) (rngD lo hi) F H i :=
  ⟨fun e => by rw [rngD_len] at e; exact Nat.le_of_eq e.symm, fun d hd => by
    have hi' : i < (hi - lo).toNat := by
      have := (List.getElem?_eq_some_iff.mp hd).1
      rw [rngD_len] at this; exact this
    refine ⟨hi', fun x H' y => ?_⟩
    obtain ⟨rfl, rfl⟩ := y
    refine ⟨F, Gr.refl b, ?_⟩
    unfold rngD at hd
    rw [List.getElem?_map, List.getElem?_range hi'] at hd
    cases hd
    exact rfl⟩
def rng1A (f : SA) : SA := fun ρ Q => f ρ fun ds => match ds with
  | [.int j] => (-(2 ^ 62) ≤ j ∧ j < 2 ^ 62) ∧ Q (rngD 0 j)
  | _ => False
def rng2A (f : SA) : SA := fun ρ Q => f ρ fun ds => match ds with
  | [.int i, .int j] => (-(2 ^ 62) ≤ i ∧ i < 2 ^ 62 ∧ -(2 ^ 62) ≤ j ∧ j < 2 ^ 62) ∧ Q (rngD i j)
  | _ => False
theorem RepPs.one {K : Kf} {rw : Option Addr} {F H : Hp} {d : D} {vs : List V} (h : RepPs K rw F H [d] vs) : ∃ v, vs = [v] ∧ RepP K rw F H d v := by
  cases h with
  | cons a b => cases b; exact ⟨_, rfl, a⟩
theorem RepPs.two {K : Kf} {rw : Option Addr} {F H : Hp} {d d2 : D} {vs : List V} (h : RepPs K rw F H [d, d2] vs) : ∃ v v2, vs = [v, v2] ∧ RepP K rw F H d v ∧ RepP K rw F H d2 v2 := by
  cases h with
  | cons a b => cases b with
    | cons a2 b2 => cases b2; exact ⟨_, _, rfl, a, a2⟩
theorem RepPs.three {K : Kf} {rw : Option Addr} {F H : Hp} {d d2 d3 : D} {vs : List V} (h : RepPs K rw F H [d, d2, d3] vs) : ∃ v v2 v3, vs = [v, v2, v3] ∧ RepP K rw F H d v ∧ RepP K rw F H d2 v2 ∧ RepP K rw F H d3 v3 := by
  cases h with
  | cons a b =>
    obtain ⟨v2, v3, rfl, h2, h3⟩ := b.two
    exact ⟨_, _, _, rfl, a, h2, h3⟩
theorem I.rng1 {tg : Expr} {es : List Expr} {fa : SA} (ha : Ap X es fa) (h : PI X tg e (iRng1 (TQof X.K fa))) : I X tg e (rng1A fa) := ⟨fun ρ P Q hpq q => ha.mono ρ _ _ (fun ds hd => by
    split at hd
    · exact ⟨hd.1, hpq _ hd.2⟩
    · exact hd.elim) q, PI.weak h fun σ H Rc ⟨Z, F, ρ, r, q⟩ => ⟨Z, F, ρ, r, ha.mono ρ _ _ (fun ds hd vs F1 H1 g1 reps => by
    split at hd
    · rename_i j
      obtain ⟨v, rfl, rep⟩ := reps.one
      refine ⟨j, by rw [rep.int], hd.1.1, hd.1.2, ?_⟩
      have := hd.2 (Itr 0 (j - 0).toNat) F1 H1 g1 fun F2 H2 i ex b2 => turn_r b2 i
      rw [Int.sub_zero] at this
      exact this
    · exact hd.elim) q⟩⟩
theorem I.rng2 {tg : Expr} {es : List Expr} {fa : SA} (ha : Ap X es fa) (h : PI X tg e (iRng2 (TQof X.K fa))) : I X tg e (rng2A fa) := ⟨fun ρ P Q hpq q => ha.mono ρ _ _ (fun ds hd => by
    split at hd
    · exact ⟨hd.1, hpq _ hd.2⟩
    · exact hd.elim) q, PI.weak h fun σ H Rc ⟨Z, F, ρ, r, q⟩ => ⟨Z, F, ρ, r, ha.mono ρ _ _ (fun ds hd vs F1 H1 g1 reps => by
    split at hd
    · rename_i i j
      obtain ⟨v, v2, rfl, rep, rep2⟩ := reps.two
      exact ⟨i, j, by rw [rep.int, rep2.int], hd.1, hd.2 _ F1 H1 g1 fun F2 H2 i ex b2 => turn_r b2 i⟩
    · exact hd.elim) q⟩⟩
/-- zip -/
def zipD : List D → List D → List D
  | x :: xs, y :: ys => .tup [x, y] :: zipD xs ys
  | _, _ => []
theorem zipD_get : ∀ {xs ys : List D} {i : Nat} {d : D}, (zipD xs ys)[i]? = some d → ∃ x y, xs[i]? = some x ∧ ys[i]? = some y ∧ d = .tup [x, y]
  | [], _, _, _, h => by simp [zipD] at h
  | _ :: _, [], _, _, h => by simp [zipD] at h
  | x :: xs, y :: ys, 0, d, h => by
    have e : D.tup [x, y] = d := by simpa [zipD] using h
    exact ⟨x, y, rfl, rfl, e.symm⟩
  | x :: xs, y :: ys, i + 1, d, h => by
    obtain ⟨u, v, h1, h2, h3⟩ := zipD_get (xs := xs) (ys := ys) (i := i) (by simpa [zipD] using h)
    exact ⟨u, v, by simpa using h1, by simpa using h2, h3⟩
theorem zipD_len : ∀ {xs ys : List D}, xs.length ≤ (zipD xs ys).length ∨ ys.length ≤ (zipD xs ys).length
  | [], _ => .inl (by simp)
  | _ :: _, [] => .inr (by simp)
  | x :: xs, y :: ys => by
    rcases zipD_len (xs := xs) (ys := ys) with h | h
    · left; simp [zipD]; exact h
    · right; simp [zipD]; exact h
def zipA (f : SA) : SA := fun ρ Q => f ρ fun ds => match ds with
  | [.lst xs, .lst ys] => Q (zipD xs ys)
  | [.tup xs, .tup ys] => Q (zipD xs ys)
  | _ => False
theorem turn_pair {K : Kf} {Z : Zs} {F H : Hp} {d d2 : D} {x y : V} (b : Base K Z F H) {T : Addr} (hT : H T = none) (h1 : Rep K Z.rw F d x) (h2 : Rep K Z.rw F d2 y) : ∃ F', Gr K Z F H F' (upd H T (.tup [x, y])) ∧ Rep K Z.rw F' (.tup [d, d2]) (.ref T) :=
  ⟨_, b.lay hT, T, [x, y], rfl, .inl (.inl upd_same), Reps.ex (Ex.upd (b.fh.none hT)) _ _ (Reps.two h1 h2)⟩
theorem Ig.zip {tg : Expr} {es : List Expr} {fa : SA} (ha : Ap X es fa) (h : PI X tg e (RZ.iZipA X.K (TQof X.K fa))) : Ig X tg e (zipA fa) := ⟨fun ρ P Q hpq q => ha.mono ρ _ _ (fun ds hd => by
    split at hd
    · exact hpq _ hd
    · exact hpq _ hd
    · exact hd.elim) q, PI.weak h fun σ H Rc ⟨Z, F, ρ, r, q⟩ => ⟨Z, F, ρ, r, ha.mono ρ _ _ (fun ds hd vs F1 H1 g1 reps => by
    split at hd
    · rename_i xs ys
      obtain ⟨v, v2, rfl, rep, rep2⟩ := reps.two
      obtain ⟨a, us, rfl, e1, e2, e3⟩ := rep.lst g1.b
      obtain ⟨a', us', rfl, e1', e2', e3'⟩ := rep2.lst g1.b
      refine ⟨a, a', us, us', rfl, .inl ⟨SqL.of e1, SqL.of e1', hd _ F1 H1 g1 fun F2 H2 i g2 => ?_⟩⟩
      have w1 := g2.h _ _ e3 e1
      have w2 := g2.h _ _ e3' e1'
      refine ⟨fun ei => ⟨us, us', SqL.of w1, SqL.of w2, ?_⟩, fun d hd => ?_⟩
      · rw [e2.length, e2'.length, ei]; exact zipD_len
      · obtain ⟨x, y, hx, hy, rfl⟩ := zipD_get hd
        obtain ⟨v, e4, e5⟩ := e2.get hx
        obtain ⟨v', e4', e5'⟩ := e2'.get hy
        refine ⟨⟨us, us', v, v', SqL.of w1, SqL.of w2, e4, e4'⟩, fun z H' yy => ?_⟩
        obtain ⟨T, z1, z2, rfl, hT, rfl, f1, f2⟩ := yy
        have g1' := f1 us (SqL.of w1)
        have g2' := f2 us' (SqL.of w2)
        rw [e4] at g1'
        rw [e4'] at g2'
        cases g1'
        cases g2'
        exact turn_pair g2.b hT (Rep.ex g2.f _ _ e5) (Rep.ex g2.f _ _ e5')
    · rename_i xs ys
      obtain ⟨v, v2, rfl, rep, rep2⟩ := reps.two
      obtain ⟨a, us, rfl, e1, e2, e3⟩ := rep.tup g1.b
      obtain ⟨a', us', rfl, e1', e2', e3'⟩ := rep2.tup g1.b
      refine ⟨a, a', us, us', rfl, .inr ⟨e1, e1', hd _ F1 H1 g1 fun F2 H2 i g2 => ?_⟩⟩
      have w1 := sqt_ex g2.b.fh (sqt_ex g2.f e3)
      have w2 := sqt_ex g2.b.fh (sqt_ex g2.f e3')
      refine ⟨fun ei => ⟨us, us', w1, w2, ?_⟩, fun d hd => ?_⟩
      · rw [e2.length, e2'.length, ei]; exact zipD_len
      · obtain ⟨x, y, hx, hy, rfl⟩ := zipD_get hd
        obtain ⟨v, e4, e5⟩ := e2.get hx
        obtain ⟨v', e4', e5'⟩ := e2'.get hy
        refine ⟨⟨us, us', v, v', w1, w2, e4, e4'⟩, fun z H' yy => ?_⟩
        obtain ⟨T, z1, z2, rfl, hT, rfl, f1, f2⟩ := yy
        have g1' := f1 us w1
        have g2' := f2 us' w2
        rw [e4] at g1'
        rw [e4'] at g2'
        cases g1'
        cases g2'
        exact turn_pair g2.b hT (Rep.ex g2.f _ _ e5) (Rep.ex g2.f _ _ e5')
    · exact hd.elim) q⟩⟩

/-! ### loops -/
def loopK (n : REnv → Prop) (k : Kt) : Kt := { nx := n, ct := n, bk := k.nx, rt := k.rt }
theorem loopK_le {a b : REnv → Prop} {k l : Kt} (h : ∀ ρ, a ρ → b ρ) (hk : Kt.le k l) : Kt.le (loopK a k) (loopK b l) := ⟨h, hk.2.1, hk.1, h⟩
def whN (t : ST) (s : SS) : Nat → SS
  | 0 => fun _ _ => False
  | n + 1 => fun ρ k => t ρ fun b => br b (s ρ (loopK (fun ρ' => whN t s n ρ' k) k)) (k.nx ρ)
def whS (t : ST) (s : SS) : SS := fun ρ k => ∃ n, whN t s n ρ k
theorem whN_mono {t : ST} (mt : MonoE t) (ms : MonoS s) : ∀ n, MonoS (whN t s n)
  | 0 => fun _ _ _ _ q => q
  | n + 1 => fun ρ k l hk q => mt ρ _ _ (fun b hb => br_imp hb (fun z => ms ρ (loopK (fun ρ' => whN t s n ρ' k) k) _ (loopK_le (fun ρ' y => whN_mono mt ms n ρ' k l hk y) hk) z) (hk.1 _)) q
theorem S.wh {tt : ST} {xs : List Stmt} (ht : T X c tt) (hs : Ss X xs s) (h : PS X st (tWhile (TTof X.K tt) (TSof X.K s))) : S X st (whS tt s) :=
  ⟨fun ρ k l hk ⟨n, q⟩ => ⟨n, whN_mono ht.mono hs.mono n ρ k l hk q⟩, PS.weak h fun D σ H ⟨Z, F, ρ, r, n, q⟩ => by
    refine ⟨fun m σ' H' => ∃ F' ρ', Ex F F' ∧ R X.K Z F' ρ' σ' H' ∧ whN tt s m ρ' (kOf X.K Z F D), ⟨n, F, ρ, Ex.refl _, r, q⟩, ?_⟩
    rintro m σ' H' ⟨F', ρ', ex, r', q'⟩
    cases m with
    | zero => exact q'.elim
    | succ m =>
      refine ⟨Z, F', ρ', r', ht.mono ρ' _ _ (fun b hb F2 H2 g2 => br_ite (br_imp hb (fun z => ?_) (fun z => z σ' F2 H2 (ex.trans g2.f) (r'.grow g2)))) q'⟩
      refine ⟨fun σ3 H3 => ∃ F3 ρ3, Ex F F3 ∧ R X.K Z F3 ρ3 σ3 H3 ∧ whN tt s m ρ3 (kOf X.K Z F D), fun σ3 H3 h3 => ⟨m, Nat.lt_succ_self m, h3⟩, ?_⟩
      refine ⟨Z, F2, ρ', r'.grow g2, hs.mono ρ' (loopK (fun ρ3 => whN tt s m ρ3 (kOf X.K Z F D)) (kOf X.K Z F D)) _ ⟨fun ρ3 y σ3 F3 H3 e3 r3 => ⟨F3, ρ3, (ex.trans g2.f).trans e3, r3, y⟩, fun d y v F3 H3 e3 b3 rep => y v F3 H3 ((ex.trans g2.f).trans e3) b3 rep, fun ρ3 y σ3 F3 H3 e3 r3 => y σ3 F3 H3 ((ex.trans g2.f).trans e3) r3, fun ρ3 y σ3 F3 H3 e3 r3 => ⟨F3, ρ3, (ex.trans g2.f).trans e3, r3, y⟩⟩ z⟩⟩
def forL (g : SG) (s : SS) : List D → SS
  | [] => fun ρ k => k.nx ρ
  | d :: ds => fun ρ k => g d ρ fun ρ1 => s ρ1 (loopK (fun ρ' => forL g s ds ρ' k) k)
theorem forL_mono {g : SG} (mg : MonoG g) (ms : MonoS s) : ∀ ds, MonoS (forL g s ds)
  | [] => fun _ _ _ hk q => hk.1 _ q
  | d :: ds => fun ρ k l hk q => mg d ρ _ _ (fun ρ1 z => ms ρ1 (loopK (fun ρ' => forL g s ds ρ' k) k) _ (loopK_le (fun ρ' y => forL_mono mg ms ds ρ' k l hk y) hk) z) q
def forS (it : SA) (g : SG) (s : SS) : SS := fun ρ k => it ρ fun xs => forL g s xs ρ k
theorem S.for {tg iter : Expr} {it : SA} {is : List Nat} {g : SG} {xs : List Stmt} (hi : I X tg iter it) (hg : G X tg is g) (hs : Ss X xs s) (h : PS X st (tFor (TIof X.K it) (TGof X.K is g) (TSof X.K s))) : S X st (forS it g s) :=
  ⟨fun ρ k l hk q => hi.mono ρ _ _ (fun ds hd => forL_mono hg.mono hs.mono ds ρ k l hk hd) q, PS.weak h fun D σ H ⟨Z, F, ρ, r, q⟩ => by
    refine ⟨Z, F, ρ, r, hi.mono ρ _ _ (fun ds hd J F1 H1 g1 hit => ?_) q⟩
    refine ⟨fun i m σ' H' => m = ds.length - i ∧ i ≤ ds.length ∧ ∃ F' ρ', Ex F1 F' ∧ R X.K Z F' ρ' σ' H' ∧ forL g s (ds.drop i) ρ' (kOf X.K Z F D), ⟨ds.length, by simp, Nat.zero_le _, F1, ρ, Ex.refl _, r.grow g1, hd⟩, ?_⟩
    rintro i m σ' H' ⟨rfl, hle, F', ρ', ex, r', q'⟩
    obtain ⟨t1, t2⟩ := hit F' H' i ex r'.base
    by_cases hlt : i < ds.length
    · right
      have hdrop : ds.drop i = ds[i] :: ds.drop (i + 1) := List.drop_eq_getElem_cons hlt
      rw [hdrop] at q'
      obtain ⟨t3, t4⟩ := t2 ds[i] (List.getElem?_eq_getElem hlt)
      refine ⟨t3, fun σ3 H3 => ∃ F3 ρ3, Ex F1 F3 ∧ R X.K Z F3 ρ3 σ3 H3 ∧ forL g s (ds.drop (i + 1)) ρ3 (kOf X.K Z F D), fun σ3 H3 h3 => ⟨ds.length - (i + 1), by omega, rfl, hlt, h3⟩, fun x H2 y => ?_⟩
      obtain ⟨F2, g2, rep⟩ := t4 x H2 y
      refine ⟨Z, F2, ρ', ds[i], r'.grow g2, rep, hg.mono _ ρ' _ _ (fun ρ1 z σ1 r1 _ => ⟨Z, F2, ρ1, r1, hs.mono ρ1 (loopK (fun ρ3 => forL g s (ds.drop (i + 1)) ρ3 (kOf X.K Z F D)) (kOf X.K Z F D)) _ ?_ z⟩) q'⟩
      have ex2 : Ex F1 F2 := ex.trans g2.f
      exact ⟨fun ρ3 y σ3 F3 H3 e3 r3 => ⟨F3, ρ3, ex2.trans e3, r3, y⟩, fun d y v F3 H3 e3 b3 rep => y v F3 H3 (g1.f.trans (ex2.trans e3)) b3 rep, fun ρ3 y σ3 F3 H3 e3 r3 => y σ3 F3 H3 (g1.f.trans (ex2.trans e3)) r3, fun ρ3 y σ3 F3 H3 e3 r3 => ⟨F3, ρ3, ex2.trans e3, r3, y⟩⟩
    · left
      have e : i = ds.length := by omega
      subst e
      rw [List.drop_length] at q'
      exact ⟨t1 rfl, q' σ' F' H' (g1.f.trans ex) r'⟩⟩

/-! ### comprehensions -/
def lcL (g : SG) (t : ST) (f : SE) (ρ : REnv) : List D → (List D → Prop) → Prop
  | [], Q => Q []
  | d :: ds, Q => g d ρ fun ρ1 => t ρ1 fun b => br b (f ρ1 fun y => lcL g t f ρ ds fun ys => Q (y :: ys)) (lcL g t f ρ ds Q)
theorem lcL_mono {g : SG} {t : ST} (mg : MonoG g) (mt : MonoE t) (mf : MonoE f) {ρ : REnv} : ∀ (ds : List D) (P Q : List D → Prop), (∀ d, P d → Q d) → lcL g t f ρ ds P → lcL g t f ρ ds Q
  | [], _, _, h, q => h _ q
  | d :: ds, P, Q, h, q => mg d ρ _ _ (fun ρ1 z => mt ρ1 _ _ (fun b hb => br_imp hb (fun z => mf ρ1 _ _ (fun y hy => lcL_mono mg mt mf ds _ _ (fun ys hys => h _ hys) hy) z) (fun z => lcL_mono mg mt mf ds _ _ h z)) z) q
def wipeE (ρ : REnv) : List Nat → REnv
  | [] => ρ
  | v :: vs => (wipeE ρ vs).set v none
theorem R.wipe {K : Kf} {Z : Zs} {F H : Hp} {ρ : REnv} {σ : L2.St} (r : R K Z F ρ σ H) : ∀ vs : List Nat, R K Z F (wipeE ρ vs) (wipe σ vs) H
  | [] => r
  | v :: vs => by
    have q := R.wipe r vs
    unfold wipeE L2.wipe
    have key : ∀ (j : Nat) (s : Slot), ((wipeE ρ vs).set v none)[j]? = some (some s) → v ≠ j ∧ (wipeE ρ vs)[j]? = some (some s) := fun j s e => by
      by_cases hj : v = j
      · subst hj
        rw [List.getElem?_set] at e
        simp only [if_true] at e
        split at e <;> cases e
      · rw [List.getElem?_set_ne hj] at e; exact ⟨hj, e⟩
    refine ⟨q.base, by rw [List.length_set, List.length_set]; exact q.len, fun j s e => ?_, fun i j ds es a e1 e2 e3 e4 => ?_⟩
    · obtain ⟨hj, e⟩ := key j s e
      have w := q.slot j s e
      cases s with
      | sh d => obtain ⟨u, e1, e2⟩ := w; exact ⟨u, by rw [List.getElem?_set_ne hj]; exact e1, e2⟩
      | own ds => obtain ⟨u, us, e1, e2⟩ := w; exact ⟨u, us, by rw [List.getElem?_set_ne hj]; exact e1, e2⟩
    · obtain ⟨h1, e1⟩ := key i _ e1
      obtain ⟨h2, e2⟩ := key j _ e2
      rw [List.getElem?_set_ne h1] at e3
      rw [List.getElem?_set_ne h2] at e4
      exact q.apart i j ds es a e1 e2 e3 e4
def lcA (it : SA) (g : SG) (t : ST) (f : SE) (vs : List Nat) : SA := fun ρ Q => it ρ fun xs => xs.length ≤ big ∧ lcL g t f (wipeE ρ vs) xs Q
theorem lc_tp {K : Kf} {it : SA} {g : SG} {t : ST} {is vs : List Nat} (mi : MonoE it) (mg : MonoG g) (mt : MonoE t) (mf : MonoE f) (hv : ∀ i ∈ is, i ∈ vs) : ∀ σ H Q, TFof K (lcA it g t f vs) σ H Q →
    tLc (TIGof K it) (TGof K is g) (TTof K t) (TEof K f) vs σ H Q := fun σ H Q ⟨Z, F, ρ, r, q⟩ => by
  refine ⟨Z, F, ρ, r, mi ρ _ _ (fun xs hx J F1 H1 g1 hit => ?_) q⟩
  intro D hD
  obtain ⟨hlen, hx⟩ := hx
  have r1 := r.grow g1
  have nrow := g1.b.norow hD
  have hF1 : F1 D = none := g1.b.fh.none hD
  -- the heap without the list that grows
  refine ⟨fun i m H' => m = xs.length - i ∧ i ≤ xs.length ∧ ∃ F' acc us, Gr K Z F1 H1 F' H' ∧ F' D = none ∧ H' D = some (.lst us) ∧ Reps K Z.rw F' acc us ∧ acc.length ≤ i ∧ lcL g t f (wipeE ρ vs) (xs.drop i) (fun ys => ∀ p us F' H', Gr K Z F H F' H' → H p = none → Fresh Z F' ρ σ p → H' p = some (.lst us) → Reps K Z.rw F' (acc ++ ys) us → Q (.ref p) H'), ⟨xs.length, by simp, Nat.zero_le _, F1, [], [], g1.b.lay0 hD, hF1, upd_same, rfl, Nat.zero_le _, ?_⟩, ?_⟩
  · simpa using hx
  rintro i m H' ⟨rfl, hle, F', acc, us, g2, hFD, hHD, reps, hacc, q'⟩
  obtain ⟨t1, t2⟩ := hit F' H' i g2
  by_cases hlt : i < xs.length
  · right
    have hdrop : xs.drop i = xs[i] :: xs.drop (i + 1) := List.drop_eq_getElem_cons hlt
    rw [hdrop] at q'
    obtain ⟨t3, t4⟩ := t2 xs[i] (List.getElem?_eq_getElem hlt)
    refine ⟨t3, fun H3 => ∃ F3 acc us, Gr K Z F1 H1 F3 H3 ∧ F3 D = none ∧ H3 D = some (.lst us) ∧ Reps K Z.rw F3 acc us ∧ acc.length ≤ i + 1 ∧ lcL g t f (wipeE ρ vs) (xs.drop (i + 1)) (fun ys => ∀ p us F' H', Gr K Z F H F' H' → H p = none → Fresh Z F' ρ σ p → H' p = some (.lst us) → Reps K Z.rw F' (acc ++ ys) us → Q (.ref p) H'), fun H3 h3 => ⟨xs.length - (i + 1), by omega, rfl, hlt, h3⟩, fun x H2 y => ?_⟩
    obtain ⟨F2, g3, rep⟩ := t4 x H2 y
    have keepD : ∀ {Fa Ha Fb Hb : Hp}, Gr K Z Fa Ha Fb Hb → Fa D = none → Ha D = some (.lst us) → Fb D = none ∧ Hb D = some (.lst us) := fun {Fa Ha Fb Hb} gg h1 h2 => by
      refine ⟨?_, gg.h D _ nrow h2⟩
      cases z : Fb D with
      | none => rfl
      | some o =>
        rcases gg.n D (by rw [z]; simp) with w | w
        · exact absurd h1 w
        · rw [h2] at w; cases w
    obtain ⟨d1, d2⟩ := keepD g3 hFD hHD
    refine ⟨Z, F2, wipeE ρ vs, xs[i], ((r.grow g1).grow (g2.trans g3)).wipe vs, rep, mg _ _ _ _ (fun ρ1 z σ1 r1' hw => ⟨by rw [hw vs hv]; exact wipe_wipe, Z, F2, ρ1, r1', mt ρ1 _ _ (fun b hb F4 H4 g4 => ?_) z⟩) q'⟩
    obtain ⟨d3, d4⟩ := keepD g4 d1 d2
    refine br_ite (br_imp hb (fun z => ?_) (fun z => ?_))
    · refine ⟨Z, F4, ρ1, r1'.grow g4, mf ρ1 _ _ (fun yv hy v F5 H5 g5 rep5 => ?_) z⟩
      obtain ⟨d5, d6⟩ := keepD g5 d3 d4
      have gg : Gr K Z F1 H1 F5 H5 := (g2.trans g3).trans (g4.trans g5)
      refine ⟨us, d6, by rw [reps.length]; exact big_lt (by have := hlen; omega), F5, acc ++ [yv], us ++ [v], ?_, d5, upd_same, Reps.app (Reps.ex ((g3.trans g4).trans g5).f _ _ reps) (Reps.one rep5), by rw [List.length_append]; simp; exact hacc, ?_⟩
      · -- the list at D has grown: it is not frozen, not the row, not at the entry
        have hH1 : H1 D = none := hD
        refine ⟨gg.f, fun a o n e => ?_, ⟨fun a u e => ?_, gg.b.f0, fun a u n e => ?_, gg.b.new, fun a e => ?_, gg.b.frow⟩, gg.n⟩
        · rw [upd_ne (ne_of_none e hH1)]; exact gg.h a o n e
        · rw [upd_ne (fun z : a = D => by rw [z, d5] at e; cases e)]; exact gg.b.fh a u e
        · rw [upd_ne (fun z : a = D => by rw [z, g1.b.h0 hD] at e; cases e)]; exact gg.b.hh a u n e
        · obtain ⟨sc, ns, p, mm, tt, w1, w2, w3⟩ := gg.b.row a e
          refine ⟨sc, ns, p, mm, tt, ?_, w2.keep fun o q => ?_, w3⟩
          · rw [upd_ne (fun z : a = D => nrow (by rw [← z]; exact e))]; exact w1
          · rw [upd_ne (fun z : sc = D => by rw [z, d6] at q; cases q)]; exact q
      · refine lcL_mono mg mt mf _ _ _ (fun ys hys p us' F' H' g' h0 fr hp reps' => hys p us' F' H' g' h0 fr hp ?_) hy
        rw [List.append_assoc] at reps'
        exact reps'
    · exact ⟨F4, acc, us, (g2.trans g3).trans g4, d3, d4, Reps.ex (g3.trans g4).f _ _ reps, Nat.le_succ_of_le hacc, z⟩
  · left
    have e : i = xs.length := by omega
    subst e
    rw [List.drop_length] at q'
    have q2 := q' D us F' H' (g1.trans g2) (back_none r.base g1 hD) ⟨hFD, g1.b.h0 hD, nrow, own_ne (r.grow g1) hD⟩ hHD (by rw [List.append_nil]; exact reps)
    exact ⟨t1 rfl, q2⟩
end

/-! ### comprehensions, the rules -/
structure Tl (X : Cx) (ifs : List Expr) (f : ST) : Prop where
  mono : MonoE f
  run : PTs X ifs (TTof X.K f)
section
variable {X : Cx} {e a b c : Expr} {f g k : SE} {pos : Pos} {st : Stmt} {rest : List Stmt} {s t : SS}
def yesT : ST := fun _ Q => Q true
theorem PTs.weak {ifs : List Expr} {t t' : TT} (h : PTs X ifs t) (hw : ∀ σ H Q, t' σ H Q → t σ H Q) : PTs X ifs t' := ⟨fun pins s σ H Q I q => h.run pins s σ H Q I (hw σ H Q q)⟩
theorem Tl.nil : Tl X [] yesT := ⟨fun _ _ _ h q => h _ q, PTs.weak pts_nil fun σ H Q ⟨Z, F, ρ, r, q⟩ => q F H (Gr.refl r.base)⟩
theorem Tl.one {f : ST} (h : T X c f) : Tl X [c] f := ⟨h.mono, pts_one h.run⟩
abbrev Blk (X : Cx) (scope : Scope) (p : Cx → Prop) : Prop := ∀ (s : Shared) (H : Hp) (C : Addr) (cl : List (Str × Addr)) (fp : List Addr), p (X.blk s H scope (compEnvC scope cl C X.env) fp)
theorem Blk.any {scope : Scope} {p : Cx → Prop} (h : Blk X scope p) : ∃ Y, p Y := ⟨_, h X.s_0 X.H_0 0 [] []⟩
theorem F.lc {elt tg iter : Expr} {ifs : List Expr} {scope : Scope} {own : List (Str × Nat)} {it : SA} {is : List Nat} {gg : SG} {tt : ST} (hc : X.calm = true) (hN : X.N.Nodup) (ok : BlkOk X.N X.env.scope scope own) (hv : ∀ i ∈ is, i ∈ own.map (·.2))
    (hi : Ig X tg iter it) (hg : Blk X scope fun Y => G Y tg is gg) (ht : Blk X scope fun Y => Tl Y ifs tt) (he : Blk X scope fun Y => E Y elt f) (hs : ∀ x, foldedSetIterable iter X.env x = pure x := by intro _; rfl) :
    F X (.ListComp elt [⟨tg, iter, ifs, 0⟩] scope pos) (lcA it gg tt f (own.map (·.2))) := by
  obtain ⟨_, mg⟩ := Blk.any hg
  obtain ⟨_, mt⟩ := Blk.any ht
  obtain ⟨_, me⟩ := Blk.any he
  exact ⟨fun ρ P Q h q => hi.mono ρ _ _ (fun xs hx => ⟨hx.1, lcL_mono mg.mono mt.mono me.mono _ _ _ h hx.2⟩) q,
    PE.weak (pe_lc hc hN hi.run ok (fun s H C cl fp => (hg s H C cl fp).run) (fun s H C cl fp => (ht s H C cl fp).run) (fun s H C cl fp => (he s H C cl fp).run) hs) (lc_tp hi.mono mg.mono mt.mono me.mono hv)⟩
/-- y = [..], y a local: a list of one's own -/
theorem S.lcO {i : Nat} {y : Str} {py spos : Pos} {elt tg iter : Expr} {ifs : List Expr} {scope : Scope} {own : List (Str × Nat)} {it : SA} {is : List Nat} {gg : SG} {tt : ST} (hc : X.calm = true) (hN : X.N.Nodup) (hy : X.N[i]? = some y) (hyl : X.env.scope.names.lookup y = some .local)
    (hsw : swapsWith (.ListComp elt [⟨tg, iter, ifs, 0⟩] scope pos) (some (.Name y py)) spos.line X.env = pure true) (ok : BlkOk X.N X.env.scope scope own) (hv : ∀ i ∈ is, i ∈ own.map (·.2))
    (hi : Ig X tg iter it) (hg : Blk X scope fun Y => G Y tg is gg) (ht : Blk X scope fun Y => Tl Y ifs tt) (he : Blk X scope fun Y => E Y elt f) (hs : ∀ x, foldedSetIterable iter X.env x = pure x := by intro _; rfl) :
    S X (.Assign [.Name y py] (.ListComp elt [⟨tg, iter, ifs, 0⟩] scope pos) spos) (Z0.setO i (lcA it gg tt f (own.map (·.2)))) := by
  obtain ⟨_, mg⟩ := Blk.any hg
  obtain ⟨_, mt⟩ := Blk.any ht
  obtain ⟨_, me⟩ := Blk.any he
  have mm : MonoE (lcA it gg tt f (own.map (·.2))) := fun ρ P Q h q => hi.mono ρ _ _ (fun xs hx => ⟨hx.1, lcL_mono mg.mono mt.mono me.mono _ _ _ h hx.2⟩) q
  exact ⟨setO_mono mm, PS.weak (ps_setLc hc hN hy hyl hsw hi.run ok (fun s H C cl fp => (hg s H C cl fp).run) (fun s H C cl fp => (ht s H C cl fp).run) (fun s H C cl fp => (he s H C cl fp).run) hs)
    fun D σ H q => lc_tp hi.mono mg.mono mt.mono me.mono hv σ H _ (setO_tp mm D σ H q)⟩
/-- .. a datum at once -/
theorem S.lc {i : Nat} {y : Str} {py spos : Pos} {elt tg iter : Expr} {ifs : List Expr} {scope : Scope} {own : List (Str × Nat)} {it : SA} {is : List Nat} {gg : SG} {tt : ST} (hc : X.calm = true) (hN : X.N.Nodup) (hy : X.N[i]? = some y) (hyl : X.env.scope.names.lookup y = some .local)
    (hsw : swapsWith (.ListComp elt [⟨tg, iter, ifs, 0⟩] scope pos) (some (.Name y py)) spos.line X.env = pure true) (ok : BlkOk X.N X.env.scope scope own) (hv : ∀ i ∈ is, i ∈ own.map (·.2))
    (hi : Ig X tg iter it) (hg : Blk X scope fun Y => G Y tg is gg) (ht : Blk X scope fun Y => Tl Y ifs tt) (he : Blk X scope fun Y => E Y elt f) (hs : ∀ x, foldedSetIterable iter X.env x = pure x := by intro _; rfl) :
    S X (.Assign [.Name y py] (.ListComp elt [⟨tg, iter, ifs, 0⟩] scope pos) spos) (setS i (fun ρ Q => lcA it gg tt f (own.map (·.2)) ρ fun ds => Q (.lst ds))) := by
  obtain ⟨_, mg⟩ := Blk.any hg
  obtain ⟨_, mt⟩ := Blk.any ht
  obtain ⟨_, me⟩ := Blk.any he
  have mm : MonoE (lcA it gg tt f (own.map (·.2))) := fun ρ P Q h q => hi.mono ρ _ _ (fun xs hx => ⟨hx.1, lcL_mono mg.mono mt.mono me.mono _ _ _ h hx.2⟩) q
  refine ⟨fun ρ k l hk q => mm ρ _ _ (fun ds hd => hk.1 _ hd) q, PS.weak (ps_setLc hc hN hy hyl hsw hi.run ok (fun s H C cl fp => (hg s H C cl fp).run) (fun s H C cl fp => (ht s H C cl fp).run) (fun s H C cl fp => (he s H C cl fp).run) hs)
    fun D σ H q => lc_tp hi.mono mg.mono mt.mono me.mono hv σ H _ ?_⟩
  obtain ⟨Z, F, ρ, r, q⟩ := q
  refine ⟨Z, F, ρ, r, mm ρ _ _ (fun ds hd p vs F' H' g h0 fr hp rs => ?_) q⟩
  have g2 := freeze r g fr hp h0
  exact hd _ _ H' g2.f ((r.grow g2).setSh i (v := .ref p) ⟨p, vs, rfl, upd_same, Reps.ex (Ex.upd fr.1) _ _ rs⟩)
end

/-! ### operators -/
def small (j : Int) : Prop := j.natAbs < 2 ^ 8000
theorem small_of {j : Int} (h : j.natAbs < 2 ^ 200) : small j := Nat.lt_of_lt_of_le h (Nat.pow_le_pow_right (by decide) (by decide))
def mulOk (i j : Int) : Prop := i.natAbs < 2 ^ 64 ∨ j.natAbs < 2 ^ 64 ∨ (i.natAbs < 2 ^ 400000 ∧ j.natAbs < 2 ^ 400000)
theorem mulOk_ok {i j : Int} (h : mulOk i j) : IntMulOk i j := by
  rcases h with h | h | ⟨h, h'⟩
  · exact CMul.ok (.inl (by omega))
  · exact CMul.ok (.inr (by omega))
  · exact (wide_mul h h' (by decide) (by decide) (by decide)).ok
section
variable {X : Cx}
theorem op_mulS : OpR X (binaryOp .Mult) (rI mulOk fun i j => .int (i * j)) := opI fun _ _ _ _ _ _ _ hc q => mul_int q (mulOk_ok hc)
theorem op_fdivS : OpR X (binaryOp .FloorDiv) (rI (fun _ j => j ≠ 0 ∧ small j) fun i j => .int (i.fdiv j)) := opI fun i j _ _ _ _ _ hc q =>
  floordiv_int hc.1 q (.inl (PyProof.noPylong_of_log2 (Nat.lt_of_lt_of_le (PySem.Flt.log2_lt_of (by decide) hc.2) (by decide))))
end
section
variable {K : Kf}
def intO (C : Int → Int → Prop) (p : Int → Int → D) : O2 := fun x y Q => match x, y with
  | .int i, .int j => C i j ∧ Q (p i j)
  | _, _ => False
theorem intO_mono {C : Int → Int → Prop} {p : Int → Int → D} : Mono2 (intO C p) := fun x y P Q h q => by
  unfold intO at *
  split at q
  · exact ⟨q.1, h _ q.2⟩
  · exact q.elim
theorem intO_s {C : Int → Int → Prop} {p : Int → Int → D} {v : Int → Int → V} (hp : ∀ i j rw F, Rep K rw F (p i j) (v i j)) : OpS K (rI C v) (intO C p) := fun Z F H dx dy x y Q b rx ry q => by
  unfold intO at q
  split at q
  · rename_i i j
    exact ⟨i, j, rx.int, ry.int, q.1, q.2 _ F H (Gr.refl b) (hp i j _ _)⟩
  · exact q.elim
def int0 (p : Int → Int → D) : O2 := fun x y Q => match x, y with
  | .int i, .int j => Q (p i j)
  | _, _ => False
theorem int0_mono {p : Int → Int → D} : Mono2 (int0 p) := fun x y P Q h q => by
  unfold int0 at *
  split at q
  · exact h _ q
  · exact q.elim
theorem int0_s {p : Int → Int → D} {v : Int → Int → V} (hp : ∀ i j rw F, Rep K rw F (p i j) (v i j)) : OpS K (rI0 v) (int0 p) := fun Z F H dx dy x y Q b rx ry q => by
  unfold int0 at q
  split at q
  · rename_i i j
    exact ⟨i, j, rx.int, ry.int, q _ F H (Gr.refl b) (hp i j _ _)⟩
  · exact q.elim
theorem OpS.or1 {r r' : R2} {o : O2} (h : OpS K r o) : OpS K (fun x y H Q => r x y H Q ∨ r' x y H Q) o := fun Z F H dx dy x y Q b rx ry q => .inl (h Z F H dx dy x y Q b rx ry q)
abbrev subO : O2 := int0 fun i j => .int (i - j)
abbrev ltO : O2 := int0 fun i j => .bl (decide (i < j))
abbrev leO : O2 := int0 fun i j => .bl (decide (i ≤ j))
abbrev gtO : O2 := int0 fun i j => .bl (decide (j < i))
abbrev geO : O2 := int0 fun i j => .bl (decide (j ≤ i))
abbrev modO : O2 := intO (fun _ j => j ≠ 0) fun i j => .int (i.fmod j)
abbrev fdivO : O2 := intO (fun _ j => j ≠ 0 ∧ small j) fun i j => .int (i.fdiv j)
abbrev powO : O2 := intO CPow fun i j => .int (i ^ j.toNat)
/-- ints, tuples, lists -/
def addO : O2 := fun x y Q => match x, y with
  | .int i, .int j => Q (.int (i + j))
  | .tup xs, .tup ys => xs.length + ys.length ≤ big ∧ Q (.tup (xs ++ ys))
  | .lst xs, .lst ys => xs.length + ys.length ≤ big ∧ Q (.lst (xs ++ ys))
  | _, _ => False
theorem addO_mono : Mono2 addO := fun x y P Q h q => by
  unfold addO at *
  split at q
  · exact h _ q
  · exact ⟨q.1, h _ q.2⟩
  · exact ⟨q.1, h _ q.2⟩
  · exact q.elim
theorem addO_s : OpS K (fun x y H Q => rI0 (fun i j => .int (i + j)) x y H Q ∨ (rCatA K x y H Q ∨ rCat x y H Q)) addO := fun Z F H dx dy x y Q b rx ry q => by
  unfold addO at q
  split at q
  · rename_i i j
    exact .inl ⟨i, j, rx.int, ry.int, q _ F H (Gr.refl b) rfl⟩
  · rename_i xs ys
    obtain ⟨a, us, rfl, e1, e2, e3⟩ := rx.tup b
    obtain ⟨a', us', rfl, e1', e2', e3'⟩ := ry.tup b
    refine .inr (.inl ⟨a, a', us, us', rfl, rfl, e1, e1', by rw [e2.length, e2'.length]; exact big_line q.1, fun z => ?_, fun _ z => ?_, fun _ _ p hp => ?_⟩)
    · have hx : xs = [] := List.eq_nil_of_length_eq_zero (by rw [← e2.length, z]; rfl)
      subst hx
      exact q.2 _ F H (Gr.refl b) ⟨a', us', rfl, e3', e2'⟩
    · have hy : ys = [] := List.eq_nil_of_length_eq_zero (by rw [← e2'.length, z]; rfl)
      subst hy
      exact q.2 _ F H (Gr.refl b) ⟨a, us, rfl, e3, by rw [List.append_nil]; exact e2⟩
    · exact q.2 _ _ _ (b.lay hp) ⟨p, _, rfl, .inl (.inl upd_same), Reps.ex (Ex.upd (b.fh.none hp)) _ _ (Reps.app e2 e2')⟩
  · rename_i xs ys
    obtain ⟨a, us, rfl, e1, e2, _⟩ := rx.lst b
    obtain ⟨a', us', rfl, e1', e2', _⟩ := ry.lst b
    exact .inr (.inr ⟨a, a', us, us', rfl, rfl, e1, e1', by rw [e2.length, e2'.length]; exact big_line q.1, fun p hp => q.2 _ _ _ (b.lay hp) ⟨p, _, rfl, upd_same, Reps.ex (Ex.upd (b.fh.none hp)) _ _ (Reps.app e2 e2')⟩⟩)
  · exact q.elim
/-- lists alone, a new list -/
def catF : OF2 := fun x y Q => match x, y with
  | .lst xs, .lst ys => xs.length + ys.length ≤ big ∧ Q (xs ++ ys)
  | _, _ => False
theorem catF_mono : MonoF2 catF := fun x y P Q h q => by
  unfold catF at *
  split at q
  · exact ⟨q.1, h _ q.2⟩
  · exact q.elim
theorem catF_s : OpF K rCat catF := fun Z F H dx dy x y Q b rx ry q => by
  unfold catF at q
  split at q
  · obtain ⟨a, us, rfl, e1, e2, _⟩ := rx.lst b
    obtain ⟨a', us', rfl, e1', e2', _⟩ := ry.lst b
    exact ⟨a, a', us, us', rfl, rfl, e1, e1', by rw [e2.length, e2'.length]; exact big_line q.1, fun p hp => q.2 p _ hp (Reps.app e2 e2')⟩
  · exact q.elim
/-- ints, a list by a number -/
def mulO : O2 := intO mulOk fun i j => .int (i * j)
def repF : OF2 := fun x y Q => match x, y with
  | .lst xs, .int k => (k < 2 ^ 63 ∧ -(2 ^ 63) ≤ k ∧ xs.length * k.toNat ≤ big) ∧ Q (List.replicate k.toNat xs).flatten
  | _, _ => False
theorem repF_mono : MonoF2 repF := fun x y P Q h q => by
  unfold repF at *
  split at q
  · exact ⟨q.1, h _ q.2⟩
  · exact q.elim
theorem Reps.rep {K : Kf} {rw : Option Addr} {F : Hp} {ds : List D} {vs : List V} (h : Reps K rw F ds vs) : ∀ k : Nat, Reps K rw F (List.replicate k ds).flatten (List.replicate k vs).flatten
  | 0 => rfl
  | k + 1 => by
    rw [List.replicate_succ, List.replicate_succ, List.flatten_cons, List.flatten_cons]
    exact Reps.app h (Reps.rep h k)
theorem repF_s : OpF K rRep repF := fun Z F H dx dy x y Q b rx ry q => by
  unfold repF at q
  split at q
  · rename_i xs k
    obtain ⟨a, us, rfl, e1, e2, _⟩ := rx.lst b
    exact ⟨a, k, us, rfl, ry.int, e1, q.1.2.1, q.1.1, by rw [e2.length]; exact big_line q.1.2.2, fun p hp => q.2 p _ hp (Reps.rep e2 _)⟩
  · exact q.elim
def negO : O1 := fun x Q => match x with
  | .int i => Q (.int (-i))
  | _ => False
theorem negO_mono : Mono1 negO := fun x P Q h q => by
  unfold negO at *
  split at q
  · exact h _ q
  · exact q.elim
theorem negO_s : UnS K (rU fun i => .int (-i)) negO := fun Z F H dx x Q b rx q => by
  unfold negO at q
  split at q
  · rename_i i
    exact ⟨i, rx.int, q _ F H (Gr.refl b) rfl⟩
  · exact q.elim

/-! ### equality of data -/
mutual
def D.py : D → PyData
  | .non => .none
  | .bl b => .bool b
  | .int i => .int i
  | .str x => .str x
  | .tup ds => .tuple (D.pyl ds)
  | .lst ds => .list (D.pyl ds)
  | .row => .none
  | .ty _ => .none
def D.pyl : List D → List PyData
  | [] => []
  | d :: ds => d.py :: D.pyl ds
end
mutual
def D.pure : D → Bool
  | .tup ds => D.purel ds
  | .lst ds => D.purel ds
  | .row => false
  | .ty _ => false
  | _ => true
def D.purel : List D → Bool
  | [] => true
  | d :: ds => d.pure && D.purel ds
end
def okD (d : D) : Bool := d.pure && SeqAt.shaped d.py
def eqD (x y : D) : Bool := PyData.eqv x.py y.py
mutual
theorem dp_of {Z : Zs} {F H : Hp} (b : Base K Z F H) : ∀ (d : D) (v : V), d.pure = true → Rep K Z.rw F d v → Dp K H v d.py
  | .non, v, _, h => by cases (show v = .non from h); exact .non
  | .bl c, v, _, h => by cases (show v = .bl c from h); exact .bl c
  | .int i, v, _, h => by cases (show v = .int i from h); exact .int i
  | .str x, v, _, h => by cases (show v = .str x from h); exact .str x
  | .tup ds, v, p, h => by
    obtain ⟨a, vs, rfl, e1, e2⟩ := (show ∃ a vs, v = V.ref a ∧ SqT _ F a vs ∧ Reps _ _ _ ds vs from h)
    exact .tup (sqt_ex b.fh e1) (dps_of b ds vs p e2)
  | .lst ds, v, p, h => by
    obtain ⟨a, vs, rfl, e1, e2⟩ := (show ∃ a vs, v = V.ref a ∧ F a = some (.lst vs) ∧ Reps _ _ _ ds vs from h)
    exact .lst (SqL.of (b.fh _ _ e1)) (dps_of b ds vs p e2)
theorem dps_of {Z : Zs} {F H : Hp} (b : Base K Z F H) : ∀ (ds : List D) (vs : List V), D.purel ds = true → Reps K Z.rw F ds vs → DpAll K H vs (D.pyl ds)
  | [], vs, _, h => by cases (show vs = [] from h); exact .nil
  | d :: ds, vs, p, h => by
    obtain ⟨v, r, rfl, h1, h2⟩ := (show ∃ v r, vs = v :: r ∧ Rep _ _ _ d v ∧ Reps _ _ _ ds r from h)
    have p' := Bool.and_eq_true_iff.mp (show (d.pure && D.purel ds) = true from p)
    exact .cons (dp_of b d v p'.1 h1) (dps_of b ds r p'.2 h2)
end
theorem dp_ofP {Z : Zs} {F H : Hp} (b : Base K Z F H) {d : D} {v : V} (p : d.pure = true) (h : RepP K Z.rw F H d v) : Dp K H v d.py := by
  rcases h with h | ⟨ds, a, vs, rfl, rfl, e1, e2, _⟩
  · exact dp_of b d v p h
  · exact .lst (SqL.of e1) (dps_of b ds vs p e2)
def eqO : O2 := fun x y Q => match x, y with
  | .int i, .int j => Q (.bl (decide (i = j)))
  | x, y => okD x = true ∧ okD y = true ∧ Q (.bl (eqD x y))
def neO : O2 := fun x y Q => match x, y with
  | .int i, .int j => Q (.bl (!decide (i = j)))
  | x, y => okD x = true ∧ okD y = true ∧ Q (.bl (!eqD x y))
theorem eqO_mono : Mono2 eqO := fun x y P Q h q => by
  unfold eqO at *
  split at q
  · exact h _ q
  · exact ⟨q.1, q.2.1, h _ q.2.2⟩
theorem neO_mono : Mono2 neO := fun x y P Q h q => by
  unfold neO at *
  split at q
  · exact h _ q
  · exact ⟨q.1, q.2.1, h _ q.2.2⟩
theorem okD_int (i : Int) : okD (.int i) = true := by
  show (true && SeqAt.shaped (.int i)) = true
  rfl
theorem eqO_s : OpS K (rEqD K) eqO := fun Z F H dx dy x y Q b rx ry q => by
  have key : ∀ (dx dy : D), RepP K Z.rw F H dx x → RepP K Z.rw F H dy y → okD dx = true → okD dy = true → Q (.bl (eqD dx dy)) H → rEqD K x y H Q := fun dx dy rx ry h1 h2 q => by
    have p1 := Bool.and_eq_true_iff.mp h1
    have p2 := Bool.and_eq_true_iff.mp h2
    exact ⟨dx.py, dy.py, dp_ofP b p1.1 rx, dp_ofP b p2.1 ry, p1.2, p2.2, q⟩
  unfold eqO at q
  split at q
  · exact key _ _ rx ry (okD_int _) (okD_int _) (q _ F H (Gr.refl b) rfl)
  · exact key _ _ rx ry q.1 q.2.1 (q.2.2 _ F H (Gr.refl b) rfl)
theorem neO_s : OpS K (rNeD K) neO := fun Z F H dx dy x y Q b rx ry q => by
  have key : ∀ (dx dy : D), RepP K Z.rw F H dx x → RepP K Z.rw F H dy y → okD dx = true → okD dy = true → Q (.bl (!eqD dx dy)) H → rNeD K x y H Q := fun dx dy rx ry h1 h2 q => by
    have p1 := Bool.and_eq_true_iff.mp h1
    have p2 := Bool.and_eq_true_iff.mp h2
    exact ⟨dx.py, dy.py, dp_ofP b p1.1 rx, dp_ofP b p2.1 ry, p1.2, p2.2, q⟩
  unfold neO at q
  split at q
  · exact key _ _ rx ry (okD_int _) (okD_int _) (q _ F H (Gr.refl b) rfl)
  · exact key _ _ rx ry q.1 q.2.1 (q.2.2 _ F H (Gr.refl b) rfl)
def isN : D → Bool
  | .non => true
  | _ => false
def isO : O2 := fun x y Q => match y with
  | .non => Q (.bl (isN x))
  | _ => False
def isnO : O2 := fun x y Q => match y with
  | .non => Q (.bl (!isN x))
  | _ => False
theorem isN_v {rw : Option Addr} {F H : Hp} {d : D} {v : V} (h : RepP K rw F H d v) : decide (v = V.non) = isN d := by
  cases d with
  | non => rw [h.non]; rfl
  | bl b => rw [h.bl]; rfl
  | int i => rw [h.int]; rfl
  | str x => rw [h.str]; rfl
  | tup ds =>
    rcases h with ⟨a, vs, rfl, _⟩ | ⟨_, _, _, e, _⟩
    · rfl
    · cases e
  | lst ds =>
    rcases h with ⟨a, vs, rfl, _⟩ | ⟨_, _, _, _, rfl, _⟩
    · rfl
    · rfl
  | row =>
    rcases h with ⟨a, _, rfl⟩ | ⟨_, _, _, e, _⟩
    · rfl
    · cases e
  | ty t =>
    rcases h with h | ⟨_, _, _, e, _⟩
    · rw [show v = _ from h]; rfl
    · cases e
theorem isO_mono : Mono2 isO := fun x y P Q h q => by
  unfold isO at *
  split at q
  · exact h _ q
  · exact q.elim
theorem isnO_mono : Mono2 isnO := fun x y P Q h q => by
  unfold isnO at *
  split at q
  · exact h _ q
  · exact q.elim
theorem isO_s : OpS K (fun x y H Q => y = .non ∧ Q (.bl (decide (x = .non))) H) isO := fun Z F H dx dy x y Q b rx ry q => by
  unfold isO at q
  split at q
  · rw [isN_v rx]; exact ⟨ry.non, q _ F H (Gr.refl b) rfl⟩
  · exact q.elim
theorem isnO_s : OpS K (fun x y H Q => y = .non ∧ Q (.bl (!decide (x = .non))) H) isnO := fun Z F H dx dy x y Q b rx ry q => by
  unfold isnO at q
  split at q
  · rw [isN_v rx]; exact ⟨ry.non, q _ F H (Gr.refl b) rfl⟩
  · exact q.elim
end

/-! ### built-in calls -/
section
variable {K : Kf}
def intsD : List D → Option (List Int)
  | [] => some []
  | d :: ds => match d with
    | .int i => (match intsD ds with
      | some ns => some (i :: ns)
      | none => none)
    | _ => none
theorem intsD_map : ∀ ns : List Int, intsD (ns.map D.int) = some ns
  | [] => rfl
  | n :: ns => by
    show (match intsD (ns.map D.int) with | some ms => some (n :: ms) | none => none) = _
    rw [intsD_map ns]
theorem intsD_eq : ∀ {ds : List D} {ns : List Int}, intsD ds = some ns → ds = ns.map D.int
  | [], _, h => by cases h; rfl
  | d :: ds, ns, h => by
    unfold intsD at h
    split at h
    · split at h
      · rename_i i _ ms hm
        cases h
        rw [intsD_eq hm]; rfl
      · cases h
    · cases h
/-- a builtin of one list of ints -/
def onInts (d : D) (p : List Int → Prop) : Prop := match d with
  | .lst ds => (match intsD ds with
    | some ns => p ns
    | none => False)
  | _ => False
theorem onInts_imp {d : D} {p q : List Int → Prop} (h : onInts d p) (hpq : ∀ ns, p ns → q ns) : onInts d q := by
  unfold onInts at *
  split at h
  · split at h
    · exact hpq _ h
    · exact h
  · exact h
theorem onInts_at {Z : Zs} {F H : Hp} {d : D} {v : V} {p : List Int → Prop} (b : Base K Z F H) (r : RepP K Z.rw F H d v) (h : onInts d p) : ∃ a ns, v = V.ref a ∧ SqL K H a (ns.map V.int) ∧ H a = some (.lst (ns.map V.int)) ∧ p ns := by
  unfold onInts at h
  split at h
  · split at h
    · rename_i ds ns hns
      obtain ⟨a, vs, rfl, e1, e2, _⟩ := r.lst b
      rw [intsD_eq hns] at e2
      have := e2.ints
      subst this
      exact ⟨a, ns, rfl, SqL.of e1, e1, h⟩
    · exact h.elim
  · exact h.elim
def call1 (o : O1) : OC := fun ds Q => match ds with
  | [d] => o d Q
  | _ => False
theorem call1_mono {o : O1} (mo : Mono1 o) : MonoC (call1 o) := fun ds P Q h q => by
  unfold call1 at *
  split at q
  · exact mo _ _ _ h q
  · exact q.elim
theorem call1_s {o : O1} {r : List V → Hp → VK → Prop} (h : ∀ (Z : Zs) (F H : Hp) (d : D) (v : V) (Q : VK), Base K Z F H → RepP K Z.rw F H d v → (o d fun d => ∀ v F' H', Gr K Z F H F' H' → Rep K Z.rw F' d v → Q v H') → r [v] H Q) : CallS K r (call1 o) := fun Z F H ds vs Q b reps q => by
  unfold call1 at q
  split at q
  · obtain ⟨v, rfl, rep⟩ := reps.one
    exact h Z F H _ v Q b rep q
  · exact q.elim
def absO : O1 := fun x Q => match x with
  | .int i => Q (.int (if i < 0 then -i else i))
  | _ => False
theorem absO_mono : Mono1 absO := fun x P Q h q => by
  unfold absO at *
  split at q
  · exact h _ q
  · exact q.elim
theorem abs_s : CallS K (fun xs H Q => ∃ i, xs = [.int i] ∧ Q (.int (if i < 0 then -i else i)) H) (call1 absO) := call1_s fun Z F H d v Q b r q => by
  unfold absO at q
  split at q
  · exact ⟨_, by rw [r.int], q _ F H (Gr.refl b) rfl⟩
  · exact q.elim
def lenO : O1 := fun x Q => match x with
  | .lst ds => Q (.int ds.length)
  | .tup ds => Q (.int ds.length)
  | .str x => x.length ≤ big ∧ Q (.int x.length)
  | _ => False
theorem lenO_mono : Mono1 lenO := fun x P Q h q => by
  unfold lenO at *
  split at q
  · exact h _ q
  · exact h _ q
  · exact ⟨q.1, h _ q.2⟩
  · exact q.elim
theorem len_s : CallS K (fun xs H Q => (∃ p ys, xs = [.ref p] ∧ (SqL K H p ys ∨ SqT K H p ys) ∧ Q (.int ys.length) H) ∨ (∃ z, xs = [.str z] ∧ z.length ≤ sizeLine ∧ Q (.int z.length) H)) (call1 lenO) := call1_s fun Z F H d v Q b r q => by
  unfold lenO at q
  split at q
  · obtain ⟨a, vs, rfl, e1, e2, _⟩ := r.lst b
    exact .inl ⟨a, vs, rfl, .inl (SqL.of e1), q _ F H (Gr.refl b) (by rw [e2.length]; rfl)⟩
  · obtain ⟨a, vs, rfl, e1, e2, _⟩ := r.tup b
    exact .inl ⟨a, vs, rfl, .inr e1, q _ F H (Gr.refl b) (by rw [e2.length]; rfl)⟩
  · exact .inr ⟨_, by rw [r.str], big_line q.1, q.2 _ F H (Gr.refl b) rfl⟩
  · exact q.elim
def toIntO : O1 := fun x Q => match x with
  | .int i => Q (.int i)
  | .bl b => Q (.int (if b then 1 else 0))
  | _ => False
theorem toIntO_mono : Mono1 toIntO := fun x P Q h q => by
  unfold toIntO at *
  split at q
  · exact h _ q
  · exact h _ q
  · exact q.elim
theorem toInt_s : CallS K (fun xs H Q => (∃ i, xs = [.int i] ∧ Q (.int i) H) ∨ ∃ k, xs = [.bl k] ∧ Q (.int (if k then 1 else 0)) H) (call1 toIntO) := call1_s fun Z F H d v Q b r q => by
  unfold toIntO at q
  split at q
  · exact .inl ⟨_, by rw [r.int], q _ F H (Gr.refl b) rfl⟩
  · exact .inr ⟨_, by rw [r.bl], q _ F H (Gr.refl b) rfl⟩
  · exact q.elim
def sumO : O1 := fun x Q => onInts x fun ns => Q (.int ns.sum)
theorem sumO_mono : Mono1 sumO := fun x P Q h q => onInts_imp q fun ns => h _
theorem sum_s : CallS K (rSum K) (call1 sumO) := call1_s fun Z F H d v Q b r q => by
  obtain ⟨a, ns, rfl, e1, _, q⟩ := onInts_at b r q
  exact ⟨a, ns, rfl, e1, q _ F H (Gr.refl b) rfl⟩
def maxI : List Int → Int
  | [] => 0
  | [n] => n
  | n :: m :: r => max n (maxI (m :: r))
def minI : List Int → Int
  | [] => 0
  | [n] => n
  | n :: m :: r => min n (minI (m :: r))
theorem maxI_mem : ∀ {ns : List Int}, ns ≠ [] → maxI ns ∈ ns ∧ ∀ y ∈ ns, y ≤ maxI ns
  | [], h => absurd rfl h
  | [n], _ => ⟨List.mem_cons_self, fun y hy => by rcases List.mem_cons.mp hy with e | e; exact Int.le_of_eq e; cases e⟩
  | n :: m :: r, _ => by
    obtain ⟨h1, h2⟩ := maxI_mem (ns := m :: r) (by simp)
    refine ⟨?_, fun y hy => ?_⟩
    · show max n (maxI (m :: r)) ∈ _
      rcases Int.le_total n (maxI (m :: r)) with z | z
      · rw [Int.max_eq_right z]; exact List.mem_cons_of_mem _ h1
      · rw [Int.max_eq_left z]; exact List.mem_cons_self
    · show y ≤ max n (maxI (m :: r))
      rcases List.mem_cons.mp hy with e | e
      · rw [e]; exact Int.le_max_left _ _
      · exact Int.le_trans (h2 y e) (Int.le_max_right _ _)
theorem minI_mem : ∀ {ns : List Int}, ns ≠ [] → minI ns ∈ ns ∧ ∀ y ∈ ns, minI ns ≤ y
  | [], h => absurd rfl h
  | [n], _ => ⟨List.mem_cons_self, fun y hy => by rcases List.mem_cons.mp hy with e | e; exact Int.le_of_eq e.symm; cases e⟩
  | n :: m :: r, _ => by
    obtain ⟨h1, h2⟩ := minI_mem (ns := m :: r) (by simp)
    refine ⟨?_, fun y hy => ?_⟩
    · show min n (minI (m :: r)) ∈ _
      rcases Int.le_total n (minI (m :: r)) with z | z
      · rw [Int.min_eq_left z]; exact List.mem_cons_self
      · rw [Int.min_eq_right z]; exact List.mem_cons_of_mem _ h1
    · show min n (minI (m :: r)) ≤ y
      rcases List.mem_cons.mp hy with e | e
      · rw [e]; exact Int.min_le_left _ _
      · exact Int.le_trans (Int.min_le_right _ _) (h2 y e)
def maxO : O1 := fun x Q => onInts x fun ns => ns ≠ [] ∧ Q (.int (maxI ns))
def minO : O1 := fun x Q => onInts x fun ns => ns ≠ [] ∧ Q (.int (minI ns))
theorem maxO_mono : Mono1 maxO := fun x P Q h q => onInts_imp q fun ns z => ⟨z.1, h _ z.2⟩
theorem minO_mono : Mono1 minO := fun x P Q h q => onInts_imp q fun ns z => ⟨z.1, h _ z.2⟩
theorem max_s : CallS K (rMax K) (call1 maxO) := call1_s fun Z F H d v Q b r q => by
  obtain ⟨a, ns, rfl, e1, _, hne, q⟩ := onInts_at b r q
  refine ⟨a, ns, rfl, e1, List.length_pos_iff.mpr hne, fun m h1 h2 => ?_⟩
  have e : m = maxI ns := Int.le_antisymm ((maxI_mem hne).2 m h1) (h2 _ (maxI_mem hne).1)
  rw [e]; exact q _ F H (Gr.refl b) rfl
theorem min_s : CallS K (rMin K) (call1 minO) := call1_s fun Z F H d v Q b r q => by
  obtain ⟨a, ns, rfl, e1, _, hne, q⟩ := onInts_at b r q
  refine ⟨a, ns, rfl, e1, List.length_pos_iff.mpr hne, fun m h1 h2 => ?_⟩
  have e : m = minI ns := Int.le_antisymm (h2 _ (minI_mem hne).1) ((minI_mem hne).2 m h1)
  rw [e]; exact q _ F H (Gr.refl b) rfl
def max2O : OC := fun ds Q => match ds with
  | [.int i, .int j] => Q (.int (if j > i then j else i))
  | _ => False
def min2O : OC := fun ds Q => match ds with
  | [.int i, .int j] => Q (.int (if j < i then j else i))
  | _ => False
theorem max2O_mono : MonoC max2O := fun ds P Q h q => by
  unfold max2O at *
  split at q
  · exact h _ q
  · exact q.elim
theorem min2O_mono : MonoC min2O := fun ds P Q h q => by
  unfold min2O at *
  split at q
  · exact h _ q
  · exact q.elim
theorem max2_s : CallS K (fun xs H Q => ∃ i j, xs = [.int i, .int j] ∧ Q (.int (if j > i then j else i)) H) max2O := fun Z F H ds vs Q b reps q => by
  unfold max2O at q
  split at q
  · obtain ⟨v, v2, rfl, r1, r2⟩ := reps.two
    exact ⟨_, _, by rw [r1.int, r2.int], q _ F H (Gr.refl b) rfl⟩
  · exact q.elim
theorem min2_s : CallS K (fun xs H Q => ∃ i j, xs = [.int i, .int j] ∧ Q (.int (if j < i then j else i)) H) min2O := fun Z F H ds vs Q b reps q => by
  unfold min2O at q
  split at q
  · obtain ⟨v, v2, rfl, r1, r2⟩ := reps.two
    exact ⟨_, _, by rw [r1.int, r2.int], q _ F H (Gr.refl b) rfl⟩
  · exact q.elim
/-- list(x), tuple(x) of a list or a tuple -/
def listF : OF := fun ds Q => match ds with
  | [.lst xs] => Q xs
  | [.tup xs] => Q xs
  | _ => False
theorem listF_mono : MonoF listF := fun ds P Q h q => by
  unfold listF at *
  split at q
  · exact h _ q
  · exact h _ q
  · exact q.elim
theorem list_s : CallF K (fun xs H Q => ∃ p ys, xs = [.ref p] ∧ (SqL K H p ys ∨ SqT K H p ys) ∧ ∀ l, H l = none → Q (.ref l) (upd H l (.lst ys))) listF := fun Z F H ds vs Q b reps q => by
  unfold listF at q
  split at q
  · obtain ⟨v, rfl, r⟩ := reps.one
    obtain ⟨a, us, rfl, e1, e2, _⟩ := r.lst b
    exact ⟨a, us, rfl, .inl (SqL.of e1), fun l hl => q l us hl e2⟩
  · obtain ⟨v, rfl, r⟩ := reps.one
    obtain ⟨a, us, rfl, e1, e2, _⟩ := r.tup b
    exact ⟨a, us, rfl, .inr e1, fun l hl => q l us hl e2⟩
  · exact q.elim
def tupleO : O1 := fun x Q => match x with
  | .lst xs => Q (.tup xs)
  | .tup xs => Q (.tup xs)
  | _ => False
theorem tupleO_mono : Mono1 tupleO := fun x P Q h q => by
  unfold tupleO at *
  split at q
  · exact h _ q
  · exact h _ q
  · exact q.elim
theorem tuple_s : CallS K (fun xs H Q => ∃ p ys, xs = [.ref p] ∧ ((SqL K H p ys ∧ ∀ l, H l = none → Q (.ref l) (upd H l (.tup ys))) ∨ (SqT K H p ys ∧ Q (.ref p) H))) (call1 tupleO) := call1_s fun Z F H d v Q b r q => by
  unfold tupleO at q
  split at q
  · obtain ⟨a, us, rfl, e1, e2, _⟩ := r.lst b
    exact ⟨a, us, rfl, .inl ⟨SqL.of e1, fun l hl => q _ _ _ (b.lay hl) ⟨l, us, rfl, .inl (.inl upd_same), Reps.ex (Ex.upd (b.fh.none hl)) _ _ e2⟩⟩⟩
  · obtain ⟨a, us, rfl, e1, e2, e3⟩ := r.tup b
    exact ⟨a, us, rfl, .inr ⟨e1, q _ F H (Gr.refl b) ⟨a, us, rfl, e3, e2⟩⟩⟩
  · exact q.elim
/-- sorted of ints -/
def ins (n : Int) : List Int → List Int
  | [] => [n]
  | m :: r => if n ≤ m then n :: m :: r else m :: ins n r
def isort : List Int → List Int
  | [] => []
  | n :: r => ins n (isort r)
theorem ins_perm (n : Int) : ∀ l : List Int, (ins n l).Perm (n :: l)
  | [] => List.Perm.refl _
  | m :: r => by
    unfold ins
    split
    · exact List.Perm.refl _
    · exact ((ins_perm n r).cons m).trans (List.Perm.swap n m r)
theorem isort_perm : ∀ l : List Int, (isort l).Perm l
  | [] => List.Perm.refl _
  | n :: r => (ins_perm n _).trans ((isort_perm r).cons n)
theorem ins_sorted (n : Int) : ∀ {l : List Int}, l.Pairwise (· ≤ ·) → (ins n l).Pairwise (· ≤ ·)
  | [], _ => by simp [ins]
  | m :: r, h => by
    obtain ⟨h1, h2⟩ := List.pairwise_cons.mp h
    unfold ins
    split
    · rename_i hle
      refine List.pairwise_cons.mpr ⟨fun a ha => ?_, h⟩
      rcases List.mem_cons.mp ha with e | e
      · rw [e]; exact hle
      · exact Int.le_trans hle (h1 a e)
    · rename_i hle
      refine List.pairwise_cons.mpr ⟨fun a ha => ?_, ins_sorted n h2⟩
      rcases List.mem_cons.mp ((ins_perm n r).mem_iff.mp ha) with e | e
      · rw [e]; omega
      · exact h1 a e
theorem isort_sorted : ∀ l : List Int, (isort l).Pairwise (· ≤ ·)
  | [] => List.Pairwise.nil
  | n :: r => ins_sorted n (isort_sorted r)
theorem sorted_one : ∀ {l m : List Int}, l.Perm m → l.Pairwise (· ≤ ·) → m.Pairwise (· ≤ ·) → l = m
  | [], m, p, _, _ => (List.nil_perm.mp p).symm
  | a :: l, [], p, _, _ => by have := p.length_eq; simp at this
  | a :: l, b :: m, p, h1, h2 => by
    obtain ⟨g1, g2⟩ := List.pairwise_cons.mp h1
    obtain ⟨k1, k2⟩ := List.pairwise_cons.mp h2
    have e : a = b := by
      have ha : a ∈ b :: m := p.mem_iff.mp List.mem_cons_self
      have hb : b ∈ a :: l := p.mem_iff.mpr List.mem_cons_self
      rcases List.mem_cons.mp ha with e | e
      · exact e
      · rcases List.mem_cons.mp hb with e' | e'
        · exact e'.symm
        · exact Int.le_antisymm (g1 b e') (k1 a e)
    subst e
    rw [sorted_one (List.Perm.cons_inv p) g2 k2]
def sortF : OF := fun ds Q => match ds with
  | [d] => onInts d fun ns => Q ((isort ns).map D.int)
  | _ => False
theorem sortF_mono : MonoF sortF := fun ds P Q h q => by
  unfold sortF at *
  split at q
  · exact onInts_imp q fun ns z => h _ z
  · exact q.elim
theorem sort_s : CallF K (L2.rSortedI K) sortF := fun Z F H ds vs Q b reps q => by
  unfold sortF at q
  split at q
  · obtain ⟨v, rfl, r⟩ := reps.one
    obtain ⟨a, ns, rfl, e1, _, q⟩ := onInts_at b r q
    refine ⟨a, ns, rfl, e1, fun ns' p h1 h2 hp => ?_⟩
    have e : ns' = isort ns := sorted_one (h1.trans (isort_perm ns).symm) h2 (isort_sorted ns)
    subst e
    exact q p _ hp Reps.of_ints
  · exact q.elim
/-- list(range(..)) -/
def lrgF (f : SA) : SA := fun ρ Q => f ρ fun ds => match ds with
  | [.int j] => (-(2 ^ 62) ≤ j ∧ j ≤ big) ∧ Q (rngD 0 j)
  | [.int i, .int j] => (-(2 ^ 62) ≤ i ∧ i < 2 ^ 62 ∧ -(2 ^ 62) ≤ j ∧ j < 2 ^ 62 ∧ (j - i).toNat ≤ big) ∧ Q (rngD i j)
  | _ => False

/-! ### isinstance -/
def isB : D → Ty → Bool
  | .bl _, .bool => true
  | .bl _, .int => true
  | .int _, .int => true
  | .str _, .str => true
  | .tup _, .tuple => true
  | .lst _, .list => true
  | _, _ => false
def isiO : OC := fun ds Q => match ds with
  | [x, .ty t] => (match x with
    | .row => False
    | .ty _ => False
    | x => Q (.bl (isB x t)))
  | [x, .tup [.ty t, .ty u]] => (match x with
    | .row => False
    | .ty _ => False
    | x => Q (.bl (isB x t || isB x u)))
  | _ => False
theorem isiO_mono : MonoC isiO := fun ds P Q h q => by
  unfold isiO at *
  split at q
  · split at q
    · exact q
    · exact q
    · exact h _ q
  · split at q
    · exact q
    · exact q
    · exact h _ q
  · exact q.elim
def tyN : D → String
  | .bl _ => "bool"
  | .int _ => "int"
  | .str _ => "str"
  | .tup _ => "tuple"
  | .lst _ => "list"
  | _ => "NoneType"
theorem tyx_of {Z : Zs} {F H : Hp} {d : D} {v : V} (b : Base K Z F H) (r : RepP K Z.rw F H d v) (h1 : d ≠ .row) (h2 : ∀ t, d ≠ .ty t) : TyX K H v (.type (tyN d)) := by
  cases d with
  | non => rw [r.non]; exact .base .non
  | bl c => rw [r.bl]; exact .base (.bl c)
  | int i => rw [r.int]; exact .base (.int i)
  | str x => rw [r.str]; exact .base (.str x)
  | lst ds =>
    obtain ⟨a, vs, rfl, e1, _⟩ := r.lst b
    exact .base (.lst e1)
  | tup ds =>
    obtain ⟨a, vs, rfl, e1, _⟩ := r.tup b
    rcases e1 with (e1 | ⟨o, e1⟩) | ⟨o, its, n, e1, e2, _⟩
    · exact .base (.tup e1)
    · exact .fTuple e1
    · exact .kTuple e1 e2
  | row => exact absurd rfl h1
  | ty t => exact absurd rfl (h2 t)
theorem kit_is (d : D) (t : Ty) : PySem.W.kitOne K (.type (tyN d)) (.type t.name) = some (isB d t) := by
  cases d <;> cases t <;> exact kit_ty (by kernel_rfl)
def rIsiA (K : Kf) : List V → Hp → VK → Prop := fun xs H Q => rIsi K xs H Q ∨ ∃ (x : V) (tp : Addr) (cs : List V) (t : Value) (us : List Value) (b : Bool), xs = [x, .ref tp] ∧ SqT K H tp cs ∧ Paired ClsV cs us ∧ TyX K H x t ∧ PySem.W.kitAny K t us = some b ∧ Q (.bl b) H
theorem call_isiA {X : Cx} : CallR X (.builtin "isinstance") (rIsiA X.K) := by
  intro pins s σ H xs us Q I r h
  rcases h with h | h
  · exact call_isi pins s σ H xs us Q I r h
  · obtain ⟨x, tp, cs, t, ws, b, rfl, hT, k, ty, e, q⟩ := h
    obtain ⟨u1, u2, rfl, r1, r2⟩ := vals2 r
    cases (show u2 = Value.ref tp from r2)
    obtain ⟨P, Z, p, hx⟩ := kit_of I r1 ty
    obtain ⟨its, rv, ⟨o, h1, h2, n, h3⟩, _⟩ := I.tuple hT
    have e3 := ClsV.all k rv
    subst e3
    obtain ⟨oc, od, dt, sl⟩ := o
    simp only at h2 h3
    subst h2 h3
    exact PySem.W.kia_tup Z I.kIn p h1 e hx fun tk => ⟨.bl b, H, I.tok tk, rfl, q⟩
theorem RepP.ty {rw : Option Addr} {F H : Hp} {t : Ty} {v : V} (h : RepP K rw F H (.ty t) v) : v = .ty t.name := by
  rcases h with h | ⟨ds, a, vs, e1, _⟩
  · exact h
  · cases e1
theorem isi_s : CallS K (rIsiA K) isiO := fun Z F H ds vs Q b reps q => by
  unfold isiO at q
  split at q
  · rename_i x t
    obtain ⟨v, v2, rfl, r1, r2⟩ := reps.two
    split at q
    · exact q.elim
    · exact q.elim
    · rename_i h1 h2
      exact .inl ⟨v, _, _, _, _, by rw [r2.ty], .ty _, tyx_of b r1 h1 h2, kit_is x t, q _ F H (Gr.refl b) rfl⟩
  · rename_i x t u
    obtain ⟨v, v2, rfl, r1, r2⟩ := reps.two
    split at q
    · exact q.elim
    · exact q.elim
    · rename_i h1 h2
      obtain ⟨a, us, rfl, e1, e2, _⟩ := r2.tup b
      obtain ⟨w1, s1, rfl, g1, w2, s2, rfl, g2, g3⟩ := (show ∃ w1 s1, us = w1 :: s1 ∧ Rep K Z.rw F (.ty t) w1 ∧ ∃ w2 s2, s1 = w2 :: s2 ∧ Rep K Z.rw F (.ty u) w2 ∧ s2 = [] from e2)
      subst g3
      cases (show w1 = .ty t.name from g1)
      cases (show w2 = .ty u.name from g2)
      refine .inr ⟨v, a, _, _, [.type t.name, .type u.name], isB x t || isB x u, rfl, e1, .cons (.ty _) (.cons (.ty _) .nil), tyx_of b r1 h1 h2, ?_, q _ F H (Gr.refl b) rfl⟩
      refine kitAny_cons (kit_is x t) (fun z => ?_) (fun z => by rw [z]; rfl)
      rw [z, Bool.false_or]
      exact kitAny_cons (kit_is x u) (fun z => by rw [z]; rfl) (fun z => z)
  · exact q.elim
end
section
variable {X : Cx}
theorem E.tyv {x : Str} {t : Ty} {pos : Pos} (hg : Gl X x) (hm : X.mg x = none) (hv : bootBuiltins x = some (.type t.name)) (hn : x ≠ "__name__" := by decide) (hd : (x == ("__debug__" : Str)) = false := by decide) : E X (.Name x pos) (cE (.ty t)) :=
  E.cst (v := .ty t.name) (fun _ _ _ => rfl) (pe_bltn hg hm hv rfl hn hd)
end

/-! ### a def of the text -/
section
variable {P : Program} {w : World} {K : Kf} {mg : Str → Option Value} {base : Heap}
def startE (N : List Str) (ds : List D) : REnv := ds.map (fun d => some (Slot.sh d)) ++ List.replicate (N.length - ds.length) none
theorem R.start {rw : Option Addr} {F H : Hp} {N : List Str} {ds : List D} {vs : List V} (b : Base K ⟨rw, H, F⟩ F H) (h : Reps K rw F ds vs) : R K ⟨rw, H, F⟩ F (startE N ds) (L2.start N vs) H := by
  have hl := h.length
  have key : ∀ (i : Nat) (s : Slot), (startE N ds)[i]? = some (some s) → ∃ d v, s = .sh d ∧ (L2.start N vs)[i]? = some (some v) ∧ Rep K rw F d v := fun i s e => by
    unfold startE at e
    unfold L2.start
    by_cases hi : i < ds.length
    · rw [List.getElem?_append_left (by simpa using hi), List.getElem?_map, List.getElem?_eq_getElem hi] at e
      cases e
      obtain ⟨v, e1, e2⟩ := h.get (List.getElem?_eq_getElem hi)
      refine ⟨_, v, rfl, ?_, e2⟩
      rw [List.getElem?_append_left (by simpa [hl] using hi), List.getElem?_map, e1]; rfl
    · rw [List.getElem?_append_right (by simpa using hi), List.getElem?_replicate] at e
      split at e <;> cases e
  refine ⟨b, ?_, fun i s e => ?_, fun i j ds' es a e1 e2 e3 e4 => ?_⟩
  · unfold startE L2.start
    rw [List.length_append, List.length_append, List.length_map, List.length_map, List.length_replicate, List.length_replicate, hl]
  · obtain ⟨d, v, rfl, e1, e2⟩ := key i s e
    exact ⟨v, e1, e2⟩
  · obtain ⟨d, v, e, _⟩ := key i _ e1
    cases e
abbrev endK (Q : D → Prop) : Kt := { nx := fun _ => Q .non, rt := Q, bk := fun _ => False, ct := fun _ => False }
/-- the context of a def's body -/
abbrev bodyX (P : Program) (w : World) (K : Kf) (mg : Str → Option Value) (base : Heap) (N : List Str) (qual : Str) (scope : Scope) (f : Addr) (cdv : Value) (A : Around) (outer : List Env) (s : Shared) (H : Hp) (E : XK) : Cx := (cxOf CX0 P w K mg base N qual scope f cdv A outer s H E).nox
theorem fn_ok {x qual : Str} {params : Arguments} {body : List Stmt} {scope : Scope} {f : Addr} {fd : FuncData} {N ps : List Str} {k n : Nat} {G : OC} (Fn : FunD K x qual params body scope [] [] f fd) (Sc : FnScope N ps scope) (hn : ps.length = n) {sem : SS}
    (hb : ∀ (cdv : Value) (A : Around) (outer : List Env) (s : Shared) (H : Hp) (E : XK), Room k (A.deeper (envOfC qual scope s.heap.objs.size f cdv)) → Ss (bodyX P w K mg base N qual scope f cdv A outer s H E) body sem)
    (hG : ∀ ds Q, ds.length = n → G ds Q → sem (startE N ds) (endK Q)) : FnOk P w K mg base CX0 (k + 1) f fd ps (spOf K n G) := by
  refine Fn.ok Sc (fun vs H Q E h => h.1.trans hn.symm) (fun cdv A outer s H vs Q E hr h => ?_)
  obtain ⟨hl, rw, F, ds, b, reps, q⟩ := h
  have hS := hb cdv A outer s H E hr
  refine ⟨_, hS.run.nox, ⟨rw, H, F⟩, F, startE N ds, R.start b reps, ?_⟩
  have q2 := hG ds _ (reps.length.symm.trans hl) q
  exact hS.mono _ (endK _) _ ⟨fun ρ h σ' F' H' e r => h .non F' H' r.base rfl, fun d h v F' H' e b rep => h v F' H' b rep, fun _ h => h.elim, fun _ h => h.elim⟩ q2
end

/-! ### the head's facts, with tuples of the module -/
section
open He
def obsZ (fa : List Fa) (fn : List DefD) (tb : List (Str × List Dv)) (K : PySem.W.Frag) : AlD := (((fa.all fun f => f.ok K) && fn.all fun d => d.ok K) && tb.all fun t => tupB K t.1 t.2, fn.map fun d => fnW K d.at_)
def SaysZ (fa : List Fa) (fn : List DefD) (tb : List (Str × List Dv)) (K : PySem.W.Frag) : Prop := obsZ fa fn tb K = valD fn
def obsZG (n : Nat) (fa : List Fa) (fn : List DefD) (tb : List (Str × List Dv)) (g : Addr → Option Obj) : AlD := obsZ fa fn tb (frG g (asD g n))
def hookZ (n : Nat) (fa : List Fa) (fn : List DefD) (tb : List (Str × List Dv)) : PySem.W.Hook where
  α := AlD
  obs := fun s => obsZG n fa fn tb s.heap.get?
  val := fun _ => valD fn
  says := fun _ h => ∃ K : PySem.W.Frag, K.In h ∧ SaysZ fa fn tb K
  of := fun _ _ e => ⟨_, frG_in, e⟩
  keeps := fun _ _ _ ⟨K, hK, c⟩ k => ⟨K, PySem.W.Frag.In.keeps hK k, c⟩
theorem obsZG_eq {n : Nat} {fa : List Fa} {fn : List DefD} {tb : List (Str × List Dv)} {g : Addr → Option Obj} {s : Shared} (h : ∀ a, g a = s.heap.get? a) : obsZG n fa fn tb g = (hookZ n fa fn tb).obs s := by
  have e : g = s.heap.get? := funext h
  rw [e] <;> rfl
section
variable {fa : List Fa} {fn : List DefD} {tb : List (Str × List Dv)} {K : PySem.W.Frag}
theorem SaysZ.all (c : SaysZ fa fn tb K) : ((fa.all fun f => f.ok K) = true ∧ (fn.all fun d => d.ok K) = true) ∧ (tb.all fun t => tupB K t.1 t.2) = true := by
  have c1 := ba (show (((fa.all fun f => f.ok K) && fn.all fun d => d.ok K) && tb.all fun t => tupB K t.1 t.2) = true from congrArg (fun z : AlD => z.1) c)
  exact ⟨ba c1.1, c1.2⟩
theorem SaysZ.fact (c : SaysZ fa fn tb K) (i : Nat) {f : Fa} (h : fa[i]? = some f := by rfl) : f.ok K = true := List.all_eq_true.mp c.all.1.1 f (List.mem_of_getElem? h)
theorem SaysZ.tup (c : SaysZ fa fn tb K) (i : Nat) {t : Str × List Dv} (h : tb[i]? = some t := by rfl) (H : Hp) : SqT K H (ga K t.1) (t.2.map (Dv.v K)) := tupB_ok (List.all_eq_true.mp c.all.2 t (List.mem_of_getElem? h)) H
theorem SaysZ.def_ (c : SaysZ fa fn tb K) (i : Nat) {d : DefD} (h : fn[i]? = some d := by rfl) : ∃ fd, FunD K d.name d.qual d.params d.body d.scope (d.dvs K) (d.kws K) (fAd K d.at_) fd := by
  have e : fn.map (fun d => fnW K d.at_) = fn.map DefD.val := congrArg (fun z : AlD => z.2) c
  have e2 : (fn.map fun d => fnW K d.at_)[i]? = (fn.map DefD.val)[i]? := by rw [e]
  rw [List.getElem?_map, List.getElem?_map, h] at e2
  exact DefD.funD (Option.some.inj e2) (List.all_eq_true.mp c.all.1.2 d (List.mem_of_getElem? h))
end
end

/-! ### the law's def: the row of draws is laid, then the rest -/
section
variable {P : Program} {w : World} {K : Kf} {mg : Str → Option Value} {base : Heap}
def spLaw (K : Kf) : Sp := fun vs H Q _ => ∃ (a : Addr) (ns : List Int), vs = [.ref a] ∧ SqL K H a (ns.map V.int) ∧ Only H ∧ ∀ v H', v = V.bl true → Q v H'
def lawE (N : List Str) : REnv := none :: some (.sh .row) :: List.replicate (N.length - 2) none
theorem law_ok {x qual : Str} {params : Arguments} {first : Stmt} {rest : List Stmt} {scope : Scope} {f : Addr} {fd : FuncData} {N ps : List Str} {k : Nat} {seed : Int} (Fn : FunD K x qual params (first :: rest) scope [] [] f fd) (Sc : FnScope N ps scope) (hn : ps.length = 1) (h2 : 2 ≤ N.length) {sem : SS}
    (h1 : ∀ (cdv : Value) (A : Around) (outer : List Env) (s : Shared) (H : Hp) (E : XK), Room k (A.deeper (envOfC qual scope s.heap.objs.size f cdv)) → PS (bodyX P w K mg base N qual scope f cdv A outer s H E) first (tAsg (tLst (tCons (tVar 0) (tCons (tC (.int 0)) (tCons (tC (.int seed)) (tCons (tC (.int 0)) tNil))))) (gName 1)))
    (hb : ∀ (cdv : Value) (A : Around) (outer : List Env) (s : Shared) (H : Hp) (E : XK), Room k (A.deeper (envOfC qual scope s.heap.objs.size f cdv)) → Ss (bodyX P w K mg base N qual scope f cdv A outer s H E) rest sem)
    (hG : sem (lawE N) { nx := fun _ => False, rt := fun d => d = .bl true, bk := fun _ => False, ct := fun _ => False }) : FnOk P w K mg base CX0 (k + 1) f fd ps (spLaw K) := by
  refine Fn.ok Sc (fun vs H Q E h => ?_) (fun cdv A outer s H vs Q E hr h => ?_)
  · obtain ⟨a, ns, rfl, _⟩ := h
    exact hn.symm
  obtain ⟨a, ns, rfl, hS, hO, q⟩ := h
  have hp := h1 cdv A outer s H E hr
  have hs := hb cdv A outer s H E hr
  refine ⟨_, (pss_cons hp hs.run).nox, ?_⟩
  obtain ⟨m, hm⟩ : ∃ m, N.length = m + 2 := ⟨N.length - 2, by omega⟩
  have est : L2.start N [V.ref a] = some (.ref a) :: none :: List.replicate m none := by
    unfold L2.start
    rw [hm]
    rfl
  rw [est]
  refine ⟨.ref a, rfl, (by show 4 ≤ sizeLine; decide), fun p hp => ?_⟩
  have nF : ∀ b : Addr, (fun _ => none : Hp) b = none := fun _ => rfl
  have sc : ScOk K (upd H p (.lst [.ref a, .int 0, .int seed, .int 0])) a ns := by
    rcases hS with (h | ⟨o, h⟩) | h
    · rcases hO a with z | ⟨o, xs, z⟩
      · rw [h] at z; cases z
      · rw [h] at z; cases z
    · exact .inl ⟨o, by rw [upd_ne (ne_of_none h hp)]; exact h⟩
    · exact .inr (.inr h)
  refine ⟨⟨some p, upd H p (.lst [.ref a, .int 0, .int seed, .int 0]), fun _ => none⟩, fun _ => none, lawE N, ⟨⟨fun x o e => (by cases e), Ex.refl _, ExR.refl _ _, fun x e => absurd rfl e, fun x e => ?_, fun _ _ => rfl⟩, ?_, fun i s e => ?_, fun i j ds es x e1 => ?_⟩, ?_⟩
  · cases e
    exact ⟨a, ns, 0, seed, 0, upd_same, sc, Int.le_refl 0⟩
  · unfold lawE
    rw [hm]
    simp
  · unfold lawE at e
    match i, e with
    | 0, e => cases e
    | 1, e => cases e; exact ⟨.ref p, rfl, p, rfl, rfl⟩
    | i + 2, e =>
      have e' : (List.replicate (N.length - 2) (none : Option Slot))[i]? = some (some s) := e
      rw [List.getElem?_replicate] at e'
      split at e' <;> cases e'
  · unfold lawE at e1
    match i, e1 with
    | 0, e => cases e
    | 1, e => cases e
    | i + 2, e =>
      have e' : (List.replicate (N.length - 2) (none : Option Slot))[i]? = some (some (.own ds)) := e
      rw [List.getElem?_replicate] at e'
      split at e' <;> cases e'
  · exact hs.mono _ { nx := fun _ => False, rt := fun d => d = .bl true, bk := fun _ => False, ct := fun _ => False } _ ⟨fun ρ h => h.elim, fun d h v F' H' e b rep => q v H' (by subst h; exact rep), fun ρ h => h.elim, fun ρ h => h.elim⟩ hG
/-- a draw: any number from 0 on, below so many -/
def takenO : OC := fun ds Q => match ds with
  | [.row, .int m] => (0 < m ∧ small m) ∧ ∀ v : Int, 0 ≤ v → v < m → Q (.int v)
  | _ => False
theorem takenO_mono : MonoC takenO := fun ds P Q h q => by
  unfold takenO at *
  split at q
  · exact ⟨q.1, fun v h1 h2 => h _ (q.2 v h1 h2)⟩
  · exact q.elim
theorem base_row {rw : Option Addr} {F H H1 : Hp} {a sc : Addr} {ns : List Int} {p m r p' m' r' : Int} (b : Base K ⟨rw, H, F⟩ F H1) (e : rw = some a) (h : H1 a = some (.lst [.ref sc, .int p, .int m, .int r])) (hs : ScOk K H1 sc ns) (hp : 0 ≤ p') :
    Base K ⟨rw, H, F⟩ F (upd H1 a (.lst [.ref sc, .int p', .int m', .int r'])) ∧ ScOk K (upd H1 a (.lst [.ref sc, .int p', .int m', .int r'])) sc ns := by
  have s2 : ScOk K (upd H1 a (.lst [.ref sc, .int p', .int m', .int r'])) sc ns := hs.keep fun o q => by rw [upd_ne (fun z : sc = a => by rw [z, h] at q; cases q)]; exact q
  have fa : F a = none := b.frow a e
  refine ⟨⟨fun x u ex => ?_, Ex.refl _, fun x u n ex => ?_, fun x h => .inl h, fun x ex => ?_, b.frow⟩, s2⟩
  · rw [upd_ne (fun z : x = a => by rw [z, fa] at ex; cases ex)]; exact b.fh x u ex
  · rw [upd_ne (fun z : x = a => n (by rw [z]; exact e))]; exact b.hh x u n ex
  · have : x = a := by
      have ex' : rw = some x := ex
      rw [e] at ex'; cases ex'; rfl
    subst this
    exact ⟨sc, ns, p', m', r', upd_same, s2, hp⟩
end
/-! ### short words -/
section
variable {X : Cx} {a b c : Expr} {f g k : SE} {pos : Pos} {n : Nat}
abbrev R0 (X : Cx) : Prop := X.A.units + 64 < cLine
theorem E.add (ha : P X a f) (hb : P X b g) : E X (.BinOp a .Add b pos) (sOp addO f g) := E.op (OpR.or op_add (OpR.or op_catA op_cat)) addO_s addO_mono ha hb
theorem E.sub (ha : P X a f) (hb : P X b g) : E X (.BinOp a .Sub b pos) (sOp subO f g) := E.op op_sub (int0_s fun _ _ _ _ => rfl) int0_mono ha hb
theorem E.mul (ha : P X a f) (hb : P X b g) : E X (.BinOp a .Mult b pos) (sOp mulO f g) := E.op op_mulS (intO_s fun _ _ _ _ => rfl) intO_mono ha hb
theorem E.fdiv (ha : P X a f) (hb : P X b g) : E X (.BinOp a .FloorDiv b pos) (sOp fdivO f g) := E.op op_fdivS (intO_s fun _ _ _ _ => rfl) intO_mono ha hb
theorem E.mod (ha : P X a f) (hb : P X b g) : E X (.BinOp a .Mod b pos) (sOp modO f g) := E.op op_modN (intO_s fun _ _ _ _ => rfl) intO_mono ha hb
theorem E.pow (ha : P X a f) (hb : P X b g) : E X (.BinOp a .Pow b pos) (sOp powO f g) := E.op op_pow (intO_s fun _ _ _ _ => rfl) intO_mono ha hb
theorem E.neg (ha : P X a f) : E X (.UnaryOp .USub a pos) (sUn negO f) := E.un un_neg negO_s negO_mono ha
theorem F.cat (ha : P X a f) (hb : P X b g) : F X (.BinOp a .Add b pos) (opF catF f g) := F.op op_cat catF_s catF_mono ha hb
theorem F.rep (ha : P X a f) (hb : P X b g) : F X (.BinOp a .Mult b pos) (opF repF f g) := F.op op_rep repF_s repF_mono ha hb
theorem E.lt (ha : P X a f) (hb : P X b g) : E X (.Compare a [.Lt] [b] pos) (sOp ltO f g) := E.cmp op_lt (int0_s fun _ _ _ _ => rfl) int0_mono (nomark _) ha hb
theorem E.le (ha : P X a f) (hb : P X b g) : E X (.Compare a [.LtE] [b] pos) (sOp leO f g) := E.cmp op_le (int0_s fun _ _ _ _ => rfl) int0_mono (nomark _) ha hb
theorem E.gt (ha : P X a f) (hb : P X b g) : E X (.Compare a [.Gt] [b] pos) (sOp gtO f g) := E.cmp op_gt (int0_s fun _ _ _ _ => rfl) int0_mono (nomark _) ha hb
theorem E.ge (ha : P X a f) (hb : P X b g) : E X (.Compare a [.GtE] [b] pos) (sOp geO f g) := E.cmp op_ge (int0_s fun _ _ _ _ => rfl) int0_mono (nomark _) ha hb
theorem E.eq (hu : R0 X) (ha : P X a f) (hb : P X b g) : E X (.Compare a [.Eq] [b] pos) (sOp eqO f g) := E.cmp (op_eqD hu) eqO_s eqO_mono (nomark _) ha hb
theorem E.ne (hu : R0 X) (ha : P X a f) (hb : P X b g) : E X (.Compare a [.NotEq] [b] pos) (sOp neO f g) := E.cmp (op_neD hu) neO_s neO_mono (nomark _) ha hb
theorem B.ch {op op' : CmpOp} {r r' : R2} {o o' : O2} (ho : OpR X (compareOp op) r) (ho' : OpR X (compareOp op') r') (hs : OpS X.K r o) (hs' : OpS X.K r' o') (mo : Mono2 o) (mo' : Mono2 o') (ha : P X a f) (hb : P X b g) (hc : P X c k)
    (hm : lastMarks [op, op'] [b, c] = false := by with_unfolding_all rfl) : B X (.Compare a [op, op'] [b, c] pos) (chT o o' f g k) :=
  ⟨chT_mono mo mo' ha.mono hb.mono hc.mono, PE.weak (pe_chain ho ho' ha.run hb.run hc.run hm) (ch_tp hs hs' mo mo' ha.mono hb.mono hc.mono)⟩
theorem T.ch {op op' : CmpOp} {r r' : R2} {o o' : O2} (ho : OpR X (compareOp op) r) (ho' : OpR X (compareOp op') r') (hs : OpS X.K r o) (hs' : OpS X.K r' o') (mo : Mono2 o) (mo' : Mono2 o') (ha : P X a f) (hb : P X b g) (hc : P X c k)
    (hm : lastMarks [op, op'] [b, c] = false := by with_unfolding_all rfl) : T X (.Compare a [op, op'] [b, c] pos) (chT o o' f g k) :=
  T.chain hs hs' mo mo' ha hb hc (pt_chain ho ho' ha.run hb.run hc.run hm)
theorem lt_s {K : Kf} : OpS K (rI0 fun i j => .bl (decide (i < j))) ltO := int0_s fun _ _ _ _ => rfl
theorem le_s {K : Kf} : OpS K (rI0 fun i j => .bl (decide (i ≤ j))) leO := int0_s fun _ _ _ _ => rfl
theorem gt_s {K : Kf} : OpS K (rI0 fun i j => .bl (decide (j < i))) gtO := int0_s fun _ _ _ _ => rfl
theorem ge_s {K : Kf} : OpS K (rI0 fun i j => .bl (decide (j ≤ i))) geO := int0_s fun _ _ _ _ => rfl
theorem E.is (ha : P X a f) (hb : P X b g) : E X (.Compare a [.Is] [b] pos) (sOp isO f g) := E.cmp op_isN isO_s isO_mono (nomark _) ha hb
theorem E.isn (ha : P X a f) (hb : P X b g) : E X (.Compare a [.IsNot] [b] pos) (sOp isnO f g) := E.cmp op_notN isnO_s isnO_mono (nomark _) ha hb
theorem T.lt (ha : P X a f) (hb : P X b g) : T X (.Compare a [.Lt] [b] pos) (tV (sOp ltO f g)) := T.cmp op_lt (int0_s fun _ _ _ _ => rfl) int0_mono (nomark _) ha hb
theorem T.le (ha : P X a f) (hb : P X b g) : T X (.Compare a [.LtE] [b] pos) (tV (sOp leO f g)) := T.cmp op_le (int0_s fun _ _ _ _ => rfl) int0_mono (nomark _) ha hb
theorem T.gt (ha : P X a f) (hb : P X b g) : T X (.Compare a [.Gt] [b] pos) (tV (sOp gtO f g)) := T.cmp op_gt (int0_s fun _ _ _ _ => rfl) int0_mono (nomark _) ha hb
theorem T.ge (ha : P X a f) (hb : P X b g) : T X (.Compare a [.GtE] [b] pos) (tV (sOp geO f g)) := T.cmp op_ge (int0_s fun _ _ _ _ => rfl) int0_mono (nomark _) ha hb
theorem T.eq (hu : R0 X) (ha : P X a f) (hb : P X b g) : T X (.Compare a [.Eq] [b] pos) (tV (sOp eqO f g)) := T.cmp (op_eqD hu) eqO_s eqO_mono (nomark _) ha hb
theorem T.ne (hu : R0 X) (ha : P X a f) (hb : P X b g) : T X (.Compare a [.NotEq] [b] pos) (tV (sOp neO f g)) := T.cmp (op_neD hu) neO_s neO_mono (nomark _) ha hb
theorem T.is (ha : P X a f) (hb : P X b g) : T X (.Compare a [.Is] [b] pos) (tV (sOp isO f g)) := T.cmp op_isN isO_s isO_mono (nomark _) ha hb
theorem T.isn (ha : P X a f) (hb : P X b g) : T X (.Compare a [.IsNot] [b] pos) (tV (sOp isnO f g)) := T.cmp op_notN isnO_s isnO_mono (nomark _) ha hb

variable {st : Stmt} {s : SS} {e : Expr} {es : List Expr} {fa : SA} {i : Nat}
theorem S.setN (h : E X e f) (hp : PE X e (TEof X.K f) → PS X st (tAsg (TEof X.K f) (gName i))) : S X st (setS i f) := S.set h (hp h.run)
theorem S.setON (h : F X e fa) (hp : PE X e (TFof X.K fa) → PS X st (tAsg (TFof X.K fa) (gName i))) : S X st (Z0.setO i fa) := S.setO h (hp h.run)
theorem S.asgN {tg : Expr} {is : List Nat} {gg : SG} (h : E X e f) (hg : G X tg is gg) (hp : PE X e (TEof X.K f) → PG X tg (TGof X.K is gg) → PS X st (tAsg (TEof X.K f) (TGof X.K is gg))) : S X st (asgS f gg) := S.asg h hg (hp h.run hg.run)
theorem S.parN {j : Nat} (h : A X es fa) (hp : PA X es (TAof X.K fa) → PS X st (tPar i j (TAof X.K fa))) : S X st (parS i j fa) := S.par h (hp h.run)
theorem S.par3N {j l : Nat} (h : A X es fa) (hp : PA X es (TAof X.K fa) → PS X st (tPar3 i j l (TAof X.K fa))) : S X st (par3S i j l fa) := S.par3 h (hp h.run)
theorem S.augN {o : O2} {r : R2} (hs : OpS X.K r o) (mo : Mono2 o) (h : P X e f) (hp : PE X e (TPof X.K f) → PS X st (tAug i (TPof X.K f) r)) : S X st (augS i o f) := S.aug hs mo h (hp h.run)
theorem S.appN (h : E X e f) (hp : PE X e (TEof X.K f) → PS X st (tDrop (tBM X.K "list" rAppend (tVar i) (tCons (TEof X.K f) tNil)))) : S X st (appS i f) := S.app h (hp h.run)
theorem S.putN (h : E X a f) (h2 : P X b g) (hp : PE X a (TEof X.K f) → PE X b (TPof X.K g) → PS X st (tAsg (TEof X.K f) (gSub (tVar i) (TPof X.K g) rSetL))) : S X st (putS i f g) := S.put h h2 (hp h.run h2.run)
theorem S.whN {tt : ST} {xs : List Stmt} (ht : T X c tt) (hs : Ss X xs s) (hp : PT X c (TTof X.K tt) → PSs X xs (TSof X.K s) → PS X st (tWhile (TTof X.K tt) (TSof X.K s))) : S X st (whS tt s) := S.wh ht hs (hp ht.run hs.run)
theorem S.forN {tg iter : Expr} {it : SA} {is : List Nat} {gg : SG} {xs : List Stmt} (hi : I X tg iter it) (hg : G X tg is gg) (hs : Ss X xs s) (hp : PI X tg iter (TIof X.K it) → PG X tg (TGof X.K is gg) → PSs X xs (TSof X.K s) → PS X st (tFor (TIof X.K it) (TGof X.K is gg) (TSof X.K s))) : S X st (forS it gg s) := S.for hi hg hs (hp hi.run hg.run hs.run)
theorem E.callBN {r : List V → Hp → VK → Prop} {o : OC} (hs : CallS X.K r o) (mo : MonoC o) (ha : Ap X es fa) (h : PA X es (TQof X.K fa) → PE X e (tCB r (TQof X.K fa))) : E X e (callE o fa) := E.callB hs mo ha (h ha.run)
theorem F.callBN {r : List V → Hp → VK → Prop} {o : OF} (hs : CallF X.K r o) (mo : MonoF o) (ha : Ap X es fa) (h : PA X es (TQof X.K fa) → PE X e (tCB r (TQof X.K fa))) : F X e (callF o fa) := F.callB hs mo ha (h ha.run)
theorem I.r1 {tg : Expr} (ha : Ap X es fa) (h : PA X es (TQof X.K fa) → PI X tg e (iRng1 (TQof X.K fa))) : I X tg e (rng1A fa) := I.rng1 ha (h ha.run)
theorem I.r2 {tg : Expr} (ha : Ap X es fa) (h : PA X es (TQof X.K fa) → PI X tg e (iRng2 (TQof X.K fa))) : I X tg e (rng2A fa) := I.rng2 ha (h ha.run)
theorem Ig.z {tg : Expr} (ha : Ap X es fa) (h : PA X es (TQof X.K fa) → PI X tg e (RZ.iZipA X.K (TQof X.K fa))) : Ig X tg e (zipA fa) := Ig.zip ha (h ha.run)
theorem Gs.cn {tg : Expr} {ts : List Expr} {is js : List Nat} {gg : SG} {gs : SGs} (h1 : G X tg is gg) (h2 : Gs X ts js gs) (h : PG X tg (TGof X.K is gg) → PGs X ts (TGsof X.K js gs) → PGs X (tg :: ts) (gCons (TGof X.K is gg) (TGsof X.K js gs))) : Gs X (tg :: ts) (is ++ js) (gConsS gg gs) := Gs.cons h1 h2 (h h1.run h2.run)
theorem G.t {tg : Expr} {is : List Nat} {gs : SGs} {m : Nat} {ts : List Expr} (hn : ∀ ds ρ Q, gs ds ρ Q → ds.length = m) (h2 : Gs X ts is gs) (h : PGs X ts (TGsof X.K is gs) → PG X tg (gTup X.K m (TGsof X.K is gs))) : G X tg is (gTupS gs) := G.tup hn h2 (h h2.run)
theorem gn_nil : ∀ (ds : List D) (ρ : REnv) (Q : REnv → Prop), gNilS ds ρ Q → ds.length = 0 := fun ds ρ Q h => by
  cases ds with
  | nil => rfl
  | cons _ _ => exact h.elim
theorem gn_var {i : Nat} {gs : SGs} {m : Nat} (h : ∀ ds ρ Q, gs ds ρ Q → ds.length = m) : ∀ (ds : List D) (ρ : REnv) (Q : REnv → Prop), gConsS (gVar i) gs ds ρ Q → ds.length = m + 1 := fun ds ρ Q q => by
  cases ds with
  | nil => exact q.elim
  | cons d ds => rw [List.length_cons, h ds _ _ q]
theorem E.gint {x : Str} {z : Int} (hg : Gl X x) (hm : ∃ t, X.mg x = some (.int z t)) (hdb : (x == ("__debug__" : Str)) = false := by decide) : E X (.Name x pos) (cE (.int z)) := by
  obtain ⟨t, hm⟩ := hm
  exact E.glob (v := .int z) (fun _ _ => rfl) hg hm ⟨t, rfl⟩ hdb
theorem E.gtup {x : Str} {ad : Addr} {vs : List V} {ds : List D} (hg : Gl X x) (hm : X.mg x = some (.ref ad)) (h : ∀ H, SqT X.K H ad vs) (hr : ∀ rw F, Reps X.K rw F ds vs) (hdb : (x == ("__debug__" : Str)) = false := by decide) : E X (.Name x pos) (cE (.tup ds)) :=
  E.glob (v := .ref ad) (fun rw F => ⟨ad, vs, rfl, h F, hr rw F⟩) hg hm rfl hdb
theorem isT_not {a : Expr} : True := trivial
abbrev addI : O2 := int0 fun i j => .int (i + j)
theorem addI_s {K : Kf} : OpS K (rI0 fun i j => .int (i + j)) addI := int0_s fun _ _ _ _ => rfl
theorem addI_mono : Mono2 addI := int0_mono
theorem ip_addI : PIp X .Add (rI0 fun i j => .int (i + j)) := iop_add
theorem iop_mulS : PIp X .Mult (rI mulOk fun i j => .int (i * j)) := (opI fun _ _ _ _ _ _ _ hc q => imul_int q (mulOk_ok hc) : OpR X (inplaceOp .Mult) _)
theorem S.nev : S X st noS := S.no ps_never (fun _ _ _ h => h)
theorem bt_len : bootBuiltins "len" = some (.builtin "len") := by decide +kernel
theorem bt_abs : bootBuiltins "abs" = some (.builtin "abs") := by decide +kernel
theorem bt_sum : bootBuiltins "sum" = some (.builtin "sum") := by decide +kernel
theorem bt_max : bootBuiltins "max" = some (.builtin "max") := by decide +kernel
theorem bt_min : bootBuiltins "min" = some (.builtin "min") := by decide +kernel
theorem bt_sorted : bootBuiltins "sorted" = some (.builtin "sorted") := by decide +kernel
theorem bt_isinstance : bootBuiltins "isinstance" = some (.builtin "isinstance") := by decide +kernel
theorem bt_int : bootBuiltins "int" = some (.type "int") := by decide +kernel
theorem bt_list : bootBuiltins "list" = some (.type "list") := by decide +kernel
theorem bt_tuple : bootBuiltins "tuple" = some (.type "tuple") := by decide +kernel
theorem bt_bool : bootBuiltins "bool" = some (.type "bool") := by decide +kernel
theorem bt_str : bootBuiltins "str" = some (.type "str") := by decide +kernel
theorem bt_dict : bootBuiltins "dict" = some (.type "dict") := by decide +kernel
end

/-! ### plain lemmas on meanings -/
section
theorem lcL_fm {g : SG} {t : ST} {f : SE} {ρ : REnv} (c : D → Option D) : ∀ (ds : List D) (Q : List D → Prop), (∀ d ∈ ds, ∀ (R : Option D → Prop), R (c d) → g d ρ fun ρ1 => t ρ1 fun b => br b (f ρ1 fun y => R (some y)) (R none)) → Q (ds.filterMap c) → lcL g t f ρ ds Q
  | [], Q, _, q => q
  | d :: ds, Q, h, q => by
    refine h d List.mem_cons_self (fun o => match o with
      | some y => lcL g t f ρ ds fun ys => Q (y :: ys)
      | none => lcL g t f ρ ds Q) ?_
    have ih := fun Q => lcL_fm (g := g) (t := t) (f := f) (ρ := ρ) c ds Q fun d hd => h d (List.mem_cons_of_mem _ hd)
    rw [List.filterMap_cons] at q
    cases e : c d with
    | none => rw [e] at q; exact ih Q q
    | some y => rw [e] at q; exact ih _ q
theorem rngD_mem {lo hi : Int} {d : D} (h : d ∈ rngD lo hi) : ∃ i : Int, d = .int i ∧ lo ≤ i ∧ i < hi := by
  unfold rngD at h
  obtain ⟨i, hi', rfl⟩ := List.mem_map.mp h
  have := List.mem_range.mp hi'
  exact ⟨lo + i, rfl, by omega, by omega⟩
theorem rngD_get {lo hi : Int} {i : Nat} {d : D} (h : (rngD lo hi)[i]? = some d) : d = .int (lo + i) ∧ lo + (i : Int) < hi := by
  unfold rngD at h
  rw [List.getElem?_map] at h
  by_cases hi' : i < (hi - lo).toNat
  · rw [List.getElem?_range hi'] at h
    cases h
    exact ⟨rfl, by omega⟩
  · rw [List.getElem?_eq_none (by simpa using hi')] at h
    cases h
theorem forL_at {g : SG} {s : SS} {k : Kt} {ds : List D} (P : Nat → REnv → Prop)
    (hs : ∀ (i : Nat) (d : D) (ρ : REnv) (nxt : REnv → Prop), ds[i]? = some d → P i ρ → (∀ ρ', P (i + 1) ρ' → nxt ρ') → g d ρ fun ρ1 => s ρ1 (loopK nxt k)) (hd : ∀ ρ, P ds.length ρ → k.nx ρ) : ∀ (m i : Nat) (ρ : REnv), m + i = ds.length → P i ρ → forL g s (ds.drop i) ρ k
  | 0, i, ρ, e, p => by
    have : i = ds.length := by omega
    subst this
    rw [List.drop_length]
    exact hd ρ p
  | m + 1, i, ρ, e, p => by
    have hlt : i < ds.length := by omega
    rw [List.drop_eq_getElem_cons hlt]
    exact hs i ds[i] ρ _ (List.getElem?_eq_getElem hlt) p fun ρ' p' => forL_at P hs hd m (i + 1) ρ' (by omega) p'
theorem forL_inv {g : SG} {s : SS} {k : Kt} {ds : List D} {ρ : REnv} (P : Nat → REnv → Prop) (h0 : P 0 ρ)
    (hs : ∀ (i : Nat) (d : D) (ρ : REnv) (nxt : REnv → Prop), ds[i]? = some d → P i ρ → (∀ ρ', P (i + 1) ρ' → nxt ρ') → g d ρ fun ρ1 => s ρ1 (loopK nxt k)) (hd : ∀ ρ, P ds.length ρ → k.nx ρ) : forL g s ds ρ k := by
  have := forL_at P hs hd ds.length 0 ρ (by omega) h0
  rwa [List.drop_zero] at this
theorem br_t {b : Bool} {p q : Prop} (h : b = true) (hp : p) : br b p q := by subst h; exact hp
theorem br_f {b : Bool} {p q : Prop} (h : b = false) (hq : q) : br b p q := by subst h; exact hq
theorem br_d {c : Prop} [Decidable c] {p q : Prop} (h1 : c → p) (h2 : ¬ c → q) : br (decide c) p q := by
  by_cases h : c
  · rw [decide_eq_true h]; exact h1 h
  · rw [decide_eq_false h]; exact h2 h
theorem br_n {c : Prop} [Decidable c] {p q : Prop} (h1 : ¬ c → p) (h2 : c → q) : br (!decide c) p q := by
  by_cases h : c
  · rw [decide_eq_true h]; exact h2 h
  · rw [decide_eq_false h]; exact h1 h
end

theorem eqD_refl {d : D} (h : okD d = true) : eqD d d = true := by
  have h1 := (Bool.and_eq_true_iff.mp h).2
  exact SeqAt.eqv_refl _ (SeqAt.canLay_of_shaped h1)
theorem okD_bl (b : Bool) : okD (.bl b) = true := rfl
theorem okD_non : okD .non = true := rfl
theorem okD_nil : okD (.lst []) = true := rfl
theorem okD_tnil : okD (.tup []) = true := rfl
/-- a def that is never called so -/
theorem ok_never {P : Program} {w : World} {K : Kf} {mg : Str → Option Value} {base : Heap} {f : Addr} {fd : FuncData} {ps : List Str} {n k : Nat} (hn : ps.length = n) : FnOk P w K mg base CX0 k f fd ps (spOf K n fun _ _ => False) :=
  ⟨fun vs H Q E h => h.1.trans hn.symm, fun A outer s H args us vs Q E _ _ _ _ h => by
    obtain ⟨_, _, _, _, _, _, q⟩ := h
    exact q.elim⟩

theorem le_big {n : Nat} (h : n ≤ 1000000) : n ≤ big := Nat.le_trans h (by decide)
theorem lt_big {n : Nat} (h : n < 1000000) : n < big := Nat.lt_of_lt_of_le h (by decide)

theorem lcL_map {g : SG} {f : SE} {ρ : REnv} (F : D → D) (ds : List D) (Q : List D → Prop) (h : ∀ d ∈ ds, ∀ R : D → Prop, R (F d) → g d ρ fun ρ1 => f ρ1 R) (q : Q (ds.map F)) : lcL g yesT f ρ ds Q :=
  lcL_fm (fun d => some (F d)) ds Q (fun d hd R hR => h d hd _ hR) (by rw [show (fun d => some (F d)) = some ∘ F from rfl, List.filterMap_eq_map]; exact q)
theorem rngD_map {lo hi : Int} {F : D → D} : (rngD lo hi).map F = (List.range (hi - lo).toNat).map fun (k : Nat) => F (.int (lo + k)) := by
  unfold rngD
  rw [List.map_map]
  rfl
/-- a list of ints told by a function of the place -/
theorem intsD_range {n : Nat} {G : Nat → Int} {F : Nat → D} (h : ∀ k, F k = .int (G k)) : intsD ((List.range n).map F) = some ((List.range n).map G) := by
  have : (List.range n).map F = ((List.range n).map G).map D.int := by
    rw [List.map_map]
    exact List.map_congr_left fun k _ => h k
  rw [this]
  exact intsD_map _
theorem onInts_lst {ds : List D} {ns : List Int} {p : List Int → Prop} (h : intsD ds = some ns) (q : p ns) : onInts (.lst ds) p := by
  show (match intsD ds with | some ns => p ns | none => False)
  rw [h]; exact q
end Z0

namespace Z0
open PySem PySem.Spec PyProof.Rows L2

/-! ### several names at once, some of them lists of one's own -/
section
variable {K : Kf} {Z : Zs} {F F' : Hp} {ρ : REnv} {σ : L2.St} {H H' : Hp} {d : D} {v : V} {s : Slot}
def SlV (K : Kf) (Z : Zs) (F H : Hp) (ρ : REnv) (σ : L2.St) : Slot → V → Prop
  | .sh d, v => Rep K Z.rw F d v
  | .own ds, v => ∃ p vs, v = .ref p ∧ H p = some (.lst vs) ∧ Reps K Z.rw F ds vs ∧ Fresh Z F ρ σ p
theorem SlV.gr (h : SlV K Z F H ρ σ s v) (g : Gr K Z F H F' H') : SlV K Z F' H' ρ σ s v := by
  cases s with
  | sh d => exact Rep.ex g.f _ _ h
  | own ds =>
    obtain ⟨p, vs, e, e1, e2, f1, f2, f3, f4⟩ := h
    refine ⟨p, vs, e, g.h p _ f3 e1, Reps.ex g.f _ _ e2, ?_, f2, f3, f4⟩
    cases z : F' p with
    | none => rfl
    | some o =>
      rcases g.n p (by rw [z]; simp) with y | y
      · exact absurd f1 y
      · rw [e1] at y; cases y
abbrev SM1 := REnv → (Slot → Prop) → Prop
abbrev SM := REnv → (List Slot → Prop) → Prop
inductive SlVs (K : Kf) (Z : Zs) (F H : Hp) (ρ : REnv) (σ : L2.St) : List Slot → List V → Prop
  | nil : SlVs K Z F H ρ σ [] []
  | cons {s v ss vs} : SlV K Z F H ρ σ s v → SlVs K Z F H ρ σ ss vs → (∀ p ds, s = .own ds → v = .ref p → ∀ (i : Nat) ds', ss[i]? = some (.own ds') → vs[i]? ≠ some (.ref p)) → SlVs K Z F H ρ σ (s :: ss) (v :: vs)
theorem SlVs.gr {ss : List Slot} {vs : List V} (h : SlVs K Z F H ρ σ ss vs) (g : Gr K Z F H F' H') : SlVs K Z F' H' ρ σ ss vs := by
  induction h with
  | nil => exact .nil
  | cons a b c ih => exact .cons (a.gr g) ih c
theorem SlVs.length {ss : List Slot} {vs : List V} (h : SlVs K Z F H ρ σ ss vs) : vs.length = ss.length := by
  induction h with
  | nil => rfl
  | cons a b c ih => rw [List.length_cons, List.length_cons, ih]
def TM1of (K : Kf) (f : SM1) : TE := fun σ H Q => ∃ Z F ρ, R K Z F ρ σ H ∧ f ρ fun s => ∀ v F' H', Gr K Z F H F' H' → SlV K Z F' H' ρ σ s v → (∀ p ds, s = .own ds → v = .ref p → H p = none) → Q v H'
def TMof (K : Kf) (f : SM) : TA := fun σ H Q => ∃ Z F ρ, R K Z F ρ σ H ∧ f ρ fun ss => ∀ vs F' H', Gr K Z F H F' H' → SlVs K Z F' H' ρ σ ss vs → (∀ (i : Nat) p ds, ss[i]? = some (.own ds) → vs[i]? = some (.ref p) → H p = none) → Q vs H'
end
structure M1 (X : Cx) (e : Expr) (f : SM1) : Prop where
  mono : MonoE f
  run : PE X e (TM1of X.K f)
structure Ms (X : Cx) (es : List Expr) (f : SM) : Prop where
  mono : MonoE f
  run : PA X es (TMof X.K f)
  cnt : ∀ ρ Q, f ρ Q → f ρ fun ss => ss.length = es.length ∧ Q ss
def shM (f : SE) : SM1 := fun ρ Q => f ρ fun d => Q (.sh d)
def ownM (f : SA) : SM1 := fun ρ Q => f ρ fun ds => Q (.own ds)
def nilM : SM := fun _ Q => Q []
def consM (f : SM1) (g : SM) : SM := fun ρ Q => f ρ fun s => g ρ fun ss => Q (s :: ss)
section
variable {X : Cx} {e a b c : Expr} {f g k : SE} {pos : Pos} {st : Stmt}
theorem M1.sh (h : E X e f) : M1 X e (shM f) := ⟨fun ρ P Q h' q => h.mono ρ _ _ (fun d z => h' _ z) q, PE.weak h.run fun σ H Q ⟨Z, F, ρ, r, q⟩ => ⟨Z, F, ρ, r, h.mono ρ _ _ (fun d hd v F' H' g rep => hd v F' H' g rep (fun _ _ e _ => by cases e)) q⟩⟩
theorem M1.own {fa : SA} (h : F X e fa) : M1 X e (ownM fa) := ⟨fun ρ P Q h' q => h.mono ρ _ _ (fun d z => h' _ z) q, PE.weak h.run fun σ H Q ⟨Z, F, ρ, r, q⟩ => ⟨Z, F, ρ, r, h.mono ρ _ _ (fun ds hd p vs F' H' g h0 fr hp reps => hd (.ref p) F' H' g ⟨p, vs, rfl, hp, reps, fr⟩ (fun p' ds' _ e => by cases e; exact h0)) q⟩⟩
theorem Ms.nil : Ms X [] nilM := ⟨fun _ _ _ h q => h _ q, PA.weak pa_nil fun σ H Q ⟨Z, F, ρ, r, q⟩ => q [] F H (Gr.refl r.base) .nil (fun i p ds e => by simp at e), fun _ _ q => ⟨rfl, q⟩⟩
theorem Ms.cons {es : List Expr} {f : SM1} {g : SM} (ha : M1 X e f) (hr : Ms X es g) (hs : starEach (e :: es) X.env = (false, eval e X.env) :: starEach es X.env := by rfl) : Ms X (e :: es) (consM f g) :=
  ⟨fun ρ P Q h q => ha.mono ρ _ _ (fun x hx => hr.mono ρ _ _ (fun xs hxs => h _ hxs) hx) q, PA.weak (pa_cons ha.run hr.run hs) fun σ H Q ⟨Z, F, ρ, r, q⟩ => ⟨Z, F, ρ, r, ha.mono ρ _ _ (fun x hx v F1 H1 g1 rep h0 => ⟨Z, F1, ρ, r.grow g1, hr.mono ρ _ _ (fun xs hxs vs F2 H2 g2 reps h1 => hxs (v :: vs) F2 H2 (g1.trans g2) (.cons (rep.gr g2) reps (fun p ds e e' i ds' y y' => by
      subst e e'
      obtain ⟨p', vs', e3, e4, _⟩ := rep
      cases e3
      have := h1 i p ds' y y'
      rw [e4] at this
      cases this)) (fun i p ds e e' => by
      cases i with
      | zero => cases e; cases e'; exact h0 p ds rfl rfl
      | succ i => exact back_none r.base g1 (h1 i p ds e e'))) hx⟩) q⟩,
   fun ρ Q q => ha.mono ρ _ _ (fun x hx => hr.mono ρ _ _ (fun xs hxs => ⟨by rw [List.length_cons, List.length_cons, hxs.1], hxs.2⟩) (hr.cnt ρ _ hx)) q⟩
end
def setAll (ρ : REnv) : List Nat → List Slot → REnv
  | i :: is, s :: ss => setAll (ρ.set i (some s)) is ss
  | _, _ => ρ
def setAllV (σ : L2.St) : List Nat → List V → L2.St
  | i :: is, v :: vs => setAllV (σ.set i (some v)) is vs
  | _, _ => σ
theorem R.setSl {K : Kf} {Z : Zs} {F H : Hp} {ρ : REnv} {σ : L2.St} (r : R K Z F ρ σ H) (i : Nat) {s : Slot} {v : V} (h : SlV K Z F H ρ σ s v) : R K Z F (ρ.set i (some s)) (σ.set i (some v)) H := by
  cases s with
  | sh d => exact r.setSh i h
  | own ds =>
    obtain ⟨p, vs, rfl, e1, e2, e3⟩ := h
    exact r.setOwn i e1 e3 e2
theorem R.setAll {K : Kf} {Z : Zs} {F H : Hp} : ∀ (is : List Nat) {ρ : REnv} {σ : L2.St} {ss : List Slot} {vs : List V}, R K Z F ρ σ H → SlVs K Z F H ρ σ ss vs → R K Z F (Z0.setAll ρ is ss) (setAllV σ is vs) H
  | [], _, _, _, _, r, h => by cases h <;> exact r
  | i :: is, ρ, σ, _, _, r, h => by
    cases h with
    | nil => exact r
    | @cons s v ss vs a b c =>
      refine R.setAll is (r.setSl i a) ?_
      have key : ∀ {ss : List Slot} {vs : List V}, SlVs K Z F H ρ σ ss vs → (∀ p ds, s = .own ds → v = .ref p → ∀ (i : Nat) ds', ss[i]? = some (.own ds') → vs[i]? ≠ some (.ref p)) → SlVs K Z F H (ρ.set i (some s)) (σ.set i (some v)) ss vs := by
        intro ss vs h
        induction h with
        | nil => intro _; exact .nil
        | @cons s' v' ss' vs' a' b' c' ih =>
          intro hc
          refine .cons ?_ (ih fun p ds e e' i ds' y => hc p ds e e' (i + 1) ds' (by simpa using y)) c'
          cases s' with
          | sh d => exact a'
          | own ds =>
            obtain ⟨p, us, e, e1, e2, f1, f2, f3, f4⟩ := a'
            refine ⟨p, us, e, e1, e2, f1, f2, f3, fun j ds2 e5 e6 => ?_⟩
            by_cases hj : i = j
            · subst hj
              rw [List.getElem?_set] at e5 e6
              simp only [if_true] at e5 e6
              split at e5
              · split at e6
                · have q1 : s = .own ds2 := by injection e5 with e5; injection e5
                  have q2 : v = .ref p := by injection e6 with e6; injection e6
                  exact hc p ds2 q1 q2 0 ds rfl (by rw [e]; rfl)
                · cases e6
              · cases e5
            · rw [List.getElem?_set_ne hj] at e5 e6
              exact f4 j ds2 e5 e6
      exact key b c
section
variable {X : Cx} {e a b c : Expr} {f g k : SE} {pos : Pos} {st : Stmt}
def parM (is : List Nat) (f : SM) : SS := fun ρ k => f ρ fun ss => k.nx (setAll ρ is ss)
theorem parM_mono {is : List Nat} {f : SM} (mf : MonoE f) : MonoS (parM is f) := fun ρ k l hk q => mf ρ _ _ (fun _ z => hk.1 _ z) q
theorem parM_tp {K : Kf} {is : List Nat} {f : SM} (mf : MonoE f) {D : Ends} {σ : L2.St} {H : Hp} (h : TSof K (parM is f) D σ H) : TMof K f σ H fun vs H1 => D.nx (setAllV σ is vs) H1 := by
  obtain ⟨Z, F, ρ, r, q⟩ := h
  exact ⟨Z, F, ρ, r, mf ρ _ _ (fun ss hs vs F' H' g sl _ => hs _ F' H' g.f ((r.grow g).setAll is sl)) q⟩
theorem TMof.cnt {X : Cx} {es : List Expr} {f : SM} (h : Ms X es f) {σ : L2.St} {H : Hp} {Q : List V → Hp → Prop} (q : TMof X.K f σ H Q) : TMof X.K f σ H fun vs H1 => vs.length = es.length ∧ Q vs H1 := by
  obtain ⟨Z, F, ρ, r, q⟩ := q
  exact ⟨Z, F, ρ, r, h.mono ρ _ _ (fun ss hs vs F' H' g sl h0 => ⟨sl.length.trans hs.1, hs.2 vs F' H' g sl h0⟩) (h.cnt ρ _ q)⟩
theorem S.parM2 {i j : Nat} {e1 e2 : Expr} {f : SM} (h : Ms X [e1, e2] f) (hp : PA X [e1, e2] (TMof X.K f) → PS X st (tPar i j (TMof X.K f))) (mono : ∀ σ H (P Q : List V → Hp → Prop), (∀ vs H, P vs H → Q vs H) → TMof X.K f σ H P → TMof X.K f σ H Q) : S X st (parM [i, j] f) := ⟨parM_mono h.mono, PS.weak (hp h.run) fun D σ H q =>
  mono _ _ _ _ (fun vs H1 z => by
    obtain ⟨z1, z2⟩ := z
    match vs, z1 with
    | [v, w], _ => exact ⟨v, w, rfl, z2⟩) (TMof.cnt h (parM_tp h.mono q))⟩
theorem TMof.mono {K : Kf} {f : SM} (mf : MonoE f) : ∀ σ H (P Q : List V → Hp → Prop), (∀ vs H, P vs H → Q vs H) → TMof K f σ H P → TMof K f σ H Q := fun σ H P Q h ⟨Z, F, ρ, r, q⟩ => ⟨Z, F, ρ, r, mf ρ _ _ (fun ss hs vs F' H' g sl h0 => h _ _ (hs vs F' H' g sl h0)) q⟩
theorem S.pm2 {i j : Nat} {e1 e2 : Expr} {f : SM} (h : Ms X [e1, e2] f) (hp : PA X [e1, e2] (TMof X.K f) → PS X st (tPar i j (TMof X.K f))) : S X st (parM [i, j] f) := S.parM2 h hp (TMof.mono h.mono)
theorem S.pm3 {i j l : Nat} {e1 e2 e3 : Expr} {f : SM} (h : Ms X [e1, e2, e3] f) (hp : PA X [e1, e2, e3] (TMof X.K f) → PS X st (tPar3 i j l (TMof X.K f))) : S X st (parM [i, j, l] f) := ⟨parM_mono h.mono, PS.weak (hp h.run) fun D σ H q =>
  TMof.mono h.mono _ _ _ _ (fun vs H1 z => by
    obtain ⟨z1, z2⟩ := z
    match vs, z1 with
    | [u, v, w], _ => exact ⟨u, v, w, rfl, z2⟩) (TMof.cnt h (parM_tp h.mono q))⟩
/-- .. by way of a tuple -/
def gNames : List Nat → TGs
  | [] => gNil
  | i :: is => gCons (gName i) (gNames is)
theorem gNames_at : ∀ (is : List Nat) (vs : List V) (σ : L2.St) (H : Hp) (Q : L2.St → Hp → Prop), vs.length = is.length → Q (setAllV σ is vs) H → gNames is vs σ H Q
  | [], [], σ, H, Q, _, q => ⟨rfl, q⟩
  | i :: is, v :: vs, σ, H, Q, h, q => ⟨v, vs, rfl, gNames_at is vs _ H Q (by simpa using h) q⟩
theorem S.pmT {is : List Nat} {es : List Expr} {n : Nat} {f : SM} (h : Ms X es f) (hn : es.length = n) (hi : is.length = n) (hz : n ≤ 1000) (hp : PA X es (TMof X.K f) → PS X st (tAsg (tTup (TMof X.K f)) (gTup X.K n (gNames is)))) : S X st (parM is f) := ⟨parM_mono h.mono, PS.weak (hp h.run) fun D σ H q => by
  obtain ⟨Z, F, ρ, r, q⟩ := q
  refine ⟨Z, F, ρ, r, h.mono ρ _ _ (fun ss hs vs F' H' g sl _ => ?_) (h.cnt ρ _ q)⟩
  have hl : vs.length = n := (sl.length.trans hs.1).trans hn
  refine ⟨by rw [hl]; exact big_line (Nat.le_trans hz (by decide)), fun p hp => ?_⟩
  have g2 := g.trans (g.b.lay0 (o := .tup vs) hp)
  refine ⟨p, vs, rfl, .inl (.inl upd_same), hl, gNames_at is vs σ _ _ (hl.trans hi.symm) ?_⟩
  exact hs.2 _ F' _ g2.f ((r.grow g2).setAll is (sl.gr (g.b.lay0 hp)))⟩
end

/-! ### t[lo::-1] -/
/-- how many items t[lo::-1] has -/
def backN (n : Nat) : Option Int → Nat
  | none => n
  | some v => ((if v < 0 then max (v + n) (-1) else min v (n - 1)) + 1).toNat
theorem backN_le (n : Nat) (lo : Option Int) : backN n lo ≤ n := by
  cases lo with
  | none => exact Nat.le_refl _
  | some v => show ((if v < 0 then max (v + (n : Int)) (-1) else min v ((n : Int) - 1)) + 1).toNat ≤ n; split <;> omega
theorem adjust_back (lo : Option Int) (n : Nat) : Builtin.Slice.sliceAdjust lo none (-1) (n : Int) = (((backN n lo : Nat) : Int) - 1, -1) := by
  unfold Builtin.Slice.sliceAdjust
  refine Prod.ext ?_ ?_
  · cases lo with
    | none => show (if (-1 : Int) < 0 then (if (-1 : Int) < 0 then (n : Int) - 1 else n) else (if (-1 : Int) < 0 then -1 else 0)) = (n : Int) - 1; rfl
    | some v =>
      show (if v < 0 then max (v + (n : Int)) (if (-1 : Int) < 0 then -1 else 0) else min v (if (-1 : Int) < 0 then (n : Int) - 1 else n)) = ((((if v < 0 then max (v + (n : Int)) (-1) else min v ((n : Int) - 1)) + 1).toNat : Nat) : Int) - 1
      rw [if_pos (show (-1 : Int) < 0 by decide), if_pos (show (-1 : Int) < 0 by decide)]
      split <;> omega
  · rfl
theorem places_back (c : Nat) : Builtin.Slice.slicePlaces ((c : Int) - 1) (-1) (-1) = c := by
  unfold Builtin.Slice.slicePlaces
  rw [if_neg (show ¬ ((-1 : Int) > 0) by decide)]
  split
  · have : ((c : Int) - 1 - -1 - 1) / (- -1) = (c : Int) - 1 := by
      rw [show (- -1 : Int) = 1 by decide, Int.ediv_one]; omega
    rw [this]; omega
  · omega
theorem pick_back {α : Type} : ∀ (c : Nat) (xs : List α), c ≤ xs.length → ((List.range c).filterMap fun (k : Nat) => xs[(((c : Int) - 1) + (k : Int) * (-1)).toNat]?) = (xs.take c).reverse
  | 0, xs, _ => rfl
  | c + 1, xs, h => by
    have hl : c < xs.length := h
    rw [List.range_succ_eq_map, List.filterMap_cons, List.filterMap_map]
    have e0 : xs[((((c + 1 : Nat) : Int) - 1) + ((0 : Nat) : Int) * (-1)).toNat]? = some xs[c] := by
      rw [show ((((c + 1 : Nat) : Int) - 1) + ((0 : Nat) : Int) * (-1)).toNat = c by omega]
      exact List.getElem?_eq_getElem hl
    rw [e0]
    have ih := pick_back c xs (Nat.le_of_lt hl)
    have e1 : ((fun (k : Nat) => xs[((((c + 1 : Nat) : Int) - 1) + (k : Int) * (-1)).toNat]?) ∘ Nat.succ) = fun (k : Nat) => xs[(((c : Int) - 1) + (k : Int) * (-1)).toNat]? := by
      funext k
      show xs[((((c + 1 : Nat) : Int) - 1) + ((k + 1 : Nat) : Int) * (-1)).toNat]? = _
      congr 1
      omega
    rw [e1, ih, List.take_succ_eq_append_getElem hl, List.reverse_append]
    rfl
section
variable {prog : Program} {w : World} {A : Around} {E : Value → Shared → Prop} {s : Shared}
theorem sliceApplied_back {sl : Addr} {vl : Value} {u : Tok} {lo : Option Int} {n : Nat} {Q : Int × Int × Nat → Shared → Prop} (hs : s.heap.IsSliceOf sl vl .none (.int (-1) u)) (pl : IsPart vl lo)
    (h : Q (((backN n lo : Nat) : Int) - 1, -1, backN n lo) s) : wpAny (model prog w) A (Builtin.Slice.sliceApplied (.ref sl) (pure (n : Int))) Q E s := by
  obtain ⟨os, hos, hcs, hds⟩ := id hs
  unfold Builtin.Slice.sliceApplied Builtin.Slice.sliceFields
  refine wpAny_bind (wpAny_bind (wpAny_field hos hds (x := vl) rfl (wpAny_bind (wpAny_field hos hds (x := .none) rfl (wpAny_bind (wpAny_field hos hds (x := .int (-1) u) rfl (wpAny_pure ?_)))))))
  refine wpAny_bind (slicePart_int ?_)
  show wpAny _ _ (if ((-1 : Int) == 0) = true then _ else _) _ _ s
  rw [if_neg (by decide)]
  refine wpAny_bind (HT.slicePart_ pl (wpAny_bind (slicePart_none (wpAny_bind (wpAny_pure ?_)))))
  show wpAny _ _ (match Builtin.Slice.sliceAdjust lo none (-1) (n : Int) with | (lo, hi) => pure (lo, (-1 : Int), Builtin.Slice.slicePlaces lo hi (-1))) _ _ s
  rw [adjust_back lo n]
  show wpAny _ _ (pure (((backN n lo : Nat) : Int) - 1, (-1 : Int), Builtin.Slice.slicePlaces (((backN n lo : Nat) : Int) - 1) (-1) (-1))) _ _ s
  rw [places_back]
  exact wpAny_pure h
theorem getItem_tuple_back {t sl : Addr} {items : Array Value} {vl : Value} {u : Tok} {lo : Option Int} {Q : Value → Shared → Prop} (ht : IsTup s.heap t items) (hs : s.heap.IsSliceOf sl vl .none (.int (-1) u)) (pl : IsPart vl lo)
    (h : Q (.ref s.heap.objs.size) { s with heap := s.heap.push { cls := .type "tuple", data := .seq ((items.toList.take (backN items.size lo)).reverse).toArray } })
    (hsz : items.size ≤ sizeLine) : wpAny (model prog w) A (getItem (.ref t) (.ref sl)) Q E s := by
  have hb := backN_le items.size lo
  have htake : sizeOk (.seq ((items.toList.take (backN items.size lo)).reverse).toArray) := by
    show ((items.toList.take (backN items.size lo)).reverse).toArray.size ≤ sizeLine
    rw [List.size_toArray, List.length_reverse, List.length_take, Array.length_toList]
    omega
  obtain ⟨os, hos, hcs, hds⟩ := id hs
  have hTs : s.TypeIs (.ref sl) "slice" := ⟨os, hos, hcs⟩
  unfold getItem
  try with_reducible refine wpAny_holding ?_
  first | refine wpAny_bind (wpAny_pure ?_) | skip
  refine wpAny_bind (wpAny_sequenceKey ht.typeIs (by decide) ?_)
  refine wpAny_bind (wpAny_callSpecial?_slot (name := Str.ofString "__getitem__") ht.typeIs PyProof.Rows.slot_tuple_getitem
    (wpAny_call_entry PyProof.Rows.slot_tuple_getitem ht.typeIs entry_tuple_getitem ?_ (args_tuple_getitem _ _)))
  show wpAny _ _ (Builtin.Tuple.tupleItemsOf (.ref t) >>= _) _ _ s
  refine wpAny_bind (tupleItemsOf_ ht ?_)
  refine wpAny_bind (wpAny_typeOf hTs ?_)
  rw [if_pos (by decide)]
  refine wpAny_bind (sliceApplied_back hs pl ?_)
  have hno : ¬ (((((backN items.size lo : Nat) : Int) - 1) == 0 && (-1 : Int) == 1 && backN items.size lo == items.size) = true) := by
    rw [show ((-1 : Int) == 1) = false by decide, Bool.and_false, Bool.false_and]
    exact Bool.false_ne_true
  show wpAny _ _ (if ((((backN items.size lo : Nat) : Int) - 1) == 0 && (-1 : Int) == 1 && backN items.size lo == items.size) = true then _ else _) _ _ s
  rw [if_neg hno]
  have hp : ((List.range (backN items.size lo)).filterMap fun (k : Nat) => items[((((backN items.size lo : Nat) : Int) - 1) + (k : Int) * (-1)).toNat]?).toArray = ((items.toList.take (backN items.size lo)).reverse).toArray := by
    have := pick_back (backN items.size lo) items.toList (by rw [Array.length_toList]; exact hb)
    rw [← this]
    congr 2
    funext k
    rw [Array.getElem?_toList]
  rw [hp]
  first
    | exact wpAny_bind (m := Builtin.Tuple.tupleExact _) (wpAny_newObj_type (wpAny_pure ⟨_, rfl, wpAny_pure h⟩) htake)
    | exact wpAny_bind (m := Builtin.Tuple.tupleExact _) (wpAny_newObj_type (wpAny_bind (wpAny_pure (wpAny_pure ⟨_, rfl, wpAny_pure h⟩))) htake)
    | exact wpAny_bind (wpAny_bind (m := Builtin.Tuple.tupleExact _) (wpAny_newObj_type (wpAny_pure (wpAny_pure ⟨_, rfl, wpAny_pure h⟩)) htake))
    | exact wpAny_bind (wpAny_bind (m := Builtin.Tuple.tupleExact _) (wpAny_newObj_type (wpAny_pure ⟨_, rfl, wpAny_pure h⟩) htake))
end
/-- what t[lo::-1] is, by values: a tuple with any lo, a list without one -/
def rBack (K : PySem.W.Frag) : V → Option Int → Hp → VK → Prop := fun x lo H Q => ∃ a xs, x = .ref a ∧ ((SqT K H a xs ∧ ∀ p, H p = none → Q (.ref p) (upd H p (.tup ((xs.take (backN xs.length lo)).reverse)))) ∨ (lo = none ∧ SqL K H a xs ∧ ∀ p, H p = none → Q (.ref p) (upd H p (.lst xs.reverse))))
section
variable {X : Cx}
theorem pe_back {e : Expr} {lo : Option Expr} {te : TE} {tl : TO} {k : Nat} {p1 p2 p3 pos : Pos} (he : PE X e te) (hl : PO X lo tl) : PE X (.Subscript e (.Slice lo none (some (.UnaryOp .USub (.Constant (.int 1) k p1) p2)) p3) pos)
    (fun σ H Q => te σ H fun x H1 => tl σ H1 fun o H2 => rBack X.K x o H2 Q) := by
  refine ⟨fun pins s σ H Q I h => ?_⟩
  refine Subscript_ (thn (he.run pins s σ H _ I h) fun v s1 ⟨x, H1, I1, r1, q1⟩ => ?_)
  have hst : PO X (some (.UnaryOp .USub (.Constant (.int 1) k p1) p2)) (tPart (tUn (rU fun i => .int (-i)) (tC (.int 1)))) := po_some (pe_un un_neg pe_int)
  refine wpAny_Slice (thn (hl.run pins s1 σ H1 _ I1 q1) fun vl s2 ⟨l, H2, I2, pl, q2⟩ => ?_)
  obtain ⟨a, xs, ex, q⟩ := q2
  subst ex
  cases r1
  refine thn (po_none.run pins s2 σ H2 (fun o H3 => o = none ∧ H3 = H2) I2 ⟨rfl, rfl⟩) fun vu s3 ⟨u, H3, I3, pu, eu, e3⟩ => ?_
  subst eu e3
  refine thn (hst.run pins s3 σ H3 (fun o H4 => o = some (-1) ∧ H4 = H3) I3 ⟨1, rfl, -1, rfl, rfl, rfl⟩) fun vs s4 ⟨o, H4, I4, ps, eo, e4⟩ => ?_
  subst eo e4
  have I5 : Inv X pins σ H4 { s4 with heap := s4.heap.push { cls := .type "slice", data := .fields #[vl, vu, vs] } } := I4.kept (t' := s4.toks) fun b ob q => Heap.get?_push_of_some _ q
  rcases q with ⟨hx, q⟩ | ⟨el, hx, q⟩
  · obtain ⟨its, r, ht, hz⟩ := I5.tuple hx
    have hlen := r.length
    show wpAny (model X.prog X.w) X.A (subscriptTail e (.Slice lo none (some (.UnaryOp .USub (.Constant (.int 1) k p1) p2)) p3) (.ref a) (.ref s4.heap.objs.size)) (EP X pins σ Q) X.xe { s4 with heap := s4.heap.push { cls := .type "slice", data := .fields #[vl, vu, vs] } }
    refine tail_any (ops := [.ref a, .ref s4.heap.objs.size]) ht.typeIs (PyProof.Rows.slot_tuple_getitem.lookup) ?_ (by with_unfolding_all rfl)
    cases pu
    cases ps with
    | int _ u =>
    refine getItem_tuple_back (items := its.toArray) ht (Heap.IsSliceOf.new _ vl .none (.int (-1) u)) pl ?_ (by rw [List.size_toArray]; omega)
    have hsz2 : its.toArray.size = xs.length := by rw [List.size_toArray, hlen]
    have hl2 : its.toArray.toList = its := rfl
    rw [hsz2, hl2]
    refine ⟨.ref _, _, I5.laid (t' := s4.toks) (o := .tup ((xs.take (backN xs.length l)).reverse)) (fun b ob q => Heap.get?_push_of_some _ q) (Nat.le_refl _) ?_, rfl, q _ (I5.hok.fresh (Nat.le_refl _))⟩
    exact ⟨by rw [List.length_reverse, List.length_take]; omega, _, (r.take _).reverse, IsTup.new _ _⟩
  · subst el
    cases pl
    obtain ⟨its, r, ht, hz⟩ := I5.list hx
    have hlen := r.length
    show wpAny (model X.prog X.w) X.A (subscriptTail e (.Slice lo none (some (.UnaryOp .USub (.Constant (.int 1) k p1) p2)) p3) (.ref a) (.ref s4.heap.objs.size)) (EP X pins σ Q) X.xe { s4 with heap := s4.heap.push { cls := .type "slice", data := .fields #[.none, vu, vs] } }
    refine tail_any (ops := [.ref a, .ref s4.heap.objs.size]) ht.isList.typeIs (PySem.slot_list_getitem.lookup) ?_ (by with_unfolding_all rfl)
    refine wpAny_getItem_list_slice ht.isList (Heap.IsSliceOf.new _ .none vu vs) .none pu ps (by decide) ?_ (by rw [List.size_toArray]; omega)
    rw [PySem.W.krv_pick]
    refine ⟨.ref _, _, I5.laid (t' := s4.toks) (o := .lst xs.reverse) (fun b ob q => Heap.get?_push_of_some _ q) (Nat.le_refl _) ?_, rfl, q _ (I5.hok.fresh (Nat.le_refl _))⟩
    exact ⟨by rw [List.length_reverse]; exact hz, _, 0, r.reverse, Heap.get?_push_size _ rfl⟩
def backO (x : D) (lo : Option Int) (Q : D → Prop) : Prop := match x, lo with
  | .tup ds, lo => Q (.tup ((ds.take (backN ds.length lo)).reverse))
  | .lst ds, none => Q (.lst ds.reverse)
  | _, _ => False
theorem backO_mono {x : D} {lo : Option Int} {P Q : D → Prop} (h : ∀ d, P d → Q d) (q : backO x lo P) : backO x lo Q := by
  unfold backO at *
  split at q
  · exact h _ q
  · exact h _ q
  · exact q.elim
def backE (f : SE) (l : SO) : SE := fun ρ Q => f ρ fun x => l ρ fun lo => backO x lo Q
theorem E.back {e : Expr} {f : SE} {lo : Option Expr} {l : SO} {k : Nat} {p1 p2 p3 pos : Pos} (ha : P X e f) (hl : O X lo l) : E X (.Subscript e (.Slice lo none (some (.UnaryOp .USub (.Constant (.int 1) k p1) p2)) p3) pos) (backE f l) :=
  ⟨fun ρ P Q hpq q => ha.mono ρ _ _ (fun x hx => hl.mono ρ _ _ (fun o ho => backO_mono hpq ho) hx) q,
   PE.weak (pe_back ha.run hl.run) fun σ H Q ⟨Z, F, ρ, r, q⟩ => ⟨Z, F, ρ, r, ha.mono ρ _ _ (fun x hx v F1 H1 g1 rp => ⟨Z, F1, ρ, r.grow g1, hl.mono ρ _ _ (fun o ho F2 H2 g2 => by
     have gg := g1.trans g2
     have rp3 := rp.gr g2
     unfold backO at ho
     split at ho
     · obtain ⟨a, vs, rfl, e1, e2, e3⟩ := rp3.tup g2.b
       refine ⟨a, vs, rfl, .inl ⟨e1, fun p hp => ho _ _ _ (gg.trans (g2.b.lay hp)) ⟨p, _, rfl, .inl (.inl upd_same), ?_⟩⟩⟩
       rw [e2.length]
       exact Reps.ex (Ex.upd (g2.b.fh.none hp)) _ _ (Reps.rev (e2.take _))
     · obtain ⟨a, vs, rfl, e1, e2, _⟩ := rp3.lst g2.b
       exact ⟨a, vs, rfl, .inr ⟨rfl, SqL.of e1, fun p hp => ho _ _ _ (gg.trans (g2.b.lay hp)) ⟨p, _, rfl, upd_same, Reps.ex (Ex.upd (g2.b.fh.none hp)) _ _ (Reps.rev e2)⟩⟩⟩
     · exact ho.elim) hx⟩) q⟩⟩
end

/-! ### ranges with a step, lists of ranges -/
def cntR (i j c : Int) : Nat := if i < j then ((j - i - 1) / c + 1).toNat else 0
def rng3D (i j c : Int) : List D := (List.range (cntR i j c)).map fun (k : Nat) => D.int (i + (k : Int) * c)
theorem rng3D_len {i j c : Int} : (rng3D i j c).length = cntR i j c := by unfold rng3D; rw [List.length_map, List.length_range]
def R3 (i j c : Int) : Prop := 0 < c ∧ c < 2 ^ 30 ∧ -(2 ^ 60) ≤ i ∧ i < 2 ^ 60 ∧ -(2 ^ 60) ≤ j ∧ j < 2 ^ 60
theorem cntR_size {i j c : Int} (h : 0 < c) : Builtin.Range.rangeSize i j c = (cntR i j c : Int) := by
  unfold Builtin.Range.rangeSize cntR
  rw [if_pos h]
  by_cases hl : i < j
  · rw [if_pos hl, if_pos hl]
    have := Int.ediv_nonneg (show 0 ≤ j - i - 1 by omega) (show 0 ≤ c by omega)
    omega
  · rw [if_neg hl, if_neg hl]; rfl
theorem R3.rgc {i j c : Int} (h : R3 i j c) : RgC i j c (cntR i j c) := by
  obtain ⟨h1, h2, h3, h4, h5, h6⟩ := h
  refine ⟨by omega, by omega, ?_, cntR_size h1⟩
  have hd : 0 ≤ j - i - 1 → (j - i - 1) / c ≤ j - i - 1 := fun h => Int.ediv_le_self _ h
  have hd0 : 0 ≤ j - i - 1 → 0 ≤ (j - i - 1) / c := fun h => Int.ediv_nonneg h (by omega)
  unfold Builtin.Range.small
  rw [cntR_size h1]
  simp only [Builtin.Range.rangeFitsLong, Bool.and_eq_true, Bool.or_eq_true, decide_eq_true_eq, beq_iff_eq, if_pos (show c > 0 from h1)]
  unfold cntR
  split <;> omega
section
variable {X : Cx} {e tg : Expr} {es : List Expr} {fa : SA} {pos : Pos}
theorem turn_r3 {K : Kf} {Z : Zs} {F H : Hp} {lo hi c : Int} (b : Base K Z F H) (i : Nat) : TurnOk K Z (Itc lo c (cntR lo hi c)) (rng3D lo hi c) F H i :=
  ⟨fun e => by rw [rng3D_len] at e; exact Nat.le_of_eq e.symm, fun d hd => by
    have hi' : i < cntR lo hi c := by
      have := (List.getElem?_eq_some_iff.mp hd).1
      rw [rng3D_len] at this; exact this
    refine ⟨hi', fun x H' y => ?_⟩
    obtain ⟨rfl, rfl⟩ := y
    refine ⟨F, Gr.refl b, ?_⟩
    unfold rng3D at hd
    rw [List.getElem?_map, List.getElem?_range hi'] at hd
    cases hd
    exact rfl⟩
def rng3A (f : SA) : SA := fun ρ Q => f ρ fun ds => match ds with
  | [.int i, .int j, .int c] => R3 i j c ∧ Q (rng3D i j c)
  | _ => False
theorem I.r3 (ha : Ap X es fa) (h : PA X es (TQof X.K fa) → PI X tg e (iRng3 (TQof X.K fa))) : I X tg e (rng3A fa) := ⟨fun ρ P Q hpq q => ha.mono ρ _ _ (fun ds hd => by
    split at hd
    · exact ⟨hd.1, hpq _ hd.2⟩
    · exact hd.elim) q, PI.weak (h ha.run) fun σ H Rc ⟨Z, F, ρ, r, q⟩ => ⟨Z, F, ρ, r, ha.mono ρ _ _ (fun ds hd vs F1 H1 g1 reps => by
    split at hd
    · rename_i i j c
      obtain ⟨v, v2, v3, rfl, rep, rep2, rep3⟩ := reps.three
      exact ⟨i, j, c, _, by rw [rep.int, rep2.int, rep3.int], hd.1.rgc, hd.2 _ F1 H1 g1 fun F2 H2 i ex b2 => turn_r3 b2 i⟩
    · exact hd.elim) q⟩⟩
/-- an expression that makes a range, any step -/
def PR3 (X : Cx) (e : Expr) (t : L2.St → Hp → (Int → Int → Nat → Hp → Prop) → Prop) : Prop :=
  ∀ (pins : List (Addr × Obj)) (s : Shared) (σ : L2.St) (H : Hp) (Q : Int → Int → Nat → Hp → Prop), Inv X pins σ H s → t σ H Q →
    wpAny (model X.prog X.w) X.A (eval e X.env) (fun x s' => ∃ (r : Addr) (a b c : Int) (n : Nat) (t u v : Tok) (H' : Hp), x = .ref r ∧ IsRange s'.heap r a b c t u v ∧ Builtin.Range.small a b c = true ∧ Builtin.Range.rangeSize a b c = (n : Int) ∧ Inv X pins σ H' s' ∧ Q a c n H') X.xe s
def tR1 (ta : TA) : L2.St → Hp → (Int → Int → Nat → Hp → Prop) → Prop := fun σ H Q => ta σ H fun vs H1 => ∃ j : Int, vs = [.int j] ∧ (-(2 ^ 62) ≤ j ∧ j < 2 ^ 62) ∧ Q 0 1 j.toNat H1
def tR2 (ta : TA) : L2.St → Hp → (Int → Int → Nat → Hp → Prop) → Prop := fun σ H Q => ta σ H fun vs H1 => ∃ i j : Int, vs = [.int i, .int j] ∧ (-(2 ^ 62) ≤ i ∧ i < 2 ^ 62 ∧ -(2 ^ 62) ≤ j ∧ j < 2 ^ 62) ∧ Q i 1 (j - i).toNat H1
def tR3 (ta : TA) : L2.St → Hp → (Int → Int → Nat → Hp → Prop) → Prop := fun σ H Q => ta σ H fun vs H1 => ∃ (i j c : Int) (n : Nat), vs = [.int i, .int j, .int c] ∧ RgC i j c n ∧ Q i c n H1
theorem pr3_1 {a : Expr} {ta : TA} {p : Pos} (hg : Gl X "range") (hm : X.mg "range" = none) (ha : PA X [a] ta) (hs : starEach [a] X.env = (false, eval a X.env) :: starEach [] X.env := by rfl) : PR3 X (.Call (.Name "range" p) [a] [] pos) (tR1 ta) := by
  intro pins s σ H Q I h
  refine Call_ (ld_blt I hg hm boot_range (PyProof.Rows.callWith_type1 (thn (ha.run pos pins s σ H _ I h) fun us s1 ⟨vs, H1, I1, r1, q1⟩ => ?_) hs))
  obtain ⟨j, e, ⟨b1, b2⟩, q⟩ := q1
  subst e
  cases r1 with
  | cons r rr =>
    cases rr
    obtain ⟨t, rfl⟩ := r
    refine call_range_1 ⟨_, 0, j, 1, _, _, _, _, H1, rfl, IsRange.new _ _ _ _ _ _ _, small_one (by omega) (by omega) b1 b2, ?_, I1.kept fun b u e => Heap.get?_push_of_some _ e, q⟩
    have := rangeSize_nat 0 j
    rw [Int.sub_zero] at this
    exact this
theorem pr3_2 {a b : Expr} {ta : TA} {p : Pos} (hg : Gl X "range") (hm : X.mg "range" = none) (ha : PA X [a, b] ta) (hs : starEach [a, b] X.env = (false, eval a X.env) :: starEach [b] X.env := by rfl) (hpl : (backTo pos (starEach [b] X.env)).any (·.1) = false := by rfl) : PR3 X (.Call (.Name "range" p) [a, b] [] pos) (tR2 ta) := by
  intro pins s σ H Q I h
  refine Call_ (ld_blt I hg hm boot_range (PyProof.Rows.callWith_type1 (thn (ha.run pos pins s σ H _ I h) fun us s1 ⟨vs, H1, I1, r1, q1⟩ => ?_) hs hpl))
  obtain ⟨i, j, e, ⟨b1, b2, b3, b4⟩, q⟩ := q1
  subst e
  cases r1 with
  | cons r rr =>
    cases rr with
    | cons r' rr =>
      cases rr
      obtain ⟨t, rfl⟩ := r
      obtain ⟨t', rfl⟩ := r'
      exact call_range_2 ⟨_, i, j, 1, _, _, _, _, H1, rfl, IsRange.new _ _ _ _ _ _ _, small_one b1 b2 b3 b4, rangeSize_nat i j, I1.kept fun b u e => Heap.get?_push_of_some _ e, q⟩
theorem pr3_3 {a b c : Expr} {ta : TA} {p : Pos} (hg : Gl X "range") (hm : X.mg "range" = none) (ha : PA X [a, b, c] ta) (hs : starEach [a, b, c] X.env = (false, eval a X.env) :: starEach [b, c] X.env := by rfl) (hpl : (backTo pos (starEach [b, c] X.env)).any (·.1) = false := by rfl) : PR3 X (.Call (.Name "range" p) [a, b, c] [] pos) (tR3 ta) := by
  intro pins s σ H Q I h
  refine Call_ (ld_blt I hg hm boot_range (PyProof.Rows.callWith_type1 (thn (ha.run pos pins s σ H _ I h) fun us s1 ⟨vs, H1, I1, r1, q1⟩ => ?_) hs hpl))
  obtain ⟨i, j, k, n, e, ⟨c0, c1, c2, c3⟩, q⟩ := q1
  subst e
  cases r1 with
  | cons r rr =>
    cases rr with
    | cons r' rr =>
      cases rr with
      | cons r'' rr =>
        cases rr
        obtain ⟨t, rfl⟩ := r
        obtain ⟨t', rfl⟩ := r'
        obtain ⟨t'', rfl⟩ := r''
        exact call_range_3 c0 ⟨_, i, j, k, n, _, _, _, H1, rfl, IsRange.new _ _ _ _ _ _ _, c2, c3, I1.kept fun b u e => Heap.get?_push_of_some _ e, q⟩ (.inl (PyProof.noPylong_small c1))
def rgV3 (a c : Int) (n : Nat) : List V := (List.range n).map fun (i : Nat) => V.int (a + (i : Int) * c)
theorem rgV3_length (a c : Int) (n : Nat) : (rgV3 a c n).length = n := by unfold rgV3; rw [List.length_map, List.length_range]
theorem vals_rg3 {a c : Int} {n : Nat} {acc : Array Value} (h : ItemsOf (fun i v => ∃ t, v = .int (a + i * c) t) acc n) : Vals (rgV3 a c n) acc.toList := by
  have e : acc.toList.length = n := by rw [Array.length_toList]; exact h.1
  unfold rgV3
  rw [← e]
  refine vals_of_get acc.toList _ fun j u hj => ?_
  obtain ⟨t, rfl⟩ := h.2 j u (by rw [← hj, Array.getElem?_toList])
  exact ⟨t, rfl⟩
theorem pe_listR3 {te : L2.St → Hp → (Int → Int → Nat → Hp → Prop) → Prop} {p : Pos} (hc : X.calm = true) (hg : Gl X "list") (hm : X.mg "list" = none) (he : PR3 X e te) (na : starEach [e] X.env = (false, eval e X.env) :: starEach [] X.env := by rfl) :
    PE X (.Call (.Name "list" p) [e] [] pos) (fun σ H Q => te σ H fun a c n H1 => n ≤ big ∧ ∀ q, H1 q = none → Q (.ref q) (upd H1 q (.lst (rgV3 a c n)))) := by
  refine ⟨fun pins s σ H Q I h => ?_⟩
  refine Call_ (ld_blt I hg hm boot_list (PyProof.Rows.callWith_type1 (args_cons (thn (he pins s σ H _ I h) fun x s1 ⟨r, a, b, c, n, t, u, v, H1, ex, hr, hs, hn, I1, ok, q⟩ => args_nil ?_) na) na))
  subst ex
  refine call_list_range (n := n) (I1.ok.hd hc) hr hs hn (Nat.le_trans ok (by decide)) fun h' tk acc c' hk e' hi => ?_
  refine ⟨.ref s1.heap.objs.size, upd H1 s1.heap.objs.size (.lst (rgV3 a c n)), I1.laid hk (Nat.le_refl _) (show ObjOk X.prog X.w _ _ _ (.lst (rgV3 a c n)) from ⟨?_, acc.toList, c', vals_rg3 hi, ?_⟩), rfl, q _ (I1.hok.fresh (Nat.le_refl _))⟩
  · rw [rgV3_length]; exact big_line ok
  · rw [Array.toArray_toList]; exact e'
def lrgA (f : SA) : SA := fun ρ Q => f ρ fun ds => match ds with
  | [.int j] => (-(2 ^ 62) ≤ j ∧ j < 2 ^ 62 ∧ j.toNat ≤ big) ∧ Q (rngD 0 j)
  | [.int i, .int j] => (-(2 ^ 62) ≤ i ∧ i < 2 ^ 62 ∧ -(2 ^ 62) ≤ j ∧ j < 2 ^ 62 ∧ (j - i).toNat ≤ big) ∧ Q (rngD i j)
  | [.int i, .int j, .int c] => (R3 i j c ∧ cntR i j c ≤ big) ∧ Q (rng3D i j c)
  | _ => False
theorem lrgA_mono (mf : MonoE fa) : MonoE (lrgA fa) := fun ρ P Q hpq q => mf ρ _ _ (fun ds hd => by
    split at hd
    · exact ⟨hd.1, hpq _ hd.2⟩
    · exact ⟨hd.1, hpq _ hd.2⟩
    · exact ⟨hd.1, hpq _ hd.2⟩
    · exact hd.elim) q
theorem reps_rg {K : Kf} {rw : Option Addr} {F : Hp} {a c : Int} : ∀ n, Reps K rw F ((List.range n).map fun (k : Nat) => D.int (a + (k : Int) * c)) (rgV3 a c n) := fun n => by
  have : ((List.range n).map fun (k : Nat) => D.int (a + (k : Int) * c)) = ((List.range n).map fun (k : Nat) => (a + (k : Int) * c)).map D.int := by rw [List.map_map]; rfl
  rw [this]
  have e : rgV3 a c n = ((List.range n).map fun (k : Nat) => (a + (k : Int) * c)).map V.int := by unfold rgV3; rw [List.map_map]; rfl
  rw [e]
  exact Reps.of_ints
theorem rngD_one {i j : Int} : rngD i j = (List.range (j - i).toNat).map fun (k : Nat) => D.int (i + (k : Int) * 1) := by
  unfold rngD
  congr 1
  funext k
  rw [Int.mul_one]
theorem lrg_key {σ : L2.St} {H H1 F1 : Hp} {Q : VK} {Z : Zs} {F : Hp} {ρ : REnv} (r : R X.K Z F ρ σ H) (g1 : Gr X.K Z F H F1 H1) {es : List D} {a c : Int} {n : Nat} (e : es = ((List.range n).map fun (k : Nat) => D.int (a + (k : Int) * c)))
    (k : ∀ (p : Addr) (vs : List V) (F' H' : Hp), Gr X.K Z F H F' H' → H p = none → Fresh Z F' ρ σ p → H' p = some (HO.lst vs) → Reps X.K Z.rw F' es vs → Q (V.ref p) H') : ∀ q, H1 q = none → Q (.ref q) (upd H1 q (.lst (rgV3 a c n))) := fun q hq =>
  k q (rgV3 a c n) F1 _ (g1.trans (g1.b.lay0 hq)) (back_none r.base g1 hq) (fresh_of r g1 hq) upd_same (by rw [e]; exact reps_rg n)
abbrev lstR (t : L2.St → Hp → (Int → Int → Nat → Hp → Prop) → Prop) : TE := fun σ H Q => t σ H fun a c n H1 => n ≤ big ∧ ∀ q, H1 q = none → Q (.ref q) (upd H1 q (.lst (rgV3 a c n)))
def len1 (fa : SA) : SA := fun ρ Q => fa ρ fun ds => match ds with | [.int j] => Q [.int j] | _ => False
theorem F.lrg1 (ha : Ap X es fa) (h : PA X es (TQof X.K fa) → PE X e (lstR (tR1 (TQof X.K fa)))) : F X e (lrgA (len1 fa)) :=
  ⟨lrgA_mono (fun ρ P Q hpq q => ha.mono ρ _ _ (fun ds hd => by
      split at hd
      · exact hpq _ hd
      · exact hd.elim) q), PE.weak (h ha.run) fun σ H Q ⟨Z, F, ρ, r, q⟩ => ⟨Z, F, ρ, r, ha.mono ρ _ _ (fun ds hd vs F1 H1 g1 reps => by
    split at hd
    · rename_i j
      obtain ⟨hc, hd⟩ := hd
      obtain ⟨v, rfl, rep⟩ := reps.one
      exact ⟨j, by rw [rep.int], ⟨hc.1, hc.2.1⟩, hc.2.2, lrg_key r g1 (by rw [rngD_one, Int.sub_zero]) hd⟩
    · exact hd.elim) q⟩⟩
def len2 (fa : SA) : SA := fun ρ Q => fa ρ fun ds => match ds with | [.int i, .int j] => Q [.int i, .int j] | _ => False
theorem F.lrg2 (ha : Ap X es fa) (h : PA X es (TQof X.K fa) → PE X e (lstR (tR2 (TQof X.K fa)))) : F X e (lrgA (len2 fa)) :=
  ⟨lrgA_mono (fun ρ P Q hpq q => ha.mono ρ _ _ (fun ds hd => by
      split at hd
      · exact hpq _ hd
      · exact hd.elim) q), PE.weak (h ha.run) fun σ H Q ⟨Z, F, ρ, r, q⟩ => ⟨Z, F, ρ, r, ha.mono ρ _ _ (fun ds hd vs F1 H1 g1 reps => by
    split at hd
    · rename_i i j
      obtain ⟨hc, hd⟩ := hd
      obtain ⟨v, v2, rfl, rep, rep2⟩ := reps.two
      exact ⟨i, j, by rw [rep.int, rep2.int], ⟨hc.1, hc.2.1, hc.2.2.1, hc.2.2.2.1⟩, hc.2.2.2.2, lrg_key r g1 rngD_one hd⟩
    · exact hd.elim) q⟩⟩
def len3 (fa : SA) : SA := fun ρ Q => fa ρ fun ds => match ds with | [.int i, .int j, .int c] => Q [.int i, .int j, .int c] | _ => False
theorem F.lrg3 (ha : Ap X es fa) (h : PA X es (TQof X.K fa) → PE X e (lstR (tR3 (TQof X.K fa)))) : F X e (lrgA (len3 fa)) :=
  ⟨lrgA_mono (fun ρ P Q hpq q => ha.mono ρ _ _ (fun ds hd => by
      split at hd
      · exact hpq _ hd
      · exact hd.elim) q), PE.weak (h ha.run) fun σ H Q ⟨Z, F, ρ, r, q⟩ => ⟨Z, F, ρ, r, ha.mono ρ _ _ (fun ds hd vs F1 H1 g1 reps => by
    split at hd
    · rename_i i j c
      obtain ⟨hc, hd⟩ := hd
      obtain ⟨v, v2, v3, rfl, rep, rep2, rep3⟩ := reps.three
      exact ⟨i, j, c, _, by rw [rep.int, rep2.int, rep3.int], hc.1.rgc, hc.2, lrg_key r g1 rfl hd⟩
    · exact hd.elim) q⟩⟩
end

/-! ### x[j] op= e on a list of one's own -/
section
variable {X : Cx} {e a b c : Expr} {f g k : SE} {pos : Pos} {st : Stmt}
theorem pget_list : PGet X (rIxL X.K) := fun pins s σ H o i ov iv Q I rx ry h => by
  obtain ⟨p, xs, i, z, rfl, rfl, hq, he, q⟩ := h
  cases rx
  obtain ⟨t, rfl⟩ := ry
  obtain ⟨its, r, pl, hz⟩ := I.list hq
  obtain ⟨j, h1, h2, h3, h4, h5⟩ := atI_get he
  obtain ⟨w, ew, rw'⟩ := r.get h2
  have hl := r.length
  have hn := line63
  have fin : EP X pins σ Q w s := ⟨z, H, I, rw', q⟩
  by_cases h0 : 0 ≤ i
  · have hj : i.toNat = j := by
      rw [seqIndex_of h0 h5] at h1
      exact Option.some.inj h1
    exact wpAny_getItem_list pl.isList h0 (by omega) (by rw [hj]; simpa using ew) fin
  · have hj : (i + (its.toArray.size : Int)).toNat = j := by
      rw [seqIndex_neg (by omega) h4] at h1
      rw [List.size_toArray, ← hl]
      exact Option.some.inj h1
    exact wpAny_getItem_list_neg pl.isList (by omega) (by rw [List.size_toArray] <;> omega) (by omega) (by rw [hj]; simpa using ew) fin
def augI (i : Nat) (o : O2) (g f : SE) : SS := fun ρ k => match ρ[i]? with
  | some (some (.own ds)) => g ρ fun z => match z with
    | .int j => (match ixN ds.length j with
      | some m => (match ds[m]? with
        | some x => f ρ fun y => o x y fun d => k.nx (ρ.set i (some (.own (ds.set m d))))
        | none => False)
      | none => False)
    | _ => False
  | _ => False
theorem augI_mono {i : Nat} {o : O2} (mo : Mono2 o) (mg : MonoE g) (mf : MonoE f) : MonoS (augI i o g f) := fun ρ k l hk q => by
  unfold augI at *
  split at q
  · exact mg ρ _ _ (fun z hz => by
      split at hz
      · split at hz
        · split at hz
          · exact mf ρ _ _ (fun y hy => mo _ _ _ _ (fun d hd => hk.1 _ hd) hy) hz
          · exact hz.elim
        · exact hz.elim
      · exact hz.elim) q
  · exact q.elim
theorem S.augIN {i : Nat} {o : O2} {r : R2} (hs : OpS X.K r o) (mo : Mono2 o) (hg : P X b g) (hf : P X a f) (hp : PE X b (TPof X.K g) → PE X a (TPof X.K f) → PS X st (tAugS (tVar i) (TPof X.K g) (TPof X.K f) (rIxL X.K) r rSetL)) : S X st (augI i o g f) := ⟨augI_mono mo hg.mono hf.mono, PS.weak (hp hg.run hf.run) fun D σ H ⟨Z, F, ρ, rr, q⟩ => by
  unfold augI at q
  split at q
  · rename_i ds hd
    obtain ⟨a, vs, e1, e2, e3, e6⟩ := rr.ownAt hd
    refine ⟨.ref a, e1, Z, F, ρ, rr, hg.mono ρ _ _ (fun z hz u F1 H1 g1 rq => ?_) q⟩
    split at hz
    · rename_i j
      split at hz
      · rename_i m hm
        split at hz
        · rename_i x hx
          obtain ⟨v, hv, hr⟩ := e3.get hx
          have h1 := g1.h a _ e6 e2
          have hat : atI vs j = some v := by
            unfold atI
            rw [e3.length, hm]
            exact hv
          refine ⟨a, vs, j, v, rfl, rq.int, SqL.of h1, hat, Z, F1, ρ, rr.grow g1, hf.mono ρ _ _ (fun y hy u' F2 H2 g2 ry => ?_) hz⟩
          have g12 := g1.trans g2
          refine hs Z F2 H2 x y v u' _ g12.b (.inl (Rep.ex g12.f _ _ hr)) ry (mo _ _ _ _ (fun d hd' w F3 H3 g3 rep => ?_) hy)
          have g13 := g12.trans g3
          exact ⟨a, vs, j, m, rfl, rq.int, g13.h a _ e6 e2, by rw [e3.length]; exact hm, hd' _ F3 _ g13.f ((rr.grow g13).mut hd e1 (g13.h a _ e6 e2) (Reps.set rep m (Reps.ex g13.f _ _ e3)))⟩
        · exact hz.elim
      · exact hz.elim
    · exact hz.elim
  · exact q.elim⟩
end

/-! ### a tuple by a number, any number -/
theorem tuple_mul1 (l : Addr) (items : Array Value) (n : Nat) (dd : Option Addr) (sl : Array (Option Value)) (x : Int) (u : Tok) (c0 : (decide (x < -(2 ^ 63)) || decide (x ≥ 2 ^ 63)) = false) (c1 : (items.isEmpty || x == 1) = true) :
    Meets (Builtin.«tuple.__mul__» ⟨[.ref l, .int x u], []⟩) (fun _ R s => s.heap.get? l = some { cls := .type "tuple", dict := dd, data := .seq items n, slots := sl } ∧ R (.ok (.ret (Value.ref l))) s) :=
  .of_wp fun prog w A R s h => by
    obtain ⟨hp, g, d, tk, os⟩ := s
    obtain ⟨hl, h⟩ := h
    have f1 := AutoSeq1.idx_int
    wp_walk using wpAny_loadPart' hl
    repeat (first
      | (refine wpAny_ite_false (decide_eq_false (by rw [c0]; exact Bool.false_ne_true)) ?_; wp_walk using wpAny_loadPart' hl)
      | (refine wpAny_ite_true (decide_eq_true c1) ?_; wp_walk using wpAny_loadPart' hl))
    exact ⟨_, rfl, h⟩
theorem tuple_mul0 (l : Addr) (items : Array Value) (n : Nat) (dd : Option Addr) (sl : Array (Option Value)) (x : Int) (u : Tok) (c0 : (decide (x < -(2 ^ 63)) || decide (x ≥ 2 ^ 63)) = false) (c1 : (items.isEmpty || x == 1) = false) (c2 : (decide (x ≤ 0) || items.isEmpty) = true) :
    Meets (Builtin.«tuple.__mul__» ⟨[.ref l, .int x u], []⟩) (fun _ R s => s.heap.get? l = some { cls := .type "tuple", dict := dd, data := .seq items n, slots := sl } ∧
      R (.ok (.ret (Value.ref s.heap.objs.size))) { s with heap := s.heap.push { cls := Value.type "tuple", data := Data.seq #[] }, toks := s.toks }) :=
  .of_wp fun prog w A R s h => by
    obtain ⟨hp, g, d, tk, os⟩ := s
    obtain ⟨hl, h⟩ := h
    have f1 := AutoSeq1.idx_int
    wp_walk using wpAny_loadPart' hl
    repeat (first
      | (refine wpAny_ite_false (decide_eq_false (by rw [c0]; exact Bool.false_ne_true)) ?_; wp_walk using wpAny_loadPart' hl)
      | (refine wpAny_ite_false (decide_eq_false (by rw [c1]; exact Bool.false_ne_true)) ?_; wp_walk using wpAny_loadPart' hl)
      | (refine wpAny_ite_true (decide_eq_true c2) ?_; wp_walk using wpAny_loadPart' hl))
    exact ⟨_, rfl, h⟩
def rRepA (K : PySem.W.Frag) : R2 := fun x y H Q => ∃ l k xs, x = .ref l ∧ y = .int k ∧ SqT K H l xs ∧ -1000 ≤ k ∧ k ≤ 1000 ∧ xs.length ≤ 1000 ∧
  ((xs = [] ∨ k = 1) → Q (.ref l) H) ∧ (xs ≠ [] → k ≠ 1 → ∀ p, H p = none → Q (.ref p) (upd H p (.tup (List.replicate k.toNat xs).flatten)))
section
variable {X : Cx} {e a b c : Expr} {f g k : SE} {pos : Pos}
theorem op_repA : OpR X (binaryOp .Mult) (rRepA X.K) := by
  intro pins s σ H x y v u Q I rx ry h
  obtain ⟨l, k, xs, rfl, rfl, hT, h1, h2, hz, q1, q2⟩ := h
  by_cases hk : xs = [] ∨ k = 1
  · cases rx
    obtain ⟨t, rfl⟩ := ry
    obtain ⟨its, r, ⟨⟨cls, dd, data, sl⟩, ho, hc, n, hd⟩, hs⟩ := I.tuple hT
    simp only at hc hd
    subst hc hd
    have hle : its.length = xs.length := r.length.symm
    have c0 : (decide (k < -(2 ^ 63)) || decide (k ≥ 2 ^ 63)) = false := by
      rw [decide_eq_false (by omega), decide_eq_false (by omega)] <;> rfl
    have c1 : (its.toArray.isEmpty || k == 1) = true := by
      rcases hk with e | e
      · rw [e] at hle
        rw [List.eq_nil_of_length_eq_zero hle]; rfl
      · rw [e]; exact Bool.or_true _
    exact wpAny_binaryOp_repeat_ref (T := "tuple") (U := "int") (by decide) ⟨_, ho, rfl⟩ (fun s' => typeIs_int s' k t) noFill_tuple_mul F.fills_int_mul F.slot_int_rmul repeat_tuple F.slot_int_index.lookup
      (call_meets F.slot_int_rmul (typeIs_int s k t) F.entry_int_rmul (F.args_int_rmul_2 _ _) (int_rmul_tuple k t l its.toArray n dd sl)
        ⟨ho, rfl, ⟨_, ho, rfl⟩, call_meets F.slot_tuple_mul ⟨_, ho, rfl⟩ F.entry_tuple_mul (F.args_tuple_mul_2 _ _) (tuple_mul1 l its.toArray n dd sl k t c0 c1) ⟨ho, ⟨.ref l, H, I, rfl, q1 hk⟩⟩⟩)
  · have hne : xs ≠ [] := fun e => hk (.inl e)
    have hk1 : k ≠ 1 := fun e => hk (.inr e)
    by_cases hp : 2 ≤ k
    · exact op_repT pins s σ H _ _ v u Q I rx ry ⟨l, k, xs, rfl, rfl, hT, hne, hp, h2, hz, q2 hne hk1⟩
    · cases rx
      obtain ⟨t, rfl⟩ := ry
      obtain ⟨its, r, ⟨⟨cls, dd, data, sl⟩, ho, hc, n, hd⟩, hs⟩ := I.tuple hT
      simp only at hc hd
      subst hc hd
      have hle : its.length = xs.length := r.length.symm
      have hi : its.toArray.isEmpty = false := by
        cases its with
        | nil => exact absurd (List.eq_nil_of_length_eq_zero hle.symm) hne
        | cons a b => rfl
      have c0 : (decide (k < -(2 ^ 63)) || decide (k ≥ 2 ^ 63)) = false := by
        rw [decide_eq_false (by omega), decide_eq_false (by omega)] <;> rfl
      have c1 : (its.toArray.isEmpty || k == 1) = false := by
        rw [hi, Bool.false_or]
        exact beq_eq_false_iff_ne.mpr hk1
      have c2 : (decide (k ≤ 0) || its.toArray.isEmpty) = true := by
        rw [decide_eq_true (by omega)]; rfl
      have e0 : k.toNat = 0 := by omega
      have q := q2 hne hk1
      rw [e0] at q
      refine wpAny_binaryOp_repeat_ref (T := "tuple") (U := "int") (by decide) ⟨_, ho, rfl⟩ (fun s' => typeIs_int s' k t) noFill_tuple_mul F.fills_int_mul F.slot_int_rmul repeat_tuple F.slot_int_index.lookup
        (call_meets F.slot_int_rmul (typeIs_int s k t) F.entry_int_rmul (F.args_int_rmul_2 _ _) (int_rmul_tuple k t l its.toArray n dd sl)
          ⟨ho, rfl, ⟨_, ho, rfl⟩, call_meets F.slot_tuple_mul ⟨_, ho, rfl⟩ F.entry_tuple_mul (F.args_tuple_mul_2 _ _) (tuple_mul0 l its.toArray n dd sl k t c0 c1 c2) ⟨ho, ?_⟩⟩)
      refine ⟨.ref s.heap.objs.size, _, I.laid (t' := s.toks) (o := .tup []) (fun b ob q => Heap.get?_push_of_some _ q) (Nat.le_refl _) ?_, rfl, q _ (I.hok.fresh (Nat.le_refl _))⟩
      exact ⟨Nat.zero_le _, [], .nil, IsTup.new _ _⟩
/-- ints, a tuple by a number -/
def mulT : O2 := fun x y Q => match x, y with
  | .int i, .int j => mulOk i j ∧ Q (.int (i * j))
  | .tup xs, .int k => (-1000 ≤ k ∧ k ≤ 1000 ∧ xs.length ≤ 1000) ∧ Q (.tup (List.replicate k.toNat xs).flatten)
  | _, _ => False
theorem mulT_mono : Mono2 mulT := fun x y P Q h q => by
  unfold mulT at *
  split at q
  · exact ⟨q.1, h _ q.2⟩
  · exact ⟨q.1, h _ q.2⟩
  · exact q.elim
theorem mulT_s {K : Kf} : OpS K (fun x y H Q => rI mulOk (fun i j => .int (i * j)) x y H Q ∨ rRepA K x y H Q) mulT := fun Z F H dx dy x y Q b rx ry q => by
  unfold mulT at q
  split at q
  · rename_i i j
    exact .inl ⟨i, j, rx.int, ry.int, q.1, q.2 _ F H (Gr.refl b) rfl⟩
  · rename_i xs k
    obtain ⟨a, us, rfl, e1, e2, e3⟩ := rx.tup b
    obtain ⟨⟨h1, h2, h3⟩, q⟩ := q
    refine .inr ⟨a, k, us, rfl, ry.int, e1, h1, h2, by rw [e2.length]; exact h3, fun hk => ?_, fun hne hk p hp => ?_⟩
    · refine q _ F H (Gr.refl b) ⟨a, us, rfl, e3, ?_⟩
      rcases hk with hk | hk
      · subst hk
        have hx : xs = [] := List.eq_nil_of_length_eq_zero e2.length.symm
        subst hx
        have : ∀ n : Nat, (List.replicate n ([] : List D)).flatten = [] := fun n => by induction n with
          | zero => rfl
          | succ n ih => rw [List.replicate_succ, List.flatten_cons, ih]; rfl
        rw [this]; exact e2
      · subst hk
        show Reps K Z.rw F (List.replicate 1 xs).flatten us
        have : (List.replicate 1 xs).flatten = xs := by simp
        rw [this]; exact e2
    · exact q _ _ _ (b.lay hp) ⟨p, _, rfl, .inl (.inl upd_same), Reps.ex (Ex.upd (b.fh.none hp)) _ _ (Reps.rep e2 _)⟩
  · exact q.elim
theorem E.mulT (ha : P X a f) (hb : P X b g) : E X (.BinOp a .Mult b pos) (sOp mulT f g) := E.op (OpR.or op_mulS op_repA) mulT_s mulT_mono ha hb
end

/-! ### sum, max, min of a list or a tuple of ints -/
section
variable {prog : Program} {w : World} {A : Around} {E : Value → Shared → Prop} {s : Shared} {l : Addr} {its : List Value} {ns : List Int} {Q : Value → Shared → Prop}
theorem numAt_map (xs : Array (Int × Tok)) : ∀ i, numAt xs i = numAt xs i := fun _ => rfl
theorem sum_rawT (hh : A.handled = none) (hl : s.heap.IsTuple l its.toArray) (hi : IntsAre its ns)
    (h : ∀ h' tk t', (∀ b o, s.heap.get? b = some o → h'.get? b = some o) → Q (.int ns.sum t') { s with heap := h', toks := tk }) : wpAny (model prog w) A (call (.builtin "sum") [.ref l]) Q E s := by
  obtain ⟨xs, e⟩ := hi.allInts.items
  have hn : numsOf (intItems xs).toList = ns := by rw [← e]; exact hi.numsOf
  rw [nums_intItems] at hn
  rw [e] at hl
  have hlt : l < s.heap.objs.size := by obtain ⟨_, e, _⟩ := id hl; exact Heap.lt_size e
  refine call_sum_walkG (wpAny_pyIter_tuple hl ?_)
  refine ⟨_, [_, l], [_], _, _, _, numAt xs, rfl, Walks.tuple (A := A.in1) hh _ l (Nat.ne_of_lt hlt) (intItems xs), ⟨⟨_, Heap.get?_push_size _ rfl, rfl, rfl⟩, hl.push _⟩, fun b hb => ?_, (fun _ _ => intItems_at), fun h' tk t' hk => ?_⟩
  · show b < (s.heap.push _).objs.size
    rw [Heap.size_push]
    rcases List.mem_cons.mp hb with e | e
    · rw [e]; exact Nat.lt_succ_self _
    · have : b = l := by simpa using e
      rw [this]; exact Nat.lt_succ_of_lt hlt
  · have := h h' tk t' (fun b o e => hk b o (fun hb => by
      have : b = s.heap.objs.size := by simpa using hb
      subst this
      exact absurd (Heap.lt_size e) (Nat.lt_irrefl _)) (Heap.get?_push_of_some _ e))
    rw [← hn] at this
    have e2 : preSum (numAt xs) xs.size = (xs.toList.map (·.1)).sum := by rw [preSum_eq, List.take_of_length_le (by simp)]
    show Q (.int (preSum (numAt xs) (intItems xs).size) t') _
    rw [show (intItems xs).size = xs.size by simp [intItems], e2]
    exact this
theorem iterT (hl : s.heap.IsTuple l its.toArray) {xs : Array (Int × Tok)} (e : its.toArray = intItems xs) {Q : Value → Shared → Prop} {E : Value → Shared → Prop} {A : Around}
    (h : ∀ s₂ : Shared, s₂ = { s with heap := s.heap.push { cls := .type "tuple_iterator", data := .fields #[.ref l, .int 0 0] } } → (s₂.heap.IsTupleIter s.heap.objs.size l 0 ∧ s₂.heap.IsTuple l (intItems xs)) →
      (∀ b ∈ [s.heap.objs.size, l], b < s₂.heap.objs.size) → l ≠ s.heap.objs.size → Q (.ref s.heap.objs.size) s₂) : wpAny (model prog w) A (pyIter (.ref l)) Q E s := by
  rw [e] at hl
  have hlt : l < s.heap.objs.size := by obtain ⟨_, e, _⟩ := id hl; exact Heap.lt_size e
  refine wpAny_pyIter_tuple hl (h _ rfl ⟨⟨_, Heap.get?_push_size _ rfl, rfl, rfl⟩, hl.push _⟩ (fun b hb => ?_) (Nat.ne_of_lt hlt))
  show b < (s.heap.push _).objs.size
  rw [Heap.size_push]
  rcases List.mem_cons.mp hb with e | e
  · rw [e]; exact Nat.lt_succ_self _
  · have : b = l := by simpa using e
    rw [this]; exact Nat.lt_succ_of_lt hlt
theorem max_rawT (hh : A.handled = none) (hl : s.heap.IsTuple l its.toArray) (hi : IntsAre its ns) (hne : 0 < ns.length)
    (h : ∀ h' tk M t', (∀ b o, s.heap.get? b = some o → h'.get? b = some o) → M ∈ ns → (∀ a, a ∈ ns → a ≤ M) → Q (.int M t') { s with heap := h', toks := tk }) : wpAny (model prog w) A (call (.builtin "max") [.ref l]) Q E s := by
  obtain ⟨xs, e⟩ := hi.allInts.items
  have hn : numsOf (intItems xs).toList = ns := by rw [← e]; exact hi.numsOf
  rw [nums_intItems] at hn
  subst hn
  have hsz : 0 < xs.size := by simpa using hne
  refine call_max_walk (iterT hl e fun s₂ e2 st hfp hlI => ?_)
  subst e2
  refine ⟨_, _, _, _, _, _, _, rfl, Walks.tuple (A := A.in1) hh _ l hlI (intItems xs), st, hfp, by simpa [intItems] using hsz, CmpOf.ints_gt (numAt xs) (fun _ _ => intItems_at), fun v h' tk hP hk => ?_⟩
  have hv : (intItems xs)[argBest (fun i j => decide (numAt xs i > numAt xs j)) (xs.size - 1)]? = some v := by simpa [intItems] using hP
  obtain ⟨t, rfl⟩ := intItems_at hv
  obtain ⟨h1, h2⟩ := argBest_gt (numAt xs) (xs.size - 1)
  refine h h' tk _ t (fun b o e => hk b o (fun hb => by
    have : b = s.heap.objs.size := by simpa using hb
    subst this
    exact absurd (Heap.lt_size e) (Nat.lt_irrefl _)) (Heap.get?_push_of_some _ e)) ?_ fun a ha => ?_
  · rw [numAt_eq]; exact PySem.getD_mem (by rw [List.length_map, Array.length_toList]; omega)
  · obtain ⟨j, hj, rfl⟩ := mem_getD ha
    rw [List.length_map, Array.length_toList] at hj
    rw [← numAt_eq]; exact h2 j (by omega)
theorem min_rawT (hh : A.handled = none) (hl : s.heap.IsTuple l its.toArray) (hi : IntsAre its ns) (hne : 0 < ns.length)
    (h : ∀ h' tk M t', (∀ b o, s.heap.get? b = some o → h'.get? b = some o) → M ∈ ns → (∀ a, a ∈ ns → M ≤ a) → Q (.int M t') { s with heap := h', toks := tk }) : wpAny (model prog w) A (call (.builtin "min") [.ref l]) Q E s := by
  obtain ⟨xs, e⟩ := hi.allInts.items
  have hn : numsOf (intItems xs).toList = ns := by rw [← e]; exact hi.numsOf
  rw [nums_intItems] at hn
  subst hn
  have hsz : 0 < xs.size := by simpa using hne
  refine call_min_walk (iterT hl e fun s₂ e2 st hfp hlI => ?_)
  subst e2
  refine ⟨_, _, _, _, _, _, _, rfl, Walks.tuple (A := A.in1) hh _ l hlI (intItems xs), st, hfp, by simpa [intItems] using hsz, CmpOf.ints_lt (numAt xs) (fun _ _ => intItems_at), fun v h' tk hP hk => ?_⟩
  have hv : (intItems xs)[argBest (fun i j => decide (numAt xs i < numAt xs j)) (xs.size - 1)]? = some v := by simpa [intItems] using hP
  obtain ⟨t, rfl⟩ := intItems_at hv
  obtain ⟨h1, h2⟩ := argBest_lt (numAt xs) (xs.size - 1)
  refine h h' tk _ t (fun b o e => hk b o (fun hb => by
    have : b = s.heap.objs.size := by simpa using hb
    subst this
    exact absurd (Heap.lt_size e) (Nat.lt_irrefl _)) (Heap.get?_push_of_some _ e)) ?_ fun a ha => ?_
  · rw [numAt_eq]; exact PySem.getD_mem (by rw [List.length_map, Array.length_toList]; omega)
  · obtain ⟨j, hj, rfl⟩ := mem_getD ha
    rw [List.length_map, Array.length_toList] at hj
    rw [← numAt_eq]; exact h2 j (by omega)
end
def rSumT (K : PySem.W.Frag) : List V → Hp → VK → Prop := fun vs H Q => ∃ (a : Addr) (ns : List Int), vs = [V.ref a] ∧ SqT K H a (ns.map V.int) ∧ Q (.int ns.sum) H
def rMaxT (K : PySem.W.Frag) : List V → Hp → VK → Prop := fun vs H Q => ∃ (a : Addr) (ns : List Int), vs = [V.ref a] ∧ SqT K H a (ns.map V.int) ∧ 0 < ns.length ∧ ∀ m, m ∈ ns → (∀ y, y ∈ ns → y ≤ m) → Q (.int m) H
def rMinT (K : PySem.W.Frag) : List V → Hp → VK → Prop := fun vs H Q => ∃ (a : Addr) (ns : List Int), vs = [V.ref a] ∧ SqT K H a (ns.map V.int) ∧ 0 < ns.length ∧ ∀ m, m ∈ ns → (∀ y, y ∈ ns → m ≤ y) → Q (.int m) H
section
variable {X : Cx} {K : Kf}
theorem IsTup.isT {h : Heap} {a : Addr} {xs : Array Value} (p : IsTup h a xs) : h.IsTuple a xs := p
theorem cr_sumT (hc : X.calm = true) : CallR X (.builtin "sum") (rSumT X.K) := by
  intro pins s σ H vs us Q I r h
  obtain ⟨a, ns, rfl, hs, q⟩ := h
  obtain ⟨its, rv, hl, _⟩ := I.tuple hs
  rw [Vals.ref1 r]
  exact sum_rawT (I.ok.hd hc) hl rv.ints fun h' tk t' hk => ⟨.int _, H, I.kept hk, ⟨_, rfl⟩, q⟩
theorem cr_maxT (hc : X.calm = true) : CallR X (.builtin "max") (rMaxT X.K) := by
  intro pins s σ H vs us Q I r h
  obtain ⟨a, ns, rfl, hs, hne, q⟩ := h
  obtain ⟨its, rv, hl, _⟩ := I.tuple hs
  rw [Vals.ref1 r]
  exact max_rawT (I.ok.hd hc) hl rv.ints hne fun h' tk m t' hk h1 h2 => ⟨.int _, H, I.kept hk, ⟨_, rfl⟩, q m h1 h2⟩
theorem cr_minT (hc : X.calm = true) : CallR X (.builtin "min") (rMinT X.K) := by
  intro pins s σ H vs us Q I r h
  obtain ⟨a, ns, rfl, hs, hne, q⟩ := h
  obtain ⟨its, rv, hl, _⟩ := I.tuple hs
  rw [Vals.ref1 r]
  exact min_rawT (I.ok.hd hc) hl rv.ints hne fun h' tk m t' hk h1 h2 => ⟨.int _, H, I.kept hk, ⟨_, rfl⟩, q m h1 h2⟩
/-- .. of a list or a tuple -/
def onIntsA (d : D) (p : List Int → Prop) : Prop := match d with
  | .lst ds => (match intsD ds with
    | some ns => p ns
    | none => False)
  | .tup ds => (match intsD ds with
    | some ns => p ns
    | none => False)
  | _ => False
theorem onIntsA_imp {d : D} {p q : List Int → Prop} (h : onIntsA d p) (hpq : ∀ ns, p ns → q ns) : onIntsA d q := by
  unfold onIntsA at *
  split at h
  · split at h
    · exact hpq _ h
    · exact h
  · split at h
    · exact hpq _ h
    · exact h
  · exact h
theorem onIntsA_at {Z : Zs} {F H : Hp} {d : D} {v : V} {p : List Int → Prop} (b : Base K Z F H) (r : RepP K Z.rw F H d v) (h : onIntsA d p) : ∃ a ns, v = V.ref a ∧ (SqL K H a (ns.map V.int) ∨ SqT K H a (ns.map V.int)) ∧ p ns := by
  unfold onIntsA at h
  split at h
  · split at h
    · rename_i ds ns hns
      obtain ⟨a, vs, rfl, e1, e2, _⟩ := r.lst b
      rw [intsD_eq hns] at e2
      have := e2.ints
      subst this
      exact ⟨a, ns, rfl, .inl (SqL.of e1), h⟩
    · exact h.elim
  · split at h
    · rename_i ds ns hns
      obtain ⟨a, vs, rfl, e1, e2, _⟩ := r.tup b
      rw [intsD_eq hns] at e2
      have := e2.ints
      subst this
      exact ⟨a, ns, rfl, .inr e1, h⟩
    · exact h.elim
  · exact h.elim
def sumA : O1 := fun x Q => onIntsA x fun ns => Q (.int ns.sum)
theorem sumA_mono : Mono1 sumA := fun x P Q h q => onIntsA_imp q fun ns => h _
theorem sumA_s : CallS K (fun xs H Q => rSum K xs H Q ∨ rSumT K xs H Q) (call1 sumA) := call1_s fun Z F H d v Q b r q => by
  obtain ⟨a, ns, rfl, e1, q⟩ := onIntsA_at b r q
  rcases e1 with e1 | e1
  · exact .inl ⟨a, ns, rfl, e1, q _ F H (Gr.refl b) rfl⟩
  · exact .inr ⟨a, ns, rfl, e1, q _ F H (Gr.refl b) rfl⟩
def maxA : O1 := fun x Q => onIntsA x fun ns => ns ≠ [] ∧ Q (.int (maxI ns))
def minA : O1 := fun x Q => onIntsA x fun ns => ns ≠ [] ∧ Q (.int (minI ns))
theorem maxA_mono : Mono1 maxA := fun x P Q h q => onIntsA_imp q fun ns z => ⟨z.1, h _ z.2⟩
theorem minA_mono : Mono1 minA := fun x P Q h q => onIntsA_imp q fun ns z => ⟨z.1, h _ z.2⟩
theorem maxA_s : CallS K (fun xs H Q => rMax K xs H Q ∨ rMaxT K xs H Q) (call1 maxA) := call1_s fun Z F H d v Q b r q => by
  obtain ⟨a, ns, rfl, e1, hne, q⟩ := onIntsA_at b r q
  have key : ∀ m, m ∈ ns → (∀ y, y ∈ ns → y ≤ m) → Q (.int m) H := fun m h1 h2 => by
    have e : m = maxI ns := Int.le_antisymm ((maxI_mem hne).2 m h1) (h2 _ (maxI_mem hne).1)
    rw [e]; exact q _ F H (Gr.refl b) rfl
  rcases e1 with e1 | e1
  · exact .inl ⟨a, ns, rfl, e1, List.length_pos_iff.mpr hne, key⟩
  · exact .inr ⟨a, ns, rfl, e1, List.length_pos_iff.mpr hne, key⟩
theorem minA_s : CallS K (fun xs H Q => rMin K xs H Q ∨ rMinT K xs H Q) (call1 minA) := call1_s fun Z F H d v Q b r q => by
  obtain ⟨a, ns, rfl, e1, hne, q⟩ := onIntsA_at b r q
  have key : ∀ m, m ∈ ns → (∀ y, y ∈ ns → m ≤ y) → Q (.int m) H := fun m h1 h2 => by
    have e : m = minI ns := Int.le_antisymm (h2 _ (minI_mem hne).1) ((minI_mem hne).2 m h1)
    rw [e]; exact q _ F H (Gr.refl b) rfl
  rcases e1 with e1 | e1
  · exact .inl ⟨a, ns, rfl, e1, List.length_pos_iff.mpr hne, key⟩
  · exact .inr ⟨a, ns, rfl, e1, List.length_pos_iff.mpr hne, key⟩
end

/-! ### x in xs -/
section
variable {X : Cx} {K : Kf} {e a b c : Expr} {f g k : SE} {pos : Pos}
def rInT (K : PySem.W.Frag) (neg : Bool) : R2 := fun x y H Q => ∃ d ds, Dp K H x d ∧ Dp K H y (.tuple ds) ∧ SeqAt.shaped d = true ∧ SeqAt.shaped (.tuple ds) = true ∧ Q (.bl (if neg then !ds.any fun z => PyData.eqv z d else ds.any fun z => PyData.eqv z d)) H
theorem op_inT (hu : X.A.units + 65 < cLine) : OpR X (compareOp .In) (rInT X.K false) := by
  intro pins s σ H x y v u Q I rx ry h
  obtain ⟨d, ds, hd, he, sd, se, q⟩ := h
  obtain ⟨as, r1⟩ := Dp.reads I d x v hd rx
  obtain ⟨bs, r2⟩ := Dp.reads I (.tuple ds) y u he ry
  exact SeqAt.in_tuple_reads r2 r1 (SeqAt.canLay_of_shaped se) (SeqAt.canLay_of_shaped sd) (room_in_shaped sd hu) ⟨.bl _, H, I, rfl, q⟩
theorem op_notInT (hu : X.A.units + 65 < cLine) : OpR X (compareOp .NotIn) (rInT X.K true) := by
  intro pins s σ H x y v u Q I rx ry h
  obtain ⟨d, ds, hd, he, sd, se, q⟩ := h
  obtain ⟨as, r1⟩ := Dp.reads I d x v hd rx
  obtain ⟨bs, r2⟩ := Dp.reads I (.tuple ds) y u he ry
  exact SeqAt.notIn_tuple_reads r2 r1 (SeqAt.canLay_of_shaped se) (SeqAt.canLay_of_shaped sd) (room_in_shaped sd hu) ⟨.bl _, H, I, rfl, q⟩
def inB (x : D) (ds : List D) : Bool := ds.any fun z => eqD z x
theorem pyl_any (x : D) : ∀ ds : List D, ((D.pyl ds).any fun z => PyData.eqv z x.py) = inB x ds
  | [] => rfl
  | d :: ds => by
    show (PyData.eqv d.py x.py || (D.pyl ds).any fun z => PyData.eqv z x.py) = (eqD d x || ds.any fun z => eqD z x)
    rw [pyl_any x ds]; rfl
def inO : O2 := fun x y Q => match y with
  | .lst ds => okD x = true ∧ okD (.lst ds) = true ∧ Q (.bl (inB x ds))
  | .tup ds => okD x = true ∧ okD (.tup ds) = true ∧ Q (.bl (inB x ds))
  | _ => False
def ninO : O2 := fun x y Q => match y with
  | .lst ds => okD x = true ∧ okD (.lst ds) = true ∧ Q (.bl (!inB x ds))
  | .tup ds => okD x = true ∧ okD (.tup ds) = true ∧ Q (.bl (!inB x ds))
  | _ => False
theorem inO_mono : Mono2 inO := fun x y P Q h q => by
  unfold inO at *
  split at q
  · exact ⟨q.1, q.2.1, h _ q.2.2⟩
  · exact ⟨q.1, q.2.1, h _ q.2.2⟩
  · exact q.elim
theorem ninO_mono : Mono2 ninO := fun x y P Q h q => by
  unfold ninO at *
  split at q
  · exact ⟨q.1, q.2.1, h _ q.2.2⟩
  · exact ⟨q.1, q.2.1, h _ q.2.2⟩
  · exact q.elim
theorem okD_parts {d : D} (h : okD d = true) : d.pure = true ∧ SeqAt.shaped d.py = true := Bool.and_eq_true_iff.mp h
theorem inO_s : OpS K (fun x y H Q => rInD K x y H Q ∨ rInT K false x y H Q) inO := fun Z F H dx dy x y Q b rx ry q => by
  unfold inO at q
  split at q
  · rename_i ds
    obtain ⟨h1, h2, q⟩ := q
    obtain ⟨p1, s1⟩ := okD_parts h1
    obtain ⟨p2, s2⟩ := okD_parts h2
    refine .inl ⟨dx.py, D.pyl ds, dp_ofP b p1 rx, dp_ofP b p2 ry, s1, s2, ?_⟩
    rw [pyl_any]; exact q _ F H (Gr.refl b) rfl
  · rename_i ds
    obtain ⟨h1, h2, q⟩ := q
    obtain ⟨p1, s1⟩ := okD_parts h1
    obtain ⟨p2, s2⟩ := okD_parts h2
    refine .inr ⟨dx.py, D.pyl ds, dp_ofP b p1 rx, dp_ofP b p2 ry, s1, s2, ?_⟩
    rw [pyl_any]; exact q _ F H (Gr.refl b) rfl
  · exact q.elim
theorem ninO_s : OpS K (fun x y H Q => rNotInD K x y H Q ∨ rInT K true x y H Q) ninO := fun Z F H dx dy x y Q b rx ry q => by
  unfold ninO at q
  split at q
  · rename_i ds
    obtain ⟨h1, h2, q⟩ := q
    obtain ⟨p1, s1⟩ := okD_parts h1
    obtain ⟨p2, s2⟩ := okD_parts h2
    refine .inl ⟨dx.py, D.pyl ds, dp_ofP b p1 rx, dp_ofP b p2 ry, s1, s2, ?_⟩
    rw [pyl_any]; exact q _ F H (Gr.refl b) rfl
  · rename_i ds
    obtain ⟨h1, h2, q⟩ := q
    obtain ⟨p1, s1⟩ := okD_parts h1
    obtain ⟨p2, s2⟩ := okD_parts h2
    refine .inr ⟨dx.py, D.pyl ds, dp_ofP b p1 rx, dp_ofP b p2 ry, s1, s2, ?_⟩
    rw [pyl_any]; exact q _ F H (Gr.refl b) rfl
  · exact q.elim
abbrev R1 (X : Cx) : Prop := X.A.units + 65 < cLine
theorem E.in (hu : R1 X) (ha : P X a f) (hb : P X b g) (hm : behindInMarks .In b = false := by with_unfolding_all rfl) : E X (.Compare a [.In] [b] pos) (sOp inO f g) := E.cmp (OpR.or (op_inD hu) (op_inT hu)) inO_s inO_mono hm ha hb
theorem E.nin (hu : R1 X) (ha : P X a f) (hb : P X b g) (hm : behindInMarks .NotIn b = false := by with_unfolding_all rfl) : E X (.Compare a [.NotIn] [b] pos) (sOp ninO f g) := E.cmp (OpR.or (op_notInD hu) (op_notInT hu)) ninO_s ninO_mono hm ha hb
theorem T.in (hu : R1 X) (ha : P X a f) (hb : P X b g) (hm : behindInMarks .In b = false := by with_unfolding_all rfl) : T X (.Compare a [.In] [b] pos) (tV (sOp inO f g)) := T.cmp (OpR.or (op_inD hu) (op_inT hu)) inO_s inO_mono hm ha hb
theorem T.nin (hu : R1 X) (ha : P X a f) (hb : P X b g) (hm : behindInMarks .NotIn b = false := by with_unfolding_all rfl) : T X (.Compare a [.NotIn] [b] pos) (tV (sOp ninO f g)) := T.cmp (OpR.or (op_notInD hu) (op_notInT hu)) ninO_s ninO_mono hm ha hb
/-! ### bits -/
abbrev shlO : O2 := intO CPow fun i j => .int (i * 2 ^ j.toNat)
abbrev shrO : O2 := intO (fun _ j => 0 ≤ j) fun i j => .int (i / 2 ^ j.toNat)
abbrev bandO : O2 := int0 fun i j => .int (Builtin.bitAnd i j)
theorem E.shl (ha : P X a f) (hb : P X b g) : E X (.BinOp a .LShift b pos) (sOp shlO f g) := E.op op_shl (intO_s fun _ _ _ _ => rfl) intO_mono ha hb
theorem E.shr (ha : P X a f) (hb : P X b g) : E X (.BinOp a .RShift b pos) (sOp shrO f g) := E.op op_shr (intO_s fun _ _ _ _ => rfl) intO_mono ha hb
theorem E.band (ha : P X a f) (hb : P X b g) : E X (.BinOp a .BitAnd b pos) (sOp bandO f g) := E.op op_and (int0_s fun _ _ _ _ => rfl) int0_mono ha hb
end
theorem u65 {k : Nat} {A : Around} (r : Room k A) : A.units + 65 < cLine := by have := r.un; omega

/-! ### (a, b) = a list or a tuple -/
def gTupA (K : PySem.W.Frag) (n : Nat) (t : TGs) : TG := fun v σ H Q => ∃ a xs, v = .ref a ∧ (SqT K H a xs ∨ SqL K H a xs) ∧ xs.length = n ∧ t xs σ H Q
section
variable {X : Cx} {pos : Pos}
theorem pg_tupA {es : List Expr} {k : Nat} {t : TGs} {n : Nat} (hc : X.calm = true) (h : PGs X es t) (hn : (assignEach es X.env).length = n := by rfl) (hst : (assignEach es X.env).findIdx? (·.1) = none := by rfl) : PG X (.Tuple es k pos) (gTupA X.K n t) := by
  refine ⟨fun pins s σ H v u Q I r hw => ?_⟩
  obtain ⟨a, xs, e1, hq, hl, hw⟩ := hw
  rcases hq with hq | hq
  · exact (pg_tup hc h hn hst).run pins s σ H v u Q I r ⟨a, xs, e1, hq, hl, hw⟩
  · subst e1
    cases r
    obtain ⟨its, rv, ht, hz⟩ := I.list hq
    have hsz : (assignEach es X.env).length = its.toArray.size := by rw [hn, ← hl, rv.length, List.size_toArray]
    rw [PyProof.Rows.assign_Tuple]
    refine wpAny_bind (wpAny_standAt ?_)
    show wpAny _ _ (unpack _ _) _ _ _
    unfold unpack
    rw [hsz, hst]
    refine wpAny_bind (wpAny_holding (PySem.W.kun_itemsOf (I.ok.hd hc) ht.isList fun h' hx => ?_))
    have I1 : Inv X pins σ H { s with heap := h' } := I.kept (t' := s.toks) fun b o e => hx b o (Nat.ne_of_lt (Heap.lt_size e)) e
    exact h.run pins _ σ H xs _ Q I1 (by simpa using rv) hw
end
def gTupB (gs : SGs) : SG := fun d ρ Q => match d with
  | .tup ds => gs ds ρ Q
  | .lst ds => gs ds ρ Q
  | _ => False
section
variable {X : Cx} {pos : Pos}
theorem G.tA {tg : Expr} {is : List Nat} {gs : SGs} {m : Nat} {ts : List Expr} (hn : ∀ ds ρ Q, gs ds ρ Q → ds.length = m) (h2 : Gs X ts is gs) (h : PGs X ts (TGsof X.K is gs) → PG X tg (gTupA X.K m (TGsof X.K is gs))) : G X tg is (gTupB gs) :=
  ⟨fun d ρ P Q hpq q => by
    cases d with
    | tup ds => exact h2.mono ds ρ _ _ hpq q
    | lst ds => exact h2.mono ds ρ _ _ hpq q
    | _ => exact q.elim, PG.weak (h h2.run) fun v σ H Q ⟨Z, F, ρ, d, r, rep, q⟩ => by
    cases d with
    | tup ds =>
      obtain ⟨a, vs, rfl, e1, e2⟩ := (show ∃ a vs, v = V.ref a ∧ SqT _ F a vs ∧ Reps _ _ _ ds vs from rep)
      exact ⟨a, vs, rfl, .inl (sqt_ex r.base.fh e1), e2.length.trans (hn _ _ _ q), Z, F, ρ, ds, r, e2, q⟩
    | lst ds =>
      obtain ⟨a, vs, rfl, e1, e2⟩ := (show ∃ a vs, v = V.ref a ∧ F a = some (.lst vs) ∧ Reps _ _ _ ds vs from rep)
      exact ⟨a, vs, rfl, .inr (SqL.of (r.base.fh a _ e1)), e2.length.trans (hn _ _ _ q), Z, F, ρ, ds, r, e2, q⟩
    | _ => exact q.elim⟩
end
end Z0
/-! ### the text (printed by gen.py) -/
namespace Tx0
open PySem PySem.Spec PyProof.Rows L2 Z0
def top (i : Nat) : Stmt := PySem.Challenge.pw_latticepoints_k07_whole_completed_vector.main.body.getD i (.Pass ⟨0, 0, 0, 0⟩)
abbrev s_is_in : Stmt := top 4
theorem sc_is_in : FnScope ["value", "least", "most"] ["value", "least", "most"] (defScope s_is_in) := ⟨rfl, rfl, rfl, by decide +kernel, rfl, by decide +kernel, by decide +kernel⟩
abbrev s_gcd : Stmt := top 5
theorem sc_gcd : FnScope ["one", "other"] ["one", "other"] (defScope s_gcd) := ⟨rfl, rfl, rfl, by decide +kernel, rfl, by decide +kernel, by decide +kernel⟩
abbrev s_are_integers : Stmt := top 9
theorem sc_are_integers : FnScope ["value", "least", "most", "x"] ["value", "least", "most"] (defScope s_are_integers) := ⟨rfl, rfl, rfl, by decide +kernel, rfl, by decide +kernel, by decide +kernel⟩
abbrev s_completed : Stmt := top 10
theorem sc_completed : FnScope ["vector", "common", "x", "row"] ["vector"] (defScope s_completed) := ⟨rfl, rfl, rfl, by decide +kernel, rfl, by decide +kernel, by decide +kernel⟩
abbrev s_finished : Stmt := top 11
theorem sc_finished : FnScope ["vector", "x", "common", "small", "rows", "p", "q", "found", "row"] ["vector"] (defScope s_finished) := ⟨rfl, rfl, rfl, by decide +kernel, rfl, by decide +kernel, by decide +kernel⟩
abbrev s_last_alone : Stmt := top 12
theorem sc_last_alone : FnScope ["vector", "size", "found", "k", "at", "sign", "x"] ["vector"] (defScope s_last_alone) := ⟨rfl, rfl, rfl, by decide +kernel, rfl, by decide +kernel, by decide +kernel⟩
abbrev s_bezout : Stmt := top 13
theorem sc_bezout : FnScope ["one", "other", "p", "q", "r", "s", "factor"] ["one", "other"] (defScope s_bezout) := ⟨rfl, rfl, rfl, by decide +kernel, rfl, by decide +kernel, by decide +kernel⟩
abbrev s_l_taken : Stmt := top 15
theorem sc_l_taken : FnScope ["_law_row", "_law_many", "_law_found", "_law_cell"] ["_law_row", "_law_many"] (defScope s_l_taken) := ⟨rfl, rfl, rfl, by decide +kernel, rfl, by decide +kernel, by decide +kernel⟩
abbrev s_l_pick : Stmt := top 16
theorem sc_l_pick : FnScope ["_law_row", "_law_things"] ["_law_row", "_law_things"] (defScope s_l_pick) := ⟨rfl, rfl, rfl, by decide +kernel, rfl, by decide +kernel, by decide +kernel⟩
abbrev s_l_signed : Stmt := top 17
theorem sc_l_signed : FnScope ["_law_row", "_law_most"] ["_law_row", "_law_most"] (defScope s_l_signed) := ⟨rfl, rfl, rfl, by decide +kernel, rfl, by decide +kernel, by decide +kernel⟩
abbrev s_l_gcd : Stmt := top 18
theorem sc_l_gcd : FnScope ["_law_one", "_law_other"] ["_law_one", "_law_other"] (defScope s_l_gcd) := ⟨rfl, rfl, rfl, by decide +kernel, rfl, by decide +kernel, by decide +kernel⟩
abbrev s_l_determinant : Stmt := top 19
theorem sc_l_determinant : FnScope ["_law_rows", "_law_total", "_law_sign", "_law_k", "_law_rest", "_law_j"] ["_law_rows"] (defScope s_l_determinant) := ⟨rfl, rfl, rfl, by decide +kernel, rfl, by decide +kernel, by decide +kernel⟩
abbrev s_law : Stmt := top 20
theorem sc_law : FnScope ["_law_script", "_law_row", "_law_turn", "_law_size", "_law_most", "_law_vector", "_law_k", "_law_common", "_law_x", "_law_found", "_law_one"] ["_law_script"] (defScope s_law) := ⟨rfl, rfl, rfl, by decide +kernel, rfl, by decide +kernel, by decide +kernel⟩
/-- where all things stand -/
structure Tx (K : Kf) (mg : Str → Option Value) where
  a_is_in : Addr
  d_is_in : FuncData
  f_is_in : FunD K "is_in" "is_in" (defArgs s_is_in) (defBody s_is_in) (defScope s_is_in) [] [] a_is_in d_is_in
  m_is_in : mg "is_in" = some (.ref a_is_in)
  b_is_in : Binds K d_is_in ["value", "least", "most"] []
  a_gcd : Addr
  d_gcd : FuncData
  f_gcd : FunD K "gcd" "gcd" (defArgs s_gcd) (defBody s_gcd) (defScope s_gcd) [] [] a_gcd d_gcd
  m_gcd : mg "gcd" = some (.ref a_gcd)
  b_gcd : Binds K d_gcd ["one", "other"] []
  a_are_integers : Addr
  d_are_integers : FuncData
  f_are_integers : FunD K "are_integers" "are_integers" (defArgs s_are_integers) (defBody s_are_integers) (defScope s_are_integers) [] [] a_are_integers d_are_integers
  m_are_integers : mg "are_integers" = some (.ref a_are_integers)
  b_are_integers : Binds K d_are_integers ["value", "least", "most"] []
  a_completed : Addr
  d_completed : FuncData
  f_completed : FunD K "completed" "completed" (defArgs s_completed) (defBody s_completed) (defScope s_completed) [] [] a_completed d_completed
  m_completed : mg "completed" = some (.ref a_completed)
  b_completed : Binds K d_completed ["vector"] []
  a_finished : Addr
  d_finished : FuncData
  f_finished : FunD K "finished" "finished" (defArgs s_finished) (defBody s_finished) (defScope s_finished) [] [] a_finished d_finished
  m_finished : mg "finished" = some (.ref a_finished)
  b_finished : Binds K d_finished ["vector"] []
  a_last_alone : Addr
  d_last_alone : FuncData
  f_last_alone : FunD K "last_alone" "last_alone" (defArgs s_last_alone) (defBody s_last_alone) (defScope s_last_alone) [] [] a_last_alone d_last_alone
  m_last_alone : mg "last_alone" = some (.ref a_last_alone)
  b_last_alone : Binds K d_last_alone ["vector"] []
  a_bezout : Addr
  d_bezout : FuncData
  f_bezout : FunD K "bezout" "bezout" (defArgs s_bezout) (defBody s_bezout) (defScope s_bezout) [] [] a_bezout d_bezout
  m_bezout : mg "bezout" = some (.ref a_bezout)
  b_bezout : Binds K d_bezout ["one", "other"] []
  a_l_taken : Addr
  d_l_taken : FuncData
  f_l_taken : FunD K "_law_taken" "_law_taken" (defArgs s_l_taken) (defBody s_l_taken) (defScope s_l_taken) [] [] a_l_taken d_l_taken
  m_l_taken : mg "_law_taken" = some (.ref a_l_taken)
  b_l_taken : Binds K d_l_taken ["_law_row", "_law_many"] []
  a_l_pick : Addr
  d_l_pick : FuncData
  f_l_pick : FunD K "_law_pick" "_law_pick" (defArgs s_l_pick) (defBody s_l_pick) (defScope s_l_pick) [] [] a_l_pick d_l_pick
  m_l_pick : mg "_law_pick" = some (.ref a_l_pick)
  b_l_pick : Binds K d_l_pick ["_law_row", "_law_things"] []
  a_l_signed : Addr
  d_l_signed : FuncData
  f_l_signed : FunD K "_law_signed" "_law_signed" (defArgs s_l_signed) (defBody s_l_signed) (defScope s_l_signed) [] [] a_l_signed d_l_signed
  m_l_signed : mg "_law_signed" = some (.ref a_l_signed)
  b_l_signed : Binds K d_l_signed ["_law_row", "_law_most"] []
  a_l_gcd : Addr
  d_l_gcd : FuncData
  f_l_gcd : FunD K "_law_gcd" "_law_gcd" (defArgs s_l_gcd) (defBody s_l_gcd) (defScope s_l_gcd) [] [] a_l_gcd d_l_gcd
  m_l_gcd : mg "_law_gcd" = some (.ref a_l_gcd)
  b_l_gcd : Binds K d_l_gcd ["_law_one", "_law_other"] []
  a_l_determinant : Addr
  d_l_determinant : FuncData
  f_l_determinant : FunD K "_law_determinant" "_law_determinant" (defArgs s_l_determinant) (defBody s_l_determinant) (defScope s_l_determinant) [] [] a_l_determinant d_l_determinant
  m_l_determinant : mg "_law_determinant" = some (.ref a_l_determinant)
  b_l_determinant : Binds K d_l_determinant ["_law_rows"] []
  a_law : Addr
  d_law : FuncData
  f_law : FunD K "law" "law" (defArgs s_law) (defBody s_law) (defScope s_law) [] [] a_law d_law
  m_law : mg "law" = some (.ref a_law)
  b_law : Binds K d_law ["_law_script"] []
  z_abs : mg "abs" = none
  z_bool : mg "bool" = none
  z_int : mg "int" = none
  z_isinstance : mg "isinstance" = none
  z_len : mg "len" = none
  z_list : mg "list" = none
  z_range : mg "range" = none
  z_tuple : mg "tuple" = none
  c_GREATEST : ∃ t, mg "GREATEST" = some (.int (1000) t)
  c_MOST_VECTOR : ∃ t, mg "MOST_VECTOR" = some (.int (4) t)
section
variable {Pg : Program} {w : World} {K : Kf} {mg : Str → Option Value} {base : Heap} {k : Nat}
abbrev sem_is_in  : SS := (retS (vB (andT (tV (callE isiO (consA (varP 0) (consA (cE (.ty .int)) nilA)))) (andT (notT (tV (callE isiO (consA (varP 0) (consA (cE (.ty .bool)) nilA))))) (chT leO leO (varP 1) (varP 0) (varP 2))))))
theorem walk_is_in (tx : Tx K mg)  (cdv : Value) (Ar : Around) (outer : List PySem.Env) (s : Shared) (H : Hp) (Xk : XK) (hr : Room k (Ar.deeper (envOfC "is_in" (defScope s_is_in) s.heap.objs.size tx.a_is_in cdv))) :
    Ss (bodyX Pg w K mg base ["value", "least", "most"] "is_in" (defScope s_is_in) tx.a_is_in cdv Ar outer s H Xk) (defBody s_is_in) (sem_is_in ) :=
  (Ss.one (S.ret (B.val (B.and (B.of (E.callBN isi_s isiO_mono (Ap.cons (P.var 0 (pv 0)) (Ap.cons (E.p (E.tyv (t := .int) (by rfl) tx.z_int bt_int)) Ap.nil)) (fun h => pe_callB call_isiA (by rfl) tx.z_isinstance bt_isinstance h))) (B.and (B.not (B.of (E.callBN isi_s isiO_mono (Ap.cons (P.var 0 (pv 0)) (Ap.cons (E.p (E.tyv (t := .bool) (by rfl) tx.z_bool bt_bool)) Ap.nil)) (fun h => pe_callB call_isiA (by rfl) tx.z_isinstance bt_isinstance h)))) (B.one (B.ch op_le op_le le_s le_s int0_mono int0_mono (P.var 1 (pv 1)) (P.var 0 (pv 0)) (P.var 2 (pv 2)))))))))
abbrev wt1_gcd  : ST := (tV (sOp neO (varP 1) (cE (.int 0))))
abbrev ws2_gcd  : SS := (parS 0 1 (consA (varE 1) (consA (sOp modO (varP 0) (varP 1)) nilA)))
abbrev sem_gcd  : SS := (seqS (parS 0 1 (consA (callE (call1 absO) (consA (varP 0) nilA)) (consA (callE (call1 absO) (consA (varP 1) nilA)) nilA)))
    (seqS (whS (wt1_gcd) (ws2_gcd))
    (retS (varE 0))))
theorem walk_gcd (tx : Tx K mg)  (cdv : Value) (Ar : Around) (outer : List PySem.Env) (s : Shared) (H : Hp) (Xk : XK) (hr : Room k (Ar.deeper (envOfC "gcd" (defScope s_gcd) s.heap.objs.size tx.a_gcd cdv))) :
    Ss (bodyX Pg w K mg base ["one", "other"] "gcd" (defScope s_gcd) tx.a_gcd cdv Ar outer s H Xk) (defBody s_gcd) (sem_gcd ) :=
  (Ss.cons (S.parN (A.cons (E.callBN abs_s (call1_mono absO_mono) (Ap.cons (P.var 0 (pv 0)) Ap.nil) (fun h => pe_callB call_abs (by rfl) tx.z_abs bt_abs h)) (A.cons (E.callBN abs_s (call1_mono absO_mono) (Ap.cons (P.var 1 (pv 1)) Ap.nil) (fun h => pe_callB call_abs (by rfl) tx.z_abs bt_abs h)) A.nil)) (fun h => ps_par rfl sc_gcd.nd rfl rfl (by decide) rfl rfl h (by rfl)))
    (Ss.cons (S.whN (T.ne hr.units (P.var 1 (pv 1)) (E.p E.int)) (Ss.one (S.parN (A.cons (E.var 1 (pv 1)) (A.cons (E.mod (P.var 0 (pv 0)) (P.var 1 (pv 1))) A.nil)) (fun h => ps_par rfl sc_gcd.nd rfl rfl (by decide) rfl rfl h (by rfl)))) (fun h1 h2 => ps_while PassesOwn.never h1 h2))
    (Ss.one (S.ret (E.var 0 (pv 0))))))
abbrev ct1_are_integers (g_is_in : OC) : ST := (notT (tV (callE g_is_in (consA (varE 3) (consA (sUn negO (cE (.int 1000))) (consA (cE (.int 1000)) nilA))))))
abbrev ce2_are_integers (g_is_in : OC) : SE := (varE 3)
abbrev sem_are_integers (g_is_in : OC) : SS := (seqS (ifS (orT (notT (tV (callE isiO (consA (varP 0) (consA (cE (.ty .tuple)) nilA))))) (notT (chT leO leO (varP 1) (callE (call1 lenO) (consA (varP 0) nilA)) (varP 2)))) (retS (cE (.bl false))) nextS)
    (retS (sOp eqO (fun ρ Q => (lcA (seqI (varP 0)) (gVar 3) (ct1_are_integers g_is_in) (ce2_are_integers g_is_in) [3]) ρ fun ds => Q (.lst ds)) (fun ρ Q => (lstF nilA) ρ fun ds => Q (.lst ds)))))
theorem walk_are_integers (tx : Tx K mg) {g_is_in : OC} {k_is_in : Nat} (mo_is_in : MonoC g_is_in) (ok_is_in : FnOk Pg w K mg base CX0 k_is_in tx.a_is_in tx.d_is_in ["value", "least", "most"] (spOf K 3 g_is_in)) (le_is_in : k_is_in ≤ k) (cdv : Value) (Ar : Around) (outer : List PySem.Env) (s : Shared) (H : Hp) (Xk : XK) (hr : Room k (Ar.deeper (envOfC "are_integers" (defScope s_are_integers) s.heap.objs.size tx.a_are_integers cdv))) :
    Ss (bodyX Pg w K mg base ["value", "least", "most", "x"] "are_integers" (defScope s_are_integers) tx.a_are_integers cdv Ar outer s H Xk) (defBody s_are_integers) (sem_are_integers g_is_in) :=
  (Ss.cons (S.ifs (Tw.t (Tw.or (T.not (T.val (E.callBN isi_s isiO_mono (Ap.cons (P.var 0 (pv 0)) (Ap.cons (E.p (E.tyv (t := .tuple) (by rfl) tx.z_tuple bt_tuple)) Ap.nil)) (fun h => pe_callB call_isiA (by rfl) tx.z_isinstance bt_isinstance h)))) (Tw.or1 (T.not (T.ch op_le op_le le_s le_s int0_mono int0_mono (P.var 1 (pv 1)) (E.p (E.callBN len_s (call1_mono lenO_mono) (Ap.cons (P.var 0 (pv 0)) Ap.nil) (fun h => pe_callB (CallR.or call_len_seq call_len_str) (by rfl) tx.z_len bt_len h))) (P.var 2 (pv 2))))))) (Ss.one (S.ret E.bl)) Ss.nil)
    (Ss.one (S.ret (E.eq hr.units (E.p (E.ofF (F.lc rfl sc_are_integers.nd (own := [("x", 3)]) (blkOk_by (by kernel_rfl)) (by decide) (Ig.seq (P.var 0 (pv 0))) (fun _ _ _ _ _ => (G.var (pg_name (i := 3) sc_are_integers.nd rfl (by first | exact Or.inl rfl | exact Or.inr rfl)))) (fun _ _ _ _ _ => (Tl.one (T.not (T.val (E.call mo_is_in (A.cons (E.var 3 (pv 3)) (A.cons (E.neg (E.p (E.gint (by rfl) tx.c_GREATEST))) (A.cons (E.gint (by rfl) tx.c_GREATEST) A.nil))) rfl (fun h => pe_call ok_is_in (hr.mono le_is_in) (by rfl) tx.m_is_in tx.f_is_in.kp tx.b_is_in .nil pass0 h)))))) (fun _ _ _ _ _ => (E.var 3 (pv 3)))))) (E.p (E.ofF (F.lst A.nil)))))))
abbrev fb1_completed (g_are_integers : OC) (g_gcd : OC) (g_finished : OC) : SS := (setS 1 (callE g_gcd (consA (varE 1) (consA (varE 2) nilA))))
abbrev ce2_completed (g_are_integers : OC) (g_gcd : OC) (g_finished : OC) : SE := (callE (call1 tupleO) (consA (varP 3) nilA))
abbrev sem_completed (g_are_integers : OC) (g_gcd : OC) (g_finished : OC) : SS := (seqS (ifS (notT (tV (callE g_are_integers (consA (varE 0) (consA (cE (.int 1)) (consA (cE (.int 4)) nilA)))))) noS nextS)
    (seqS (setS 1 (cE (.int 0)))
    (seqS (forS (seqI (varE 0)) (gVar 2) (fb1_completed g_are_integers g_gcd g_finished))
    (seqS (ifS (orT (tV (sOp neO (varP 1) (cE (.int 1)))) (tV (sOp eqO (varP 0) (tupE (consA (sUn negO (cE (.int 1))) nilA))))) noS nextS)
    (retS (callE (call1 tupleO) (consA (fun ρ Q => (lcA (seqI (callE g_finished (consA (fun ρ Q => (callF listF (consA (varP 0) nilA)) ρ fun ds => Q (.lst ds)) nilA))) (gVar 3) yesT (ce2_completed g_are_integers g_gcd g_finished) [3]) ρ fun ds => Q (.lst ds)) nilA)))))))
theorem walk_completed (tx : Tx K mg) {g_are_integers : OC} {k_are_integers : Nat} (mo_are_integers : MonoC g_are_integers) (ok_are_integers : FnOk Pg w K mg base CX0 k_are_integers tx.a_are_integers tx.d_are_integers ["value", "least", "most"] (spOf K 3 g_are_integers)) (le_are_integers : k_are_integers ≤ k) {g_gcd : OC} {k_gcd : Nat} (mo_gcd : MonoC g_gcd) (ok_gcd : FnOk Pg w K mg base CX0 k_gcd tx.a_gcd tx.d_gcd ["one", "other"] (spOf K 2 g_gcd)) (le_gcd : k_gcd ≤ k) {g_finished : OC} {k_finished : Nat} (mo_finished : MonoC g_finished) (ok_finished : FnOk Pg w K mg base CX0 k_finished tx.a_finished tx.d_finished ["vector"] (spOf K 1 g_finished)) (le_finished : k_finished ≤ k) (cdv : Value) (Ar : Around) (outer : List PySem.Env) (s : Shared) (H : Hp) (Xk : XK) (hr : Room k (Ar.deeper (envOfC "completed" (defScope s_completed) s.heap.objs.size tx.a_completed cdv))) :
    Ss (bodyX Pg w K mg base ["vector", "common", "x", "row"] "completed" (defScope s_completed) tx.a_completed cdv Ar outer s H Xk) (defBody s_completed) (sem_completed g_are_integers g_gcd g_finished) :=
  (Ss.cons (S.ifs (T.not (T.val (E.call mo_are_integers (A.cons (E.var 0 (pv 0)) (A.cons E.int (A.cons (E.gint (by rfl) tx.c_MOST_VECTOR) A.nil))) rfl (fun h => pe_call ok_are_integers (hr.mono le_are_integers) (by rfl) tx.m_are_integers tx.f_are_integers.kp tx.b_are_integers .nil pass0 h)))) (Ss.one S.nev) Ss.nil)
    (Ss.cons (S.setN E.int (fun h => ps_asg h (pg_name (i := 1) sc_completed.nd rfl (by first | exact Or.inl rfl | exact Or.inr rfl))))
    (Ss.cons (S.forN (I.seq (E.var 0 (pv 0))) (G.var (pg_name (i := 2) sc_completed.nd rfl (by first | exact Or.inl rfl | exact Or.inr rfl))) (Ss.one (S.setN (E.call mo_gcd (A.cons (E.var 1 (pv 1)) (A.cons (E.var 2 (pv 2)) A.nil)) rfl (fun h => pe_call ok_gcd (hr.mono le_gcd) (by rfl) tx.m_gcd tx.f_gcd.kp tx.b_gcd .nil pass0 h)) (fun h => ps_asg h (pg_name (i := 1) sc_completed.nd rfl (by first | exact Or.inl rfl | exact Or.inr rfl))))) (fun h1 h2 h3 => ps_for PassesOwn.never rfl h1 h2 h3))
    (Ss.cons (S.ifs (Tw.t (Tw.or (T.ne hr.units (P.var 1 (pv 1)) (E.p E.int)) (Tw.or1 (T.eq hr.units (P.var 0 (pv 0)) (E.p (E.tup (A.cons (E.neg (E.p E.int)) A.nil))))))) (Ss.one S.nev) Ss.nil)
    (Ss.one (S.ret (E.callBN tuple_s (call1_mono tupleO_mono) (Ap.cons (E.p (E.ofF (F.lc rfl sc_completed.nd (own := [("row", 3)]) (blkOk_by (by kernel_rfl)) (by decide) (Ig.seq (E.p (E.call mo_finished (A.cons (E.ofF (F.callBN list_s listF_mono (Ap.cons (P.var 0 (pv 0)) Ap.nil) (fun h => pe_callTy call_list_of (by rfl) tx.z_list bt_list h))) A.nil) rfl (fun h => pe_call ok_finished (hr.mono le_finished) (by rfl) tx.m_finished tx.f_finished.kp tx.b_finished .nil pass0 h)))) (fun _ _ _ _ _ => (G.var (pg_name (i := 3) sc_completed.nd rfl (by first | exact Or.inl rfl | exact Or.inr rfl)))) (fun _ _ _ _ _ => Tl.nil) (fun _ _ _ _ _ => (E.callBN tuple_s (call1_mono tupleO_mono) (Ap.cons (P.var 3 (pv 3)) Ap.nil) (fun h => pe_callTy call_tuple_of (by rfl) tx.z_tuple bt_tuple h)))))) Ap.nil) (fun h => pe_callTy call_tuple_of (by rfl) tx.z_tuple bt_tuple h))))))))
abbrev ct1_finished (g_last_alone : OC) (g_gcd : OC) (g_finished : OC) (g_bezout : OC) : ST := (tV (sOp neO (varP 1) (cE (.int 0))))
abbrev ce2_finished (g_last_alone : OC) (g_gcd : OC) (g_finished : OC) (g_bezout : OC) : SE := (varE 1)
abbrev fb3_finished (g_last_alone : OC) (g_gcd : OC) (g_finished : OC) (g_bezout : OC) : SS := (setS 2 (callE g_gcd (consA (varE 2) (consA (varE 1) nilA))))
abbrev ce4_finished (g_last_alone : OC) (g_gcd : OC) (g_finished : OC) (g_bezout : OC) : SE := (sOp fdivO (varP 1) (varP 2))
abbrev ce5_finished (g_last_alone : OC) (g_gcd : OC) (g_finished : OC) (g_bezout : OC) : SE := (fun ρ Q => (opF catF (varP 8) (fun ρ Q => (lstF (consA (cE (.int 0)) nilA)) ρ fun ds => Q (.lst ds))) ρ fun ds => Q (.lst ds))
abbrev ce6_finished (g_last_alone : OC) (g_gcd : OC) (g_finished : OC) (g_bezout : OC) : SE := (sOp mulT (sUn negO (varP 6)) (varP 1))
abbrev sem_finished (g_last_alone : OC) (g_gcd : OC) (g_finished : OC) (g_bezout : OC) : SS := (seqS (ifS (tV (sOp eqO (callE (call1 lenO) (consA (varP 0) nilA)) (cE (.int 1)))) (retS (fun ρ Q => (lstF (consA (varE 0) nilA)) ρ fun ds => Q (.lst ds))) nextS)
    (seqS (ifS (tV (sOp eqO (fun ρ Q => (lcA (seqI (slE (varP 0) noO (someO (sUn negO (cE (.int 1)))))) (gVar 1) (ct1_finished g_last_alone g_gcd g_finished g_bezout) (ce2_finished g_last_alone g_gcd g_finished g_bezout) [1]) ρ fun ds => Q (.lst ds)) (fun ρ Q => (lstF nilA) ρ fun ds => Q (.lst ds)))) (retS (callE g_last_alone (consA (varE 0) nilA))) nextS)
    (seqS (setS 2 (cE (.int 0)))
    (seqS (forS (seqI (slE (varP 0) noO (someO (sUn negO (cE (.int 1)))))) (gVar 1) (fb3_finished g_last_alone g_gcd g_finished g_bezout))
    (seqS (setS 3 (fun ρ Q => (lcA (seqI (slE (varP 0) noO (someO (sUn negO (cE (.int 1)))))) (gVar 1) yesT (ce4_finished g_last_alone g_gcd g_finished g_bezout) [1]) ρ fun ds => Q (.lst ds)))
    (seqS (ifS (tV (sOp eqO (varP 3) (fun ρ Q => (lstF (consA (sUn negO (cE (.int 1))) nilA)) ρ fun ds => Q (.lst ds)))) (asgS (tupE (consA (sUn negO (varP 2)) (consA (fun ρ Q => (lstF (consA (cE (.int 1)) nilA)) ρ fun ds => Q (.lst ds)) nilA))) (gTupS (gConsS (gVar 2) (gConsS (gVar 3) gNilS)))) nextS)
    (seqS (setS 4 (callE g_finished (consA (varE 3) nilA)))
    (seqS (asgS (callE g_bezout (consA (varE 2) (consA (sOp ixO (varP 0) (sUn negO (cE (.int 1)))) nilA))) (gTupS (gConsS (gVar 5) (gConsS (gVar 6) gNilS))))
    (seqS (setS 7 (fun ρ Q => (opF catF (fun ρ Q => (lstF (consA (varE 0) nilA)) ρ fun ds => Q (.lst ds)) (fun ρ Q => (lcA (seqI (slE (varP 4) (someO (cE (.int 1))) noO)) (gVar 8) yesT (ce5_finished g_last_alone g_gcd g_finished g_bezout) [8]) ρ fun ds => Q (.lst ds))) ρ fun ds => Q (.lst ds)))
    (retS (fun ρ Q => (opF catF (varP 7) (fun ρ Q => (lstF (consA (fun ρ Q => (opF catF (fun ρ Q => (lcA (seqI (varP 3)) (gVar 1) yesT (ce6_finished g_last_alone g_gcd g_finished g_bezout) [1]) ρ fun ds => Q (.lst ds)) (fun ρ Q => (lstF (consA (varE 5) nilA)) ρ fun ds => Q (.lst ds))) ρ fun ds => Q (.lst ds)) nilA)) ρ fun ds => Q (.lst ds))) ρ fun ds => Q (.lst ds))))))))))))
theorem walk_finished (tx : Tx K mg) {g_last_alone : OC} {k_last_alone : Nat} (mo_last_alone : MonoC g_last_alone) (ok_last_alone : FnOk Pg w K mg base CX0 k_last_alone tx.a_last_alone tx.d_last_alone ["vector"] (spOf K 1 g_last_alone)) (le_last_alone : k_last_alone ≤ k) {g_gcd : OC} {k_gcd : Nat} (mo_gcd : MonoC g_gcd) (ok_gcd : FnOk Pg w K mg base CX0 k_gcd tx.a_gcd tx.d_gcd ["one", "other"] (spOf K 2 g_gcd)) (le_gcd : k_gcd ≤ k) {g_finished : OC} {k_finished : Nat} (mo_finished : MonoC g_finished) (ok_finished : FnOk Pg w K mg base CX0 k_finished tx.a_finished tx.d_finished ["vector"] (spOf K 1 g_finished)) (le_finished : k_finished ≤ k) {g_bezout : OC} {k_bezout : Nat} (mo_bezout : MonoC g_bezout) (ok_bezout : FnOk Pg w K mg base CX0 k_bezout tx.a_bezout tx.d_bezout ["one", "other"] (spOf K 2 g_bezout)) (le_bezout : k_bezout ≤ k) (cdv : Value) (Ar : Around) (outer : List PySem.Env) (s : Shared) (H : Hp) (Xk : XK) (hr : Room k (Ar.deeper (envOfC "finished" (defScope s_finished) s.heap.objs.size tx.a_finished cdv))) :
    Ss (bodyX Pg w K mg base ["vector", "x", "common", "small", "rows", "p", "q", "found", "row"] "finished" (defScope s_finished) tx.a_finished cdv Ar outer s H Xk) (defBody s_finished) (sem_finished g_last_alone g_gcd g_finished g_bezout) :=
  (Ss.cons (S.ifs (T.eq hr.units (E.p (E.callBN len_s (call1_mono lenO_mono) (Ap.cons (P.var 0 (pv 0)) Ap.nil) (fun h => pe_callB (CallR.or call_len_seq call_len_str) (by rfl) tx.z_len bt_len h))) (E.p E.int)) (Ss.one (S.ret (E.ofF (F.lst (A.cons (E.var 0 (pv 0)) A.nil))))) Ss.nil)
    (Ss.cons (S.ifs (T.eq hr.units (E.p (E.ofF (F.lc rfl sc_finished.nd (own := [("x", 1)]) (blkOk_by (by kernel_rfl)) (by decide) (Ig.seq (E.p (E.sl (P.var 0 (pv 0)) O.none (O.some (E.p (E.neg (E.p E.int))))))) (fun _ _ _ _ _ => (G.var (pg_name (i := 1) sc_finished.nd rfl (by first | exact Or.inl rfl | exact Or.inr rfl)))) (fun _ _ _ _ _ => (Tl.one (T.ne hr.units (P.var 1 (pv 1)) (E.p E.int)))) (fun _ _ _ _ _ => (E.var 1 (pv 1)))))) (E.p (E.ofF (F.lst A.nil)))) (Ss.one (S.ret (E.call mo_last_alone (A.cons (E.var 0 (pv 0)) A.nil) rfl (fun h => pe_call ok_last_alone (hr.mono le_last_alone) (by rfl) tx.m_last_alone tx.f_last_alone.kp tx.b_last_alone .nil pass0 h)))) Ss.nil)
    (Ss.cons (S.setN E.int (fun h => ps_asg h (pg_name (i := 2) sc_finished.nd rfl (by first | exact Or.inl rfl | exact Or.inr rfl))))
    (Ss.cons (S.forN (I.seq (E.sl (P.var 0 (pv 0)) O.none (O.some (E.p (E.neg (E.p E.int)))))) (G.var (pg_name (i := 1) sc_finished.nd rfl (by first | exact Or.inl rfl | exact Or.inr rfl))) (Ss.one (S.setN (E.call mo_gcd (A.cons (E.var 2 (pv 2)) (A.cons (E.var 1 (pv 1)) A.nil)) rfl (fun h => pe_call ok_gcd (hr.mono le_gcd) (by rfl) tx.m_gcd tx.f_gcd.kp tx.b_gcd .nil pass0 h)) (fun h => ps_asg h (pg_name (i := 2) sc_finished.nd rfl (by first | exact Or.inl rfl | exact Or.inr rfl))))) (fun h1 h2 h3 => ps_for PassesOwn.never rfl h1 h2 h3))
    (Ss.cons (S.lc (i := 3) (own := [("x", 1)]) rfl sc_finished.nd rfl rfl (sw_true rfl rfl rfl (by decide +kernel)) (blkOk_by (by kernel_rfl)) (by decide) (Ig.seq (E.p (E.sl (P.var 0 (pv 0)) O.none (O.some (E.p (E.neg (E.p E.int))))))) (fun _ _ _ _ _ => (G.var (pg_name (i := 1) sc_finished.nd rfl (by first | exact Or.inl rfl | exact Or.inr rfl)))) (fun _ _ _ _ _ => Tl.nil) (fun _ _ _ _ _ => (E.fdiv (P.var 1 (pv 1)) (P.var 2 (pv 2)))))
    (Ss.cons (S.ifs (T.eq hr.units (P.var 3 (pv 3)) (E.p (E.ofF (F.lst (A.cons (E.neg (E.p E.int)) A.nil))))) (Ss.one (S.asgN (E.tup (A.cons (E.neg (P.var 2 (pv 2))) (A.cons (E.ofF (F.lst (A.cons E.int A.nil))) A.nil))) (G.t (gn_var (gn_var gn_nil)) (Gs.cn (G.var (pg_name (i := 2) sc_finished.nd rfl (by first | exact Or.inl rfl | exact Or.inr rfl))) (Gs.cn (G.var (pg_name (i := 3) sc_finished.nd rfl (by first | exact Or.inl rfl | exact Or.inr rfl))) Gs.nil (fun h1 h2 => pgs_cons h1 h2)) (fun h1 h2 => pgs_cons h1 h2)) (fun h => pg_tup rfl h)) (fun h1 h2 => ps_asg h1 h2))) Ss.nil)
    (Ss.cons (S.setN (E.call mo_finished (A.cons (E.var 3 (pv 3)) A.nil) rfl (fun h => pe_call ok_finished (hr.mono le_finished) (by rfl) tx.m_finished tx.f_finished.kp tx.b_finished .nil pass0 h)) (fun h => ps_asg h (pg_name (i := 4) sc_finished.nd rfl (by first | exact Or.inl rfl | exact Or.inr rfl))))
    (Ss.cons (S.asgN (E.call mo_bezout (A.cons (E.var 2 (pv 2)) (A.cons (E.ix (P.var 0 (pv 0)) (E.p (E.neg (E.p E.int))) (fun _ _ => rfl)) A.nil)) rfl (fun h => pe_call ok_bezout (hr.mono le_bezout) (by rfl) tx.m_bezout tx.f_bezout.kp tx.b_bezout .nil pass0 h)) (G.t (gn_var (gn_var gn_nil)) (Gs.cn (G.var (pg_name (i := 5) sc_finished.nd rfl (by first | exact Or.inl rfl | exact Or.inr rfl))) (Gs.cn (G.var (pg_name (i := 6) sc_finished.nd rfl (by first | exact Or.inl rfl | exact Or.inr rfl))) Gs.nil (fun h1 h2 => pgs_cons h1 h2)) (fun h1 h2 => pgs_cons h1 h2)) (fun h => pg_tup rfl h)) (fun h1 h2 => ps_asg h1 h2))
    (Ss.cons (S.setN (E.ofF (F.cat (E.p (E.ofF (F.lst (A.cons (E.var 0 (pv 0)) A.nil)))) (E.p (E.ofF (F.lc rfl sc_finished.nd (own := [("row", 8)]) (blkOk_by (by kernel_rfl)) (by decide) (Ig.seq (E.p (E.sl (P.var 4 (pv 4)) (O.some (E.p E.int)) O.none))) (fun _ _ _ _ _ => (G.var (pg_name (i := 8) sc_finished.nd rfl (by first | exact Or.inl rfl | exact Or.inr rfl)))) (fun _ _ _ _ _ => Tl.nil) (fun _ _ _ _ _ => (E.ofF (F.cat (P.var 8 (pv 8)) (E.p (E.ofF (F.lst (A.cons E.int A.nil)))))))))))) (fun h => ps_asg h (pg_name (i := 7) sc_finished.nd rfl (by first | exact Or.inl rfl | exact Or.inr rfl))))
    (Ss.one (S.ret (E.ofF (F.cat (P.var 7 (pv 7)) (E.p (E.ofF (F.lst (A.cons (E.ofF (F.cat (E.p (E.ofF (F.lc rfl sc_finished.nd (own := [("x", 1)]) (blkOk_by (by kernel_rfl)) (by decide) (Ig.seq (P.var 3 (pv 3))) (fun _ _ _ _ _ => (G.var (pg_name (i := 1) sc_finished.nd rfl (by first | exact Or.inl rfl | exact Or.inr rfl)))) (fun _ _ _ _ _ => Tl.nil) (fun _ _ _ _ _ => (E.mulT (E.p (E.neg (P.var 6 (pv 6)))) (P.var 1 (pv 1))))))) (E.p (E.ofF (F.lst (A.cons (E.var 5 (pv 5)) A.nil)))))) A.nil)))))))))))))))))
abbrev ce1_last_alone  : SE := (callE (call1 toIntO) (consA (sOp eqO (varP 4) (varP 3)) nilA))
abbrev fb2_last_alone  : SS := (appS 2 (fun ρ Q => (lcA (rng1A (consA (varP 1) nilA)) (gVar 4) yesT (ce1_last_alone) [4]) ρ fun ds => Q (.lst ds)))
abbrev ce3_last_alone  : SE := (sOp mulT (varP 5) (varP 6))
abbrev sem_last_alone  : SS := (seqS (parM [1, 2] (consM (shM (callE (call1 lenO) (consA (varP 0) nilA))) (consM (ownM (lstF (consA (varE 0) nilA))) nilM)))
    (seqS (forS (rng1A (consA (sOp subO (varP 1) (cE (.int 1))) nilA)) (gVar 3) (fb2_last_alone))
    (seqS (setS 5 (ifE (tV (sOp eqO (sOp modO (varP 1) (cE (.int 2))) (cE (.int 1)))) (sOp ixO (varP 0) (sUn negO (cE (.int 1)))) (sUn negO (sOp ixO (varP 0) (sUn negO (cE (.int 1)))))))
    (seqS (putS 2 (fun ρ Q => (lcA (seqI (sOp ixO (varP 2) (cE (.int 1)))) (gVar 6) yesT (ce3_last_alone) [6]) ρ fun ds => Q (.lst ds)) (cE (.int 1)))
    (frzS 2 (retS (varE 2)))))))
theorem walk_last_alone (tx : Tx K mg)  (cdv : Value) (Ar : Around) (outer : List PySem.Env) (s : Shared) (H : Hp) (Xk : XK) (hr : Room k (Ar.deeper (envOfC "last_alone" (defScope s_last_alone) s.heap.objs.size tx.a_last_alone cdv))) :
    Ss (bodyX Pg w K mg base ["vector", "size", "found", "k", "at", "sign", "x"] "last_alone" (defScope s_last_alone) tx.a_last_alone cdv Ar outer s H Xk) (defBody s_last_alone) (sem_last_alone ) :=
  (Ss.cons (S.pm2 (Ms.cons (M1.sh (E.callBN len_s (call1_mono lenO_mono) (Ap.cons (P.var 0 (pv 0)) Ap.nil) (fun h => pe_callB (CallR.or call_len_seq call_len_str) (by rfl) tx.z_len bt_len h))) (Ms.cons (M1.own (F.lst (A.cons (E.var 0 (pv 0)) A.nil))) Ms.nil)) (fun h => ps_par rfl sc_last_alone.nd rfl rfl (by decide) rfl rfl h (by rfl)))
    (Ss.cons (S.forN (I.r1 (Ap.cons (E.p (E.sub (P.var 1 (pv 1)) (E.p E.int))) Ap.nil) (fun h => pi_range1 (by rfl) tx.z_range h)) (G.var (pg_name (i := 3) sc_last_alone.nd rfl (by first | exact Or.inl rfl | exact Or.inr rfl))) (Ss.one (S.appN (E.ofF (F.lc rfl sc_last_alone.nd (own := [("at", 4)]) (blkOk_by (by kernel_rfl)) (by decide) (I.toG (I.r1 (Ap.cons (P.var 1 (pv 1)) Ap.nil) (fun h => pi_range1 (by rfl) tx.z_range h))) (fun _ _ _ _ _ => (G.var (pg_name (i := 4) sc_last_alone.nd rfl (by first | exact Or.inl rfl | exact Or.inr rfl)))) (fun _ _ _ _ _ => Tl.nil) (fun _ _ _ _ _ => (E.callBN toInt_s (call1_mono toIntO_mono) (Ap.cons (E.p (E.eq hr.units (P.var 4 (pv 4)) (P.var 3 (pv 3)))) Ap.nil) (fun h => pe_callTy call_int1 (by rfl) tx.z_int bt_int h))))) (fun h => ps_expr (pe_bm PySem.F.plainAttrs_list PySem.F.slot_list_append PySem.F.type_list_append mt_append (pv 2) (pa_cons h pa_nil))))) (fun h1 h2 h3 => ps_for PassesOwn.never rfl h1 h2 h3))
    (Ss.cons (S.setN (E.ifx (T.eq hr.units (E.p (E.mod (P.var 1 (pv 1)) (E.p E.int))) (E.p E.int)) (E.ix (P.var 0 (pv 0)) (E.p (E.neg (E.p E.int))) (fun _ _ => rfl)) (E.neg (E.p (E.ix (P.var 0 (pv 0)) (E.p (E.neg (E.p E.int))) (fun _ _ => rfl))))) (fun h => ps_asg h (pg_name (i := 5) sc_last_alone.nd rfl (by first | exact Or.inl rfl | exact Or.inr rfl))))
    (Ss.cons (S.putN (E.ofF (F.lc rfl sc_last_alone.nd (own := [("x", 6)]) (blkOk_by (by kernel_rfl)) (by decide) (Ig.seq (E.p (E.ix (P.var 2 (pv 2)) (E.p E.int) (fun _ _ => rfl)))) (fun _ _ _ _ _ => (G.var (pg_name (i := 6) sc_last_alone.nd rfl (by first | exact Or.inl rfl | exact Or.inr rfl)))) (fun _ _ _ _ _ => Tl.nil) (fun _ _ _ _ _ => (E.mulT (P.var 5 (pv 5)) (P.var 6 (pv 6)))))) (E.p E.int) (fun h1 h2 => ps_asg h1 (pg_sub (pv 2) h2 set_list)))
    (Ss.one (S.frz 2 (S.ret (E.var 2 (pv 2)))))))))
abbrev wt1_bezout  : ST := (tV (sOp neO (varP 1) (cE (.int 0))))
abbrev ws2_bezout  : SS := (seqS (setS 6 (sOp fdivO (varP 0) (varP 1)))
    (seqS (parS 0 1 (consA (varE 1) (consA (sOp subO (varP 0) (sOp mulT (varP 6) (varP 1))) nilA)))
    (asgS (tupE (consA (varE 4) (consA (varE 5) (consA (sOp subO (varP 2) (sOp mulT (varP 6) (varP 4))) (consA (sOp subO (varP 3) (sOp mulT (varP 6) (varP 5))) nilA))))) (gTupS (gConsS (gVar 2) (gConsS (gVar 3) (gConsS (gVar 4) (gConsS (gVar 5) gNilS))))))))
abbrev sem_bezout  : SS := (seqS (asgS (tupE (consA (cE (.int 1)) (consA (cE (.int 0)) (consA (cE (.int 0)) (consA (cE (.int 1)) nilA))))) (gTupS (gConsS (gVar 2) (gConsS (gVar 3) (gConsS (gVar 4) (gConsS (gVar 5) gNilS))))))
    (seqS (whS (wt1_bezout) (ws2_bezout))
    (retS (ifE (tV (sOp gtO (varP 0) (cE (.int 0)))) (tupE (consA (varE 2) (consA (varE 3) nilA))) (tupE (consA (sUn negO (varP 2)) (consA (sUn negO (varP 3)) nilA)))))))
theorem walk_bezout (tx : Tx K mg)  (cdv : Value) (Ar : Around) (outer : List PySem.Env) (s : Shared) (H : Hp) (Xk : XK) (hr : Room k (Ar.deeper (envOfC "bezout" (defScope s_bezout) s.heap.objs.size tx.a_bezout cdv))) :
    Ss (bodyX Pg w K mg base ["one", "other", "p", "q", "r", "s", "factor"] "bezout" (defScope s_bezout) tx.a_bezout cdv Ar outer s H Xk) (defBody s_bezout) (sem_bezout ) :=
  (Ss.cons (S.asgN (E.tup (A.cons E.int (A.cons E.int (A.cons E.int (A.cons E.int A.nil))))) (G.t (gn_var (gn_var (gn_var (gn_var gn_nil)))) (Gs.cn (G.var (pg_name (i := 2) sc_bezout.nd rfl (by first | exact Or.inl rfl | exact Or.inr rfl))) (Gs.cn (G.var (pg_name (i := 3) sc_bezout.nd rfl (by first | exact Or.inl rfl | exact Or.inr rfl))) (Gs.cn (G.var (pg_name (i := 4) sc_bezout.nd rfl (by first | exact Or.inl rfl | exact Or.inr rfl))) (Gs.cn (G.var (pg_name (i := 5) sc_bezout.nd rfl (by first | exact Or.inl rfl | exact Or.inr rfl))) Gs.nil (fun h1 h2 => pgs_cons h1 h2)) (fun h1 h2 => pgs_cons h1 h2)) (fun h1 h2 => pgs_cons h1 h2)) (fun h1 h2 => pgs_cons h1 h2)) (fun h => pg_tup rfl h)) (fun h1 h2 => ps_asg h1 h2))
    (Ss.cons (S.whN (T.ne hr.units (P.var 1 (pv 1)) (E.p E.int)) (Ss.cons (S.setN (E.fdiv (P.var 0 (pv 0)) (P.var 1 (pv 1))) (fun h => ps_asg h (pg_name (i := 6) sc_bezout.nd rfl (by first | exact Or.inl rfl | exact Or.inr rfl))))
    (Ss.cons (S.parN (A.cons (E.var 1 (pv 1)) (A.cons (E.sub (P.var 0 (pv 0)) (E.p (E.mulT (P.var 6 (pv 6)) (P.var 1 (pv 1))))) A.nil)) (fun h => ps_par rfl sc_bezout.nd rfl rfl (by decide) rfl rfl h (by rfl)))
    (Ss.one (S.asgN (E.tup (A.cons (E.var 4 (pv 4)) (A.cons (E.var 5 (pv 5)) (A.cons (E.sub (P.var 2 (pv 2)) (E.p (E.mulT (P.var 6 (pv 6)) (P.var 4 (pv 4))))) (A.cons (E.sub (P.var 3 (pv 3)) (E.p (E.mulT (P.var 6 (pv 6)) (P.var 5 (pv 5))))) A.nil))))) (G.t (gn_var (gn_var (gn_var (gn_var gn_nil)))) (Gs.cn (G.var (pg_name (i := 2) sc_bezout.nd rfl (by first | exact Or.inl rfl | exact Or.inr rfl))) (Gs.cn (G.var (pg_name (i := 3) sc_bezout.nd rfl (by first | exact Or.inl rfl | exact Or.inr rfl))) (Gs.cn (G.var (pg_name (i := 4) sc_bezout.nd rfl (by first | exact Or.inl rfl | exact Or.inr rfl))) (Gs.cn (G.var (pg_name (i := 5) sc_bezout.nd rfl (by first | exact Or.inl rfl | exact Or.inr rfl))) Gs.nil (fun h1 h2 => pgs_cons h1 h2)) (fun h1 h2 => pgs_cons h1 h2)) (fun h1 h2 => pgs_cons h1 h2)) (fun h1 h2 => pgs_cons h1 h2)) (fun h => pg_tup rfl h)) (fun h1 h2 => ps_asg h1 h2))))) (fun h1 h2 => ps_while PassesOwn.never h1 h2))
    (Ss.one (S.ret (E.ifx (T.gt (P.var 0 (pv 0)) (E.p E.int)) (E.tup (A.cons (E.var 2 (pv 2)) (A.cons (E.var 3 (pv 3)) A.nil))) (E.tup (A.cons (E.neg (P.var 2 (pv 2))) (A.cons (E.neg (P.var 3 (pv 3))) A.nil))))))))
abbrev sem_l_pick (g_l_taken : OC) : SS := (retS (sOp ixO (varP 1) (callE g_l_taken (consA (varE 0) (consA (callE (call1 lenO) (consA (varP 1) nilA)) nilA)))))
theorem walk_l_pick (tx : Tx K mg) {g_l_taken : OC} {k_l_taken : Nat} (mo_l_taken : MonoC g_l_taken) (ok_l_taken : FnOk Pg w K mg base CX0 k_l_taken tx.a_l_taken tx.d_l_taken ["_law_row", "_law_many"] (spOf K 2 g_l_taken)) (le_l_taken : k_l_taken ≤ k) (cdv : Value) (Ar : Around) (outer : List PySem.Env) (s : Shared) (H : Hp) (Xk : XK) (hr : Room k (Ar.deeper (envOfC "_law_pick" (defScope s_l_pick) s.heap.objs.size tx.a_l_pick cdv))) :
    Ss (bodyX Pg w K mg base ["_law_row", "_law_things"] "_law_pick" (defScope s_l_pick) tx.a_l_pick cdv Ar outer s H Xk) (defBody s_l_pick) (sem_l_pick g_l_taken) :=
  (Ss.one (S.ret (E.ix (P.var 1 (pv 1)) (E.p (E.call mo_l_taken (A.cons (E.var 0 (pv 0)) (A.cons (E.callBN len_s (call1_mono lenO_mono) (Ap.cons (P.var 1 (pv 1)) Ap.nil) (fun h => pe_callB (CallR.or call_len_seq call_len_str) (by rfl) tx.z_len bt_len h)) A.nil)) rfl (fun h => pe_call ok_l_taken (hr.mono le_l_taken) (by rfl) tx.m_l_taken tx.f_l_taken.kp tx.b_l_taken .nil pass0 h))) (fun _ _ => rfl))))
abbrev sem_l_signed (g_l_taken : OC) : SS := (retS (sOp subO (callE g_l_taken (consA (varE 0) (consA (sOp addO (sOp mulT (cE (.int 2)) (varP 1)) (cE (.int 1))) nilA))) (varP 1)))
theorem walk_l_signed (tx : Tx K mg) {g_l_taken : OC} {k_l_taken : Nat} (mo_l_taken : MonoC g_l_taken) (ok_l_taken : FnOk Pg w K mg base CX0 k_l_taken tx.a_l_taken tx.d_l_taken ["_law_row", "_law_many"] (spOf K 2 g_l_taken)) (le_l_taken : k_l_taken ≤ k) (cdv : Value) (Ar : Around) (outer : List PySem.Env) (s : Shared) (H : Hp) (Xk : XK) (hr : Room k (Ar.deeper (envOfC "_law_signed" (defScope s_l_signed) s.heap.objs.size tx.a_l_signed cdv))) :
    Ss (bodyX Pg w K mg base ["_law_row", "_law_most"] "_law_signed" (defScope s_l_signed) tx.a_l_signed cdv Ar outer s H Xk) (defBody s_l_signed) (sem_l_signed g_l_taken) :=
  (Ss.one (S.ret (E.sub (E.p (E.call mo_l_taken (A.cons (E.var 0 (pv 0)) (A.cons (E.add (E.p (E.mulT (E.p E.int) (P.var 1 (pv 1)))) (E.p E.int)) A.nil)) rfl (fun h => pe_call ok_l_taken (hr.mono le_l_taken) (by rfl) tx.m_l_taken tx.f_l_taken.kp tx.b_l_taken .nil pass0 h))) (P.var 1 (pv 1)))))
abbrev wt1_l_gcd  : ST := (tV (sOp neO (varP 1) (cE (.int 0))))
abbrev ws2_l_gcd  : SS := (parS 0 1 (consA (varE 1) (consA (sOp modO (callE (call1 toIntO) (consA (varP 0) nilA)) (varP 1)) nilA)))
abbrev sem_l_gcd  : SS := (seqS (parS 0 1 (consA (callE (call1 absO) (consA (varP 0) nilA)) (consA (callE (call1 absO) (consA (varP 1) nilA)) nilA)))
    (seqS (whS (wt1_l_gcd) (ws2_l_gcd))
    (retS (varE 0))))
theorem walk_l_gcd (tx : Tx K mg)  (cdv : Value) (Ar : Around) (outer : List PySem.Env) (s : Shared) (H : Hp) (Xk : XK) (hr : Room k (Ar.deeper (envOfC "_law_gcd" (defScope s_l_gcd) s.heap.objs.size tx.a_l_gcd cdv))) :
    Ss (bodyX Pg w K mg base ["_law_one", "_law_other"] "_law_gcd" (defScope s_l_gcd) tx.a_l_gcd cdv Ar outer s H Xk) (defBody s_l_gcd) (sem_l_gcd ) :=
  (Ss.cons (S.parN (A.cons (E.callBN abs_s (call1_mono absO_mono) (Ap.cons (P.var 0 (pv 0)) Ap.nil) (fun h => pe_callB call_abs (by rfl) tx.z_abs bt_abs h)) (A.cons (E.callBN abs_s (call1_mono absO_mono) (Ap.cons (P.var 1 (pv 1)) Ap.nil) (fun h => pe_callB call_abs (by rfl) tx.z_abs bt_abs h)) A.nil)) (fun h => ps_par rfl sc_l_gcd.nd rfl rfl (by decide) rfl rfl h (by rfl)))
    (Ss.cons (S.whN (T.ne hr.units (P.var 1 (pv 1)) (E.p E.int)) (Ss.one (S.parN (A.cons (E.var 1 (pv 1)) (A.cons (E.mod (E.p (E.callBN toInt_s (call1_mono toIntO_mono) (Ap.cons (P.var 0 (pv 0)) Ap.nil) (fun h => pe_callTy call_int1 (by rfl) tx.z_int bt_int h))) (P.var 1 (pv 1))) A.nil)) (fun h => ps_par rfl sc_l_gcd.nd rfl rfl (by decide) rfl rfl h (by rfl)))) (fun h1 h2 => ps_while PassesOwn.never h1 h2))
    (Ss.one (S.ret (E.var 0 (pv 0))))))
abbrev ct1_l_determinant (g_l_determinant : OC) : ST := (tV (sOp neO (varP 5) (varP 3)))
abbrev ce2_l_determinant (g_l_determinant : OC) : SE := (slE (sOp ixO (varP 0) (varP 5)) (someO (cE (.int 1))) noO)
abbrev fb3_l_determinant (g_l_determinant : OC) : SS := (seqS (ifS (tV (sOp neO (sOp ixO (sOp ixO (varP 0) (varP 3)) (cE (.int 0))) (cE (.int 0)))) (seqS (setS 4 (fun ρ Q => (lcA (rng1A (consA (callE (call1 lenO) (consA (varP 0) nilA)) nilA)) (gVar 5) (ct1_l_determinant g_l_determinant) (ce2_l_determinant g_l_determinant) [5]) ρ fun ds => Q (.lst ds)))
    (setS 1 (sOp addO (varP 1) (sOp mulT (sOp mulT (varP 2) (sOp ixO (sOp ixO (varP 0) (varP 3)) (cE (.int 0)))) (callE g_l_determinant (consA (varE 4) nilA)))))) nextS)
    (setS 2 (sOp subO (cE (.int 0)) (varP 2))))
abbrev sem_l_determinant (g_l_determinant : OC) : SS := (seqS (ifS (tV (sOp eqO (callE (call1 lenO) (consA (varP 0) nilA)) (cE (.int 0)))) (retS (cE (.int 1))) nextS)
    (seqS (asgS (tupE (consA (cE (.int 0)) (consA (cE (.int 1)) nilA))) (gTupS (gConsS (gVar 1) (gConsS (gVar 2) gNilS))))
    (seqS (forS (rng1A (consA (callE (call1 lenO) (consA (varP 0) nilA)) nilA)) (gVar 3) (fb3_l_determinant g_l_determinant))
    (retS (varE 1)))))
theorem walk_l_determinant (tx : Tx K mg) {g_l_determinant : OC} {k_l_determinant : Nat} (mo_l_determinant : MonoC g_l_determinant) (ok_l_determinant : FnOk Pg w K mg base CX0 k_l_determinant tx.a_l_determinant tx.d_l_determinant ["_law_rows"] (spOf K 1 g_l_determinant)) (le_l_determinant : k_l_determinant ≤ k) (cdv : Value) (Ar : Around) (outer : List PySem.Env) (s : Shared) (H : Hp) (Xk : XK) (hr : Room k (Ar.deeper (envOfC "_law_determinant" (defScope s_l_determinant) s.heap.objs.size tx.a_l_determinant cdv))) :
    Ss (bodyX Pg w K mg base ["_law_rows", "_law_total", "_law_sign", "_law_k", "_law_rest", "_law_j"] "_law_determinant" (defScope s_l_determinant) tx.a_l_determinant cdv Ar outer s H Xk) (defBody s_l_determinant) (sem_l_determinant g_l_determinant) :=
  (Ss.cons (S.ifs (T.eq hr.units (E.p (E.callBN len_s (call1_mono lenO_mono) (Ap.cons (P.var 0 (pv 0)) Ap.nil) (fun h => pe_callB (CallR.or call_len_seq call_len_str) (by rfl) tx.z_len bt_len h))) (E.p E.int)) (Ss.one (S.ret E.int)) Ss.nil)
    (Ss.cons (S.asgN (E.tup (A.cons E.int (A.cons E.int A.nil))) (G.t (gn_var (gn_var gn_nil)) (Gs.cn (G.var (pg_name (i := 1) sc_l_determinant.nd rfl (by first | exact Or.inl rfl | exact Or.inr rfl))) (Gs.cn (G.var (pg_name (i := 2) sc_l_determinant.nd rfl (by first | exact Or.inl rfl | exact Or.inr rfl))) Gs.nil (fun h1 h2 => pgs_cons h1 h2)) (fun h1 h2 => pgs_cons h1 h2)) (fun h => pg_tup rfl h)) (fun h1 h2 => ps_asg h1 h2))
    (Ss.cons (S.forN (I.r1 (Ap.cons (E.p (E.callBN len_s (call1_mono lenO_mono) (Ap.cons (P.var 0 (pv 0)) Ap.nil) (fun h => pe_callB (CallR.or call_len_seq call_len_str) (by rfl) tx.z_len bt_len h))) Ap.nil) (fun h => pi_range1 (by rfl) tx.z_range h)) (G.var (pg_name (i := 3) sc_l_determinant.nd rfl (by first | exact Or.inl rfl | exact Or.inr rfl))) (Ss.cons (S.ifs (T.ne hr.units (E.p (E.ix (E.p (E.ix (P.var 0 (pv 0)) (P.var 3 (pv 3)) (fun _ _ => rfl))) (E.p E.int) (fun _ _ => rfl))) (E.p E.int)) (Ss.cons (S.lc (i := 4) (own := [("_law_j", 5)]) rfl sc_l_determinant.nd rfl rfl (sw_true rfl rfl rfl (by decide +kernel)) (blkOk_by (by kernel_rfl)) (by decide) (I.toG (I.r1 (Ap.cons (E.p (E.callBN len_s (call1_mono lenO_mono) (Ap.cons (P.var 0 (pv 0)) Ap.nil) (fun h => pe_callB (CallR.or call_len_seq call_len_str) (by rfl) tx.z_len bt_len h))) Ap.nil) (fun h => pi_range1 (by rfl) tx.z_range h))) (fun _ _ _ _ _ => (G.var (pg_name (i := 5) sc_l_determinant.nd rfl (by first | exact Or.inl rfl | exact Or.inr rfl)))) (fun _ _ _ _ _ => (Tl.one (T.ne hr.units (P.var 5 (pv 5)) (P.var 3 (pv 3))))) (fun _ _ _ _ _ => (E.sl (E.p (E.ix (P.var 0 (pv 0)) (P.var 5 (pv 5)) (fun _ _ => rfl))) (O.some (E.p E.int)) O.none)))
    (Ss.one (S.setN (E.add (P.var 1 (pv 1)) (E.p (E.mulT (E.p (E.mulT (P.var 2 (pv 2)) (E.p (E.ix (E.p (E.ix (P.var 0 (pv 0)) (P.var 3 (pv 3)) (fun _ _ => rfl))) (E.p E.int) (fun _ _ => rfl))))) (E.p (E.call mo_l_determinant (A.cons (E.var 4 (pv 4)) A.nil) rfl (fun h => pe_call ok_l_determinant (hr.mono le_l_determinant) (by rfl) tx.m_l_determinant tx.f_l_determinant.kp tx.b_l_determinant .nil pass0 h)))))) (fun h => ps_asg h (pg_name (i := 1) sc_l_determinant.nd rfl (by first | exact Or.inl rfl | exact Or.inr rfl)))))) Ss.nil)
    (Ss.one (S.setN (E.sub (E.p E.int) (P.var 2 (pv 2))) (fun h => ps_asg h (pg_name (i := 2) sc_l_determinant.nd rfl (by first | exact Or.inl rfl | exact Or.inr rfl)))))) (fun h1 h2 h3 => ps_for PassesOwn.never rfl h1 h2 h3))
    (Ss.one (S.ret (E.var 1 (pv 1)))))))
abbrev ce1_law (g_l_pick : OC) (g_l_taken : OC) (g_l_signed : OC) (g_l_gcd : OC) (g_completed : OC) (g_l_determinant : OC) : SE := (callE g_l_signed (consA (varE 1) (consA (varE 4) nilA)))
abbrev fb2_law (g_l_pick : OC) (g_l_taken : OC) (g_l_signed : OC) (g_l_gcd : OC) (g_completed : OC) (g_l_determinant : OC) : SS := (setS 7 (callE g_l_gcd (consA (varE 7) (consA (varE 8) nilA))))
abbrev ce3_law (g_l_pick : OC) (g_l_taken : OC) (g_l_signed : OC) (g_l_gcd : OC) (g_completed : OC) (g_l_determinant : OC) : SE := (sOp fdivO (varP 8) (varP 7))
abbrev ct4_law (g_l_pick : OC) (g_l_taken : OC) (g_l_signed : OC) (g_l_gcd : OC) (g_completed : OC) (g_l_determinant : OC) : ST := (orT (notT (tV (callE isiO (consA (varP 8) (consA (cE (.ty .int)) nilA))))) (tV (callE isiO (consA (varP 8) (consA (cE (.ty .bool)) nilA)))))
abbrev ce5_law (g_l_pick : OC) (g_l_taken : OC) (g_l_signed : OC) (g_l_gcd : OC) (g_completed : OC) (g_l_determinant : OC) : SE := (varE 8)
abbrev fb6_law (g_l_pick : OC) (g_l_taken : OC) (g_l_signed : OC) (g_l_gcd : OC) (g_completed : OC) (g_l_determinant : OC) : SS := (seqS (ifS (orT (notT (tV (callE isiO (consA (varP 10) (consA (cE (.ty .tuple)) nilA))))) (tV (sOp neO (callE (call1 lenO) (consA (varP 10) nilA)) (varP 3)))) (retS (cE (.bl false))) nextS)
    (ifS (tV (sOp neO (fun ρ Q => (lcA (seqI (varP 10)) (gVar 8) (ct4_law g_l_pick g_l_taken g_l_signed g_l_gcd g_completed g_l_determinant) (ce5_law g_l_pick g_l_taken g_l_signed g_l_gcd g_completed g_l_determinant) [8]) ρ fun ds => Q (.lst ds)) (fun ρ Q => (lstF nilA) ρ fun ds => Q (.lst ds)))) (retS (cE (.bl false))) nextS))
abbrev ce7_law (g_l_pick : OC) (g_l_taken : OC) (g_l_signed : OC) (g_l_gcd : OC) (g_completed : OC) (g_l_determinant : OC) : SE := (fun ρ Q => (callF listF (consA (varP 10) nilA)) ρ fun ds => Q (.lst ds))
abbrev fb8_law (g_l_pick : OC) (g_l_taken : OC) (g_l_signed : OC) (g_l_gcd : OC) (g_completed : OC) (g_l_determinant : OC) : SS := (seqS (asgS (tupE (consA (sOp addO (cE (.int 1)) (callE g_l_taken (consA (varE 1) (consA (cE (.int 4)) nilA)))) (consA (callE g_l_pick (consA (varE 1) (consA (fun ρ Q => (lstF (consA (cE (.int 1)) (consA (cE (.int 4)) (consA (cE (.int 30)) nilA)))) ρ fun ds => Q (.lst ds)) nilA))) nilA))) (gTupS (gConsS (gVar 3) (gConsS (gVar 4) gNilS))))
    (seqS (setS 5 (fun ρ Q => (lcA (rng1A (consA (varP 3) nilA)) (gVar 6) yesT (ce1_law g_l_pick g_l_taken g_l_signed g_l_gcd g_completed g_l_determinant) [6]) ρ fun ds => Q (.lst ds)))
    (seqS (setS 7 (cE (.int 0)))
    (seqS (forS (seqI (varE 5)) (gVar 8) (fb2_law g_l_pick g_l_taken g_l_signed g_l_gcd g_completed g_l_determinant))
    (seqS (setS 5 (ifE (tV (sOp gtO (varP 7) (cE (.int 0)))) (callE (call1 tupleO) (consA (fun ρ Q => (lcA (seqI (varP 5)) (gVar 8) yesT (ce3_law g_l_pick g_l_taken g_l_signed g_l_gcd g_completed g_l_determinant) [8]) ρ fun ds => Q (.lst ds)) nilA)) (sOp addO (sOp mulT (tupE (consA (cE (.int 0)) nilA)) (sOp subO (varP 3) (cE (.int 1)))) (tupE (consA (cE (.int 1)) nilA)))))
    (ifS (tV (sOp neO (varP 5) (tupE (consA (sUn negO (cE (.int 1))) nilA)))) (seqS (setS 9 (callE g_completed (consA (varE 5) nilA)))
    (seqS (ifS (orT (notT (tV (callE isiO (consA (varP 9) (consA (cE (.ty .tuple)) nilA))))) (orT (tV (sOp neO (callE (call1 lenO) (consA (varP 9) nilA)) (varP 3))) (tV (sOp neO (sOp ixO (varP 9) (cE (.int 0))) (varP 5))))) (retS (cE (.bl false))) nextS)
    (seqS (forS (seqI (varE 9)) (gVar 10) (fb6_law g_l_pick g_l_taken g_l_signed g_l_gcd g_completed g_l_determinant))
    (ifS (tV (sOp neO (callE g_l_determinant (consA (fun ρ Q => (lcA (seqI (varP 9)) (gVar 10) yesT (ce7_law g_l_pick g_l_taken g_l_signed g_l_gcd g_completed g_l_determinant) [10]) ρ fun ds => Q (.lst ds)) nilA)) (cE (.int 1)))) (retS (cE (.bl false))) nextS)))) nextS))))))
abbrev sem_law (g_l_pick : OC) (g_l_taken : OC) (g_l_signed : OC) (g_l_gcd : OC) (g_completed : OC) (g_l_determinant : OC) : SS := (seqS (forS (rng1A (consA (cE (.int 3)) nilA)) (gVar 2) (fb8_law g_l_pick g_l_taken g_l_signed g_l_gcd g_completed g_l_determinant))
    (retS (cE (.bl true))))
theorem walk_law (tx : Tx K mg) {g_l_pick : OC} {k_l_pick : Nat} (mo_l_pick : MonoC g_l_pick) (ok_l_pick : FnOk Pg w K mg base CX0 k_l_pick tx.a_l_pick tx.d_l_pick ["_law_row", "_law_things"] (spOf K 2 g_l_pick)) (le_l_pick : k_l_pick ≤ k) {g_l_taken : OC} {k_l_taken : Nat} (mo_l_taken : MonoC g_l_taken) (ok_l_taken : FnOk Pg w K mg base CX0 k_l_taken tx.a_l_taken tx.d_l_taken ["_law_row", "_law_many"] (spOf K 2 g_l_taken)) (le_l_taken : k_l_taken ≤ k) {g_l_signed : OC} {k_l_signed : Nat} (mo_l_signed : MonoC g_l_signed) (ok_l_signed : FnOk Pg w K mg base CX0 k_l_signed tx.a_l_signed tx.d_l_signed ["_law_row", "_law_most"] (spOf K 2 g_l_signed)) (le_l_signed : k_l_signed ≤ k) {g_l_gcd : OC} {k_l_gcd : Nat} (mo_l_gcd : MonoC g_l_gcd) (ok_l_gcd : FnOk Pg w K mg base CX0 k_l_gcd tx.a_l_gcd tx.d_l_gcd ["_law_one", "_law_other"] (spOf K 2 g_l_gcd)) (le_l_gcd : k_l_gcd ≤ k) {g_completed : OC} {k_completed : Nat} (mo_completed : MonoC g_completed) (ok_completed : FnOk Pg w K mg base CX0 k_completed tx.a_completed tx.d_completed ["vector"] (spOf K 1 g_completed)) (le_completed : k_completed ≤ k) {g_l_determinant : OC} {k_l_determinant : Nat} (mo_l_determinant : MonoC g_l_determinant) (ok_l_determinant : FnOk Pg w K mg base CX0 k_l_determinant tx.a_l_determinant tx.d_l_determinant ["_law_rows"] (spOf K 1 g_l_determinant)) (le_l_determinant : k_l_determinant ≤ k) (cdv : Value) (Ar : Around) (outer : List PySem.Env) (s : Shared) (H : Hp) (Xk : XK) (hr : Room k (Ar.deeper (envOfC "law" (defScope s_law) s.heap.objs.size tx.a_law cdv))) :
    Ss (bodyX Pg w K mg base ["_law_script", "_law_row", "_law_turn", "_law_size", "_law_most", "_law_vector", "_law_k", "_law_common", "_law_x", "_law_found", "_law_one"] "law" (defScope s_law) tx.a_law cdv Ar outer s H Xk) (defBody s_law).tail (sem_law g_l_pick g_l_taken g_l_signed g_l_gcd g_completed g_l_determinant) :=
  (Ss.cons (S.forN (I.r1 (Ap.cons (E.p E.int) Ap.nil) (fun h => pi_range1 (by rfl) tx.z_range h)) (G.var (pg_name (i := 2) sc_law.nd rfl (by first | exact Or.inl rfl | exact Or.inr rfl))) (Ss.cons (S.asgN (E.tup (A.cons (E.add (E.p E.int) (E.p (E.call mo_l_taken (A.cons (E.var 1 (pv 1)) (A.cons E.int A.nil)) rfl (fun h => pe_call ok_l_taken (hr.mono le_l_taken) (by rfl) tx.m_l_taken tx.f_l_taken.kp tx.b_l_taken .nil pass0 h)))) (A.cons (E.call mo_l_pick (A.cons (E.var 1 (pv 1)) (A.cons (E.ofF (F.lst (A.cons E.int (A.cons E.int (A.cons E.int A.nil))))) A.nil)) rfl (fun h => pe_call ok_l_pick (hr.mono le_l_pick) (by rfl) tx.m_l_pick tx.f_l_pick.kp tx.b_l_pick .nil pass0 h)) A.nil))) (G.t (gn_var (gn_var gn_nil)) (Gs.cn (G.var (pg_name (i := 3) sc_law.nd rfl (by first | exact Or.inl rfl | exact Or.inr rfl))) (Gs.cn (G.var (pg_name (i := 4) sc_law.nd rfl (by first | exact Or.inl rfl | exact Or.inr rfl))) Gs.nil (fun h1 h2 => pgs_cons h1 h2)) (fun h1 h2 => pgs_cons h1 h2)) (fun h => pg_tup rfl h)) (fun h1 h2 => ps_asg h1 h2))
    (Ss.cons (S.lc (i := 5) (own := [("_law_k", 6)]) rfl sc_law.nd rfl rfl (sw_true rfl rfl rfl (by decide +kernel)) (blkOk_by (by kernel_rfl)) (by decide) (I.toG (I.r1 (Ap.cons (P.var 3 (pv 3)) Ap.nil) (fun h => pi_range1 (by rfl) tx.z_range h))) (fun _ _ _ _ _ => (G.var (pg_name (i := 6) sc_law.nd rfl (by first | exact Or.inl rfl | exact Or.inr rfl)))) (fun _ _ _ _ _ => Tl.nil) (fun _ _ _ _ _ => (E.call mo_l_signed (A.cons (E.var 1 (pv 1)) (A.cons (E.var 4 (pv 4)) A.nil)) rfl (fun h => pe_call ok_l_signed (hr.mono le_l_signed) (by rfl) tx.m_l_signed tx.f_l_signed.kp tx.b_l_signed .nil pass0 h))))
    (Ss.cons (S.setN E.int (fun h => ps_asg h (pg_name (i := 7) sc_law.nd rfl (by first | exact Or.inl rfl | exact Or.inr rfl))))
    (Ss.cons (S.forN (I.seq (E.var 5 (pv 5))) (G.var (pg_name (i := 8) sc_law.nd rfl (by first | exact Or.inl rfl | exact Or.inr rfl))) (Ss.one (S.setN (E.call mo_l_gcd (A.cons (E.var 7 (pv 7)) (A.cons (E.var 8 (pv 8)) A.nil)) rfl (fun h => pe_call ok_l_gcd (hr.mono le_l_gcd) (by rfl) tx.m_l_gcd tx.f_l_gcd.kp tx.b_l_gcd .nil pass0 h)) (fun h => ps_asg h (pg_name (i := 7) sc_law.nd rfl (by first | exact Or.inl rfl | exact Or.inr rfl))))) (fun h1 h2 h3 => ps_for PassesOwn.never rfl h1 h2 h3))
    (Ss.cons (S.setN (E.ifx (T.gt (P.var 7 (pv 7)) (E.p E.int)) (E.callBN tuple_s (call1_mono tupleO_mono) (Ap.cons (E.p (E.ofF (F.lc rfl sc_law.nd (own := [("_law_x", 8)]) (blkOk_by (by kernel_rfl)) (by decide) (Ig.seq (P.var 5 (pv 5))) (fun _ _ _ _ _ => (G.var (pg_name (i := 8) sc_law.nd rfl (by first | exact Or.inl rfl | exact Or.inr rfl)))) (fun _ _ _ _ _ => Tl.nil) (fun _ _ _ _ _ => (E.fdiv (P.var 8 (pv 8)) (P.var 7 (pv 7))))))) Ap.nil) (fun h => pe_callTy call_tuple_of (by rfl) tx.z_tuple bt_tuple h)) (E.add (E.p (E.mulT (E.p (E.tup (A.cons E.int A.nil))) (E.p (E.sub (P.var 3 (pv 3)) (E.p E.int))))) (E.p (E.tup (A.cons E.int A.nil))))) (fun h => ps_asg h (pg_name (i := 5) sc_law.nd rfl (by first | exact Or.inl rfl | exact Or.inr rfl))))
    (Ss.one (S.ifs (T.ne hr.units (P.var 5 (pv 5)) (E.p (E.tup (A.cons (E.neg (E.p E.int)) A.nil)))) (Ss.cons (S.setN (E.call mo_completed (A.cons (E.var 5 (pv 5)) A.nil) rfl (fun h => pe_call ok_completed (hr.mono le_completed) (by rfl) tx.m_completed tx.f_completed.kp tx.b_completed .nil pass0 h)) (fun h => ps_asg h (pg_name (i := 9) sc_law.nd rfl (by first | exact Or.inl rfl | exact Or.inr rfl))))
    (Ss.cons (S.ifs (Tw.t (Tw.or (T.not (T.val (E.callBN isi_s isiO_mono (Ap.cons (P.var 9 (pv 9)) (Ap.cons (E.p (E.tyv (t := .tuple) (by rfl) tx.z_tuple bt_tuple)) Ap.nil)) (fun h => pe_callB call_isiA (by rfl) tx.z_isinstance bt_isinstance h)))) (Tw.or (T.ne hr.units (E.p (E.callBN len_s (call1_mono lenO_mono) (Ap.cons (P.var 9 (pv 9)) Ap.nil) (fun h => pe_callB (CallR.or call_len_seq call_len_str) (by rfl) tx.z_len bt_len h))) (P.var 3 (pv 3))) (Tw.or1 (T.ne hr.units (E.p (E.ix (P.var 9 (pv 9)) (E.p E.int) (fun _ _ => rfl))) (P.var 5 (pv 5))))))) (Ss.one (S.ret E.bl)) Ss.nil)
    (Ss.cons (S.forN (I.seq (E.var 9 (pv 9))) (G.var (pg_name (i := 10) sc_law.nd rfl (by first | exact Or.inl rfl | exact Or.inr rfl))) (Ss.cons (S.ifs (Tw.t (Tw.or (T.not (T.val (E.callBN isi_s isiO_mono (Ap.cons (P.var 10 (pv 10)) (Ap.cons (E.p (E.tyv (t := .tuple) (by rfl) tx.z_tuple bt_tuple)) Ap.nil)) (fun h => pe_callB call_isiA (by rfl) tx.z_isinstance bt_isinstance h)))) (Tw.or1 (T.ne hr.units (E.p (E.callBN len_s (call1_mono lenO_mono) (Ap.cons (P.var 10 (pv 10)) Ap.nil) (fun h => pe_callB (CallR.or call_len_seq call_len_str) (by rfl) tx.z_len bt_len h))) (P.var 3 (pv 3)))))) (Ss.one (S.ret E.bl)) Ss.nil)
    (Ss.one (S.ifs (T.ne hr.units (E.p (E.ofF (F.lc rfl sc_law.nd (own := [("_law_x", 8)]) (blkOk_by (by kernel_rfl)) (by decide) (Ig.seq (P.var 10 (pv 10))) (fun _ _ _ _ _ => (G.var (pg_name (i := 8) sc_law.nd rfl (by first | exact Or.inl rfl | exact Or.inr rfl)))) (fun _ _ _ _ _ => (Tl.one (Tw.t (Tw.or (T.not (T.val (E.callBN isi_s isiO_mono (Ap.cons (P.var 8 (pv 8)) (Ap.cons (E.p (E.tyv (t := .int) (by rfl) tx.z_int bt_int)) Ap.nil)) (fun h => pe_callB call_isiA (by rfl) tx.z_isinstance bt_isinstance h)))) (Tw.or1 (T.val (E.callBN isi_s isiO_mono (Ap.cons (P.var 8 (pv 8)) (Ap.cons (E.p (E.tyv (t := .bool) (by rfl) tx.z_bool bt_bool)) Ap.nil)) (fun h => pe_callB call_isiA (by rfl) tx.z_isinstance bt_isinstance h)))))))) (fun _ _ _ _ _ => (E.var 8 (pv 8)))))) (E.p (E.ofF (F.lst A.nil)))) (Ss.one (S.ret E.bl)) Ss.nil))) (fun h1 h2 h3 => ps_for PassesOwn.never rfl h1 h2 h3))
    (Ss.one (S.ifs (T.ne hr.units (E.p (E.call mo_l_determinant (A.cons (E.ofF (F.lc rfl sc_law.nd (own := [("_law_one", 10)]) (blkOk_by (by kernel_rfl)) (by decide) (Ig.seq (P.var 9 (pv 9))) (fun _ _ _ _ _ => (G.var (pg_name (i := 10) sc_law.nd rfl (by first | exact Or.inl rfl | exact Or.inr rfl)))) (fun _ _ _ _ _ => Tl.nil) (fun _ _ _ _ _ => (E.ofF (F.callBN list_s listF_mono (Ap.cons (P.var 10 (pv 10)) Ap.nil) (fun h => pe_callTy call_list_of (by rfl) tx.z_list bt_list h)))))) A.nil) rfl (fun h => pe_call ok_l_determinant (hr.mono le_l_determinant) (by rfl) tx.m_l_determinant tx.f_l_determinant.kp tx.b_l_determinant .nil pass0 h))) (E.p E.int)) (Ss.one (S.ret E.bl)) Ss.nil))))) Ss.nil))))))) (fun h1 h2 h3 => ps_for PassesOwn.never rfl h1 h2 h3))
    (Ss.one (S.ret E.bl)))
end
/-! ### the head -/
def dd_is_in : He.DefD := ⟨("is_in", none), "is_in", "is_in", defArgs s_is_in, defBody s_is_in, defScope s_is_in, [], []⟩
def dd_gcd : He.DefD := ⟨("gcd", none), "gcd", "gcd", defArgs s_gcd, defBody s_gcd, defScope s_gcd, [], []⟩
def dd_are_integers : He.DefD := ⟨("are_integers", none), "are_integers", "are_integers", defArgs s_are_integers, defBody s_are_integers, defScope s_are_integers, [], []⟩
def dd_completed : He.DefD := ⟨("completed", none), "completed", "completed", defArgs s_completed, defBody s_completed, defScope s_completed, [], []⟩
def dd_finished : He.DefD := ⟨("finished", none), "finished", "finished", defArgs s_finished, defBody s_finished, defScope s_finished, [], []⟩
def dd_last_alone : He.DefD := ⟨("last_alone", none), "last_alone", "last_alone", defArgs s_last_alone, defBody s_last_alone, defScope s_last_alone, [], []⟩
def dd_bezout : He.DefD := ⟨("bezout", none), "bezout", "bezout", defArgs s_bezout, defBody s_bezout, defScope s_bezout, [], []⟩
def dd_l_taken : He.DefD := ⟨("_law_taken", none), "_law_taken", "_law_taken", defArgs s_l_taken, defBody s_l_taken, defScope s_l_taken, [], []⟩
def dd_l_pick : He.DefD := ⟨("_law_pick", none), "_law_pick", "_law_pick", defArgs s_l_pick, defBody s_l_pick, defScope s_l_pick, [], []⟩
def dd_l_signed : He.DefD := ⟨("_law_signed", none), "_law_signed", "_law_signed", defArgs s_l_signed, defBody s_l_signed, defScope s_l_signed, [], []⟩
def dd_l_gcd : He.DefD := ⟨("_law_gcd", none), "_law_gcd", "_law_gcd", defArgs s_l_gcd, defBody s_l_gcd, defScope s_l_gcd, [], []⟩
def dd_l_determinant : He.DefD := ⟨("_law_determinant", none), "_law_determinant", "_law_determinant", defArgs s_l_determinant, defBody s_l_determinant, defScope s_l_determinant, [], []⟩
def dd_law : He.DefD := ⟨("law", none), "law", "law", defArgs s_law, defBody s_law, defScope s_law, [], []⟩
def fns : List He.DefD := [dd_is_in, dd_gcd, dd_are_integers, dd_completed, dd_finished, dd_last_alone, dd_bezout, dd_l_taken, dd_l_pick, dd_l_signed, dd_l_gcd, dd_l_determinant, dd_law]
def fas : List He.Fa := [.glo "is_in", .glo "gcd", .glo "are_integers", .glo "completed", .glo "finished", .glo "last_alone", .glo "bezout", .glo "_law_taken", .glo "_law_pick", .glo "_law_signed", .glo "_law_gcd", .glo "_law_determinant", .glo "law", .free "abs", .free "bool", .free "int", .free "isinstance", .free "len", .free "list", .free "range", .free "tuple", .int "GREATEST" (1000), .int "MOST_VECTOR" (4)]
def tbs : List (Str × List He.Dv) := []
theorem tx_of {K : Kf} {h : Heap} {mg : Str → Option Value} (X : K.In h) (G : h.Ns mainGlobals mg) (c : SaysZ fas fns tbs K) : ∃ T : Tx K mg, True := by
  obtain ⟨e_is_in, f_is_in⟩ := c.def_ 0 (d := dd_is_in) rfl
  obtain ⟨e_gcd, f_gcd⟩ := c.def_ 1 (d := dd_gcd) rfl
  obtain ⟨e_are_integers, f_are_integers⟩ := c.def_ 2 (d := dd_are_integers) rfl
  obtain ⟨e_completed, f_completed⟩ := c.def_ 3 (d := dd_completed) rfl
  obtain ⟨e_finished, f_finished⟩ := c.def_ 4 (d := dd_finished) rfl
  obtain ⟨e_last_alone, f_last_alone⟩ := c.def_ 5 (d := dd_last_alone) rfl
  obtain ⟨e_bezout, f_bezout⟩ := c.def_ 6 (d := dd_bezout) rfl
  obtain ⟨e_l_taken, f_l_taken⟩ := c.def_ 7 (d := dd_l_taken) rfl
  obtain ⟨e_l_pick, f_l_pick⟩ := c.def_ 8 (d := dd_l_pick) rfl
  obtain ⟨e_l_signed, f_l_signed⟩ := c.def_ 9 (d := dd_l_signed) rfl
  obtain ⟨e_l_gcd, f_l_gcd⟩ := c.def_ 10 (d := dd_l_gcd) rfl
  obtain ⟨e_l_determinant, f_l_determinant⟩ := c.def_ 11 (d := dd_l_determinant) rfl
  obtain ⟨e_law, f_law⟩ := c.def_ 12 (d := dd_law) rfl
  exact ⟨{ a_is_in := _, d_is_in := e_is_in, f_is_in := f_is_in, m_is_in := He.glo_ok X G (c.fact 0 (f := .glo "is_in") rfl), b_is_in := (FunD.bindsN f_is_in fun _ _ _ _ _ _ us hl => match us, hl with | [_, _, _], _ => rfl), a_gcd := _, d_gcd := e_gcd, f_gcd := f_gcd, m_gcd := He.glo_ok X G (c.fact 1 (f := .glo "gcd") rfl), b_gcd := (FunD.bindsN f_gcd fun _ _ _ _ _ _ us hl => match us, hl with | [_, _], _ => rfl), a_are_integers := _, d_are_integers := e_are_integers, f_are_integers := f_are_integers, m_are_integers := He.glo_ok X G (c.fact 2 (f := .glo "are_integers") rfl), b_are_integers := (FunD.bindsN f_are_integers fun _ _ _ _ _ _ us hl => match us, hl with | [_, _, _], _ => rfl), a_completed := _, d_completed := e_completed, f_completed := f_completed, m_completed := He.glo_ok X G (c.fact 3 (f := .glo "completed") rfl), b_completed := (FunD.bindsN f_completed fun _ _ _ _ _ _ us hl => match us, hl with | [_], _ => rfl), a_finished := _, d_finished := e_finished, f_finished := f_finished, m_finished := He.glo_ok X G (c.fact 4 (f := .glo "finished") rfl), b_finished := (FunD.bindsN f_finished fun _ _ _ _ _ _ us hl => match us, hl with | [_], _ => rfl), a_last_alone := _, d_last_alone := e_last_alone, f_last_alone := f_last_alone, m_last_alone := He.glo_ok X G (c.fact 5 (f := .glo "last_alone") rfl), b_last_alone := (FunD.bindsN f_last_alone fun _ _ _ _ _ _ us hl => match us, hl with | [_], _ => rfl), a_bezout := _, d_bezout := e_bezout, f_bezout := f_bezout, m_bezout := He.glo_ok X G (c.fact 6 (f := .glo "bezout") rfl), b_bezout := (FunD.bindsN f_bezout fun _ _ _ _ _ _ us hl => match us, hl with | [_, _], _ => rfl), a_l_taken := _, d_l_taken := e_l_taken, f_l_taken := f_l_taken, m_l_taken := He.glo_ok X G (c.fact 7 (f := .glo "_law_taken") rfl), b_l_taken := (FunD.bindsN f_l_taken fun _ _ _ _ _ _ us hl => match us, hl with | [_, _], _ => rfl), a_l_pick := _, d_l_pick := e_l_pick, f_l_pick := f_l_pick, m_l_pick := He.glo_ok X G (c.fact 8 (f := .glo "_law_pick") rfl), b_l_pick := (FunD.bindsN f_l_pick fun _ _ _ _ _ _ us hl => match us, hl with | [_, _], _ => rfl), a_l_signed := _, d_l_signed := e_l_signed, f_l_signed := f_l_signed, m_l_signed := He.glo_ok X G (c.fact 9 (f := .glo "_law_signed") rfl), b_l_signed := (FunD.bindsN f_l_signed fun _ _ _ _ _ _ us hl => match us, hl with | [_, _], _ => rfl), a_l_gcd := _, d_l_gcd := e_l_gcd, f_l_gcd := f_l_gcd, m_l_gcd := He.glo_ok X G (c.fact 10 (f := .glo "_law_gcd") rfl), b_l_gcd := (FunD.bindsN f_l_gcd fun _ _ _ _ _ _ us hl => match us, hl with | [_, _], _ => rfl), a_l_determinant := _, d_l_determinant := e_l_determinant, f_l_determinant := f_l_determinant, m_l_determinant := He.glo_ok X G (c.fact 11 (f := .glo "_law_determinant") rfl), b_l_determinant := (FunD.bindsN f_l_determinant fun _ _ _ _ _ _ us hl => match us, hl with | [_], _ => rfl), a_law := _, d_law := e_law, f_law := f_law, m_law := He.glo_ok X G (c.fact 12 (f := .glo "law") rfl), b_law := (FunD.bindsN f_law fun _ _ _ _ _ _ us hl => match us, hl with | [_], _ => rfl), z_abs := He.free_ok X G (c.fact 13 (f := .free "abs") rfl), z_bool := He.free_ok X G (c.fact 14 (f := .free "bool") rfl), z_int := He.free_ok X G (c.fact 15 (f := .free "int") rfl), z_isinstance := He.free_ok X G (c.fact 16 (f := .free "isinstance") rfl), z_len := He.free_ok X G (c.fact 17 (f := .free "len") rfl), z_list := He.free_ok X G (c.fact 18 (f := .free "list") rfl), z_range := He.free_ok X G (c.fact 19 (f := .free "range") rfl), z_tuple := He.free_ok X G (c.fact 20 (f := .free "tuple") rfl), c_GREATEST := He.int_ok X G (c.fact 21 (f := .int "GREATEST" (1000)) rfl), c_MOST_VECTOR := He.int_ok X G (c.fact 22 (f := .int "MOST_VECTOR" (4)) rfl) }, trivial⟩
abbrev Rw : PySem.W.OpenRow := PySem.W.OpenLaw.row PySem.Challenge.rw_latticepoints_k07_whole_completed_vector
abbrev hk : PySem.W.Hook := hookZ 4 fas fns tbs
def ob (s : PySem.W.SharedT) : He.AlD := obsZG 4 fas fns tbs (HandSHeadRun.getT s)
theorem ob_eq (s : PySem.W.SharedT) : ob s = hk.obs s.abs := obsZG_eq (HandSHeadRun.getT_eq s)
def loose : List Str := (["LatticeError", "BadVector", "is_in", "gcd", "GREATEST", "MOST_VECTOR", "are_integers", "completed", "finished", "last_alone", "bezout", "_law_taken"] : List Str) ++ (["_law_pick", "_law_signed", "_law_gcd", "_law_determinant"] : List Str)
theorem run (w : World) : HandSHeadRun.RunEq Rw (PySem.W.view Rw.prog [20]) hk ob 4000 loose w := by
  intro os
  kernel_rfl
end Tx0

namespace Tx0
open PySem PySem.Spec PyProof.Rows L2 Z0
theorem small_nat {n : Int} (h : n.natAbs ≤ 1000000000000000000000) : small n := small_of (Nat.lt_of_le_of_lt h (by decide))
theorem atI_lt {α : Type} {xs : List α} {v : Int} (h0 : 0 ≤ v) (h : v < xs.length) : ∃ d, atI xs v = some d ∧ d ∈ xs := by
  obtain ⟨j, rfl⟩ : ∃ j : Nat, v = (j : Int) := ⟨v.toNat, by omega⟩
  have hj : j < xs.length := by omega
  exact ⟨xs[j], atI_nat (List.getElem?_eq_getElem hj), List.getElem_mem hj⟩
theorem lcL_any {g : SG} {f : SE} {ρ : REnv} (P : D → Prop) : ∀ (ds : List D) (Q : List D → Prop), (∀ d ∈ ds, ∀ R : D → Prop, (∀ y, P y → R y) → g d ρ fun ρ1 => f ρ1 R) → (∀ ys : List D, ys.length = ds.length → (∀ y ∈ ys, P y) → Q ys) → lcL g yesT f ρ ds Q
  | [], Q, _, q => q [] rfl (fun _ h => by cases h)
  | d :: ds, Q, h, q => h d List.mem_cons_self (fun y => lcL g yesT f ρ ds fun ys => Q (y :: ys)) fun y hy => lcL_any P ds _ (fun d hd => h d (List.mem_cons_of_mem _ hd)) fun ys hl hp => q (y :: ys) (by rw [List.length_cons, List.length_cons, hl]) fun z hz => by
      rcases List.mem_cons.mp hz with e | e
      · rw [e]; exact hy
      · exact hp z e
theorem ints_of (p : Int → Prop) : ∀ ys : List D, (∀ y ∈ ys, ∃ n : Int, y = .int n ∧ p n) → ∃ ns : List Int, ys = ns.map D.int ∧ ns.length = ys.length ∧ ∀ n ∈ ns, p n
  | [], _ => ⟨[], rfl, rfl, fun _ h => by cases h⟩
  | y :: ys, h => by
    obtain ⟨n, rfl, hn⟩ := h y List.mem_cons_self
    obtain ⟨ns, rfl, hl, hp⟩ := ints_of p ys fun z hz => h z (List.mem_cons_of_mem _ hz)
    refine ⟨n :: ns, rfl, by rw [List.length_cons, List.length_cons, hl], fun z hz => ?_⟩
    rcases List.mem_cons.mp hz with e | e
    · rw [e]; exact hn
    · exact hp z e
theorem ixN_in {n : Nat} {v : Int} (h0 : 0 ≤ v) (h1 : v < n) : ixN n v = some v.toNat := by
  unfold ixN
  rw [if_pos h0, if_pos h1]
theorem lcL_nil {g : SG} {t : ST} {f : SE} {ρ : REnv} : ∀ (ds : List D) (Q : List D → Prop), (∀ d ∈ ds, ∀ S : REnv → Bool → Prop, (∀ ρ1, S ρ1 false) → g d ρ fun ρ1 => t ρ1 (S ρ1)) → Q [] → lcL g t f ρ ds Q
  | [], Q, _, q => q
  | d :: ds, Q, h, q => h d List.mem_cons_self _ fun ρ1 => lcL_nil ds Q (fun d hd => h d (List.mem_cons_of_mem _ hd)) q
theorem dec2 {lo x hi : Int} (h1 : lo ≤ x) (h2 : x ≤ hi) : (decide (lo ≤ x) && decide (x ≤ hi)) = true := by rw [decide_eq_true h1, decide_eq_true h2]; rfl
theorem br_nn {b : Bool} {p q : Prop} (h : b = true) (hq : q) : br (!b) p q := by subst h; exact hq
theorem mem_map_int {ns : List Int} {d : D} (h : d ∈ ns.map D.int) : ∃ n : Int, d = .int n ∧ n ∈ ns := by
  obtain ⟨n, hn, rfl⟩ := List.mem_map.mp h
  exact ⟨n, rfl, hn⟩
theorem mokl {i j : Int} (h : i.natAbs ≤ 1000000000000000000) : mulOk i j := .inl (Nat.lt_of_le_of_lt h (by decide))
theorem ix_tup {ds : List D} {v : Int} {d : D} {Q : D → Prop} (h : atI ds v = some d) (q : Q d) : ixO (.tup ds) (.int v) Q := by
  show (match atI ds v with | some d => Q d | none => False)
  rw [h]; exact q
theorem ix_lst {ds : List D} {v : Int} {d : D} {Q : D → Prop} (h : atI ds v = some d) (q : Q d) : ixO (.lst ds) (.int v) Q := by
  show (match atI ds v with | some d => Q d | none => False)
  rw [h]; exact q
def isinO : OC := fun ds Q => match ds with
  | [x, .int lo, .int hi] => (match x with
    | .row => False
    | .ty _ => False
    | .int i => Q (.bl (decide (lo ≤ i) && decide (i ≤ hi)))
    | _ => Q (.bl false))
  | _ => False
theorem isinO_mono : MonoC isinO := fun ds P Q h q => by
  unfold isinO at *
  split at q
  · split at q
    · exact q
    · exact q
    · exact h _ q
    · exact h _ q
  · exact q.elim
theorem mir_is_in : ∀ ds Q, ds.length = 3 → isinO ds Q → sem_is_in (startE ["value", "least", "most"] ds) (endK Q) := fun ds Q hl q => by
  unfold isinO at q
  split at q
  · rename_i x lo hi
    cases x with
    | int i =>
      have q : Q (.bl (decide (lo ≤ i) && decide (i ≤ hi))) := q
      show br (decide (lo ≤ i)) (Q (.bl (decide (i ≤ hi)))) (Q (.bl false))
      cases h : decide (lo ≤ i) with
      | true => rw [h] at q; exact q
      | false => rw [h] at q; exact q
    | row => exact q.elim
    | ty t => exact q.elim
    | bl b => exact q
    | non => exact q
    | str s => exact q
    | tup s => exact q
    | lst s => exact q
  · exact q.elim
section
variable {Pg : Program} {w : World} {K : Kf} {mg : Str → Option Value} {base : Heap}
theorem ok_is_in (tx : Tx K mg) : FnOk Pg w K mg base CX0 1 tx.a_is_in tx.d_is_in ["value", "least", "most"] (spOf K 3 isinO) :=
  Z0.fn_ok tx.f_is_in sc_is_in rfl (walk_is_in tx) mir_is_in
end
theorem gcd_step (a b : Int) (hb : b ≠ 0) : Int.gcd b (a.fmod b) = Int.gcd a b := by
  have e : a.fmod b = a - b * (a.fdiv b) := by have := Int.mul_fdiv_add_fmod a b; omega
  have h1 : (Int.gcd a b : Int) ∣ a := Int.gcd_dvd_left ..
  have h2 : (Int.gcd a b : Int) ∣ b := Int.gcd_dvd_right ..
  have h3 : (Int.gcd b (a.fmod b) : Int) ∣ b := Int.gcd_dvd_left ..
  have h4 : (Int.gcd b (a.fmod b) : Int) ∣ a.fmod b := Int.gcd_dvd_right ..
  have h5 : (Int.gcd b (a.fmod b) : Int) ∣ a := by
    have e2 : a.fmod b + b * (a.fdiv b) = a := by omega
    have h45 := Int.dvd_add h4 (Int.dvd_trans h3 (Int.dvd_mul_right b (a.fdiv b)))
    rwa [e2] at h45
  have h6 : (Int.gcd a b : Int) ∣ a.fmod b := by
    rw [e]
    exact Int.dvd_sub h1 (Int.dvd_trans h2 (Int.dvd_mul_right ..))
  have h7 : Int.gcd b (a.fmod b) ∣ Int.gcd a b := Int.dvd_gcd h5 h3 |> fun h => by exact_mod_cast h
  have h8 : Int.gcd a b ∣ Int.gcd b (a.fmod b) := Int.dvd_gcd h2 h6 |> fun h => by exact_mod_cast h
  exact Nat.dvd_antisymm h7 h8
def gcdO : OC := fun ds Q => match ds with
  | [.int a, .int b] => Q (.int (Int.gcd a b))
  | _ => False
theorem gcdO_mono : MonoC gcdO := fun ds P Q h q => by
  unfold gcdO at *
  split at q
  · exact h _ q
  · exact q.elim
theorem lgcd_loop {Q : D → Prop} : ∀ (N : Nat) (a b : Int), b.toNat < N → 0 ≤ a → 0 ≤ b → Q (.int (Int.gcd a b)) →
    whN wt1_l_gcd ws2_l_gcd N [some (.sh (.int a)), some (.sh (.int b))] { nx := fun ρ => retS (varE 0) ρ (endK Q), rt := Q, bk := fun _ => False, ct := fun _ => False } := fun N => by
  induction N with
  | zero =>
    intro a b hN
    omega
  | succ N ih =>
    intro a b hN ha hb q
    refine br_n (c := b = 0) (fun h => ?_) (fun h => ?_)
    · have hb0 : 0 < b := by omega
      have h1 := Int.fmod_nonneg_of_pos a hb0
      have h2 := Int.fmod_lt_of_pos a hb0
      refine ⟨h, ?_⟩
      exact ih b (a.fmod b) (by omega) hb h1 (by rw [gcd_step a b h]; exact q)
    · subst h
      have e : ((Int.gcd a 0 : Nat) : Int) = a := by rw [Int.gcd_zero_right]; omega
      rw [e] at q
      exact q
theorem mir_l_gcd : ∀ ds Q, ds.length = 2 → gcdO ds Q → sem_l_gcd (startE ["_law_one", "_law_other"] ds) (endK Q) := fun ds Q hl q => by
  unfold gcdO at q
  split at q
  · rename_i a b
    have e : ∀ x : Int, (if x < 0 then -x else x) = (x.natAbs : Int) := fun x => by split <;> omega
    refine ⟨_, lgcd_loop ((if b < 0 then -b else b).toNat + 1) (if a < 0 then -a else a) (if b < 0 then -b else b) (Nat.lt_succ_self _) ?_ ?_ ?_⟩
    · rw [e]; omega
    · rw [e]; omega
    · rw [e, e]
      exact q
  · exact q.elim
section
variable {Pg : Program} {w : World} {K : Kf} {mg : Str → Option Value} {base : Heap}
theorem ok_lgcd (tx : Tx K mg) : FnOk Pg w K mg base CX0 1 tx.a_l_gcd tx.d_l_gcd ["_law_one", "_law_other"] (spOf K 2 gcdO) :=
  Z0.fn_ok tx.f_l_gcd sc_l_gcd rfl (walk_l_gcd tx) mir_l_gcd
end
section
variable {Pg : Program} {w : World} {K : Kf} {mg : Str → Option Value} {base : Heap}
theorem atI_row0 {a b c d : V} : atI [a, b, c, d] 0 = some a := rfl
end
section
variable {Pg : Program} {w : World} {K : Kf} {mg : Str → Option Value} {base : Heap}
theorem atI_row1 {a b c d : V} : atI [a, b, c, d] 1 = some b := rfl
end
section
variable {Pg : Program} {w : World} {K : Kf} {mg : Str → Option Value} {base : Heap}
theorem atI_row2 {a b c d : V} : atI [a, b, c, d] 2 = some c := rfl
end
section
variable {Pg : Program} {w : World} {K : Kf} {mg : Str → Option Value} {base : Heap}
theorem atI_row3 {a b c d : V} : atI [a, b, c, d] 3 = some d := rfl
end
section
variable {Pg : Program} {w : World} {K : Kf} {mg : Str → Option Value} {base : Heap}
theorem ok_taken (tx : Tx K mg) : FnOk Pg w K mg base CX0 1 tx.a_l_taken tx.d_l_taken ["_law_row", "_law_many"] (spOf K 2 takenO) := by
  refine tx.f_l_taken.ok sc_l_taken (fun vs H Q E h => h.1) (fun cdv A outer s H vs Q E hr h => ?_)
  refine ⟨_, pss_cons (ps_if (pt_cmpR op_gt (pe_ix ix_list (L2.pv 0) pe_int (fun _ _ => rfl)) pe_int (nomark _))
        (pss_cons (ps_set (i := 2) sc_l_taken.nd rfl (Or.inl rfl) (pe_op op_modN (pe_callTy call_int1 (by rfl) tx.z_int bt_int (pa_cons (pe_ix ix_list (L2.pv 0) pe_int (fun _ _ => rfl)) pa_nil)) (L2.pv 1)))
        (pss_cons (ps_asg (pe_op op_fdivS (pe_ix ix_list (L2.pv 0) pe_int (fun _ _ => rfl)) (L2.pv 1)) (pg_sub (L2.pv 0) pe_int set_list))
        (pss_one (ps_ret (L2.pv 2))))) pss_nil)
      (pss_cons (ps_asg (pe_op op_add (pe_ix ix_list (L2.pv 0) pe_int (fun _ _ => rfl)) pe_int) (pg_sub (L2.pv 0) pe_int set_list))
      (pss_cons (ps_if (pt_cmpR op_gt (pe_ix ix_list (L2.pv 0) pe_int (fun _ _ => rfl)) (pe_callB call_len_seq (by rfl) tx.z_len bt_len (pa_cons (pe_ix ix_list (L2.pv 0) pe_int (fun _ _ => rfl)) pa_nil)) (nomark _))
        (pss_cons (ps_asg (pe_op op_modN (pe_callTy call_int1 (by rfl) tx.z_int bt_int (pa_cons (pe_op op_add (pe_op op_mul (pe_ix ix_list (L2.pv 0) pe_int (fun _ _ => rfl)) pe_int) pe_int) pa_nil)) pe_int) (pg_sub (L2.pv 0) pe_int set_list))
        (pss_one (ps_ret (pe_op op_modN (pe_callTy call_int1 (by rfl) tx.z_int bt_int (pa_cons (pe_op op_fdivS (pe_ix ix_list (L2.pv 0) pe_int (fun _ _ => rfl)) pe_int) pa_nil)) (L2.pv 1))))) pss_nil)
      (pss_cons (ps_set (i := 3) sc_l_taken.nd rfl (Or.inl rfl) (pe_ix ix_list (pe_ix ix_list (L2.pv 0) pe_int (fun _ _ => rfl)) (pe_op op_sub (pe_ix ix_list (L2.pv 0) pe_int (fun _ _ => rfl)) pe_int) (fun _ _ => rfl)))
      (pss_cons (ps_asg (pe_op op_modN (pe_callTy call_int1 (by rfl) tx.z_int bt_int (pa_cons (pe_op op_add (pe_op op_add (pe_op op_mul (pe_ix ix_list (L2.pv 0) pe_int (fun _ _ => rfl)) pe_int) (L2.pv 3)) pe_int) pa_nil)) pe_int) (pg_sub (L2.pv 0) pe_int set_list))
      (pss_cons (ps_if (pt_cmpR op_ge (L2.pv 3) (pe_op op_pow pe_int pe_int) (nomark _))
        (pss_one (ps_asg (pe_op op_fdivS (L2.pv 3) (L2.pv 1)) (pg_sub (L2.pv 0) pe_int set_list))) pss_nil)
      (pss_one (ps_ret (pe_op op_modN (pe_callTy call_int1 (by rfl) tx.z_int bt_int (pa_cons (L2.pv 3) pa_nil)) (L2.pv 1))))))))), ?_⟩
  · obtain ⟨hl, rw, F, ds, b, reps, q⟩ := h
    unfold takenO at q
    split at q
    · rename_i many
      obtain ⟨v0, r0, rfl, ⟨a, hrw, rfl⟩, v1, r1, rfl, rfl, rfl⟩ := (show ∃ v0 r0, vs = v0 :: r0 ∧ (∃ a, rw = some a ∧ v0 = V.ref a) ∧ ∃ v1 r1, r0 = v1 :: r1 ∧ v1 = V.int many ∧ r1 = [] from reps)
      obtain ⟨⟨hm, hs⟩, q⟩ := q
      have hne : many ≠ 0 := by omega
      obtain ⟨sc, ns, p, m, r, hH, hsc, hp⟩ := b.row a hrw
      have fin : ∀ (x : Int) (H' : Hp), Base K ⟨rw, H, F⟩ F H' → Q (.int (x.fmod many)) H' := fun x H' b' => q (x.fmod many) (Int.fmod_nonneg_of_pos _ hm) (Int.fmod_lt_of_pos _ hm) (.int (x.fmod many)) F H' b' rfl
      have S : ∀ {H' : Hp} {xs : List V}, H' a = some (.lst xs) → SqL K H' a xs := fun h => SqL.of h
      refine ⟨_, rfl, ?_⟩
      refine ⟨a, _, 3, .int r, rfl, rfl, S hH, atI_row3, r, 0, rfl, rfl, decide (0 < r), rfl, ite2 (fun _ => ?_) (fun _ => ?_)⟩
      · -- the digits of a great cell
        refine ⟨_, rfl, a, _, 3, .int r, rfl, rfl, S hH, atI_row3, .inl ⟨r, rfl, _, rfl, r, many, rfl, rfl, hne, ?_⟩⟩
        refine ⟨_, rfl, a, _, 3, .int r, rfl, rfl, S hH, atI_row3, _, rfl, r, many, rfl, rfl, ⟨hne, hs⟩, _, rfl, a, _, 3, 3, rfl, rfl, hH, rfl, _, rfl, ?_⟩
        exact fin r _ (base_row b hrw hH hsc hp).1
      · refine ⟨_, rfl, a, _, 1, .int p, rfl, rfl, S hH, atI_row1, p, 1, rfl, rfl, _, rfl, a, _, 1, 1, rfl, rfl, hH, rfl, ?_⟩
        obtain ⟨b1, s1⟩ := base_row (p' := p + 1) (m' := m) (r' := r) b hrw hH hsc (by omega)
        have h1 : (upd H a (.lst [.ref sc, .int (p + 1), .int m, .int r])) a = some (.lst [.ref sc, .int (p + 1), .int m, .int r]) := upd_same
        refine ⟨_, rfl, a, _, 1, .int (p + 1), rfl, rfl, S h1, atI_row1, _, rfl, a, _, 0, .ref sc, rfl, rfl, S h1, atI_row0, sc, _, rfl, .inl s1.sql, p + 1, _, rfl, rfl, _, rfl, ite2 (fun _ => ?_) (fun hle => ?_)⟩
        · refine ⟨_, rfl, a, _, 2, .int m, rfl, rfl, S h1, atI_row2, m, 48271, rfl, rfl, .inr ⟨by decide, by decide⟩, _, 11, rfl, rfl, .inl ⟨_, rfl, _, 2147483647, rfl, rfl, (show (2147483647 : Int) ≠ 0 by decide), _, rfl, a, _, 2, 2, rfl, rfl, h1, rfl, ?_⟩⟩
          obtain ⟨b2, s2⟩ := base_row (p' := p + 1) (m' := (m * 48271 + 11).fmod 2147483647) (r' := r) b1 hrw h1 s1 (by omega)
          have h2 : (upd (upd H a (.lst [.ref sc, .int (p + 1), .int m, .int r])) a (.lst [.ref sc, .int (p + 1), .int ((m * 48271 + 11).fmod 2147483647), .int r])) a = some (.lst [.ref sc, .int (p + 1), .int ((m * 48271 + 11).fmod 2147483647), .int r]) := upd_same
          refine ⟨_, rfl, a, _, 2, _, rfl, rfl, S h2, atI_row2, _, 7, rfl, rfl, ⟨by decide, small_of (by decide)⟩, .inl ⟨_, rfl, _, rfl, _, many, rfl, rfl, hne, ?_⟩⟩
          exact fin _ _ b2
        · -- a cell of the script
          have hlen : p + 1 ≤ (ns.length : Int) := by
            have := hle
            rw [decide_eq_true_eq, List.length_map] at this
            omega
          obtain ⟨j, hj⟩ : ∃ j : Nat, p = (j : Int) := ⟨p.toNat, by omega⟩
          have hjl : j < ns.length := by omega
          have hcell : atI (ns.map V.int) (p + 1 - 1) = some (.int ns[j]) := by
            rw [show p + 1 - 1 = (j : Int) by omega]
            exact atI_nat (by rw [List.getElem?_map, List.getElem?_eq_getElem hjl]; rfl)
          refine ⟨_, rfl, a, _, 0, .ref sc, rfl, rfl, S h1, atI_row0, _, rfl, a, _, 1, .int (p + 1), rfl, rfl, S h1, atI_row1, p + 1, 1, rfl, rfl, sc, _, p + 1 - 1, _, rfl, rfl, s1.sql, hcell, ?_⟩
          generalize ns[j] = cell
          refine ⟨_, rfl, a, _, 2, .int m, rfl, rfl, S h1, atI_row2, m, 48271, rfl, rfl, .inr ⟨by decide, by decide⟩, _, rfl, _, cell, rfl, rfl, _, 11, rfl, rfl, .inl ⟨_, rfl, _, 2147483647, rfl, rfl, (show (2147483647 : Int) ≠ 0 by decide), _, rfl, a, _, 2, 2, rfl, rfl, h1, rfl, ?_⟩⟩
          obtain ⟨b2, s2⟩ := base_row (p' := p + 1) (m' := (m * 48271 + cell + 11).fmod 2147483647) (r' := r) b1 hrw h1 s1 (by omega)
          have h2 : (upd (upd H a (.lst [.ref sc, .int (p + 1), .int m, .int r])) a (.lst [.ref sc, .int (p + 1), .int ((m * 48271 + cell + 11).fmod 2147483647), .int r])) a = some (.lst [.ref sc, .int (p + 1), .int ((m * 48271 + cell + 11).fmod 2147483647), .int r]) := upd_same
          refine ⟨_, rfl, 10, 18, rfl, rfl, ⟨by decide, by decide, by decide⟩, cell, _, rfl, rfl, _, rfl, ite2 (fun _ => ?_) (fun _ => ?_)⟩
          · refine ⟨_, rfl, _, rfl, cell, many, rfl, rfl, ⟨hne, hs⟩, _, rfl, a, _, 3, 3, rfl, rfl, h2, rfl, ?_⟩
            exact ⟨_, rfl, .inl ⟨cell, rfl, _, rfl, cell, many, rfl, rfl, hne, fin cell _ (base_row b2 hrw h2 s2 (by omega)).1⟩⟩
          · exact ⟨_, rfl, .inl ⟨cell, rfl, _, rfl, cell, many, rfl, rfl, hne, fin cell _ b2⟩⟩
    · exact q.elim
end
def pickO : OC := fun ds Q => match ds with
  | [.row, .lst xs] => (xs ≠ [] ∧ xs.length ≤ 1000000) ∧ ∀ d ∈ xs, Q d
  | [.row, .tup xs] => (xs ≠ [] ∧ xs.length ≤ 1000000) ∧ ∀ d ∈ xs, Q d
  | _ => False
theorem pickO_mono : MonoC pickO := fun ds P Q h q => by
  unfold pickO at *
  split at q
  · exact ⟨q.1, fun d hd => h _ (q.2 d hd)⟩
  · exact ⟨q.1, fun d hd => h _ (q.2 d hd)⟩
  · exact q.elim
theorem mir_l_pick : ∀ ds Q, ds.length = 2 → pickO ds Q → sem_l_pick takenO (startE ["_law_row", "_law_things"] ds) (endK Q) := fun ds Q hl q => by
  unfold pickO at q
  split at q
  · rename_i xs
    obtain ⟨⟨hne, hle⟩, q⟩ := q
    have hpos : 0 < xs.length := List.length_pos_iff.mpr hne
    refine ⟨⟨by omega, small_nat (by omega)⟩, fun v h1 h2 => ?_⟩
    obtain ⟨d, e, hd⟩ := atI_lt h1 h2
    show (match atI xs v with | some d => Q d | none => False)
    rw [e]
    exact q d hd
  · rename_i xs
    obtain ⟨⟨hne, hle⟩, q⟩ := q
    have hpos : 0 < xs.length := List.length_pos_iff.mpr hne
    refine ⟨⟨by omega, small_nat (by omega)⟩, fun v h1 h2 => ?_⟩
    obtain ⟨d, e, hd⟩ := atI_lt h1 h2
    show (match atI xs v with | some d => Q d | none => False)
    rw [e]
    exact q d hd
  · exact q.elim
section
variable {Pg : Program} {w : World} {K : Kf} {mg : Str → Option Value} {base : Heap}
theorem ok_pick (tx : Tx K mg) : FnOk Pg w K mg base CX0 2 tx.a_l_pick tx.d_l_pick ["_law_row", "_law_things"] (spOf K 2 pickO) :=
  Z0.fn_ok tx.f_l_pick sc_l_pick rfl (walk_l_pick tx takenO_mono (ok_taken tx) (by decide)) mir_l_pick
end
def signedO : OC := fun ds Q => match ds with
  | [.row, .int m] => (0 ≤ m ∧ m ≤ 1000000000000000000) ∧ ∀ v, -m ≤ v → v ≤ m → Q (.int v)
  | _ => False
theorem signedO_mono : MonoC signedO := fun ds P Q h q => by
  unfold signedO at *
  split at q
  · exact ⟨q.1, fun d h1 h2 => h _ (q.2 d h1 h2)⟩
  · exact q.elim
theorem mir_l_signed : ∀ ds Q, ds.length = 2 → signedO ds Q → sem_l_signed takenO (startE ["_law_row", "_law_most"] ds) (endK Q) := fun ds Q hl q => by
  unfold signedO at q
  split at q
  · rename_i m
    obtain ⟨⟨h0, h1⟩, q⟩ := q
    refine ⟨.inl (by decide), ⟨by omega, small_nat (by omega)⟩, fun v h2 h3 => ?_⟩
    exact q (v - m) (by omega) (by omega)
  · exact q.elim
section
variable {Pg : Program} {w : World} {K : Kf} {mg : Str → Option Value} {base : Heap}
theorem ok_signed (tx : Tx K mg) : FnOk Pg w K mg base CX0 2 tx.a_l_signed tx.d_l_signed ["_law_row", "_law_most"] (spOf K 2 signedO) :=
  Z0.fn_ok tx.f_l_signed sc_l_signed rfl (walk_l_signed tx takenO_mono (ok_taken tx) (by decide)) mir_l_signed
end
def inn : Nat → D → Bool
  | _, .int _ => true
  | n + 1, .tup ds => ds.all (inn n)
  | n + 1, .lst ds => ds.all (inn n)
  | _, _ => false
theorem inn_list {n : Nat} (ih : ∀ d, inn n d = true → d.pure = true ∧ d.py.canLay0 = true ∧ d.py.depth ≤ n) : ∀ ds : List D, ds.all (inn n) = true → D.purel ds = true ∧ PyData.canLayAll0 (D.pyl ds) = true ∧ PyData.depthAll (D.pyl ds) ≤ n
  | [], _ => ⟨rfl, rfl, Nat.zero_le _⟩
  | d :: ds, h => by
    rw [List.all_cons, Bool.and_eq_true] at h
    obtain ⟨a1, a2, a3⟩ := ih d h.1
    obtain ⟨b1, b2, b3⟩ := inn_list ih ds h.2
    refine ⟨?_, ?_, ?_⟩
    · show (d.pure && D.purel ds) = true
      rw [a1, b1]; rfl
    · show (d.py.canLay0 && PyData.canLayAll0 (D.pyl ds)) = true
      rw [a2, b2]; rfl
    · show max d.py.depth (PyData.depthAll (D.pyl ds)) ≤ n
      omega
theorem inn_ok : ∀ (n : Nat) (d : D), inn n d = true → d.pure = true ∧ d.py.canLay0 = true ∧ d.py.depth ≤ n
  | 0, d, h => by
    cases d with
    | int i => exact ⟨rfl, rfl, Nat.zero_le _⟩
    | _ => cases h
  | n + 1, d, h => by
    cases d with
    | int i => exact ⟨rfl, rfl, Nat.zero_le _⟩
    | tup ds =>
      obtain ⟨a1, a2, a3⟩ := inn_list (inn_ok n) ds h
      exact ⟨a1, a2, Nat.succ_le_succ a3⟩
    | lst ds =>
      obtain ⟨a1, a2, a3⟩ := inn_list (inn_ok n) ds h
      exact ⟨a1, a2, Nat.succ_le_succ a3⟩
    | _ => cases h
theorem okD_inn {n : Nat} {d : D} (h : inn n d = true) (hn : n ≤ 64) : okD d = true := by
  obtain ⟨a1, a2, a3⟩ := inn_ok n d h
  show (d.pure && (d.py.canLay0 && decide (d.py.depth ≤ 64))) = true
  rw [a1, a2, decide_eq_true (Nat.le_trans a3 hn)]; rfl
theorem eqv_list {n : Nat} (ih : ∀ x y m, inn n x = true → inn m y = true → (eqD x y = true ↔ x = y)) : ∀ (xs ys : List D) (m : Nat), xs.all (inn n) = true → ys.all (inn m) = true → (PyData.eqvAll (D.pyl xs) (D.pyl ys) = true ↔ xs = ys)
  | [], [], _, _, _ => ⟨fun _ => rfl, fun _ => rfl⟩
  | [], y :: ys, _, _, _ => ⟨fun h => (by cases h), fun h => (by cases h)⟩
  | x :: xs, [], _, _, _ => ⟨fun h => (by cases h), fun h => (by cases h)⟩
  | x :: xs, y :: ys, m, h1, h2 => by
    rw [List.all_cons, Bool.and_eq_true] at h1 h2
    have a := ih x y m h1.1 h2.1
    have b := eqv_list ih xs ys m h1.2 h2.2
    show (eqD x y && PyData.eqvAll (D.pyl xs) (D.pyl ys)) = true ↔ _
    rw [Bool.and_eq_true, a, b]
    exact ⟨fun ⟨e1, e2⟩ => by rw [e1, e2], fun e => by injection e with e1 e2; exact ⟨e1, e2⟩⟩
theorem eqD_inn : ∀ (n : Nat) (x y : D) (m : Nat), inn n x = true → inn m y = true → (eqD x y = true ↔ x = y)
  | 0, x, y, m, h1, h2 => by
    cases x with
    | int i =>
      cases y with
      | int j =>
        show (i == j) = true ↔ _
        rw [beq_iff_eq]
        exact ⟨fun e => by rw [e], fun e => by injection e⟩
      | tup ds => exact ⟨fun h => (by cases h), fun h => (by cases h)⟩
      | lst ds => exact ⟨fun h => (by cases h), fun h => (by cases h)⟩
      | _ => cases m <;> cases h2
    | _ => cases h1
  | n + 1, x, y, m, h1, h2 => by
    cases x with
    | int i =>
      cases y with
      | int j =>
        show (i == j) = true ↔ _
        rw [beq_iff_eq]
        exact ⟨fun e => by rw [e], fun e => by injection e⟩
      | tup ds => exact ⟨fun h => (by cases h), fun h => (by cases h)⟩
      | lst ds => exact ⟨fun h => (by cases h), fun h => (by cases h)⟩
      | _ => cases m <;> cases h2
    | tup ds =>
      cases y with
      | int j => exact ⟨fun h => (by cases h), fun h => (by cases h)⟩
      | tup es =>
        cases m with
        | zero => cases h2
        | succ m =>
          have := eqv_list (eqD_inn n) ds es m h1 h2
          show PyData.eqvAll (D.pyl ds) (D.pyl es) = true ↔ _
          rw [this]
          exact ⟨fun e => by rw [e], fun e => by injection e⟩
      | lst es => exact ⟨fun h => (by cases h), fun h => (by cases h)⟩
      | _ => cases m <;> cases h2
    | lst ds =>
      cases y with
      | int j => exact ⟨fun h => (by cases h), fun h => (by cases h)⟩
      | lst es =>
        cases m with
        | zero => cases h2
        | succ m =>
          have := eqv_list (eqD_inn n) ds es m h1 h2
          show PyData.eqvAll (D.pyl ds) (D.pyl es) = true ↔ _
          rw [this]
          exact ⟨fun e => by rw [e], fun e => by injection e⟩
      | tup es => exact ⟨fun h => (by cases h), fun h => (by cases h)⟩
      | _ => cases m <;> cases h2
    | _ => cases h1
theorem eqD_t {x : D} {n : Nat} (h : inn n x = true) : eqD x x = true := (eqD_inn n x x n h h).mpr rfl
theorem eqD_f {x y : D} {n m : Nat} (h1 : inn n x = true) (h2 : inn m y = true) (h : x ≠ y) : eqD x y = false := by
  cases e : eqD x y with
  | false => rfl
  | true => exact absurd ((eqD_inn n x y m h1 h2).mp e) h
theorem inn_map {α : Type} {n : Nat} {f : α → D} {l : List α} (h : ∀ x ∈ l, inn n (f x) = true) : (l.map f).all (inn n) = true := by
  rw [List.all_map]
  exact List.all_eq_true.mpr h
theorem inn_ints {n : Nat} (l : List Int) : (l.map D.int).all (inn n) = true := inn_map fun x _ => by cases n <;> rfl
theorem gcd_step2 (a b : Int) : Int.gcd b (a.fmod b) = Int.gcd a b := by
  have e : a.fmod b = a - b * (a.fdiv b) := by have := Int.mul_fdiv_add_fmod a b; omega
  have h1 : (Int.gcd a b : Int) ∣ a := Int.gcd_dvd_left ..
  have h2 : (Int.gcd a b : Int) ∣ b := Int.gcd_dvd_right ..
  have h3 : (Int.gcd b (a.fmod b) : Int) ∣ b := Int.gcd_dvd_left ..
  have h4 : (Int.gcd b (a.fmod b) : Int) ∣ a.fmod b := Int.gcd_dvd_right ..
  have h5 : (Int.gcd b (a.fmod b) : Int) ∣ a := by
    have e2 : a.fmod b + b * (a.fdiv b) = a := by omega
    have h45 := Int.dvd_add h4 (Int.dvd_trans h3 (Int.dvd_mul_right b (a.fdiv b)))
    rwa [e2] at h45
  have h6 : (Int.gcd a b : Int) ∣ a.fmod b := by
    rw [e]
    exact Int.dvd_sub h1 (Int.dvd_trans h2 (Int.dvd_mul_right ..))
  have h7 : Int.gcd b (a.fmod b) ∣ Int.gcd a b := Int.dvd_gcd h5 h3 |> fun h => by exact_mod_cast h
  have h8 : Int.gcd a b ∣ Int.gcd b (a.fmod b) := Int.dvd_gcd h2 h6 |> fun h => by exact_mod_cast h
  exact Nat.dvd_antisymm h7 h8
def gcO : OC := fun ds Q => match ds with
  | [.int a, .int b] => Q (.int (Int.gcd a b))
  | _ => False
theorem gcO_mono : MonoC gcO := fun ds P Q h q => by
  unfold gcO at *
  split at q
  · exact h _ q
  · exact q.elim
theorem gcd_loop {Q : D → Prop} : ∀ (N : Nat) (a b : Int), b.toNat < N → 0 ≤ a → 0 ≤ b → Q (.int (Int.gcd a b)) →
    whN wt1_gcd ws2_gcd N [some (.sh (.int a)), some (.sh (.int b))] { nx := fun ρ => retS (varE 0) ρ (endK Q), rt := Q, bk := fun _ => False, ct := fun _ => False } := fun N => by
  induction N with
  | zero =>
    intro a b hN
    omega
  | succ N ih =>
    intro a b hN ha hb q
    refine br_n (c := b = 0) (fun h => ?_) (fun h => ?_)
    · have hb0 : 0 < b := by omega
      have h1 := Int.fmod_nonneg_of_pos a hb0
      have h2 := Int.fmod_lt_of_pos a hb0
      refine ⟨h, ?_⟩
      exact ih b (a.fmod b) (by omega) hb h1 (by rw [gcd_step2 a b]; exact q)
    · subst h
      have e : ((Int.gcd a 0 : Nat) : Int) = a := by rw [Int.gcd_zero_right]; omega
      rw [e] at q
      exact q
theorem mir_gcd : ∀ ds Q, ds.length = 2 → gcO ds Q → sem_gcd (startE ["one", "other"] ds) (endK Q) := fun ds Q hl q => by
  unfold gcO at q
  split at q
  · rename_i a b
    have e : ∀ x : Int, (if x < 0 then -x else x) = (x.natAbs : Int) := fun x => by split <;> omega
    refine ⟨_, gcd_loop ((if b < 0 then -b else b).toNat + 1) (if a < 0 then -a else a) (if b < 0 then -b else b) (Nat.lt_succ_self _) ?_ ?_ ?_⟩
    · rw [e]; omega
    · rw [e]; omega
    · rw [e, e]
      exact q
  · exact q.elim
section
variable {Pg : Program} {w : World} {K : Kf} {mg : Str → Option Value} {base : Heap}
theorem ok_gcd (tx : Tx K mg) : FnOk Pg w K mg base CX0 1 tx.a_gcd tx.d_gcd ["one", "other"] (spOf K 2 gcO) :=
  Z0.fn_ok tx.f_gcd sc_gcd rfl (walk_gcd tx) mir_gcd
end
def pv (ps : List Rat) (x : Rat) : Rat := ps.foldr (fun c t => t * x + c) 0
def up (n m : Int) : Int := -((-n).fdiv m)
theorem up_eq (n m : Int) : up n m * m - n = (-n).fmod m := by
  have := Int.mul_fdiv_add_fmod (-n) m
  unfold up
  rw [Int.neg_mul, Int.mul_comm]
  omega
theorem up_hi {n m : Int} (hm : 0 < m) : up n m * m - n < m := by rw [up_eq]; exact Int.fmod_lt_of_pos _ hm
def hj (n m : Int) : List Int := if h : 0 < m then up n m :: hj m (up n m * m - n) else []
termination_by m.toNat
decreasing_by
  have := up_hi (n := n) h
  omega
theorem natAbs_fmod_lt (a : Int) {b : Int} (h : b ≠ 0) : (a.fmod b).natAbs < b.natAbs := by
  rcases Int.lt_or_gt_of_ne h with hb | hb
  · have h1 := Int.fmod_nonneg_of_pos (-a) (show 0 < -b by omega)
    have h2 := Int.fmod_lt_of_pos (-a) (show 0 < -b by omega)
    rw [Int.neg_fmod_neg] at h1 h2
    omega
  · have h1 := Int.fmod_nonneg_of_pos a hb
    have h2 := Int.fmod_lt_of_pos a hb
    omega
theorem fmod_same (a : Int) {b : Int} (h : b ≠ 0) : 0 ≤ b * a.fmod b := by
  rcases Int.lt_or_gt_of_ne h with hb | hb
  · have h1 := Int.fmod_nonneg_of_pos (-a) (show 0 < -b by omega)
    rw [Int.neg_fmod_neg] at h1
    have := Int.mul_nonneg (show 0 ≤ -b by omega) h1
    rwa [Int.neg_mul_neg] at this
  · exact Int.mul_nonneg (by omega) (Int.fmod_nonneg_of_pos a hb)
theorem fmod_def' (a b : Int) : a - a.fdiv b * b = a.fmod b := by
  have := Int.mul_fdiv_add_fmod a b
  rw [Int.mul_comm] at this
  omega
theorem fdiv_same {a b : Int} (h : b ≠ 0) (hab : 0 ≤ a * b) : 0 ≤ a.fdiv b := by
  rcases Int.lt_or_gt_of_ne h with hb | hb
  · have ha : a ≤ 0 := by
      rcases Int.lt_or_le 0 a with z | z
      · have := Int.mul_neg_of_pos_of_neg z hb
        omega
      · exact z
    have := Int.fdiv_nonneg (show 0 ≤ -a by omega) (show 0 ≤ -b by omega)
    rwa [Int.neg_fdiv_neg] at this
  · have ha : 0 ≤ a := by
      rcases Int.lt_or_le a 0 with z | z
      · have := Int.mul_neg_of_neg_of_pos z hb
        omega
      · exact z
    exact Int.fdiv_nonneg ha (by omega)
theorem opp_le {u v B : Int} (h : u * v ≤ 0) (e : u - v = B ∨ u - v = -B) : v.natAbs ≤ B.natAbs := by
  have key : (v ≤ 0 ∨ u ≤ 0) ∧ (0 ≤ v ∨ 0 ≤ u) := by
    constructor
    · rcases Int.lt_or_le 0 v with z | z
      · rcases Int.lt_or_le 0 u with y | y
        · have := Int.mul_pos y z; omega
        · exact .inr y
      · exact .inl z
    · rcases Int.lt_or_le v 0 with z | z
      · rcases Int.lt_or_le u 0 with y | y
        · have := Int.mul_pos_of_neg_of_neg y z; omega
        · exact .inr y
      · exact .inl z
  omega
structure Bz (A B one other p q r s : Int) : Prop where
  e1 : one = p * A + q * B
  e2 : other = r * A + s * B
  g : Int.gcd one other = Int.gcd A B
  o1 : one.natAbs ≤ 1000000000000000000
  o2 : other.natAbs ≤ 1000000000000000000
  pr : p * r ≤ 0
  sg : (0 ≤ one * other ∧ one ≠ 0) ∨ r = 0
  d : p * other - r * one = B ∨ p * other - r * one = -B
  b : p.natAbs ≤ B.natAbs + 1
  z : B = 0 → q = 0 ∧ other = 0
theorem Bz.start {A B : Int} (h1 : A.natAbs ≤ 1000000000000000000) (h2 : B.natAbs ≤ 1000000000000000000) : Bz A B A B 1 0 0 1 :=
  ⟨by omega, by omega, rfl, h1, h2, by decide, .inr rfl, .inl (by omega), by omega, fun h => ⟨rfl, h⟩⟩
theorem Bz.step {A B one other p q r s : Int} (z : Bz A B one other p q r s) (h : other ≠ 0) (hg : Int.gcd other (one.fmod other) = Int.gcd one other) : Bz A B other (one - one.fdiv other * other) r s (p - one.fdiv other * r) (q - one.fdiv other * s) := by
  obtain ⟨e1, e2, g, o1, o2, pr, sg, d, b, z⟩ := z
  have hf := fmod_def' one other
  refine ⟨e2, ?_, by rw [hf, hg, g], o2, ?_, ?_, .inl ⟨by rw [hf]; exact fmod_same one h, h⟩, ?_, ?_, fun y => absurd (z y).2 h⟩
  · generalize one.fdiv other = f at *
    clear hf
    grind
  · rw [hf]; have := natAbs_fmod_lt one h; omega
  · have e : r * (p - one.fdiv other * r) = p * r - one.fdiv other * (r * r) := by grind
    rw [e]
    rcases sg with ⟨sg, _⟩ | sg
    · have := Int.mul_nonneg (fdiv_same h sg) (show 0 ≤ r * r from by rcases Int.le_total 0 r with y | y; exact Int.mul_nonneg y y; exact Int.mul_nonneg_of_nonpos_of_nonpos y y)
      omega
    · subst sg; simp
  · have e : r * (one - one.fdiv other * other) - (p - one.fdiv other * r) * other = - (p * other - r * one) := by grind
    rw [e]
    omega
  · rcases sg with ⟨sg, ne⟩ | sg
    · have h1 : (p * other) * (r * one) ≤ 0 := by
        have e : (p * other) * (r * one) = (p * r) * (one * other) := by grind
        rw [e]
        exact Int.mul_nonpos_of_nonpos_of_nonneg pr sg
      have h2 := opp_le h1 d
      have h3 : r.natAbs ≤ (r * one).natAbs := by
        rw [Int.natAbs_mul]
        exact Nat.le_mul_of_pos_right _ (by omega)
      omega
    · subst sg; show 0 ≤ _; omega
theorem bz_q {A B p q : Int} {g : Nat} (e : p * A + q * B = g) (hg : g = Int.gcd A B) (hb : p.natAbs ≤ B.natAbs + 1) (h0 : B = 0 → q = 0) : q.natAbs ≤ 2 * A.natAbs + 1 := by
  by_cases hB : B = 0
  · rw [h0 hB]; omega
  · have hgl : g ≤ B.natAbs := by rw [hg]; exact Nat.le_of_dvd (by omega) (Int.gcd_dvd_natAbs_right A B)
    have e2 : q * B = g - p * A := by omega
    have h1 : q.natAbs * B.natAbs ≤ g + p.natAbs * A.natAbs := by
      rw [← Int.natAbs_mul, ← Int.natAbs_mul, e2]
      omega
    have h2 : p.natAbs * A.natAbs ≤ (B.natAbs + 1) * A.natAbs := Nat.mul_le_mul_right _ hb
    have h3 : 1 ≤ B.natAbs := by omega
    have h4 : q.natAbs * B.natAbs ≤ (2 * A.natAbs + 1) * B.natAbs := by
      have e5 : (B.natAbs + 1) * A.natAbs = B.natAbs * A.natAbs + A.natAbs := by rw [Nat.add_mul, Nat.one_mul]
      have e6 : (2 * A.natAbs + 1) * B.natAbs = 2 * (B.natAbs * A.natAbs) + B.natAbs := by rw [Nat.add_mul, Nat.one_mul, Nat.mul_assoc, Nat.mul_comm A.natAbs]
      have h7 : A.natAbs ≤ B.natAbs * A.natAbs := Nat.le_mul_of_pos_left _ h3
      omega
    exact Nat.le_of_mul_le_mul_right h4 h3
def bezO : OC := fun ds Q => match ds with
  | [.int a, .int b] => (a.natAbs ≤ 1000000000000000000 ∧ b.natAbs ≤ 1000000000000000000) ∧ ∀ p q : Int, p * a + q * b = Int.gcd a b → p.natAbs ≤ b.natAbs + 1 → q.natAbs ≤ 2 * a.natAbs + 1 → Q (.tup [.int p, .int q])
  | _ => False
theorem bezO_mono : MonoC bezO := fun ds P Q h q => by
  unfold bezO at *
  split at q
  · exact ⟨q.1, fun x y h1 h2 h3 => h _ (q.2 x y h1 h2 h3)⟩
  · exact q.elim
theorem bez_loop {A B : Int} {Q : D → Prop} (hQ : ∀ p q : Int, p * A + q * B = Int.gcd A B → p.natAbs ≤ B.natAbs + 1 → q.natAbs ≤ 2 * A.natAbs + 1 → Q (.tup [.int p, .int q])) :
    ∀ (N : Nat) (one other p q r s : Int) (x : Option Slot), other.natAbs < N → Bz A B one other p q r s →
    whN wt1_bezout ws2_bezout N [some (.sh (.int one)), some (.sh (.int other)), some (.sh (.int p)), some (.sh (.int q)), some (.sh (.int r)), some (.sh (.int s)), x] { nx := fun ρ => retS (ifE (tV (sOp gtO (varP 0) (cE (.int 0)))) (tupE (consA (varE 2) (consA (varE 3) nilA))) (tupE (consA (sUn negO (varP 2)) (consA (sUn negO (varP 3)) nilA)))) ρ (endK Q), rt := Q, bk := fun _ => False, ct := fun _ => False }
  | 0, one, other, p, q, r, s, x, h, _ => by omega
  | N + 1, one, other, p, q, r, s, x, hN, z => by
    refine br_n (c := other = 0) (fun h => ?_) (fun h => ?_)
    · have f1 : (one.fdiv other).natAbs ≤ 1000000000000000000 := Nat.le_trans (Int.natAbs_fdiv_le_natAbs one other) z.o1
      have o2 := z.o2
      refine ⟨⟨h, small_nat (by omega)⟩, mokl f1, mokl f1, mokl f1, (show 4 ≤ big by decide), ?_⟩
      have hlt : (one - one.fdiv other * other).natAbs < N := by
        rw [fmod_def']; have := natAbs_fmod_lt one h; omega
      exact bez_loop hQ N _ _ _ _ _ _ _ hlt (z.step h (gcd_step2 one other))
    · subst h
      have hg : (one.natAbs : Int) = Int.gcd A B := by rw [← z.g, Int.gcd_zero_right]
      have e := z.e1
      refine br_d (c := 0 < one) (fun h => ⟨(show 2 ≤ big by decide), ?_⟩) (fun h => ⟨(show 2 ≤ big by decide), ?_⟩)
      · have e2 : p * A + q * B = (Int.gcd A B : Nat) := by omega
        exact hQ p q e2 z.b (bz_q e2 rfl z.b fun y => (z.z y).1)
      · have e2 : -p * A + -q * B = (Int.gcd A B : Nat) := by rw [Int.neg_mul, Int.neg_mul]; omega
        have b2 : (-p).natAbs ≤ B.natAbs + 1 := by rw [Int.natAbs_neg]; exact z.b
        exact hQ (-p) (-q) e2 b2 (bz_q e2 rfl b2 fun y => by rw [(z.z y).1]; rfl)
theorem mir_bezout : ∀ ds Q, ds.length = 2 → bezO ds Q → sem_bezout (startE ["one", "other", "p", "q", "r", "s", "factor"] ds) (endK Q) := fun ds Q hl q => by
  unfold bezO at q
  split at q
  · rename_i a b
    refine ⟨(show 4 ≤ big by decide), b.natAbs + 1, ?_⟩
    exact bez_loop q.2 (b.natAbs + 1) a b 1 0 0 1 none (Nat.lt_succ_self _) (Bz.start q.1.1 q.1.2)
  · exact q.elim
section
variable {Pg : Program} {w : World} {K : Kf} {mg : Str → Option Value} {base : Heap}
theorem ok_bezout (tx : Tx K mg) : FnOk Pg w K mg base CX0 1 tx.a_bezout tx.d_bezout ["one", "other"] (spOf K 2 bezO) :=
  Z0.fn_ok tx.f_bezout sc_bezout rfl (walk_bezout tx) mir_bezout
end
abbrev lsI (r : List Int) : D := .lst (r.map D.int)
abbrev tpI (r : List Int) : D := .tup (r.map D.int)
theorem cutD_drop (xs : List D) (k : Nat) : Z0.cutD xs (some (k : Int)) none = xs.drop k := by
  unfold Z0.cutD
  rw [HT.sIx_none, HT.sIx_nat]
  by_cases h : k ≤ xs.length
  · rw [Nat.min_eq_left h, List.take_of_length_le (by rw [List.length_drop]; exact Nat.le_refl _)]
  · rw [Nat.min_eq_right (by omega), Nat.sub_self, List.take_zero, List.drop_of_length_le (by omega)]
theorem map_int_inj {a b : List Int} (h : a.map D.int = b.map D.int) : a = b := by
  have := congrArg intsD h
  rw [intsD_map, intsD_map] at this
  exact Option.some.inj this
theorem inn_tp (v : List Int) : inn 1 (tpI v) = true := inn_ints v
theorem inn_ls (v : List Int) : inn 1 (lsI v) = true := inn_ints v
theorem okD_tp (v : List Int) : okD (tpI v) = true := okD_inn (inn_tp v) (by decide)
theorem okD_ls (v : List Int) : okD (lsI v) = true := okD_inn (inn_ls v) (by decide)
theorem eqTp (a b : List Int) : eqD (tpI a) (tpI b) = decide (a = b) := by
  by_cases h : a = b
  · subst h; rw [decide_eq_true rfl]; exact eqD_t (inn_tp a)
  · rw [decide_eq_false h]
    exact eqD_f (inn_tp a) (inn_tp b) fun z => h (map_int_inj (by injection z))
theorem eqLs (a b : List Int) : eqD (lsI a) (lsI b) = decide (a = b) := by
  by_cases h : a = b
  · subst h; rw [decide_eq_true rfl]; exact eqD_t (inn_ls a)
  · rw [decide_eq_false h]
    exact eqD_f (inn_ls a) (inn_ls b) fun z => h (map_int_inj (by injection z))
theorem atI_lastI {v : List Int} {z : Int} : atI ((v ++ [z]).map D.int) (-1) = some (.int z) := by
  unfold atI ixN
  rw [if_neg (by decide), List.map_append, List.length_append, List.length_map]
  rw [if_pos (by simp; omega)]
  show ((v.map D.int) ++ [D.int z])[(-1 + ((v.length + 1 : Nat) : Int)).toNat]? = _
  rw [show (-1 + ((v.length + 1 : Nat) : Int)).toNat = (v.map D.int).length by rw [List.length_map]; omega]
  simp
theorem cutD_init (ds : List D) (d : D) : Z0.cutD (ds ++ [d]) none (some (-1)) = ds := by
  unfold Z0.cutD
  rw [HT.sIx_none]
  have : HT.sIx (ds ++ [d]).length (ds ++ [d]).length (some (-1)) = ds.length := by
    unfold HT.sIx
    simp only [if_pos (show (-1 : Int) < 0 by decide), List.length_append, List.length_cons, List.length_nil]
    omega
  rw [this]; simp
def sumN (f : Nat → Int) : Nat → Int
  | 0 => 0
  | n + 1 => sumN f n + f n
def sgN : Nat → Int
  | 0 => 1
  | n + 1 => 0 - sgN n
def minorR (k : Nat) (rows : List (List Int)) : List (List Int) := (List.range rows.length).filterMap fun j => if j = k then none else some ((rows.getD j []).drop 1)
def detL : Nat → List (List Int) → Int
  | 0, _ => 1
  | n + 1, rows => sumN (fun k => sgN k * (rows.getD k []).getD 0 0 * detL n (minorR k rows)) (n + 1)
theorem minorR_len {k : Nat} {rows : List (List Int)} (h : k < rows.length) : (minorR k rows).length = rows.length - 1 := by
  unfold minorR
  have key : ∀ n, ((List.range n).filterMap fun j => if j = k then none else some ((rows.getD j []).drop 1)).length = if k < n then n - 1 else n := by
    intro n
    induction n with
    | zero => simp
    | succ n ih =>
      rw [List.range_succ, List.filterMap_append, List.length_append, ih]
      by_cases e : n = k
      · subst e; simp
      · simp only [List.filterMap_cons, if_neg e, List.filterMap_nil, List.length_cons, List.length_nil]
        split <;> split <;> omega
  rw [key, if_pos h]
theorem minorR_mem {k : Nat} {rows : List (List Int)} {r : List Int} (h : r ∈ minorR k rows) : ∃ r' ∈ rows, r = r'.drop 1 := by
  unfold minorR at h
  obtain ⟨j, hj, e⟩ := List.mem_filterMap.mp h
  have hj := List.mem_range.mp hj
  split at e
  · cases e
  · cases e
    refine ⟨rows[j], List.getElem_mem hj, ?_⟩
    rw [List.getD_eq_getElem?_getD, List.getElem?_eq_getElem hj]; rfl
def detG : Nat → OC
  | 0 => fun _ _ => False
  | n + 1 => fun ds Q => ∃ rows : List (List Int), ds = [.lst (rows.map lsI)] ∧ (rows.length ≤ n ∧ rows.length ≤ 1000 ∧ ∀ r ∈ rows, r.length = rows.length ∧ ∀ x ∈ r, x.natAbs ≤ 1000000000000) ∧ Q (.int (detL rows.length rows))
theorem detG_mono : ∀ n, MonoC (detG n)
  | 0 => fun ds P Q h q => q.elim
  | n + 1 => fun ds P Q h ⟨rows, e, c, q⟩ => ⟨rows, e, c, h _ q⟩
theorem sgN_abs : ∀ k, (sgN k).natAbs = 1
  | 0 => rfl
  | k + 1 => by have := sgN_abs k; show (0 - sgN k).natAbs = 1; omega
theorem mir_l_determinant (n : Nat) : ∀ ds Q, ds.length = 1 → detG (n + 1) ds Q → sem_l_determinant (detG n) (startE ["_law_rows", "_law_total", "_law_sign", "_law_k", "_law_rest", "_law_j"] ds) (endK Q) := fun ds Q hl q0 => by
  obtain ⟨rows, rfl, ⟨hn, hn2, hr⟩, q⟩ := q0
  refine br_d (c := (((rows.map lsI).length : Nat) : Int) = 0) (fun h => ?_) (fun h => ?_)
  · rw [List.length_map] at h
    have h0 : rows.length = 0 := by omega
    rw [h0] at q
    exact q
  · rw [List.length_map] at h
    obtain ⟨m, hm⟩ : ∃ m, rows.length = m + 1 := ⟨rows.length - 1, by omega⟩
    obtain ⟨n, rfl⟩ : ∃ n', n = n' + 1 := ⟨n - 1, by omega⟩
    rw [hm] at q
    refine ⟨(show 2 ≤ big by decide), ⟨by rw [List.length_map]; omega, by rw [List.length_map]; omega⟩, ?_⟩
    refine forL_inv (fun i ρ => ∃ x3 x4, ρ = [some (.sh (.lst (rows.map lsI))), some (.sh (.int (sumN (fun k => sgN k * (rows.getD k []).getD 0 0 * detL m (minorR k rows)) i))), some (.sh (.int (sgN i))), x3, x4, none]) ⟨none, none, rfl⟩ (fun i d ρ nxt hd hρ hnx => ?_) (fun ρ hρ => ?_)
    · obtain ⟨x3, x4, rfl⟩ := hρ
      obtain ⟨rfl, hi⟩ := rngD_get hd
      rw [List.length_map] at hi
      have hik : i < rows.length := by omega
      have hri := hr rows[i] (List.getElem_mem hik)
      have hix : atI (rows.map lsI) (0 + (i : Int)) = some (lsI rows[i]) := by
        rw [Int.zero_add]; exact atI_nat (by rw [List.getElem?_map, List.getElem?_eq_getElem hik]; rfl)
      have hgd : rows.getD i [] = rows[i] := by rw [List.getD_eq_getElem?_getD, List.getElem?_eq_getElem hik]; rfl
      obtain ⟨a, t, hat⟩ : ∃ a t, rows[i] = a :: t := by
        cases e : rows[i] with
        | nil => have := hri.1; rw [e] at this; simp at this; omega
        | cons a t => exact ⟨a, t, rfl⟩
      have hi0 : atI ((rows[i]).map D.int) 0 = some (.int a) := by rw [hat]; exact atI_nat (xs := (a :: t).map D.int) (j := 0) rfl
      have hab : a.natAbs ≤ 1000000000000 := hri.2 a (by rw [hat]; exact List.mem_cons_self)
      have hg0 : (rows.getD i []).getD 0 0 = a := by rw [hgd, hat]; rfl
      refine ix_lst hix (ix_lst hi0 (br_n (c := a = 0) (fun hne => ?_) (fun h0 => ?_)))
      · refine ⟨⟨by rw [List.length_map]; omega, by rw [List.length_map]; omega⟩, ⟨le_big (by rw [rngD_len, List.length_map]; omega), ?_⟩⟩
        refine lcL_fm (fun d => match d with
          | .int j => if j = 0 + (i : Int) then none else some (lsI ((rows.getD j.toNat []).drop 1))
          | _ => none) _ _ (fun d hd R hR => ?_) ?_
        · obtain ⟨j, rfl, j0, j1⟩ := rngD_mem hd
          rw [List.length_map] at j1
          refine br_n (c := j = 0 + (i : Int)) (fun hj => ?_) (fun hj => ?_)
          · have hj2 : atI (rows.map lsI) j = some (lsI (rows.getD j.toNat [])) := by
              obtain ⟨m, rfl⟩ : ∃ m : Nat, j = (m : Int) := ⟨j.toNat, by omega⟩
              rw [show ((m : Int)).toNat = m by omega, List.getD_eq_getElem?_getD, List.getElem?_eq_getElem (by omega)]
              exact atI_nat (by rw [List.getElem?_map, List.getElem?_eq_getElem (by omega)]; rfl)
            refine ix_lst hj2 ?_
            show R (some (.lst (Z0.cutD ((rows.getD j.toNat []).map D.int) (some ((1 : Nat) : Int)) none)))
            rw [cutD_drop, ← List.map_drop]
            have hR' : R (if j = 0 + (i : Int) then none else some (lsI ((rows.getD j.toNat []).drop 1))) := hR
            rw [if_neg hj] at hR'
            exact hR'
          · have hR' : R (if j = 0 + (i : Int) then none else some (lsI ((rows.getD j.toNat []).drop 1))) := hR
            rw [if_pos hj] at hR'
            exact hR'
        · have hmin : ((rngD 0 ((rows.map lsI).length : Nat)).filterMap fun d => match d with
              | .int j => if j = 0 + (i : Int) then none else some (lsI ((rows.getD j.toNat []).drop 1))
              | _ => none) = (minorR i rows).map lsI := by
            unfold minorR rngD
            rw [List.length_map, List.map_filterMap, List.filterMap_map, show ((rows.length : Nat) : Int) - 0 = ((rows.length : Nat) : Int) by omega, Int.toNat_natCast]
            congr 1
            funext j
            simp only [Function.comp]
            by_cases e : j = i
            · rw [if_pos e, if_pos (by omega)]; rfl
            · rw [if_neg e, if_neg (by omega), show (0 + (j : Int)).toNat = j by omega]; rfl
          rw [hmin]
          refine ix_lst hix (ix_lst hi0 ⟨mokl (by rw [sgN_abs]; omega), minorR i rows, rfl, ⟨by rw [minorR_len hik]; omega, by rw [minorR_len hik]; omega, fun r hr' => ?_⟩, ⟨mokl (by rw [Int.natAbs_mul, sgN_abs]; omega), hnx _ ⟨some (.sh (.int (0 + (i : Int)))), some (.sh (.lst ((minorR i rows).map lsI))), ?_⟩⟩⟩)
          · obtain ⟨r', m, rfl⟩ := minorR_mem hr'
            have := hr r' m
            exact ⟨by rw [List.length_drop, minorR_len hik]; omega, fun x hx => this.2 x (List.mem_of_mem_drop hx)⟩
          · show _ = [_, some (Slot.sh (.int (sumN (fun k => sgN k * (rows.getD k []).getD 0 0 * detL m (minorR k rows)) i + sgN i * (rows.getD i []).getD 0 0 * detL m (minorR i rows)))), some (.sh (.int (0 - sgN i))), _, _, none]
            have em : (minorR i rows).length = m := by rw [minorR_len hik]; omega
            rw [hg0, ← em]; rfl
      · refine hnx _ ⟨some (.sh (.int (0 + (i : Int)))), x4, ?_⟩
        show _ = [_, some (Slot.sh (.int (sumN (fun k => sgN k * (rows.getD k []).getD 0 0 * detL m (minorR k rows)) i + sgN i * (rows.getD i []).getD 0 0 * detL m (minorR i rows)))), some (.sh (.int (0 - sgN i))), _, _, none]
        rw [hg0, h0, Int.mul_zero, Int.zero_mul, Int.add_zero]; rfl
    · obtain ⟨x3, x4, rfl⟩ := hρ
      rw [rngD_len, List.length_map] at *
      rw [show ((rows.length : Int) - 0).toNat = m + 1 by omega]
      exact q
section
variable {Pg : Program} {w : World} {K : Kf} {mg : Str → Option Value} {base : Heap}
theorem ok_ldet (tx : Tx K mg) : ∀ n, FnOk Pg w K mg base CX0 n tx.a_l_determinant tx.d_l_determinant ["_law_rows"] (spOf K 1 (detG n))
  | 0 => ok_never rfl
  | n + 1 => Z0.fn_ok tx.f_l_determinant sc_l_determinant rfl (walk_l_determinant tx (detG_mono n) (ok_ldet tx n) (Nat.le_refl n)) (mir_l_determinant n)
end
def gL (a : Int) (v : List Int) : Int := v.foldl (fun g x => (Int.gcd g x : Int)) a
theorem gL_cons (a x : Int) (v : List Int) : gL a (x :: v) = gL (Int.gcd a x : Int) v := rfl
theorem gL_snoc (a : Int) (v : List Int) (x : Int) : gL a (v ++ [x]) = (Int.gcd (gL a v) x : Int) := by unfold gL; rw [List.foldl_append]; rfl
theorem gL_nn : ∀ (v : List Int) (a : Int), 0 ≤ a → 0 ≤ gL a v
  | [], _, h => h
  | x :: v, a, _ => gL_nn v _ (Int.natCast_nonneg _)
theorem dvd_gcd2 (a x d : Int) : d ∣ (Int.gcd a x : Int) ↔ d ∣ a ∧ d ∣ x :=
  ⟨fun h => ⟨Int.dvd_trans h (Int.gcd_dvd_left ..), Int.dvd_trans h (Int.gcd_dvd_right ..)⟩, fun h => Int.dvd_coe_gcd h.1 h.2⟩
theorem dvd_gL : ∀ (v : List Int) (a d : Int), d ∣ gL a v ↔ d ∣ a ∧ ∀ x ∈ v, d ∣ x
  | [], a, d => ⟨fun h => ⟨h, fun x hx => by cases hx⟩, fun h => h.1⟩
  | x :: v, a, d => by
    rw [gL_cons, dvd_gL v, dvd_gcd2]
    exact ⟨fun h => ⟨h.1.1, fun y hy => by rcases List.mem_cons.mp hy with e | e; rw [e]; exact h.1.2; exact h.2 y e⟩, fun h => ⟨⟨h.1, h.2 x List.mem_cons_self⟩, fun y hy => h.2 y (List.mem_cons_of_mem _ hy)⟩⟩
theorem dvd_gL0 (v : List Int) (d : Int) : d ∣ gL 0 v ↔ ∀ x ∈ v, d ∣ x := by
  rw [dvd_gL]; exact ⟨fun h => h.2, fun h => ⟨Int.dvd_zero d, h⟩⟩
theorem gL_dvd {v : List Int} {x : Int} (h : x ∈ v) : gL 0 v ∣ x := (dvd_gL0 v _).mp (Int.dvd_refl _) x h
theorem gL_pos {v : List Int} {x : Int} (h : x ∈ v) (hx : x ≠ 0) : 0 < gL 0 v := by
  have h1 := gL_nn v 0 (Int.le_refl 0)
  have h2 := gL_dvd h
  by_cases e : gL 0 v = 0
  · rw [e] at h2; exact absurd (Int.zero_dvd.mp h2) hx
  · omega
theorem one_of_dvd {d : Int} (h : 0 ≤ d) (h1 : d ∣ 1) : d = 1 := by
  have := Int.le_of_dvd (by decide) h1
  by_cases e : d = 0
  · subst e; have := Int.zero_dvd.mp h1; omega
  · omega
theorem gL_one {v : List Int} (h : ∀ d : Int, (∀ x ∈ v, d ∣ x) → d ∣ 1) : gL 0 v = 1 := one_of_dvd (gL_nn v 0 (Int.le_refl 0)) (h _ fun _ hx => gL_dvd hx)
theorem gL_le {v : List Int} {x : Int} (h : x ∈ v) (hx : x ≠ 0) : gL 0 v ≤ (x.natAbs : Int) := by
  have h2 := gL_dvd h
  have : gL 0 v ∣ (x.natAbs : Int) := Int.dvd_natAbs.mpr h2
  exact Int.le_of_dvd (by omega) this
def areIO : OC := fun ds Q => match ds with
  | [.tup cs, .int lo, .int hi] => ∃ ns : List Int, cs = ns.map D.int ∧ (lo ≤ (ns.length : Int) ∧ (ns.length : Int) ≤ hi ∧ hi ≤ 1000 ∧ ∀ n ∈ ns, -1000 ≤ n ∧ n ≤ 1000) ∧ Q (.bl true)
  | _ => False
theorem areIO_mono : MonoC areIO := fun ds P Q h q => by
  unfold areIO at *
  split at q
  · obtain ⟨ns, e, c, q⟩ := q
    exact ⟨ns, e, c, h _ q⟩
  · exact q.elim
theorem mir_are_integers : ∀ ds Q, ds.length = 3 → areIO ds Q → sem_are_integers isinO (startE ["value", "least", "most", "x"] ds) (endK Q) := fun ds Q hl q => by
  unfold areIO at q
  split at q
  · rename_i cs lo hi
    obtain ⟨ns, rfl, ⟨h1, h2, h3, h4⟩, q⟩ := q
    refine br_t (b := decide (lo ≤ ((ns.map D.int).length : Nat))) (decide_eq_true (by rw [List.length_map]; omega)) ?_
    refine br_nn (b := decide ((((ns.map D.int).length : Nat) : Int) ≤ hi)) (decide_eq_true (by rw [List.length_map]; omega)) ?_
    refine ⟨le_big (by rw [List.length_map]; omega), lcL_nil _ _ (fun d hd S hS => ?_) ?_⟩
    · obtain ⟨n, rfl, hn⟩ := mem_map_int hd
      obtain ⟨n1, n2⟩ := h4 n hn
      show S _ (!(decide (-1000 ≤ n) && decide (n ≤ 1000)))
      rw [dec2 n1 n2]
      exact hS _
    · refine ⟨Nat.zero_le _, okD_nil, okD_nil, ?_⟩
      rw [eqD_refl okD_nil]
      exact q
  · exact q.elim
structure Comp (v : List Int) (rows : List (List Int)) : Prop where
  len : rows.length = v.length
  hd : rows.head? = some v
  row : ∀ r ∈ rows, r.length = v.length ∧ ∀ x ∈ r, x.natAbs ≤ 1000000000
  det : detL v.length rows = 1
theorem det1 (a : Int) : detL 1 [[a]] = a := by
  show 0 + 1 * a * 1 = a
  omega
theorem det2L (a b c d : Int) : detL 2 [[a, b], [c, d]] = a * d - c * b := by
  show 0 + 1 * a * (0 + 1 * d * 1) + (0 - 1) * c * (0 + 1 * b * 1) = _
  grind
theorem det3L (a b c d e f g h i : Int) : detL 3 [[a, b, c], [d, e, f], [g, h, i]] = a * (e * i - h * f) - d * (b * i - h * c) + g * (b * f - e * c) := by
  show 0 + 1 * a * detL 2 [[e, f], [h, i]] + (0 - 1) * d * detL 2 [[b, c], [h, i]] + (0 - (0 - 1)) * g * detL 2 [[b, c], [e, f]] = _
  rw [det2L, det2L, det2L]
  grind
theorem det4L (a b c d e f g h i j k l m n o p : Int) : detL 4 [[a, b, c, d], [e, f, g, h], [i, j, k, l], [m, n, o, p]] =
    a * detL 3 [[f, g, h], [j, k, l], [n, o, p]] - e * detL 3 [[b, c, d], [j, k, l], [n, o, p]] + i * detL 3 [[b, c, d], [f, g, h], [n, o, p]] - m * detL 3 [[b, c, d], [f, g, h], [j, k, l]] := by
  show 0 + 1 * a * detL 3 [[f, g, h], [j, k, l], [n, o, p]] + (0 - 1) * e * detL 3 [[b, c, d], [j, k, l], [n, o, p]] + (0 - (0 - 1)) * i * detL 3 [[b, c, d], [f, g, h], [n, o, p]] + (0 - (0 - (0 - 1))) * m * detL 3 [[b, c, d], [f, g, h], [j, k, l]] = _
  generalize detL 3 [[f, g, h], [j, k, l], [n, o, p]] = A
  generalize detL 3 [[b, c, d], [j, k, l], [n, o, p]] = B
  generalize detL 3 [[b, c, d], [f, g, h], [n, o, p]] = C
  generalize detL 3 [[b, c, d], [f, g, h], [j, k, l]] = E
  grind
def lastO : OC := fun ds Q => ∃ (m : Nat) (z : Int), ds = [lsI (List.replicate m 0 ++ [z])] ∧ (1 ≤ m ∧ m ≤ 3 ∧ (z = 1 ∨ z = -1)) ∧ ∀ rows, Comp (List.replicate m 0 ++ [z]) rows → Q (.lst (rows.map lsI))
theorem lastO_mono : MonoC lastO := fun ds P Q h ⟨m, z, e, c, q⟩ => ⟨m, z, e, c, fun r hr => h _ (q r hr)⟩
def unitR (s k : Nat) : List Int := (List.range s).map fun a => if a = k then 1 else 0
theorem last_comp {m : Nat} {z s : Int} (h1 : 1 ≤ m) (h3 : m ≤ 3) (hz : z = 1 ∨ z = -1) (hs : s = if (m + 1) % 2 = 1 then z else -z) :
    Comp (List.replicate m 0 ++ [z]) (((List.replicate m 0 ++ [z]) :: (List.range m).map (unitR (m + 1))).set 1 ((unitR (m + 1) 0).map fun x => s * x)) := by
  have hm : m = 1 ∨ m = 2 ∨ m = 3 := by omega
  rcases hm with rfl | rfl | rfl
  · have e : s = -z := hs
    subst e
    have hl : ([List.replicate 1 0 ++ [z]] ++ (List.range 1).map (unitR 2)).set 1 ((unitR 2 0).map fun x => -z * x) = [[0, z], [-z * 1, -z * 0]] := rfl
    refine ⟨rfl, rfl, fun r hr => ?_, ?_⟩
    · have hr : r ∈ [[0, z], [-z * 1, -z * 0]] := hr
      simp only [List.mem_cons, List.not_mem_nil, or_false] at hr
      rcases hr with rfl | rfl
      · exact ⟨rfl, fun x hx => by simp only [List.mem_cons, List.not_mem_nil, or_false] at hx; omega⟩
      · exact ⟨rfl, fun x hx => by simp only [List.mem_cons, List.not_mem_nil, or_false] at hx; omega⟩
    · show detL 2 [[0, z], [-z * 1, -z * 0]] = 1
      rw [det2L]
      rcases hz with rfl | rfl <;> rfl
  · have e : s = z := hs
    subst e
    refine ⟨rfl, rfl, fun r hr => ?_, ?_⟩
    · have hr : r ∈ [[0, 0, s], [s * 1, s * 0, s * 0], [0, 1, 0]] := hr
      simp only [List.mem_cons, List.not_mem_nil, or_false] at hr
      rcases hr with rfl | rfl | rfl
      · exact ⟨rfl, fun x hx => by simp only [List.mem_cons, List.not_mem_nil, or_false] at hx; omega⟩
      · exact ⟨rfl, fun x hx => by simp only [List.mem_cons, List.not_mem_nil, or_false] at hx; omega⟩
      · exact ⟨rfl, fun x hx => by simp only [List.mem_cons, List.not_mem_nil, or_false] at hx; omega⟩
    · show detL 3 [[0, 0, s], [s * 1, s * 0, s * 0], [0, 1, 0]] = 1
      rw [det3L]
      rcases hz with rfl | rfl <;> rfl
  · have e : s = -z := hs
    subst e
    refine ⟨rfl, rfl, fun r hr => ?_, ?_⟩
    · have hr : r ∈ [[0, 0, 0, z], [-z * 1, -z * 0, -z * 0, -z * 0], [0, 1, 0, 0], [0, 0, 1, 0]] := hr
      simp only [List.mem_cons, List.not_mem_nil, or_false] at hr
      rcases hr with rfl | rfl | rfl | rfl
      · exact ⟨rfl, fun x hx => by simp only [List.mem_cons, List.not_mem_nil, or_false] at hx; omega⟩
      · exact ⟨rfl, fun x hx => by simp only [List.mem_cons, List.not_mem_nil, or_false] at hx; omega⟩
      · exact ⟨rfl, fun x hx => by simp only [List.mem_cons, List.not_mem_nil, or_false] at hx; omega⟩
      · exact ⟨rfl, fun x hx => by simp only [List.mem_cons, List.not_mem_nil, or_false] at hx; omega⟩
    · show detL 4 [[0, 0, 0, z], [-z * 1, -z * 0, -z * 0, -z * 0], [0, 1, 0, 0], [0, 0, 1, 0]] = 1
      rcases hz with rfl | rfl <;> rfl
theorem mir_last_alone : ∀ ds Q, ds.length = 1 → lastO ds Q → sem_last_alone (startE ["vector", "size", "found", "k", "at", "sign", "x"] ds) (endK Q) := fun ds Q hl q0 => by
  obtain ⟨m, z, rfl, ⟨h1, h3, hz⟩, q⟩ := q0
  have hlen : (((List.replicate m 0 ++ [z]).map D.int).length : Nat) = m + 1 := by simp
  refine ⟨(show 1 ≤ big by decide), ?_⟩
  show forS (rng1A (consA (sOp subO (varP 1) (cE (.int 1))) nilA)) (gVar 3) fb2_last_alone [some (.sh (lsI (List.replicate m 0 ++ [z]))), some (.sh (.int ((((List.replicate m 0 ++ [z]).map D.int).length : Nat) : Int))), some (.own [lsI (List.replicate m 0 ++ [z])]), none, none, none, none] _
  rw [hlen]
  refine ⟨⟨by omega, by omega⟩, ?_⟩
  refine forL_inv (fun i ρ => ∃ x3, ρ = [some (.sh (lsI (List.replicate m 0 ++ [z]))), some (.sh (.int ((m + 1 : Nat) : Int))), some (.own (lsI (List.replicate m 0 ++ [z]) :: (List.range i).map fun k => lsI (unitR (m + 1) k))), x3, none, none, none]) ⟨none, rfl⟩ (fun i d ρ nxt hd hρ hnx => ?_) (fun ρ hρ => ?_)
  · obtain ⟨x3, rfl⟩ := hρ
    obtain ⟨rfl, hi⟩ := rngD_get hd
    refine ⟨lt_big (by simp; omega), ⟨by omega, by omega⟩, le_big (by rw [rngD_len]; omega), ?_⟩
    refine lcL_map (fun d => match d with
      | .int a => .int (if a = 0 + (i : Int) then 1 else 0)
      | _ => .non) _ _ (fun d hd R hR => ?_) ?_
    · obtain ⟨a, rfl, _⟩ := rngD_mem hd
      show R (.int (if decide (a = 0 + (i : Int)) = true then 1 else 0))
      have hR' : R (.int (if a = 0 + (i : Int) then 1 else 0)) := hR
      by_cases e : a = 0 + (i : Int)
      · rw [if_pos e] at hR'; rw [if_pos (decide_eq_true e)]; exact hR'
      · rw [if_neg e] at hR'; rw [if_neg (by rw [decide_eq_false e]; decide)]; exact hR'
    · refine hnx _ ⟨some (.sh (.int (0 + (i : Int)))), ?_⟩
      have e : (rngD 0 ((m + 1 : Nat) : Int)).map (fun d => match d with
          | .int a => D.int (if a = 0 + (i : Int) then 1 else 0)
          | _ => .non) = (unitR (m + 1) i).map D.int := by
        unfold unitR rngD
        rw [List.map_map, List.map_map, show (((m + 1 : Nat) : Int) - 0).toNat = m + 1 by omega]
        refine List.map_congr_left fun a _ => ?_
        simp only [Function.comp]
        by_cases e : a = i
        · rw [if_pos e, if_pos (by omega)]
        · rw [if_neg e, if_neg (by omega)]
      rw [e]
      rw [List.range_succ, List.map_append]
      rfl
  · obtain ⟨x3, rfl⟩ := hρ
    rw [rngD_len] at *
    rw [show (((m + 1 : Nat) : Int) - 1 - 0).toNat = m by omega]
    have hlast : atI ((List.replicate m 0 ++ [z]).map D.int) (-1) = some (.int z) := atI_lastI
    have rest : ∀ s : Int, s = (if (m + 1) % 2 = 1 then z else -z) → (seqS (putS 2 (fun ρ Q => (lcA (seqI (sOp ixO (varP 2) (cE (.int 1)))) (gVar 6) yesT (ce3_last_alone) [6]) ρ fun ds => Q (.lst ds)) (cE (.int 1)))
        (frzS 2 (retS (varE 2)))) [some (.sh (lsI (List.replicate m 0 ++ [z]))), some (.sh (.int ((m + 1 : Nat) : Int))), some (.own (lsI (List.replicate m 0 ++ [z]) :: (List.range m).map fun k => lsI (unitR (m + 1) k))), x3, none, some (.sh (.int s)), none] (endK Q) := by
      intro s hs
      obtain ⟨m', rfl⟩ : ∃ m', m = m' + 1 := ⟨m - 1, by omega⟩
      have hix : atI (lsI (List.replicate (m' + 1) 0 ++ [z]) :: (List.range (m' + 1)).map fun k => lsI (unitR (m' + 1 + 1) k)) 1 = some (lsI (unitR (m' + 1 + 1) 0)) := by
        refine atI_nat (j := 1) ?_
        rw [List.range_succ_eq_map]
        rfl
      refine ix_lst hix ⟨le_big (by rw [List.length_map]; unfold unitR; rw [List.length_map, List.length_range]; omega), ?_⟩
      refine lcL_map (fun d => match d with
        | .int a => .int (s * a)
        | _ => .non) _ _ (fun d hd R hR => ?_) ?_
      · obtain ⟨a, rfl, ha⟩ := mem_map_int hd
        have hsa : s.natAbs ≤ 1 := by rw [hs]; split <;> omega
        exact ⟨mokl (by omega), hR⟩
      · have hl2 : (lsI (List.replicate (m' + 1) 0 ++ [z]) :: (List.range (m' + 1)).map fun k => lsI (unitR (m' + 1 + 1) k)).length = m' + 2 := by simp
        show (match ixN (lsI (List.replicate (m' + 1) 0 ++ [z]) :: (List.range (m' + 1)).map fun k => lsI (unitR (m' + 1 + 1) k)).length 1 with
          | some m => _
          | none => False)
        rw [hl2, ixN_in (by decide) (by omega)]
        have hq := q _ (last_comp (z := z) h1 h3 hz hs)
        rw [List.map_set, List.map_cons, List.map_map] at hq
        have e2 : ((unitR (m' + 1 + 1) 0).map D.int).map (fun d => match d with
          | .int a => .int (s * a)
          | _ => .non) = ((unitR (m' + 1 + 1) 0).map fun x => s * x).map D.int := by rw [List.map_map, List.map_map]; rfl
        rw [e2]
        exact hq
    refine ⟨(show (2 : Int) ≠ 0 by decide), ?_⟩
    refine br_d (c := (((m + 1 : Nat) : Int)).fmod 2 = 1) (fun h => ?_) (fun h => ?_)
    · refine ix_lst hlast ?_
      refine rest z ?_
      rw [Int.fmod_eq_emod_of_nonneg _ (by decide)] at h
      rw [if_pos (by omega)]
    · refine ix_lst hlast ?_
      refine rest (-z) ?_
      rw [Int.fmod_eq_emod_of_nonneg _ (by decide)] at h
      rw [if_neg (by omega)]
def finG : Nat → OC
  | 0 => fun _ _ => False
  | n + 1 => fun ds Q => ∃ v : List Int, ds = [lsI v] ∧ (1 ≤ v.length ∧ v.length ≤ n ∧ n ≤ 4 ∧ gL 0 v = 1 ∧ v ≠ [-1] ∧ ∀ x ∈ v, x.natAbs ≤ 1000) ∧ ∀ rows, Comp v rows → Q (.lst (rows.map lsI))
theorem finG_mono : ∀ n, MonoC (finG n)
  | 0 => fun ds P Q h q => q.elim
  | n + 1 => fun ds P Q h ⟨v, e, c, q⟩ => ⟨v, e, c, fun r hr => h _ (q r hr)⟩
theorem fin_comp {s : List Int} {c z p q : Int} {rows : List (List Int)} (h : Comp s rows) (h1 : 1 ≤ s.length) (h3 : s.length ≤ 3) (hc : c.natAbs ≤ 1000) (hz : z.natAbs ≤ 1000) (hs : ∀ x ∈ s, x.natAbs ≤ 1000) (hp : p.natAbs ≤ 10000) (hq : q.natAbs ≤ 10000) (e : p * c + q * z = 1)
    (hv : ∀ x ∈ s, (c * x).natAbs ≤ 1000) : Comp (s.map (fun x => c * x) ++ [z]) ((s.map (fun x => c * x) ++ [z]) :: (rows.drop 1).map (fun r => r ++ [0]) ++ [s.map (fun x => -q * x) ++ [p]]) := by
  obtain ⟨l, hd, hr, dt⟩ := h
  refine ⟨?_, rfl, fun r m => ?_, ?_⟩
  · simp; omega
  · rcases List.mem_append.mp m with m | m
    · rcases List.mem_cons.mp m with rfl | m
      · refine ⟨rfl, fun x hx => ?_⟩
        rcases List.mem_append.mp hx with hx | hx
        · obtain ⟨y, hy, rfl⟩ := List.mem_map.mp hx
          have := hv y hy
          omega
        · rw [List.mem_singleton.mp hx]; omega
      · obtain ⟨r', m', rfl⟩ := List.mem_map.mp m
        have := hr r' (List.mem_of_mem_drop m')
        refine ⟨by simp; omega, fun x hx => ?_⟩
        rcases List.mem_append.mp hx with hx | hx
        · exact this.2 x hx
        · rw [List.mem_singleton.mp hx]; decide
    · rw [List.mem_singleton.mp m]
      refine ⟨by simp, fun x hx => ?_⟩
      rcases List.mem_append.mp hx with hx | hx
      · obtain ⟨y, hy, rfl⟩ := List.mem_map.mp hx
        have := hs y hy
        rw [Int.natAbs_mul, Int.natAbs_neg]
        have := Nat.mul_le_mul hq (hs y hy)
        omega
      · rw [List.mem_singleton.mp hx]; omega
  · have hl : s.length = 1 ∨ s.length = 2 ∨ s.length = 3 := by omega
    rcases hl with hl | hl | hl
    · match s, hl with
      | [a], _ =>
        match rows, l, hd with
        | [r], _, hd =>
          cases hd
          rw [show detL [a].length [[a]] = a from det1 a] at dt
          show detL 2 [[c * a, z], [-q * a, p]] = 1
          rw [det2L]
          subst dt
          grind
    · match s, hl with
      | [a, b], _ =>
        match rows, l, hd with
        | [r, r2], _, hd =>
          cases hd
          have h2 := (hr r2 (by simp)).1
          match r2, h2 with
          | [x, y], _ =>
          rw [show detL [a, b].length [[a, b], [x, y]] = a * y - x * b from det2L ..] at dt
          show detL 3 [[c * a, c * b, z], [x, y, 0], [-q * a, -q * b, p]] = 1
          rw [det3L]
          have k : c * a * (y * p - -q * b * 0) - x * (c * b * p - -q * b * z) + -q * a * (c * b * 0 - y * z) = (p * c + q * z) * (a * y - x * b) := by clear dt e; grind
          rw [k, dt, e]; rfl
    · match s, hl with
      | [a, b, d], _ =>
        match rows, l, hd with
        | [r, r2, r3], _, hd =>
          cases hd
          have h2 := (hr r2 (by simp)).1
          have h3 := (hr r3 (by simp)).1
          match r2, h2, r3, h3 with
          | [x, y, t], _, [u, v, w], _ =>
          rw [show detL [a, b, d].length [[a, b, d], [x, y, t], [u, v, w]] = a * (y * w - v * t) - x * (b * w - v * d) + u * (b * t - y * d) from det3L ..] at dt
          show detL 4 [[c * a, c * b, c * d, z], [x, y, t, 0], [u, v, w, 0], [-q * a, -q * b, -q * d, p]] = 1
          rw [det4L, det3L, det3L, det3L, det3L]
          have k : c * a * (y * (w * p - -q * d * 0) - v * (t * p - -q * d * 0) + -q * b * (t * 0 - w * 0)) - x * (c * b * (w * p - -q * d * 0) - v * (c * d * p - -q * d * z) + -q * b * (c * d * 0 - w * z)) + u * (c * b * (t * p - -q * d * 0) - y * (c * d * p - -q * d * z) + -q * b * (c * d * 0 - t * z)) - -q * a * (c * b * (t * 0 - w * 0) - y * (c * d * 0 - w * z) + v * (c * d * 0 - t * z)) = (p * c + q * z) * (a * (y * w - v * t) - x * (b * w - v * d) + u * (b * t - y * d)) := by clear dt e; grind
          rw [k, dt, e]; rfl
theorem take_snoc {v : List Int} {i : Nat} (h : i < v.length) : v.take (i + 1) = v.take i ++ [v[i]] := (List.take_append_getElem h).symm
theorem mapI_get {v : List Int} {i : Nat} {d : D} (h : (v.map D.int)[i]? = some d) : ∃ hi : i < v.length, d = .int v[i] := by
  rw [List.getElem?_map] at h
  by_cases hi : i < v.length
  · rw [List.getElem?_eq_getElem hi] at h
    cases h
    exact ⟨hi, rfl⟩
  · rw [List.getElem?_eq_none (by omega)] at h
    cases h
theorem filt_int (u : List Int) : (u.map D.int).filterMap (fun d => match d with
    | .int x => if x = 0 then none else some (.int x)
    | _ => none) = (u.filter fun x => decide (x ≠ 0)).map D.int := by
  induction u with
  | nil => rfl
  | cons x u ih =>
    rw [List.map_cons]
    by_cases h : x = 0
    · subst h
      rw [List.filterMap_cons_none rfl, List.filter_cons_of_neg (p := fun x => decide (x ≠ 0)) (by decide)]
      exact ih
    · rw [List.filter_cons_of_pos (p := fun x => decide (x ≠ 0)) (decide_eq_true h), List.map_cons, List.filterMap_cons_some (b := D.int x) (by show (if x = 0 then none else some (D.int x)) = _; rw [if_neg h]), ih]
theorem mir_finished (n : Nat) : ∀ ds Q, ds.length = 1 → finG (n + 1) ds Q → sem_finished lastO gcO (finG n) bezO (startE ["vector", "x", "common", "small", "rows", "p", "q", "found", "row"] ds) (endK Q) := fun ds Q hl q0 => by
  obtain ⟨v, rfl, ⟨v1, v2, v3, vg, vn, vb⟩, q⟩ := q0
  refine br_d (c := (((v.map D.int).length : Nat) : Int) = 1) (fun h => ?_) (fun h => ?_)
  · rw [List.length_map] at h
    have h : v.length = 1 := by omega
    match v, h with
    | [x], _ =>
      have hx : x = 1 := by
        have e : (Int.gcd 0 x : Int) = 1 := vg
        rw [Int.gcd_zero_left] at e
        have : x ≠ -1 := fun z => vn (by rw [z])
        omega
      subst hx
      refine ⟨(show 1 ≤ big by decide), q [[1]] ⟨rfl, rfl, fun r hr => ?_, rfl⟩⟩
      rw [List.mem_singleton.mp hr]
      exact ⟨rfl, fun x hx => by rw [List.mem_singleton.mp hx]; decide⟩
  · rw [List.length_map] at h
    obtain ⟨u, z, rfl⟩ : ∃ u z, v = u ++ [z] := ⟨v.dropLast, v.getLast (by intro e; subst e; simp at v1), (List.dropLast_concat_getLast _).symm⟩
    rw [List.length_append, List.length_singleton] at v1 v2 h
    have hcut : Z0.cutD ((u ++ [z]).map D.int) none (some (-1)) = u.map D.int := by rw [List.map_append]; exact cutD_init _ _
    have hu1 : 1 ≤ u.length := by omega
    have hu3 : u.length ≤ 3 := by omega
    have hub : ∀ x ∈ u, x.natAbs ≤ 1000 := fun x hx => vb x (List.mem_append_left _ hx)
    have hzb : z.natAbs ≤ 1000 := vb z (List.mem_append_right _ (List.mem_singleton.mpr rfl))
    have hlast : atI ((u ++ [z]).map D.int) (-1) = some (.int z) := atI_lastI
    show (Z0.cutD ((u ++ [z]).map D.int) none (some (-1))).length ≤ big ∧ lcL _ _ _ _ (Z0.cutD ((u ++ [z]).map D.int) none (some (-1))) _
    rw [hcut]
    refine ⟨le_big (by rw [List.length_map]; omega), ?_⟩
    refine lcL_fm (fun d => match d with
      | .int x => if x = 0 then none else some (.int x)
      | _ => none) _ _ (fun d hd R hR => ?_) ?_
    · obtain ⟨x, rfl, _⟩ := mem_map_int hd
      have hR' : R (if x = 0 then none else some (.int x)) := hR
      refine br_n (c := x = 0) (fun hx => ?_) (fun hx => ?_)
      · rw [if_neg hx] at hR'; exact hR'
      · rw [if_pos hx] at hR'; exact hR'
    · rw [filt_int]
      refine ⟨Nat.zero_le _, okD_ls _, okD_nil, ?_⟩
      rw [show D.lst [] = lsI [] from rfl, eqLs]
      refine br_d (fun h0 => ?_) (fun h0 => ?_)
      · -- all zeros
        have hu0 : ∀ x ∈ u, x = 0 := fun x hx => by
          by_cases e : x = 0
          · exact e
          · have : x ∈ u.filter fun x => decide (x ≠ 0) := List.mem_filter.mpr ⟨hx, decide_eq_true e⟩
            rw [h0] at this
            cases this
        have hur : u = List.replicate u.length 0 := List.eq_replicate_iff.mpr ⟨rfl, hu0⟩
        have hz1 : z = 1 ∨ z = -1 := by
          have e : gL 0 (u ++ [z]) = 1 := vg
          have : gL 0 (u ++ [z]) = (z.natAbs : Int) := by
            have e2 : gL 0 u = 0 := Int.zero_dvd.mp ((dvd_gL0 u 0).mpr fun x hx => by rw [hu0 x hx]; exact Int.dvd_refl 0)
            rw [gL_snoc, e2, Int.gcd_zero_left]
          omega
        refine ⟨u.length, z, by rw [← hur], ⟨hu1, hu3, hz1⟩, fun rows hr => q rows (by rw [← hur] at hr; exact hr)⟩
      · -- some other than zero
        obtain ⟨y, hy, hy0⟩ : ∃ y ∈ u, y ≠ 0 := by
          cases e : u.filter fun x => decide (x ≠ 0) with
          | nil => exact absurd e h0
          | cons y t =>
            have : y ∈ u.filter fun x => decide (x ≠ 0) := by rw [e]; exact List.mem_cons_self
            obtain ⟨m1, m2⟩ := List.mem_filter.mp this
            exact ⟨y, m1, of_decide_eq_true m2⟩
        have gp := gL_pos hy hy0
        have gle : gL 0 u ≤ 1000 := by have := gL_le hy hy0; have := hub y hy; omega
        have gz : (Int.gcd (gL 0 u) z : Int) = 1 := by rw [← gL_snoc]; exact vg
        show forL _ _ (Z0.cutD ((u ++ [z]).map D.int) none (some (-1))) _ _
        rw [hcut]
        refine forL_inv (fun i ρ => ∃ x1, ρ = [some (.sh (lsI (u ++ [z]))), x1, some (.sh (.int (gL 0 (u.take i)))), none, none, none, none, none, none]) ⟨none, rfl⟩ (fun i d ρ nxt hd hρ hnx => ?_) (fun ρ hρ => ?_)
        · obtain ⟨x1, rfl⟩ := hρ
          obtain ⟨hi, rfl⟩ := mapI_get hd
          refine hnx _ ⟨some (.sh (.int u[i])), ?_⟩
          rw [take_snoc hi, gL_snoc]
          rfl
        · obtain ⟨x1, rfl⟩ := hρ
          rw [List.length_map, List.take_length]
          show (Z0.cutD ((u ++ [z]).map D.int) none (some (-1))).length ≤ big ∧ lcL _ _ _ _ (Z0.cutD ((u ++ [z]).map D.int) none (some (-1))) _
          rw [hcut]
          refine ⟨le_big (by rw [List.length_map]; omega), ?_⟩
          refine lcL_map (fun d => match d with
            | .int x => .int (x.fdiv (gL 0 u))
            | _ => .non) _ _ (fun d hd R hR => ?_) ?_
          · obtain ⟨x, rfl, _⟩ := mem_map_int hd
            exact ⟨⟨by omega, small_nat (by omega)⟩, hR⟩
          · have hsm : (u.map D.int).map (fun d => match d with
                | .int x => .int (x.fdiv (gL 0 u))
                | _ => .non) = (u.map fun x => x.fdiv (gL 0 u)).map D.int := by rw [List.map_map, List.map_map]; rfl
            rw [hsm]
            have hdv : ∀ x ∈ u, gL 0 u * x.fdiv (gL 0 u) = x := fun x hx => Int.mul_fdiv_cancel' (gL_dvd hx)
            have tail : ∀ (c : Int) (s : List Int) (x1 : Option Slot), u = s.map (fun x => c * x) → c ≠ 0 → c.natAbs ≤ 1000 → gL 0 s = 1 → s ≠ [-1] → (∀ x ∈ s, x.natAbs ≤ 1000) → (Int.gcd c z : Int) = 1 →
                (seqS (setS 4 (callE (finG n) (consA (varE 3) nilA)))
    (seqS (asgS (callE bezO (consA (varE 2) (consA (sOp ixO (varP 0) (sUn negO (cE (.int 1)))) nilA))) (gTupS (gConsS (gVar 5) (gConsS (gVar 6) gNilS))))
    (seqS (setS 7 (fun ρ Q => (opF catF (fun ρ Q => (lstF (consA (varE 0) nilA)) ρ fun ds => Q (.lst ds)) (fun ρ Q => (lcA (seqI (slE (varP 4) (someO (cE (.int 1))) noO)) (gVar 8) yesT (ce5_finished lastO gcO (finG n) bezO) [8]) ρ fun ds => Q (.lst ds))) ρ fun ds => Q (.lst ds)))
    (retS (fun ρ Q => (opF catF (varP 7) (fun ρ Q => (lstF (consA (fun ρ Q => (opF catF (fun ρ Q => (lcA (seqI (varP 3)) (gVar 1) yesT (ce6_finished lastO gcO (finG n) bezO) [1]) ρ fun ds => Q (.lst ds)) (fun ρ Q => (lstF (consA (varE 5) nilA)) ρ fun ds => Q (.lst ds))) ρ fun ds => Q (.lst ds)) nilA)) ρ fun ds => Q (.lst ds))) ρ fun ds => Q (.lst ds))))))
                  [some (.sh (lsI (u ++ [z]))), x1, some (.sh (.int c)), some (.sh (lsI s)), none, none, none, none, none] (endK Q) := by
              intro c s x1 hus hc0 hcb hsg hsn hsb hgz
              have hsl : s.length = u.length := by rw [hus, List.length_map]
              obtain ⟨n, rfl⟩ : ∃ n', n = n' + 1 := ⟨n - 1, by omega⟩
              refine ⟨s, rfl, ⟨by omega, by omega, by omega, hsg, hsn, hsb⟩, fun rows hr => ?_⟩
              refine ix_lst hlast ⟨⟨by omega, by omega⟩, fun p q' e pb qb => ?_⟩
              have e : p * c + q' * z = 1 := by rw [e]; exact hgz
              refine ⟨(show 1 ≤ big by decide), ?_⟩
              show (Z0.cutD (rows.map lsI) (some ((1 : Nat) : Int)) none).length ≤ big ∧ lcL _ _ _ _ (Z0.cutD (rows.map lsI) (some ((1 : Nat) : Int)) none) _
              rw [cutD_drop, ← List.map_drop]
              have hrl := hr.len
              refine ⟨le_big (by rw [List.length_map, List.length_drop]; omega), ?_⟩
              refine lcL_map (fun d => match d with
                | .lst r => .lst (r ++ [.int 0])
                | _ => .non) _ _ (fun d hd R hR => ?_) ?_
              · obtain ⟨r, m, rfl⟩ := List.mem_map.mp hd
                have := (hr.row r (List.mem_of_mem_drop m)).1
                exact ⟨(show 1 ≤ big by decide), le_big (by rw [List.length_map]; simp; omega), hR⟩
              · have e2 : ((rows.drop 1).map lsI).map (fun d => match d with
                  | .lst r => .lst (r ++ [.int 0])
                  | _ => .non) = ((rows.drop 1).map fun r => r ++ [0]).map lsI := by
                  rw [List.map_map, List.map_map]
                  refine List.map_congr_left fun r _ => ?_
                  show D.lst (r.map D.int ++ [.int 0]) = D.lst ((r ++ [0]).map D.int)
                  rw [List.map_append]; rfl
                rw [e2]
                refine ⟨le_big (by simp; omega), ?_⟩
                refine ⟨le_big (by rw [List.length_map]; omega), ?_⟩
                refine lcL_map (fun d => match d with
                  | .int x => .int (-q' * x)
                  | _ => .non) _ _ (fun d hd R hR => ?_) ?_
                · obtain ⟨x, rfl, _⟩ := mem_map_int hd
                  exact ⟨mokl (by omega), hR⟩
                · have e3 : (s.map D.int).map (fun d => match d with
                    | .int x => .int (-q' * x)
                    | _ => .non) = (s.map fun x => -q' * x).map D.int := by rw [List.map_map, List.map_map]; rfl
                  rw [e3]
                  refine ⟨(show 1 ≤ big by decide), le_big (by simp; omega), (show 1 ≤ big by decide), le_big (by simp; omega), ?_⟩
                  have hc := fin_comp (z := z) (p := p) (q := q') hr (by omega) (by omega) hcb hzb hsb (by omega) (by omega) e (fun x hx => by
                    refine hub (c * x) ?_
                    rw [hus]; exact List.mem_map_of_mem hx)
                  rw [← hus] at hc
                  have hq := q _ hc
                  rw [List.map_append, List.map_cons] at hq
                  show Q (D.lst _)
                  rw [show D.lst ([lsI (u ++ [z])] ++ ((rows.drop 1).map fun r => r ++ [0]).map lsI ++ [D.lst ((s.map fun x => -q' * x).map D.int ++ [D.int p])]) = D.lst (lsI (u ++ [z]) :: ((rows.drop 1).map fun r => r ++ [0]).map lsI ++ [s.map (fun x => -q' * x) ++ [p]].map lsI) from by
                    rw [List.map_cons, List.map_nil]
                    show _ = D.lst (lsI (u ++ [z]) :: ((rows.drop 1).map fun r => r ++ [0]).map lsI ++ [D.lst ((s.map (fun x => -q' * x) ++ [p]).map D.int)])
                    rw [List.map_append (l₂ := [p])]; rfl]
                  exact hq
            have hus : u = (u.map fun x => x.fdiv (gL 0 u)).map fun x => gL 0 u * x := by
              rw [List.map_map]
              conv => lhs; rw [← List.map_id u]
              exact (List.map_congr_left fun x hx => (hdv x hx).symm)
            have hsg : gL 0 (u.map fun x => x.fdiv (gL 0 u)) = 1 := by
              refine gL_one fun d hd => ?_
              have h1 : gL 0 u * d ∣ gL 0 u := (dvd_gL0 u _).mpr fun x hx => by
                have := hd _ (List.mem_map_of_mem (f := fun x => x.fdiv (gL 0 u)) hx)
                have h2 := Int.mul_dvd_mul_left (gL 0 u) this
                rwa [hdv x hx] at h2
              have h2 : gL 0 u * d ∣ gL 0 u * 1 := by rw [Int.mul_one]; exact h1
              exact Int.dvd_of_mul_dvd_mul_left (by omega) h2
            have hsb : ∀ x ∈ u.map fun x => x.fdiv (gL 0 u), x.natAbs ≤ 1000 := fun x hx => by
              obtain ⟨y, hy, rfl⟩ := List.mem_map.mp hx
              exact Nat.le_trans (Int.natAbs_fdiv_le_natAbs _ _) (hub y hy)
            refine ⟨(show 1 ≤ big by decide), okD_ls _, okD_ls [-1], ?_⟩
            rw [show D.lst [D.int (-1)] = lsI [-1] from rfl, eqLs]
            refine br_d (fun hm => ?_) (fun hm => ?_)
            · refine ⟨(show 1 ≤ big by decide), (show 2 ≤ big by decide), ?_⟩
              have hu' : u = [1].map fun x => -gL 0 u * x := by
                conv => lhs; rw [hus, hm]
                show [gL 0 u * -1] = [-gL 0 u * 1]
                rw [Int.mul_neg, Int.neg_mul]
              exact tail (-gL 0 u) [1] x1 hu' (by omega) (by omega) rfl (by decide) (fun x hx => by rw [List.mem_singleton.mp hx]; decide) (by rw [Int.neg_gcd]; exact gz)
            · exact tail (gL 0 u) _ x1 hus (by omega) (by omega) hsg hm hsb gz
section
variable {Pg : Program} {w : World} {K : Kf} {mg : Str → Option Value} {base : Heap}
theorem ok_are_integers (tx : Tx K mg) : FnOk Pg w K mg base CX0 2 tx.a_are_integers tx.d_are_integers ["value", "least", "most"] (spOf K 3 areIO) :=
  Z0.fn_ok tx.f_are_integers sc_are_integers rfl (walk_are_integers tx isinO_mono (ok_is_in tx) (by decide)) mir_are_integers
end
section
variable {Pg : Program} {w : World} {K : Kf} {mg : Str → Option Value} {base : Heap}
theorem ok_last_alone (tx : Tx K mg) : FnOk Pg w K mg base CX0 1 tx.a_last_alone tx.d_last_alone ["vector"] (spOf K 1 lastO) :=
  Z0.fn_ok tx.f_last_alone sc_last_alone rfl (walk_last_alone tx) mir_last_alone
end
section
variable {Pg : Program} {w : World} {K : Kf} {mg : Str → Option Value} {base : Heap}
theorem ok_finished (tx : Tx K mg) : ∀ n, FnOk Pg w K mg base CX0 (n + 1) tx.a_finished tx.d_finished ["vector"] (spOf K 1 (finG n))
  | 0 => ok_never rfl
  | n + 1 => Z0.fn_ok tx.f_finished sc_finished rfl (walk_finished tx lastO_mono (ok_last_alone tx) (by omega) gcO_mono (ok_gcd tx) (by omega) (finG_mono n) (ok_finished tx n) (by omega) bezO_mono (ok_bezout tx) (by omega)) (mir_finished n)
end
def compO : OC := fun ds Q => ∃ v : List Int, ds = [tpI v] ∧ (1 ≤ v.length ∧ v.length ≤ 4 ∧ gL 0 v = 1 ∧ v ≠ [-1] ∧ ∀ x ∈ v, x.natAbs ≤ 1000) ∧ ∀ rows, Comp v rows → Q (.tup (rows.map tpI))
theorem compO_mono : MonoC compO := fun ds P Q h ⟨v, e, c, q⟩ => ⟨v, e, c, fun r hr => h _ (q r hr)⟩
theorem mir_completed : ∀ ds Q, ds.length = 1 → compO ds Q → sem_completed areIO gcO (finG 5) (startE ["vector", "common", "x", "row"] ds) (endK Q) := fun ds Q hl q0 => by
  obtain ⟨v, rfl, ⟨v1, v2, vg, vn, vb⟩, q⟩ := q0
  refine ⟨v, rfl, ⟨by omega, by omega, by decide, fun n hn => by have := vb n hn; omega⟩, ?_⟩
  refine forL_inv (fun i ρ => ∃ x2, ρ = [some (.sh (tpI v)), some (.sh (.int (gL 0 (v.take i)))), x2, none]) ⟨none, rfl⟩ (fun i d ρ nxt hd hρ hnx => ?_) (fun ρ hρ => ?_)
  · obtain ⟨x2, rfl⟩ := hρ
    obtain ⟨hi, rfl⟩ := mapI_get hd
    refine hnx _ ⟨some (.sh (.int v[i])), ?_⟩
    rw [take_snoc hi, gL_snoc]
    rfl
  · obtain ⟨x2, rfl⟩ := hρ
    rw [List.length_map, List.take_length, vg]
    refine ⟨(show 1 ≤ big by decide), okD_tp _, okD_tp [-1], ?_⟩
    rw [show D.tup [D.int (-1)] = tpI [-1] from rfl, eqTp]
    refine br_f (decide_eq_false vn) ?_
    refine ⟨v, rfl, ⟨v1, v2, by decide, vg, vn, vb⟩, fun rows hr => ?_⟩
    have hl := hr.len
    refine ⟨le_big (by rw [List.length_map]; omega), ?_⟩
    refine lcL_map (fun d => match d with
      | .lst r => .tup r
      | _ => .non) _ _ (fun d hd R hR => ?_) ?_
    · obtain ⟨r, m, rfl⟩ := List.mem_map.mp hd
      exact hR
    · have hq := q rows hr
      rw [List.map_map]
      exact hq
section
variable {Pg : Program} {w : World} {K : Kf} {mg : Str → Option Value} {base : Heap}
theorem ok_completed (tx : Tx K mg) : FnOk Pg w K mg base CX0 7 tx.a_completed tx.d_completed ["vector"] (spOf K 1 compO) :=
  Z0.fn_ok tx.f_completed sc_completed rfl (walk_completed tx areIO_mono (ok_are_integers tx) (by decide) gcO_mono (ok_gcd tx) (by decide) (finG_mono 5) (ok_finished tx 5) (by decide)) mir_completed
end
abbrev E07 (x2 x3 x4 x5 x7 x8 x9 x10 : Option Slot) : REnv := [none, some (.sh .row), x2, x3, x4, x5, none, x7, x8, x9, x10]
abbrev kLaw : Kt := { nx := fun _ => False, rt := fun d => d = .bl true, bk := fun _ => False, ct := fun _ => False }
theorem law_turn {nxt : REnv → Prop} {k : Kt} {x2 x3 x4 x5 x7 x8 x9 x10 : Option Slot} (h : ∀ x3 x4 x5 x7 x8 x9 x10, nxt (E07 x2 x3 x4 x5 x7 x8 x9 x10)) : fb8_law pickO takenO signedO gcdO compO (detG 5) (E07 x2 x3 x4 x5 x7 x8 x9 x10) (loopK nxt k) := by
  refine ⟨⟨by decide, small_nat (by decide)⟩, fun t t0 t1 => ⟨(show 3 ≤ big by decide), ⟨⟨by decide, by decide⟩, fun d hd => ⟨(show 2 ≤ big by decide), ?_⟩⟩⟩⟩
  have hd' : ∃ c : Int, d = .int c ∧ 0 ≤ c ∧ c ≤ 30 := by
    simp only [List.mem_cons, List.not_mem_nil, or_false] at hd
    rcases hd with e | e | e
    · exact ⟨1, e, by decide, by decide⟩
    · exact ⟨4, e, by decide, by decide⟩
    · exact ⟨30, e, by decide, by decide⟩
  obtain ⟨c, rfl, c0, c1⟩ := hd'
  refine ⟨⟨by omega, by omega⟩, le_big (by rw [rngD_len]; omega), ?_⟩
  refine lcL_any (fun y => ∃ n : Int, y = .int n ∧ n.natAbs ≤ 30) _ _ (fun d hd R hR => ⟨⟨c0, by omega⟩, fun v h1 h2 => hR _ ⟨v, rfl, by omega⟩⟩) (fun ys hl hp => ?_)
  obtain ⟨u, rfl, ul, hu⟩ := ints_of (fun n => n.natAbs ≤ 30) ys hp
  rw [rngD_len] at hl
  have hul : u.length = (1 + t).toNat := by omega
  refine forL_inv (fun i ρ => ∃ x8, ρ = E07 x2 (some (.sh (.int (1 + t)))) (some (.sh (.int c))) (some (.sh (lsI u))) (some (.sh (.int (gL 0 (u.take i))))) x8 x9 x10) ⟨x8, rfl⟩ (fun i d ρ nxt hd hρ hnx => ?_) (fun ρ hρ => ?_)
  · obtain ⟨x8, rfl⟩ := hρ
    obtain ⟨hi, rfl⟩ := mapI_get hd
    refine hnx _ ⟨some (.sh (.int u[i])), ?_⟩
    rw [take_snoc hi, gL_snoc]
    rfl
  · obtain ⟨x8, rfl⟩ := hρ
    rw [List.length_map, List.take_length]
    have rest : ∀ v : List Int, v.length = (1 + t).toNat → gL 0 v = 1 → (∀ x ∈ v, x.natAbs ≤ 30) → (ifS (tV (sOp neO (varP 5) (tupE (consA (sUn negO (cE (.int 1))) nilA)))) (seqS (setS 9 (callE compO (consA (varE 5) nilA)))
    (seqS (ifS (orT (notT (tV (callE isiO (consA (varP 9) (consA (cE (.ty .tuple)) nilA))))) (orT (tV (sOp neO (callE (call1 lenO) (consA (varP 9) nilA)) (varP 3))) (tV (sOp neO (sOp ixO (varP 9) (cE (.int 0))) (varP 5))))) (retS (cE (.bl false))) nextS)
    (seqS (forS (seqI (varE 9)) (gVar 10) (fb6_law pickO takenO signedO gcdO compO (detG 5)))
    (ifS (tV (sOp neO (callE (detG 5) (consA (fun ρ Q => (lcA (seqI (varP 9)) (gVar 10) yesT (ce7_law pickO takenO signedO gcdO compO (detG 5)) [10]) ρ fun ds => Q (.lst ds)) nilA)) (cE (.int 1)))) (retS (cE (.bl false))) nextS)))) nextS) (E07 x2 (some (.sh (.int (1 + t)))) (some (.sh (.int c))) (some (.sh (tpI v))) (some (.sh (.int (gL 0 u)))) x8 x9 x10) (loopK nxt k) := by
      intro v vl vg vb
      refine ⟨(show 1 ≤ big by decide), okD_tp _, okD_tp [-1], ?_⟩
      rw [show D.tup [D.int (-1)] = tpI [-1] from rfl, eqTp]
      refine br_n (fun hv => ?_) (fun hv => h _ _ _ _ _ _ _)
      refine ⟨v, rfl, ⟨by omega, by omega, vg, hv, fun x hx => by have := vb x hx; omega⟩, fun rows hr => ?_⟩
      obtain ⟨hrl, hrh, hrr, hrd⟩ := hr
      have hlen : ((((rows.map tpI).length : Nat) : Int) = 1 + t) := by rw [List.length_map]; omega
      refine br_nn (b := decide (((((rows.map tpI).length : Nat) : Int) = 1 + t))) (decide_eq_true hlen) ?_
      obtain ⟨rest, hrest⟩ : ∃ rest, rows = v :: rest := by
        cases rows with
        | nil => simp at hrh
        | cons a b => simp at hrh; exact ⟨b, by rw [hrh]⟩
      have hix : atI (rows.map tpI) 0 = some (tpI v) := by rw [hrest]; exact atI_nat (j := 0) rfl
      refine ix_tup hix ⟨okD_tp _, okD_tp _, ?_⟩
      rw [eqTp]
      refine br_nn (decide_eq_true rfl) ?_
      refine forL_inv (fun i ρ => ∃ x8 x10, ρ = E07 x2 (some (.sh (.int (1 + t)))) (some (.sh (.int c))) (some (.sh (tpI v))) (some (.sh (.int (gL 0 u)))) x8 (some (.sh (.tup (rows.map tpI)))) x10) ⟨x8, x10, rfl⟩ (fun i d ρ nxt hd hρ hnx => ?_) (fun ρ hρ => ?_)
      · obtain ⟨x8, x10, rfl⟩ := hρ
        obtain ⟨hi, e⟩ := List.getElem?_eq_some_iff.mp hd
        rw [List.getElem_map] at e
        subst e
        rw [List.length_map] at hi
        have hri := (hrr _ (List.getElem_mem hi)).1
        have hl2 : (((((rows[i]).map D.int).length : Nat) : Int) = 1 + t) := by rw [List.length_map]; omega
        refine br_nn (b := decide (((((rows[i]).map D.int).length : Nat) : Int) = 1 + t)) (decide_eq_true hl2) ?_
        refine ⟨le_big (by rw [List.length_map]; omega), lcL_nil _ _ (fun d hd S hS => ?_) ?_⟩
        · obtain ⟨n, rfl, hn⟩ := mem_map_int hd
          exact hS _
        · refine ⟨Nat.zero_le _, okD_nil, okD_nil, ?_⟩
          rw [eqD_refl okD_nil]
          exact hnx _ ⟨x8, _, rfl⟩
      · obtain ⟨x8, x10, rfl⟩ := hρ
        refine ⟨le_big (by rw [List.length_map]; omega), ?_⟩
        refine lcL_map (fun d => match d with
          | .tup r => .lst r
          | _ => .non) _ _ (fun d hd R hR => ?_) ?_
        · obtain ⟨r, m, rfl⟩ := List.mem_map.mp hd
          exact hR
        · have e2 : (rows.map tpI).map (fun d => match d with
              | .tup r => .lst r
              | _ => .non) = rows.map lsI := by rw [List.map_map]; rfl
          rw [e2]
          have hv1 : 1 ≤ v.length := by omega
          have hv4 : v.length ≤ 4 := by omega
          refine ⟨rows, rfl, ⟨(show rows.length ≤ 4 by omega), by omega, fun r hr => ⟨by rw [(hrr r hr).1]; omega, fun x hx => by have := (hrr r hr).2 x hx; omega⟩⟩, ?_⟩
          rw [hrl, hrd]
          exact h _ _ _ _ _ _ _
    refine br_d (c := 0 < gL 0 u) (fun hg => ?_) (fun hg => ?_)
    · refine ⟨le_big (by rw [List.length_map]; omega), ?_⟩
      refine lcL_map (fun d => match d with
        | .int x => .int (x.fdiv (gL 0 u))
        | _ => .non) _ _ (fun d hd R hR => ?_) ?_
      · obtain ⟨x, rfl, hx⟩ := mem_map_int hd
        refine ⟨⟨by omega, small_nat ?_⟩, hR⟩
        obtain ⟨y, hy, hy0⟩ : ∃ y ∈ u, y ≠ 0 := by
          by_cases e : ∃ y ∈ u, y ≠ 0
          · exact e
          · have : gL 0 u = 0 := Int.zero_dvd.mp ((dvd_gL0 u 0).mpr fun y hy => by
              by_cases e2 : y = 0
              · rw [e2]; exact Int.dvd_refl 0
              · exact absurd ⟨y, hy, e2⟩ e)
            omega
        have := gL_le hy hy0
        have := hu y hy
        omega
      · have hsm : (u.map D.int).map (fun d => match d with
            | .int x => .int (x.fdiv (gL 0 u))
            | _ => .non) = (u.map fun x => x.fdiv (gL 0 u)).map D.int := by rw [List.map_map, List.map_map]; rfl
        rw [hsm]
        have hdv : ∀ x ∈ u, gL 0 u * x.fdiv (gL 0 u) = x := fun x hx => Int.mul_fdiv_cancel' (gL_dvd hx)
        refine rest _ (by rw [List.length_map]; exact hul) (gL_one fun d hd => ?_) (fun x hx => ?_)
        · have h1 : gL 0 u * d ∣ gL 0 u := (dvd_gL0 u _).mpr fun x hx => by
            have := hd _ (List.mem_map_of_mem (f := fun x => x.fdiv (gL 0 u)) hx)
            have h2 := Int.mul_dvd_mul_left (gL 0 u) this
            rwa [hdv x hx] at h2
          have h2 : gL 0 u * d ∣ gL 0 u * 1 := by rw [Int.mul_one]; exact h1
          exact Int.dvd_of_mul_dvd_mul_left (by omega) h2
        · obtain ⟨y, hy, rfl⟩ := List.mem_map.mp hx
          exact Nat.le_trans (Int.natAbs_fdiv_le_natAbs _ _) (hu y hy)
    · have ht : t = 0 ∨ t = 1 ∨ t = 2 ∨ t = 3 := by omega
      rcases ht with rfl | rfl | rfl | rfl
      · exact ⟨(show 1 ≤ big by decide), ⟨by decide, by decide, by decide⟩, (show 1 ≤ big by decide), (show 1 ≤ big by decide), rest [1] rfl rfl (by decide)⟩
      · exact ⟨(show 1 ≤ big by decide), ⟨by decide, by decide, by decide⟩, (show 1 ≤ big by decide), (show 2 ≤ big by decide), rest [0, 1] rfl rfl (by decide)⟩
      · exact ⟨(show 1 ≤ big by decide), ⟨by decide, by decide, by decide⟩, (show 1 ≤ big by decide), (show 3 ≤ big by decide), rest [0, 0, 1] rfl rfl (by decide)⟩
      · exact ⟨(show 1 ≤ big by decide), ⟨by decide, by decide, by decide⟩, (show 1 ≤ big by decide), (show 4 ≤ big by decide), rest [0, 0, 0, 1] rfl rfl (by decide)⟩
theorem law_run : sem_law pickO takenO signedO gcdO compO (detG 5) (lawE ["_law_script", "_law_row", "_law_turn", "_law_size", "_law_most", "_law_vector", "_law_k", "_law_common", "_law_x", "_law_found", "_law_one"]) kLaw := by
  refine ⟨⟨by decide, by decide⟩, forL_inv (fun _ ρ => ∃ x2 x3 x4 x5 x7 x8 x9 x10, ρ = E07 x2 x3 x4 x5 x7 x8 x9 x10) ⟨none, none, none, none, none, none, none, none, rfl⟩ (fun i d ρ nxt hd hρ hn => ?_) (fun ρ hρ => ?_)⟩
  · obtain ⟨x2, x3, x4, x5, x7, x8, x9, x10, rfl⟩ := hρ
    exact law_turn (x2 := some (.sh d)) fun x3 x4 x5 x7 x8 x9 x10 => hn _ ⟨_, _, _, _, _, _, _, _, rfl⟩
  · obtain ⟨x2, x3, x4, x5, x7, x8, x9, x10, rfl⟩ := hρ
    exact rfl
end Tx0
namespace Tx0
open PySem PySem.Spec PyProof.Rows L2 Z0
section
variable {Pg : Program} {w : World} {K : Kf} {mg : Str → Option Value} {base : Heap}
theorem ok_law (tx : Tx K mg) : FnOk Pg w K mg base CX0 8 tx.a_law tx.d_law ["_law_script"] (spLaw K) :=
  Z0.law_ok (first := (defBody s_law).headD (.Pass ⟨0, 0, 0, 0⟩)) (rest := (defBody s_law).tail) (seed := 3307) tx.f_law sc_law rfl (by decide)
    (fun cdv A outer s H E hr => ps_set (i := 1) sc_law.nd rfl (by first | exact Or.inl rfl | exact Or.inr rfl) (pe_lst (pa_cons (L2.pv 0) (pa_cons pe_int (pa_cons pe_int (pa_cons pe_int pa_nil))))))
    (walk_law tx pickO_mono (ok_pick tx) (by decide) takenO_mono (ok_taken tx) (by decide) signedO_mono (ok_signed tx) (by decide) gcdO_mono (ok_lgcd tx) (by decide) compO_mono (ok_completed tx) (by decide) (detG_mono 5) (ok_ldet tx 5) (by decide)) law_run
end
theorem end_of {P : Program} {w : World} {K : Kf} {h : Heap} {mg : Str → Option Value} {f : Addr} (X : K.In h) (G : h.Ns mainGlobals mg) (hfa : mg ("law" : Str) = some (.ref f)) (c : SaysZ fas fns tbs K) :
    ∃ fd : FuncData, (∀ (s : Shared) (v : Value), BindsTo s fd ⟨[v], []⟩ [("_law_script", v)]) ∧ ∀ base : Heap, K.In base → base.Ns mainGlobals mg → FnOk P w K mg base CX0 8 f fd ["_law_script"] (spLaw K) := by
  obtain ⟨tx, _⟩ := tx_of X G c
  have e := hfa.symm.trans tx.m_law
  cases e
  have b := FunD.bindsA (ps := ["_law_script"]) tx.f_law fun _ _ _ _ _ _ us hl => match us, hl with | [_], _ => rfl
  exact ⟨tx.d_law, fun s v => b s [v] rfl, fun base _ _ => ok_law tx⟩
end Tx0
open PySem PySem.W PySem.Calls PyProof.Rows
theorem PySem.Challenge.cw_latticepoints_k07_whole_completed_vector_holds : PySem.Challenge.rw_latticepoints_k07_whole_completed_vector.Holds := by
  w_on; o_law
  refine HandSHeadRun.head_any (r := OpenLaw.row PySem.Challenge.rw_latticepoints_k07_whole_completed_vector) (q := view (OpenLaw.row PySem.Challenge.rw_latticepoints_k07_whole_completed_vector).prog [20]) (H := Tx0.hk) (ob := Tx0.ob) (M := 4000) (loose := Tx0.loose) (d := HandSHeadRun.topDef (OpenLaw.row PySem.Challenge.rw_latticepoints_k07_whole_completed_vector).prog 20) (kwd := []) Tx0.ob_eq
    (by kernel_rfl) (fun s => by kernel_rfl) Tx0.run (by kernel_rfl) (by kernel_rfl) (by kernel_rfl) (by rfl) (by first | assumption | decide +kernel) (by decide +kernel) ⟨rfl, rfl, rfl, rfl, rfl, by decide +kernel⟩ ?hw ?hc
  case hw => w_witness2
  case hc =>
    refine L2.walk_ofE (l := PySem.Challenge.rw_latticepoints_k07_whole_completed_vector) (n := 63) (k := 8) (x := "_law_script") (CX := L2.CX0) rfl (by decide) (by kernel_rfl) ⟨rfl, by decide, by decide⟩ ?F (fun _ _ _ _ z => z)
    intro w mg fa h Y G hmg0
    obtain ⟨K, KX, c⟩ := Y
    have hmg : mg ("law" : PySem.Str) = some (.ref fa) := by
      have e : (HandSHeadRun.topDef (OpenLaw.row PySem.Challenge.rw_latticepoints_k07_whole_completed_vector).prog 20).name = ("law" : PySem.Str) := by kernel_rfl
      rw [← e]
      exact hmg0
    obtain ⟨fd, hb, hF⟩ := Tx0.end_of (P := (PySem.Challenge.rw_latticepoints_k07_whole_completed_vector).prog) (w := w) KX G hmg c
    exact ⟨K, fd, Z0.spLaw K, KX, hb, fun H a ns hl hO hS => ⟨a, ns, rfl, hS, hO, fun v H' e => e⟩, hF⟩
#print axioms PySem.Challenge.cw_latticepoints_k07_whole_completed_vector_holds
