import PyProof.Rows.All
import HandS.ForMost
import HandS.IsInst
import HandS.Style
import HandS.TupAny
import HandS.TupLe
import HandS.Zip
import HandS.Wide
import HandS.Head0
import HandS.Head1
import HandS.Head2
import HandS.HeadEnd
import HandS.HeadHook1
import HandS.HeadHook2
import HandS.WordsExc
import HandS.Defaults
import HandS.More
import HandS.SortInts
import HandS.Conv
import HandS.Deep
import PySem.Challenge.RW_latticepoints_k77_whole_sums_of_integer
set_option Elab.async false
set_option linter.all false
set_option maxRecDepth 100000
set_option maxHeartbeats 4000000
set_option exponentiation.threshold 1000000
/-! Z0: a pure layer over HandS: values as data, environments as lists of slots, a def's meaning as a weakest precondition over data. -/
namespace Z0
open PySem PySem.Spec PyProof.Rows L2

/-! ### data -/
inductive Ty where
  | int | bool | str | tuple | list | dict
def Ty.name : Ty → String
  | .int => "int"
  | .bool => "bool"
  | .str => "str"
  | .tuple => "tuple"
  | .list => "list"
  | .dict => "dict"
inductive D where
  | non | bl (b : Bool) | int (i : Int) | str (x : Str) | tup (xs : List D) | lst (xs : List D) | row | ty (t : Ty)
abbrev Kf := PySem.W.Frag
/-- an own length bound -/
abbrev big : Nat := 16000000
theorem big_line {n : Nat} (h : n ≤ big) : n ≤ sizeLine := Nat.le_trans h (by rw [sizeLine_eq]; decide)
theorem big_lt {n : Nat} (h : n < big) : n < sizeLine := Nat.lt_of_lt_of_le h (by rw [sizeLine_eq]; decide)

mutual
/-- a value that stands for a datum in the frozen part F; rw: where the law's row of draws stands -/
def Rep (K : Kf) (rw : Option Addr) (F : Hp) : D → V → Prop
  | .non, v => v = .non
  | .bl b, v => v = .bl b
  | .int i, v => v = .int i
  | .str x, v => v = .str x
  | .tup ds, v => ∃ a vs, v = .ref a ∧ SqT K F a vs ∧ Reps K rw F ds vs
  | .lst ds, v => ∃ a vs, v = .ref a ∧ F a = some (.lst vs) ∧ Reps K rw F ds vs
  | .row, v => ∃ a, rw = some a ∧ v = .ref a
  | .ty t, v => v = .ty t.name
def Reps (K : Kf) (rw : Option Addr) (F : Hp) : List D → List V → Prop
  | [], vs => vs = []
  | d :: ds, vs => ∃ v r, vs = v :: r ∧ Rep K rw F d v ∧ Reps K rw F ds r
end
def Ex (F F' : Hp) : Prop := ∀ a o, F a = some o → F' a = some o
theorem Ex.refl (F : Hp) : Ex F F := fun _ _ h => h
theorem Ex.trans {F G H : Hp} (a : Ex F G) (b : Ex G H) : Ex F H := fun x o h => b x o (a x o h)
theorem Ex.upd {F : Hp} {p : Addr} {o : HO} (h : F p = none) : Ex F (upd F p o) := fun a u e => by
  rw [upd_ne (ne_of_none e h)]; exact e
theorem Ex.none {F G : Hp} (e : Ex F G) {a : Addr} (h : G a = none) : F a = none := by
  cases q : F a with
  | none => rfl
  | some o => rw [e a o q] at h; cases h
def ExR (rw : Option Addr) (H H' : Hp) : Prop := ∀ a o, rw ≠ some a → H a = some o → H' a = some o
theorem ExR.refl (rw : Option Addr) (H : Hp) : ExR rw H H := fun _ _ _ h => h
theorem ExR.trans {rw : Option Addr} {F G H : Hp} (a : ExR rw F G) (b : ExR rw G H) : ExR rw F H := fun x o n h => b x o n (a x o n h)
theorem ExR.upd {rw : Option Addr} {H : Hp} {p : Addr} {o : HO} (h : H p = none) : ExR rw H (upd H p o) := fun a u _ e => by
  rw [upd_ne (ne_of_none e h)]; exact e
theorem rd_ex {F F' : Hp} {a : Addr} {u : HO} (e : Ex F F') (h : Rd F a u) : Rd F' a u := by
  rcases h with h | ⟨o, h⟩
  · exact .inl (e a _ h)
  · exact .inr ⟨o, e a _ h⟩
theorem sql_ex {K : Kf} {F F' : Hp} {a : Addr} {xs : List V} (e : Ex F F') (h : SqL K F a xs) : SqL K F' a xs := by
  rcases h with h | h
  · exact .inl (rd_ex e h)
  · exact .inr h
theorem sqt_ex {K : Kf} {F F' : Hp} {a : Addr} {xs : List V} (e : Ex F F') (h : SqT K F a xs) : SqT K F' a xs := by
  rcases h with h | h
  · exact .inl (rd_ex e h)
  · exact .inr h
theorem sql_exr {K : Kf} {rw : Option Addr} {F F' : Hp} {a : Addr} {xs : List V} (n : rw ≠ some a) (e : ExR rw F F') (h : SqL K F a xs) : SqL K F' a xs := by
  rcases h with (h | ⟨o, h⟩) | h
  · exact .inl (.inl (e a _ n h))
  · exact .inl (.inr ⟨o, e a _ n h⟩)
  · exact .inr h
mutual
theorem Rep.ex {K : Kf} {rw : Option Addr} {F F' : Hp} (e : Ex F F') : ∀ (d : D) (v : V), Rep K rw F d v → Rep K rw F' d v
  | .non, _, h => h
  | .bl _, _, h => h
  | .int _, _, h => h
  | .str _, _, h => h
  | .tup ds, _, ⟨a, vs, q, s, r⟩ => ⟨a, vs, q, sqt_ex e s, Reps.ex e ds vs r⟩
  | .lst ds, _, ⟨a, vs, q, s, r⟩ => ⟨a, vs, q, e _ _ s, Reps.ex e ds vs r⟩
  | .row, _, h => h
  | .ty _, _, h => h
theorem Reps.ex {K : Kf} {rw : Option Addr} {F F' : Hp} (e : Ex F F') : ∀ (ds : List D) (vs : List V), Reps K rw F ds vs → Reps K rw F' ds vs
  | [], _, h => h
  | d :: ds, _, ⟨v, r, q, h, t⟩ => ⟨v, r, q, Rep.ex e d v h, Reps.ex e ds r t⟩
end
theorem Reps.length {K : Kf} {rw : Option Addr} {F : Hp} : ∀ {ds : List D} {vs : List V}, Reps K rw F ds vs → vs.length = ds.length
  | [], _, h => by cases (show _ = [] from h); rfl
  | d :: ds, _, h => by
    obtain ⟨v, r, rfl, _, t⟩ := (show ∃ v r, _ = v :: r ∧ _ ∧ _ from h)
    show r.length + 1 = ds.length + 1
    rw [Reps.length t]
theorem Reps.get {K : Kf} {rw : Option Addr} {F : Hp} : ∀ {ds : List D} {vs : List V} {i : Nat} {d : D}, Reps K rw F ds vs → ds[i]? = some d → ∃ v, vs[i]? = some v ∧ Rep K rw F d v
  | [], _, _, _, _, e => by simp at e
  | d :: ds, _, i, x, h, e => by
    obtain ⟨v, r, rfl, h1, t⟩ := (show ∃ v r, _ = v :: r ∧ _ ∧ _ from h)
    cases i with
    | zero => simp at e; subst e; exact ⟨v, rfl, h1⟩
    | succ i =>
      obtain ⟨w, e1, e2⟩ := Reps.get (i := i) t (by simpa using e)
      exact ⟨w, by simpa using e1, e2⟩
theorem Reps.app {K : Kf} {rw : Option Addr} {F : Hp} : ∀ {ds es : List D} {vs us : List V}, Reps K rw F ds vs → Reps K rw F es us → Reps K rw F (ds ++ es) (vs ++ us)
  | [], _, _, _, h, q => by cases (show _ = [] from h); exact q
  | d :: ds, _, _, _, h, q => by
    obtain ⟨v, r, rfl, h1, t⟩ := (show ∃ v r, _ = v :: r ∧ _ ∧ _ from h)
    exact ⟨v, _, rfl, h1, Reps.app t q⟩
theorem Reps.one {K : Kf} {rw : Option Addr} {F : Hp} {d : D} {v : V} (h : Rep K rw F d v) : Reps K rw F [d] [v] := ⟨v, [], rfl, h, rfl⟩
theorem Reps.two {K : Kf} {rw : Option Addr} {F : Hp} {d e : D} {v u : V} (h : Rep K rw F d v) (k : Rep K rw F e u) : Reps K rw F [d, e] [v, u] := ⟨v, [u], rfl, h, Reps.one k⟩
theorem Reps.take {K : Kf} {rw : Option Addr} {F : Hp} : ∀ (n : Nat) {ds : List D} {vs : List V}, Reps K rw F ds vs → Reps K rw F (ds.take n) (vs.take n)
  | 0, _, _, _ => by simp [Reps]
  | n + 1, [], _, h => by cases (show _ = [] from h); simp [Reps]
  | n + 1, d :: ds, _, h => by
    obtain ⟨v, r, rfl, h1, t⟩ := (show ∃ v r, _ = v :: r ∧ _ ∧ _ from h)
    exact ⟨v, _, rfl, h1, Reps.take n t⟩
theorem Reps.drop {K : Kf} {rw : Option Addr} {F : Hp} : ∀ (n : Nat) {ds : List D} {vs : List V}, Reps K rw F ds vs → Reps K rw F (ds.drop n) (vs.drop n)
  | 0, _, _, h => by simpa using h
  | n + 1, [], _, h => by cases (show _ = [] from h); simp [Reps]
  | n + 1, d :: ds, _, h => by
    obtain ⟨v, r, rfl, h1, t⟩ := (show ∃ v r, _ = v :: r ∧ _ ∧ _ from h)
    exact Reps.drop n t
theorem Reps.rev {K : Kf} {rw : Option Addr} {F : Hp} : ∀ {ds : List D} {vs : List V}, Reps K rw F ds vs → Reps K rw F ds.reverse vs.reverse
  | [], _, h => by cases (show _ = [] from h); simp [Reps]
  | d :: ds, _, h => by
    obtain ⟨v, r, rfl, h1, t⟩ := (show ∃ v r, _ = v :: r ∧ _ ∧ _ from h)
    rw [List.reverse_cons, List.reverse_cons]
    exact Reps.app (Reps.rev t) (Reps.one h1)
theorem Reps.set {K : Kf} {rw : Option Addr} {F : Hp} {d : D} {v : V} (q : Rep K rw F d v) : ∀ (i : Nat) {ds : List D} {vs : List V}, Reps K rw F ds vs → Reps K rw F (ds.set i d) (vs.set i v)
  | _, [], _, h => by cases (show _ = [] from h); simp [Reps]
  | 0, d :: ds, _, h => by
    obtain ⟨v, r, rfl, h1, t⟩ := (show ∃ v r, _ = v :: r ∧ _ ∧ _ from h)
    exact ⟨_, _, rfl, q, t⟩
  | i + 1, d :: ds, _, h => by
    obtain ⟨v, r, rfl, h1, t⟩ := (show ∃ v r, _ = v :: r ∧ _ ∧ _ from h)
    exact ⟨_, _, rfl, h1, Reps.set q i t⟩
theorem Reps.ints {K : Kf} {rw : Option Addr} {F : Hp} : ∀ {ns : List Int} {vs : List V}, Reps K rw F (ns.map D.int) vs → vs = ns.map V.int
  | [], _, h => h
  | n :: ns, _, h => by
    obtain ⟨v, r, rfl, h1, t⟩ := (show ∃ v r, _ = v :: r ∧ _ ∧ _ from h)
    rw [Reps.ints t, show v = .int n from h1]; rfl
theorem Reps.of_ints {K : Kf} {rw : Option Addr} {F : Hp} : ∀ {ns : List Int}, Reps K rw F (ns.map D.int) (ns.map V.int)
  | [] => rfl
  | n :: ns => ⟨_, _, rfl, rfl, Reps.of_ints⟩

/-! ### environments and their relation to states -/
inductive Slot where
  | sh (d : D) | own (ds : List D)
abbrev REnv := List (Option Slot)
structure Zs where
  rw : Option Addr
  H0 : Hp
  F0 : Hp
/-- the script: known to the object, or of the written part -/
def ScOk (K : Kf) (H : Hp) (sc : Addr) (ns : List Int) : Prop := (∃ o, H sc = some (.frz o (.lst (ns.map V.int)))) ∨ SqL K (fun _ => none) sc (ns.map V.int)
theorem ScOk.sql {K : Kf} {H : Hp} {sc : Addr} {ns : List Int} (h : ScOk K H sc ns) : SqL K H sc (ns.map V.int) := by
  rcases h with ⟨o, h⟩ | h
  · exact .inl (.inr ⟨o, h⟩)
  · rcases h with (h | ⟨o, h⟩) | h
    · cases h
    · cases h
    · exact .inr h
theorem ScOk.keep {K : Kf} {H H' : Hp} {sc : Addr} {ns : List Int} (h : ScOk K H sc ns) (k : ∀ o, H sc = some (.frz o (.lst (ns.map V.int))) → H' sc = some (.frz o (.lst (ns.map V.int)))) : ScOk K H' sc ns := by
  rcases h with ⟨o, h⟩ | h
  · exact .inl ⟨o, k o h⟩
  · exact .inr h
/-- the row of draws: the script, and three ints -/
def RowOk (K : Kf) (rw : Option Addr) (H : Hp) : Prop := ∀ a, rw = some a → ∃ (sc : Addr) (ns : List Int) (p m r : Int),
  H a = some (.lst [.ref sc, .int p, .int m, .int r]) ∧ ScOk K H sc ns ∧ 0 ≤ p
structure Base (K : Kf) (Z : Zs) (F H : Hp) : Prop where
  fh : Ex F H
  f0 : Ex Z.F0 F
  hh : ExR Z.rw Z.H0 H
  new : ∀ a, F a ≠ none → Z.F0 a ≠ none ∨ Z.H0 a = none
  row : RowOk K Z.rw H
  frow : ∀ a, Z.rw = some a → F a = none
def SlotOk (K : Kf) (Z : Zs) (F H : Hp) (σ : L2.St) (i : Nat) : Slot → Prop
  | .sh d => ∃ v, σ[i]? = some (some v) ∧ Rep K Z.rw F d v
  | .own ds => ∃ a vs, σ[i]? = some (some (.ref a)) ∧ H a = some (.lst vs) ∧ Reps K Z.rw F ds vs ∧ F a = none ∧ Z.H0 a = none ∧ Z.rw ≠ some a
structure R (K : Kf) (Z : Zs) (F : Hp) (ρ : REnv) (σ : L2.St) (H : Hp) : Prop where
  base : Base K Z F H
  len : ρ.length = σ.length
  slot : ∀ i s, ρ[i]? = some (some s) → SlotOk K Z F H σ i s
  apart : ∀ (i j : Nat) (ds es : List D) (a : Addr), ρ[i]? = some (some (Slot.own ds)) → ρ[j]? = some (some (Slot.own es)) → σ[i]? = some (some (V.ref a)) → σ[j]? = some (some (V.ref a)) → i = j
section
variable {K : Kf} {Z : Zs} {F F' : Hp} {ρ : REnv} {σ : L2.St} {H H' : Hp}
/-- what grows: the frozen part, the heap -/
structure Gr (K : Kf) (Z : Zs) (F H F' H' : Hp) : Prop where
  f : Ex F F'
  h : ExR Z.rw H H'
  b : Base K Z F' H'
  n : ∀ a, F' a ≠ none → F a ≠ none ∨ H a = none
theorem Gr.refl (b : Base K Z F H) : Gr K Z F H F H := ⟨Ex.refl _, ExR.refl _ _, b, fun _ h => .inl h⟩
theorem Gr.trans {F1 H1 F2 H2 : Hp} (a : Gr K Z F H F1 H1) (c : Gr K Z F1 H1 F2 H2) : Gr K Z F H F2 H2 :=
  ⟨a.f.trans c.f, a.h.trans c.h, c.b, fun x hx => by
    rcases c.n x hx with q | q
    · exact a.n x q
    · by_cases hr : Z.rw = some x
      · exact absurd (c.b.frow x hr) hx
      · cases e : H x with
        | none => exact .inr rfl
        | some o => rw [a.h x o hr e] at q; cases q⟩
theorem R.grow (r : R K Z F ρ σ H) (g : Gr K Z F H F' H') : R K Z F' ρ σ H' := by
  refine ⟨g.b, r.len, fun i s e => ?_, r.apart⟩
  have q := r.slot i s e
  cases s with
  | sh d => obtain ⟨v, e1, e2⟩ := q; exact ⟨v, e1, Rep.ex g.f _ _ e2⟩
  | own ds =>
    obtain ⟨a, vs, e1, e2, e3, e4, e5, e6⟩ := q
    refine ⟨a, vs, e1, g.h a _ e6 e2, Reps.ex g.f _ _ e3, ?_, e5, e6⟩
    cases z : F' a with
    | none => rfl
    | some o =>
      rcases g.n a (by rw [z]; simp) with y | y
      · exact absurd e4 y
      · rw [e2] at y; cases y
/-- a new object is laid and frozen -/
theorem Base.lay (b : Base K Z F H) {p : Addr} {o : HO} (h : H p = none) : Gr K Z F H (upd F p o) (upd H p o) := by
  have hF : F p = none := b.fh.none h
  have hrow : Z.rw ≠ some p := fun e => by obtain ⟨_, _, _, _, _, q, _⟩ := b.row p e; rw [h] at q; cases q
  refine ⟨Ex.upd hF, ExR.upd h, ⟨fun a u e => ?_, b.f0.trans (Ex.upd hF), b.hh.trans (ExR.upd h), fun a e => ?_, fun a e => ?_, fun a e => ?_⟩, fun a e => ?_⟩
  · by_cases ha : a = p
    · subst ha; rw [upd_same] at e ⊢; exact e
    · rw [upd_ne ha] at e ⊢; exact b.fh a u e
  · by_cases ha : a = p
    · subst ha
      right
      cases z : Z.H0 a with
      | none => rfl
      | some u => rw [b.hh a u hrow z] at h; cases h
    · rw [upd_ne ha] at e; exact b.new a e
  · obtain ⟨sc, ns, q, m, r, e1, e3, e4⟩ := b.row a e
    refine ⟨sc, ns, q, m, r, ?_, ?_, e4⟩
    · rw [upd_ne (ne_of_none e1 h)]; exact e1
    · exact e3.keep fun o q => by rw [upd_ne (ne_of_none q h)]; exact q
  · rw [upd_ne (fun z : a = p => hrow (by rw [← z]; exact e))]; exact b.frow a e
  · by_cases ha : a = p
    · subst ha; exact .inr h
    · rw [upd_ne ha] at e; exact .inl e
/-- a new object is laid, not frozen -/
theorem Base.lay0 (b : Base K Z F H) {p : Addr} {o : HO} (h : H p = none) : Gr K Z F H F (upd H p o) := by
  have hrow : Z.rw ≠ some p := fun e => by obtain ⟨_, _, _, _, _, q, _⟩ := b.row p e; rw [h] at q; cases q
  refine ⟨Ex.refl F, ExR.upd h, ⟨fun a u e => ?_, b.f0, b.hh.trans (ExR.upd h), b.new, fun a e => ?_, b.frow⟩, fun a e => .inl e⟩
  · have := b.fh a u e
    rw [upd_ne (ne_of_none this h)]; exact this
  · obtain ⟨sc, ns, q, m, r, e1, e3, e4⟩ := b.row a e
    refine ⟨sc, ns, q, m, r, ?_, ?_, e4⟩
    · rw [upd_ne (ne_of_none e1 h)]; exact e1
    · exact e3.keep fun o q => by rw [upd_ne (ne_of_none q h)]; exact q
theorem Base.norow (b : Base K Z F H) {p : Addr} (h : H p = none) : Z.rw ≠ some p := fun e => by obtain ⟨_, _, _, _, _, q, _⟩ := b.row p e; rw [h] at q; cases q
theorem Base.h0 (b : Base K Z F H) {p : Addr} (h : H p = none) : Z.H0 p = none := by
  cases z : Z.H0 p with
  | none => rfl
  | some u => rw [b.hh p u (b.norow h) z] at h; cases h
end

/-! ### readings of values -/
/-- a value that may be looked at now: a datum, or a list that may still change -/
def RepP (K : Kf) (rw : Option Addr) (F H : Hp) (d : D) (v : V) : Prop :=
  Rep K rw F d v ∨ ∃ ds a vs, d = .lst ds ∧ v = .ref a ∧ H a = some (.lst vs) ∧ Reps K rw F ds vs ∧ rw ≠ some a
section
variable {K : Kf} {Z : Zs} {F F' : Hp} {ρ : REnv} {σ : L2.St} {H H' : Hp} {d : D} {v : V}
theorem RepP.gr (h : RepP K Z.rw F H d v) (g : Gr K Z F H F' H') : RepP K Z.rw F' H' d v := by
  rcases h with h | ⟨ds, a, vs, e1, e2, e3, e4, e5⟩
  · exact .inl (Rep.ex g.f _ _ h)
  · exact .inr ⟨ds, a, vs, e1, e2, g.h a _ e5 e3, Reps.ex g.f _ _ e4, e5⟩
theorem RepP.int {rw : Option Addr} {i : Int} (h : RepP K rw F H (.int i) v) : v = .int i := by
  rcases h with h | ⟨ds, a, vs, e1, _⟩
  · exact h
  · cases e1
theorem RepP.bl {rw : Option Addr} {b : Bool} (h : RepP K rw F H (.bl b) v) : v = .bl b := by
  rcases h with h | ⟨ds, a, vs, e1, _⟩
  · exact h
  · cases e1
theorem RepP.str {rw : Option Addr} {x : Str} (h : RepP K rw F H (.str x) v) : v = .str x := by
  rcases h with h | ⟨ds, a, vs, e1, _⟩
  · exact h
  · cases e1
theorem RepP.non {rw : Option Addr} (h : RepP K rw F H .non v) : v = .non := by
  rcases h with h | ⟨ds, a, vs, e1, _⟩
  · exact h
  · cases e1
theorem RepP.tup {ds : List D} (h : RepP K Z.rw F H (.tup ds) v) (b : Base K Z F H) : ∃ a vs, v = .ref a ∧ SqT K H a vs ∧ Reps K Z.rw F ds vs ∧ SqT K F a vs := by
  rcases h with ⟨a, vs, e1, e2, e3⟩ | ⟨ds, a, vs, e1, _⟩
  · exact ⟨a, vs, e1, sqt_ex b.fh e2, e3, e2⟩
  · cases e1
theorem RepP.lst {ds : List D} (h : RepP K Z.rw F H (.lst ds) v) (b : Base K Z F H) : ∃ a vs, v = .ref a ∧ H a = some (.lst vs) ∧ Reps K Z.rw F ds vs ∧ Z.rw ≠ some a := by
  rcases h with ⟨a, vs, e1, e2, e3⟩ | ⟨ds', a, vs, e1, e2, e3, e4, e5⟩
  · exact ⟨a, vs, e1, b.fh a _ e2, e3, fun z => by rw [b.frow a z] at e2; cases e2⟩
  · cases e1; exact ⟨a, vs, e2, e3, e4, e5⟩
end

/-! ### meanings: expressions, tests, argument lists, statements -/
abbrev SE := REnv → (D → Prop) → Prop
abbrev SA := REnv → (List D → Prop) → Prop
abbrev ST := REnv → (Bool → Prop) → Prop
structure Kt where
  nx : REnv → Prop
  rt : D → Prop
  bk : REnv → Prop
  ct : REnv → Prop
abbrev SS := REnv → Kt → Prop
def Kt.le (k l : Kt) : Prop := (∀ ρ, k.nx ρ → l.nx ρ) ∧ (∀ d, k.rt d → l.rt d) ∧ (∀ ρ, k.bk ρ → l.bk ρ) ∧ (∀ ρ, k.ct ρ → l.ct ρ)
def MonoE {α : Type} (f : REnv → (α → Prop) → Prop) : Prop := ∀ ρ (P Q : α → Prop), (∀ d, P d → Q d) → f ρ P → f ρ Q
def MonoS (f : SS) : Prop := ∀ ρ k l, Kt.le k l → f ρ k → f ρ l
def TEof (K : Kf) (f : SE) : TE := fun σ H Q => ∃ Z F ρ, R K Z F ρ σ H ∧ f ρ fun d => ∀ v F' H', Gr K Z F H F' H' → Rep K Z.rw F' d v → Q v H'
def TPof (K : Kf) (f : SE) : TE := fun σ H Q => ∃ Z F ρ, R K Z F ρ σ H ∧ f ρ fun d => ∀ v F' H', Gr K Z F H F' H' → RepP K Z.rw F' H' d v → Q v H'
/-- a new list, not frozen yet -/
def Fresh (Z : Zs) (F : Hp) (ρ : REnv) (σ : L2.St) (p : Addr) : Prop := F p = none ∧ Z.H0 p = none ∧ Z.rw ≠ some p ∧ ∀ (i : Nat) (ds : List D), ρ[i]? = some (some (Slot.own ds)) → σ[i]? ≠ some (some (V.ref p))
def TFof (K : Kf) (f : SA) : TE := fun σ H Q => ∃ Z F ρ, R K Z F ρ σ H ∧ f ρ fun ds => ∀ p vs F' H', Gr K Z F H F' H' → H p = none → Fresh Z F' ρ σ p → H' p = some (.lst vs) → Reps K Z.rw F' ds vs → Q (.ref p) H'
def TTof (K : Kf) (f : ST) : TT := fun σ H Q => ∃ Z F ρ, R K Z F ρ σ H ∧ f ρ fun b => ∀ F' H', Gr K Z F H F' H' → Q b H'
def TAof (K : Kf) (f : SA) : TA := fun σ H Q => ∃ Z F ρ, R K Z F ρ σ H ∧ f ρ fun ds => ∀ vs F' H', Gr K Z F H F' H' → Reps K Z.rw F' ds vs → Q vs H'
def kOf (K : Kf) (Z : Zs) (F : Hp) (D' : Ends) : Kt where
  nx ρ := ∀ σ' F' H', Ex F F' → R K Z F' ρ σ' H' → D'.nx σ' H'
  rt d := ∀ v F' H', Ex F F' → Base K Z F' H' → Rep K Z.rw F' d v → D'.rt v H'
  bk ρ := ∀ σ' F' H', Ex F F' → R K Z F' ρ σ' H' → D'.bk σ' H'
  ct ρ := ∀ σ' F' H', Ex F F' → R K Z F' ρ σ' H' → D'.ct σ' H'
def TSof (K : Kf) (f : SS) : TS := fun D' σ H => ∃ Z F ρ, R K Z F ρ σ H ∧ f ρ (kOf K Z F D')
theorem kOf_ex {K : Kf} {Z : Zs} {F F' : Hp} {D' : Ends} (e : Ex F F') : Kt.le (kOf K Z F D') (kOf K Z F' D') :=
  ⟨fun _ h σ' G H' e' r => h σ' G H' (e.trans e') r, fun _ h v G H' e' b r => h v G H' (e.trans e') b r, fun _ h σ' G H' e' r => h σ' G H' (e.trans e') r, fun _ h σ' G H' e' r => h σ' G H' (e.trans e') r⟩
theorem Kt.le.rfl {k : Kt} : Kt.le k k := ⟨fun _ h => h, fun _ h => h, fun _ h => h, fun _ h => h⟩
theorem Kt.le.trans {k l m : Kt} (a : Kt.le k l) (b : Kt.le l m) : Kt.le k m := ⟨fun x h => b.1 x (a.1 x h), fun x h => b.2.1 x (a.2.1 x h), fun x h => b.2.2.1 x (a.2.2.1 x h), fun x h => b.2.2.2 x (a.2.2.2 x h)⟩

structure E (X : Cx) (e : Expr) (f : SE) : Prop where
  mono : MonoE f
  run : PE X e (TEof X.K f)
structure P (X : Cx) (e : Expr) (f : SE) : Prop where
  mono : MonoE f
  run : PE X e (TPof X.K f)
structure F (X : Cx) (e : Expr) (f : SA) : Prop where
  mono : MonoE f
  run : PE X e (TFof X.K f)
structure T (X : Cx) (e : Expr) (f : ST) : Prop where
  mono : MonoE f
  run : PT X e (TTof X.K f)
structure Tw (X : Cx) (e : Expr) (f : ST) : Prop where
  mono : MonoE f
  run : PW X e (TTof X.K f)
structure A (X : Cx) (es : List Expr) (f : SA) : Prop where
  mono : MonoE f
  run : PA X es (TAof X.K f)
  cnt : ∀ ρ Q, f ρ Q → f ρ fun ds => ds.length = es.length ∧ Q ds
structure S (X : Cx) (st : Stmt) (f : SS) : Prop where
  mono : MonoS f
  run : PS X st (TSof X.K f)
structure Ss (X : Cx) (st : List Stmt) (f : SS) : Prop where
  mono : MonoS f
  run : PSs X st (TSof X.K f)

section
variable {X : Cx} {e a b c : Expr} {f g k : SE}
theorem PE.weak {t t' : TE} (h : PE X e t) (hw : ∀ σ H Q, t' σ H Q → t σ H Q) : PE X e t' := ⟨fun pins s σ H Q I q => h.run pins s σ H Q I (hw σ H Q q)⟩
theorem PT.weak {t t' : TT} (h : PT X e t) (hw : ∀ σ H Q, t' σ H Q → t σ H Q) : PT X e t' := ⟨fun pins s σ H Q I q => h.run pins s σ H Q I (hw σ H Q q)⟩
theorem PW.weak {t t' : TT} (h : PW X e t) (hw : ∀ σ H Q, t' σ H Q → t σ H Q) : PW X e t' := ⟨fun wh pins s σ H Q I q => h.run wh pins s σ H Q I (hw σ H Q q)⟩
theorem PA.weak {es : List Expr} {t t' : TA} (h : PA X es t) (hw : ∀ σ H Q, t' σ H Q → t σ H Q) : PA X es t' := ⟨fun pos pins s σ H Q I q => h.run pos pins s σ H Q I (hw σ H Q q)⟩
theorem PS.weak {st : Stmt} {t t' : TS} (h : PS X st t) (hw : ∀ D σ H, t' D σ H → t D σ H) : PS X st t' := ⟨fun pins s σ H D I q => h.run pins s σ H D I (hw D σ H q)⟩
theorem PSs.weak {st : List Stmt} {t t' : TS} (h : PSs X st t) (hw : ∀ D σ H, t' D σ H → t D σ H) : PSs X st t' := ⟨fun pins s σ H D I q => h.run pins s σ H D I (hw D σ H q)⟩

theorem E.p (h : E X e f) : P X e f := ⟨h.mono, PE.weak h.run fun σ H Q ⟨Z, F, ρ, r, q⟩ => ⟨Z, F, ρ, r, h.mono ρ _ _ (fun d hd v F' H' g rep => hd v F' H' g (.inl rep)) q⟩⟩
/-- freeze a new list -/
theorem freeze {K : Kf} {Z : Zs} {F G : Hp} {ρ : REnv} {σ : L2.St} {H H' : Hp} {p : Addr} {vs : List V} (r : R K Z F ρ σ H) (g : Gr K Z F H G H') (fr : Fresh Z G ρ σ p) (hp : H' p = some (.lst vs)) (h0 : H p = none) : Gr K Z F H (upd G p (.lst vs)) H' := by
  obtain ⟨f1, f2, f3, f4⟩ := fr
  refine ⟨g.f.trans (Ex.upd f1), g.h, ⟨fun a u e => ?_, g.b.f0.trans (Ex.upd f1), g.b.hh, fun a e => ?_, g.b.row, fun a e => ?_⟩, fun a e => ?_⟩
  · by_cases ha : a = p
    · subst ha; rw [upd_same] at e; cases e; exact hp
    · rw [upd_ne ha] at e; exact g.b.fh a u e
  · by_cases ha : a = p
    · subst ha; exact .inr f2
    · rw [upd_ne ha] at e; exact g.b.new a e
  · rw [upd_ne (fun z : a = p => f3 (by rw [← z]; exact e))]; exact g.b.frow a e
  · by_cases ha : a = p
    · subst ha; exact .inr h0
    · rw [upd_ne ha] at e; exact g.n a e
end

section
variable {X : Cx} {e a b c : Expr} {f g k : SE} {pos : Pos}
theorem E.ofF {f : SA} (h : F X e f) : E X e (fun ρ Q => f ρ fun ds => Q (.lst ds)) :=
  ⟨fun ρ P Q hpq q => h.mono ρ _ _ (fun ds hd => hpq _ hd) q,
   PE.weak h.run fun σ H Q ⟨Z, F, ρ, r, q⟩ => ⟨Z, F, ρ, r, h.mono ρ _ _ (fun ds hd p vs F' H' g h0 fr hp rs => by
     have g2 := freeze r g fr hp h0
     refine hd (.ref p) _ H' g2 ⟨p, vs, rfl, upd_same, Reps.ex (Ex.upd fr.1) _ _ rs⟩) q⟩⟩
theorem P.ofF {f : SA} (h : F X e f) : P X e (fun ρ Q => f ρ fun ds => Q (.lst ds)) := (E.ofF h).p

/-! ### names, constants -/
def varE (i : Nat) : SE := fun ρ Q => match ρ[i]? with
  | some (some (Slot.sh d)) => Q d
  | _ => False
def varP (i : Nat) : SE := fun ρ Q => match ρ[i]? with
  | some (some (Slot.sh d)) => Q d
  | some (some (Slot.own ds)) => Q (.lst ds)
  | _ => False
theorem varE_mono (i : Nat) : MonoE (varE i) := fun ρ P Q h q => by
  unfold varE at *
  split at q
  · exact h _ q
  · exact q.elim
theorem varP_mono (i : Nat) : MonoE (varP i) := fun ρ P Q h q => by
  unfold varP at *
  split at q
  · exact h _ q
  · exact h _ q
  · exact q.elim
theorem E.var (i : Nat) (h : PE X e (tVar i)) : E X e (varE i) := ⟨varE_mono i, PE.weak h fun σ H Q ⟨Z, F, ρ, r, q⟩ => by
  unfold varE at q
  split at q
  · rename_i d hd
    obtain ⟨v, e1, e2⟩ := r.slot i _ hd
    exact ⟨v, e1, q v F H (Gr.refl r.base) e2⟩
  · exact q.elim⟩
theorem P.var (i : Nat) (h : PE X e (tVar i)) : P X e (varP i) := ⟨varP_mono i, PE.weak h fun σ H Q ⟨Z, F, ρ, r, q⟩ => by
  unfold varP at q
  split at q
  · rename_i d hd
    obtain ⟨v, e1, e2⟩ := r.slot i _ hd
    exact ⟨v, e1, q v F H (Gr.refl r.base) (.inl e2)⟩
  · rename_i ds hd
    obtain ⟨a, vs, e1, e2, e3, _, _, e6⟩ := r.slot i _ hd
    exact ⟨_, e1, q _ F H (Gr.refl r.base) (.inr ⟨ds, a, vs, rfl, rfl, e2, e3, e6⟩)⟩
  · exact q.elim⟩
def cE (d : D) : SE := fun _ Q => Q d
theorem E.cst {d : D} {v : V} (hd : ∀ K rw F, Rep K rw F d v) (h : PE X e (tC v)) : E X e (cE d) := ⟨fun _ _ _ h q => h _ q, PE.weak h fun σ H Q ⟨Z, F, ρ, r, q⟩ => q v F H (Gr.refl r.base) (hd _ _ _)⟩
theorem E.int {i : Int} {j : Nat} : E X (.Constant (.int i) j pos) (cE (.int i)) := E.cst (fun _ _ _ => rfl) pe_int
theorem E.bl {b : Bool} {j : Nat} : E X (.Constant (.bool b) j pos) (cE (.bl b)) := E.cst (fun _ _ _ => rfl) pe_bl
theorem E.non {j : Nat} : E X (.Constant .none j pos) (cE .non) := E.cst (fun _ _ _ => rfl) pe_non
theorem E.str {x : Str} {j : Nat} : E X (.Constant (.str x) j pos) (cE (.str x)) := E.cst (fun _ _ _ => rfl) pe_str
/-- a constant of the module -/
theorem E.glob {x : Str} {d : D} {v : V} {u : Value} (hd : ∀ rw F, Rep X.K rw F d v) (hg : Gl X x) (hm : X.mg x = some u) (r : RelV v u) (hdb : (x == ("__debug__" : Str)) = false := by decide) : E X (.Name x pos) (cE d) :=
  ⟨fun _ _ _ h q => h _ q, PE.weak (pe_glob hg hm r hdb) fun σ H Q ⟨Z, F, ρ, r, q⟩ => q v F H (Gr.refl r.base) (hd _ _)⟩

/-! ### operators by values -/
abbrev O1 := D → (D → Prop) → Prop
abbrev O2 := D → D → (D → Prop) → Prop
def Mono1 (o : O1) : Prop := ∀ x (P Q : D → Prop), (∀ d, P d → Q d) → o x P → o x Q
def Mono2 (o : O2) : Prop := ∀ x y (P Q : D → Prop), (∀ d, P d → Q d) → o x y P → o x y Q
def OpS (K : Kf) (r : R2) (o : O2) : Prop := ∀ (Z : Zs) (F H : Hp) (dx dy : D) (x y : V) (Q : VK), Base K Z F H → RepP K Z.rw F H dx x → RepP K Z.rw F H dy y →
  (o dx dy fun d => ∀ v F' H', Gr K Z F H F' H' → Rep K Z.rw F' d v → Q v H') → r x y H Q
def UnS (K : Kf) (r : V → Hp → VK → Prop) (o : O1) : Prop := ∀ (Z : Zs) (F H : Hp) (dx : D) (x : V) (Q : VK), Base K Z F H → RepP K Z.rw F H dx x →
  (o dx fun d => ∀ v F' H', Gr K Z F H F' H' → Rep K Z.rw F' d v → Q v H') → r x H Q
def sOp (o : O2) (f g : SE) : SE := fun ρ Q => f ρ fun x => g ρ fun y => o x y Q
def sUn (o : O1) (f : SE) : SE := fun ρ Q => f ρ fun x => o x Q
theorem sOp_mono {o : O2} (mo : Mono2 o) (mf : MonoE f) (mg : MonoE g) : MonoE (sOp o f g) := fun ρ P Q h q => mf ρ _ _ (fun x hx => mg ρ _ _ (fun y hy => mo x y _ _ h hy) hx) q
theorem sUn_mono {o : O1} (mo : Mono1 o) (mf : MonoE f) : MonoE (sUn o f) := fun ρ P Q h q => mf ρ _ _ (fun x hx => mo x _ _ h hx) q
theorem op_tp {K : Kf} {r : R2} {o : O2} (hs : OpS K r o) (mo : Mono2 o) (mf : MonoE f) (mg : MonoE g) : ∀ σ H Q, TEof K (sOp o f g) σ H Q → tOp r (TPof K f) (TPof K g) σ H Q := fun σ H Q ⟨Z, F, ρ, r, q⟩ =>
  ⟨Z, F, ρ, r, mf ρ _ _ (fun x hx v F1 H1 g1 rp => ⟨Z, F1, ρ, r.grow g1, mg ρ _ _ (fun y hy u F2 H2 g2 rq => hs Z F2 H2 x y v u Q g2.b (rp.gr g2) rq
    (mo _ _ _ _ (fun d hd w F3 H3 g3 rep => hd w F3 H3 ((g1.trans g2).trans g3) rep) hy)) hx⟩) q⟩
theorem E.op {op : Operator} {r : R2} {o : O2} (ho : OpR X (binaryOp op) r) (hs : OpS X.K r o) (mo : Mono2 o) (ha : P X a f) (hb : P X b g) : E X (.BinOp a op b pos) (sOp o f g) :=
  ⟨sOp_mono mo ha.mono hb.mono, PE.weak (pe_op ho ha.run hb.run) (op_tp hs mo ha.mono hb.mono)⟩
theorem E.cmp {op : CmpOp} {r : R2} {o : O2} (ho : OpR X (compareOp op) r) (hs : OpS X.K r o) (mo : Mono2 o) (hm : behindInMarks op b = false) (ha : P X a f) (hb : P X b g) : E X (.Compare a [op] [b] pos) (sOp o f g) :=
  ⟨sOp_mono mo ha.mono hb.mono, PE.weak (pe_cmpR ho ha.run hb.run hm) (op_tp hs mo ha.mono hb.mono)⟩
theorem E.un {op : UnaryOp} {r : V → Hp → VK → Prop} {o : O1} (ho : UnR X (unaryOp op) r) (hs : UnS X.K r o) (mo : Mono1 o) (ha : P X a f) : E X (.UnaryOp op a pos) (sUn o f) :=
  ⟨sUn_mono mo ha.mono, PE.weak (pe_un ho ha.run) fun σ H Q ⟨Z, F, ρ, r, q⟩ => ⟨Z, F, ρ, r, ha.mono ρ _ _ (fun x hx v F1 H1 g1 rp => hs Z F1 H1 x v Q g1.b rp (mo _ _ _ (fun d hd w F3 H3 g3 rep => hd w F3 H3 (g1.trans g3) rep) hx)) q⟩⟩
/-- a bool's value as a test -/
def tV (f : SE) : ST := fun ρ Q => f ρ fun d => match d with
  | .bl b => Q b
  | _ => False
theorem tV_mono (mf : MonoE f) : MonoE (tV f) := fun ρ P Q h q => mf ρ _ _ (fun d hd => by
  cases d with
  | bl b => exact h b hd
  | _ => exact hd) q
theorem T.cmp {op : CmpOp} {r : R2} {o : O2} (ho : OpR X (compareOp op) r) (hs : OpS X.K r o) (mo : Mono2 o) (hm : behindInMarks op b = false) (ha : P X a f) (hb : P X b g) : T X (.Compare a [op] [b] pos) (tV (sOp o f g)) :=
  ⟨tV_mono (sOp_mono mo ha.mono hb.mono), PT.weak (pt_cmpR ho ha.run hb.run hm) fun σ H Q ⟨Z, F, ρ, r, q⟩ => op_tp hs mo ha.mono hb.mono σ H _ ⟨Z, F, ρ, r, sOp_mono mo ha.mono hb.mono ρ _ _ (fun d hd v F' H' g rep => by
    cases d with
    | bl b => exact ⟨b, rep, hd F' H' g⟩
    | _ => exact hd.elim) q⟩⟩
theorem T.val (h : E X e f) (he : ∀ whole, isTrue e X.env whole = (do let v ← whole; standAt e.pos; holding [v] (truthy v)) := by intro _; rfl) : T X e (tV f) :=
  ⟨tV_mono h.mono, PT.weak (pt_val h.run he) fun σ H Q ⟨Z, F, ρ, r, q⟩ => ⟨Z, F, ρ, r, h.mono ρ _ _ (fun d hd v F' H' g rep => by
    cases d with
    | bl b => exact ⟨b, rep, hd F' H' g⟩
    | _ => exact hd.elim) q⟩⟩

/-! ### and, or, not -/
def br (b : Bool) (p q : Prop) : Prop := match b with
  | true => p
  | false => q
theorem br_imp {b : Bool} {p q p' q' : Prop} (h : br b p q) (h1 : p → p') (h2 : q → q') : br b p' q' := by
  cases b with
  | true => exact h1 h
  | false => exact h2 h
theorem br_ite {b : Bool} {p q : Prop} (h : br b p q) : if b = true then p else q := by
  cases b with
  | true => rw [if_pos rfl]; exact h
  | false => rw [if_neg (by decide)]; exact h
def andT (f g : ST) : ST := fun ρ Q => f ρ fun b => br b (g ρ Q) (Q false)
def orT (f g : ST) : ST := fun ρ Q => f ρ fun b => br b (Q true) (g ρ Q)
def notT (f : ST) : ST := fun ρ Q => f ρ fun b => Q (!b)
theorem andT_mono {f g : ST} (mf : MonoE f) (mg : MonoE g) : MonoE (andT f g) := fun ρ P Q h q => mf ρ _ _ (fun b hb => br_imp hb (fun z => mg ρ _ _ h z) (h _)) q
theorem orT_mono {f g : ST} (mf : MonoE f) (mg : MonoE g) : MonoE (orT f g) := fun ρ P Q h q => mf ρ _ _ (fun b hb => br_imp hb (h _) (fun z => mg ρ _ _ h z)) q
theorem Tw.and1 {f : ST} (ha : T X a f) : Tw X (.BoolOp .And [a] pos) f := ⟨ha.mono, pw_and1 ha.run⟩
theorem Tw.or1 {f : ST} (ha : T X a f) : Tw X (.BoolOp .Or [a] pos) f := ⟨ha.mono, pw_or1 ha.run⟩
variable {rest : List Expr}
theorem Tw.and {f g : ST} (ha : T X a f) (hb : Tw X (.BoolOp .And (b :: rest) pos) g) : Tw X (.BoolOp .And (a :: b :: rest) pos) (andT f g) :=
  ⟨andT_mono ha.mono hb.mono, PW.weak (pw_and ha.run hb.run) fun σ H Q ⟨Z, F, ρ, r, q⟩ => ⟨Z, F, ρ, r, ha.mono ρ _ _ (fun b hb' F' H' g1 => br_ite (br_imp hb' (fun z => ⟨Z, F', ρ, r.grow g1, hb.mono ρ _ _ (fun c hc F2 H2 g2 => hc F2 H2 (g1.trans g2)) z⟩) (fun z => z F' H' g1))) q⟩⟩
theorem Tw.or {f g : ST} (ha : T X a f) (hb : Tw X (.BoolOp .Or (b :: rest) pos) g) : Tw X (.BoolOp .Or (a :: b :: rest) pos) (orT f g) :=
  ⟨orT_mono ha.mono hb.mono, PW.weak (pw_or ha.run hb.run) fun σ H Q ⟨Z, F, ρ, r, q⟩ => ⟨Z, F, ρ, r, ha.mono ρ _ _ (fun b hb' F' H' g1 => br_ite (br_imp hb' (fun z => z F' H' g1) (fun z => ⟨Z, F', ρ, r.grow g1, hb.mono ρ _ _ (fun c hc F2 H2 g2 => hc F2 H2 (g1.trans g2)) z⟩))) q⟩⟩
theorem Tw.t {f : ST} (h : Tw X e f) : T X e f := ⟨h.mono, h.run.pt⟩
theorem T.not {f : ST} (ha : T X a f) : T X (.UnaryOp .Not a pos) (notT f) := ⟨fun ρ P Q h q => ha.mono ρ _ _ (fun b hb => h _ hb) q, PT.weak (pt_not ha.run) fun σ H Q ⟨Z, F, ρ, r, q⟩ => ⟨Z, F, ρ, r, ha.mono ρ _ _ (fun b hb F' H' g => hb F' H' g) q⟩⟩
/-- .. as values (bools) -/
def vB (f : ST) : SE := fun ρ Q => f ρ fun b => Q (.bl b)
theorem vB_mono {f : ST} (mf : MonoE f) : MonoE (vB f) := fun ρ P Q h q => mf ρ _ _ (fun b hb => h _ hb) q
/-- an expression whose value is a bool -/
structure B (X : Cx) (e : Expr) (f : ST) : Prop where
  mono : MonoE f
  run : PE X e (TEof X.K (vB f))
theorem B.of {f : SE} (h : E X e f) : B X e (tV f) := ⟨tV_mono h.mono, PE.weak h.run fun σ H Q ⟨Z, F, ρ, r, q⟩ => ⟨Z, F, ρ, r, h.mono ρ _ _ (fun d hd v F' H' g rep => by
    cases d with
    | bl b => exact hd v F' H' g rep
    | _ => exact hd.elim) q⟩⟩
theorem B.val {f : ST} (h : B X e f) : E X e (vB f) := ⟨vB_mono h.mono, h.run⟩
theorem B.one {f : ST} {op} (h : B X a f) : B X (.BoolOp op [a] pos) f := ⟨h.mono, pe_one h.run⟩
theorem B.and {f g : ST} (ha : B X a f) (hb : B X (.BoolOp .And (b :: rest) pos) g) : B X (.BoolOp .And (a :: b :: rest) pos) (andT f g) :=
  ⟨andT_mono ha.mono hb.mono, PE.weak (pe_and ha.run hb.run) fun σ H Q ⟨Z, F, ρ, r, q⟩ => ⟨Z, F, ρ, r, ha.mono ρ _ _ (fun b hb' v F' H' g1 rep => ⟨b, rep, br_ite (br_imp hb' (fun z => ⟨Z, F', ρ, r.grow g1, hb.mono ρ _ _ (fun c hc v F2 H2 g2 rep => hc v F2 H2 (g1.trans g2) rep) z⟩) (fun z => z _ F' H' g1 rfl))⟩) q⟩⟩
theorem B.or {f g : ST} (ha : B X a f) (hb : B X (.BoolOp .Or (b :: rest) pos) g) : B X (.BoolOp .Or (a :: b :: rest) pos) (orT f g) :=
  ⟨orT_mono ha.mono hb.mono, PE.weak (pe_or ha.run hb.run) fun σ H Q ⟨Z, F, ρ, r, q⟩ => ⟨Z, F, ρ, r, ha.mono ρ _ _ (fun b hb' v F' H' g1 rep => ⟨b, rep, br_ite (br_imp hb' (fun z => z _ F' H' g1 rfl) (fun z => ⟨Z, F', ρ, r.grow g1, hb.mono ρ _ _ (fun c hc v F2 H2 g2 rep => hc v F2 H2 (g1.trans g2) rep) z⟩))⟩) q⟩⟩
theorem B.not {f : ST} (ha : B X a f) : B X (.UnaryOp .Not a pos) (notT f) := ⟨fun ρ P Q h q => ha.mono ρ _ _ (fun b hb => h _ hb) q, PE.weak (pe_not ha.run) fun σ H Q ⟨Z, F, ρ, r, q⟩ => ⟨Z, F, ρ, r, ha.mono ρ _ _ (fun b hb v F' H' g rep => ⟨b, rep, hb _ F' H' g rfl⟩) q⟩⟩
def ifE (t : ST) (f g : SE) : SE := fun ρ Q => t ρ fun b => br b (f ρ Q) (g ρ Q)
theorem E.ifx {t : ST} (ht : T X c t) (ha : E X a f) (hb : E X b g) : E X (.IfExp c a b pos) (ifE t f g) :=
  ⟨fun ρ P Q h q => ht.mono ρ _ _ (fun b z => br_imp z (ha.mono ρ _ _ h) (hb.mono ρ _ _ h)) q, PE.weak (pe_ifExp ht.run ha.run hb.run) fun σ H Q ⟨Z, F, ρ, r, q⟩ => ⟨Z, F, ρ, r, ht.mono ρ _ _ (fun b z F' H' g1 => br_ite (br_imp z
    (fun z => ⟨Z, F', ρ, r.grow g1, ha.mono ρ _ _ (fun d hd v F2 H2 g2 rep => hd v F2 H2 (g1.trans g2) rep) z⟩) (fun z => ⟨Z, F', ρ, r.grow g1, hb.mono ρ _ _ (fun d hd v F2 H2 g2 rep => hd v F2 H2 (g1.trans g2) rep) z⟩))) q⟩⟩
/-- a < b < c -/
def chE (o o' : O2) (f g k : SE) : ST := fun ρ Q => f ρ fun x => g ρ fun y => o x y fun d => match d with
  | .bl b => br b (k ρ fun z => o' y z fun d' => match d' with
    | .bl b' => Q b'
    | _ => False) (Q false)
  | _ => False

/-! ### argument lists, displays -/
def nilA : SA := fun _ Q => Q []
def consA (f : SE) (g : SA) : SA := fun ρ Q => f ρ fun x => g ρ fun xs => Q (x :: xs)
theorem A.nil : A X [] nilA := ⟨fun _ _ _ h q => h _ q, PA.weak pa_nil fun σ H Q ⟨Z, F, ρ, r, q⟩ => q [] F H (Gr.refl r.base) rfl, fun _ _ q => ⟨rfl, q⟩⟩
theorem A.cons {es : List Expr} {g : SA} (ha : E X e f) (hr : A X es g) (hs : starEach (e :: es) X.env = (false, eval e X.env) :: starEach es X.env := by rfl) : A X (e :: es) (consA f g) :=
  ⟨fun ρ P Q h q => ha.mono ρ _ _ (fun x hx => hr.mono ρ _ _ (fun xs hxs => h _ hxs) hx) q, PA.weak (pa_cons ha.run hr.run hs) fun σ H Q ⟨Z, F, ρ, r, q⟩ => ⟨Z, F, ρ, r, ha.mono ρ _ _ (fun x hx v F1 H1 g1 rep => ⟨Z, F1, ρ, r.grow g1, hr.mono ρ _ _ (fun xs hxs vs F2 H2 g2 reps => hxs (v :: vs) F2 H2 (g1.trans g2) ⟨v, vs, rfl, Rep.ex g2.f _ _ rep, reps⟩) hx⟩) q⟩,
   fun ρ Q q => ha.mono ρ _ _ (fun x hx => hr.mono ρ _ _ (fun xs hxs => ⟨by rw [List.length_cons, List.length_cons, hxs.1], hxs.2⟩) (hr.cnt ρ _ hx)) q⟩
def tupE (f : SA) : SE := fun ρ Q => f ρ fun ds => ds.length ≤ big ∧ Q (.tup ds)
def lstF (f : SA) : SA := fun ρ Q => f ρ fun ds => ds.length ≤ big ∧ Q ds
theorem E.tup {es : List Expr} {f : SA} {x1} (h : A X es f) : E X (.Tuple es x1 pos) (tupE f) :=
  ⟨fun ρ P Q hpq q => h.mono ρ _ _ (fun ds hd => ⟨hd.1, hpq _ hd.2⟩) q, PE.weak (pe_tup h.run) fun σ H Q ⟨Z, F, ρ, r, q⟩ => ⟨Z, F, ρ, r, h.mono ρ _ _ (fun ds hd vs F1 H1 g1 reps => ⟨by rw [reps.length]; exact big_line hd.1, fun p hp =>
    hd.2 (.ref p) _ _ (g1.trans (g1.b.lay hp)) ⟨p, vs, rfl, .inl (.inl upd_same), Reps.ex (Ex.upd (g1.b.fh.none hp)) _ _ reps⟩⟩) q⟩⟩
theorem own_ne {K : Kf} {Z : Zs} {F H : Hp} {ρ : REnv} {σ : L2.St} (r : R K Z F ρ σ H) {p : Addr} (hp : H p = none) : ∀ (i : Nat) (ds : List D), ρ[i]? = some (some (Slot.own ds)) → σ[i]? ≠ some (some (V.ref p)) := fun i ds e z => by
  obtain ⟨a, vs, e1, e2, _⟩ := r.slot i _ e
  rw [z] at e1
  cases e1
  rw [hp] at e2
  cases e2
theorem fresh_of {K : Kf} {Z : Zs} {F H F1 H1 : Hp} {ρ : REnv} {σ : L2.St} (r : R K Z F ρ σ H) (g1 : Gr K Z F H F1 H1) {p : Addr} (hp : H1 p = none) : Fresh Z F1 ρ σ p :=
  ⟨g1.b.fh.none hp, g1.b.h0 hp, g1.b.norow hp, own_ne (r.grow g1) hp⟩
theorem back_none {K : Kf} {Z : Zs} {F H F1 H1 : Hp} (b : Base K Z F H) (g1 : Gr K Z F H F1 H1) {p : Addr} (hp : H1 p = none) : H p = none := by
  cases e : H p with
  | none => rfl
  | some o => rw [g1.h p o (g1.b.norow hp) e] at hp; cases hp
theorem F.lst {es : List Expr} {f : SA} (h : A X es f) : F X (.List es pos) (lstF f) :=
  ⟨fun ρ P Q hpq q => h.mono ρ _ _ (fun ds hd => ⟨hd.1, hpq _ hd.2⟩) q, PE.weak (pe_lst h.run) fun σ H Q ⟨Z, F, ρ, r, q⟩ => ⟨Z, F, ρ, r, h.mono ρ _ _ (fun ds hd vs F1 H1 g1 reps => ⟨by rw [reps.length]; exact big_line hd.1, fun p hp =>
    hd.2 p vs F1 _ (g1.trans (g1.b.lay0 hp)) (back_none r.base g1 hp) (fresh_of r g1 hp) upd_same reps⟩) q⟩⟩

/-! ### chains of two comparisons -/
def bOf (Q : Bool → Prop) (d : D) : Prop := match d with
  | .bl b => Q b
  | _ => False
theorem bOf_mono {P Q : Bool → Prop} (h : ∀ b, P b → Q b) : ∀ d, bOf P d → bOf Q d := fun d q => by
  cases d with
  | bl b => exact h b q
  | _ => exact q.elim
def chT (o o' : O2) (f g k : SE) : ST := fun ρ Q => f ρ fun x => g ρ fun y => o x y (bOf fun b => br b (k ρ fun z => o' y z (bOf Q)) (Q false))
theorem chT_mono {o o' : O2} (mo : Mono2 o) (mo' : Mono2 o') (mf : MonoE f) (mg : MonoE g) (mk : MonoE k) : MonoE (chT o o' f g k) := fun ρ P Q h q =>
  mf ρ _ _ (fun x hx => mg ρ _ _ (fun y hy => mo x y _ _ (bOf_mono fun b hb => br_imp hb (fun z => mk ρ _ _ (fun z hz => mo' y z _ _ (bOf_mono h) hz) z) (h _)) hy) hx) q
theorem ch_tp {K : Kf} {r r' : R2} {o o' : O2} (hs : OpS K r o) (hs' : OpS K r' o') (mo : Mono2 o) (mo' : Mono2 o') (mf : MonoE f) (mg : MonoE g) (mk : MonoE k) :
    ∀ σ H Q, TEof K (vB (chT o o' f g k)) σ H Q → tChain r r' (TPof K f) (TPof K g) (TPof K k) σ H Q := fun σ H Q ⟨Z, F, ρ, r, q⟩ =>
  ⟨Z, F, ρ, r, mf ρ _ _ (fun x hx v F1 H1 g1 rp => ⟨Z, F1, ρ, r.grow g1, mg ρ _ _ (fun y hy u F2 H2 g2 rq => hs Z F2 H2 x y v u _ g2.b (rp.gr g2) rq
    (mo _ _ _ _ (fun d hd w F3 H3 g3 rep => by
      cases d with
      | bl b => exact ⟨b, rep, br_ite (br_imp hd (fun z => ⟨Z, F3, ρ, r.grow ((g1.trans g2).trans g3), mk ρ _ _ (fun z hz w' F4 H4 g4 rz => hs' Z F4 H4 y z u w' Q g4.b ((rq.gr g3).gr g4) rz (mo' _ _ _ _ (fun d' hd' w2 F5 H5 g5 rep' => by
          cases d' with
          | bl b' => exact hd' w2 F5 H5 ((((g1.trans g2).trans g3).trans g4).trans g5) rep'
          | _ => exact hd'.elim) hz)) z⟩) (fun z => z _ F3 H3 ((g1.trans g2).trans g3) rfl))⟩
      | _ => exact hd.elim) hy)) hx⟩) q⟩
theorem B.chain {op op' : CmpOp} {r r' : R2} {o o' : O2} (ho : OpR X (compareOp op) r) (ho' : OpR X (compareOp op') r') (hs : OpS X.K r o) (hs' : OpS X.K r' o') (mo : Mono2 o) (mo' : Mono2 o') (h1 : behindInMarks op b = false) (h2 : behindInMarks op' c = false)
    (ha : P X a f) (hb : P X b g) (hc : P X c k) (hp : PE X (.Compare a [op, op'] [b, c] pos) (tChain r r' (TPof X.K f) (TPof X.K g) (TPof X.K k))) : B X (.Compare a [op, op'] [b, c] pos) (chT o o' f g k) :=
  ⟨chT_mono mo mo' ha.mono hb.mono hc.mono, PE.weak hp (ch_tp hs hs' mo mo' ha.mono hb.mono hc.mono)⟩
theorem T.chain {op op' : CmpOp} {r r' : R2} {o o' : O2} (hs : OpS X.K r o) (hs' : OpS X.K r' o') (mo : Mono2 o) (mo' : Mono2 o')
    (ha : P X a f) (hb : P X b g) (hc : P X c k) (hp : PT X (.Compare a [op, op'] [b, c] pos) (tTest (tChain r r' (TPof X.K f) (TPof X.K g) (TPof X.K k)))) : T X (.Compare a [op, op'] [b, c] pos) (chT o o' f g k) :=
  ⟨chT_mono mo mo' ha.mono hb.mono hc.mono, PT.weak hp fun σ H Q ⟨Z, F, ρ, r, q⟩ => ch_tp hs hs' mo mo' ha.mono hb.mono hc.mono σ H _ ⟨Z, F, ρ, r, chT_mono mo mo' ha.mono hb.mono hc.mono ρ _ _ (fun b hb v F' H' g1 rep => ⟨b, rep, hb F' H' g1⟩) q⟩⟩
/-- a bool-valued expression as a test -/
theorem T.ofB {f : ST} (h : B X e f) (he : ∀ whole, isTrue e X.env whole = (do let v ← whole; standAt e.pos; holding [v] (truthy v)) := by intro _; rfl) : T X e f :=
  ⟨h.mono, PT.weak (pt_val h.run he) fun σ H Q ⟨Z, F, ρ, r, q⟩ => ⟨Z, F, ρ, r, h.mono ρ _ _ (fun b hb v F' H' g rep => ⟨b, rep, hb F' H' g⟩) q⟩⟩

/-! ### arguments that are only looked at -/
inductive RepPs (K : Kf) (rw : Option Addr) (F H : Hp) : List D → List V → Prop
  | nil : RepPs K rw F H [] []
  | cons {d : D} {v : V} {ds : List D} {vs : List V} : RepP K rw F H d v → RepPs K rw F H ds vs → RepPs K rw F H (d :: ds) (v :: vs)
def TQof (K : Kf) (f : SA) : TA := fun σ H Q => ∃ Z F ρ, R K Z F ρ σ H ∧ f ρ fun ds => ∀ vs F' H', Gr K Z F H F' H' → RepPs K Z.rw F' H' ds vs → Q vs H'
structure Ap (X : Cx) (es : List Expr) (f : SA) : Prop where
  mono : MonoE f
  run : PA X es (TQof X.K f)
theorem Ap.nil : Ap X [] nilA := ⟨fun _ _ _ h q => h _ q, PA.weak pa_nil fun σ H Q ⟨Z, F, ρ, r, q⟩ => q [] F H (Gr.refl r.base) .nil⟩
theorem Ap.cons {es : List Expr} {g : SA} (ha : P X e f) (hr : Ap X es g) (hs : starEach (e :: es) X.env = (false, eval e X.env) :: starEach es X.env := by rfl) : Ap X (e :: es) (consA f g) :=
  ⟨fun ρ P Q h q => ha.mono ρ _ _ (fun x hx => hr.mono ρ _ _ (fun xs hxs => h _ hxs) hx) q, PA.weak (pa_cons ha.run hr.run hs) fun σ H Q ⟨Z, F, ρ, r, q⟩ => ⟨Z, F, ρ, r, ha.mono ρ _ _ (fun x hx v F1 H1 g1 rep => ⟨Z, F1, ρ, r.grow g1, hr.mono ρ _ _ (fun xs hxs vs F2 H2 g2 reps => hxs (v :: vs) F2 H2 (g1.trans g2) (.cons (rep.gr g2) reps)) hx⟩) q⟩⟩
abbrev OC := List D → (D → Prop) → Prop
def MonoC (o : OC) : Prop := ∀ x (P Q : D → Prop), (∀ d, P d → Q d) → o x P → o x Q
def CallS (K : Kf) (r : List V → Hp → VK → Prop) (o : OC) : Prop := ∀ (Z : Zs) (F H : Hp) (ds : List D) (vs : List V) (Q : VK), Base K Z F H → RepPs K Z.rw F H ds vs →
  (o ds fun d => ∀ v F' H', Gr K Z F H F' H' → Rep K Z.rw F' d v → Q v H') → r vs H Q
def callE (o : OC) (f : SA) : SE := fun ρ Q => f ρ fun ds => o ds Q
theorem callE_mono {o : OC} {f : SA} (mo : MonoC o) (mf : MonoE f) : MonoE (callE o f) := fun ρ P Q h q => mf ρ _ _ (fun x hx => mo x _ _ h hx) q
theorem cb_tp {K : Kf} {r : List V → Hp → VK → Prop} {o : OC} {f : SA} (hs : CallS K r o) (mo : MonoC o) (mf : MonoE f) : ∀ σ H Q, TEof K (callE o f) σ H Q → tCB r (TQof K f) σ H Q := fun σ H Q ⟨Z, F, ρ, r, q⟩ =>
  ⟨Z, F, ρ, r, mf ρ _ _ (fun ds hd vs F1 H1 g1 rp => hs Z F1 H1 ds vs Q g1.b rp (mo _ _ _ (fun d hd w F3 H3 g3 rep => hd w F3 H3 (g1.trans g3) rep) hd)) q⟩
theorem E.callB {r : List V → Hp → VK → Prop} {o : OC} {f : SA} {es : List Expr} (hs : CallS X.K r o) (mo : MonoC o) (ha : Ap X es f) (h : PE X e (tCB r (TQof X.K f))) : E X e (callE o f) :=
  ⟨callE_mono mo ha.mono, PE.weak h (cb_tp hs mo ha.mono)⟩
/-- a call that makes a new list -/
abbrev OF := List D → (List D → Prop) → Prop
def MonoF (o : OF) : Prop := ∀ x (P Q : List D → Prop), (∀ d, P d → Q d) → o x P → o x Q
def CallF (K : Kf) (r : List V → Hp → VK → Prop) (o : OF) : Prop := ∀ (Z : Zs) (F H : Hp) (ds : List D) (vs : List V) (Q : VK), Base K Z F H → RepPs K Z.rw F H ds vs →
  (o ds fun es => ∀ p us, H p = none → Reps K Z.rw F es us → Q (.ref p) (upd H p (.lst us))) → r vs H Q
def callF (o : OF) (f : SA) : SA := fun ρ Q => f ρ fun ds => o ds Q
theorem F.callB {r : List V → Hp → VK → Prop} {o : OF} {f : SA} {es : List Expr} (hs : CallF X.K r o) (mo : MonoF o) (ha : Ap X es f) (h : PE X e (tCB r (TQof X.K f))) : F X e (callF o f) :=
  ⟨fun ρ P Q h q => ha.mono ρ _ _ (fun x hx => mo x _ _ h hx) q, PE.weak h fun σ H Q ⟨Z, F, ρ, r, q⟩ => ⟨Z, F, ρ, r, ha.mono ρ _ _ (fun ds hd vs F1 H1 g1 rp => hs Z F1 H1 ds vs Q g1.b rp (mo _ _ _ (fun es hd p us hp reps =>
    hd p us F1 _ (g1.trans (g1.b.lay0 hp)) (back_none r.base g1 hp) (fresh_of r g1 hp) upd_same reps) hd)) q⟩⟩
/-- a two-place operation that makes a new list -/
abbrev OF2 := D → D → (List D → Prop) → Prop
def MonoF2 (o : OF2) : Prop := ∀ x y (P Q : List D → Prop), (∀ d, P d → Q d) → o x y P → o x y Q
def OpF (K : Kf) (r : R2) (o : OF2) : Prop := ∀ (Z : Zs) (F H : Hp) (dx dy : D) (x y : V) (Q : VK), Base K Z F H → RepP K Z.rw F H dx x → RepP K Z.rw F H dy y →
  (o dx dy fun es => ∀ p us, H p = none → Reps K Z.rw F es us → Q (.ref p) (upd H p (.lst us))) → r x y H Q
def opF (o : OF2) (f g : SE) : SA := fun ρ Q => f ρ fun x => g ρ fun y => o x y Q
theorem F.op {op : Operator} {r : R2} {o : OF2} (ho : OpR X (binaryOp op) r) (hs : OpF X.K r o) (mo : MonoF2 o) (ha : P X a f) (hb : P X b g) : F X (.BinOp a op b pos) (opF o f g) :=
  ⟨fun ρ P Q h q => ha.mono ρ _ _ (fun x hx => hb.mono ρ _ _ (fun y hy => mo x y _ _ h hy) hx) q, PE.weak (pe_op ho ha.run hb.run) fun σ H Q ⟨Z, F, ρ, r, q⟩ => ⟨Z, F, ρ, r, ha.mono ρ _ _ (fun x hx v F1 H1 g1 rp => ⟨Z, F1, ρ, r.grow g1, hb.mono ρ _ _ (fun y hy u F2 H2 g2 rq =>
    hs Z F2 H2 x y v u Q g2.b (rp.gr g2) rq (mo _ _ _ _ (fun es hd p us hp reps => hd p us F2 _ ((g1.trans g2).trans (g2.b.lay0 hp)) (back_none r.base (g1.trans g2) hp) (fresh_of r (g1.trans g2) hp) upd_same reps) hy)) hx⟩) q⟩⟩

/-! ### subscripts, slices -/
theorem Reps.at {K : Kf} {rw : Option Addr} {F : Hp} {ds : List D} {vs : List V} {i : Int} {d : D} (h : Reps K rw F ds vs) (e : atI ds i = some d) : ∃ v, atI vs i = some v ∧ Rep K rw F d v := by
  unfold atI at *
  rw [h.length]
  cases q : ixN ds.length i with
  | none => rw [q] at e; cases e
  | some j =>
    rw [q] at e
    exact h.get (show ds[j]? = some d from e)
def ixO : O2 := fun x y Q => match x, y with
  | .tup ds, .int i => (match atI ds i with
    | some d => Q d
    | none => False)
  | .lst ds, .int i => (match atI ds i with
    | some d => Q d
    | none => False)
  | _, _ => False
theorem ixO_mono : Mono2 ixO := fun x y P Q h q => by
  unfold ixO at *
  split at q
  · split at q
    · exact h _ q
    · exact q.elim
  · split at q
    · exact h _ q
    · exact q.elim
  · exact q.elim
theorem ixO_s {K : Kf} : OpS K (rIx K) ixO := fun Z F H dx dy x y Q b rx ry q => by
  unfold ixO at q
  split at q
  · rename_i ds i
    split at q
    · rename_i d hd
      obtain ⟨a, vs, rfl, e1, e2, _⟩ := rx.tup b
      obtain ⟨v, e3, e4⟩ := e2.at hd
      exact .inr (.inl ⟨a, vs, i, v, rfl, ry.int, e1, e3, q v F H (Gr.refl b) e4⟩)
    · exact q.elim
  · rename_i ds i
    split at q
    · rename_i d hd
      obtain ⟨a, vs, rfl, e1, e2, _⟩ := rx.lst b
      obtain ⟨v, e3, e4⟩ := e2.at hd
      exact .inl ⟨a, vs, i, v, rfl, ry.int, SqL.of e1, e3, q v F H (Gr.refl b) e4⟩
    · exact q.elim
  · exact q.elim
theorem E.ix (ha : P X a f) (hb : P X b g) (hs : PlainIx b) : E X (.Subscript a b pos) (sOp ixO f g) :=
  ⟨sOp_mono ixO_mono ha.mono hb.mono, PE.weak (pe_ix ix_seq ha.run hb.run hs) (op_tp ixO_s ixO_mono ha.mono hb.mono)⟩
abbrev SO := REnv → (Option Int → Prop) → Prop
def TOof (K : Kf) (f : SO) : TO := fun σ H Q => ∃ Z F ρ, R K Z F ρ σ H ∧ f ρ fun o => ∀ F' H', Gr K Z F H F' H' → Q o H'
structure O (X : Cx) (e : Option Expr) (f : SO) : Prop where
  mono : MonoE f
  run : PO X e (TOof X.K f)
theorem PO.weak {e : Option Expr} {t t' : TO} (h : PO X e t) (hw : ∀ σ H Q, t' σ H Q → t σ H Q) : PO X e t' := ⟨fun pins s σ H Q I q => h.run pins s σ H Q I (hw σ H Q q)⟩
def noO : SO := fun _ Q => Q none
def intOf (Q : Option Int → Prop) (d : D) : Prop := match d with
  | .int i => Q (some i)
  | _ => False
def someO (f : SE) : SO := fun ρ Q => f ρ (intOf Q)
theorem O.none : O X Option.none noO := ⟨fun _ _ _ h q => h _ q, PO.weak po_none fun σ H Q ⟨Z, F, ρ, r, q⟩ => q F H (Gr.refl r.base)⟩
theorem O.some (h : P X e f) : O X (Option.some e) (someO f) := ⟨fun ρ P Q hpq q => h.mono ρ _ _ (fun d hd => by
    cases d with
    | int i => exact hpq _ hd
    | _ => exact hd.elim) q, PO.weak (po_some h.run) fun σ H Q ⟨Z, F, ρ, r, q⟩ => ⟨Z, F, ρ, r, h.mono ρ _ _ (fun d hd v F' H' g rep => by
    cases d with
    | int i => exact ⟨i, rep.int, hd F' H' g⟩
    | _ => exact hd.elim) q⟩⟩
def cutD (xs : List D) (lo hi : Option Int) : List D := (xs.drop (HT.sIx xs.length 0 lo)).take (HT.sIx xs.length xs.length hi - HT.sIx xs.length 0 lo)
theorem Reps.cut {K : Kf} {rw : Option Addr} {F : Hp} {ds : List D} {vs : List V} (h : Reps K rw F ds vs) (lo hi : Option Int) : Reps K rw F (cutD ds lo hi) (cutV vs lo hi) := by
  unfold cutD cutV
  rw [h.length]
  exact Reps.take _ (Reps.drop _ h)
theorem cut_whole {α : Type} {xs : List α} {lo hi : Option Int} (h : HT.sIx xs.length 0 lo = 0 ∧ HT.sIx xs.length xs.length hi = xs.length) : (xs.drop (HT.sIx xs.length 0 lo)).take (HT.sIx xs.length xs.length hi - HT.sIx xs.length 0 lo) = xs := by
  rw [h.1, h.2]; simp
def slO (x : D) (lo hi : Option Int) (Q : D → Prop) : Prop := match x with
  | .tup ds => Q (.tup (cutD ds lo hi))
  | .lst ds => Q (.lst (cutD ds lo hi))
  | _ => False
def slE (f : SE) (l h : SO) : SE := fun ρ Q => f ρ fun x => l ρ fun lo => h ρ fun hi => slO x lo hi Q
theorem slO_mono {x : D} {lo hi : Option Int} {P Q : D → Prop} (h : ∀ d, P d → Q d) (q : slO x lo hi P) : slO x lo hi Q := by
  unfold slO at *
  split at q
  · exact h _ q
  · exact h _ q
  · exact q.elim
theorem E.sl {lo hi : Option Expr} {l h : SO} {p2 : Pos} (ha : P X e f) (hl : O X lo l) (hh : O X hi h) : E X (.Subscript e (.Slice lo hi none p2) pos) (slE f l h) :=
  ⟨fun ρ P Q hpq q => ha.mono ρ _ _ (fun x hx => hl.mono ρ _ _ (fun o ho => hh.mono ρ _ _ (fun u hu => slO_mono hpq hu) ho) hx) q,
   PE.weak (pe_slice (SlR.or sl_list sl_tupA) ha.run hl.run hh.run) fun σ H Q ⟨Z, F, ρ, r, q⟩ => ⟨Z, F, ρ, r, ha.mono ρ _ _ (fun x hx v F1 H1 g1 rp => ⟨Z, F1, ρ, r.grow g1, hl.mono ρ _ _ (fun o ho F2 H2 g2 => ⟨Z, F2, ρ, (r.grow g1).grow g2, hh.mono ρ _ _ (fun u hu F3 H3 g3 => by
     have gg := (g1.trans g2).trans g3
     have rp3 := (rp.gr g2).gr g3
     unfold slO at hu
     split at hu
     · obtain ⟨a, vs, rfl, e1, e2, e3⟩ := rp3.tup g3.b
       refine .inr ⟨a, vs, rfl, e1, fun hw => hu _ F3 H3 gg ⟨a, vs, rfl, e3, ?_⟩, fun _ p hp => hu _ _ _ (gg.trans (g3.b.lay hp)) ⟨p, _, rfl, .inl (.inl upd_same), Reps.ex (Ex.upd (g3.b.fh.none hp)) _ _ (e2.cut o u)⟩⟩
       have hw' := hw
       rw [e2.length] at hw'
       have : cutD _ o u = _ := cut_whole hw'
       rw [this]; exact e2
     · obtain ⟨a, vs, rfl, e1, e2, _⟩ := rp3.lst g3.b
       exact .inl ⟨a, vs, rfl, SqL.of e1, fun p hp => hu _ _ _ (gg.trans (g3.b.lay hp)) ⟨p, _, rfl, upd_same, Reps.ex (Ex.upd (g3.b.fh.none hp)) _ _ (e2.cut o u)⟩⟩
     · exact hu.elim) ho⟩) hx⟩) q⟩⟩

/-! ### calls of defs -/
def spOf (K : Kf) (n : Nat) (G : OC) : Sp := fun vs H Q _ => vs.length = n ∧ ∃ rw F ds, Base K ⟨rw, H, F⟩ F H ∧ Reps K rw F ds vs ∧ G ds fun d => ∀ v F' H', Base K ⟨rw, H, F⟩ F' H' → Rep K rw F' d v → Q v H'
theorem base_in {K : Kf} {Z : Zs} {F H : Hp} (b : Base K Z F H) : Base K ⟨Z.rw, H, F⟩ F H := ⟨b.fh, Ex.refl _, ExR.refl _ _, fun _ h => .inl h, b.row, b.frow⟩
theorem base_out {K : Kf} {Z : Zs} {F H F' H' : Hp} (b : Base K Z F H) (c : Base K ⟨Z.rw, H, F⟩ F' H') : Gr K Z F H F' H' :=
  ⟨c.f0, c.hh, ⟨c.fh, b.f0.trans c.f0, b.hh.trans c.hh, fun a h => by
    rcases c.new a h with q | q
    · exact b.new a q
    · exact .inr (b.h0 q), c.row, c.frow⟩, c.new⟩
theorem E.call {es : List Expr} {fa : SA} {G : OC} {n : Nat} (mo : MonoC G) (ha : A X es fa) (hn : es.length = n) (h : PA X es (TAof X.K fa) → PE X e (tCall (spOf X.K n G) [] E0 (TAof X.K fa))) : E X e (callE G fa) :=
  ⟨callE_mono mo ha.mono, PE.weak (h ha.run) fun σ H Q ⟨Z, F, ρ, r, q⟩ => ⟨Z, F, ρ, r, ha.mono ρ _ _ (fun ds hd vs F1 H1 g1 reps => by
    show spOf X.K n G (vs ++ []) H1 Q E0
    rw [List.append_nil]
    exact ⟨reps.length.trans (hd.1.trans hn), Z.rw, F1, ds, base_in g1.b, reps, mo _ _ _ (fun d hd v F' H' b' rep => hd v F' H' (g1.trans (base_out g1.b b')) rep) hd.2⟩) (ha.cnt ρ _ q)⟩⟩
end

/-! ### statements -/
section
variable {X : Cx} {e a b c : Expr} {f g k : SE} {pos : Pos} {st : Stmt} {rest : List Stmt} {s t : SS}
def nextS : SS := fun ρ k => k.nx ρ
def seqS (s t : SS) : SS := fun ρ k => s ρ { k with nx := fun ρ' => t ρ' k }
theorem Ss.nil : Ss X [] nextS := ⟨fun ρ k l h q => h.1 _ q, PSs.weak pss_nil fun D σ H ⟨Z, F, ρ, r, q⟩ => q σ F H (Ex.refl _) r⟩
theorem seq_tp {K : Kf} {s t : SS} (ms : MonoS s) (mt : MonoS t) : ∀ D σ H, TSof K (seqS s t) D σ H → tSeq (TSof K s) (TSof K t) D σ H := fun D σ H ⟨Z, F, ρ, r, q⟩ =>
  ⟨Z, F, ρ, r, ms ρ { kOf K Z F D with nx := fun ρ' => t ρ' (kOf K Z F D) } _ ⟨fun ρ' h σ' F' H' e r' => ⟨Z, F', ρ', r', mt ρ' _ _ (kOf_ex e) h⟩, fun _ h => h, fun _ h => h, fun _ h => h⟩ q⟩
theorem seqS_mono (ms : MonoS s) (mt : MonoS t) : MonoS (seqS s t) := fun ρ k l h q => ms ρ { k with nx := fun ρ' => t ρ' k } _ ⟨fun ρ' z => mt ρ' _ _ h z, h.2.1, h.2.2.1, h.2.2.2⟩ q
theorem Ss.cons (h1 : S X st s) (h2 : Ss X rest t) : Ss X (st :: rest) (seqS s t) := ⟨seqS_mono h1.mono h2.mono, PSs.weak (pss_cons h1.run h2.run) (seq_tp h1.mono h2.mono)⟩
theorem Ss.one (h1 : S X st s) : Ss X [st] s := ⟨h1.mono, pss_one h1.run⟩
theorem kOf_gr {K : Kf} {Z : Zs} {F F' H H' : Hp} {D' : Ends} (g : Gr K Z F H F' H') : Kt.le (kOf K Z F D') (kOf K Z F' D') := kOf_ex g.f
def passS : SS := nextS
theorem S.pass : S X (.Pass pos) nextS := ⟨fun ρ k l h q => h.1 _ q, PS.weak ps_pass fun D σ H ⟨Z, F, ρ, r, q⟩ => q σ F H (Ex.refl _) r⟩
def brkS : SS := fun ρ k => k.bk ρ
def cntS : SS := fun ρ k => k.ct ρ
theorem S.brk : S X (.Break pos) brkS := ⟨fun ρ k l h q => h.2.2.1 _ q, PS.weak ps_break fun D σ H ⟨Z, F, ρ, r, q⟩ => q σ F H (Ex.refl _) r⟩
theorem S.cnt : S X (.Continue pos) cntS := ⟨fun ρ k l h q => h.2.2.2 _ q, PS.weak ps_continue fun D σ H ⟨Z, F, ρ, r, q⟩ => q σ F H (Ex.refl _) r⟩
def retS (f : SE) : SS := fun ρ k => f ρ k.rt
theorem S.ret (h : E X e f) : S X (.Return (some e) pos) (retS f) := ⟨fun ρ k l hk q => h.mono ρ _ _ hk.2.1 q, PS.weak (ps_ret h.run) fun D σ H ⟨Z, F, ρ, r, q⟩ => ⟨Z, F, ρ, r, h.mono ρ _ _ (fun d hd v F' H' g rep => hd v F' H' g.f g.b rep) q⟩⟩
def retNS : SS := fun _ k => k.rt .non
/-- a statement on a way that can't be -/
def noS : SS := fun _ _ => False
theorem S.no {t : TS} (h : PS X st t) (ht : ∀ D σ H, False → t D σ H) : S X st noS := ⟨fun _ _ _ _ q => q, PS.weak h fun D σ H ⟨_, _, _, _, q⟩ => q.elim⟩
def dropS (f : SE) : SS := fun ρ k => f ρ fun _ => k.nx ρ
theorem S.expr (h : E X e f) (hs : swapsWith e none pos.line X.env = pure false := by rfl) : S X (.Expr e pos) (dropS f) := ⟨fun ρ k l hk q => h.mono ρ _ _ (fun _ z => hk.1 _ z) q, PS.weak (ps_expr h.run hs) fun D σ H ⟨Z, F, ρ, r, q⟩ => ⟨Z, F, ρ, r, h.mono ρ _ _ (fun d hd v F' H' g rep => hd σ F' H' g.f (r.grow g)) q⟩⟩
def ifS (t : ST) (s u : SS) : SS := fun ρ k => t ρ fun b => br b (s ρ k) (u ρ k)
theorem S.ifs {tt : ST} {u : SS} {xs ys : List Stmt} (ht : T X c tt) (h1 : Ss X xs s) (h2 : Ss X ys u) : S X (.If c xs ys pos) (ifS tt s u) :=
  ⟨fun ρ k l hk q => ht.mono ρ _ _ (fun b z => br_imp z (h1.mono ρ _ _ hk) (h2.mono ρ _ _ hk)) q, PS.weak (ps_if ht.run h1.run h2.run) fun D σ H ⟨Z, F, ρ, r, q⟩ => ⟨Z, F, ρ, r, ht.mono ρ _ _ (fun b z F' H' g1 => br_ite (br_imp z
    (fun z => ⟨Z, F', ρ, r.grow g1, h1.mono ρ _ _ (kOf_gr g1) z⟩) (fun z => ⟨Z, F', ρ, r.grow g1, h2.mono ρ _ _ (kOf_gr g1) z⟩))) q⟩⟩

/-! ### stores -/
theorem R.setSh {K : Kf} {Z : Zs} {F H : Hp} {ρ : REnv} {σ : L2.St} (r : R K Z F ρ σ H) (i : Nat) {d : D} {v : V} (h : Rep K Z.rw F d v) : R K Z F (ρ.set i (some (.sh d))) (σ.set i (some v)) H := by
  refine ⟨r.base, by rw [List.length_set, List.length_set]; exact r.len, fun j s e => ?_, fun j l ds es x e1 e2 e3 e4 => ?_⟩
  · by_cases hj : i = j
    · subst hj
      rw [List.getElem?_set] at e
      simp only [if_true] at e
      split at e
      · rename_i hl
        cases e
        exact ⟨v, by rw [List.getElem?_set_self (by rw [← r.len]; exact hl)], h⟩
      · cases e
    · rw [List.getElem?_set_ne hj] at e
      have q := r.slot j s e
      cases s with
      | sh d => obtain ⟨u, e1, e2⟩ := q; exact ⟨u, by rw [List.getElem?_set_ne hj]; exact e1, e2⟩
      | own ds => obtain ⟨u, vs, e1, e2⟩ := q; exact ⟨u, vs, by rw [List.getElem?_set_ne hj]; exact e1, e2⟩
  · have hj : i ≠ j := fun z => by
      subst z
      rw [List.getElem?_set] at e1
      simp only [if_true] at e1
      split at e1 <;> cases e1
    have hl : i ≠ l := fun z => by
      subst z
      rw [List.getElem?_set] at e2
      simp only [if_true] at e2
      split at e2 <;> cases e2
    rw [List.getElem?_set_ne hj] at e1 e3
    rw [List.getElem?_set_ne hl] at e2 e4
    exact r.apart j l ds es x e1 e2 e3 e4
theorem R.setOwn {K : Kf} {Z : Zs} {F H : Hp} {ρ : REnv} {σ : L2.St} (r : R K Z F ρ σ H) (i : Nat) {ds : List D} {vs : List V} {p : Addr} (hp : H p = some (.lst vs)) (fr : Fresh Z F ρ σ p) (h : Reps K Z.rw F ds vs) : R K Z F (ρ.set i (some (.own ds))) (σ.set i (some (.ref p))) H := by
  obtain ⟨f1, f2, f3, f4⟩ := fr
  refine ⟨r.base, by rw [List.length_set, List.length_set]; exact r.len, fun j s e => ?_, fun j l ds' es x e1 e2 e3 e4 => ?_⟩
  · by_cases hj : i = j
    · subst hj
      rw [List.getElem?_set] at e
      simp only [if_true] at e
      split at e
      · rename_i hl
        cases e
        exact ⟨p, vs, by rw [List.getElem?_set_self (by rw [← r.len]; exact hl)], hp, h, f1, f2, f3⟩
      · cases e
    · rw [List.getElem?_set_ne hj] at e
      have q := r.slot j s e
      cases s with
      | sh d => obtain ⟨u, e1, e2⟩ := q; exact ⟨u, by rw [List.getElem?_set_ne hj]; exact e1, e2⟩
      | own ds => obtain ⟨u, vs, e1, e2⟩ := q; exact ⟨u, vs, by rw [List.getElem?_set_ne hj]; exact e1, e2⟩
  · by_cases hj : i = j
    · by_cases hl : i = l
      · exact hj.symm.trans hl
      · exfalso
        subst hj
        rw [List.getElem?_set] at e3
        simp only [if_true] at e3
        split at e3
        · cases e3
          rw [List.getElem?_set_ne hl] at e2 e4
          exact f4 l _ e2 e4
        · cases e3
    · by_cases hl : i = l
      · exfalso
        subst hl
        rw [List.getElem?_set] at e4
        simp only [if_true] at e4
        split at e4
        · cases e4
          rw [List.getElem?_set_ne hj] at e1 e3
          exact f4 j _ e1 e3
        · cases e4
      · rw [List.getElem?_set_ne hj] at e1 e3
        rw [List.getElem?_set_ne hl] at e2 e4
        exact r.apart j l ds' es x e1 e2 e3 e4
def setS (i : Nat) (f : SE) : SS := fun ρ k => f ρ fun d => k.nx (ρ.set i (some (.sh d)))
def setO (i : Nat) (f : SA) : SS := fun ρ k => f ρ fun ds => k.nx (ρ.set i (some (.own ds)))
theorem setS_mono {i : Nat} (mf : MonoE f) : MonoS (setS i f) := fun ρ k l hk q => mf ρ _ _ (fun _ z => hk.1 _ z) q
theorem setO_mono {i : Nat} {f : SA} (mf : MonoE f) : MonoS (setO i f) := fun ρ k l hk q => mf ρ _ _ (fun _ z => hk.1 _ z) q
theorem set_tp {K : Kf} {i : Nat} (mf : MonoE f) : ∀ D σ H, TSof K (setS i f) D σ H → tAsg (TEof K f) (gName i) D σ H := fun D σ H ⟨Z, F, ρ, r, q⟩ =>
  ⟨Z, F, ρ, r, mf ρ _ _ (fun d hd v F' H' g rep => hd _ F' H' g.f ((r.grow g).setSh i rep)) q⟩
theorem setO_tp {K : Kf} {i : Nat} {f : SA} (mf : MonoE f) : ∀ D σ H, TSof K (setO i f) D σ H → tAsg (TFof K f) (gName i) D σ H := fun D σ H ⟨Z, F, ρ, r, q⟩ =>
  ⟨Z, F, ρ, r, mf ρ _ _ (fun ds hd p vs F' H' g h0 fr hp reps => hd _ F' H' g.f ((r.grow g).setOwn i hp fr reps)) q⟩
theorem S.set {i : Nat} (h : E X e f) (hp : PS X st (tAsg (TEof X.K f) (gName i))) : S X st (setS i f) := ⟨setS_mono h.mono, PS.weak hp (set_tp h.mono)⟩
theorem S.setO {i : Nat} {f : SA} (h : F X e f) (hp : PS X st (tAsg (TFof X.K f) (gName i))) : S X st (setO i f) := ⟨setO_mono h.mono, PS.weak hp (setO_tp h.mono)⟩
/-- forget that a list is one's own: it may be handed on from here -/
def frzS (i : Nat) (s : SS) : SS := fun ρ k => match ρ[i]? with
  | some (some (.own ds)) => s (ρ.set i (some (.sh (.lst ds)))) k
  | _ => False
theorem R.frz {K : Kf} {Z : Zs} {F H : Hp} {ρ : REnv} {σ : L2.St} (r : R K Z F ρ σ H) {i : Nat} {ds : List D} (h : ρ[i]? = some (some (.own ds))) : ∃ F', Ex F F' ∧ R K Z F' (ρ.set i (some (.sh (.lst ds)))) σ H := by
  obtain ⟨a, vs, e1, e2, e3, e4, e5, e6⟩ := r.slot i _ h
  refine ⟨upd F a (.lst vs), Ex.upd e4, ⟨⟨fun x u e => ?_, r.base.f0.trans (Ex.upd e4), r.base.hh, fun x e => ?_, r.base.row, fun x e => ?_⟩, by rw [List.length_set]; exact r.len, fun j s e => ?_, fun j l ds' es x q1 q2 q3 q4 => ?_⟩⟩
  · by_cases ha : x = a
    · subst ha; rw [upd_same] at e; cases e; exact e2
    · rw [upd_ne ha] at e; exact r.base.fh x u e
  · by_cases ha : x = a
    · subst ha; exact .inr e5
    · rw [upd_ne ha] at e; exact r.base.new x e
  · rw [upd_ne (fun z : x = a => e6 (by rw [← z]; exact e))]; exact r.base.frow x e
  · by_cases hj : i = j
    · subst hj
      rw [List.getElem?_set] at e
      simp only [if_true] at e
      split at e
      · cases e
        exact ⟨.ref a, e1, a, vs, rfl, upd_same, Reps.ex (Ex.upd e4) _ _ e3⟩
      · cases e
    · rw [List.getElem?_set_ne hj] at e
      have q := r.slot j s e
      cases s with
      | sh d => obtain ⟨u, q1, q2⟩ := q; exact ⟨u, q1, Rep.ex (Ex.upd e4) _ _ q2⟩
      | own ds' =>
        obtain ⟨u, us, q1, q2, q3, q4, q5, q6⟩ := q
        refine ⟨u, us, q1, q2, Reps.ex (Ex.upd e4) _ _ q3, ?_, q5, q6⟩
        rw [upd_ne (fun z : u = a => hj (r.apart i j ds ds' a h e e1 (by rw [← z]; exact q1)))]
        exact q4
  · have hj : i ≠ j := fun z => by
      subst z
      rw [List.getElem?_set] at q1
      simp only [if_true] at q1
      split at q1 <;> cases q1
    have hl : i ≠ l := fun z => by
      subst z
      rw [List.getElem?_set] at q2
      simp only [if_true] at q2
      split at q2 <;> cases q2
    rw [List.getElem?_set_ne hj] at q1
    rw [List.getElem?_set_ne hl] at q2
    exact r.apart j l ds' es x q1 q2 q3 q4
theorem frzS_mono {i : Nat} (m : MonoS s) : MonoS (frzS i s) := fun ρ k l hk q => by
  unfold frzS at *
  split at q
  · exact m _ _ _ hk q
  · exact q.elim
theorem S.frz (i : Nat) (h : S X st s) : S X st (frzS i s) := ⟨frzS_mono h.mono, PS.weak h.run fun D σ H ⟨Z, F, ρ, r, q⟩ => by
  unfold frzS at q
  split at q
  · rename_i ds hd
    obtain ⟨F', e, r'⟩ := r.frz hd
    exact ⟨Z, F', _, r', h.mono _ _ _ (kOf_ex e) q⟩
  · exact q.elim⟩
end

/-! ### stores into one's own lists -/
theorem R.mut {K : Kf} {Z : Zs} {F H : Hp} {ρ : REnv} {σ : L2.St} (r : R K Z F ρ σ H) {i : Nat} {ds es : List D} {a : Addr} {vs us : List V} (h : ρ[i]? = some (some (.own ds))) (e1 : σ[i]? = some (some (.ref a))) (e2 : H a = some (.lst vs)) (h2 : Reps K Z.rw F es us) :
    R K Z F (ρ.set i (some (.own es))) σ (upd H a (.lst us)) := by
  obtain ⟨a', vs', q1, q2, q3, q4, q5, q6⟩ := r.slot i _ h
  rw [e1] at q1
  cases q1
  refine ⟨⟨fun x u e => ?_, r.base.f0, fun x u n e => ?_, r.base.new, fun x e => ?_, r.base.frow⟩, by rw [List.length_set]; exact r.len, fun j s e => ?_, fun j l ds' es' x q1 q2 q3 q4 => ?_⟩
  · rw [upd_ne (fun z : x = a => by rw [z, q4] at e; cases e)]; exact r.base.fh x u e
  · rw [upd_ne (fun z : x = a => by rw [z, q5] at e; cases e)]; exact r.base.hh x u n e
  · obtain ⟨sc, ns, p, m, t, w1, w2, w3⟩ := r.base.row x e
    refine ⟨sc, ns, p, m, t, ?_, w2.keep fun o q => ?_, w3⟩
    · rw [upd_ne (fun z : x = a => q6 (by rw [← z]; exact e))]; exact w1
    · rw [upd_ne (fun z : sc = a => by rw [z, e2] at q; cases q)]; exact q
  · by_cases hj : i = j
    · subst hj
      rw [List.getElem?_set] at e
      simp only [if_true] at e
      split at e
      · cases e
        exact ⟨a, us, e1, upd_same, h2, q4, q5, q6⟩
      · cases e
    · rw [List.getElem?_set_ne hj] at e
      have q := r.slot j s e
      cases s with
      | sh d => exact q
      | own ds' =>
        obtain ⟨u, ws, w1, w2, w3, w4, w5, w6⟩ := q
        refine ⟨u, ws, w1, ?_, w3, w4, w5, w6⟩
        rw [upd_ne (fun z : u = a => hj (r.apart i j ds ds' a h e e1 (by rw [← z]; exact w1)))]
        exact w2
  · have hh : ∀ (j : Nat) (y : List D), (ρ.set i (some (Slot.own es)))[j]? = some (some (Slot.own y)) → ∃ y', ρ[j]? = some (some (Slot.own y')) := fun j y z => by
      by_cases hj : i = j
      · subst hj; exact ⟨ds, h⟩
      · rw [List.getElem?_set_ne hj] at z; exact ⟨y, z⟩
    obtain ⟨y1, w1⟩ := hh j _ q1
    obtain ⟨y2, w2⟩ := hh l _ q2
    exact r.apart j l y1 y2 x w1 w2 q3 q4
section
variable {X : Cx} {e a b c : Expr} {f g k : SE} {pos : Pos} {st : Stmt} {rest : List Stmt} {s t : SS}
theorem R.ownAt {K : Kf} {Z : Zs} {F H : Hp} {ρ : REnv} {σ : L2.St} (r : R K Z F ρ σ H) {i : Nat} {ds : List D} (h : ρ[i]? = some (some (.own ds))) : ∃ a vs, σ[i]? = some (some (.ref a)) ∧ H a = some (.lst vs) ∧ Reps K Z.rw F ds vs ∧ Z.rw ≠ some a := by
  obtain ⟨a, vs, e1, e2, e3, _, _, e6⟩ := r.slot i _ h
  exact ⟨a, vs, e1, e2, e3, e6⟩
/-- x.append(e) -/
def appS (i : Nat) (f : SE) : SS := fun ρ k => match ρ[i]? with
  | some (some (.own ds)) => ds.length < big ∧ f ρ fun d => k.nx (ρ.set i (some (.own (ds ++ [d]))))
  | _ => False
theorem appS_mono {i : Nat} (mf : MonoE f) : MonoS (appS i f) := fun ρ k l hk q => by
  unfold appS at *
  split at q
  · exact ⟨q.1, mf ρ _ _ (fun d hd => hk.1 _ hd) q.2⟩
  · exact q.elim
theorem S.app {i : Nat} (hf : E X e f) (h : PS X st (tDrop (tBM X.K "list" rAppend (tVar i) (tCons (TEof X.K f) tNil)))) : S X st (appS i f) := ⟨appS_mono hf.mono, PS.weak h fun D σ H ⟨Z, F, ρ, r, q⟩ => by
  unfold appS at q
  split at q
  · rename_i ds hd
    obtain ⟨a, vs, e1, e2, e3, e6⟩ := r.ownAt hd
    refine ⟨.ref a, e1, .inl ⟨rfl, vs, SqL.of e2⟩, Z, F, ρ, r, hf.mono ρ _ _ (fun d hd' v F' H' g rep => ?_) q.2⟩
    have r' := r.grow g
    refine ⟨a, vs, v, rfl, rfl, g.h a _ e6 e2, by rw [e3.length]; exact big_lt q.1, hd' _ F' _ g.f (r'.mut hd e1 (g.h a _ e6 e2) (Reps.app (Reps.ex g.f _ _ e3) (Reps.one rep)))⟩
  · exact q.elim⟩
/-- x.pop() as a statement -/
def popS (i : Nat) : SS := fun ρ k => match ρ[i]? with
  | some (some (.own ds)) => ds ≠ [] ∧ k.nx (ρ.set i (some (.own ds.dropLast)))
  | _ => False
theorem Reps.dropLast {K : Kf} {rw : Option Addr} {F : Hp} {ds : List D} {vs : List V} (h : Reps K rw F ds vs) : Reps K rw F ds.dropLast vs.dropLast := by
  rw [List.dropLast_eq_take, List.dropLast_eq_take, h.length]
  exact Reps.take _ h
theorem S.pop {i : Nat} (h : PS X st (tDrop (tBM0 X.K "list" rPop (tVar i)))) : S X st (popS i) := ⟨fun ρ k l hk q => by
    unfold popS at *
    split at q
    · exact ⟨q.1, hk.1 _ q.2⟩
    · exact q.elim, PS.weak h fun D σ H ⟨Z, F, ρ, r, q⟩ => by
  unfold popS at q
  split at q
  · rename_i ds hd
    obtain ⟨a, vs, e1, e2, e3, e6⟩ := r.ownAt hd
    have hne : vs ≠ [] := fun z => q.1 (by
      have := e3.length
      rw [z] at this
      exact List.eq_nil_of_length_eq_zero this.symm)
    have hl : vs.length - 1 < vs.length := Nat.sub_lt (List.length_pos_iff.mpr hne) (by decide)
    exact ⟨.ref a, e1, .inl ⟨rfl, vs, SqL.of e2⟩, a, vs, vs[vs.length - 1], rfl, rfl, e2, List.getElem?_eq_getElem hl, q.2 _ F _ (Ex.refl _) (r.mut hd e1 e2 (Reps.dropLast e3))⟩
  · exact q.elim⟩
/-- x[j] = e -/
def putS (i : Nat) (f g : SE) : SS := fun ρ k => match ρ[i]? with
  | some (some (.own ds)) => f ρ fun d => g ρ fun z => match z with
    | .int j => (match ixN ds.length j with
      | some m => k.nx (ρ.set i (some (.own (ds.set m d))))
      | none => False)
    | _ => False
  | _ => False
theorem putS_mono {i : Nat} (mf : MonoE f) (mg : MonoE g) : MonoS (putS i f g) := fun ρ k l hk q => by
  unfold putS at *
  split at q
  · exact mf ρ _ _ (fun d hd => mg ρ _ _ (fun z hz => by
      split at hz
      · split at hz
        · exact hk.1 _ hz
        · exact hz.elim
      · exact hz.elim) hd) q
  · exact q.elim
theorem S.put {i : Nat} (hf : E X a f) (hg : P X b g) (h : PS X st (tAsg (TEof X.K f) (gSub (tVar i) (TPof X.K g) rSetL))) : S X st (putS i f g) := ⟨putS_mono hf.mono hg.mono, PS.weak h fun D σ H ⟨Z, F, ρ, r, q⟩ => by
  unfold putS at q
  split at q
  · rename_i ds hd
    obtain ⟨a, vs, e1, e2, e3, e6⟩ := r.ownAt hd
    refine ⟨Z, F, ρ, r, hf.mono ρ _ _ (fun d hd' v F1 H1 g1 rep => ?_) q⟩
    refine ⟨.ref a, e1, Z, F1, ρ, r.grow g1, hg.mono ρ _ _ (fun z hz u F2 H2 g2 rq => ?_) hd'⟩
    split at hz
    · rename_i j
      split at hz
      · rename_i m hm
        have g3 := g1.trans g2
        exact ⟨a, vs, j, m, rfl, rq.int, g3.h a _ e6 e2, by rw [e3.length]; exact hm, hz _ F2 _ g3.f ((r.grow g3).mut hd e1 (g3.h a _ e6 e2) (Reps.set (Rep.ex g2.f _ _ rep) m (Reps.ex g3.f _ _ e3)))⟩
      · exact hz.elim
    · exact hz.elim
  · exact q.elim⟩
/-- x op= e, x no list of one's own -/
def augS (i : Nat) (o : O2) (f : SE) : SS := fun ρ k => match ρ[i]? with
  | some (some (.sh x)) => f ρ fun y => o x y fun d => k.nx (ρ.set i (some (.sh d)))
  | _ => False
theorem S.aug {i : Nat} {o : O2} {r : R2} (hs : OpS X.K r o) (mo : Mono2 o) (hf : P X e f) (h : PS X st (tAug i (TPof X.K f) r)) : S X st (augS i o f) := ⟨fun ρ k l hk q => by
    unfold augS at *
    split at q
    · exact hf.mono ρ _ _ (fun y hy => mo _ _ _ _ (fun d hd => hk.1 _ hd) hy) q
    · exact q.elim, PS.weak h fun D σ H ⟨Z, F, ρ, r, q⟩ => by
  unfold augS at q
  split at q
  · rename_i x hx
    obtain ⟨v, e1, e2⟩ := r.slot i _ hx
    exact ⟨v, e1, Z, F, ρ, r, hf.mono ρ _ _ (fun y hy u F1 H1 g1 rq => hs Z F1 H1 x y v u _ g1.b (.inl (Rep.ex g1.f _ _ e2)) rq (mo _ _ _ _ (fun d hd w F2 H2 g2 rep => hd _ F2 H2 (g1.trans g2).f ((r.grow (g1.trans g2)).setSh i rep)) hy)) q⟩
  · exact q.elim⟩
/-- a, b = x, y -/
def parS (i j : Nat) (f : SA) : SS := fun ρ k => f ρ fun ds => match ds with
  | [x, y] => k.nx ((ρ.set i (some (.sh x))).set j (some (.sh y)))
  | _ => False
theorem S.par {i j : Nat} {fa : SA} {es : List Expr} (ha : A X es fa) (h : PS X st (tPar i j (TAof X.K fa))) : S X st (parS i j fa) := ⟨fun ρ k l hk q => ha.mono ρ _ _ (fun ds hd => by
    split at hd
    · exact hk.1 _ hd
    · exact hd.elim) q, PS.weak h fun D σ H ⟨Z, F, ρ, r, q⟩ => ⟨Z, F, ρ, r, ha.mono ρ _ _ (fun ds hd vs F' H' g reps => by
    split at hd
    · rename_i x y
      obtain ⟨v, r1, rfl, h1, v2, r2, rfl, h2, h3⟩ := (show ∃ v r1, vs = v :: r1 ∧ Rep _ _ _ x v ∧ ∃ v2 r2, r1 = v2 :: r2 ∧ Rep _ _ _ y v2 ∧ r2 = [] from reps)
      subst h3
      exact ⟨v, v2, rfl, hd _ F' H' g.f (((r.grow g).setSh i h1).setSh j h2)⟩
    · exact hd.elim) q⟩⟩
def par3S (i j l : Nat) (f : SA) : SS := fun ρ k => f ρ fun ds => match ds with
  | [x, y, z] => k.nx (((ρ.set i (some (.sh x))).set j (some (.sh y))).set l (some (.sh z)))
  | _ => False
theorem S.par3 {i j l : Nat} {fa : SA} {es : List Expr} (ha : A X es fa) (h : PS X st (tPar3 i j l (TAof X.K fa))) : S X st (par3S i j l fa) := ⟨fun ρ k l hk q => ha.mono ρ _ _ (fun ds hd => by
    split at hd
    · exact hk.1 _ hd
    · exact hd.elim) q, PS.weak h fun D σ H ⟨Z, F, ρ, r, q⟩ => ⟨Z, F, ρ, r, ha.mono ρ _ _ (fun ds hd vs F' H' g reps => by
    split at hd
    · rename_i x y z
      obtain ⟨v, r1, rfl, h1, v2, r2, rfl, h2, v3, r3, rfl, h3, h4⟩ := (show ∃ v r1, vs = v :: r1 ∧ Rep _ _ _ x v ∧ ∃ v2 r2, r1 = v2 :: r2 ∧ Rep _ _ _ y v2 ∧ ∃ v3 r3, r2 = v3 :: r3 ∧ Rep _ _ _ z v3 ∧ r3 = [] from reps)
      subst h4
      exact ⟨v, v2, v3, rfl, hd _ F' H' g.f ((((r.grow g).setSh i h1).setSh j h2).setSh l h3)⟩
    · exact hd.elim) q⟩⟩

/-! ### targets -/
abbrev SG := D → REnv → (REnv → Prop) → Prop
abbrev SGs := List D → REnv → (REnv → Prop) → Prop
def TGof (K : Kf) (is : List Nat) (g : SG) : TG := fun v σ H Q => ∃ Z F ρ d, R K Z F ρ σ H ∧ Rep K Z.rw F d v ∧ g d ρ fun ρ' => ∀ σ', R K Z F ρ' σ' H → (∀ vs : List Nat, (∀ i ∈ is, i ∈ vs) → wipe σ' vs = wipe σ vs) → Q σ' H
def TGsof (K : Kf) (is : List Nat) (g : SGs) : TGs := fun us σ H Q => ∃ Z F ρ ds, R K Z F ρ σ H ∧ Reps K Z.rw F ds us ∧ g ds ρ fun ρ' => ∀ σ', R K Z F ρ' σ' H → (∀ vs : List Nat, (∀ i ∈ is, i ∈ vs) → wipe σ' vs = wipe σ vs) → Q σ' H
def MonoG {α : Type} (g : α → REnv → (REnv → Prop) → Prop) : Prop := ∀ d ρ (P Q : REnv → Prop), (∀ ρ', P ρ' → Q ρ') → g d ρ P → g d ρ Q
structure G (X : Cx) (tg : Expr) (is : List Nat) (g : SG) : Prop where
  mono : MonoG g
  run : PG X tg (TGof X.K is g)
structure Gs (X : Cx) (ts : List Expr) (is : List Nat) (g : SGs) : Prop where
  mono : MonoG g
  run : PGs X ts (TGsof X.K is g)
theorem PG.weak {tg : Expr} {t t' : TG} (h : PG X tg t) (hw : ∀ v σ H Q, t' v σ H Q → t v σ H Q) : PG X tg t' := ⟨fun pins s σ H v u Q I r q => h.run pins s σ H v u Q I r (hw v σ H Q q)⟩
theorem PGs.weak {tg : List Expr} {t t' : TGs} (h : PGs X tg t) (hw : ∀ v σ H Q, t' v σ H Q → t v σ H Q) : PGs X tg t' := ⟨fun pins s σ H v u Q I r q => h.run pins s σ H v u Q I r (hw v σ H Q q)⟩
theorem wipe_set {σ : L2.St} {i : Nat} {x : Option V} : ∀ {vs : List Nat}, i ∈ vs → wipe (σ.set i x) vs = wipe σ vs
  | v :: vs, h => by
    unfold wipe
    by_cases hv : i ∈ vs
    · rw [wipe_set hv]
    · have e : i = v := by
        rcases List.mem_cons.mp h with e | e
        · exact e
        · exact absurd e hv
      subst e
      have : ∀ us : List Nat, i ∉ us → wipe (σ.set i x) us = (wipe σ us).set i x := by
        intro us
        induction us with
        | nil => intro _; rfl
        | cons u us ih =>
          intro hu
          unfold wipe
          rw [ih (fun z => hu (List.mem_cons_of_mem _ z)), List.set_comm _ _ (fun z : i = u => hu (by rw [z]; exact List.mem_cons_self))]
      rw [this vs hv, List.set_set]
theorem wipe_none {σ : L2.St} : ∀ {vs : List Nat} (us : List Nat), (∀ v ∈ us, v ∈ vs) → wipe (wipe σ vs) us = wipe σ vs
  | vs, [], _ => rfl
  | vs, u :: us, h => by
    show (wipe (wipe σ vs) us).set u none = _
    rw [wipe_none us fun v hv => h v (List.mem_cons_of_mem _ hv)]
    have : ∀ (ws : List Nat), u ∈ ws → (wipe σ ws).set u none = wipe σ ws := by
      intro ws
      induction ws with
      | nil => intro z; cases z
      | cons w ws ih =>
        intro z
        show ((wipe σ ws).set w none).set u none = (wipe σ ws).set w none
        by_cases hw : w = u
        · subst hw; rw [List.set_set]
        · rw [List.set_comm _ _ hw, ih (by rcases List.mem_cons.mp z with e | e; exact absurd e.symm hw; exact e)]
    exact this vs (h u List.mem_cons_self)
theorem wipe_wipe {σ : L2.St} {vs : List Nat} : wipe (wipe σ vs) vs = wipe σ vs := wipe_none vs fun _ h => h
def gVar (i : Nat) : SG := fun d ρ Q => Q (ρ.set i (some (.sh d)))
theorem G.var {i : Nat} {tg : Expr} (h : PG X tg (gName i)) : G X tg [i] (gVar i) := ⟨fun d ρ P Q hpq q => hpq _ q, PG.weak h fun v σ H Q ⟨Z, F, ρ, d, r, rep, q⟩ => q _ (r.setSh i rep) fun vs hvs => wipe_set (hvs i List.mem_cons_self)⟩
def gNilS : SGs := fun ds ρ Q => match ds with
  | [] => Q ρ
  | _ => False
def gConsS (g : SG) (gs : SGs) : SGs := fun ds ρ Q => match ds with
  | d :: r => g d ρ fun ρ' => gs r ρ' Q
  | [] => False
theorem Gs.nil : Gs X [] [] gNilS := ⟨fun ds ρ P Q hpq q => by
    cases ds with
    | nil => exact hpq _ q
    | cons _ _ => exact q, PGs.weak pgs_nil fun us σ H Q ⟨Z, F, ρ, ds, r, reps, q⟩ => by
    cases ds with
    | nil => exact ⟨reps, q σ r fun _ _ => rfl⟩
    | cons _ _ => exact q.elim⟩
theorem Gs.cons {tg : Expr} {ts : List Expr} {is js : List Nat} {g : SG} {gs : SGs} (h1 : G X tg is g) (h2 : Gs X ts js gs) (h : PGs X (tg :: ts) (gCons (TGof X.K is g) (TGsof X.K js gs))) : Gs X (tg :: ts) (is ++ js) (gConsS g gs) :=
  ⟨fun ds ρ P Q hpq q => by
    cases ds with
    | nil => exact q
    | cons d r => exact h1.mono d ρ _ _ (fun ρ' z => h2.mono r ρ' _ _ hpq z) q, PGs.weak h fun us σ H Q ⟨Z, F, ρ, ds, r, reps, q⟩ => by
    cases ds with
    | nil => exact q.elim
    | cons d ds =>
      obtain ⟨v, vs, rfl, h3, h4⟩ := (show ∃ v vs, us = v :: vs ∧ Rep _ _ _ d v ∧ Reps _ _ _ ds vs from reps)
      exact ⟨v, vs, rfl, Z, F, ρ, d, r, h3, h1.mono d ρ _ _ (fun ρ' z σ' r' hw => ⟨Z, F, ρ', ds, r', h4, h2.mono ds ρ' _ _ (fun ρ2 z2 σ2 r2 hw2 => z2 σ2 r2 fun vs hvs => (hw2 vs fun i hi => hvs i (List.mem_append_right _ hi)).trans (hw vs fun i hi => hvs i (List.mem_append_left _ hi))) z⟩) q⟩⟩
def gTupS (gs : SGs) : SG := fun d ρ Q => match d with
  | .tup ds => gs ds ρ Q
  | _ => False
theorem G.tup {tg : Expr} {is : List Nat} {gs : SGs} {n : Nat} {ts : List Expr} (hn : ∀ ds ρ Q, gs ds ρ Q → ds.length = n) (h2 : Gs X ts is gs) (h : PG X tg (gTup X.K n (TGsof X.K is gs))) : G X tg is (gTupS gs) :=
  ⟨fun d ρ P Q hpq q => by
    cases d with
    | tup ds => exact h2.mono ds ρ _ _ hpq q
    | _ => exact q.elim, PG.weak h fun v σ H Q ⟨Z, F, ρ, d, r, rep, q⟩ => by
    cases d with
    | tup ds =>
      obtain ⟨a, vs, rfl, e1, e2⟩ := (show ∃ a vs, v = V.ref a ∧ SqT _ F a vs ∧ Reps _ _ _ ds vs from rep)
      exact ⟨a, vs, rfl, sqt_ex r.base.fh e1, e2.length.trans (hn _ _ _ q), Z, F, ρ, ds, r, e2, q⟩
    | _ => exact q.elim⟩
/-- target = e -/
def asgS (f : SE) (g : SG) : SS := fun ρ k => f ρ fun d => g d ρ k.nx
theorem S.asg {tg : Expr} {is : List Nat} {g : SG} (hf : E X e f) (hg : G X tg is g) (h : PS X st (tAsg (TEof X.K f) (TGof X.K is g))) : S X st (asgS f g) :=
  ⟨fun ρ k l hk q => hf.mono ρ _ _ (fun d hd => hg.mono d ρ _ _ hk.1 hd) q, PS.weak h fun D σ H ⟨Z, F, ρ, r, q⟩ => ⟨Z, F, ρ, r, hf.mono ρ _ _ (fun d hd v F' H' g1 rep => ⟨Z, F', ρ, d, r.grow g1, rep, hg.mono d ρ _ _ (fun ρ' z σ' r' _ => z σ' F' H' g1.f r') hd⟩) q⟩⟩
end

/-! ### what is walked -/
section
variable {X : Cx} {e a b c : Expr} {f g k : SE} {pos : Pos} {st : Stmt} {rest : List Stmt} {s t : SS}
def TurnOk (K : Kf) (Z : Zs) (J : It) (xs : List D) (F H : Hp) (i : Nat) : Prop := (i = xs.length → J.stop i H) ∧ ∀ d, xs[i]? = some d → J.go i H ∧ ∀ x H', J.yld i H x H' → ∃ F', Gr K Z F H F' H' ∧ Rep K Z.rw F' d x
def ItE (K : Kf) (Z : Zs) (J : It) (xs : List D) (F1 : Hp) : Prop := ∀ F H i, Ex F1 F → Base K Z F H → TurnOk K Z J xs F H i
def ItG (K : Kf) (Z : Zs) (J : It) (xs : List D) (F1 H1 : Hp) : Prop := ∀ F H i, Gr K Z F1 H1 F H → TurnOk K Z J xs F H i
theorem ItE.toG {K : Kf} {Z : Zs} {J : It} {xs : List D} {F1 H1 : Hp} (h : ItE K Z J xs F1) : ItG K Z J xs F1 H1 := fun F H i g => h F H i g.f g.b
def TIof (K : Kf) (f : SA) : TI := fun σ H Rc => ∃ Z F ρ, R K Z F ρ σ H ∧ f ρ fun xs => ∀ J F' H', Gr K Z F H F' H' → ItE K Z J xs F' → Rc J H'
def TIGof (K : Kf) (f : SA) : TI := fun σ H Rc => ∃ Z F ρ, R K Z F ρ σ H ∧ f ρ fun xs => ∀ J F' H', Gr K Z F H F' H' → ItG K Z J xs F' H' → Rc J H'
structure I (X : Cx) (tg e : Expr) (f : SA) : Prop where
  mono : MonoE f
  run : PI X tg e (TIof X.K f)
/-- for comprehensions: what is walked may be a list of one's own -/
structure Ig (X : Cx) (tg e : Expr) (f : SA) : Prop where
  mono : MonoE f
  run : PI X tg e (TIGof X.K f)
theorem PI.weak {tg : Expr} {t t' : TI} (h : PI X tg e t) (hw : ∀ σ H Rc, t' σ H Rc → t σ H Rc) : PI X tg e t' := ⟨fun pins s σ H Rc I q => h.run pins s σ H Rc I (hw σ H Rc q)⟩
theorem I.toG {tg : Expr} {f : SA} (h : I X tg e f) : Ig X tg e f := ⟨h.mono, PI.weak h.run fun σ H Rc ⟨Z, F, ρ, r, q⟩ => ⟨Z, F, ρ, r, h.mono ρ _ _ (fun xs hx J F' H' g i => hx J F' H' g i.toG) q⟩⟩
def seqOf (Q : List D → Prop) (d : D) : Prop := match d with
  | .tup ds => Q ds
  | .lst ds => Q ds
  | _ => False
theorem seqOf_mono {P Q : List D → Prop} (h : ∀ d, P d → Q d) : ∀ d, seqOf P d → seqOf Q d := fun d q => by
  cases d with
  | tup ds => exact h _ q
  | lst ds => exact h _ q
  | _ => exact q.elim
def seqI (f : SE) : SA := fun ρ Q => f ρ (seqOf Q)
def iSeq (K : Kf) (tl : TE) : TI := fun σ H Rc => tl σ H fun x H1 => ∃ a, x = .ref a ∧ (((∃ xs, SqL K H1 a xs) ∧ Rc (Itl K a) H1) ∨ ((∃ xs, SqT K H1 a xs) ∧ Rc (Itt K a) H1))
theorem pi_seq {tg l : Expr} {tl : TE} (hl : PE X l tl) : PI X tg l (iSeq X.K tl) := by
  refine ⟨fun pins s σ H R I h => ?_⟩
  refine thn (hl.run pins s σ H _ I h) fun v s1 ⟨x, H1, I1, r1, q1⟩ => ?_
  obtain ⟨a, e, q1⟩ := q1
  subst e
  cases r1
  rcases q1 with ⟨⟨xs, hq⟩, q⟩ | ⟨⟨xs, hq⟩, q⟩
  · obtain ⟨its, rv, p, hz⟩ := I1.list hq
    refine wpAny_pyIter_list p.isList ?_
    refine ⟨s1.heap.objs.size, [s1.heap.objs.size], _, _, H1, rfl, I1.kept (t' := s1.toks) fun b o e => Heap.get?_push_of_some _ e, turn_list a _, ⟨_, Heap.get?_push_size _ rfl, rfl, rfl⟩, fun b hb => ?_, q⟩
    have e : b = s1.heap.objs.size := by simpa using hb
    subst e
    exact I1.fpOk (Nat.le_refl _) (I1.hok.fresh (Nat.le_refl _))
  · obtain ⟨its, rv, p, hz⟩ := I1.tuple hq
    refine wpAny_pyIter_tuple (show s1.heap.IsTuple a its.toArray from p) ?_
    refine ⟨s1.heap.objs.size, [s1.heap.objs.size], _, _, H1, rfl, I1.kept (t' := s1.toks) fun b o e => Heap.get?_push_of_some _ e, turn_tuple a _, ⟨_, Heap.get?_push_size _ rfl, rfl, rfl⟩, fun b hb => ?_, q⟩
    have e : b = s1.heap.objs.size := by simpa using hb
    subst e
    exact I1.fpOk (Nat.le_refl _) (I1.hok.fresh (Nat.le_refl _))
theorem turn_l {K : Kf} {Z : Zs} {F H : Hp} {a : Addr} {vs : List V} {ds : List D} (b : Base K Z F H) (h : H a = some (.lst vs)) (hr : Reps K Z.rw F ds vs) (i : Nat) : TurnOk K Z (Itl K a) ds F H i :=
  ⟨fun e => ⟨vs, SqL.of h, by rw [hr.length, e]; exact Nat.le_refl _⟩, fun d hd => by
    obtain ⟨v, e1, e2⟩ := hr.get hd
    refine ⟨⟨vs, v, SqL.of h, e1⟩, fun x H' y => ?_⟩
    obtain ⟨rfl, y2⟩ := y
    have := y2 vs (SqL.of h)
    rw [e1] at this
    cases this
    exact ⟨F, Gr.refl b, e2⟩⟩
theorem turn_t {K : Kf} {Z : Zs} {F H : Hp} {a : Addr} {vs : List V} {ds : List D} (b : Base K Z F H) (h : SqT K H a vs) (hr : Reps K Z.rw F ds vs) (i : Nat) : TurnOk K Z (Itt K a) ds F H i :=
  ⟨fun e => ⟨vs, h, by rw [hr.length, e]; exact Nat.le_refl _⟩, fun d hd => by
    obtain ⟨v, e1, e2⟩ := hr.get hd
    refine ⟨⟨vs, v, h, e1⟩, fun x H' y => ?_⟩
    obtain ⟨rfl, y2⟩ := y
    have := y2 vs h
    rw [e1] at this
    cases this
    exact ⟨F, Gr.refl b, e2⟩⟩
theorem I.seq {tg : Expr} (h : E X e f) : I X tg e (seqI f) := ⟨fun ρ P Q hpq q => h.mono ρ _ _ (seqOf_mono hpq) q, PI.weak (pi_seq h.run) fun σ H Rc ⟨Z, F, ρ, r, q⟩ => ⟨Z, F, ρ, r, h.mono ρ _ _ (fun d hd v F1 H1 g1 rep => by
    cases d with
    | lst ds =>
      obtain ⟨a, vs, rfl, e1, e2⟩ := (show ∃ a vs, v = V.ref a ∧ F1 a = some (.lst vs) ∧ Reps _ _ _ ds vs from rep)
      exact ⟨a, rfl, .inl ⟨⟨vs, SqL.of (g1.b.fh _ _ e1)⟩, hd _ F1 H1 g1 fun F2 H2 i ex b2 => turn_l b2 (b2.fh _ _ (ex _ _ e1)) (Reps.ex ex _ _ e2) i⟩⟩
    | tup ds =>
      obtain ⟨a, vs, rfl, e1, e2⟩ := (show ∃ a vs, v = V.ref a ∧ SqT _ F1 a vs ∧ Reps _ _ _ ds vs from rep)
      exact ⟨a, rfl, .inr ⟨⟨vs, sqt_ex g1.b.fh e1⟩, hd _ F1 H1 g1 fun F2 H2 i ex b2 => turn_t b2 (sqt_ex b2.fh (sqt_ex ex e1)) (Reps.ex ex _ _ e2) i⟩⟩
    | _ => exact hd.elim) q⟩⟩
theorem Ig.seq {tg : Expr} (h : P X e f) : Ig X tg e (seqI f) := ⟨fun ρ P Q hpq q => h.mono ρ _ _ (seqOf_mono hpq) q, PI.weak (pi_seq h.run) fun σ H Rc ⟨Z, F, ρ, r, q⟩ => ⟨Z, F, ρ, r, h.mono ρ _ _ (fun d hd v F1 H1 g1 rep => by
    cases d with
    | lst ds =>
      obtain ⟨a, vs, rfl, e1, e2, e3⟩ := rep.lst g1.b
      exact ⟨a, rfl, .inl ⟨⟨vs, SqL.of e1⟩, hd _ F1 H1 g1 fun F2 H2 i g2 => turn_l g2.b (g2.h _ _ e3 e1) (Reps.ex g2.f _ _ e2) i⟩⟩
    | tup ds =>
      obtain ⟨a, vs, rfl, e1, e2, e3⟩ := rep.tup g1.b
      exact ⟨a, rfl, .inr ⟨⟨vs, e1⟩, hd _ F1 H1 g1 fun F2 H2 i g2 => turn_t g2.b (sqt_ex g2.b.fh (sqt_ex g2.f e3)) (Reps.ex g2.f _ _ e2) i⟩⟩
    | _ => exact hd.elim) q⟩⟩
/-- lo, lo + 1, .. below hi -/
def rngD (lo hi : Int) : List D := (List.range (hi - lo).toNat).map fun (i : Nat) => D.int (lo + i)
theorem rngD_len {lo hi : Int} : (rngD lo hi).length = (hi - lo).toNat := by unfold rngD; rw [List.length_map, List.length_range]
theorem turn_r {K : Kf} {Z : Zs} {F H : Hp} {lo hi : Int} (b : Base K Z F H) (i : Nat) : TurnOk K Z (Itr lo (hi - lo).toNat) (rngD lo hi) F H i :=
  ⟨fun e => by rw [rngD_len] at e; exact Nat.le_of_eq e.symm, fun d hd => by
    have hi' : i < (hi - lo).toNat := by
      have := (List.getElem?_eq_some_iff.mp hd).1
      rw [rngD_len] at this; exact this
    refine ⟨hi', fun x H' y => ?_⟩
    obtain ⟨rfl, rfl⟩ := y
    refine ⟨F, Gr.refl b, ?_⟩
    unfold rngD at hd
    rw [List.getElem?_map, List.getElem?_range hi'] at hd
    cases hd
    exact rfl⟩
def rng1A (f : SA) : SA := fun ρ Q => f ρ fun ds => match ds with
  | [.int j] => (-(2 ^ 62) ≤ j ∧ j < 2 ^ 62) ∧ Q (rngD 0 j)
  | _ => False
def rng2A (f : SA) : SA := fun ρ Q => f ρ fun ds => match ds with
  | [.int i, .int j] => (-(2 ^ 62) ≤ i ∧ i < 2 ^ 62 ∧ -(2 ^ 62) ≤ j ∧ j < 2 ^ 62) ∧ Q (rngD i j)
  | _ => False
theorem RepPs.one {K : Kf} {rw : Option Addr} {F H : Hp} {d : D} {vs : List V} (h : RepPs K rw F H [d] vs) : ∃ v, vs = [v] ∧ RepP K rw F H d v := by
  cases h with
  | cons a b => cases b; exact ⟨_, rfl, a⟩
theorem RepPs.two {K : Kf} {rw : Option Addr} {F H : Hp} {d d2 : D} {vs : List V} (h : RepPs K rw F H [d, d2] vs) : ∃ v v2, vs = [v, v2] ∧ RepP K rw F H d v ∧ RepP K rw F H d2 v2 := by
  cases h with
  | cons a b => cases b with
    | cons a2 b2 => cases b2; exact ⟨_, _, rfl, a, a2⟩
theorem RepPs.three {K : Kf} {rw : Option Addr} {F H : Hp} {d d2 d3 : D} {vs : List V} (h : RepPs K rw F H [d, d2, d3] vs) : ∃ v v2 v3, vs = [v, v2, v3] ∧ RepP K rw F H d v ∧ RepP K rw F H d2 v2 ∧ RepP K rw F H d3 v3 := by
  cases h with
  | cons a b =>
    obtain ⟨v2, v3, rfl, h2, h3⟩ := b.two
    exact ⟨_, _, _, rfl, a, h2, h3⟩
theorem I.rng1 {tg : Expr} {es : List Expr} {fa : SA} (ha : Ap X es fa) (h : PI X tg e (iRng1 (TQof X.K fa))) : I X tg e (rng1A fa) := ⟨fun ρ P Q hpq q => ha.mono ρ _ _ (fun ds hd => by
    split at hd
    · exact ⟨hd.1, hpq _ hd.2⟩
    · exact hd.elim) q, PI.weak h fun σ H Rc ⟨Z, F, ρ, r, q⟩ => ⟨Z, F, ρ, r, ha.mono ρ _ _ (fun ds hd vs F1 H1 g1 reps => by
    split at hd
    · rename_i j
      obtain ⟨v, rfl, rep⟩ := reps.one
      refine ⟨j, by rw [rep.int], hd.1.1, hd.1.2, ?_⟩
      have := hd.2 (Itr 0 (j - 0).toNat) F1 H1 g1 fun F2 H2 i ex b2 => turn_r b2 i
      rw [Int.sub_zero] at this
      exact this
    · exact hd.elim) q⟩⟩
theorem I.rng2 {tg : Expr} {es : List Expr} {fa : SA} (ha : Ap X es fa) (h : PI X tg e (iRng2 (TQof X.K fa))) : I X tg e (rng2A fa) := ⟨fun ρ P Q hpq q => ha.mono ρ _ _ (fun ds hd => by
    split at hd
    · exact ⟨hd.1, hpq _ hd.2⟩
    · exact hd.elim) q, PI.weak h fun σ H Rc ⟨Z, F, ρ, r, q⟩ => ⟨Z, F, ρ, r, ha.mono ρ _ _ (fun ds hd vs F1 H1 g1 reps => by
    split at hd
    · rename_i i j
      obtain ⟨v, v2, rfl, rep, rep2⟩ := reps.two
      exact ⟨i, j, by rw [rep.int, rep2.int], hd.1, hd.2 _ F1 H1 g1 fun F2 H2 i ex b2 => turn_r b2 i⟩
    · exact hd.elim) q⟩⟩
/-- zip -/
def zipD : List D → List D → List D
  | x :: xs, y :: ys => .tup [x, y] :: zipD xs ys
  | _, _ => []
theorem zipD_get : ∀ {xs ys : List D} {i : Nat} {d : D}, (zipD xs ys)[i]? = some d → ∃ x y, xs[i]? = some x ∧ ys[i]? = some y ∧ d = .tup [x, y]
  | [], _, _, _, h => by simp [zipD] at h
  | _ :: _, [], _, _, h => by simp [zipD] at h
  | x :: xs, y :: ys, 0, d, h => by
    have e : D.tup [x, y] = d := by simpa [zipD] using h
    exact ⟨x, y, rfl, rfl, e.symm⟩
  | x :: xs, y :: ys, i + 1, d, h => by
    obtain ⟨u, v, h1, h2, h3⟩ := zipD_get (xs := xs) (ys := ys) (i := i) (by simpa [zipD] using h)
    exact ⟨u, v, by simpa using h1, by simpa using h2, h3⟩
theorem zipD_len : ∀ {xs ys : List D}, xs.length ≤ (zipD xs ys).length ∨ ys.length ≤ (zipD xs ys).length
  | [], _ => .inl (by simp)
  | _ :: _, [] => .inr (by simp)
  | x :: xs, y :: ys => by
    rcases zipD_len (xs := xs) (ys := ys) with h | h
    · left; simp [zipD]; exact h
    · right; simp [zipD]; exact h
def zipA (f : SA) : SA := fun ρ Q => f ρ fun ds => match ds with
  | [.lst xs, .lst ys] => Q (zipD xs ys)
  | [.tup xs, .tup ys] => Q (zipD xs ys)
  | _ => False
theorem turn_pair {K : Kf} {Z : Zs} {F H : Hp} {d d2 : D} {x y : V} (b : Base K Z F H) {T : Addr} (hT : H T = none) (h1 : Rep K Z.rw F d x) (h2 : Rep K Z.rw F d2 y) : ∃ F', Gr K Z F H F' (upd H T (.tup [x, y])) ∧ Rep K Z.rw F' (.tup [d, d2]) (.ref T) :=
  ⟨_, b.lay hT, T, [x, y], rfl, .inl (.inl upd_same), Reps.ex (Ex.upd (b.fh.none hT)) _ _ (Reps.two h1 h2)⟩
theorem Ig.zip {tg : Expr} {es : List Expr} {fa : SA} (ha : Ap X es fa) (h : PI X tg e (RZ.iZipA X.K (TQof X.K fa))) : Ig X tg e (zipA fa) := ⟨fun ρ P Q hpq q => ha.mono ρ _ _ (fun ds hd => by
    split at hd
    · exact hpq _ hd
    · exact hpq _ hd
    · exact hd.elim) q, PI.weak h fun σ H Rc ⟨Z, F, ρ, r, q⟩ => ⟨Z, F, ρ, r, ha.mono ρ _ _ (fun ds hd vs F1 H1 g1 reps => by
    split at hd
    · rename_i xs ys
      obtain ⟨v, v2, rfl, rep, rep2⟩ := reps.two
      obtain ⟨a, us, rfl, e1, e2, e3⟩ := rep.lst g1.b
      obtain ⟨a', us', rfl, e1', e2', e3'⟩ := rep2.lst g1.b
      refine ⟨a, a', us, us', rfl, .inl ⟨SqL.of e1, SqL.of e1', hd _ F1 H1 g1 fun F2 H2 i g2 => ?_⟩⟩
      have w1 := g2.h _ _ e3 e1
      have w2 := g2.h _ _ e3' e1'
      refine ⟨fun ei => ⟨us, us', SqL.of w1, SqL.of w2, ?_⟩, fun d hd => ?_⟩
      · rw [e2.length, e2'.length, ei]; exact zipD_len
      · obtain ⟨x, y, hx, hy, rfl⟩ := zipD_get hd
        obtain ⟨v, e4, e5⟩ := e2.get hx
        obtain ⟨v', e4', e5'⟩ := e2'.get hy
        refine ⟨⟨us, us', v, v', SqL.of w1, SqL.of w2, e4, e4'⟩, fun z H' yy => ?_⟩
        obtain ⟨T, z1, z2, rfl, hT, rfl, f1, f2⟩ := yy
        have g1' := f1 us (SqL.of w1)
        have g2' := f2 us' (SqL.of w2)
        rw [e4] at g1'
        rw [e4'] at g2'
        cases g1'
        cases g2'
        exact turn_pair g2.b hT (Rep.ex g2.f _ _ e5) (Rep.ex g2.f _ _ e5')
    · rename_i xs ys
      obtain ⟨v, v2, rfl, rep, rep2⟩ := reps.two
      obtain ⟨a, us, rfl, e1, e2, e3⟩ := rep.tup g1.b
      obtain ⟨a', us', rfl, e1', e2', e3'⟩ := rep2.tup g1.b
      refine ⟨a, a', us, us', rfl, .inr ⟨e1, e1', hd _ F1 H1 g1 fun F2 H2 i g2 => ?_⟩⟩
      have w1 := sqt_ex g2.b.fh (sqt_ex g2.f e3)
      have w2 := sqt_ex g2.b.fh (sqt_ex g2.f e3')
      refine ⟨fun ei => ⟨us, us', w1, w2, ?_⟩, fun d hd => ?_⟩
      · rw [e2.length, e2'.length, ei]; exact zipD_len
      · obtain ⟨x, y, hx, hy, rfl⟩ := zipD_get hd
        obtain ⟨v, e4, e5⟩ := e2.get hx
        obtain ⟨v', e4', e5'⟩ := e2'.get hy
        refine ⟨⟨us, us', v, v', w1, w2, e4, e4'⟩, fun z H' yy => ?_⟩
        obtain ⟨T, z1, z2, rfl, hT, rfl, f1, f2⟩ := yy
        have g1' := f1 us w1
        have g2' := f2 us' w2
        rw [e4] at g1'
        rw [e4'] at g2'
        cases g1'
        cases g2'
        exact turn_pair g2.b hT (Rep.ex g2.f _ _ e5) (Rep.ex g2.f _ _ e5')
    · exact hd.elim) q⟩⟩

/-! ### loops -/
def loopK (n : REnv → Prop) (k : Kt) : Kt := { nx := n, ct := n, bk := k.nx, rt := k.rt }
theorem loopK_le {a b : REnv → Prop} {k l : Kt} (h : ∀ ρ, a ρ → b ρ) (hk : Kt.le k l) : Kt.le (loopK a k) (loopK b l) := ⟨h, hk.2.1, hk.1, h⟩
def whN (t : ST) (s : SS) : Nat → SS
  | 0 => fun _ _ => False
  | n + 1 => fun ρ k => t ρ fun b => br b (s ρ (loopK (fun ρ' => whN t s n ρ' k) k)) (k.nx ρ)
def whS (t : ST) (s : SS) : SS := fun ρ k => ∃ n, whN t s n ρ k
theorem whN_mono {t : ST} (mt : MonoE t) (ms : MonoS s) : ∀ n, MonoS (whN t s n)
  | 0 => fun _ _ _ _ q => q
  | n + 1 => fun ρ k l hk q => mt ρ _ _ (fun b hb => br_imp hb (fun z => ms ρ (loopK (fun ρ' => whN t s n ρ' k) k) _ (loopK_le (fun ρ' y => whN_mono mt ms n ρ' k l hk y) hk) z) (hk.1 _)) q
theorem S.wh {tt : ST} {xs : List Stmt} (ht : T X c tt) (hs : Ss X xs s) (h : PS X st (tWhile (TTof X.K tt) (TSof X.K s))) : S X st (whS tt s) :=
  ⟨fun ρ k l hk ⟨n, q⟩ => ⟨n, whN_mono ht.mono hs.mono n ρ k l hk q⟩, PS.weak h fun D σ H ⟨Z, F, ρ, r, n, q⟩ => by
    refine ⟨fun m σ' H' => ∃ F' ρ', Ex F F' ∧ R X.K Z F' ρ' σ' H' ∧ whN tt s m ρ' (kOf X.K Z F D), ⟨n, F, ρ, Ex.refl _, r, q⟩, ?_⟩
    rintro m σ' H' ⟨F', ρ', ex, r', q'⟩
    cases m with
    | zero => exact q'.elim
    | succ m =>
      refine ⟨Z, F', ρ', r', ht.mono ρ' _ _ (fun b hb F2 H2 g2 => br_ite (br_imp hb (fun z => ?_) (fun z => z σ' F2 H2 (ex.trans g2.f) (r'.grow g2)))) q'⟩
      refine ⟨fun σ3 H3 => ∃ F3 ρ3, Ex F F3 ∧ R X.K Z F3 ρ3 σ3 H3 ∧ whN tt s m ρ3 (kOf X.K Z F D), fun σ3 H3 h3 => ⟨m, Nat.lt_succ_self m, h3⟩, ?_⟩
      refine ⟨Z, F2, ρ', r'.grow g2, hs.mono ρ' (loopK (fun ρ3 => whN tt s m ρ3 (kOf X.K Z F D)) (kOf X.K Z F D)) _ ⟨fun ρ3 y σ3 F3 H3 e3 r3 => ⟨F3, ρ3, (ex.trans g2.f).trans e3, r3, y⟩, fun d y v F3 H3 e3 b3 rep => y v F3 H3 ((ex.trans g2.f).trans e3) b3 rep, fun ρ3 y σ3 F3 H3 e3 r3 => y σ3 F3 H3 ((ex.trans g2.f).trans e3) r3, fun ρ3 y σ3 F3 H3 e3 r3 => ⟨F3, ρ3, (ex.trans g2.f).trans e3, r3, y⟩⟩ z⟩⟩
def forL (g : SG) (s : SS) : List D → SS
  | [] => fun ρ k => k.nx ρ
  | d :: ds => fun ρ k => g d ρ fun ρ1 => s ρ1 (loopK (fun ρ' => forL g s ds ρ' k) k)
theorem forL_mono {g : SG} (mg : MonoG g) (ms : MonoS s) : ∀ ds, MonoS (forL g s ds)
  | [] => fun _ _ _ hk q => hk.1 _ q
  | d :: ds => fun ρ k l hk q => mg d ρ _ _ (fun ρ1 z => ms ρ1 (loopK (fun ρ' => forL g s ds ρ' k) k) _ (loopK_le (fun ρ' y => forL_mono mg ms ds ρ' k l hk y) hk) z) q
def forS (it : SA) (g : SG) (s : SS) : SS := fun ρ k => it ρ fun xs => forL g s xs ρ k
theorem S.for {tg iter : Expr} {it : SA} {is : List Nat} {g : SG} {xs : List Stmt} (hi : I X tg iter it) (hg : G X tg is g) (hs : Ss X xs s) (h : PS X st (tFor (TIof X.K it) (TGof X.K is g) (TSof X.K s))) : S X st (forS it g s) :=
  ⟨fun ρ k l hk q => hi.mono ρ _ _ (fun ds hd => forL_mono hg.mono hs.mono ds ρ k l hk hd) q, PS.weak h fun D σ H ⟨Z, F, ρ, r, q⟩ => by
    refine ⟨Z, F, ρ, r, hi.mono ρ _ _ (fun ds hd J F1 H1 g1 hit => ?_) q⟩
    refine ⟨fun i m σ' H' => m = ds.length - i ∧ i ≤ ds.length ∧ ∃ F' ρ', Ex F1 F' ∧ R X.K Z F' ρ' σ' H' ∧ forL g s (ds.drop i) ρ' (kOf X.K Z F D), ⟨ds.length, by simp, Nat.zero_le _, F1, ρ, Ex.refl _, r.grow g1, hd⟩, ?_⟩
    rintro i m σ' H' ⟨rfl, hle, F', ρ', ex, r', q'⟩
    obtain ⟨t1, t2⟩ := hit F' H' i ex r'.base
    by_cases hlt : i < ds.length
    · right
      have hdrop : ds.drop i = ds[i] :: ds.drop (i + 1) := List.drop_eq_getElem_cons hlt
      rw [hdrop] at q'
      obtain ⟨t3, t4⟩ := t2 ds[i] (List.getElem?_eq_getElem hlt)
      refine ⟨t3, fun σ3 H3 => ∃ F3 ρ3, Ex F1 F3 ∧ R X.K Z F3 ρ3 σ3 H3 ∧ forL g s (ds.drop (i + 1)) ρ3 (kOf X.K Z F D), fun σ3 H3 h3 => ⟨ds.length - (i + 1), by omega, rfl, hlt, h3⟩, fun x H2 y => ?_⟩
      obtain ⟨F2, g2, rep⟩ := t4 x H2 y
      refine ⟨Z, F2, ρ', ds[i], r'.grow g2, rep, hg.mono _ ρ' _ _ (fun ρ1 z σ1 r1 _ => ⟨Z, F2, ρ1, r1, hs.mono ρ1 (loopK (fun ρ3 => forL g s (ds.drop (i + 1)) ρ3 (kOf X.K Z F D)) (kOf X.K Z F D)) _ ?_ z⟩) q'⟩
      have ex2 : Ex F1 F2 := ex.trans g2.f
      exact ⟨fun ρ3 y σ3 F3 H3 e3 r3 => ⟨F3, ρ3, ex2.trans e3, r3, y⟩, fun d y v F3 H3 e3 b3 rep => y v F3 H3 (g1.f.trans (ex2.trans e3)) b3 rep, fun ρ3 y σ3 F3 H3 e3 r3 => y σ3 F3 H3 (g1.f.trans (ex2.trans e3)) r3, fun ρ3 y σ3 F3 H3 e3 r3 => ⟨F3, ρ3, ex2.trans e3, r3, y⟩⟩
    · left
      have e : i = ds.length := by omega
      subst e
      rw [List.drop_length] at q'
      exact ⟨t1 rfl, q' σ' F' H' (g1.f.trans ex) r'⟩⟩

/-! ### comprehensions -/
def lcL (g : SG) (t : ST) (f : SE) (ρ : REnv) : List D → (List D → Prop) → Prop
  | [], Q => Q []
  | d :: ds, Q => g d ρ fun ρ1 => t ρ1 fun b => br b (f ρ1 fun y => lcL g t f ρ ds fun ys => Q (y :: ys)) (lcL g t f ρ ds Q)
theorem lcL_mono {g : SG} {t : ST} (mg : MonoG g) (mt : MonoE t) (mf : MonoE f) {ρ : REnv} : ∀ (ds : List D) (P Q : List D → Prop), (∀ d, P d → Q d) → lcL g t f ρ ds P → lcL g t f ρ ds Q
  | [], _, _, h, q => h _ q
  | d :: ds, P, Q, h, q => mg d ρ _ _ (fun ρ1 z => mt ρ1 _ _ (fun b hb => br_imp hb (fun z => mf ρ1 _ _ (fun y hy => lcL_mono mg mt mf ds _ _ (fun ys hys => h _ hys) hy) z) (fun z => lcL_mono mg mt mf ds _ _ h z)) z) q
def wipeE (ρ : REnv) : List Nat → REnv
  | [] => ρ
  | v :: vs => (wipeE ρ vs).set v none
theorem R.wipe {K : Kf} {Z : Zs} {F H : Hp} {ρ : REnv} {σ : L2.St} (r : R K Z F ρ σ H) : ∀ vs : List Nat, R K Z F (wipeE ρ vs) (wipe σ vs) H
  | [] => r
  | v :: vs => by
    have q := R.wipe r vs
    unfold wipeE L2.wipe
    have key : ∀ (j : Nat) (s : Slot), ((wipeE ρ vs).set v none)[j]? = some (some s) → v ≠ j ∧ (wipeE ρ vs)[j]? = some (some s) := fun j s e => by
      by_cases hj : v = j
      · subst hj
        rw [List.getElem?_set] at e
        simp only [if_true] at e
        split at e <;> cases e
      · rw [List.getElem?_set_ne hj] at e; exact ⟨hj, e⟩
    refine ⟨q.base, by rw [List.length_set, List.length_set]; exact q.len, fun j s e => ?_, fun i j ds es a e1 e2 e3 e4 => ?_⟩
    · obtain ⟨hj, e⟩ := key j s e
      have w := q.slot j s e
      cases s with
      | sh d => obtain ⟨u, e1, e2⟩ := w; exact ⟨u, by rw [List.getElem?_set_ne hj]; exact e1, e2⟩
      | own ds => obtain ⟨u, us, e1, e2⟩ := w; exact ⟨u, us, by rw [List.getElem?_set_ne hj]; exact e1, e2⟩
    · obtain ⟨h1, e1⟩ := key i _ e1
      obtain ⟨h2, e2⟩ := key j _ e2
      rw [List.getElem?_set_ne h1] at e3
      rw [List.getElem?_set_ne h2] at e4
      exact q.apart i j ds es a e1 e2 e3 e4
def lcA (it : SA) (g : SG) (t : ST) (f : SE) (vs : List Nat) : SA := fun ρ Q => it ρ fun xs => xs.length ≤ big ∧ lcL g t f (wipeE ρ vs) xs Q
theorem lc_tp {K : Kf} {it : SA} {g : SG} {t : ST} {is vs : List Nat} (mi : MonoE it) (mg : MonoG g) (mt : MonoE t) (mf : MonoE f) (hv : ∀ i ∈ is, i ∈ vs) : ∀ σ H Q, TFof K (lcA it g t f vs) σ H Q →
    tLc (TIGof K it) (TGof K is g) (TTof K t) (TEof K f) vs σ H Q := fun σ H Q ⟨Z, F, ρ, r, q⟩ => by
  refine ⟨Z, F, ρ, r, mi ρ _ _ (fun xs hx J F1 H1 g1 hit => ?_) q⟩
  intro D hD
  obtain ⟨hlen, hx⟩ := hx
  have r1 := r.grow g1
  have nrow := g1.b.norow hD
  have hF1 : F1 D = none := g1.b.fh.none hD
  -- the heap without the list that grows
  refine ⟨fun i m H' => m = xs.length - i ∧ i ≤ xs.length ∧ ∃ F' acc us, Gr K Z F1 H1 F' H' ∧ F' D = none ∧ H' D = some (.lst us) ∧ Reps K Z.rw F' acc us ∧ acc.length ≤ i ∧ lcL g t f (wipeE ρ vs) (xs.drop i) (fun ys => ∀ p us F' H', Gr K Z F H F' H' → H p = none → Fresh Z F' ρ σ p → H' p = some (.lst us) → Reps K Z.rw F' (acc ++ ys) us → Q (.ref p) H'), ⟨xs.length, by simp, Nat.zero_le _, F1, [], [], g1.b.lay0 hD, hF1, upd_same, rfl, Nat.zero_le _, ?_⟩, ?_⟩
  · simpa using hx
  rintro i m H' ⟨rfl, hle, F', acc, us, g2, hFD, hHD, reps, hacc, q'⟩
  obtain ⟨t1, t2⟩ := hit F' H' i g2
  by_cases hlt : i < xs.length
  · right
    have hdrop : xs.drop i = xs[i] :: xs.drop (i + 1) := List.drop_eq_getElem_cons hlt
    rw [hdrop] at q'
    obtain ⟨t3, t4⟩ := t2 xs[i] (List.getElem?_eq_getElem hlt)
    refine ⟨t3, fun H3 => ∃ F3 acc us, Gr K Z F1 H1 F3 H3 ∧ F3 D = none ∧ H3 D = some (.lst us) ∧ Reps K Z.rw F3 acc us ∧ acc.length ≤ i + 1 ∧ lcL g t f (wipeE ρ vs) (xs.drop (i + 1)) (fun ys => ∀ p us F' H', Gr K Z F H F' H' → H p = none → Fresh Z F' ρ σ p → H' p = some (.lst us) → Reps K Z.rw F' (acc ++ ys) us → Q (.ref p) H'), fun H3 h3 => ⟨xs.length - (i + 1), by omega, rfl, hlt, h3⟩, fun x H2 y => ?_⟩
    obtain ⟨F2, g3, rep⟩ := t4 x H2 y
    have keepD : ∀ {Fa Ha Fb Hb : Hp}, Gr K Z Fa Ha Fb Hb → Fa D = none → Ha D = some (.lst us) → Fb D = none ∧ Hb D = some (.lst us) := fun {Fa Ha Fb Hb} gg h1 h2 => by
      refine ⟨?_, gg.h D _ nrow h2⟩
      cases z : Fb D with
      | none => rfl
      | some o =>
        rcases gg.n D (by rw [z]; simp) with w | w
        · exact absurd h1 w
        · rw [h2] at w; cases w
    obtain ⟨d1, d2⟩ := keepD g3 hFD hHD
    refine ⟨Z, F2, wipeE ρ vs, xs[i], ((r.grow g1).grow (g2.trans g3)).wipe vs, rep, mg _ _ _ _ (fun ρ1 z σ1 r1' hw => ⟨by rw [hw vs hv]; exact wipe_wipe, Z, F2, ρ1, r1', mt ρ1 _ _ (fun b hb F4 H4 g4 => ?_) z⟩) q'⟩
    obtain ⟨d3, d4⟩ := keepD g4 d1 d2
    refine br_ite (br_imp hb (fun z => ?_) (fun z => ?_))
    · refine ⟨Z, F4, ρ1, r1'.grow g4, mf ρ1 _ _ (fun yv hy v F5 H5 g5 rep5 => ?_) z⟩
      obtain ⟨d5, d6⟩ := keepD g5 d3 d4
      have gg : Gr K Z F1 H1 F5 H5 := (g2.trans g3).trans (g4.trans g5)
      refine ⟨us, d6, by rw [reps.length]; exact big_lt (by have := hlen; omega), F5, acc ++ [yv], us ++ [v], ?_, d5, upd_same, Reps.app (Reps.ex ((g3.trans g4).trans g5).f _ _ reps) (Reps.one rep5), by rw [List.length_append]; simp; exact hacc, ?_⟩
      · -- the list at D has grown: it is not frozen, not the row, not at the entry
        have hH1 : H1 D = none := hD
        refine ⟨gg.f, fun a o n e => ?_, ⟨fun a u e => ?_, gg.b.f0, fun a u n e => ?_, gg.b.new, fun a e => ?_, gg.b.frow⟩, gg.n⟩
        · rw [upd_ne (ne_of_none e hH1)]; exact gg.h a o n e
        · rw [upd_ne (fun z : a = D => by rw [z, d5] at e; cases e)]; exact gg.b.fh a u e
        · rw [upd_ne (fun z : a = D => by rw [z, g1.b.h0 hD] at e; cases e)]; exact gg.b.hh a u n e
        · obtain ⟨sc, ns, p, mm, tt, w1, w2, w3⟩ := gg.b.row a e
          refine ⟨sc, ns, p, mm, tt, ?_, w2.keep fun o q => ?_, w3⟩
          · rw [upd_ne (fun z : a = D => nrow (by rw [← z]; exact e))]; exact w1
          · rw [upd_ne (fun z : sc = D => by rw [z, d6] at q; cases q)]; exact q
      · refine lcL_mono mg mt mf _ _ _ (fun ys hys p us' F' H' g' h0 fr hp reps' => hys p us' F' H' g' h0 fr hp ?_) hy
        rw [List.append_assoc] at reps'
        exact reps'
    · exact ⟨F4, acc, us, (g2.trans g3).trans g4, d3, d4, Reps.ex (g3.trans g4).f _ _ reps, Nat.le_succ_of_le hacc, z⟩
  · left
    have e : i = xs.length := by omega
    subst e
    rw [List.drop_length] at q'
    have q2 := q' D us F' H' (g1.trans g2) (back_none r.base g1 hD) ⟨hFD, g1.b.h0 hD, nrow, own_ne (r.grow g1) hD⟩ hHD (by rw [List.append_nil]; exact reps)
    exact ⟨t1 rfl, q2⟩
end

/-! ### comprehensions, the rules -/
structure Tl (X : Cx) (ifs : List Expr) (f : ST) : Prop where
  mono : MonoE f
  run : PTs X ifs (TTof X.K f)
section
variable {X : Cx} {e a b c : Expr} {f g k : SE} {pos : Pos} {st : Stmt} {rest : List Stmt} {s t : SS}
def yesT : ST := fun _ Q => Q true
theorem PTs.weak {ifs : List Expr} {t t' : TT} (h : PTs X ifs t) (hw : ∀ σ H Q, t' σ H Q → t σ H Q) : PTs X ifs t' := ⟨fun pins s σ H Q I q => h.run pins s σ H Q I (hw σ H Q q)⟩
theorem Tl.nil : Tl X [] yesT := ⟨fun _ _ _ h q => h _ q, PTs.weak pts_nil fun σ H Q ⟨Z, F, ρ, r, q⟩ => q F H (Gr.refl r.base)⟩
theorem Tl.one {f : ST} (h : T X c f) : Tl X [c] f := ⟨h.mono, pts_one h.run⟩
abbrev Blk (X : Cx) (scope : Scope) (p : Cx → Prop) : Prop := ∀ (s : Shared) (H : Hp) (C : Addr) (cl : List (Str × Addr)) (fp : List Addr), p (X.blk s H scope (compEnvC scope cl C X.env) fp)
theorem Blk.any {scope : Scope} {p : Cx → Prop} (h : Blk X scope p) : ∃ Y, p Y := ⟨_, h X.s_0 X.H_0 0 [] []⟩
theorem F.lc {elt tg iter : Expr} {ifs : List Expr} {scope : Scope} {own : List (Str × Nat)} {it : SA} {is : List Nat} {gg : SG} {tt : ST} (hc : X.calm = true) (hN : X.N.Nodup) (ok : BlkOk X.N X.env.scope scope own) (hv : ∀ i ∈ is, i ∈ own.map (·.2))
    (hi : Ig X tg iter it) (hg : Blk X scope fun Y => G Y tg is gg) (ht : Blk X scope fun Y => Tl Y ifs tt) (he : Blk X scope fun Y => E Y elt f) (hs : ∀ x, foldedSetIterable iter X.env x = pure x := by intro _; rfl) :
    F X (.ListComp elt [⟨tg, iter, ifs, 0⟩] scope pos) (lcA it gg tt f (own.map (·.2))) := by
  obtain ⟨_, mg⟩ := Blk.any hg
  obtain ⟨_, mt⟩ := Blk.any ht
  obtain ⟨_, me⟩ := Blk.any he
  exact ⟨fun ρ P Q h q => hi.mono ρ _ _ (fun xs hx => ⟨hx.1, lcL_mono mg.mono mt.mono me.mono _ _ _ h hx.2⟩) q,
    PE.weak (pe_lc hc hN hi.run ok (fun s H C cl fp => (hg s H C cl fp).run) (fun s H C cl fp => (ht s H C cl fp).run) (fun s H C cl fp => (he s H C cl fp).run) hs) (lc_tp hi.mono mg.mono mt.mono me.mono hv)⟩
/-- y = [..], y a local: a list of one's own -/
theorem S.lcO {i : Nat} {y : Str} {py spos : Pos} {elt tg iter : Expr} {ifs : List Expr} {scope : Scope} {own : List (Str × Nat)} {it : SA} {is : List Nat} {gg : SG} {tt : ST} (hc : X.calm = true) (hN : X.N.Nodup) (hy : X.N[i]? = some y) (hyl : X.env.scope.names.lookup y = some .local)
    (hsw : swapsWith (.ListComp elt [⟨tg, iter, ifs, 0⟩] scope pos) (some (.Name y py)) spos.line X.env = pure true) (ok : BlkOk X.N X.env.scope scope own) (hv : ∀ i ∈ is, i ∈ own.map (·.2))
    (hi : Ig X tg iter it) (hg : Blk X scope fun Y => G Y tg is gg) (ht : Blk X scope fun Y => Tl Y ifs tt) (he : Blk X scope fun Y => E Y elt f) (hs : ∀ x, foldedSetIterable iter X.env x = pure x := by intro _; rfl) :
    S X (.Assign [.Name y py] (.ListComp elt [⟨tg, iter, ifs, 0⟩] scope pos) spos) (Z0.setO i (lcA it gg tt f (own.map (·.2)))) := by
  obtain ⟨_, mg⟩ := Blk.any hg
  obtain ⟨_, mt⟩ := Blk.any ht
  obtain ⟨_, me⟩ := Blk.any he
  have mm : MonoE (lcA it gg tt f (own.map (·.2))) := fun ρ P Q h q => hi.mono ρ _ _ (fun xs hx => ⟨hx.1, lcL_mono mg.mono mt.mono me.mono _ _ _ h hx.2⟩) q
  exact ⟨setO_mono mm, PS.weak (ps_setLc hc hN hy hyl hsw hi.run ok (fun s H C cl fp => (hg s H C cl fp).run) (fun s H C cl fp => (ht s H C cl fp).run) (fun s H C cl fp => (he s H C cl fp).run) hs)
    fun D σ H q => lc_tp hi.mono mg.mono mt.mono me.mono hv σ H _ (setO_tp mm D σ H q)⟩
/-- .. a datum at once -/
theorem S.lc {i : Nat} {y : Str} {py spos : Pos} {elt tg iter : Expr} {ifs : List Expr} {scope : Scope} {own : List (Str × Nat)} {it : SA} {is : List Nat} {gg : SG} {tt : ST} (hc : X.calm = true) (hN : X.N.Nodup) (hy : X.N[i]? = some y) (hyl : X.env.scope.names.lookup y = some .local)
    (hsw : swapsWith (.ListComp elt [⟨tg, iter, ifs, 0⟩] scope pos) (some (.Name y py)) spos.line X.env = pure true) (ok : BlkOk X.N X.env.scope scope own) (hv : ∀ i ∈ is, i ∈ own.map (·.2))
    (hi : Ig X tg iter it) (hg : Blk X scope fun Y => G Y tg is gg) (ht : Blk X scope fun Y => Tl Y ifs tt) (he : Blk X scope fun Y => E Y elt f) (hs : ∀ x, foldedSetIterable iter X.env x = pure x := by intro _; rfl) :
    S X (.Assign [.Name y py] (.ListComp elt [⟨tg, iter, ifs, 0⟩] scope pos) spos) (setS i (fun ρ Q => lcA it gg tt f (own.map (·.2)) ρ fun ds => Q (.lst ds))) := by
  obtain ⟨_, mg⟩ := Blk.any hg
  obtain ⟨_, mt⟩ := Blk.any ht
  obtain ⟨_, me⟩ := Blk.any he
  have mm : MonoE (lcA it gg tt f (own.map (·.2))) := fun ρ P Q h q => hi.mono ρ _ _ (fun xs hx => ⟨hx.1, lcL_mono mg.mono mt.mono me.mono _ _ _ h hx.2⟩) q
  refine ⟨fun ρ k l hk q => mm ρ _ _ (fun ds hd => hk.1 _ hd) q, PS.weak (ps_setLc hc hN hy hyl hsw hi.run ok (fun s H C cl fp => (hg s H C cl fp).run) (fun s H C cl fp => (ht s H C cl fp).run) (fun s H C cl fp => (he s H C cl fp).run) hs)
    fun D σ H q => lc_tp hi.mono mg.mono mt.mono me.mono hv σ H _ ?_⟩
  obtain ⟨Z, F, ρ, r, q⟩ := q
  refine ⟨Z, F, ρ, r, mm ρ _ _ (fun ds hd p vs F' H' g h0 fr hp rs => ?_) q⟩
  have g2 := freeze r g fr hp h0
  exact hd _ _ H' g2.f ((r.grow g2).setSh i (v := .ref p) ⟨p, vs, rfl, upd_same, Reps.ex (Ex.upd fr.1) _ _ rs⟩)
end

/-! ### operators -/
def small (j : Int) : Prop := j.natAbs < 2 ^ 8000
theorem small_of {j : Int} (h : j.natAbs < 2 ^ 200) : small j := Nat.lt_of_lt_of_le h (Nat.pow_le_pow_right (by decide) (by decide))
def mulOk (i j : Int) : Prop := i.natAbs < 2 ^ 64 ∨ j.natAbs < 2 ^ 64 ∨ (i.natAbs < 2 ^ 400000 ∧ j.natAbs < 2 ^ 400000)
theorem mulOk_ok {i j : Int} (h : mulOk i j) : IntMulOk i j := by
  rcases h with h | h | ⟨h, h'⟩
  · exact CMul.ok (.inl (by omega))
  · exact CMul.ok (.inr (by omega))
  · exact (wide_mul h h' (by decide) (by decide) (by decide)).ok
section
variable {X : Cx}
theorem op_mulS : OpR X (binaryOp .Mult) (rI mulOk fun i j => .int (i * j)) := opI fun _ _ _ _ _ _ _ hc q => mul_int q (mulOk_ok hc)
theorem op_fdivS : OpR X (binaryOp .FloorDiv) (rI (fun _ j => j ≠ 0 ∧ small j) fun i j => .int (i.fdiv j)) := opI fun i j _ _ _ _ _ hc q =>
  floordiv_int hc.1 q (.inl (PyProof.noPylong_of_log2 (Nat.lt_of_lt_of_le (PySem.Flt.log2_lt_of (by decide) hc.2) (by decide))))
end
section
variable {K : Kf}
def intO (C : Int → Int → Prop) (p : Int → Int → D) : O2 := fun x y Q => match x, y with
  | .int i, .int j => C i j ∧ Q (p i j)
  | _, _ => False
theorem intO_mono {C : Int → Int → Prop} {p : Int → Int → D} : Mono2 (intO C p) := fun x y P Q h q => by
  unfold intO at *
  split at q
  · exact ⟨q.1, h _ q.2⟩
  · exact q.elim
theorem intO_s {C : Int → Int → Prop} {p : Int → Int → D} {v : Int → Int → V} (hp : ∀ i j rw F, Rep K rw F (p i j) (v i j)) : OpS K (rI C v) (intO C p) := fun Z F H dx dy x y Q b rx ry q => by
  unfold intO at q
  split at q
  · rename_i i j
    exact ⟨i, j, rx.int, ry.int, q.1, q.2 _ F H (Gr.refl b) (hp i j _ _)⟩
  · exact q.elim
def int0 (p : Int → Int → D) : O2 := fun x y Q => match x, y with
  | .int i, .int j => Q (p i j)
  | _, _ => False
theorem int0_mono {p : Int → Int → D} : Mono2 (int0 p) := fun x y P Q h q => by
  unfold int0 at *
  split at q
  · exact h _ q
  · exact q.elim
theorem int0_s {p : Int → Int → D} {v : Int → Int → V} (hp : ∀ i j rw F, Rep K rw F (p i j) (v i j)) : OpS K (rI0 v) (int0 p) := fun Z F H dx dy x y Q b rx ry q => by
  unfold int0 at q
  split at q
  · rename_i i j
    exact ⟨i, j, rx.int, ry.int, q _ F H (Gr.refl b) (hp i j _ _)⟩
  · exact q.elim
theorem OpS.or1 {r r' : R2} {o : O2} (h : OpS K r o) : OpS K (fun x y H Q => r x y H Q ∨ r' x y H Q) o := fun Z F H dx dy x y Q b rx ry q => .inl (h Z F H dx dy x y Q b rx ry q)
abbrev subO : O2 := int0 fun i j => .int (i - j)
abbrev ltO : O2 := int0 fun i j => .bl (decide (i < j))
abbrev leO : O2 := int0 fun i j => .bl (decide (i ≤ j))
abbrev gtO : O2 := int0 fun i j => .bl (decide (j < i))
abbrev geO : O2 := int0 fun i j => .bl (decide (j ≤ i))
abbrev modO : O2 := intO (fun _ j => j ≠ 0) fun i j => .int (i.fmod j)
abbrev fdivO : O2 := intO (fun _ j => j ≠ 0 ∧ small j) fun i j => .int (i.fdiv j)
abbrev powO : O2 := intO CPow fun i j => .int (i ^ j.toNat)
/-- ints, tuples, lists -/
def addO : O2 := fun x y Q => match x, y with
  | .int i, .int j => Q (.int (i + j))
  | .tup xs, .tup ys => xs.length + ys.length ≤ big ∧ Q (.tup (xs ++ ys))
  | .lst xs, .lst ys => xs.length + ys.length ≤ big ∧ Q (.lst (xs ++ ys))
  | _, _ => False
theorem addO_mono : Mono2 addO := fun x y P Q h q => by
  unfold addO at *
  split at q
  · exact h _ q
  · exact ⟨q.1, h _ q.2⟩
  · exact ⟨q.1, h _ q.2⟩
  · exact q.elim
theorem addO_s : OpS K (fun x y H Q => rI0 (fun i j => .int (i + j)) x y H Q ∨ (rCatA K x y H Q ∨ rCat x y H Q)) addO := fun Z F H dx dy x y Q b rx ry q => by
  unfold addO at q
  split at q
  · rename_i i j
    exact .inl ⟨i, j, rx.int, ry.int, q _ F H (Gr.refl b) rfl⟩
  · rename_i xs ys
    obtain ⟨a, us, rfl, e1, e2, e3⟩ := rx.tup b
    obtain ⟨a', us', rfl, e1', e2', e3'⟩ := ry.tup b
    refine .inr (.inl ⟨a, a', us, us', rfl, rfl, e1, e1', by rw [e2.length, e2'.length]; exact big_line q.1, fun z => ?_, fun _ z => ?_, fun _ _ p hp => ?_⟩)
    · have hx : xs = [] := List.eq_nil_of_length_eq_zero (by rw [← e2.length, z]; rfl)
      subst hx
      exact q.2 _ F H (Gr.refl b) ⟨a', us', rfl, e3', e2'⟩
    · have hy : ys = [] := List.eq_nil_of_length_eq_zero (by rw [← e2'.length, z]; rfl)
      subst hy
      exact q.2 _ F H (Gr.refl b) ⟨a, us, rfl, e3, by rw [List.append_nil]; exact e2⟩
    · exact q.2 _ _ _ (b.lay hp) ⟨p, _, rfl, .inl (.inl upd_same), Reps.ex (Ex.upd (b.fh.none hp)) _ _ (Reps.app e2 e2')⟩
  · rename_i xs ys
    obtain ⟨a, us, rfl, e1, e2, _⟩ := rx.lst b
    obtain ⟨a', us', rfl, e1', e2', _⟩ := ry.lst b
    exact .inr (.inr ⟨a, a', us, us', rfl, rfl, e1, e1', by rw [e2.length, e2'.length]; exact big_line q.1, fun p hp => q.2 _ _ _ (b.lay hp) ⟨p, _, rfl, upd_same, Reps.ex (Ex.upd (b.fh.none hp)) _ _ (Reps.app e2 e2')⟩⟩)
  · exact q.elim
/-- lists alone, a new list -/
def catF : OF2 := fun x y Q => match x, y with
  | .lst xs, .lst ys => xs.length + ys.length ≤ big ∧ Q (xs ++ ys)
  | _, _ => False
theorem catF_mono : MonoF2 catF := fun x y P Q h q => by
  unfold catF at *
  split at q
  · exact ⟨q.1, h _ q.2⟩
  · exact q.elim
theorem catF_s : OpF K rCat catF := fun Z F H dx dy x y Q b rx ry q => by
  unfold catF at q
  split at q
  · obtain ⟨a, us, rfl, e1, e2, _⟩ := rx.lst b
    obtain ⟨a', us', rfl, e1', e2', _⟩ := ry.lst b
    exact ⟨a, a', us, us', rfl, rfl, e1, e1', by rw [e2.length, e2'.length]; exact big_line q.1, fun p hp => q.2 p _ hp (Reps.app e2 e2')⟩
  · exact q.elim
/-- ints, a list by a number -/
def mulO : O2 := intO mulOk fun i j => .int (i * j)
def repF : OF2 := fun x y Q => match x, y with
  | .lst xs, .int k => (k < 2 ^ 63 ∧ -(2 ^ 63) ≤ k ∧ xs.length * k.toNat ≤ big) ∧ Q (List.replicate k.toNat xs).flatten
  | _, _ => False
theorem repF_mono : MonoF2 repF := fun x y P Q h q => by
  unfold repF at *
  split at q
  · exact ⟨q.1, h _ q.2⟩
  · exact q.elim
theorem Reps.rep {K : Kf} {rw : Option Addr} {F : Hp} {ds : List D} {vs : List V} (h : Reps K rw F ds vs) : ∀ k : Nat, Reps K rw F (List.replicate k ds).flatten (List.replicate k vs).flatten
  | 0 => rfl
  | k + 1 => by
    rw [List.replicate_succ, List.replicate_succ, List.flatten_cons, List.flatten_cons]
    exact Reps.app h (Reps.rep h k)
theorem repF_s : OpF K rRep repF := fun Z F H dx dy x y Q b rx ry q => by
  unfold repF at q
  split at q
  · rename_i xs k
    obtain ⟨a, us, rfl, e1, e2, _⟩ := rx.lst b
    exact ⟨a, k, us, rfl, ry.int, e1, q.1.2.1, q.1.1, by rw [e2.length]; exact big_line q.1.2.2, fun p hp => q.2 p _ hp (Reps.rep e2 _)⟩
  · exact q.elim
def negO : O1 := fun x Q => match x with
  | .int i => Q (.int (-i))
  | _ => False
theorem negO_mono : Mono1 negO := fun x P Q h q => by
  unfold negO at *
  split at q
  · exact h _ q
  · exact q.elim
theorem negO_s : UnS K (rU fun i => .int (-i)) negO := fun Z F H dx x Q b rx q => by
  unfold negO at q
  split at q
  · rename_i i
    exact ⟨i, rx.int, q _ F H (Gr.refl b) rfl⟩
  · exact q.elim

/-! ### equality of data -/
mutual
def D.py : D → PyData
  | .non => .none
  | .bl b => .bool b
  | .int i => .int i
  | .str x => .str x
  | .tup ds => .tuple (D.pyl ds)
  | .lst ds => .list (D.pyl ds)
  | .row => .none
  | .ty _ => .none
def D.pyl : List D → List PyData
  | [] => []
  | d :: ds => d.py :: D.pyl ds
end
mutual
def D.pure : D → Bool
  | .tup ds => D.purel ds
  | .lst ds => D.purel ds
  | .row => false
  | .ty _ => false
  | _ => true
def D.purel : List D → Bool
  | [] => true
  | d :: ds => d.pure && D.purel ds
end
def okD (d : D) : Bool := d.pure && SeqAt.shaped d.py
def eqD (x y : D) : Bool := PyData.eqv x.py y.py
mutual
theorem dp_of {Z : Zs} {F H : Hp} (b : Base K Z F H) : ∀ (d : D) (v : V), d.pure = true → Rep K Z.rw F d v → Dp K H v d.py
  | .non, v, _, h => by cases (show v = .non from h); exact .non
  | .bl c, v, _, h => by cases (show v = .bl c from h); exact .bl c
  | .int i, v, _, h => by cases (show v = .int i from h); exact .int i
  | .str x, v, _, h => by cases (show v = .str x from h); exact .str x
  | .tup ds, v, p, h => by
    obtain ⟨a, vs, rfl, e1, e2⟩ := (show ∃ a vs, v = V.ref a ∧ SqT _ F a vs ∧ Reps _ _ _ ds vs from h)
    exact .tup (sqt_ex b.fh e1) (dps_of b ds vs p e2)
  | .lst ds, v, p, h => by
    obtain ⟨a, vs, rfl, e1, e2⟩ := (show ∃ a vs, v = V.ref a ∧ F a = some (.lst vs) ∧ Reps _ _ _ ds vs from h)
    exact .lst (SqL.of (b.fh _ _ e1)) (dps_of b ds vs p e2)
theorem dps_of {Z : Zs} {F H : Hp} (b : Base K Z F H) : ∀ (ds : List D) (vs : List V), D.purel ds = true → Reps K Z.rw F ds vs → DpAll K H vs (D.pyl ds)
  | [], vs, _, h => by cases (show vs = [] from h); exact .nil
  | d :: ds, vs, p, h => by
    obtain ⟨v, r, rfl, h1, h2⟩ := (show ∃ v r, vs = v :: r ∧ Rep _ _ _ d v ∧ Reps _ _ _ ds r from h)
    have p' := Bool.and_eq_true_iff.mp (show (d.pure && D.purel ds) = true from p)
    exact .cons (dp_of b d v p'.1 h1) (dps_of b ds r p'.2 h2)
end
theorem dp_ofP {Z : Zs} {F H : Hp} (b : Base K Z F H) {d : D} {v : V} (p : d.pure = true) (h : RepP K Z.rw F H d v) : Dp K H v d.py := by
  rcases h with h | ⟨ds, a, vs, rfl, rfl, e1, e2, _⟩
  · exact dp_of b d v p h
  · exact .lst (SqL.of e1) (dps_of b ds vs p e2)
def eqO : O2 := fun x y Q => match x, y with
  | .int i, .int j => Q (.bl (decide (i = j)))
  | x, y => okD x = true ∧ okD y = true ∧ Q (.bl (eqD x y))
def neO : O2 := fun x y Q => match x, y with
  | .int i, .int j => Q (.bl (!decide (i = j)))
  | x, y => okD x = true ∧ okD y = true ∧ Q (.bl (!eqD x y))
theorem eqO_mono : Mono2 eqO := fun x y P Q h q => by
  unfold eqO at *
  split at q
  · exact h _ q
  · exact ⟨q.1, q.2.1, h _ q.2.2⟩
theorem neO_mono : Mono2 neO := fun x y P Q h q => by
  unfold neO at *
  split at q
  · exact h _ q
  · exact ⟨q.1, q.2.1, h _ q.2.2⟩
theorem okD_int (i : Int) : okD (.int i) = true := by
  show (true && SeqAt.shaped (.int i)) = true
  rfl
theorem eqO_s : OpS K (rEqD K) eqO := fun Z F H dx dy x y Q b rx ry q => by
  have key : ∀ (dx dy : D), RepP K Z.rw F H dx x → RepP K Z.rw F H dy y → okD dx = true → okD dy = true → Q (.bl (eqD dx dy)) H → rEqD K x y H Q := fun dx dy rx ry h1 h2 q => by
    have p1 := Bool.and_eq_true_iff.mp h1
    have p2 := Bool.and_eq_true_iff.mp h2
    exact ⟨dx.py, dy.py, dp_ofP b p1.1 rx, dp_ofP b p2.1 ry, p1.2, p2.2, q⟩
  unfold eqO at q
  split at q
  · exact key _ _ rx ry (okD_int _) (okD_int _) (q _ F H (Gr.refl b) rfl)
  · exact key _ _ rx ry q.1 q.2.1 (q.2.2 _ F H (Gr.refl b) rfl)
theorem neO_s : OpS K (rNeD K) neO := fun Z F H dx dy x y Q b rx ry q => by
  have key : ∀ (dx dy : D), RepP K Z.rw F H dx x → RepP K Z.rw F H dy y → okD dx = true → okD dy = true → Q (.bl (!eqD dx dy)) H → rNeD K x y H Q := fun dx dy rx ry h1 h2 q => by
    have p1 := Bool.and_eq_true_iff.mp h1
    have p2 := Bool.and_eq_true_iff.mp h2
    exact ⟨dx.py, dy.py, dp_ofP b p1.1 rx, dp_ofP b p2.1 ry, p1.2, p2.2, q⟩
  unfold neO at q
  split at q
  · exact key _ _ rx ry (okD_int _) (okD_int _) (q _ F H (Gr.refl b) rfl)
  · exact key _ _ rx ry q.1 q.2.1 (q.2.2 _ F H (Gr.refl b) rfl)
def isN : D → Bool
  | .non => true
  | _ => false
def isO : O2 := fun x y Q => match y with
  | .non => Q (.bl (isN x))
  | _ => False
def isnO : O2 := fun x y Q => match y with
  | .non => Q (.bl (!isN x))
  | _ => False
theorem isN_v {rw : Option Addr} {F H : Hp} {d : D} {v : V} (h : RepP K rw F H d v) : decide (v = V.non) = isN d := by
  cases d with
  | non => rw [h.non]; rfl
  | bl b => rw [h.bl]; rfl
  | int i => rw [h.int]; rfl
  | str x => rw [h.str]; rfl
  | tup ds =>
    rcases h with ⟨a, vs, rfl, _⟩ | ⟨_, _, _, e, _⟩
    · rfl
    · cases e
  | lst ds =>
    rcases h with ⟨a, vs, rfl, _⟩ | ⟨_, _, _, _, rfl, _⟩
    · rfl
    · rfl
  | row =>
    rcases h with ⟨a, _, rfl⟩ | ⟨_, _, _, e, _⟩
    · rfl
    · cases e
  | ty t =>
    rcases h with h | ⟨_, _, _, e, _⟩
    · rw [show v = _ from h]; rfl
    · cases e
theorem isO_mono : Mono2 isO := fun x y P Q h q => by
  unfold isO at *
  split at q
  · exact h _ q
  · exact q.elim
theorem isnO_mono : Mono2 isnO := fun x y P Q h q => by
  unfold isnO at *
  split at q
  · exact h _ q
  · exact q.elim
theorem isO_s : OpS K (fun x y H Q => y = .non ∧ Q (.bl (decide (x = .non))) H) isO := fun Z F H dx dy x y Q b rx ry q => by
  unfold isO at q
  split at q
  · rw [isN_v rx]; exact ⟨ry.non, q _ F H (Gr.refl b) rfl⟩
  · exact q.elim
theorem isnO_s : OpS K (fun x y H Q => y = .non ∧ Q (.bl (!decide (x = .non))) H) isnO := fun Z F H dx dy x y Q b rx ry q => by
  unfold isnO at q
  split at q
  · rw [isN_v rx]; exact ⟨ry.non, q _ F H (Gr.refl b) rfl⟩
  · exact q.elim
end

/-! ### built-in calls -/
section
variable {K : Kf}
def intsD : List D → Option (List Int)
  | [] => some []
  | d :: ds => match d with
    | .int i => (match intsD ds with
      | some ns => some (i :: ns)
      | none => none)
    | _ => none
theorem intsD_map : ∀ ns : List Int, intsD (ns.map D.int) = some ns
  | [] => rfl
  | n :: ns => by
    show (match intsD (ns.map D.int) with | some ms => some (n :: ms) | none => none) = _
    rw [intsD_map ns]
theorem intsD_eq : ∀ {ds : List D} {ns : List Int}, intsD ds = some ns → ds = ns.map D.int
  | [], _, h => by cases h; rfl
  | d :: ds, ns, h => by
    unfold intsD at h
    split at h
    · split at h
      · rename_i i _ ms hm
        cases h
        rw [intsD_eq hm]; rfl
      · cases h
    · cases h
/-- a builtin of one list of ints -/
def onInts (d : D) (p : List Int → Prop) : Prop := match d with
  | .lst ds => (match intsD ds with
    | some ns => p ns
    | none => False)
  | _ => False
theorem onInts_imp {d : D} {p q : List Int → Prop} (h : onInts d p) (hpq : ∀ ns, p ns → q ns) : onInts d q := by
  unfold onInts at *
  split at h
  · split at h
    · exact hpq _ h
    · exact h
  · exact h
theorem onInts_at {Z : Zs} {F H : Hp} {d : D} {v : V} {p : List Int → Prop} (b : Base K Z F H) (r : RepP K Z.rw F H d v) (h : onInts d p) : ∃ a ns, v = V.ref a ∧ SqL K H a (ns.map V.int) ∧ H a = some (.lst (ns.map V.int)) ∧ p ns := by
  unfold onInts at h
  split at h
  · split at h
    · rename_i ds ns hns
      obtain ⟨a, vs, rfl, e1, e2, _⟩ := r.lst b
      rw [intsD_eq hns] at e2
      have := e2.ints
      subst this
      exact ⟨a, ns, rfl, SqL.of e1, e1, h⟩
    · exact h.elim
  · exact h.elim
def call1 (o : O1) : OC := fun ds Q => match ds with
  | [d] => o d Q
  | _ => False
theorem call1_mono {o : O1} (mo : Mono1 o) : MonoC (call1 o) := fun ds P Q h q => by
  unfold call1 at *
  split at q
  · exact mo _ _ _ h q
  · exact q.elim
theorem call1_s {o : O1} {r : List V → Hp → VK → Prop} (h : ∀ (Z : Zs) (F H : Hp) (d : D) (v : V) (Q : VK), Base K Z F H → RepP K Z.rw F H d v → (o d fun d => ∀ v F' H', Gr K Z F H F' H' → Rep K Z.rw F' d v → Q v H') → r [v] H Q) : CallS K r (call1 o) := fun Z F H ds vs Q b reps q => by
  unfold call1 at q
  split at q
  · obtain ⟨v, rfl, rep⟩ := reps.one
    exact h Z F H _ v Q b rep q
  · exact q.elim
def absO : O1 := fun x Q => match x with
  | .int i => Q (.int (if i < 0 then -i else i))
  | _ => False
theorem absO_mono : Mono1 absO := fun x P Q h q => by
  unfold absO at *
  split at q
  · exact h _ q
  · exact q.elim
theorem abs_s : CallS K (fun xs H Q => ∃ i, xs = [.int i] ∧ Q (.int (if i < 0 then -i else i)) H) (call1 absO) := call1_s fun Z F H d v Q b r q => by
  unfold absO at q
  split at q
  · exact ⟨_, by rw [r.int], q _ F H (Gr.refl b) rfl⟩
  · exact q.elim
def lenO : O1 := fun x Q => match x with
  | .lst ds => Q (.int ds.length)
  | .tup ds => Q (.int ds.length)
  | .str x => x.length ≤ big ∧ Q (.int x.length)
  | _ => False
theorem lenO_mono : Mono1 lenO := fun x P Q h q => by
  unfold lenO at *
  split at q
  · exact h _ q
  · exact h _ q
  · exact ⟨q.1, h _ q.2⟩
  · exact q.elim
theorem len_s : CallS K (fun xs H Q => (∃ p ys, xs = [.ref p] ∧ (SqL K H p ys ∨ SqT K H p ys) ∧ Q (.int ys.length) H) ∨ (∃ z, xs = [.str z] ∧ z.length ≤ sizeLine ∧ Q (.int z.length) H)) (call1 lenO) := call1_s fun Z F H d v Q b r q => by
  unfold lenO at q
  split at q
  · obtain ⟨a, vs, rfl, e1, e2, _⟩ := r.lst b
    exact .inl ⟨a, vs, rfl, .inl (SqL.of e1), q _ F H (Gr.refl b) (by rw [e2.length]; rfl)⟩
  · obtain ⟨a, vs, rfl, e1, e2, _⟩ := r.tup b
    exact .inl ⟨a, vs, rfl, .inr e1, q _ F H (Gr.refl b) (by rw [e2.length]; rfl)⟩
  · exact .inr ⟨_, by rw [r.str], big_line q.1, q.2 _ F H (Gr.refl b) rfl⟩
  · exact q.elim
def toIntO : O1 := fun x Q => match x with
  | .int i => Q (.int i)
  | .bl b => Q (.int (if b then 1 else 0))
  | _ => False
theorem toIntO_mono : Mono1 toIntO := fun x P Q h q => by
  unfold toIntO at *
  split at q
  · exact h _ q
  · exact h _ q
  · exact q.elim
theorem toInt_s : CallS K (fun xs H Q => (∃ i, xs = [.int i] ∧ Q (.int i) H) ∨ ∃ k, xs = [.bl k] ∧ Q (.int (if k then 1 else 0)) H) (call1 toIntO) := call1_s fun Z F H d v Q b r q => by
  unfold toIntO at q
  split at q
  · exact .inl ⟨_, by rw [r.int], q _ F H (Gr.refl b) rfl⟩
  · exact .inr ⟨_, by rw [r.bl], q _ F H (Gr.refl b) rfl⟩
  · exact q.elim
def sumO : O1 := fun x Q => onInts x fun ns => Q (.int ns.sum)
theorem sumO_mono : Mono1 sumO := fun x P Q h q => onInts_imp q fun ns => h _
theorem sum_s : CallS K (rSum K) (call1 sumO) := call1_s fun Z F H d v Q b r q => by
  obtain ⟨a, ns, rfl, e1, _, q⟩ := onInts_at b r q
  exact ⟨a, ns, rfl, e1, q _ F H (Gr.refl b) rfl⟩
def maxI : List Int → Int
  | [] => 0
  | [n] => n
  | n :: m :: r => max n (maxI (m :: r))
def minI : List Int → Int
  | [] => 0
  | [n] => n
  | n :: m :: r => min n (minI (m :: r))
theorem maxI_mem : ∀ {ns : List Int}, ns ≠ [] → maxI ns ∈ ns ∧ ∀ y ∈ ns, y ≤ maxI ns
  | [], h => absurd rfl h
  | [n], _ => ⟨List.mem_cons_self, fun y hy => by rcases List.mem_cons.mp hy with e | e; exact Int.le_of_eq e; cases e⟩
  | n :: m :: r, _ => by
    obtain ⟨h1, h2⟩ := maxI_mem (ns := m :: r) (by simp)
    refine ⟨?_, fun y hy => ?_⟩
    · show max n (maxI (m :: r)) ∈ _
      rcases Int.le_total n (maxI (m :: r)) with z | z
      · rw [Int.max_eq_right z]; exact List.mem_cons_of_mem _ h1
      · rw [Int.max_eq_left z]; exact List.mem_cons_self
    · show y ≤ max n (maxI (m :: r))
      rcases List.mem_cons.mp hy with e | e
      · rw [e]; exact Int.le_max_left _ _
      · exact Int.le_trans (h2 y e) (Int.le_max_right _ _)
theorem minI_mem : ∀ {ns : List Int}, ns ≠ [] → minI ns ∈ ns ∧ ∀ y ∈ ns, minI ns ≤ y
  | [], h => absurd rfl h
  | [n], _ => ⟨List.mem_cons_self, fun y hy => by rcases List.mem_cons.mp hy with e | e; exact Int.le_of_eq e.symm; cases e⟩
  | n :: m :: r, _ => by
    obtain ⟨h1, h2⟩ := minI_mem (ns := m :: r) (by simp)
    refine ⟨?_, fun y hy => ?_⟩
    · show min n (minI (m :: r)) ∈ _
      rcases Int.le_total n (minI (m :: r)) with z | z
      · rw [Int.min_eq_left z]; exact List.mem_cons_self
      · rw [Int.min_eq_right z]; exact List.mem_cons_of_mem _ h1
    · show min n (minI (m :: r)) ≤ y
      rcases List.mem_cons.mp hy with e | e
      · rw [e]; exact Int.min_le_left _ _
      · exact Int.le_trans (Int.min_le_right _ _) (h2 y e)
def maxO : O1 := fun x Q => onInts x fun ns => ns ≠ [] ∧ Q (.int (maxI ns))
def minO : O1 := fun x Q => onInts x fun ns => ns ≠ [] ∧ Q (.int (minI ns))
theorem maxO_mono : Mono1 maxO := fun x P Q h q => onInts_imp q fun ns z => ⟨z.1, h _ z.2⟩
theorem minO_mono : Mono1 minO := fun x P Q h q => onInts_imp q fun ns z => ⟨z.1, h _ z.2⟩
theorem max_s : CallS K (rMax K) (call1 maxO) := call1_s fun Z F H d v Q b r q => by
  obtain ⟨a, ns, rfl, e1, _, hne, q⟩ := onInts_at b r q
  refine ⟨a, ns, rfl, e1, List.length_pos_iff.mpr hne, fun m h1 h2 => ?_⟩
  have e : m = maxI ns := Int.le_antisymm ((maxI_mem hne).2 m h1) (h2 _ (maxI_mem hne).1)
  rw [e]; exact q _ F H (Gr.refl b) rfl
theorem min_s : CallS K (rMin K) (call1 minO) := call1_s fun Z F H d v Q b r q => by
  obtain ⟨a, ns, rfl, e1, _, hne, q⟩ := onInts_at b r q
  refine ⟨a, ns, rfl, e1, List.length_pos_iff.mpr hne, fun m h1 h2 => ?_⟩
  have e : m = minI ns := Int.le_antisymm (h2 _ (minI_mem hne).1) ((minI_mem hne).2 m h1)
  rw [e]; exact q _ F H (Gr.refl b) rfl
def max2O : OC := fun ds Q => match ds with
  | [.int i, .int j] => Q (.int (if j > i then j else i))
  | _ => False
def min2O : OC := fun ds Q => match ds with
  | [.int i, .int j] => Q (.int (if j < i then j else i))
  | _ => False
theorem max2O_mono : MonoC max2O := fun ds P Q h q => by
  unfold max2O at *
  split at q
  · exact h _ q
  · exact q.elim
theorem min2O_mono : MonoC min2O := fun ds P Q h q => by
  unfold min2O at *
  split at q
  · exact h _ q
  · exact q.elim
theorem max2_s : CallS K (fun xs H Q => ∃ i j, xs = [.int i, .int j] ∧ Q (.int (if j > i then j else i)) H) max2O := fun Z F H ds vs Q b reps q => by
  unfold max2O at q
  split at q
  · obtain ⟨v, v2, rfl, r1, r2⟩ := reps.two
    exact ⟨_, _, by rw [r1.int, r2.int], q _ F H (Gr.refl b) rfl⟩
  · exact q.elim
theorem min2_s : CallS K (fun xs H Q => ∃ i j, xs = [.int i, .int j] ∧ Q (.int (if j < i then j else i)) H) min2O := fun Z F H ds vs Q b reps q => by
  unfold min2O at q
  split at q
  · obtain ⟨v, v2, rfl, r1, r2⟩ := reps.two
    exact ⟨_, _, by rw [r1.int, r2.int], q _ F H (Gr.refl b) rfl⟩
  · exact q.elim
/-- list(x), tuple(x) of a list or a tuple -/
def listF : OF := fun ds Q => match ds with
  | [.lst xs] => Q xs
  | [.tup xs] => Q xs
  | _ => False
theorem listF_mono : MonoF listF := fun ds P Q h q => by
  unfold listF at *
  split at q
  · exact h _ q
  · exact h _ q
  · exact q.elim
theorem list_s : CallF K (fun xs H Q => ∃ p ys, xs = [.ref p] ∧ (SqL K H p ys ∨ SqT K H p ys) ∧ ∀ l, H l = none → Q (.ref l) (upd H l (.lst ys))) listF := fun Z F H ds vs Q b reps q => by
  unfold listF at q
  split at q
  · obtain ⟨v, rfl, r⟩ := reps.one
    obtain ⟨a, us, rfl, e1, e2, _⟩ := r.lst b
    exact ⟨a, us, rfl, .inl (SqL.of e1), fun l hl => q l us hl e2⟩
  · obtain ⟨v, rfl, r⟩ := reps.one
    obtain ⟨a, us, rfl, e1, e2, _⟩ := r.tup b
    exact ⟨a, us, rfl, .inr e1, fun l hl => q l us hl e2⟩
  · exact q.elim
def tupleO : O1 := fun x Q => match x with
  | .lst xs => Q (.tup xs)
  | .tup xs => Q (.tup xs)
  | _ => False
theorem tupleO_mono : Mono1 tupleO := fun x P Q h q => by
  unfold tupleO at *
  split at q
  · exact h _ q
  · exact h _ q
  · exact q.elim
theorem tuple_s : CallS K (fun xs H Q => ∃ p ys, xs = [.ref p] ∧ ((SqL K H p ys ∧ ∀ l, H l = none → Q (.ref l) (upd H l (.tup ys))) ∨ (SqT K H p ys ∧ Q (.ref p) H))) (call1 tupleO) := call1_s fun Z F H d v Q b r q => by
  unfold tupleO at q
  split at q
  · obtain ⟨a, us, rfl, e1, e2, _⟩ := r.lst b
    exact ⟨a, us, rfl, .inl ⟨SqL.of e1, fun l hl => q _ _ _ (b.lay hl) ⟨l, us, rfl, .inl (.inl upd_same), Reps.ex (Ex.upd (b.fh.none hl)) _ _ e2⟩⟩⟩
  · obtain ⟨a, us, rfl, e1, e2, e3⟩ := r.tup b
    exact ⟨a, us, rfl, .inr ⟨e1, q _ F H (Gr.refl b) ⟨a, us, rfl, e3, e2⟩⟩⟩
  · exact q.elim
/-- sorted of ints -/
def ins (n : Int) : List Int → List Int
  | [] => [n]
  | m :: r => if n ≤ m then n :: m :: r else m :: ins n r
def isort : List Int → List Int
  | [] => []
  | n :: r => ins n (isort r)
theorem ins_perm (n : Int) : ∀ l : List Int, (ins n l).Perm (n :: l)
  | [] => List.Perm.refl _
  | m :: r => by
    unfold ins
    split
    · exact List.Perm.refl _
    · exact ((ins_perm n r).cons m).trans (List.Perm.swap n m r)
theorem isort_perm : ∀ l : List Int, (isort l).Perm l
  | [] => List.Perm.refl _
  | n :: r => (ins_perm n _).trans ((isort_perm r).cons n)
theorem ins_sorted (n : Int) : ∀ {l : List Int}, l.Pairwise (· ≤ ·) → (ins n l).Pairwise (· ≤ ·)
  | [], _ => by simp [ins]
  | m :: r, h => by
    obtain ⟨h1, h2⟩ := List.pairwise_cons.mp h
    unfold ins
    split
    · rename_i hle
      refine List.pairwise_cons.mpr ⟨fun a ha => ?_, h⟩
      rcases List.mem_cons.mp ha with e | e
      · rw [e]; exact hle
      · exact Int.le_trans hle (h1 a e)
    · rename_i hle
      refine List.pairwise_cons.mpr ⟨fun a ha => ?_, ins_sorted n h2⟩
      rcases List.mem_cons.mp ((ins_perm n r).mem_iff.mp ha) with e | e
      · rw [e]; omega
      · exact h1 a e
theorem isort_sorted : ∀ l : List Int, (isort l).Pairwise (· ≤ ·)
  | [] => List.Pairwise.nil
  | n :: r => ins_sorted n (isort_sorted r)
theorem sorted_one : ∀ {l m : List Int}, l.Perm m → l.Pairwise (· ≤ ·) → m.Pairwise (· ≤ ·) → l = m
  | [], m, p, _, _ => (List.nil_perm.mp p).symm
  | a :: l, [], p, _, _ => by have := p.length_eq; simp at this
  | a :: l, b :: m, p, h1, h2 => by
    obtain ⟨g1, g2⟩ := List.pairwise_cons.mp h1
    obtain ⟨k1, k2⟩ := List.pairwise_cons.mp h2
    have e : a = b := by
      have ha : a ∈ b :: m := p.mem_iff.mp List.mem_cons_self
      have hb : b ∈ a :: l := p.mem_iff.mpr List.mem_cons_self
      rcases List.mem_cons.mp ha with e | e
      · exact e
      · rcases List.mem_cons.mp hb with e' | e'
        · exact e'.symm
        · exact Int.le_antisymm (g1 b e') (k1 a e)
    subst e
    rw [sorted_one (List.Perm.cons_inv p) g2 k2]
def sortF : OF := fun ds Q => match ds with
  | [d] => onInts d fun ns => Q ((isort ns).map D.int)
  | _ => False
theorem sortF_mono : MonoF sortF := fun ds P Q h q => by
  unfold sortF at *
  split at q
  · exact onInts_imp q fun ns z => h _ z
  · exact q.elim
theorem sort_s : CallF K (L2.rSortedI K) sortF := fun Z F H ds vs Q b reps q => by
  unfold sortF at q
  split at q
  · obtain ⟨v, rfl, r⟩ := reps.one
    obtain ⟨a, ns, rfl, e1, _, q⟩ := onInts_at b r q
    refine ⟨a, ns, rfl, e1, fun ns' p h1 h2 hp => ?_⟩
    have e : ns' = isort ns := sorted_one (h1.trans (isort_perm ns).symm) h2 (isort_sorted ns)
    subst e
    exact q p _ hp Reps.of_ints
  · exact q.elim
/-- list(range(..)) -/
def lrgF (f : SA) : SA := fun ρ Q => f ρ fun ds => match ds with
  | [.int j] => (-(2 ^ 62) ≤ j ∧ j ≤ big) ∧ Q (rngD 0 j)
  | [.int i, .int j] => (-(2 ^ 62) ≤ i ∧ i < 2 ^ 62 ∧ -(2 ^ 62) ≤ j ∧ j < 2 ^ 62 ∧ (j - i).toNat ≤ big) ∧ Q (rngD i j)
  | _ => False

/-! ### isinstance -/
def isB : D → Ty → Bool
  | .bl _, .bool => true
  | .bl _, .int => true
  | .int _, .int => true
  | .str _, .str => true
  | .tup _, .tuple => true
  | .lst _, .list => true
  | _, _ => false
def isiO : OC := fun ds Q => match ds with
  | [x, .ty t] => (match x with
    | .row => False
    | .ty _ => False
    | x => Q (.bl (isB x t)))
  | [x, .tup [.ty t, .ty u]] => (match x with
    | .row => False
    | .ty _ => False
    | x => Q (.bl (isB x t || isB x u)))
  | _ => False
theorem isiO_mono : MonoC isiO := fun ds P Q h q => by
  unfold isiO at *
  split at q
  · split at q
    · exact q
    · exact q
    · exact h _ q
  · split at q
    · exact q
    · exact q
    · exact h _ q
  · exact q.elim
def tyN : D → String
  | .bl _ => "bool"
  | .int _ => "int"
  | .str _ => "str"
  | .tup _ => "tuple"
  | .lst _ => "list"
  | _ => "NoneType"
theorem tyx_of {Z : Zs} {F H : Hp} {d : D} {v : V} (b : Base K Z F H) (r : RepP K Z.rw F H d v) (h1 : d ≠ .row) (h2 : ∀ t, d ≠ .ty t) : TyX K H v (.type (tyN d)) := by
  cases d with
  | non => rw [r.non]; exact .base .non
  | bl c => rw [r.bl]; exact .base (.bl c)
  | int i => rw [r.int]; exact .base (.int i)
  | str x => rw [r.str]; exact .base (.str x)
  | lst ds =>
    obtain ⟨a, vs, rfl, e1, _⟩ := r.lst b
    exact .base (.lst e1)
  | tup ds =>
    obtain ⟨a, vs, rfl, e1, _⟩ := r.tup b
    rcases e1 with (e1 | ⟨o, e1⟩) | ⟨o, its, n, e1, e2, _⟩
    · exact .base (.tup e1)
    · exact .fTuple e1
    · exact .kTuple e1 e2
  | row => exact absurd rfl h1
  | ty t => exact absurd rfl (h2 t)
theorem kit_is (d : D) (t : Ty) : PySem.W.kitOne K (.type (tyN d)) (.type t.name) = some (isB d t) := by
  cases d <;> cases t <;> exact kit_ty (by kernel_rfl)
def rIsiA (K : Kf) : List V → Hp → VK → Prop := fun xs H Q => rIsi K xs H Q ∨ ∃ (x : V) (tp : Addr) (cs : List V) (t : Value) (us : List Value) (b : Bool), xs = [x, .ref tp] ∧ SqT K H tp cs ∧ Paired ClsV cs us ∧ TyX K H x t ∧ PySem.W.kitAny K t us = some b ∧ Q (.bl b) H
theorem call_isiA {X : Cx} : CallR X (.builtin "isinstance") (rIsiA X.K) := by
  intro pins s σ H xs us Q I r h
  rcases h with h | h
  · exact call_isi pins s σ H xs us Q I r h
  · obtain ⟨x, tp, cs, t, ws, b, rfl, hT, k, ty, e, q⟩ := h
    obtain ⟨u1, u2, rfl, r1, r2⟩ := vals2 r
    cases (show u2 = Value.ref tp from r2)
    obtain ⟨P, Z, p, hx⟩ := kit_of I r1 ty
    obtain ⟨its, rv, ⟨o, h1, h2, n, h3⟩, _⟩ := I.tuple hT
    have e3 := ClsV.all k rv
    subst e3
    obtain ⟨oc, od, dt, sl⟩ := o
    simp only at h2 h3
    subst h2 h3
    exact PySem.W.kia_tup Z I.kIn p h1 e hx fun tk => ⟨.bl b, H, I.tok tk, rfl, q⟩
theorem RepP.ty {rw : Option Addr} {F H : Hp} {t : Ty} {v : V} (h : RepP K rw F H (.ty t) v) : v = .ty t.name := by
  rcases h with h | ⟨ds, a, vs, e1, _⟩
  · exact h
  · cases e1
theorem isi_s : CallS K (rIsiA K) isiO := fun Z F H ds vs Q b reps q => by
  unfold isiO at q
  split at q
  · rename_i x t
    obtain ⟨v, v2, rfl, r1, r2⟩ := reps.two
    split at q
    · exact q.elim
    · exact q.elim
    · rename_i h1 h2
      exact .inl ⟨v, _, _, _, _, by rw [r2.ty], .ty _, tyx_of b r1 h1 h2, kit_is x t, q _ F H (Gr.refl b) rfl⟩
  · rename_i x t u
    obtain ⟨v, v2, rfl, r1, r2⟩ := reps.two
    split at q
    · exact q.elim
    · exact q.elim
    · rename_i h1 h2
      obtain ⟨a, us, rfl, e1, e2, _⟩ := r2.tup b
      obtain ⟨w1, s1, rfl, g1, w2, s2, rfl, g2, g3⟩ := (show ∃ w1 s1, us = w1 :: s1 ∧ Rep K Z.rw F (.ty t) w1 ∧ ∃ w2 s2, s1 = w2 :: s2 ∧ Rep K Z.rw F (.ty u) w2 ∧ s2 = [] from e2)
      subst g3
      cases (show w1 = .ty t.name from g1)
      cases (show w2 = .ty u.name from g2)
      refine .inr ⟨v, a, _, _, [.type t.name, .type u.name], isB x t || isB x u, rfl, e1, .cons (.ty _) (.cons (.ty _) .nil), tyx_of b r1 h1 h2, ?_, q _ F H (Gr.refl b) rfl⟩
      refine kitAny_cons (kit_is x t) (fun z => ?_) (fun z => by rw [z]; rfl)
      rw [z, Bool.false_or]
      exact kitAny_cons (kit_is x u) (fun z => by rw [z]; rfl) (fun z => z)
  · exact q.elim
end
section
variable {X : Cx}
theorem E.tyv {x : Str} {t : Ty} {pos : Pos} (hg : Gl X x) (hm : X.mg x = none) (hv : bootBuiltins x = some (.type t.name)) (hn : x ≠ "__name__" := by decide) (hd : (x == ("__debug__" : Str)) = false := by decide) : E X (.Name x pos) (cE (.ty t)) :=
  E.cst (v := .ty t.name) (fun _ _ _ => rfl) (pe_bltn hg hm hv rfl hn hd)
end

/-! ### a def of the text -/
section
variable {P : Program} {w : World} {K : Kf} {mg : Str → Option Value} {base : Heap}
def startE (N : List Str) (ds : List D) : REnv := ds.map (fun d => some (Slot.sh d)) ++ List.replicate (N.length - ds.length) none
theorem R.start {rw : Option Addr} {F H : Hp} {N : List Str} {ds : List D} {vs : List V} (b : Base K ⟨rw, H, F⟩ F H) (h : Reps K rw F ds vs) : R K ⟨rw, H, F⟩ F (startE N ds) (L2.start N vs) H := by
  have hl := h.length
  have key : ∀ (i : Nat) (s : Slot), (startE N ds)[i]? = some (some s) → ∃ d v, s = .sh d ∧ (L2.start N vs)[i]? = some (some v) ∧ Rep K rw F d v := fun i s e => by
    unfold startE at e
    unfold L2.start
    by_cases hi : i < ds.length
    · rw [List.getElem?_append_left (by simpa using hi), List.getElem?_map, List.getElem?_eq_getElem hi] at e
      cases e
      obtain ⟨v, e1, e2⟩ := h.get (List.getElem?_eq_getElem hi)
      refine ⟨_, v, rfl, ?_, e2⟩
      rw [List.getElem?_append_left (by simpa [hl] using hi), List.getElem?_map, e1]; rfl
    · rw [List.getElem?_append_right (by simpa using hi), List.getElem?_replicate] at e
      split at e <;> cases e
  refine ⟨b, ?_, fun i s e => ?_, fun i j ds' es a e1 e2 e3 e4 => ?_⟩
  · unfold startE L2.start
    rw [List.length_append, List.length_append, List.length_map, List.length_map, List.length_replicate, List.length_replicate, hl]
  · obtain ⟨d, v, rfl, e1, e2⟩ := key i s e
    exact ⟨v, e1, e2⟩
  · obtain ⟨d, v, e, _⟩ := key i _ e1
    cases e
abbrev endK (Q : D → Prop) : Kt := { nx := fun _ => Q .non, rt := Q, bk := fun _ => False, ct := fun _ => False }
/-- the context of a def's body -/
abbrev bodyX (P : Program) (w : World) (K : Kf) (mg : Str → Option Value) (base : Heap) (N : List Str) (qual : Str) (scope : Scope) (f : Addr) (cdv : Value) (A : Around) (outer : List Env) (s : Shared) (H : Hp) (E : XK) : Cx := (cxOf CX0 P w K mg base N qual scope f cdv A outer s H E).nox
theorem fn_ok {x qual : Str} {params : Arguments} {body : List Stmt} {scope : Scope} {f : Addr} {fd : FuncData} {N ps : List Str} {k n : Nat} {G : OC} (Fn : FunD K x qual params body scope [] [] f fd) (Sc : FnScope N ps scope) (hn : ps.length = n) {sem : SS}
    (hb : ∀ (cdv : Value) (A : Around) (outer : List Env) (s : Shared) (H : Hp) (E : XK), Room k (A.deeper (envOfC qual scope s.heap.objs.size f cdv)) → Ss (bodyX P w K mg base N qual scope f cdv A outer s H E) body sem)
    (hG : ∀ ds Q, ds.length = n → G ds Q → sem (startE N ds) (endK Q)) : FnOk P w K mg base CX0 (k + 1) f fd ps (spOf K n G) := by
  refine Fn.ok Sc (fun vs H Q E h => h.1.trans hn.symm) (fun cdv A outer s H vs Q E hr h => ?_)
  obtain ⟨hl, rw, F, ds, b, reps, q⟩ := h
  have hS := hb cdv A outer s H E hr
  refine ⟨_, hS.run.nox, ⟨rw, H, F⟩, F, startE N ds, R.start b reps, ?_⟩
  have q2 := hG ds _ (reps.length.symm.trans hl) q
  exact hS.mono _ (endK _) _ ⟨fun ρ h σ' F' H' e r => h .non F' H' r.base rfl, fun d h v F' H' e b rep => h v F' H' b rep, fun _ h => h.elim, fun _ h => h.elim⟩ q2
end

/-! ### the head's facts, with tuples of the module -/
section
open He
def obsZ (fa : List Fa) (fn : List DefD) (tb : List (Str × List Dv)) (K : PySem.W.Frag) : AlD := (((fa.all fun f => f.ok K) && fn.all fun d => d.ok K) && tb.all fun t => tupB K t.1 t.2, fn.map fun d => fnW K d.at_)
def SaysZ (fa : List Fa) (fn : List DefD) (tb : List (Str × List Dv)) (K : PySem.W.Frag) : Prop := obsZ fa fn tb K = valD fn
def obsZG (n : Nat) (fa : List Fa) (fn : List DefD) (tb : List (Str × List Dv)) (g : Addr → Option Obj) : AlD := obsZ fa fn tb (frG g (asD g n))
def hookZ (n : Nat) (fa : List Fa) (fn : List DefD) (tb : List (Str × List Dv)) : PySem.W.Hook where
  α := AlD
  obs := fun s => obsZG n fa fn tb s.heap.get?
  val := fun _ => valD fn
  says := fun _ h => ∃ K : PySem.W.Frag, K.In h ∧ SaysZ fa fn tb K
  of := fun _ _ e => ⟨_, frG_in, e⟩
  keeps := fun _ _ _ ⟨K, hK, c⟩ k => ⟨K, PySem.W.Frag.In.keeps hK k, c⟩
theorem obsZG_eq {n : Nat} {fa : List Fa} {fn : List DefD} {tb : List (Str × List Dv)} {g : Addr → Option Obj} {s : Shared} (h : ∀ a, g a = s.heap.get? a) : obsZG n fa fn tb g = (hookZ n fa fn tb).obs s := by
  have e : g = s.heap.get? := funext h
  rw [e] <;> rfl
section
variable {fa : List Fa} {fn : List DefD} {tb : List (Str × List Dv)} {K : PySem.W.Frag}
theorem SaysZ.all (c : SaysZ fa fn tb K) : ((fa.all fun f => f.ok K) = true ∧ (fn.all fun d => d.ok K) = true) ∧ (tb.all fun t => tupB K t.1 t.2) = true := by
  have c1 := ba (show (((fa.all fun f => f.ok K) && fn.all fun d => d.ok K) && tb.all fun t => tupB K t.1 t.2) = true from congrArg (fun z : AlD => z.1) c)
  exact ⟨ba c1.1, c1.2⟩
theorem SaysZ.fact (c : SaysZ fa fn tb K) (i : Nat) {f : Fa} (h : fa[i]? = some f := by rfl) : f.ok K = true := List.all_eq_true.mp c.all.1.1 f (List.mem_of_getElem? h)
theorem SaysZ.tup (c : SaysZ fa fn tb K) (i : Nat) {t : Str × List Dv} (h : tb[i]? = some t := by rfl) (H : Hp) : SqT K H (ga K t.1) (t.2.map (Dv.v K)) := tupB_ok (List.all_eq_true.mp c.all.2 t (List.mem_of_getElem? h)) H
theorem SaysZ.def_ (c : SaysZ fa fn tb K) (i : Nat) {d : DefD} (h : fn[i]? = some d := by rfl) : ∃ fd, FunD K d.name d.qual d.params d.body d.scope (d.dvs K) (d.kws K) (fAd K d.at_) fd := by
  have e : fn.map (fun d => fnW K d.at_) = fn.map DefD.val := congrArg (fun z : AlD => z.2) c
  have e2 : (fn.map fun d => fnW K d.at_)[i]? = (fn.map DefD.val)[i]? := by rw [e]
  rw [List.getElem?_map, List.getElem?_map, h] at e2
  exact DefD.funD (Option.some.inj e2) (List.all_eq_true.mp c.all.1.2 d (List.mem_of_getElem? h))
end
end

/-! ### the law's def: the row of draws is laid, then the rest -/
section
variable {P : Program} {w : World} {K : Kf} {mg : Str → Option Value} {base : Heap}
def spLaw (K : Kf) : Sp := fun vs H Q _ => ∃ (a : Addr) (ns : List Int), vs = [.ref a] ∧ SqL K H a (ns.map V.int) ∧ Only H ∧ ∀ v H', v = V.bl true → Q v H'
def lawE (N : List Str) : REnv := none :: some (.sh .row) :: List.replicate (N.length - 2) none
theorem law_ok {x qual : Str} {params : Arguments} {first : Stmt} {rest : List Stmt} {scope : Scope} {f : Addr} {fd : FuncData} {N ps : List Str} {k : Nat} {seed : Int} (Fn : FunD K x qual params (first :: rest) scope [] [] f fd) (Sc : FnScope N ps scope) (hn : ps.length = 1) (h2 : 2 ≤ N.length) {sem : SS}
    (h1 : ∀ (cdv : Value) (A : Around) (outer : List Env) (s : Shared) (H : Hp) (E : XK), Room k (A.deeper (envOfC qual scope s.heap.objs.size f cdv)) → PS (bodyX P w K mg base N qual scope f cdv A outer s H E) first (tAsg (tLst (tCons (tVar 0) (tCons (tC (.int 0)) (tCons (tC (.int seed)) (tCons (tC (.int 0)) tNil))))) (gName 1)))
    (hb : ∀ (cdv : Value) (A : Around) (outer : List Env) (s : Shared) (H : Hp) (E : XK), Room k (A.deeper (envOfC qual scope s.heap.objs.size f cdv)) → Ss (bodyX P w K mg base N qual scope f cdv A outer s H E) rest sem)
    (hG : sem (lawE N) { nx := fun _ => False, rt := fun d => d = .bl true, bk := fun _ => False, ct := fun _ => False }) : FnOk P w K mg base CX0 (k + 1) f fd ps (spLaw K) := by
  refine Fn.ok Sc (fun vs H Q E h => ?_) (fun cdv A outer s H vs Q E hr h => ?_)
  · obtain ⟨a, ns, rfl, _⟩ := h
    exact hn.symm
  obtain ⟨a, ns, rfl, hS, hO, q⟩ := h
  have hp := h1 cdv A outer s H E hr
  have hs := hb cdv A outer s H E hr
  refine ⟨_, (pss_cons hp hs.run).nox, ?_⟩
  obtain ⟨m, hm⟩ : ∃ m, N.length = m + 2 := ⟨N.length - 2, by omega⟩
  have est : L2.start N [V.ref a] = some (.ref a) :: none :: List.replicate m none := by
    unfold L2.start
    rw [hm]
    rfl
  rw [est]
  refine ⟨.ref a, rfl, (by show 4 ≤ sizeLine; decide), fun p hp => ?_⟩
  have nF : ∀ b : Addr, (fun _ => none : Hp) b = none := fun _ => rfl
  have sc : ScOk K (upd H p (.lst [.ref a, .int 0, .int seed, .int 0])) a ns := by
    rcases hS with (h | ⟨o, h⟩) | h
    · rcases hO a with z | ⟨o, xs, z⟩
      · rw [h] at z; cases z
      · rw [h] at z; cases z
    · exact .inl ⟨o, by rw [upd_ne (ne_of_none h hp)]; exact h⟩
    · exact .inr (.inr h)
  refine ⟨⟨some p, upd H p (.lst [.ref a, .int 0, .int seed, .int 0]), fun _ => none⟩, fun _ => none, lawE N, ⟨⟨fun x o e => (by cases e), Ex.refl _, ExR.refl _ _, fun x e => absurd rfl e, fun x e => ?_, fun _ _ => rfl⟩, ?_, fun i s e => ?_, fun i j ds es x e1 => ?_⟩, ?_⟩
  · cases e
    exact ⟨a, ns, 0, seed, 0, upd_same, sc, Int.le_refl 0⟩
  · unfold lawE
    rw [hm]
    simp
  · unfold lawE at e
    match i, e with
    | 0, e => cases e
    | 1, e => cases e; exact ⟨.ref p, rfl, p, rfl, rfl⟩
    | i + 2, e =>
      have e' : (List.replicate (N.length - 2) (none : Option Slot))[i]? = some (some s) := e
      rw [List.getElem?_replicate] at e'
      split at e' <;> cases e'
  · unfold lawE at e1
    match i, e1 with
    | 0, e => cases e
    | 1, e => cases e
    | i + 2, e =>
      have e' : (List.replicate (N.length - 2) (none : Option Slot))[i]? = some (some (.own ds)) := e
      rw [List.getElem?_replicate] at e'
      split at e' <;> cases e'
  · exact hs.mono _ { nx := fun _ => False, rt := fun d => d = .bl true, bk := fun _ => False, ct := fun _ => False } _ ⟨fun ρ h => h.elim, fun d h v F' H' e b rep => q v H' (by subst h; exact rep), fun ρ h => h.elim, fun ρ h => h.elim⟩ hG
/-- a draw: any number from 0 on, below so many -/
def takenO : OC := fun ds Q => match ds with
  | [.row, .int m] => (0 < m ∧ small m) ∧ ∀ v : Int, 0 ≤ v → v < m → Q (.int v)
  | _ => False
theorem takenO_mono : MonoC takenO := fun ds P Q h q => by
  unfold takenO at *
  split at q
  · exact ⟨q.1, fun v h1 h2 => h _ (q.2 v h1 h2)⟩
  · exact q.elim
theorem base_row {rw : Option Addr} {F H H1 : Hp} {a sc : Addr} {ns : List Int} {p m r p' m' r' : Int} (b : Base K ⟨rw, H, F⟩ F H1) (e : rw = some a) (h : H1 a = some (.lst [.ref sc, .int p, .int m, .int r])) (hs : ScOk K H1 sc ns) (hp : 0 ≤ p') :
    Base K ⟨rw, H, F⟩ F (upd H1 a (.lst [.ref sc, .int p', .int m', .int r'])) ∧ ScOk K (upd H1 a (.lst [.ref sc, .int p', .int m', .int r'])) sc ns := by
  have s2 : ScOk K (upd H1 a (.lst [.ref sc, .int p', .int m', .int r'])) sc ns := hs.keep fun o q => by rw [upd_ne (fun z : sc = a => by rw [z, h] at q; cases q)]; exact q
  have fa : F a = none := b.frow a e
  refine ⟨⟨fun x u ex => ?_, Ex.refl _, fun x u n ex => ?_, fun x h => .inl h, fun x ex => ?_, b.frow⟩, s2⟩
  · rw [upd_ne (fun z : x = a => by rw [z, fa] at ex; cases ex)]; exact b.fh x u ex
  · rw [upd_ne (fun z : x = a => n (by rw [z]; exact e))]; exact b.hh x u n ex
  · have : x = a := by
      have ex' : rw = some x := ex
      rw [e] at ex'; cases ex'; rfl
    subst this
    exact ⟨sc, ns, p', m', r', upd_same, s2, hp⟩
end
/-! ### short words -/
section
variable {X : Cx} {a b c : Expr} {f g k : SE} {pos : Pos} {n : Nat}
abbrev R0 (X : Cx) : Prop := X.A.units + 64 < cLine
theorem E.add (ha : P X a f) (hb : P X b g) : E X (.BinOp a .Add b pos) (sOp addO f g) := E.op (OpR.or op_add (OpR.or op_catA op_cat)) addO_s addO_mono ha hb
theorem E.sub (ha : P X a f) (hb : P X b g) : E X (.BinOp a .Sub b pos) (sOp subO f g) := E.op op_sub (int0_s fun _ _ _ _ => rfl) int0_mono ha hb
theorem E.mul (ha : P X a f) (hb : P X b g) : E X (.BinOp a .Mult b pos) (sOp mulO f g) := E.op op_mulS (intO_s fun _ _ _ _ => rfl) intO_mono ha hb
theorem E.fdiv (ha : P X a f) (hb : P X b g) : E X (.BinOp a .FloorDiv b pos) (sOp fdivO f g) := E.op op_fdivS (intO_s fun _ _ _ _ => rfl) intO_mono ha hb
theorem E.mod (ha : P X a f) (hb : P X b g) : E X (.BinOp a .Mod b pos) (sOp modO f g) := E.op op_modN (intO_s fun _ _ _ _ => rfl) intO_mono ha hb
theorem E.pow (ha : P X a f) (hb : P X b g) : E X (.BinOp a .Pow b pos) (sOp powO f g) := E.op op_pow (intO_s fun _ _ _ _ => rfl) intO_mono ha hb
theorem E.neg (ha : P X a f) : E X (.UnaryOp .USub a pos) (sUn negO f) := E.un un_neg negO_s negO_mono ha
theorem F.cat (ha : P X a f) (hb : P X b g) : F X (.BinOp a .Add b pos) (opF catF f g) := F.op op_cat catF_s catF_mono ha hb
theorem F.rep (ha : P X a f) (hb : P X b g) : F X (.BinOp a .Mult b pos) (opF repF f g) := F.op op_rep repF_s repF_mono ha hb
theorem E.lt (ha : P X a f) (hb : P X b g) : E X (.Compare a [.Lt] [b] pos) (sOp ltO f g) := E.cmp op_lt (int0_s fun _ _ _ _ => rfl) int0_mono (nomark _) ha hb
theorem E.le (ha : P X a f) (hb : P X b g) : E X (.Compare a [.LtE] [b] pos) (sOp leO f g) := E.cmp op_le (int0_s fun _ _ _ _ => rfl) int0_mono (nomark _) ha hb
theorem E.gt (ha : P X a f) (hb : P X b g) : E X (.Compare a [.Gt] [b] pos) (sOp gtO f g) := E.cmp op_gt (int0_s fun _ _ _ _ => rfl) int0_mono (nomark _) ha hb
theorem E.ge (ha : P X a f) (hb : P X b g) : E X (.Compare a [.GtE] [b] pos) (sOp geO f g) := E.cmp op_ge (int0_s fun _ _ _ _ => rfl) int0_mono (nomark _) ha hb
theorem E.eq (hu : R0 X) (ha : P X a f) (hb : P X b g) : E X (.Compare a [.Eq] [b] pos) (sOp eqO f g) := E.cmp (op_eqD hu) eqO_s eqO_mono (nomark _) ha hb
theorem E.ne (hu : R0 X) (ha : P X a f) (hb : P X b g) : E X (.Compare a [.NotEq] [b] pos) (sOp neO f g) := E.cmp (op_neD hu) neO_s neO_mono (nomark _) ha hb
theorem B.ch {op op' : CmpOp} {r r' : R2} {o o' : O2} (ho : OpR X (compareOp op) r) (ho' : OpR X (compareOp op') r') (hs : OpS X.K r o) (hs' : OpS X.K r' o') (mo : Mono2 o) (mo' : Mono2 o') (ha : P X a f) (hb : P X b g) (hc : P X c k)
    (hm : lastMarks [op, op'] [b, c] = false := by with_unfolding_all rfl) : B X (.Compare a [op, op'] [b, c] pos) (chT o o' f g k) :=
  ⟨chT_mono mo mo' ha.mono hb.mono hc.mono, PE.weak (pe_chain ho ho' ha.run hb.run hc.run hm) (ch_tp hs hs' mo mo' ha.mono hb.mono hc.mono)⟩
theorem T.ch {op op' : CmpOp} {r r' : R2} {o o' : O2} (ho : OpR X (compareOp op) r) (ho' : OpR X (compareOp op') r') (hs : OpS X.K r o) (hs' : OpS X.K r' o') (mo : Mono2 o) (mo' : Mono2 o') (ha : P X a f) (hb : P X b g) (hc : P X c k)
    (hm : lastMarks [op, op'] [b, c] = false := by with_unfolding_all rfl) : T X (.Compare a [op, op'] [b, c] pos) (chT o o' f g k) :=
  T.chain hs hs' mo mo' ha hb hc (pt_chain ho ho' ha.run hb.run hc.run hm)
theorem lt_s {K : Kf} : OpS K (rI0 fun i j => .bl (decide (i < j))) ltO := int0_s fun _ _ _ _ => rfl
theorem le_s {K : Kf} : OpS K (rI0 fun i j => .bl (decide (i ≤ j))) leO := int0_s fun _ _ _ _ => rfl
theorem gt_s {K : Kf} : OpS K (rI0 fun i j => .bl (decide (j < i))) gtO := int0_s fun _ _ _ _ => rfl
theorem ge_s {K : Kf} : OpS K (rI0 fun i j => .bl (decide (j ≤ i))) geO := int0_s fun _ _ _ _ => rfl
theorem E.is (ha : P X a f) (hb : P X b g) : E X (.Compare a [.Is] [b] pos) (sOp isO f g) := E.cmp op_isN isO_s isO_mono (nomark _) ha hb
theorem E.isn (ha : P X a f) (hb : P X b g) : E X (.Compare a [.IsNot] [b] pos) (sOp isnO f g) := E.cmp op_notN isnO_s isnO_mono (nomark _) ha hb
theorem T.lt (ha : P X a f) (hb : P X b g) : T X (.Compare a [.Lt] [b] pos) (tV (sOp ltO f g)) := T.cmp op_lt (int0_s fun _ _ _ _ => rfl) int0_mono (nomark _) ha hb
theorem T.le (ha : P X a f) (hb : P X b g) : T X (.Compare a [.LtE] [b] pos) (tV (sOp leO f g)) := T.cmp op_le (int0_s fun _ _ _ _ => rfl) int0_mono (nomark _) ha hb
theorem T.gt (ha : P X a f) (hb : P X b g) : T X (.Compare a [.Gt] [b] pos) (tV (sOp gtO f g)) := T.cmp op_gt (int0_s fun _ _ _ _ => rfl) int0_mono (nomark _) ha hb
theorem T.ge (ha : P X a f) (hb : P X b g) : T X (.Compare a [.GtE] [b] pos) (tV (sOp geO f g)) := T.cmp op_ge (int0_s fun _ _ _ _ => rfl) int0_mono (nomark _) ha hb
theorem T.eq (hu : R0 X) (ha : P X a f) (hb : P X b g) : T X (.Compare a [.Eq] [b] pos) (tV (sOp eqO f g)) := T.cmp (op_eqD hu) eqO_s eqO_mono (nomark _) ha hb
theorem T.ne (hu : R0 X) (ha : P X a f) (hb : P X b g) : T X (.Compare a [.NotEq] [b] pos) (tV (sOp neO f g)) := T.cmp (op_neD hu) neO_s neO_mono (nomark _) ha hb
theorem T.is (ha : P X a f) (hb : P X b g) : T X (.Compare a [.Is] [b] pos) (tV (sOp isO f g)) := T.cmp op_isN isO_s isO_mono (nomark _) ha hb
theorem T.isn (ha : P X a f) (hb : P X b g) : T X (.Compare a [.IsNot] [b] pos) (tV (sOp isnO f g)) := T.cmp op_notN isnO_s isnO_mono (nomark _) ha hb

variable {st : Stmt} {s : SS} {e : Expr} {es : List Expr} {fa : SA} {i : Nat}
theorem S.setN (h : E X e f) (hp : PE X e (TEof X.K f) → PS X st (tAsg (TEof X.K f) (gName i))) : S X st (setS i f) := S.set h (hp h.run)
theorem S.setON (h : F X e fa) (hp : PE X e (TFof X.K fa) → PS X st (tAsg (TFof X.K fa) (gName i))) : S X st (Z0.setO i fa) := S.setO h (hp h.run)
theorem S.asgN {tg : Expr} {is : List Nat} {gg : SG} (h : E X e f) (hg : G X tg is gg) (hp : PE X e (TEof X.K f) → PG X tg (TGof X.K is gg) → PS X st (tAsg (TEof X.K f) (TGof X.K is gg))) : S X st (asgS f gg) := S.asg h hg (hp h.run hg.run)
theorem S.parN {j : Nat} (h : A X es fa) (hp : PA X es (TAof X.K fa) → PS X st (tPar i j (TAof X.K fa))) : S X st (parS i j fa) := S.par h (hp h.run)
theorem S.par3N {j l : Nat} (h : A X es fa) (hp : PA X es (TAof X.K fa) → PS X st (tPar3 i j l (TAof X.K fa))) : S X st (par3S i j l fa) := S.par3 h (hp h.run)
theorem S.augN {o : O2} {r : R2} (hs : OpS X.K r o) (mo : Mono2 o) (h : P X e f) (hp : PE X e (TPof X.K f) → PS X st (tAug i (TPof X.K f) r)) : S X st (augS i o f) := S.aug hs mo h (hp h.run)
theorem S.appN (h : E X e f) (hp : PE X e (TEof X.K f) → PS X st (tDrop (tBM X.K "list" rAppend (tVar i) (tCons (TEof X.K f) tNil)))) : S X st (appS i f) := S.app h (hp h.run)
theorem S.putN (h : E X a f) (h2 : P X b g) (hp : PE X a (TEof X.K f) → PE X b (TPof X.K g) → PS X st (tAsg (TEof X.K f) (gSub (tVar i) (TPof X.K g) rSetL))) : S X st (putS i f g) := S.put h h2 (hp h.run h2.run)
theorem S.whN {tt : ST} {xs : List Stmt} (ht : T X c tt) (hs : Ss X xs s) (hp : PT X c (TTof X.K tt) → PSs X xs (TSof X.K s) → PS X st (tWhile (TTof X.K tt) (TSof X.K s))) : S X st (whS tt s) := S.wh ht hs (hp ht.run hs.run)
theorem S.forN {tg iter : Expr} {it : SA} {is : List Nat} {gg : SG} {xs : List Stmt} (hi : I X tg iter it) (hg : G X tg is gg) (hs : Ss X xs s) (hp : PI X tg iter (TIof X.K it) → PG X tg (TGof X.K is gg) → PSs X xs (TSof X.K s) → PS X st (tFor (TIof X.K it) (TGof X.K is gg) (TSof X.K s))) : S X st (forS it gg s) := S.for hi hg hs (hp hi.run hg.run hs.run)
theorem E.callBN {r : List V → Hp → VK → Prop} {o : OC} (hs : CallS X.K r o) (mo : MonoC o) (ha : Ap X es fa) (h : PA X es (TQof X.K fa) → PE X e (tCB r (TQof X.K fa))) : E X e (callE o fa) := E.callB hs mo ha (h ha.run)
theorem F.callBN {r : List V → Hp → VK → Prop} {o : OF} (hs : CallF X.K r o) (mo : MonoF o) (ha : Ap X es fa) (h : PA X es (TQof X.K fa) → PE X e (tCB r (TQof X.K fa))) : F X e (callF o fa) := F.callB hs mo ha (h ha.run)
theorem I.r1 {tg : Expr} (ha : Ap X es fa) (h : PA X es (TQof X.K fa) → PI X tg e (iRng1 (TQof X.K fa))) : I X tg e (rng1A fa) := I.rng1 ha (h ha.run)
theorem I.r2 {tg : Expr} (ha : Ap X es fa) (h : PA X es (TQof X.K fa) → PI X tg e (iRng2 (TQof X.K fa))) : I X tg e (rng2A fa) := I.rng2 ha (h ha.run)
theorem Ig.z {tg : Expr} (ha : Ap X es fa) (h : PA X es (TQof X.K fa) → PI X tg e (RZ.iZipA X.K (TQof X.K fa))) : Ig X tg e (zipA fa) := Ig.zip ha (h ha.run)
theorem Gs.cn {tg : Expr} {ts : List Expr} {is js : List Nat} {gg : SG} {gs : SGs} (h1 : G X tg is gg) (h2 : Gs X ts js gs) (h : PG X tg (TGof X.K is gg) → PGs X ts (TGsof X.K js gs) → PGs X (tg :: ts) (gCons (TGof X.K is gg) (TGsof X.K js gs))) : Gs X (tg :: ts) (is ++ js) (gConsS gg gs) := Gs.cons h1 h2 (h h1.run h2.run)
theorem G.t {tg : Expr} {is : List Nat} {gs : SGs} {m : Nat} {ts : List Expr} (hn : ∀ ds ρ Q, gs ds ρ Q → ds.length = m) (h2 : Gs X ts is gs) (h : PGs X ts (TGsof X.K is gs) → PG X tg (gTup X.K m (TGsof X.K is gs))) : G X tg is (gTupS gs) := G.tup hn h2 (h h2.run)
theorem gn_nil : ∀ (ds : List D) (ρ : REnv) (Q : REnv → Prop), gNilS ds ρ Q → ds.length = 0 := fun ds ρ Q h => by
  cases ds with
  | nil => rfl
  | cons _ _ => exact h.elim
theorem gn_var {i : Nat} {gs : SGs} {m : Nat} (h : ∀ ds ρ Q, gs ds ρ Q → ds.length = m) : ∀ (ds : List D) (ρ : REnv) (Q : REnv → Prop), gConsS (gVar i) gs ds ρ Q → ds.length = m + 1 := fun ds ρ Q q => by
  cases ds with
  | nil => exact q.elim
  | cons d ds => rw [List.length_cons, h ds _ _ q]
theorem E.gint {x : Str} {z : Int} (hg : Gl X x) (hm : ∃ t, X.mg x = some (.int z t)) (hdb : (x == ("__debug__" : Str)) = false := by decide) : E X (.Name x pos) (cE (.int z)) := by
  obtain ⟨t, hm⟩ := hm
  exact E.glob (v := .int z) (fun _ _ => rfl) hg hm ⟨t, rfl⟩ hdb
theorem E.gtup {x : Str} {ad : Addr} {vs : List V} {ds : List D} (hg : Gl X x) (hm : X.mg x = some (.ref ad)) (h : ∀ H, SqT X.K H ad vs) (hr : ∀ rw F, Reps X.K rw F ds vs) (hdb : (x == ("__debug__" : Str)) = false := by decide) : E X (.Name x pos) (cE (.tup ds)) :=
  E.glob (v := .ref ad) (fun rw F => ⟨ad, vs, rfl, h F, hr rw F⟩) hg hm rfl hdb
theorem isT_not {a : Expr} : True := trivial
abbrev addI : O2 := int0 fun i j => .int (i + j)
theorem addI_s {K : Kf} : OpS K (rI0 fun i j => .int (i + j)) addI := int0_s fun _ _ _ _ => rfl
theorem addI_mono : Mono2 addI := int0_mono
theorem ip_addI : PIp X .Add (rI0 fun i j => .int (i + j)) := iop_add
theorem iop_mulS : PIp X .Mult (rI mulOk fun i j => .int (i * j)) := (opI fun _ _ _ _ _ _ _ hc q => imul_int q (mulOk_ok hc) : OpR X (inplaceOp .Mult) _)
theorem S.nev : S X st noS := S.no ps_never (fun _ _ _ h => h)
theorem bt_len : bootBuiltins "len" = some (.builtin "len") := by decide +kernel
theorem bt_abs : bootBuiltins "abs" = some (.builtin "abs") := by decide +kernel
theorem bt_sum : bootBuiltins "sum" = some (.builtin "sum") := by decide +kernel
theorem bt_max : bootBuiltins "max" = some (.builtin "max") := by decide +kernel
theorem bt_min : bootBuiltins "min" = some (.builtin "min") := by decide +kernel
theorem bt_sorted : bootBuiltins "sorted" = some (.builtin "sorted") := by decide +kernel
theorem bt_isinstance : bootBuiltins "isinstance" = some (.builtin "isinstance") := by decide +kernel
theorem bt_int : bootBuiltins "int" = some (.type "int") := by decide +kernel
theorem bt_list : bootBuiltins "list" = some (.type "list") := by decide +kernel
theorem bt_tuple : bootBuiltins "tuple" = some (.type "tuple") := by decide +kernel
theorem bt_bool : bootBuiltins "bool" = some (.type "bool") := by decide +kernel
theorem bt_str : bootBuiltins "str" = some (.type "str") := by decide +kernel
theorem bt_dict : bootBuiltins "dict" = some (.type "dict") := by decide +kernel
end

/-! ### plain lemmas on meanings -/
section
theorem lcL_fm {g : SG} {t : ST} {f : SE} {ρ : REnv} (c : D → Option D) : ∀ (ds : List D) (Q : List D → Prop), (∀ d ∈ ds, ∀ (R : Option D → Prop), R (c d) → g d ρ fun ρ1 => t ρ1 fun b => br b (f ρ1 fun y => R (some y)) (R none)) → Q (ds.filterMap c) → lcL g t f ρ ds Q
  | [], Q, _, q => q
  | d :: ds, Q, h, q => by
    refine h d List.mem_cons_self (fun o => match o with
      | some y => lcL g t f ρ ds fun ys => Q (y :: ys)
      | none => lcL g t f ρ ds Q) ?_
    have ih := fun Q => lcL_fm (g := g) (t := t) (f := f) (ρ := ρ) c ds Q fun d hd => h d (List.mem_cons_of_mem _ hd)
    rw [List.filterMap_cons] at q
    cases e : c d with
    | none => rw [e] at q; exact ih Q q
    | some y => rw [e] at q; exact ih _ q
theorem rngD_mem {lo hi : Int} {d : D} (h : d ∈ rngD lo hi) : ∃ i : Int, d = .int i ∧ lo ≤ i ∧ i < hi := by
  unfold rngD at h
  obtain ⟨i, hi', rfl⟩ := List.mem_map.mp h
  have := List.mem_range.mp hi'
  exact ⟨lo + i, rfl, by omega, by omega⟩
theorem rngD_get {lo hi : Int} {i : Nat} {d : D} (h : (rngD lo hi)[i]? = some d) : d = .int (lo + i) ∧ lo + (i : Int) < hi := by
  unfold rngD at h
  rw [List.getElem?_map] at h
  by_cases hi' : i < (hi - lo).toNat
  · rw [List.getElem?_range hi'] at h
    cases h
    exact ⟨rfl, by omega⟩
  · rw [List.getElem?_eq_none (by simpa using hi')] at h
    cases h
theorem forL_at {g : SG} {s : SS} {k : Kt} {ds : List D} (P : Nat → REnv → Prop)
    (hs : ∀ (i : Nat) (d : D) (ρ : REnv) (nxt : REnv → Prop), ds[i]? = some d → P i ρ → (∀ ρ', P (i + 1) ρ' → nxt ρ') → g d ρ fun ρ1 => s ρ1 (loopK nxt k)) (hd : ∀ ρ, P ds.length ρ → k.nx ρ) : ∀ (m i : Nat) (ρ : REnv), m + i = ds.length → P i ρ → forL g s (ds.drop i) ρ k
  | 0, i, ρ, e, p => by
    have : i = ds.length := by omega
    subst this
    rw [List.drop_length]
    exact hd ρ p
  | m + 1, i, ρ, e, p => by
    have hlt : i < ds.length := by omega
    rw [List.drop_eq_getElem_cons hlt]
    exact hs i ds[i] ρ _ (List.getElem?_eq_getElem hlt) p fun ρ' p' => forL_at P hs hd m (i + 1) ρ' (by omega) p'
theorem forL_inv {g : SG} {s : SS} {k : Kt} {ds : List D} {ρ : REnv} (P : Nat → REnv → Prop) (h0 : P 0 ρ)
    (hs : ∀ (i : Nat) (d : D) (ρ : REnv) (nxt : REnv → Prop), ds[i]? = some d → P i ρ → (∀ ρ', P (i + 1) ρ' → nxt ρ') → g d ρ fun ρ1 => s ρ1 (loopK nxt k)) (hd : ∀ ρ, P ds.length ρ → k.nx ρ) : forL g s ds ρ k := by
  have := forL_at P hs hd ds.length 0 ρ (by omega) h0
  rwa [List.drop_zero] at this
theorem br_t {b : Bool} {p q : Prop} (h : b = true) (hp : p) : br b p q := by subst h; exact hp
theorem br_f {b : Bool} {p q : Prop} (h : b = false) (hq : q) : br b p q := by subst h; exact hq
theorem br_d {c : Prop} [Decidable c] {p q : Prop} (h1 : c → p) (h2 : ¬ c → q) : br (decide c) p q := by
  by_cases h : c
  · rw [decide_eq_true h]; exact h1 h
  · rw [decide_eq_false h]; exact h2 h
theorem br_n {c : Prop} [Decidable c] {p q : Prop} (h1 : ¬ c → p) (h2 : c → q) : br (!decide c) p q := by
  by_cases h : c
  · rw [decide_eq_true h]; exact h2 h
  · rw [decide_eq_false h]; exact h1 h
end

theorem eqD_refl {d : D} (h : okD d = true) : eqD d d = true := by
  have h1 := (Bool.and_eq_true_iff.mp h).2
  exact SeqAt.eqv_refl _ (SeqAt.canLay_of_shaped h1)
theorem okD_bl (b : Bool) : okD (.bl b) = true := rfl
theorem okD_non : okD .non = true := rfl
theorem okD_nil : okD (.lst []) = true := rfl
theorem okD_tnil : okD (.tup []) = true := rfl
/-- a def that is never called so -/
theorem ok_never {P : Program} {w : World} {K : Kf} {mg : Str → Option Value} {base : Heap} {f : Addr} {fd : FuncData} {ps : List Str} {n k : Nat} (hn : ps.length = n) : FnOk P w K mg base CX0 k f fd ps (spOf K n fun _ _ => False) :=
  ⟨fun vs H Q E h => h.1.trans hn.symm, fun A outer s H args us vs Q E _ _ _ _ h => by
    obtain ⟨_, _, _, _, _, _, q⟩ := h
    exact q.elim⟩

theorem le_big {n : Nat} (h : n ≤ 1000000) : n ≤ big := Nat.le_trans h (by decide)
theorem lt_big {n : Nat} (h : n < 1000000) : n < big := Nat.lt_of_lt_of_le h (by decide)

theorem lcL_map {g : SG} {f : SE} {ρ : REnv} (F : D → D) (ds : List D) (Q : List D → Prop) (h : ∀ d ∈ ds, ∀ R : D → Prop, R (F d) → g d ρ fun ρ1 => f ρ1 R) (q : Q (ds.map F)) : lcL g yesT f ρ ds Q :=
  lcL_fm (fun d => some (F d)) ds Q (fun d hd R hR => h d hd _ hR) (by rw [show (fun d => some (F d)) = some ∘ F from rfl, List.filterMap_eq_map]; exact q)
theorem rngD_map {lo hi : Int} {F : D → D} : (rngD lo hi).map F = (List.range (hi - lo).toNat).map fun (k : Nat) => F (.int (lo + k)) := by
  unfold rngD
  rw [List.map_map]
  rfl
/-- a list of ints told by a function of the place -/
theorem intsD_range {n : Nat} {G : Nat → Int} {F : Nat → D} (h : ∀ k, F k = .int (G k)) : intsD ((List.range n).map F) = some ((List.range n).map G) := by
  have : (List.range n).map F = ((List.range n).map G).map D.int := by
    rw [List.map_map]
    exact List.map_congr_left fun k _ => h k
  rw [this]
  exact intsD_map _
theorem onInts_lst {ds : List D} {ns : List Int} {p : List Int → Prop} (h : intsD ds = some ns) (q : p ns) : onInts (.lst ds) p := by
  show (match intsD ds with | some ns => p ns | none => False)
  rw [h]; exact q
end Z0
/-! ### the text (printed by gen.py) -/
namespace Tx0
open PySem PySem.Spec PyProof.Rows L2 Z0
def top (i : Nat) : Stmt := PySem.Challenge.pw_latticepoints_k77_whole_sums_of_integer.main.body.getD i (.Pass ⟨0, 0, 0, 0⟩)
abbrev s_is_in : Stmt := top 4
theorem sc_is_in : FnScope ["value", "least", "most"] ["value", "least", "most"] (defScope s_is_in) := ⟨rfl, rfl, rfl, by decide +kernel, rfl, by decide +kernel, by decide +kernel⟩
abbrev s_floor_sum : Stmt := top 7
theorem sc_floor_sum : FnScope ["n", "m", "a", "b", "total", "sign", "most"] ["n", "m", "a", "b"] (defScope s_floor_sum) := ⟨rfl, rfl, rfl, by decide +kernel, rfl, by decide +kernel, by decide +kernel⟩
abbrev s_l_taken : Stmt := top 9
theorem sc_l_taken : FnScope ["_law_row", "_law_many", "_law_found", "_law_cell"] ["_law_row", "_law_many"] (defScope s_l_taken) := ⟨rfl, rfl, rfl, by decide +kernel, rfl, by decide +kernel, by decide +kernel⟩
abbrev s_l_pick : Stmt := top 10
theorem sc_l_pick : FnScope ["_law_row", "_law_things"] ["_law_row", "_law_things"] (defScope s_l_pick) := ⟨rfl, rfl, rfl, by decide +kernel, rfl, by decide +kernel, by decide +kernel⟩
abbrev s_l_signed : Stmt := top 11
theorem sc_l_signed : FnScope ["_law_row", "_law_most"] ["_law_row", "_law_most"] (defScope s_l_signed) := ⟨rfl, rfl, rfl, by decide +kernel, rfl, by decide +kernel, by decide +kernel⟩
abbrev s_l_alike : Stmt := top 12
theorem sc_l_alike : FnScope ["_law_found", "_law_due", "_law_k"] ["_law_found", "_law_due"] (defScope s_l_alike) := ⟨rfl, rfl, rfl, by decide +kernel, rfl, by decide +kernel, by decide +kernel⟩
abbrev s_l_gcd : Stmt := top 13
theorem sc_l_gcd : FnScope ["_law_one", "_law_other"] ["_law_one", "_law_other"] (defScope s_l_gcd) := ⟨rfl, rfl, rfl, by decide +kernel, rfl, by decide +kernel, by decide +kernel⟩
abbrev s_l_two : Stmt := top 14
theorem sc_l_two : FnScope ["_law_row", "_law_most", "_law_a", "_law_b", "_law_common"] ["_law_row", "_law_most"] (defScope s_l_two) := ⟨rfl, rfl, rfl, by decide +kernel, rfl, by decide +kernel, by decide +kernel⟩
abbrev s_law : Stmt := top 15
theorem sc_law : FnScope ["_law_script", "_law_row", "_law_turn", "_law_n", "_law_m", "_law_a", "_law_b", "_law_i", "_law_great", "_law_whole", "_law_p", "_law_q", "_law_both", "_law_due", "_law_half", "_law_u", "_law_v", "_law_one", "_law_other"] ["_law_script"] (defScope s_law) := ⟨rfl, rfl, rfl, by decide +kernel, rfl, by decide +kernel, by decide +kernel⟩
/-- where all things stand -/
structure Tx (K : Kf) (mg : Str → Option Value) where
  a_is_in : Addr
  d_is_in : FuncData
  f_is_in : FunD K "is_in" "is_in" (defArgs s_is_in) (defBody s_is_in) (defScope s_is_in) [] [] a_is_in d_is_in
  m_is_in : mg "is_in" = some (.ref a_is_in)
  b_is_in : Binds K d_is_in ["value", "least", "most"] []
  a_floor_sum : Addr
  d_floor_sum : FuncData
  f_floor_sum : FunD K "floor_sum" "floor_sum" (defArgs s_floor_sum) (defBody s_floor_sum) (defScope s_floor_sum) [] [] a_floor_sum d_floor_sum
  m_floor_sum : mg "floor_sum" = some (.ref a_floor_sum)
  b_floor_sum : Binds K d_floor_sum ["n", "m", "a", "b"] []
  a_l_taken : Addr
  d_l_taken : FuncData
  f_l_taken : FunD K "_law_taken" "_law_taken" (defArgs s_l_taken) (defBody s_l_taken) (defScope s_l_taken) [] [] a_l_taken d_l_taken
  m_l_taken : mg "_law_taken" = some (.ref a_l_taken)
  b_l_taken : Binds K d_l_taken ["_law_row", "_law_many"] []
  a_l_pick : Addr
  d_l_pick : FuncData
  f_l_pick : FunD K "_law_pick" "_law_pick" (defArgs s_l_pick) (defBody s_l_pick) (defScope s_l_pick) [] [] a_l_pick d_l_pick
  m_l_pick : mg "_law_pick" = some (.ref a_l_pick)
  b_l_pick : Binds K d_l_pick ["_law_row", "_law_things"] []
  a_l_signed : Addr
  d_l_signed : FuncData
  f_l_signed : FunD K "_law_signed" "_law_signed" (defArgs s_l_signed) (defBody s_l_signed) (defScope s_l_signed) [] [] a_l_signed d_l_signed
  m_l_signed : mg "_law_signed" = some (.ref a_l_signed)
  b_l_signed : Binds K d_l_signed ["_law_row", "_law_most"] []
  a_l_alike : Addr
  d_l_alike : FuncData
  f_l_alike : FunD K "_law_alike" "_law_alike" (defArgs s_l_alike) (defBody s_l_alike) (defScope s_l_alike) [] [] a_l_alike d_l_alike
  m_l_alike : mg "_law_alike" = some (.ref a_l_alike)
  b_l_alike : Binds K d_l_alike ["_law_found", "_law_due"] []
  a_l_gcd : Addr
  d_l_gcd : FuncData
  f_l_gcd : FunD K "_law_gcd" "_law_gcd" (defArgs s_l_gcd) (defBody s_l_gcd) (defScope s_l_gcd) [] [] a_l_gcd d_l_gcd
  m_l_gcd : mg "_law_gcd" = some (.ref a_l_gcd)
  b_l_gcd : Binds K d_l_gcd ["_law_one", "_law_other"] []
  a_l_two : Addr
  d_l_two : FuncData
  f_l_two : FunD K "_law_two" "_law_two" (defArgs s_l_two) (defBody s_l_two) (defScope s_l_two) [] [] a_l_two d_l_two
  m_l_two : mg "_law_two" = some (.ref a_l_two)
  b_l_two : Binds K d_l_two ["_law_row", "_law_most"] []
  a_law : Addr
  d_law : FuncData
  f_law : FunD K "law" "law" (defArgs s_law) (defBody s_law) (defScope s_law) [] [] a_law d_law
  m_law : mg "law" = some (.ref a_law)
  b_law : Binds K d_law ["_law_script"] []
  z_abs : mg "abs" = none
  z_bool : mg "bool" = none
  z_int : mg "int" = none
  z_isinstance : mg "isinstance" = none
  z_len : mg "len" = none
  z_list : mg "list" = none
  z_range : mg "range" = none
  z_str : mg "str" = none
  z_sum : mg "sum" = none
  z_tuple : mg "tuple" = none
  c_GREAT : ∃ t, mg "GREAT" = some (.int (1000000000) t)
section
variable {Pg : Program} {w : World} {K : Kf} {mg : Str → Option Value} {base : Heap} {k : Nat}
abbrev sem_is_in  : SS := (retS (vB (andT (tV (callE isiO (consA (varP 0) (consA (cE (.ty .int)) nilA)))) (andT (notT (tV (callE isiO (consA (varP 0) (consA (cE (.ty .bool)) nilA))))) (chT leO leO (varP 1) (varP 0) (varP 2))))))
theorem walk_is_in (tx : Tx K mg)  (cdv : Value) (Ar : Around) (outer : List PySem.Env) (s : Shared) (H : Hp) (Xk : XK) (hr : Room k (Ar.deeper (envOfC "is_in" (defScope s_is_in) s.heap.objs.size tx.a_is_in cdv))) :
    Ss (bodyX Pg w K mg base ["value", "least", "most"] "is_in" (defScope s_is_in) tx.a_is_in cdv Ar outer s H Xk) (defBody s_is_in) (sem_is_in ) :=
  (Ss.one (S.ret (B.val (B.and (B.of (E.callBN isi_s isiO_mono (Ap.cons (P.var 0 (pv 0)) (Ap.cons (E.p (E.tyv (t := .int) (by rfl) tx.z_int bt_int)) Ap.nil)) (fun h => pe_callB call_isiA (by rfl) tx.z_isinstance bt_isinstance h))) (B.and (B.not (B.of (E.callBN isi_s isiO_mono (Ap.cons (P.var 0 (pv 0)) (Ap.cons (E.p (E.tyv (t := .bool) (by rfl) tx.z_bool bt_bool)) Ap.nil)) (fun h => pe_callB call_isiA (by rfl) tx.z_isinstance bt_isinstance h)))) (B.one (B.ch op_le op_le le_s le_s int0_mono int0_mono (P.var 1 (pv 1)) (P.var 0 (pv 0)) (P.var 2 (pv 2)))))))))
abbrev wt1_floor_sum (g_is_in : OC) : ST := (tV (sOp gtO (varP 0) (cE (.int 0))))
abbrev ws2_floor_sum (g_is_in : OC) : SS := (seqS (augS 4 addI (sOp mulO (varP 5) (sOp addO (sOp mulO (sOp fdivO (sOp mulO (varP 0) (sOp subO (varP 0) (cE (.int 1)))) (cE (.int 2))) (sOp fdivO (varP 2) (varP 1))) (sOp mulO (varP 0) (sOp fdivO (varP 3) (varP 1))))))
    (seqS (parS 2 3 (consA (sOp modO (varP 2) (varP 1)) (consA (sOp modO (varP 3) (varP 1)) nilA)))
    (seqS (setS 6 (sOp fdivO (sOp addO (sOp mulO (varP 2) (sOp subO (varP 0) (cE (.int 1)))) (varP 3)) (varP 1)))
    (seqS (ifS (tV (sOp eqO (varP 6) (cE (.int 0)))) (retS (varE 4)) nextS)
    (seqS (augS 4 addI (sOp mulO (sOp mulO (varP 5) (sOp subO (varP 0) (cE (.int 1)))) (varP 6)))
    (asgS (tupE (consA (varE 6) (consA (varE 2) (consA (varE 1) (consA (sOp subO (sOp subO (varP 1) (varP 3)) (cE (.int 1))) (consA (sUn negO (varP 5)) nilA)))))) (gTupS (gConsS (gVar 0) (gConsS (gVar 1) (gConsS (gVar 2) (gConsS (gVar 3) (gConsS (gVar 5) gNilS))))))))))))
abbrev sem_floor_sum (g_is_in : OC) : SS := (seqS (ifS (orT (notT (tV (callE g_is_in (consA (varE 0) (consA (cE (.int 0)) (consA (cE (.int 1000000000)) nilA)))))) (orT (notT (tV (callE g_is_in (consA (varE 1) (consA (cE (.int 1)) (consA (cE (.int 1000000000)) nilA)))))) (orT (notT (tV (callE g_is_in (consA (varE 2) (consA (sUn negO (cE (.int 1000000000))) (consA (cE (.int 1000000000)) nilA)))))) (notT (tV (callE g_is_in (consA (varE 3) (consA (sUn negO (cE (.int 1000000000))) (consA (cE (.int 1000000000)) nilA))))))))) noS nextS)
    (seqS (asgS (tupE (consA (cE (.int 0)) (consA (cE (.int 1)) nilA))) (gTupS (gConsS (gVar 4) (gConsS (gVar 5) gNilS))))
    (seqS (whS (wt1_floor_sum g_is_in) (ws2_floor_sum g_is_in))
    (retS (varE 4)))))
theorem walk_floor_sum (tx : Tx K mg) {g_is_in : OC} {k_is_in : Nat} (mo_is_in : MonoC g_is_in) (ok_is_in : FnOk Pg w K mg base CX0 k_is_in tx.a_is_in tx.d_is_in ["value", "least", "most"] (spOf K 3 g_is_in)) (le_is_in : k_is_in ≤ k) (cdv : Value) (Ar : Around) (outer : List PySem.Env) (s : Shared) (H : Hp) (Xk : XK) (hr : Room k (Ar.deeper (envOfC "floor_sum" (defScope s_floor_sum) s.heap.objs.size tx.a_floor_sum cdv))) :
    Ss (bodyX Pg w K mg base ["n", "m", "a", "b", "total", "sign", "most"] "floor_sum" (defScope s_floor_sum) tx.a_floor_sum cdv Ar outer s H Xk) (defBody s_floor_sum) (sem_floor_sum g_is_in) :=
  (Ss.cons (S.ifs (Tw.t (Tw.or (T.not (T.val (E.call mo_is_in (A.cons (E.var 0 (pv 0)) (A.cons E.int (A.cons (E.gint (by rfl) tx.c_GREAT) A.nil))) rfl (fun h => pe_call ok_is_in (hr.mono le_is_in) (by rfl) tx.m_is_in tx.f_is_in.kp tx.b_is_in .nil pass0 h)))) (Tw.or (T.not (T.val (E.call mo_is_in (A.cons (E.var 1 (pv 1)) (A.cons E.int (A.cons (E.gint (by rfl) tx.c_GREAT) A.nil))) rfl (fun h => pe_call ok_is_in (hr.mono le_is_in) (by rfl) tx.m_is_in tx.f_is_in.kp tx.b_is_in .nil pass0 h)))) (Tw.or (T.not (T.val (E.call mo_is_in (A.cons (E.var 2 (pv 2)) (A.cons (E.neg (E.p (E.gint (by rfl) tx.c_GREAT))) (A.cons (E.gint (by rfl) tx.c_GREAT) A.nil))) rfl (fun h => pe_call ok_is_in (hr.mono le_is_in) (by rfl) tx.m_is_in tx.f_is_in.kp tx.b_is_in .nil pass0 h)))) (Tw.or1 (T.not (T.val (E.call mo_is_in (A.cons (E.var 3 (pv 3)) (A.cons (E.neg (E.p (E.gint (by rfl) tx.c_GREAT))) (A.cons (E.gint (by rfl) tx.c_GREAT) A.nil))) rfl (fun h => pe_call ok_is_in (hr.mono le_is_in) (by rfl) tx.m_is_in tx.f_is_in.kp tx.b_is_in .nil pass0 h))))))))) (Ss.one S.nev) Ss.nil)
    (Ss.cons (S.asgN (E.tup (A.cons E.int (A.cons E.int A.nil))) (G.t (gn_var (gn_var gn_nil)) (Gs.cn (G.var (pg_name (i := 4) sc_floor_sum.nd rfl (by first | exact Or.inl rfl | exact Or.inr rfl))) (Gs.cn (G.var (pg_name (i := 5) sc_floor_sum.nd rfl (by first | exact Or.inl rfl | exact Or.inr rfl))) Gs.nil (fun h1 h2 => pgs_cons h1 h2)) (fun h1 h2 => pgs_cons h1 h2)) (fun h => pg_tup rfl h)) (fun h1 h2 => ps_asg h1 h2))
    (Ss.cons (S.whN (T.gt (P.var 0 (pv 0)) (E.p E.int)) (Ss.cons (S.augN addI_s addI_mono (E.p (E.mul (P.var 5 (pv 5)) (E.p (E.add (E.p (E.mul (E.p (E.fdiv (E.p (E.mul (P.var 0 (pv 0)) (E.p (E.sub (P.var 0 (pv 0)) (E.p E.int))))) (E.p E.int))) (E.p (E.fdiv (P.var 2 (pv 2)) (P.var 1 (pv 1)))))) (E.p (E.mul (P.var 0 (pv 0)) (E.p (E.fdiv (P.var 3 (pv 3)) (P.var 1 (pv 1)))))))))) (fun h => ps_aug (i := 4) sc_floor_sum.nd rfl (by first | exact Or.inl rfl | exact Or.inr rfl) h ip_addI))
    (Ss.cons (S.parN (A.cons (E.mod (P.var 2 (pv 2)) (P.var 1 (pv 1))) (A.cons (E.mod (P.var 3 (pv 3)) (P.var 1 (pv 1))) A.nil)) (fun h => ps_par rfl sc_floor_sum.nd rfl rfl (by decide) rfl rfl h (by rfl)))
    (Ss.cons (S.setN (E.fdiv (E.p (E.add (E.p (E.mul (P.var 2 (pv 2)) (E.p (E.sub (P.var 0 (pv 0)) (E.p E.int))))) (P.var 3 (pv 3)))) (P.var 1 (pv 1))) (fun h => ps_asg h (pg_name (i := 6) sc_floor_sum.nd rfl (by first | exact Or.inl rfl | exact Or.inr rfl))))
    (Ss.cons (S.ifs (T.eq hr.units (P.var 6 (pv 6)) (E.p E.int)) (Ss.one (S.ret (E.var 4 (pv 4)))) Ss.nil)
    (Ss.cons (S.augN addI_s addI_mono (E.p (E.mul (E.p (E.mul (P.var 5 (pv 5)) (E.p (E.sub (P.var 0 (pv 0)) (E.p E.int))))) (P.var 6 (pv 6)))) (fun h => ps_aug (i := 4) sc_floor_sum.nd rfl (by first | exact Or.inl rfl | exact Or.inr rfl) h ip_addI))
    (Ss.one (S.asgN (E.tup (A.cons (E.var 6 (pv 6)) (A.cons (E.var 2 (pv 2)) (A.cons (E.var 1 (pv 1)) (A.cons (E.sub (E.p (E.sub (P.var 1 (pv 1)) (P.var 3 (pv 3)))) (E.p E.int)) (A.cons (E.neg (P.var 5 (pv 5))) A.nil)))))) (G.t (gn_var (gn_var (gn_var (gn_var (gn_var gn_nil))))) (Gs.cn (G.var (pg_name (i := 0) sc_floor_sum.nd rfl (by first | exact Or.inl rfl | exact Or.inr rfl))) (Gs.cn (G.var (pg_name (i := 1) sc_floor_sum.nd rfl (by first | exact Or.inl rfl | exact Or.inr rfl))) (Gs.cn (G.var (pg_name (i := 2) sc_floor_sum.nd rfl (by first | exact Or.inl rfl | exact Or.inr rfl))) (Gs.cn (G.var (pg_name (i := 3) sc_floor_sum.nd rfl (by first | exact Or.inl rfl | exact Or.inr rfl))) (Gs.cn (G.var (pg_name (i := 5) sc_floor_sum.nd rfl (by first | exact Or.inl rfl | exact Or.inr rfl))) Gs.nil (fun h1 h2 => pgs_cons h1 h2)) (fun h1 h2 => pgs_cons h1 h2)) (fun h1 h2 => pgs_cons h1 h2)) (fun h1 h2 => pgs_cons h1 h2)) (fun h1 h2 => pgs_cons h1 h2)) (fun h => pg_tup rfl h)) (fun h1 h2 => ps_asg h1 h2)))))))) (fun h1 h2 => ps_while PassesOwn.never h1 h2))
    (Ss.one (S.ret (E.var 4 (pv 4)))))))
abbrev sem_l_pick (g_l_taken : OC) : SS := (retS (sOp ixO (varP 1) (callE g_l_taken (consA (varE 0) (consA (callE (call1 lenO) (consA (varP 1) nilA)) nilA)))))
theorem walk_l_pick (tx : Tx K mg) {g_l_taken : OC} {k_l_taken : Nat} (mo_l_taken : MonoC g_l_taken) (ok_l_taken : FnOk Pg w K mg base CX0 k_l_taken tx.a_l_taken tx.d_l_taken ["_law_row", "_law_many"] (spOf K 2 g_l_taken)) (le_l_taken : k_l_taken ≤ k) (cdv : Value) (Ar : Around) (outer : List PySem.Env) (s : Shared) (H : Hp) (Xk : XK) (hr : Room k (Ar.deeper (envOfC "_law_pick" (defScope s_l_pick) s.heap.objs.size tx.a_l_pick cdv))) :
    Ss (bodyX Pg w K mg base ["_law_row", "_law_things"] "_law_pick" (defScope s_l_pick) tx.a_l_pick cdv Ar outer s H Xk) (defBody s_l_pick) (sem_l_pick g_l_taken) :=
  (Ss.one (S.ret (E.ix (P.var 1 (pv 1)) (E.p (E.call mo_l_taken (A.cons (E.var 0 (pv 0)) (A.cons (E.callBN len_s (call1_mono lenO_mono) (Ap.cons (P.var 1 (pv 1)) Ap.nil) (fun h => pe_callB (CallR.or call_len_seq call_len_str) (by rfl) tx.z_len bt_len h)) A.nil)) rfl (fun h => pe_call ok_l_taken (hr.mono le_l_taken) (by rfl) tx.m_l_taken tx.f_l_taken.kp tx.b_l_taken .nil pass0 h))) (fun _ _ => rfl))))
abbrev sem_l_signed (g_l_taken : OC) : SS := (retS (sOp subO (callE g_l_taken (consA (varE 0) (consA (sOp addO (sOp mulO (cE (.int 2)) (varP 1)) (cE (.int 1))) nilA))) (varP 1)))
theorem walk_l_signed (tx : Tx K mg) {g_l_taken : OC} {k_l_taken : Nat} (mo_l_taken : MonoC g_l_taken) (ok_l_taken : FnOk Pg w K mg base CX0 k_l_taken tx.a_l_taken tx.d_l_taken ["_law_row", "_law_many"] (spOf K 2 g_l_taken)) (le_l_taken : k_l_taken ≤ k) (cdv : Value) (Ar : Around) (outer : List PySem.Env) (s : Shared) (H : Hp) (Xk : XK) (hr : Room k (Ar.deeper (envOfC "_law_signed" (defScope s_l_signed) s.heap.objs.size tx.a_l_signed cdv))) :
    Ss (bodyX Pg w K mg base ["_law_row", "_law_most"] "_law_signed" (defScope s_l_signed) tx.a_l_signed cdv Ar outer s H Xk) (defBody s_l_signed) (sem_l_signed g_l_taken) :=
  (Ss.one (S.ret (E.sub (E.p (E.call mo_l_taken (A.cons (E.var 0 (pv 0)) (A.cons (E.add (E.p (E.mul (E.p E.int) (P.var 1 (pv 1)))) (E.p E.int)) A.nil)) rfl (fun h => pe_call ok_l_taken (hr.mono le_l_taken) (by rfl) tx.m_l_taken tx.f_l_taken.kp tx.b_l_taken .nil pass0 h))) (P.var 1 (pv 1)))))
abbrev ct1_l_alike (g_l_alike : OC) : ST := (notT (tV (callE g_l_alike (consA (sOp ixO (varP 0) (varP 2)) (consA (sOp ixO (varP 1) (varP 2)) nilA)))))
abbrev ce2_l_alike (g_l_alike : OC) : SE := (varE 2)
abbrev sem_l_alike (g_l_alike : OC) : SS := (seqS (ifS (tV (callE isiO (consA (varP 1) (consA (tupE (consA (cE (.ty .tuple)) (consA (cE (.ty .list)) nilA))) nilA)))) (seqS (ifS (orT (notT (tV (callE isiO (consA (varP 0) (consA (tupE (consA (cE (.ty .tuple)) (consA (cE (.ty .list)) nilA))) nilA))))) (tV (sOp neO (callE isiO (consA (varP 0) (consA (cE (.ty .list)) nilA))) (callE isiO (consA (varP 1) (consA (cE (.ty .list)) nilA)))))) (retS (cE (.bl false))) nextS)
    (seqS (ifS (tV (sOp neO (callE (call1 lenO) (consA (varP 0) nilA)) (callE (call1 lenO) (consA (varP 1) nilA)))) (retS (cE (.bl false))) nextS)
    (retS (sOp eqO (fun ρ Q => (lcA (rng1A (consA (callE (call1 lenO) (consA (varP 1) nilA)) nilA)) (gVar 2) (ct1_l_alike g_l_alike) (ce2_l_alike g_l_alike) [2]) ρ fun ds => Q (.lst ds)) (fun ρ Q => (lstF nilA) ρ fun ds => Q (.lst ds)))))) nextS)
    (seqS (ifS (orT (tV (sOp isO (varP 1) (cE .non))) (tV (callE isiO (consA (varP 1) (consA (cE (.ty .str)) nilA))))) (retS (vB (andT (tV (sOp eqO (varP 0) (varP 1))) (tV (sOp eqO (callE isiO (consA (varP 0) (consA (cE (.ty .str)) nilA))) (callE isiO (consA (varP 1) (consA (cE (.ty .str)) nilA)))))))) nextS)
    (retS (vB (andT (tV (callE isiO (consA (varP 0) (consA (cE (.ty .int)) nilA)))) (andT (tV (sOp eqO (callE isiO (consA (varP 0) (consA (cE (.ty .bool)) nilA))) (callE isiO (consA (varP 1) (consA (cE (.ty .bool)) nilA))))) (tV (sOp eqO (varP 0) (varP 1)))))))))
theorem walk_l_alike (tx : Tx K mg) {g_l_alike : OC} {k_l_alike : Nat} (mo_l_alike : MonoC g_l_alike) (ok_l_alike : FnOk Pg w K mg base CX0 k_l_alike tx.a_l_alike tx.d_l_alike ["_law_found", "_law_due"] (spOf K 2 g_l_alike)) (le_l_alike : k_l_alike ≤ k) (cdv : Value) (Ar : Around) (outer : List PySem.Env) (s : Shared) (H : Hp) (Xk : XK) (hr : Room k (Ar.deeper (envOfC "_law_alike" (defScope s_l_alike) s.heap.objs.size tx.a_l_alike cdv))) :
    Ss (bodyX Pg w K mg base ["_law_found", "_law_due", "_law_k"] "_law_alike" (defScope s_l_alike) tx.a_l_alike cdv Ar outer s H Xk) (defBody s_l_alike) (sem_l_alike g_l_alike) :=
  (Ss.cons (S.ifs (T.val (E.callBN isi_s isiO_mono (Ap.cons (P.var 1 (pv 1)) (Ap.cons (E.p (E.tup (A.cons (E.tyv (t := .tuple) (by rfl) tx.z_tuple bt_tuple) (A.cons (E.tyv (t := .list) (by rfl) tx.z_list bt_list) A.nil)))) Ap.nil)) (fun h => pe_callB call_isiA (by rfl) tx.z_isinstance bt_isinstance h))) (Ss.cons (S.ifs (Tw.t (Tw.or (T.not (T.val (E.callBN isi_s isiO_mono (Ap.cons (P.var 0 (pv 0)) (Ap.cons (E.p (E.tup (A.cons (E.tyv (t := .tuple) (by rfl) tx.z_tuple bt_tuple) (A.cons (E.tyv (t := .list) (by rfl) tx.z_list bt_list) A.nil)))) Ap.nil)) (fun h => pe_callB call_isiA (by rfl) tx.z_isinstance bt_isinstance h)))) (Tw.or1 (T.ne hr.units (E.p (E.callBN isi_s isiO_mono (Ap.cons (P.var 0 (pv 0)) (Ap.cons (E.p (E.tyv (t := .list) (by rfl) tx.z_list bt_list)) Ap.nil)) (fun h => pe_callB call_isiA (by rfl) tx.z_isinstance bt_isinstance h))) (E.p (E.callBN isi_s isiO_mono (Ap.cons (P.var 1 (pv 1)) (Ap.cons (E.p (E.tyv (t := .list) (by rfl) tx.z_list bt_list)) Ap.nil)) (fun h => pe_callB call_isiA (by rfl) tx.z_isinstance bt_isinstance h))))))) (Ss.one (S.ret E.bl)) Ss.nil)
    (Ss.cons (S.ifs (T.ne hr.units (E.p (E.callBN len_s (call1_mono lenO_mono) (Ap.cons (P.var 0 (pv 0)) Ap.nil) (fun h => pe_callB (CallR.or call_len_seq call_len_str) (by rfl) tx.z_len bt_len h))) (E.p (E.callBN len_s (call1_mono lenO_mono) (Ap.cons (P.var 1 (pv 1)) Ap.nil) (fun h => pe_callB (CallR.or call_len_seq call_len_str) (by rfl) tx.z_len bt_len h)))) (Ss.one (S.ret E.bl)) Ss.nil)
    (Ss.one (S.ret (E.eq hr.units (E.p (E.ofF (F.lc rfl sc_l_alike.nd (own := [("_law_k", 2)]) (blkOk_by (by kernel_rfl)) (by decide) (I.toG (I.r1 (Ap.cons (E.p (E.callBN len_s (call1_mono lenO_mono) (Ap.cons (P.var 1 (pv 1)) Ap.nil) (fun h => pe_callB (CallR.or call_len_seq call_len_str) (by rfl) tx.z_len bt_len h))) Ap.nil) (fun h => pi_range1 (by rfl) tx.z_range h))) (fun _ _ _ _ _ => (G.var (pg_name (i := 2) sc_l_alike.nd rfl (by first | exact Or.inl rfl | exact Or.inr rfl)))) (fun _ _ _ _ _ => (Tl.one (T.not (T.val (E.call mo_l_alike (A.cons (E.ix (P.var 0 (pv 0)) (P.var 2 (pv 2)) (fun _ _ => rfl)) (A.cons (E.ix (P.var 1 (pv 1)) (P.var 2 (pv 2)) (fun _ _ => rfl)) A.nil)) rfl (fun h => pe_call ok_l_alike (hr.mono le_l_alike) (by rfl) tx.m_l_alike tx.f_l_alike.kp tx.b_l_alike .nil pass0 h)))))) (fun _ _ _ _ _ => (E.var 2 (pv 2)))))) (E.p (E.ofF (F.lst A.nil)))))))) Ss.nil)
    (Ss.cons (S.ifs (Tw.t (Tw.or (T.is (P.var 1 (pv 1)) (E.p E.non)) (Tw.or1 (T.val (E.callBN isi_s isiO_mono (Ap.cons (P.var 1 (pv 1)) (Ap.cons (E.p (E.tyv (t := .str) (by rfl) tx.z_str bt_str)) Ap.nil)) (fun h => pe_callB call_isiA (by rfl) tx.z_isinstance bt_isinstance h)))))) (Ss.one (S.ret (B.val (B.and (B.of (E.eq hr.units (P.var 0 (pv 0)) (P.var 1 (pv 1)))) (B.one (B.of (E.eq hr.units (E.p (E.callBN isi_s isiO_mono (Ap.cons (P.var 0 (pv 0)) (Ap.cons (E.p (E.tyv (t := .str) (by rfl) tx.z_str bt_str)) Ap.nil)) (fun h => pe_callB call_isiA (by rfl) tx.z_isinstance bt_isinstance h))) (E.p (E.callBN isi_s isiO_mono (Ap.cons (P.var 1 (pv 1)) (Ap.cons (E.p (E.tyv (t := .str) (by rfl) tx.z_str bt_str)) Ap.nil)) (fun h => pe_callB call_isiA (by rfl) tx.z_isinstance bt_isinstance h)))))))))) Ss.nil)
    (Ss.one (S.ret (B.val (B.and (B.of (E.callBN isi_s isiO_mono (Ap.cons (P.var 0 (pv 0)) (Ap.cons (E.p (E.tyv (t := .int) (by rfl) tx.z_int bt_int)) Ap.nil)) (fun h => pe_callB call_isiA (by rfl) tx.z_isinstance bt_isinstance h))) (B.and (B.of (E.eq hr.units (E.p (E.callBN isi_s isiO_mono (Ap.cons (P.var 0 (pv 0)) (Ap.cons (E.p (E.tyv (t := .bool) (by rfl) tx.z_bool bt_bool)) Ap.nil)) (fun h => pe_callB call_isiA (by rfl) tx.z_isinstance bt_isinstance h))) (E.p (E.callBN isi_s isiO_mono (Ap.cons (P.var 1 (pv 1)) (Ap.cons (E.p (E.tyv (t := .bool) (by rfl) tx.z_bool bt_bool)) Ap.nil)) (fun h => pe_callB call_isiA (by rfl) tx.z_isinstance bt_isinstance h))))) (B.one (B.of (E.eq hr.units (P.var 0 (pv 0)) (P.var 1 (pv 1))))))))))))
abbrev wt1_l_gcd  : ST := (tV (sOp neO (varP 1) (cE (.int 0))))
abbrev ws2_l_gcd  : SS := (parS 0 1 (consA (varE 1) (consA (sOp modO (callE (call1 toIntO) (consA (varP 0) nilA)) (varP 1)) nilA)))
abbrev sem_l_gcd  : SS := (seqS (parS 0 1 (consA (callE (call1 absO) (consA (varP 0) nilA)) (consA (callE (call1 absO) (consA (varP 1) nilA)) nilA)))
    (seqS (whS (wt1_l_gcd) (ws2_l_gcd))
    (retS (varE 0))))
theorem walk_l_gcd (tx : Tx K mg)  (cdv : Value) (Ar : Around) (outer : List PySem.Env) (s : Shared) (H : Hp) (Xk : XK) (hr : Room k (Ar.deeper (envOfC "_law_gcd" (defScope s_l_gcd) s.heap.objs.size tx.a_l_gcd cdv))) :
    Ss (bodyX Pg w K mg base ["_law_one", "_law_other"] "_law_gcd" (defScope s_l_gcd) tx.a_l_gcd cdv Ar outer s H Xk) (defBody s_l_gcd) (sem_l_gcd ) :=
  (Ss.cons (S.parN (A.cons (E.callBN abs_s (call1_mono absO_mono) (Ap.cons (P.var 0 (pv 0)) Ap.nil) (fun h => pe_callB call_abs (by rfl) tx.z_abs bt_abs h)) (A.cons (E.callBN abs_s (call1_mono absO_mono) (Ap.cons (P.var 1 (pv 1)) Ap.nil) (fun h => pe_callB call_abs (by rfl) tx.z_abs bt_abs h)) A.nil)) (fun h => ps_par rfl sc_l_gcd.nd rfl rfl (by decide) rfl rfl h (by rfl)))
    (Ss.cons (S.whN (T.ne hr.units (P.var 1 (pv 1)) (E.p E.int)) (Ss.one (S.parN (A.cons (E.var 1 (pv 1)) (A.cons (E.mod (E.p (E.callBN toInt_s (call1_mono toIntO_mono) (Ap.cons (P.var 0 (pv 0)) Ap.nil) (fun h => pe_callTy call_int1 (by rfl) tx.z_int bt_int h))) (P.var 1 (pv 1))) A.nil)) (fun h => ps_par rfl sc_l_gcd.nd rfl rfl (by decide) rfl rfl h (by rfl)))) (fun h1 h2 => ps_while PassesOwn.never h1 h2))
    (Ss.one (S.ret (E.var 0 (pv 0))))))
abbrev sem_l_two (g_l_taken : OC) (g_l_gcd : OC) : SS := (seqS (parS 2 3 (consA (sOp addO (cE (.int 1)) (callE g_l_taken (consA (varE 0) (consA (varE 1) nilA)))) (consA (sOp addO (cE (.int 1)) (callE g_l_taken (consA (varE 0) (consA (varE 1) nilA)))) nilA)))
    (seqS (setS 4 (callE g_l_gcd (consA (varE 2) (consA (varE 3) nilA))))
    (retS (tupE (consA (sOp fdivO (varP 2) (varP 4)) (consA (sOp fdivO (varP 3) (varP 4)) nilA))))))
theorem walk_l_two (tx : Tx K mg) {g_l_taken : OC} {k_l_taken : Nat} (mo_l_taken : MonoC g_l_taken) (ok_l_taken : FnOk Pg w K mg base CX0 k_l_taken tx.a_l_taken tx.d_l_taken ["_law_row", "_law_many"] (spOf K 2 g_l_taken)) (le_l_taken : k_l_taken ≤ k) {g_l_gcd : OC} {k_l_gcd : Nat} (mo_l_gcd : MonoC g_l_gcd) (ok_l_gcd : FnOk Pg w K mg base CX0 k_l_gcd tx.a_l_gcd tx.d_l_gcd ["_law_one", "_law_other"] (spOf K 2 g_l_gcd)) (le_l_gcd : k_l_gcd ≤ k) (cdv : Value) (Ar : Around) (outer : List PySem.Env) (s : Shared) (H : Hp) (Xk : XK) (hr : Room k (Ar.deeper (envOfC "_law_two" (defScope s_l_two) s.heap.objs.size tx.a_l_two cdv))) :
    Ss (bodyX Pg w K mg base ["_law_row", "_law_most", "_law_a", "_law_b", "_law_common"] "_law_two" (defScope s_l_two) tx.a_l_two cdv Ar outer s H Xk) (defBody s_l_two) (sem_l_two g_l_taken g_l_gcd) :=
  (Ss.cons (S.parN (A.cons (E.add (E.p E.int) (E.p (E.call mo_l_taken (A.cons (E.var 0 (pv 0)) (A.cons (E.var 1 (pv 1)) A.nil)) rfl (fun h => pe_call ok_l_taken (hr.mono le_l_taken) (by rfl) tx.m_l_taken tx.f_l_taken.kp tx.b_l_taken .nil pass0 h)))) (A.cons (E.add (E.p E.int) (E.p (E.call mo_l_taken (A.cons (E.var 0 (pv 0)) (A.cons (E.var 1 (pv 1)) A.nil)) rfl (fun h => pe_call ok_l_taken (hr.mono le_l_taken) (by rfl) tx.m_l_taken tx.f_l_taken.kp tx.b_l_taken .nil pass0 h)))) A.nil)) (fun h => ps_par rfl sc_l_two.nd rfl rfl (by decide) rfl rfl h (by rfl)))
    (Ss.cons (S.setN (E.call mo_l_gcd (A.cons (E.var 2 (pv 2)) (A.cons (E.var 3 (pv 3)) A.nil)) rfl (fun h => pe_call ok_l_gcd (hr.mono le_l_gcd) (by rfl) tx.m_l_gcd tx.f_l_gcd.kp tx.b_l_gcd .nil pass0 h)) (fun h => ps_asg h (pg_name (i := 4) sc_l_two.nd rfl (by first | exact Or.inl rfl | exact Or.inr rfl))))
    (Ss.one (S.ret (E.tup (A.cons (E.fdiv (P.var 2 (pv 2)) (P.var 4 (pv 4))) (A.cons (E.fdiv (P.var 3 (pv 3)) (P.var 4 (pv 4))) A.nil)))))))
abbrev ce1_law (g_l_pick : OC) (g_l_taken : OC) (g_l_signed : OC) (g_floor_sum : OC) (g_l_alike : OC) (g_l_two : OC) : SE := (sOp fdivO (sOp addO (sOp mulO (varP 5) (varP 7)) (varP 6)) (varP 4))
abbrev fb2_law (g_l_pick : OC) (g_l_taken : OC) (g_l_signed : OC) (g_floor_sum : OC) (g_l_alike : OC) (g_l_two : OC) : SS := (seqS (asgS (tupE (consA (callE g_l_taken (consA (varE 1) (consA (cE (.int 30)) nilA))) (consA (sOp addO (cE (.int 1)) (callE g_l_taken (consA (varE 1) (consA (callE g_l_pick (consA (varE 1) (consA (fun ρ Q => (lstF (consA (cE (.int 6)) (consA (cE (.int 40)) nilA))) ρ fun ds => Q (.lst ds)) nilA))) nilA)))) nilA))) (gTupS (gConsS (gVar 3) (gConsS (gVar 4) gNilS))))
    (seqS (asgS (tupE (consA (callE g_l_signed (consA (varE 1) (consA (cE (.int 50)) nilA))) (consA (callE g_l_signed (consA (varE 1) (consA (cE (.int 60)) nilA))) nilA))) (gTupS (gConsS (gVar 5) (gConsS (gVar 6) gNilS))))
    (ifS (notT (tV (callE g_l_alike (consA (callE g_floor_sum (consA (varE 3) (consA (varE 4) (consA (varE 5) (consA (varE 6) nilA))))) (consA (callE (call1 sumO) (consA (fun ρ Q => (lcA (rng1A (consA (varP 3) nilA)) (gVar 7) yesT (ce1_law g_l_pick g_l_taken g_l_signed g_floor_sum g_l_alike g_l_two) [7]) ρ fun ds => Q (.lst ds)) nilA)) nilA))))) (retS (cE (.bl false))) nextS)))
abbrev fb3_law (g_l_pick : OC) (g_l_taken : OC) (g_l_signed : OC) (g_floor_sum : OC) (g_l_alike : OC) (g_l_two : OC) : SS := (seqS (parS 17 18 (consA (callE g_floor_sum (consA (sOp addO (sOp fdivO (sOp subO (varP 16) (cE (.int 1))) (cE (.int 2))) (cE (.int 1))) (consA (varE 16) (consA (varE 15) (consA (cE (.int 0)) nilA))))) (consA (callE g_floor_sum (consA (sOp addO (sOp fdivO (sOp subO (varP 15) (cE (.int 1))) (cE (.int 2))) (cE (.int 1))) (consA (varE 15) (consA (varE 16) (consA (cE (.int 0)) nilA))))) nilA)))
    (ifS (tV (sOp neO (sOp addO (varP 17) (varP 18)) (sOp fdivO (sOp mulO (sOp subO (varP 15) (cE (.int 1))) (sOp subO (varP 16) (cE (.int 1)))) (cE (.int 4))))) (retS (cE (.bl false))) nextS))
abbrev sem_law (g_l_pick : OC) (g_l_taken : OC) (g_l_signed : OC) (g_floor_sum : OC) (g_l_alike : OC) (g_l_two : OC) : SS := (seqS (forS (rng1A (consA (cE (.int 3)) nilA)) (gVar 2) (fb2_law g_l_pick g_l_taken g_l_signed g_floor_sum g_l_alike g_l_two))
    (seqS (asgS (tupE (consA (callE g_l_taken (consA (varE 1) (consA (sOp subO (sOp powO (cE (.int 10)) (cE (.int 9))) (cE (.int 1))) nilA))) (consA (sOp addO (cE (.int 1)) (callE g_l_taken (consA (varE 1) (consA (sOp powO (cE (.int 10)) (cE (.int 9))) nilA)))) nilA))) (gTupS (gConsS (gVar 8) (gConsS (gVar 4) gNilS))))
    (seqS (asgS (tupE (consA (callE g_l_signed (consA (varE 1) (consA (sOp powO (cE (.int 10)) (cE (.int 9))) nilA))) (consA (callE g_l_signed (consA (varE 1) (consA (sOp powO (cE (.int 10)) (cE (.int 9))) nilA))) nilA))) (gTupS (gConsS (gVar 5) (gConsS (gVar 6) gNilS))))
    (seqS (setS 9 (callE g_floor_sum (consA (sOp addO (varP 8) (cE (.int 1))) (consA (varE 4) (consA (varE 5) (consA (varE 6) nilA))))))
    (seqS (ifS (notT (tV (callE g_l_alike (consA (sOp subO (varP 9) (callE g_floor_sum (consA (varE 8) (consA (varE 4) (consA (varE 5) (consA (varE 6) nilA)))))) (consA (sOp fdivO (sOp addO (sOp mulO (varP 5) (varP 8)) (varP 6)) (varP 4)) nilA))))) (retS (cE (.bl false))) nextS)
    (seqS (asgS (callE g_l_two (consA (varE 1) (consA (sOp powO (cE (.int 10)) (cE (.int 4))) nilA))) (gTupS (gConsS (gVar 10) (gConsS (gVar 11) gNilS))))
    (seqS (setS 12 (sOp addO (callE g_floor_sum (consA (varE 11) (consA (varE 11) (consA (varE 10) (consA (cE (.int 0)) nilA))))) (callE g_floor_sum (consA (varE 10) (consA (varE 10) (consA (varE 11) (consA (cE (.int 0)) nilA)))))))
    (seqS (setS 13 (sOp fdivO (sOp mulO (sOp subO (varP 10) (cE (.int 1))) (sOp subO (varP 11) (cE (.int 1)))) (cE (.int 2))))
    (seqS (ifS (orT (tV (sOp neO (callE g_floor_sum (consA (varE 11) (consA (varE 11) (consA (varE 10) (consA (cE (.int 0)) nilA))))) (varP 13))) (tV (sOp neO (varP 12) (sOp mulO (cE (.int 2)) (varP 13))))) (retS (cE (.bl false))) nextS)
    (seqS (setS 14 (ifE (andT (tV (sOp eqO (sOp modO (callE (call1 toIntO) (consA (varP 10) nilA)) (cE (.int 2))) (cE (.int 1)))) (tV (sOp eqO (sOp modO (callE (call1 toIntO) (consA (varP 11) nilA)) (cE (.int 2))) (cE (.int 1))))) (fun ρ Q => (lstF (consA (tupE (consA (varE 10) (consA (varE 11) nilA))) nilA)) ρ fun ds => Q (.lst ds)) (fun ρ Q => (lstF nilA) ρ fun ds => Q (.lst ds))))
    (seqS (forS (seqI (varE 14)) (gTupS (gConsS (gVar 15) (gConsS (gVar 16) gNilS))) (fb3_law g_l_pick g_l_taken g_l_signed g_floor_sum g_l_alike g_l_two))
    (retS (cE (.bl true))))))))))))))
theorem walk_law (tx : Tx K mg) {g_l_pick : OC} {k_l_pick : Nat} (mo_l_pick : MonoC g_l_pick) (ok_l_pick : FnOk Pg w K mg base CX0 k_l_pick tx.a_l_pick tx.d_l_pick ["_law_row", "_law_things"] (spOf K 2 g_l_pick)) (le_l_pick : k_l_pick ≤ k) {g_l_taken : OC} {k_l_taken : Nat} (mo_l_taken : MonoC g_l_taken) (ok_l_taken : FnOk Pg w K mg base CX0 k_l_taken tx.a_l_taken tx.d_l_taken ["_law_row", "_law_many"] (spOf K 2 g_l_taken)) (le_l_taken : k_l_taken ≤ k) {g_l_signed : OC} {k_l_signed : Nat} (mo_l_signed : MonoC g_l_signed) (ok_l_signed : FnOk Pg w K mg base CX0 k_l_signed tx.a_l_signed tx.d_l_signed ["_law_row", "_law_most"] (spOf K 2 g_l_signed)) (le_l_signed : k_l_signed ≤ k) {g_floor_sum : OC} {k_floor_sum : Nat} (mo_floor_sum : MonoC g_floor_sum) (ok_floor_sum : FnOk Pg w K mg base CX0 k_floor_sum tx.a_floor_sum tx.d_floor_sum ["n", "m", "a", "b"] (spOf K 4 g_floor_sum)) (le_floor_sum : k_floor_sum ≤ k) {g_l_alike : OC} {k_l_alike : Nat} (mo_l_alike : MonoC g_l_alike) (ok_l_alike : FnOk Pg w K mg base CX0 k_l_alike tx.a_l_alike tx.d_l_alike ["_law_found", "_law_due"] (spOf K 2 g_l_alike)) (le_l_alike : k_l_alike ≤ k) {g_l_two : OC} {k_l_two : Nat} (mo_l_two : MonoC g_l_two) (ok_l_two : FnOk Pg w K mg base CX0 k_l_two tx.a_l_two tx.d_l_two ["_law_row", "_law_most"] (spOf K 2 g_l_two)) (le_l_two : k_l_two ≤ k) (cdv : Value) (Ar : Around) (outer : List PySem.Env) (s : Shared) (H : Hp) (Xk : XK) (hr : Room k (Ar.deeper (envOfC "law" (defScope s_law) s.heap.objs.size tx.a_law cdv))) :
    Ss (bodyX Pg w K mg base ["_law_script", "_law_row", "_law_turn", "_law_n", "_law_m", "_law_a", "_law_b", "_law_i", "_law_great", "_law_whole", "_law_p", "_law_q", "_law_both", "_law_due", "_law_half", "_law_u", "_law_v", "_law_one", "_law_other"] "law" (defScope s_law) tx.a_law cdv Ar outer s H Xk) (defBody s_law).tail (sem_law g_l_pick g_l_taken g_l_signed g_floor_sum g_l_alike g_l_two) :=
  (Ss.cons (S.forN (I.r1 (Ap.cons (E.p E.int) Ap.nil) (fun h => pi_range1 (by rfl) tx.z_range h)) (G.var (pg_name (i := 2) sc_law.nd rfl (by first | exact Or.inl rfl | exact Or.inr rfl))) (Ss.cons (S.asgN (E.tup (A.cons (E.call mo_l_taken (A.cons (E.var 1 (pv 1)) (A.cons E.int A.nil)) rfl (fun h => pe_call ok_l_taken (hr.mono le_l_taken) (by rfl) tx.m_l_taken tx.f_l_taken.kp tx.b_l_taken .nil pass0 h)) (A.cons (E.add (E.p E.int) (E.p (E.call mo_l_taken (A.cons (E.var 1 (pv 1)) (A.cons (E.call mo_l_pick (A.cons (E.var 1 (pv 1)) (A.cons (E.ofF (F.lst (A.cons E.int (A.cons E.int A.nil)))) A.nil)) rfl (fun h => pe_call ok_l_pick (hr.mono le_l_pick) (by rfl) tx.m_l_pick tx.f_l_pick.kp tx.b_l_pick .nil pass0 h)) A.nil)) rfl (fun h => pe_call ok_l_taken (hr.mono le_l_taken) (by rfl) tx.m_l_taken tx.f_l_taken.kp tx.b_l_taken .nil pass0 h)))) A.nil))) (G.t (gn_var (gn_var gn_nil)) (Gs.cn (G.var (pg_name (i := 3) sc_law.nd rfl (by first | exact Or.inl rfl | exact Or.inr rfl))) (Gs.cn (G.var (pg_name (i := 4) sc_law.nd rfl (by first | exact Or.inl rfl | exact Or.inr rfl))) Gs.nil (fun h1 h2 => pgs_cons h1 h2)) (fun h1 h2 => pgs_cons h1 h2)) (fun h => pg_tup rfl h)) (fun h1 h2 => ps_asg h1 h2))
    (Ss.cons (S.asgN (E.tup (A.cons (E.call mo_l_signed (A.cons (E.var 1 (pv 1)) (A.cons E.int A.nil)) rfl (fun h => pe_call ok_l_signed (hr.mono le_l_signed) (by rfl) tx.m_l_signed tx.f_l_signed.kp tx.b_l_signed .nil pass0 h)) (A.cons (E.call mo_l_signed (A.cons (E.var 1 (pv 1)) (A.cons E.int A.nil)) rfl (fun h => pe_call ok_l_signed (hr.mono le_l_signed) (by rfl) tx.m_l_signed tx.f_l_signed.kp tx.b_l_signed .nil pass0 h)) A.nil))) (G.t (gn_var (gn_var gn_nil)) (Gs.cn (G.var (pg_name (i := 5) sc_law.nd rfl (by first | exact Or.inl rfl | exact Or.inr rfl))) (Gs.cn (G.var (pg_name (i := 6) sc_law.nd rfl (by first | exact Or.inl rfl | exact Or.inr rfl))) Gs.nil (fun h1 h2 => pgs_cons h1 h2)) (fun h1 h2 => pgs_cons h1 h2)) (fun h => pg_tup rfl h)) (fun h1 h2 => ps_asg h1 h2))
    (Ss.one (S.ifs (T.not (T.val (E.call mo_l_alike (A.cons (E.call mo_floor_sum (A.cons (E.var 3 (pv 3)) (A.cons (E.var 4 (pv 4)) (A.cons (E.var 5 (pv 5)) (A.cons (E.var 6 (pv 6)) A.nil)))) rfl (fun h => pe_call ok_floor_sum (hr.mono le_floor_sum) (by rfl) tx.m_floor_sum tx.f_floor_sum.kp tx.b_floor_sum .nil pass0 h)) (A.cons (E.callBN sum_s (call1_mono sumO_mono) (Ap.cons (E.p (E.ofF (F.lc rfl sc_law.nd (own := [("_law_i", 7)]) (blkOk_by (by kernel_rfl)) (by decide) (I.toG (I.r1 (Ap.cons (P.var 3 (pv 3)) Ap.nil) (fun h => pi_range1 (by rfl) tx.z_range h))) (fun _ _ _ _ _ => (G.var (pg_name (i := 7) sc_law.nd rfl (by first | exact Or.inl rfl | exact Or.inr rfl)))) (fun _ _ _ _ _ => Tl.nil) (fun _ _ _ _ _ => (E.fdiv (E.p (E.add (E.p (E.mul (P.var 5 (pv 5)) (P.var 7 (pv 7)))) (P.var 6 (pv 6)))) (P.var 4 (pv 4))))))) Ap.nil) (fun h => pe_callB (cr_sum rfl) (by rfl) tx.z_sum bt_sum h)) A.nil)) rfl (fun h => pe_call ok_l_alike (hr.mono le_l_alike) (by rfl) tx.m_l_alike tx.f_l_alike.kp tx.b_l_alike .nil pass0 h)))) (Ss.one (S.ret E.bl)) Ss.nil)))) (fun h1 h2 h3 => ps_for PassesOwn.never rfl h1 h2 h3))
    (Ss.cons (S.asgN (E.tup (A.cons (E.call mo_l_taken (A.cons (E.var 1 (pv 1)) (A.cons (E.sub (E.p (E.pow (E.p E.int) (E.p E.int))) (E.p E.int)) A.nil)) rfl (fun h => pe_call ok_l_taken (hr.mono le_l_taken) (by rfl) tx.m_l_taken tx.f_l_taken.kp tx.b_l_taken .nil pass0 h)) (A.cons (E.add (E.p E.int) (E.p (E.call mo_l_taken (A.cons (E.var 1 (pv 1)) (A.cons (E.pow (E.p E.int) (E.p E.int)) A.nil)) rfl (fun h => pe_call ok_l_taken (hr.mono le_l_taken) (by rfl) tx.m_l_taken tx.f_l_taken.kp tx.b_l_taken .nil pass0 h)))) A.nil))) (G.t (gn_var (gn_var gn_nil)) (Gs.cn (G.var (pg_name (i := 8) sc_law.nd rfl (by first | exact Or.inl rfl | exact Or.inr rfl))) (Gs.cn (G.var (pg_name (i := 4) sc_law.nd rfl (by first | exact Or.inl rfl | exact Or.inr rfl))) Gs.nil (fun h1 h2 => pgs_cons h1 h2)) (fun h1 h2 => pgs_cons h1 h2)) (fun h => pg_tup rfl h)) (fun h1 h2 => ps_asg h1 h2))
    (Ss.cons (S.asgN (E.tup (A.cons (E.call mo_l_signed (A.cons (E.var 1 (pv 1)) (A.cons (E.pow (E.p E.int) (E.p E.int)) A.nil)) rfl (fun h => pe_call ok_l_signed (hr.mono le_l_signed) (by rfl) tx.m_l_signed tx.f_l_signed.kp tx.b_l_signed .nil pass0 h)) (A.cons (E.call mo_l_signed (A.cons (E.var 1 (pv 1)) (A.cons (E.pow (E.p E.int) (E.p E.int)) A.nil)) rfl (fun h => pe_call ok_l_signed (hr.mono le_l_signed) (by rfl) tx.m_l_signed tx.f_l_signed.kp tx.b_l_signed .nil pass0 h)) A.nil))) (G.t (gn_var (gn_var gn_nil)) (Gs.cn (G.var (pg_name (i := 5) sc_law.nd rfl (by first | exact Or.inl rfl | exact Or.inr rfl))) (Gs.cn (G.var (pg_name (i := 6) sc_law.nd rfl (by first | exact Or.inl rfl | exact Or.inr rfl))) Gs.nil (fun h1 h2 => pgs_cons h1 h2)) (fun h1 h2 => pgs_cons h1 h2)) (fun h => pg_tup rfl h)) (fun h1 h2 => ps_asg h1 h2))
    (Ss.cons (S.setN (E.call mo_floor_sum (A.cons (E.add (P.var 8 (pv 8)) (E.p E.int)) (A.cons (E.var 4 (pv 4)) (A.cons (E.var 5 (pv 5)) (A.cons (E.var 6 (pv 6)) A.nil)))) rfl (fun h => pe_call ok_floor_sum (hr.mono le_floor_sum) (by rfl) tx.m_floor_sum tx.f_floor_sum.kp tx.b_floor_sum .nil pass0 h)) (fun h => ps_asg h (pg_name (i := 9) sc_law.nd rfl (by first | exact Or.inl rfl | exact Or.inr rfl))))
    (Ss.cons (S.ifs (T.not (T.val (E.call mo_l_alike (A.cons (E.sub (P.var 9 (pv 9)) (E.p (E.call mo_floor_sum (A.cons (E.var 8 (pv 8)) (A.cons (E.var 4 (pv 4)) (A.cons (E.var 5 (pv 5)) (A.cons (E.var 6 (pv 6)) A.nil)))) rfl (fun h => pe_call ok_floor_sum (hr.mono le_floor_sum) (by rfl) tx.m_floor_sum tx.f_floor_sum.kp tx.b_floor_sum .nil pass0 h)))) (A.cons (E.fdiv (E.p (E.add (E.p (E.mul (P.var 5 (pv 5)) (P.var 8 (pv 8)))) (P.var 6 (pv 6)))) (P.var 4 (pv 4))) A.nil)) rfl (fun h => pe_call ok_l_alike (hr.mono le_l_alike) (by rfl) tx.m_l_alike tx.f_l_alike.kp tx.b_l_alike .nil pass0 h)))) (Ss.one (S.ret E.bl)) Ss.nil)
    (Ss.cons (S.asgN (E.call mo_l_two (A.cons (E.var 1 (pv 1)) (A.cons (E.pow (E.p E.int) (E.p E.int)) A.nil)) rfl (fun h => pe_call ok_l_two (hr.mono le_l_two) (by rfl) tx.m_l_two tx.f_l_two.kp tx.b_l_two .nil pass0 h)) (G.t (gn_var (gn_var gn_nil)) (Gs.cn (G.var (pg_name (i := 10) sc_law.nd rfl (by first | exact Or.inl rfl | exact Or.inr rfl))) (Gs.cn (G.var (pg_name (i := 11) sc_law.nd rfl (by first | exact Or.inl rfl | exact Or.inr rfl))) Gs.nil (fun h1 h2 => pgs_cons h1 h2)) (fun h1 h2 => pgs_cons h1 h2)) (fun h => pg_tup rfl h)) (fun h1 h2 => ps_asg h1 h2))
    (Ss.cons (S.setN (E.add (E.p (E.call mo_floor_sum (A.cons (E.var 11 (pv 11)) (A.cons (E.var 11 (pv 11)) (A.cons (E.var 10 (pv 10)) (A.cons E.int A.nil)))) rfl (fun h => pe_call ok_floor_sum (hr.mono le_floor_sum) (by rfl) tx.m_floor_sum tx.f_floor_sum.kp tx.b_floor_sum .nil pass0 h))) (E.p (E.call mo_floor_sum (A.cons (E.var 10 (pv 10)) (A.cons (E.var 10 (pv 10)) (A.cons (E.var 11 (pv 11)) (A.cons E.int A.nil)))) rfl (fun h => pe_call ok_floor_sum (hr.mono le_floor_sum) (by rfl) tx.m_floor_sum tx.f_floor_sum.kp tx.b_floor_sum .nil pass0 h)))) (fun h => ps_asg h (pg_name (i := 12) sc_law.nd rfl (by first | exact Or.inl rfl | exact Or.inr rfl))))
    (Ss.cons (S.setN (E.fdiv (E.p (E.mul (E.p (E.sub (P.var 10 (pv 10)) (E.p E.int))) (E.p (E.sub (P.var 11 (pv 11)) (E.p E.int))))) (E.p E.int)) (fun h => ps_asg h (pg_name (i := 13) sc_law.nd rfl (by first | exact Or.inl rfl | exact Or.inr rfl))))
    (Ss.cons (S.ifs (Tw.t (Tw.or (T.ne hr.units (E.p (E.call mo_floor_sum (A.cons (E.var 11 (pv 11)) (A.cons (E.var 11 (pv 11)) (A.cons (E.var 10 (pv 10)) (A.cons E.int A.nil)))) rfl (fun h => pe_call ok_floor_sum (hr.mono le_floor_sum) (by rfl) tx.m_floor_sum tx.f_floor_sum.kp tx.b_floor_sum .nil pass0 h))) (P.var 13 (pv 13))) (Tw.or1 (T.ne hr.units (P.var 12 (pv 12)) (E.p (E.mul (E.p E.int) (P.var 13 (pv 13)))))))) (Ss.one (S.ret E.bl)) Ss.nil)
    (Ss.cons (S.setN (E.ifx (Tw.t (Tw.and (T.eq hr.units (E.p (E.mod (E.p (E.callBN toInt_s (call1_mono toIntO_mono) (Ap.cons (P.var 10 (pv 10)) Ap.nil) (fun h => pe_callTy call_int1 (by rfl) tx.z_int bt_int h))) (E.p E.int))) (E.p E.int)) (Tw.and1 (T.eq hr.units (E.p (E.mod (E.p (E.callBN toInt_s (call1_mono toIntO_mono) (Ap.cons (P.var 11 (pv 11)) Ap.nil) (fun h => pe_callTy call_int1 (by rfl) tx.z_int bt_int h))) (E.p E.int))) (E.p E.int))))) (E.ofF (F.lst (A.cons (E.tup (A.cons (E.var 10 (pv 10)) (A.cons (E.var 11 (pv 11)) A.nil))) A.nil))) (E.ofF (F.lst A.nil))) (fun h => ps_asg h (pg_name (i := 14) sc_law.nd rfl (by first | exact Or.inl rfl | exact Or.inr rfl))))
    (Ss.cons (S.forN (I.seq (E.var 14 (pv 14))) (G.t (gn_var (gn_var gn_nil)) (Gs.cn (G.var (pg_name (i := 15) sc_law.nd rfl (by first | exact Or.inl rfl | exact Or.inr rfl))) (Gs.cn (G.var (pg_name (i := 16) sc_law.nd rfl (by first | exact Or.inl rfl | exact Or.inr rfl))) Gs.nil (fun h1 h2 => pgs_cons h1 h2)) (fun h1 h2 => pgs_cons h1 h2)) (fun h => pg_tup rfl h)) (Ss.cons (S.parN (A.cons (E.call mo_floor_sum (A.cons (E.add (E.p (E.fdiv (E.p (E.sub (P.var 16 (pv 16)) (E.p E.int))) (E.p E.int))) (E.p E.int)) (A.cons (E.var 16 (pv 16)) (A.cons (E.var 15 (pv 15)) (A.cons E.int A.nil)))) rfl (fun h => pe_call ok_floor_sum (hr.mono le_floor_sum) (by rfl) tx.m_floor_sum tx.f_floor_sum.kp tx.b_floor_sum .nil pass0 h)) (A.cons (E.call mo_floor_sum (A.cons (E.add (E.p (E.fdiv (E.p (E.sub (P.var 15 (pv 15)) (E.p E.int))) (E.p E.int))) (E.p E.int)) (A.cons (E.var 15 (pv 15)) (A.cons (E.var 16 (pv 16)) (A.cons E.int A.nil)))) rfl (fun h => pe_call ok_floor_sum (hr.mono le_floor_sum) (by rfl) tx.m_floor_sum tx.f_floor_sum.kp tx.b_floor_sum .nil pass0 h)) A.nil)) (fun h => ps_par rfl sc_law.nd rfl rfl (by decide) rfl rfl h (by rfl)))
    (Ss.one (S.ifs (T.ne hr.units (E.p (E.add (P.var 17 (pv 17)) (P.var 18 (pv 18)))) (E.p (E.fdiv (E.p (E.mul (E.p (E.sub (P.var 15 (pv 15)) (E.p E.int))) (E.p (E.sub (P.var 16 (pv 16)) (E.p E.int))))) (E.p E.int)))) (Ss.one (S.ret E.bl)) Ss.nil))) (fun h1 h2 h3 => ps_for PassesOwn.never rfl h1 h2 h3))
    (Ss.one (S.ret E.bl)))))))))))))
end
/-! ### the head -/
def dd_is_in : He.DefD := ⟨("is_in", none), "is_in", "is_in", defArgs s_is_in, defBody s_is_in, defScope s_is_in, [], []⟩
def dd_floor_sum : He.DefD := ⟨("floor_sum", none), "floor_sum", "floor_sum", defArgs s_floor_sum, defBody s_floor_sum, defScope s_floor_sum, [], []⟩
def dd_l_taken : He.DefD := ⟨("_law_taken", none), "_law_taken", "_law_taken", defArgs s_l_taken, defBody s_l_taken, defScope s_l_taken, [], []⟩
def dd_l_pick : He.DefD := ⟨("_law_pick", none), "_law_pick", "_law_pick", defArgs s_l_pick, defBody s_l_pick, defScope s_l_pick, [], []⟩
def dd_l_signed : He.DefD := ⟨("_law_signed", none), "_law_signed", "_law_signed", defArgs s_l_signed, defBody s_l_signed, defScope s_l_signed, [], []⟩
def dd_l_alike : He.DefD := ⟨("_law_alike", none), "_law_alike", "_law_alike", defArgs s_l_alike, defBody s_l_alike, defScope s_l_alike, [], []⟩
def dd_l_gcd : He.DefD := ⟨("_law_gcd", none), "_law_gcd", "_law_gcd", defArgs s_l_gcd, defBody s_l_gcd, defScope s_l_gcd, [], []⟩
def dd_l_two : He.DefD := ⟨("_law_two", none), "_law_two", "_law_two", defArgs s_l_two, defBody s_l_two, defScope s_l_two, [], []⟩
def dd_law : He.DefD := ⟨("law", none), "law", "law", defArgs s_law, defBody s_law, defScope s_law, [], []⟩
def fns : List He.DefD := [dd_is_in, dd_floor_sum, dd_l_taken, dd_l_pick, dd_l_signed, dd_l_alike, dd_l_gcd, dd_l_two, dd_law]
def fas : List He.Fa := [.glo "is_in", .glo "floor_sum", .glo "_law_taken", .glo "_law_pick", .glo "_law_signed", .glo "_law_alike", .glo "_law_gcd", .glo "_law_two", .glo "law", .free "abs", .free "bool", .free "int", .free "isinstance", .free "len", .free "list", .free "range", .free "str", .free "sum", .free "tuple", .int "GREAT" (1000000000)]
def tbs : List (Str × List He.Dv) := []
theorem tx_of {K : Kf} {h : Heap} {mg : Str → Option Value} (X : K.In h) (G : h.Ns mainGlobals mg) (c : SaysZ fas fns tbs K) : ∃ T : Tx K mg, True := by
  obtain ⟨e_is_in, f_is_in⟩ := c.def_ 0 (d := dd_is_in) rfl
  obtain ⟨e_floor_sum, f_floor_sum⟩ := c.def_ 1 (d := dd_floor_sum) rfl
  obtain ⟨e_l_taken, f_l_taken⟩ := c.def_ 2 (d := dd_l_taken) rfl
  obtain ⟨e_l_pick, f_l_pick⟩ := c.def_ 3 (d := dd_l_pick) rfl
  obtain ⟨e_l_signed, f_l_signed⟩ := c.def_ 4 (d := dd_l_signed) rfl
  obtain ⟨e_l_alike, f_l_alike⟩ := c.def_ 5 (d := dd_l_alike) rfl
  obtain ⟨e_l_gcd, f_l_gcd⟩ := c.def_ 6 (d := dd_l_gcd) rfl
  obtain ⟨e_l_two, f_l_two⟩ := c.def_ 7 (d := dd_l_two) rfl
  obtain ⟨e_law, f_law⟩ := c.def_ 8 (d := dd_law) rfl
  exact ⟨{ a_is_in := _, d_is_in := e_is_in, f_is_in := f_is_in, m_is_in := He.glo_ok X G (c.fact 0 (f := .glo "is_in") rfl), b_is_in := (FunD.bindsN f_is_in fun _ _ _ _ _ _ us hl => match us, hl with | [_, _, _], _ => rfl), a_floor_sum := _, d_floor_sum := e_floor_sum, f_floor_sum := f_floor_sum, m_floor_sum := He.glo_ok X G (c.fact 1 (f := .glo "floor_sum") rfl), b_floor_sum := (FunD.bindsN f_floor_sum fun _ _ _ _ _ _ us hl => match us, hl with | [_, _, _, _], _ => rfl), a_l_taken := _, d_l_taken := e_l_taken, f_l_taken := f_l_taken, m_l_taken := He.glo_ok X G (c.fact 2 (f := .glo "_law_taken") rfl), b_l_taken := (FunD.bindsN f_l_taken fun _ _ _ _ _ _ us hl => match us, hl with | [_, _], _ => rfl), a_l_pick := _, d_l_pick := e_l_pick, f_l_pick := f_l_pick, m_l_pick := He.glo_ok X G (c.fact 3 (f := .glo "_law_pick") rfl), b_l_pick := (FunD.bindsN f_l_pick fun _ _ _ _ _ _ us hl => match us, hl with | [_, _], _ => rfl), a_l_signed := _, d_l_signed := e_l_signed, f_l_signed := f_l_signed, m_l_signed := He.glo_ok X G (c.fact 4 (f := .glo "_law_signed") rfl), b_l_signed := (FunD.bindsN f_l_signed fun _ _ _ _ _ _ us hl => match us, hl with | [_, _], _ => rfl), a_l_alike := _, d_l_alike := e_l_alike, f_l_alike := f_l_alike, m_l_alike := He.glo_ok X G (c.fact 5 (f := .glo "_law_alike") rfl), b_l_alike := (FunD.bindsN f_l_alike fun _ _ _ _ _ _ us hl => match us, hl with | [_, _], _ => rfl), a_l_gcd := _, d_l_gcd := e_l_gcd, f_l_gcd := f_l_gcd, m_l_gcd := He.glo_ok X G (c.fact 6 (f := .glo "_law_gcd") rfl), b_l_gcd := (FunD.bindsN f_l_gcd fun _ _ _ _ _ _ us hl => match us, hl with | [_, _], _ => rfl), a_l_two := _, d_l_two := e_l_two, f_l_two := f_l_two, m_l_two := He.glo_ok X G (c.fact 7 (f := .glo "_law_two") rfl), b_l_two := (FunD.bindsN f_l_two fun _ _ _ _ _ _ us hl => match us, hl with | [_, _], _ => rfl), a_law := _, d_law := e_law, f_law := f_law, m_law := He.glo_ok X G (c.fact 8 (f := .glo "law") rfl), b_law := (FunD.bindsN f_law fun _ _ _ _ _ _ us hl => match us, hl with | [_], _ => rfl), z_abs := He.free_ok X G (c.fact 9 (f := .free "abs") rfl), z_bool := He.free_ok X G (c.fact 10 (f := .free "bool") rfl), z_int := He.free_ok X G (c.fact 11 (f := .free "int") rfl), z_isinstance := He.free_ok X G (c.fact 12 (f := .free "isinstance") rfl), z_len := He.free_ok X G (c.fact 13 (f := .free "len") rfl), z_list := He.free_ok X G (c.fact 14 (f := .free "list") rfl), z_range := He.free_ok X G (c.fact 15 (f := .free "range") rfl), z_str := He.free_ok X G (c.fact 16 (f := .free "str") rfl), z_sum := He.free_ok X G (c.fact 17 (f := .free "sum") rfl), z_tuple := He.free_ok X G (c.fact 18 (f := .free "tuple") rfl), c_GREAT := He.int_ok X G (c.fact 19 (f := .int "GREAT" (1000000000)) rfl) }, trivial⟩
abbrev Rw : PySem.W.OpenRow := PySem.W.OpenLaw.row PySem.Challenge.rw_latticepoints_k77_whole_sums_of_integer
abbrev hk : PySem.W.Hook := hookZ 4 fas fns tbs
def ob (s : PySem.W.SharedT) : He.AlD := obsZG 4 fas fns tbs (HandSHeadRun.getT s)
theorem ob_eq (s : PySem.W.SharedT) : ob s = hk.obs s.abs := obsZG_eq (HandSHeadRun.getT_eq s)
def loose : List Str := (["LatticeError", "BadNumber", "is_in", "GREAT", "floor_sum", "_law_taken", "_law_pick", "_law_signed", "_law_alike", "_law_gcd", "_law_two"] : List Str)
theorem run (w : World) : HandSHeadRun.RunEq Rw (PySem.W.view Rw.prog [15]) hk ob 4000 loose w := by
  intro os
  kernel_rfl
end Tx0
namespace Tx0
open PySem PySem.Spec PyProof.Rows L2 Z0
/-! ### the draws -/
section
variable {Pg : Program} {w : World} {K : Kf} {mg : Str → Option Value} {base : Heap}
theorem row_len {sc : Addr} {p m r : Int} : ([.ref sc, .int p, .int m, .int r] : List V).length = 4 := rfl
theorem atI_row0 {a b c d : V} : atI [a, b, c, d] 0 = some a := rfl
theorem atI_row1 {a b c d : V} : atI [a, b, c, d] 1 = some b := rfl
theorem atI_row2 {a b c d : V} : atI [a, b, c, d] 2 = some c := rfl
theorem atI_row3 {a b c d : V} : atI [a, b, c, d] 3 = some d := rfl
theorem ok_taken (tx : Tx K mg) : FnOk Pg w K mg base CX0 1 tx.a_l_taken tx.d_l_taken ["_law_row", "_law_many"] (spOf K 2 takenO) := by
  refine tx.f_l_taken.ok sc_l_taken (fun vs H Q E h => h.1) (fun cdv A outer s H vs Q E hr h => ?_)
  refine ⟨_, pss_cons (ps_if (pt_cmpR op_gt (pe_ix ix_list (pv 0) pe_int (fun _ _ => rfl)) pe_int (nomark _))
        (pss_cons (ps_set (i := 2) sc_l_taken.nd rfl (Or.inl rfl) (pe_op op_modN (pe_callTy call_int1 (by rfl) tx.z_int bt_int (pa_cons (pe_ix ix_list (pv 0) pe_int (fun _ _ => rfl)) pa_nil)) (pv 1)))
        (pss_cons (ps_asg (pe_op op_fdivS (pe_ix ix_list (pv 0) pe_int (fun _ _ => rfl)) (pv 1)) (pg_sub (pv 0) pe_int set_list))
        (pss_one (ps_ret (pv 2))))) pss_nil)
      (pss_cons (ps_asg (pe_op op_add (pe_ix ix_list (pv 0) pe_int (fun _ _ => rfl)) pe_int) (pg_sub (pv 0) pe_int set_list))
      (pss_cons (ps_if (pt_cmpR op_gt (pe_ix ix_list (pv 0) pe_int (fun _ _ => rfl)) (pe_callB call_len_seq (by rfl) tx.z_len bt_len (pa_cons (pe_ix ix_list (pv 0) pe_int (fun _ _ => rfl)) pa_nil)) (nomark _))
        (pss_cons (ps_asg (pe_op op_modN (pe_callTy call_int1 (by rfl) tx.z_int bt_int (pa_cons (pe_op op_add (pe_op op_mul (pe_ix ix_list (pv 0) pe_int (fun _ _ => rfl)) pe_int) pe_int) pa_nil)) pe_int) (pg_sub (pv 0) pe_int set_list))
        (pss_one (ps_ret (pe_op op_modN (pe_callTy call_int1 (by rfl) tx.z_int bt_int (pa_cons (pe_op op_fdivS (pe_ix ix_list (pv 0) pe_int (fun _ _ => rfl)) pe_int) pa_nil)) (pv 1))))) pss_nil)
      (pss_cons (ps_set (i := 3) sc_l_taken.nd rfl (Or.inl rfl) (pe_ix ix_list (pe_ix ix_list (pv 0) pe_int (fun _ _ => rfl)) (pe_op op_sub (pe_ix ix_list (pv 0) pe_int (fun _ _ => rfl)) pe_int) (fun _ _ => rfl)))
      (pss_cons (ps_asg (pe_op op_modN (pe_callTy call_int1 (by rfl) tx.z_int bt_int (pa_cons (pe_op op_add (pe_op op_add (pe_op op_mul (pe_ix ix_list (pv 0) pe_int (fun _ _ => rfl)) pe_int) (pv 3)) pe_int) pa_nil)) pe_int) (pg_sub (pv 0) pe_int set_list))
      (pss_cons (ps_if (pt_cmpR op_ge (pv 3) (pe_op op_pow pe_int pe_int) (nomark _))
        (pss_one (ps_asg (pe_op op_fdivS (pv 3) (pv 1)) (pg_sub (pv 0) pe_int set_list))) pss_nil)
      (pss_one (ps_ret (pe_op op_modN (pe_callTy call_int1 (by rfl) tx.z_int bt_int (pa_cons (pv 3) pa_nil)) (pv 1))))))))), ?_⟩
  · obtain ⟨hl, rw, F, ds, b, reps, q⟩ := h
    unfold takenO at q
    split at q
    · rename_i many
      obtain ⟨v0, r0, rfl, ⟨a, hrw, rfl⟩, v1, r1, rfl, rfl, rfl⟩ := (show ∃ v0 r0, vs = v0 :: r0 ∧ (∃ a, rw = some a ∧ v0 = V.ref a) ∧ ∃ v1 r1, r0 = v1 :: r1 ∧ v1 = V.int many ∧ r1 = [] from reps)
      obtain ⟨⟨hm, hs⟩, q⟩ := q
      have hne : many ≠ 0 := by omega
      obtain ⟨sc, ns, p, m, r, hH, hsc, hp⟩ := b.row a hrw
      have fin : ∀ (x : Int) (H' : Hp), Base K ⟨rw, H, F⟩ F H' → Q (.int (x.fmod many)) H' := fun x H' b' => q (x.fmod many) (Int.fmod_nonneg_of_pos _ hm) (Int.fmod_lt_of_pos _ hm) (.int (x.fmod many)) F H' b' rfl
      have S : ∀ {H' : Hp} {xs : List V}, H' a = some (.lst xs) → SqL K H' a xs := fun h => SqL.of h
      refine ⟨_, rfl, ?_⟩
      refine ⟨a, _, 3, .int r, rfl, rfl, S hH, atI_row3, r, 0, rfl, rfl, decide (0 < r), rfl, ite2 (fun _ => ?_) (fun _ => ?_)⟩
      · -- the digits of a great cell
        refine ⟨_, rfl, a, _, 3, .int r, rfl, rfl, S hH, atI_row3, .inl ⟨r, rfl, _, rfl, r, many, rfl, rfl, hne, ?_⟩⟩
        refine ⟨_, rfl, a, _, 3, .int r, rfl, rfl, S hH, atI_row3, _, rfl, r, many, rfl, rfl, ⟨hne, hs⟩, _, rfl, a, _, 3, 3, rfl, rfl, hH, rfl, _, rfl, ?_⟩
        exact fin r _ (base_row b hrw hH hsc hp).1
      · refine ⟨_, rfl, a, _, 1, .int p, rfl, rfl, S hH, atI_row1, p, 1, rfl, rfl, _, rfl, a, _, 1, 1, rfl, rfl, hH, rfl, ?_⟩
        obtain ⟨b1, s1⟩ := base_row (p' := p + 1) (m' := m) (r' := r) b hrw hH hsc (by omega)
        have h1 : (upd H a (.lst [.ref sc, .int (p + 1), .int m, .int r])) a = some (.lst [.ref sc, .int (p + 1), .int m, .int r]) := upd_same
        refine ⟨_, rfl, a, _, 1, .int (p + 1), rfl, rfl, S h1, atI_row1, _, rfl, a, _, 0, .ref sc, rfl, rfl, S h1, atI_row0, sc, _, rfl, .inl s1.sql, p + 1, _, rfl, rfl, _, rfl, ite2 (fun _ => ?_) (fun hle => ?_)⟩
        · refine ⟨_, rfl, a, _, 2, .int m, rfl, rfl, S h1, atI_row2, m, 48271, rfl, rfl, .inr ⟨by decide, by decide⟩, _, 11, rfl, rfl, .inl ⟨_, rfl, _, 2147483647, rfl, rfl, (show (2147483647 : Int) ≠ 0 by decide), _, rfl, a, _, 2, 2, rfl, rfl, h1, rfl, ?_⟩⟩
          obtain ⟨b2, s2⟩ := base_row (p' := p + 1) (m' := (m * 48271 + 11).fmod 2147483647) (r' := r) b1 hrw h1 s1 (by omega)
          have h2 : (upd (upd H a (.lst [.ref sc, .int (p + 1), .int m, .int r])) a (.lst [.ref sc, .int (p + 1), .int ((m * 48271 + 11).fmod 2147483647), .int r])) a = some (.lst [.ref sc, .int (p + 1), .int ((m * 48271 + 11).fmod 2147483647), .int r]) := upd_same
          refine ⟨_, rfl, a, _, 2, _, rfl, rfl, S h2, atI_row2, _, 7, rfl, rfl, ⟨by decide, small_of (by decide)⟩, .inl ⟨_, rfl, _, rfl, _, many, rfl, rfl, hne, ?_⟩⟩
          exact fin _ _ b2
        · -- a cell of the script
          have hlen : p + 1 ≤ (ns.length : Int) := by
            have := hle
            rw [decide_eq_true_eq, List.length_map] at this
            omega
          obtain ⟨j, hj⟩ : ∃ j : Nat, p = (j : Int) := ⟨p.toNat, by omega⟩
          have hjl : j < ns.length := by omega
          have hcell : atI (ns.map V.int) (p + 1 - 1) = some (.int ns[j]) := by
            rw [show p + 1 - 1 = (j : Int) by omega]
            exact atI_nat (by rw [List.getElem?_map, List.getElem?_eq_getElem hjl]; rfl)
          refine ⟨_, rfl, a, _, 0, .ref sc, rfl, rfl, S h1, atI_row0, _, rfl, a, _, 1, .int (p + 1), rfl, rfl, S h1, atI_row1, p + 1, 1, rfl, rfl, sc, _, p + 1 - 1, _, rfl, rfl, s1.sql, hcell, ?_⟩
          generalize ns[j] = cell
          refine ⟨_, rfl, a, _, 2, .int m, rfl, rfl, S h1, atI_row2, m, 48271, rfl, rfl, .inr ⟨by decide, by decide⟩, _, rfl, _, cell, rfl, rfl, _, 11, rfl, rfl, .inl ⟨_, rfl, _, 2147483647, rfl, rfl, (show (2147483647 : Int) ≠ 0 by decide), _, rfl, a, _, 2, 2, rfl, rfl, h1, rfl, ?_⟩⟩
          obtain ⟨b2, s2⟩ := base_row (p' := p + 1) (m' := (m * 48271 + cell + 11).fmod 2147483647) (r' := r) b1 hrw h1 s1 (by omega)
          have h2 : (upd (upd H a (.lst [.ref sc, .int (p + 1), .int m, .int r])) a (.lst [.ref sc, .int (p + 1), .int ((m * 48271 + cell + 11).fmod 2147483647), .int r])) a = some (.lst [.ref sc, .int (p + 1), .int ((m * 48271 + cell + 11).fmod 2147483647), .int r]) := upd_same
          refine ⟨_, rfl, 10, 18, rfl, rfl, ⟨by decide, by decide, by decide⟩, cell, _, rfl, rfl, _, rfl, ite2 (fun _ => ?_) (fun _ => ?_)⟩
          · refine ⟨_, rfl, _, rfl, cell, many, rfl, rfl, ⟨hne, hs⟩, _, rfl, a, _, 3, 3, rfl, rfl, h2, rfl, ?_⟩
            exact ⟨_, rfl, .inl ⟨cell, rfl, _, rfl, cell, many, rfl, rfl, hne, fin cell _ (base_row b2 hrw h2 s2 (by omega)).1⟩⟩
          · exact ⟨_, rfl, .inl ⟨cell, rfl, _, rfl, cell, many, rfl, rfl, hne, fin cell _ b2⟩⟩
    · exact q.elim
end
--P l_taken takenO_mono (ok_taken tx)
/-! ### is_in -/
def isinO : OC := fun ds Q => match ds with
  | [x, .int lo, .int hi] => (match x with
    | .row => False
    | .ty _ => False
    | .int i => Q (.bl (decide (lo ≤ i) && decide (i ≤ hi)))
    | _ => Q (.bl false))
  | _ => False
theorem isinO_mono : MonoC isinO := fun ds P Q h q => by
  unfold isinO at *
  split at q
  · split at q
    · exact q
    · exact q
    · exact h _ q
    · exact h _ q
  · exact q.elim
theorem mir_is_in : ∀ ds Q, ds.length = 3 → isinO ds Q → sem_is_in (startE ["value", "least", "most"] ds) (endK Q) := fun ds Q hl q => by
  unfold isinO at q
  split at q
  · rename_i x lo hi
    cases x with
    | int i =>
      have q : Q (.bl (decide (lo ≤ i) && decide (i ≤ hi))) := q
      show br (decide (lo ≤ i)) (Q (.bl (decide (i ≤ hi)))) (Q (.bl false))
      cases h : decide (lo ≤ i) with
      | true => rw [h] at q; exact q
      | false => rw [h] at q; exact q
    | row => exact q.elim
    | ty t => exact q.elim
    | bl b => exact q
    | non => exact q
    | str s => exact q
    | tup s => exact q
    | lst s => exact q
  · exact q.elim
section
variable {Pg : Program} {w : World} {K : Kf} {mg : Str → Option Value} {base : Heap}
theorem ok_is_in (tx : Tx K mg) : FnOk Pg w K mg base CX0 1 tx.a_is_in tx.d_is_in ["value", "least", "most"] (spOf K 3 isinO) :=
  Z0.fn_ok tx.f_is_in sc_is_in rfl (walk_is_in tx) mir_is_in
end
--P is_in isinO_mono (ok_is_in tx)
/-! ### pick, signed -/
def pickO : OC := fun ds Q => match ds with
  | [.row, .lst xs] => (xs ≠ [] ∧ xs.length ≤ 1000000) ∧ ∀ d ∈ xs, Q d
  | _ => False
theorem pickO_mono : MonoC pickO := fun ds P Q h q => by
  unfold pickO at *
  split at q
  · exact ⟨q.1, fun d hd => h _ (q.2 d hd)⟩
  · exact q.elim
theorem small_nat {n : Int} (h : n.natAbs ≤ 1000000000000000000000) : small n := small_of (Nat.lt_of_le_of_lt h (by decide))
theorem atI_lt {α : Type} {xs : List α} {v : Int} (h0 : 0 ≤ v) (h : v < xs.length) : ∃ d, atI xs v = some d ∧ d ∈ xs := by
  obtain ⟨j, rfl⟩ : ∃ j : Nat, v = (j : Int) := ⟨v.toNat, by omega⟩
  have hj : j < xs.length := by omega
  exact ⟨xs[j], atI_nat (List.getElem?_eq_getElem hj), List.getElem_mem hj⟩
theorem mir_l_pick : ∀ ds Q, ds.length = 2 → pickO ds Q → sem_l_pick takenO (startE ["_law_row", "_law_things"] ds) (endK Q) := fun ds Q hl q => by
  unfold pickO at q
  split at q
  · rename_i xs
    obtain ⟨⟨hne, hle⟩, q⟩ := q
    have hpos : 0 < xs.length := List.length_pos_iff.mpr hne
    refine ⟨⟨by omega, small_nat (by omega)⟩, fun v h1 h2 => ?_⟩
    obtain ⟨d, e, hd⟩ := atI_lt h1 h2
    show (match atI xs v with | some d => Q d | none => False)
    rw [e]
    exact q d hd
  · exact q.elim
section
variable {Pg : Program} {w : World} {K : Kf} {mg : Str → Option Value} {base : Heap}
theorem ok_pick (tx : Tx K mg) : FnOk Pg w K mg base CX0 2 tx.a_l_pick tx.d_l_pick ["_law_row", "_law_things"] (spOf K 2 pickO) :=
  Z0.fn_ok tx.f_l_pick sc_l_pick rfl (walk_l_pick tx takenO_mono (ok_taken tx) (by decide)) mir_l_pick
end
--P l_pick pickO_mono (ok_pick tx)
def signedO : OC := fun ds Q => match ds with
  | [.row, .int m] => (0 ≤ m ∧ m ≤ 1000000000000000000) ∧ ∀ v, -m ≤ v → v ≤ m → Q (.int v)
  | _ => False
theorem signedO_mono : MonoC signedO := fun ds P Q h q => by
  unfold signedO at *
  split at q
  · exact ⟨q.1, fun d h1 h2 => h _ (q.2 d h1 h2)⟩
  · exact q.elim
theorem mir_l_signed : ∀ ds Q, ds.length = 2 → signedO ds Q → sem_l_signed takenO (startE ["_law_row", "_law_most"] ds) (endK Q) := fun ds Q hl q => by
  unfold signedO at q
  split at q
  · rename_i m
    obtain ⟨⟨h0, h1⟩, q⟩ := q
    refine ⟨.inl (by decide), ⟨by omega, small_nat (by omega)⟩, fun v h2 h3 => ?_⟩
    exact q (v - m) (by omega) (by omega)
  · exact q.elim
section
variable {Pg : Program} {w : World} {K : Kf} {mg : Str → Option Value} {base : Heap}
theorem ok_signed (tx : Tx K mg) : FnOk Pg w K mg base CX0 2 tx.a_l_signed tx.d_l_signed ["_law_row", "_law_most"] (spOf K 2 signedO) :=
  Z0.fn_ok tx.f_l_signed sc_l_signed rfl (walk_l_signed tx takenO_mono (ok_taken tx) (by decide)) mir_l_signed
end
--P l_signed signedO_mono (ok_signed tx)
/-! ### the common divisor -/
theorem gcd_step (a b : Int) (hb : b ≠ 0) : Int.gcd b (a.fmod b) = Int.gcd a b := by
  have e : a.fmod b = a - b * (a.fdiv b) := by have := Int.mul_fdiv_add_fmod a b; omega
  have h1 : (Int.gcd a b : Int) ∣ a := Int.gcd_dvd_left ..
  have h2 : (Int.gcd a b : Int) ∣ b := Int.gcd_dvd_right ..
  have h3 : (Int.gcd b (a.fmod b) : Int) ∣ b := Int.gcd_dvd_left ..
  have h4 : (Int.gcd b (a.fmod b) : Int) ∣ a.fmod b := Int.gcd_dvd_right ..
  have h5 : (Int.gcd b (a.fmod b) : Int) ∣ a := by
    have e2 : a.fmod b + b * (a.fdiv b) = a := by omega
    have h45 := Int.dvd_add h4 (Int.dvd_trans h3 (Int.dvd_mul_right b (a.fdiv b)))
    rwa [e2] at h45
  have h6 : (Int.gcd a b : Int) ∣ a.fmod b := by
    rw [e]
    exact Int.dvd_sub h1 (Int.dvd_trans h2 (Int.dvd_mul_right ..))
  have h7 : Int.gcd b (a.fmod b) ∣ Int.gcd a b := Int.dvd_gcd h5 h3 |> fun h => by exact_mod_cast h
  have h8 : Int.gcd a b ∣ Int.gcd b (a.fmod b) := Int.dvd_gcd h2 h6 |> fun h => by exact_mod_cast h
  exact Nat.dvd_antisymm h7 h8
def gcdO : OC := fun ds Q => match ds with
  | [.int a, .int b] => Q (.int (Int.gcd a b))
  | _ => False
theorem gcdO_mono : MonoC gcdO := fun ds P Q h q => by
  unfold gcdO at *
  split at q
  · exact h _ q
  · exact q.elim
theorem lgcd_loop {Q : D → Prop} : ∀ (N : Nat) (a b : Int), b.toNat < N → 0 ≤ a → 0 ≤ b → Q (.int (Int.gcd a b)) →
    whN wt1_l_gcd ws2_l_gcd N [some (.sh (.int a)), some (.sh (.int b))] { nx := fun ρ => retS (varE 0) ρ (endK Q), rt := Q, bk := fun _ => False, ct := fun _ => False } := fun N => by
  induction N with
  | zero =>
    intro a b hN
    omega
  | succ N ih =>
    intro a b hN ha hb q
    refine br_n (c := b = 0) (fun h => ?_) (fun h => ?_)
    · have hb0 : 0 < b := by omega
      have h1 := Int.fmod_nonneg_of_pos a hb0
      have h2 := Int.fmod_lt_of_pos a hb0
      refine ⟨h, ?_⟩
      exact ih b (a.fmod b) (by omega) hb h1 (by rw [gcd_step a b h]; exact q)
    · subst h
      have e : ((Int.gcd a 0 : Nat) : Int) = a := by rw [Int.gcd_zero_right]; omega
      rw [e] at q
      exact q
theorem mir_l_gcd : ∀ ds Q, ds.length = 2 → gcdO ds Q → sem_l_gcd (startE ["_law_one", "_law_other"] ds) (endK Q) := fun ds Q hl q => by
  unfold gcdO at q
  split at q
  · rename_i a b
    have e : ∀ x : Int, (if x < 0 then -x else x) = (x.natAbs : Int) := fun x => by split <;> omega
    refine ⟨_, lgcd_loop ((if b < 0 then -b else b).toNat + 1) (if a < 0 then -a else a) (if b < 0 then -b else b) (Nat.lt_succ_self _) ?_ ?_ ?_⟩
    · rw [e]; omega
    · rw [e]; omega
    · rw [e, e]
      exact q
  · exact q.elim
section
variable {Pg : Program} {w : World} {K : Kf} {mg : Str → Option Value} {base : Heap}
theorem ok_lgcd (tx : Tx K mg) : FnOk Pg w K mg base CX0 1 tx.a_l_gcd tx.d_l_gcd ["_law_one", "_law_other"] (spOf K 2 gcdO) :=
  Z0.fn_ok tx.f_l_gcd sc_l_gcd rfl (walk_l_gcd tx) mir_l_gcd
end
/-! ### two without a common divisor -/
def twoO : OC := fun ds Q => match ds with
  | [.row, .int m] => (0 < m ∧ m ≤ 1000000000000) ∧ ∀ a b : Int, 1 ≤ a → a ≤ m → 1 ≤ b → b ≤ m → Int.gcd a b = 1 → Q (.tup [.int a, .int b])
  | _ => False
theorem twoO_mono : MonoC twoO := fun ds P Q h q => by
  unfold twoO at *
  split at q
  · exact ⟨q.1, fun a b h1 h2 h3 h4 h5 => h _ (q.2 a b h1 h2 h3 h4 h5)⟩
  · exact q.elim
theorem gcd_cut {a b : Int} (ha : 1 ≤ a) (hb : 1 ≤ b) : 1 ≤ a.fdiv (Int.gcd a b) ∧ a.fdiv (Int.gcd a b) ≤ a ∧ 1 ≤ b.fdiv (Int.gcd a b) ∧ b.fdiv (Int.gcd a b) ≤ b ∧ Int.gcd (a.fdiv (Int.gcd a b)) (b.fdiv (Int.gcd a b)) = 1 := by
  have hg : 0 < Int.gcd a b := Int.gcd_pos_of_ne_zero_left _ (by omega)
  obtain ⟨x, hx⟩ : (Int.gcd a b : Int) ∣ a := Int.gcd_dvd_left ..
  obtain ⟨y, hy⟩ : (Int.gcd a b : Int) ∣ b := Int.gcd_dvd_right ..
  generalize hG : (Int.gcd a b : Int) = G at *
  have hG0 : 0 < G := by omega
  have ea : a.fdiv G = x := by rw [Int.fdiv_eq_ediv_of_nonneg _ (by omega), hx]; exact Int.mul_ediv_cancel_left _ (by omega)
  have eb : b.fdiv G = y := by rw [Int.fdiv_eq_ediv_of_nonneg _ (by omega), hy]; exact Int.mul_ediv_cancel_left _ (by omega)
  rw [ea, eb]
  have hx1 : 1 ≤ x := by
    have : 0 < G * x := by omega
    have := Int.pos_of_mul_pos_right this hG0
    omega
  have hy1 : 1 ≤ y := by
    have : 0 < G * y := by omega
    have := Int.pos_of_mul_pos_right this hG0
    omega
  have h1 : x ≤ a := by
    rw [hx]
    have : 1 * x ≤ G * x := Int.mul_le_mul_of_nonneg_right (by omega) (by omega)
    omega
  have h2 : y ≤ b := by
    rw [hy]
    have : 1 * y ≤ G * y := Int.mul_le_mul_of_nonneg_right (by omega) (by omega)
    omega
  refine ⟨hx1, h1, hy1, h2, ?_⟩
  have : Int.gcd (G * x) (G * y) = G.natAbs * Int.gcd x y := Int.gcd_mul_left ..
  rw [← hx, ← hy] at this
  have e : Int.gcd a b = G.natAbs := by omega
  rw [e] at this
  have hp : 0 < G.natAbs := by omega
  exact (Nat.eq_of_mul_eq_mul_left hp (by omega : G.natAbs * 1 = G.natAbs * Int.gcd x y)).symm
theorem mir_l_two : ∀ ds Q, ds.length = 2 → twoO ds Q → sem_l_two takenO gcdO (startE ["_law_row", "_law_most", "_law_a", "_law_b", "_law_common"] ds) (endK Q) := fun ds Q hl q => by
  unfold twoO at q
  split at q
  · rename_i m
    obtain ⟨⟨h0, h1⟩, q⟩ := q
    refine ⟨⟨h0, small_nat (by omega)⟩, fun u hu1 hu2 => ⟨⟨h0, small_nat (by omega)⟩, fun v hv1 hv2 => ?_⟩⟩
    have hg : 0 < Int.gcd (1 + u) (1 + v) := Int.gcd_pos_of_ne_zero_left _ (by omega)
    obtain ⟨c1, c2, c3, c4, c5⟩ := gcd_cut (a := 1 + u) (b := 1 + v) (by omega) (by omega)
    have hle : ((Int.gcd (1 + u) (1 + v) : Nat) : Int) ≤ 1 + u := Int.le_of_dvd (by omega) (Int.gcd_dvd_left ..)
    have hs : small ((Int.gcd (1 + u) (1 + v) : Nat) : Int) := small_nat (by omega)
    have hne : ((Int.gcd (1 + u) (1 + v) : Nat) : Int) ≠ 0 := by omega
    exact ⟨⟨hne, hs⟩, ⟨hne, hs⟩, (show 2 ≤ big by decide), q _ _ c1 (by omega) c3 (by omega) c5⟩
  · exact q.elim
section
variable {Pg : Program} {w : World} {K : Kf} {mg : Str → Option Value} {base : Heap}
theorem ok_two (tx : Tx K mg) : FnOk Pg w K mg base CX0 2 tx.a_l_two tx.d_l_two ["_law_row", "_law_most"] (spOf K 2 twoO) :=
  Z0.fn_ok tx.f_l_two sc_l_two rfl (walk_l_two tx takenO_mono (ok_taken tx) (by decide) gcdO_mono (ok_lgcd tx) (by decide)) mir_l_two
end
--P l_two twoO_mono (ok_two tx)
/-! ### alike -/
def alk : Nat → D → Bool
  | _, .non => true
  | _, .bl _ => true
  | _, .int _ => true
  | _, .str x => okD (.str x)
  | n + 1, .tup ds => decide (ds.length ≤ 1000000) && ds.all (alk n)
  | n + 1, .lst ds => decide (ds.length ≤ 1000000) && ds.all (alk n)
  | _, _ => false
def alikeG : Nat → OC
  | 0 => fun _ _ => False
  | n + 1 => fun ds Q => match ds with
    | [x, y] => (x = y ∧ alk n x = true) ∧ Q (.bl true)
    | _ => False
theorem alikeG_mono : ∀ n, MonoC (alikeG n)
  | 0 => fun ds P Q h q => q.elim
  | n + 1 => fun ds P Q h q => by
    match ds, q with
    | [x, y], q => exact ⟨q.1, h _ q.2⟩
theorem fm_none : ∀ l : List D, l.filterMap (fun _ => (none : Option D)) = []
  | [] => rfl
  | _ :: l => fm_none l
theorem alike_items {n : Nat} {x y : List D} (hxy : x = y) (hlen : x.length ≤ 1000000) (hall : x.all (alk n) = true) {X Y : D} (hX : ∀ (i : Int) (Q : D → Prop) (d : D), atI x i = some d → Q d → ixO X (.int i) Q) (hY : ∀ (i : Int) (Q : D → Prop) (d : D), atI y i = some d → Q d → ixO Y (.int i) Q) (Q : List D → Prop) (q : Q []) :
    lcL (gVar 2) (ct1_l_alike (alikeG (n + 1))) (ce2_l_alike (alikeG (n + 1))) [some (.sh X), some (.sh Y), none] (rngD 0 y.length) Q := by
  subst hxy
  refine lcL_fm (fun _ => none) _ _ (fun d hd R hR => ?_) (by rw [fm_none]; exact q)
  obtain ⟨i, rfl, h0, h1⟩ := rngD_mem hd
  obtain ⟨e, he, hm⟩ := atI_lt h0 h1
  refine hX i _ e he (hY i _ e he ⟨⟨rfl, List.all_eq_true.mp hall e hm⟩, ?_⟩)
  exact hR
theorem mir_l_alike (n : Nat) : ∀ ds Q, ds.length = 2 → alikeG (n + 1) ds Q → sem_l_alike (alikeG n) (startE ["_law_found", "_law_due", "_law_k"] ds) (endK Q) := fun ds Q hl q0 => by
  match ds, q0 with
  | [x, y], q1 =>
    obtain ⟨⟨rfl, hk⟩, q⟩ := q1
    cases x with
    | int i =>
      refine ⟨(show 2 ≤ big by decide), okD_bl false, okD_bl false, ?_⟩
      show Q (.bl (decide (i = i)))
      rw [decide_eq_true rfl]
      exact q
    | bl b =>
      refine ⟨(show 2 ≤ big by decide), okD_bl true, okD_bl true, okD_bl b, okD_bl b, ?_⟩
      rw [eqD_refl (okD_bl _)]
      exact q
    | non => exact ⟨(show 2 ≤ big by decide), okD_non, okD_non, okD_bl _, okD_bl _, q⟩
    | str x =>
      have hx : okD (.str x) = true := by cases n <;> exact hk
      refine ⟨(show 2 ≤ big by decide), hx, hx, ?_⟩
      rw [eqD_refl hx]
      exact ⟨okD_bl _, okD_bl _, q⟩
    | tup xs =>
      cases n with
      | zero => cases hk
      | succ n =>
        obtain ⟨h1, h2⟩ := Bool.and_eq_true_iff.mp (show (decide (xs.length ≤ 1000000) && xs.all (alk n)) = true from hk)
        have hlen := of_decide_eq_true h1
        refine ⟨(show 2 ≤ big by decide), (show 2 ≤ big by decide), okD_bl _, okD_bl _, ?_⟩
        refine br_n (c := ((xs.length : Nat) : Int) = xs.length) (fun h => absurd rfl h) (fun _ => ?_)
        refine ⟨⟨by omega, by omega⟩, ⟨le_big (by rw [rngD_len]; omega), ?_⟩⟩
        refine alike_items rfl hlen h2 (fun i Q d e q => ?_) (fun i Q d e q => ?_) _ ⟨Nat.zero_le _, okD_nil, okD_nil, q⟩
        · show (match atI xs i with | some d => Q d | none => False)
          rw [e]; exact q
        · show (match atI xs i with | some d => Q d | none => False)
          rw [e]; exact q
    | lst xs =>
      cases n with
      | zero => cases hk
      | succ n =>
        obtain ⟨h1, h2⟩ := Bool.and_eq_true_iff.mp (show (decide (xs.length ≤ 1000000) && xs.all (alk n)) = true from hk)
        have hlen := of_decide_eq_true h1
        refine ⟨(show 2 ≤ big by decide), (show 2 ≤ big by decide), okD_bl _, okD_bl _, ?_⟩
        refine br_n (c := ((xs.length : Nat) : Int) = xs.length) (fun h => absurd rfl h) (fun _ => ?_)
        refine ⟨⟨by omega, by omega⟩, ⟨le_big (by rw [rngD_len]; omega), ?_⟩⟩
        refine alike_items rfl hlen h2 (fun i Q d e q => ?_) (fun i Q d e q => ?_) _ ⟨Nat.zero_le _, okD_nil, okD_nil, q⟩
        · show (match atI xs i with | some d => Q d | none => False)
          rw [e]; exact q
        · show (match atI xs i with | some d => Q d | none => False)
          rw [e]; exact q
    | row => cases n <;> cases hk
    | ty t => cases n <;> cases hk
section
variable {Pg : Program} {w : World} {K : Kf} {mg : Str → Option Value} {base : Heap}
theorem ok_alike (tx : Tx K mg) : ∀ n, FnOk Pg w K mg base CX0 n tx.a_l_alike tx.d_l_alike ["_law_found", "_law_due"] (spOf K 2 (alikeG n))
  | 0 => ok_never rfl
  | n + 1 => Z0.fn_ok tx.f_l_alike sc_l_alike rfl (walk_l_alike tx (alikeG_mono n) (ok_alike tx n) (Nat.le_refl n)) (mir_l_alike n)
end
--P l_alike (alikeG_mono 1) (ok_alike tx 1)
/-! ### sums of integer parts -/
/-- the sum of (a i + b) / m for i below n -/
def fs (m a b : Int) : Nat → Int
  | 0 => 0
  | n + 1 => fs m a b n + (a * n + b) / m
def tri : Nat → Int
  | 0 => 0
  | n + 1 => tri n + n
theorem tri_two : ∀ n : Nat, 2 * tri n = (n : Int) * ((n : Int) - 1)
  | 0 => rfl
  | n + 1 => by
    have h := tri_two n
    show 2 * (tri n + n) = ((n : Int) + 1) * ((n : Int) + 1 - 1)
    rw [Int.mul_add, h]
    have e1 : ((n : Int) + 1) * ((n : Int) + 1 - 1) = (n : Int) * n + n := by rw [Int.add_sub_cancel, Int.add_mul, Int.one_mul]
    have e2 : (n : Int) * ((n : Int) - 1) = (n : Int) * n - n := by rw [Int.mul_sub, Int.mul_one]
    omega
theorem tri_fdiv (n : Nat) : ((n : Int) * ((n : Int) - 1)).fdiv 2 = tri n := by
  rw [← tri_two, Int.fdiv_eq_ediv_of_nonneg _ (by decide)]
  exact Int.mul_ediv_cancel_left _ (by decide)
theorem term_split {m : Int} (a b x : Int) (hm : 0 < m) : (a * x + b) / m = (a / m) * x + b / m + ((a % m) * x + b % m) / m := by
  have e : a * x + b = ((a % m) * x + b % m) + m * ((a / m) * x + b / m) := by
    have h1 := Int.emod_add_mul_ediv a m
    have h2 := Int.emod_add_mul_ediv b m
    have h3 : a * x = (a % m) * x + m * ((a / m) * x) := by
      rw [← Int.mul_assoc, ← Int.add_mul, h1]
    have h4 : m * ((a / m) * x + b / m) = m * ((a / m) * x) + m * (b / m) := Int.mul_add ..
    omega
  rw [e, Int.add_mul_ediv_left _ _ (by omega)]
  omega
theorem fs_split {m : Int} (a b : Int) (hm : 0 < m) : ∀ n : Nat, fs m a b n = tri n * (a / m) + n * (b / m) + fs m (a % m) (b % m) n
  | 0 => by show (0 : Int) = 0 * (a / m) + ((0 : Nat) : Int) * (b / m) + 0; simp
  | n + 1 => by
    have ih := fs_split a b hm n
    show fs m a b n + (a * n + b) / m = (tri n + n) * (a / m) + ((n : Int) + 1) * (b / m) + (fs m (a % m) (b % m) n + ((a % m) * n + b % m) / m)
    rw [ih, term_split a b n hm, Int.add_mul, Int.add_mul, Int.one_mul, Int.mul_comm (a / m) n]
    omega
/-- by exchanging numerator and denominator -/
theorem fs_turn {m a b : Int} (hm : 0 < m) (ha : 0 < a) (ham : a < m) (hb : 0 ≤ b) (hbm : b < m) : ∀ n : Nat, fs m a b (n + 1) + fs a m (m - b - 1) ((a * n + b) / m).toNat = n * ((a * n + b) / m)
  | 0 => by
    have e : (a * ((0 : Nat) : Int) + b) / m = 0 := by
      rw [show a * ((0 : Nat) : Int) + b = b by simp]
      exact Int.ediv_eq_zero_of_lt hb hbm
    show (0 : Int) + (a * ((0 : Nat) : Int) + b) / m + fs a m (m - b - 1) ((a * ((0 : Nat) : Int) + b) / m).toNat = ((0 : Nat) : Int) * ((a * ((0 : Nat) : Int) + b) / m)
    rw [e]
    simp [fs]
  | n + 1 => by
    have ih := fs_turn hm ha ham hb hbm n
    show fs m a b (n + 1) + (a * ((n + 1 : Nat) : Int) + b) / m + fs a m (m - b - 1) ((a * ((n + 1 : Nat) : Int) + b) / m).toNat = ((n + 1 : Nat) : Int) * ((a * ((n + 1 : Nat) : Int) + b) / m)
    have hnx : ((n + 1 : Nat) : Int) = (n : Int) + 1 := rfl
    have han : a * ((n : Int) + 1) = a * n + a := by rw [Int.mul_add, Int.mul_one]
    have hn0 : 0 ≤ a * (n : Int) := Int.mul_nonneg (by omega) (by omega)
    rw [hnx, han]
    generalize hM : (a * (n : Int) + b) / m = M at ih
    have hM0 : 0 ≤ M := by rw [← hM]; exact Int.ediv_nonneg (by omega) (by omega)
    have k1 : m * M ≤ a * n + b := by rw [← hM]; exact Int.mul_ediv_self_le (by omega)
    have k2 : a * n + b < m * M + m := by
      have := Int.lt_mul_ediv_self_add (x := a * n + b) hm
      rw [hM] at this; exact this
    have mc : M * m = m * M := Int.mul_comm ..
    by_cases hlt : a * n + a + b < m * M + m
    · have e : (a * (n : Int) + a + b) / m = M := by
        refine Int.le_antisymm (Int.lt_add_one_iff.mp (Int.ediv_lt_of_lt_mul hm ?_)) (Int.le_ediv_of_mul_le hm ?_)
        · rw [Int.add_mul, Int.one_mul]; omega
        · omega
      rw [e, Int.add_mul, Int.one_mul]
      omega
    · have e : (a * (n : Int) + a + b) / m = M + 1 := by
        refine Int.le_antisymm (Int.lt_add_one_iff.mp (Int.ediv_lt_of_lt_mul hm ?_)) (Int.le_ediv_of_mul_le hm ?_)
        · rw [Int.add_mul, Int.add_mul, Int.one_mul]; omega
        · rw [Int.add_mul, Int.one_mul]; omega
      have et : (M + 1).toNat = M.toNat + 1 := by omega
      have eM : ((M.toNat : Nat) : Int) = M := by omega
      have last : (m * M + (m - b - 1)) / a = n := by
        refine Int.le_antisymm (Int.lt_add_one_iff.mp (Int.ediv_lt_of_lt_mul ha ?_)) (Int.le_ediv_of_mul_le ha ?_)
        · rw [Int.add_mul, Int.one_mul, Int.mul_comm (n : Int) a]; omega
        · rw [Int.mul_comm (n : Int) a]; omega
      rw [e, et]
      show fs m a b (n + 1) + (M + 1) + (fs a m (m - b - 1) M.toNat + (m * ((M.toNat : Nat) : Int) + (m - b - 1)) / a) = ((n : Int) + 1) * (M + 1)
      rw [eM, last, Int.mul_add, Int.add_mul, Int.one_mul, Int.mul_one]
      omega
theorem fs_mono_term {m a b : Int} (hm : 0 < m) (ha : 0 ≤ a) {i n : Nat} (h : i ≤ n) : (a * i + b) / m ≤ (a * n + b) / m := by
  refine Int.ediv_le_ediv hm ?_
  have : a * (i : Int) ≤ a * n := Int.mul_le_mul_of_nonneg_left (by omega) ha
  omega
theorem fs_zero {m a b : Int} (hm : 0 < m) (ha : 0 ≤ a) (hb : 0 ≤ b) : ∀ n : Nat, (∀ i : Nat, i < n → (a * i + b) / m = 0) → fs m a b n = 0
  | 0, _ => rfl
  | n + 1, h => by
    show fs m a b n + (a * n + b) / m = 0
    rw [h n (Nat.lt_succ_self n), fs_zero hm ha hb n fun i hi => h i (Nat.lt_succ_of_lt hi)]
    rfl
/-- one turn of the loop -/
theorem fs_step {m a b : Int} {n : Nat} (hn : 0 < n) (hm : 0 < m) :
    ((a % m * ((n : Int) - 1) + b % m) / m = 0 → fs m a b n = tri n * (a / m) + n * (b / m)) ∧
    ((a % m * ((n : Int) - 1) + b % m) / m ≠ 0 → 0 < a % m ∧ fs m a b n = tri n * (a / m) + n * (b / m) + ((n : Int) - 1) * ((a % m * ((n : Int) - 1) + b % m) / m) - fs (a % m) m (m - b % m - 1) ((a % m * ((n : Int) - 1) + b % m) / m).toNat) := by
  have a0 := Int.emod_nonneg a (show m ≠ 0 by omega)
  have a1 := Int.emod_lt_of_pos a hm
  have b0 := Int.emod_nonneg b (show m ≠ 0 by omega)
  have b1 := Int.emod_lt_of_pos b hm
  obtain ⟨k, rfl⟩ : ∃ k, n = k + 1 := ⟨n - 1, by omega⟩
  have ek : (((k + 1 : Nat) : Int)) - 1 = k := by omega
  rw [ek]
  refine ⟨fun h => ?_, fun h => ?_⟩
  · rw [fs_split a b hm, fs_zero hm a0 b0 _ fun i hi => ?_]
    · omega
    · have h1 := fs_mono_term (b := b % m) hm a0 (show i ≤ k by omega)
      have h2 : 0 ≤ (a % m * (i : Int) + b % m) / m := Int.ediv_nonneg (Int.add_nonneg (Int.mul_nonneg a0 (by omega)) b0) (by omega)
      omega
  · have hap : 0 < a % m := by
      by_cases z : a % m = 0
      · exfalso
        apply h
        rw [z, Int.zero_mul, Int.zero_add]
        exact Int.ediv_eq_zero_of_lt b0 b1
      · omega
    refine ⟨hap, ?_⟩
    have t := fs_turn hm hap a1 b0 b1 k
    rw [fs_split a b hm]
    omega
def fsO : OC := fun ds Q => match ds with
  | [.int n, .int m, .int a, .int b] => (0 ≤ n ∧ n ≤ 1000000000 ∧ 1 ≤ m ∧ m ≤ 1000000000 ∧ -1000000000 ≤ a ∧ a ≤ 1000000000 ∧ -1000000000 ≤ b ∧ b ≤ 1000000000) ∧ Q (.int (fs m a b n.toNat))
  | _ => False
theorem fsO_mono : MonoC fsO := fun ds P Q h q => by
  unfold fsO at *
  split at q
  · exact ⟨q.1, h _ q.2⟩
  · exact q.elim
theorem mok_l {i j : Int} (h : i.natAbs ≤ 1000000000000000000) : mulOk i j := .inl (Nat.lt_of_le_of_lt h (by decide))
theorem mok_r {i j : Int} (h : j.natAbs ≤ 1000000000000000000) : mulOk i j := .inr (.inl (Nat.lt_of_le_of_lt h (by decide)))
theorem ediv_small {a m : Int} (hm : 0 < m) (h1 : -1000000000 ≤ a) (h2 : a ≤ 1000000000) : (a / m).natAbs ≤ 1000000000 := by
  have h3 : a / m ≤ 1000000000 := by
    rcases Int.le_total 0 a with h | h
    · exact Int.le_trans (Int.ediv_le_self _ h) h2
    · have := Int.ediv_le_ediv hm h
      rw [Int.zero_ediv] at this
      omega
  have h4 : -1000000000 ≤ a / m := by
    refine Int.le_ediv_of_mul_le hm ?_
    have : 1000000000 * 1 ≤ 1000000000 * m := Int.mul_le_mul_of_nonneg_left (by omega) (by decide)
    rw [Int.neg_mul]
    omega
  omega
theorem fs_loop {Q : D → Prop} : ∀ (N : Nat) (n m a b tot sg : Int) (x : Option Slot), m.toNat < N → 0 ≤ n → n ≤ 1000000000 → 1 ≤ m → m ≤ 1000000000 → -1000000000 ≤ a → a ≤ 1000000000 → -1000000000 ≤ b → b ≤ 1000000000 → sg = 1 ∨ sg = -1 →
    Q (.int (tot + sg * fs m a b n.toNat)) → whN (wt1_floor_sum isinO) (ws2_floor_sum isinO) N [some (.sh (.int n)), some (.sh (.int m)), some (.sh (.int a)), some (.sh (.int b)), some (.sh (.int tot)), some (.sh (.int sg)), x]
      { nx := fun ρ => retS (varE 4) ρ (endK Q), rt := Q, bk := fun _ => False, ct := fun _ => False } := fun N => by
  induction N with
  | zero => intro n m a b tot sg x hN; omega
  | succ N ih =>
    intro n m a b tot sg x hN n0 n1 m0 m1 a0 a1 b0 b1 hsg q
    refine br_d (c := 0 < n) (fun hn => ?_) (fun hn => ?_)
    · have hm : 0 < m := by omega
      have hmne : m ≠ 0 := by omega
      have hms : small m := small_nat (by omega)
      have ssg : sg.natAbs ≤ 1000000000000000000 := by omega
      have fa : a.fdiv m = a / m := Int.fdiv_eq_ediv_of_nonneg _ (by omega)
      have fb : b.fdiv m = b / m := Int.fdiv_eq_ediv_of_nonneg _ (by omega)
      have ma : a.fmod m = a % m := Int.fmod_eq_emod_of_nonneg _ (by omega)
      have mb : b.fmod m = b % m := Int.fmod_eq_emod_of_nonneg _ (by omega)
      have am0 := Int.emod_nonneg a hmne
      have am1 := Int.emod_lt_of_pos a hm
      have bm0 := Int.emod_nonneg b hmne
      have bm1 := Int.emod_lt_of_pos b hm
      obtain ⟨k, rfl⟩ : ∃ k : Nat, n = k := ⟨n.toNat, by omega⟩
      have ft : ((k : Int) * ((k : Int) - 1)).fdiv 2 = tri k := tri_fdiv k
      have ek : ((k : Int)).toNat = k := by omega
      rw [ek] at q
      obtain ⟨s1, s2⟩ := fs_step (m := m) (a := a) (b := b) (n := k) (by omega) hm
      refine ⟨mok_l (by omega), ⟨by decide, small_nat (by decide)⟩, ⟨hmne, hms⟩, mok_r (by rw [fa]; have := ediv_small hm a0 a1; omega), ⟨hmne, hms⟩, mok_l (by omega), mok_l ssg, hmne, hmne, mok_r (by omega), ⟨hmne, hms⟩, ?_⟩
      have fm : (a.fmod m * ((k : Int) - 1) + b.fmod m).fdiv m = (a % m * ((k : Int) - 1) + b % m) / m := by rw [ma, mb]; exact Int.fdiv_eq_ediv_of_nonneg _ (by omega)
      have hM0 : 0 ≤ (a % m * ((k : Int) - 1) + b % m) / m := Int.ediv_nonneg (Int.add_nonneg (Int.mul_nonneg am0 (by omega)) bm0) (by omega)
      have hM1 : (a % m * ((k : Int) - 1) + b % m) / m ≤ k := by
        refine Int.lt_add_one_iff.mp (Int.ediv_lt_of_lt_mul hm ?_)
        have h1 : a % m * ((k : Int) - 1) ≤ m * ((k : Int) - 1) := Int.mul_le_mul_of_nonneg_right (by omega) (by omega)
        have h2 : m * ((k : Int) - 1) = m * k - m := by rw [Int.mul_sub, Int.mul_one]
        have h3 : ((k : Int) + 1) * m = m * k + m := by rw [Int.add_mul, Int.one_mul, Int.mul_comm]
        omega
      refine br_d (c := (a.fmod m * ((k : Int) - 1) + b.fmod m).fdiv m = 0) (fun hz => ?_) (fun hz => ?_)
      · rw [fm] at hz
        have e := s1 hz
        show Q (.int (tot + sg * (((k : Int) * ((k : Int) - 1)).fdiv 2 * a.fdiv m + (k : Int) * b.fdiv m)))
        rw [ft, fa, fb, ← e]
        exact q
      · have hz' := hz
        rw [fm] at hz'
        obtain ⟨hap, e⟩ := s2 hz'
        refine ⟨mok_l ssg, mok_r (by rw [fm]; omega), (show 5 ≤ big by decide), ?_⟩
        refine ih ((a.fmod m * ((k : Int) - 1) + b.fmod m).fdiv m) (a.fmod m) m (m - b.fmod m - 1) _ (-sg) _ (by rw [ma]; omega) (by rw [fm]; exact hM0) (by rw [fm]; omega) (by rw [ma]; omega) (by rw [ma]; omega) (by omega) (by omega) (by rw [mb]; omega) (by rw [mb]; omega) (by omega) ?_
        have e2 : tot + sg * (tri k * (a / m) + (k : Int) * (b / m)) + sg * ((k : Int) - 1) * ((a % m * ((k : Int) - 1) + b % m) / m) + -sg * fs (a % m) m (m - b % m - 1) ((a % m * ((k : Int) - 1) + b % m) / m).toNat = tot + sg * fs m a b k := by
          rw [e]
          have h1 : sg * ((k : Int) - 1) * ((a % m * ((k : Int) - 1) + b % m) / m) = sg * (((k : Int) - 1) * ((a % m * ((k : Int) - 1) + b % m) / m)) := Int.mul_assoc ..
          rw [h1]
          generalize ((k : Int) - 1) * ((a % m * ((k : Int) - 1) + b % m) / m) = X
          generalize fs (a % m) m (m - b % m - 1) ((a % m * ((k : Int) - 1) + b % m) / m).toNat = Y
          generalize tri k * (a / m) + (k : Int) * (b / m) = W
          rcases hsg with rfl | rfl <;> omega
        show Q (.int (tot + sg * (((k : Int) * ((k : Int) - 1)).fdiv 2 * a.fdiv m + (k : Int) * b.fdiv m) + sg * ((k : Int) - 1) * ((a.fmod m * ((k : Int) - 1) + b.fmod m).fdiv m) + -sg * fs (a.fmod m) m (m - b.fmod m - 1) ((a.fmod m * ((k : Int) - 1) + b.fmod m).fdiv m).toNat))
        rw [ft, fa, fb, fm, ma, mb, e2]
        exact q
    · have e : n.toNat = 0 := by omega
      rw [e] at q
      have e2 : tot + sg * fs m a b 0 = tot := by show tot + sg * 0 = tot; rw [Int.mul_zero, Int.add_zero]
      rw [e2] at q
      exact q
theorem mir_floor_sum : ∀ ds Q, ds.length = 4 → fsO ds Q → sem_floor_sum isinO (startE ["n", "m", "a", "b", "total", "sign", "most"] ds) (endK Q) := fun ds Q hl q => by
  unfold fsO at q
  split at q
  · rename_i n m a b
    obtain ⟨⟨n0, n1, m0, m1, a0, a1, b0, b1⟩, q⟩ := q
    have d : ∀ {x lo hi : Int}, lo ≤ x → x ≤ hi → (decide (lo ≤ x) && decide (x ≤ hi)) = true := fun h1 h2 => by rw [decide_eq_true h1, decide_eq_true h2]; rfl
    refine br_f (b := !(decide (0 ≤ n) && decide (n ≤ 1000000000))) (by rw [d n0 n1]; rfl) ?_
    refine br_f (b := !(decide (1 ≤ m) && decide (m ≤ 1000000000))) (by rw [d m0 m1]; rfl) ?_
    refine br_f (b := !(decide (-1000000000 ≤ a) && decide (a ≤ 1000000000))) (by rw [d a0 a1]; rfl) ?_
    refine br_f (b := !(decide (-1000000000 ≤ b) && decide (b ≤ 1000000000))) (by rw [d b0 b1]; rfl) ?_
    refine ⟨(show 2 ≤ big by decide), _, fs_loop (m.toNat + 1) n m a b 0 1 none (Nat.lt_succ_self _) n0 n1 m0 m1 a0 a1 b0 b1 (.inl rfl) ?_⟩
    rw [Int.one_mul, Int.zero_add]
    exact q
  · exact q.elim
section
variable {Pg : Program} {w : World} {K : Kf} {mg : Str → Option Value} {base : Heap}
theorem ok_floor_sum (tx : Tx K mg) : FnOk Pg w K mg base CX0 2 tx.a_floor_sum tx.d_floor_sum ["n", "m", "a", "b"] (spOf K 4 fsO) :=
  Z0.fn_ok tx.f_floor_sum sc_floor_sum rfl (walk_floor_sum tx isinO_mono (ok_is_in tx) (by decide)) mir_floor_sum
end
--P floor_sum fsO_mono (ok_floor_sum tx)
/-! ### the law's own sums -/
theorem dvd_cop {m a b : Int} (h : Int.gcd a m = 1) (d : m ∣ a * b) : m ∣ b := by
  have h1 : m.natAbs ∣ a.natAbs * b.natAbs := by rw [← Int.natAbs_mul]; exact Int.natAbs_dvd_natAbs.mpr d
  have h2 : Nat.Coprime m.natAbs a.natAbs := by
    have : Nat.gcd a.natAbs m.natAbs = 1 := h
    rw [Nat.Coprime, Nat.gcd_comm]
    exact this
  exact Int.natAbs_dvd_natAbs.mp (h2.dvd_of_dvd_mul_left h1)
theorem gcd_sym {a b : Int} (h : Int.gcd a b = 1) : Int.gcd b a = 1 := by rw [Int.gcd_comm]; exact h
theorem fs_list (m a b : Int) : ∀ n : Nat, ((List.range n).map fun (k : Nat) => (a * (k : Int) + b) / m).sum = fs m a b n
  | 0 => rfl
  | n + 1 => by
    rw [List.range_succ, List.map_append, List.sum_append, fs_list m a b n]
    show fs m a b n + ((a * n + b) / m + 0) = fs m a b n + (a * n + b) / m
    rw [Int.add_zero]
/-- the first term apart -/
theorem fs_shift (m a b : Int) : ∀ n : Nat, fs m a b (n + 1) = b / m + fs m a (a + b) n
  | 0 => by show (0 : Int) + (a * ((0 : Nat) : Int) + b) / m = b / m + 0; simp
  | n + 1 => by
    have ih := fs_shift m a b n
    show fs m a b (n + 1) + (a * ((n + 1 : Nat) : Int) + b) / m = b / m + (fs m a (a + b) n + (a * n + (a + b)) / m)
    rw [ih, show a * ((n + 1 : Nat) : Int) + b = a * n + (a + b) by rw [show ((n + 1 : Nat) : Int) = (n : Int) + 1 from rfl, Int.mul_add, Int.mul_one]; omega]
    omega
theorem fs_congr {m a b b' : Int} : ∀ n : Nat, (∀ i : Nat, i < n → (a * i + b) / m = (a * i + b') / m) → fs m a b n = fs m a b' n
  | 0, _ => rfl
  | n + 1, h => by
    show fs m a b n + (a * n + b) / m = fs m a b' n + (a * n + b') / m
    rw [fs_congr n fun i hi => h i (Nat.lt_succ_of_lt hi), h n (Nat.lt_succ_self n)]
/-- sums from both ends -/
def sm (F : Nat → Int) : Nat → Int
  | 0 => 0
  | n + 1 => sm F n + F n
theorem sm_front (F : Nat → Int) : ∀ n, sm F (n + 1) = F 0 + sm (fun i => F (i + 1)) n
  | 0 => by show (0 : Int) + F 0 = F 0 + 0; omega
  | n + 1 => by
    show sm F (n + 1) + F (n + 1) = F 0 + (sm (fun i => F (i + 1)) n + F (n + 1))
    rw [sm_front F n]; omega
theorem sm_rev : ∀ (n : Nat) (F : Nat → Int), sm F n = sm (fun i => F (n - 1 - i)) n
  | 0, _ => rfl
  | n + 1, F => by
    rw [sm_front (fun i => F (n + 1 - 1 - i)) n]
    show sm F n + F n = F (n + 1 - 1 - 0) + sm (fun i => F (n + 1 - 1 - (i + 1))) n
    rw [sm_rev n F]
    have e : (fun i => F (n + 1 - 1 - (i + 1))) = fun i => F (n - 1 - i) := by funext i; congr 1; omega
    rw [e, show n + 1 - 1 - 0 = n by omega]
    omega
theorem sm_congr {F G : Nat → Int} : ∀ n, (∀ i, i < n → F i = G i) → sm F n = sm G n
  | 0, _ => rfl
  | n + 1, h => by
    show sm F n + F n = sm G n + G n
    rw [sm_congr n fun i hi => h i (Nat.lt_succ_of_lt hi), h n (Nat.lt_succ_self n)]
theorem sm_add (F G : Nat → Int) : ∀ n, sm F n + sm G n = sm (fun i => F i + G i) n
  | 0 => rfl
  | n + 1 => by
    have := sm_add F G n
    show sm F n + F n + (sm G n + G n) = sm (fun i => F i + G i) n + (F n + G n)
    omega
theorem sm_const (c : Int) : ∀ n : Nat, sm (fun _ => c) n = n * c
  | 0 => by simp [sm]
  | n + 1 => by
    show sm (fun _ => c) n + c = ((n : Int) + 1) * c
    rw [sm_const c n, Int.add_mul, Int.one_mul]
theorem fs_sm (m a b : Int) : ∀ n, fs m a b n = sm (fun i => (a * i + b) / m) n
  | 0 => rfl
  | n + 1 => by
    show fs m a b n + _ = sm _ n + _
    rw [fs_sm m a b n]
/-- the whole sum: places i and q - i together -/
theorem fs_whole {p q : Int} (hp : 1 ≤ p) (hq : 1 ≤ q) (hg : Int.gcd p q = 1) : 2 * fs q p 0 q.toNat = (p - 1) * (q - 1) := by
  obtain ⟨n, rfl⟩ : ∃ n : Nat, q = (n : Int) + 1 := ⟨(q - 1).toNat, by omega⟩
  rw [show ((n : Int) + 1).toNat = n + 1 by omega, fs_shift, Int.zero_ediv, Int.zero_add, Int.add_zero, fs_sm]
  have pair : ∀ i, i < n → (p * ((i : Nat) : Int) + p) / ((n : Int) + 1) + (p * ((n - 1 - i : Nat) : Int) + p) / ((n : Int) + 1) = p - 1 := fun i hi => by
    have hm : (0 : Int) < (n : Int) + 1 := by omega
    have e : p * ((n - 1 - i : Nat) : Int) + p = -(p * ((i : Nat) : Int) + p) + ((n : Int) + 1) * p := by
      rw [show ((n - 1 - i : Nat) : Int) = (n : Int) - 1 - i by omega, Int.mul_sub, Int.mul_sub, Int.add_mul, Int.mul_one, Int.one_mul, Int.mul_comm (n : Int) p]
      omega
    rw [e, Int.add_mul_ediv_left _ _ (by omega)]
    have hnd : ¬ ((n : Int) + 1) ∣ p * ((i : Nat) : Int) + p := fun d => by
      rw [show p * ((i : Nat) : Int) + p = p * ((i : Int) + 1) by rw [Int.mul_add, Int.mul_one]] at d
      have := Int.le_of_dvd (by omega) (dvd_cop hg d)
      omega
    generalize p * ((i : Nat) : Int) + p = X at hnd
    have h1 := Int.emod_add_mul_ediv X ((n : Int) + 1)
    have h2 := Int.emod_nonneg X (show ((n : Int) + 1) ≠ 0 by omega)
    have h3 := Int.emod_lt_of_pos X hm
    have h4 : X % ((n : Int) + 1) ≠ 0 := fun z => hnd (Int.dvd_of_emod_eq_zero z)
    have h5 : (-X) / ((n : Int) + 1) = -(X / ((n : Int) + 1)) - 1 := by
      refine ((Int.ediv_emod_unique (r := ((n : Int) + 1) - X % ((n : Int) + 1)) hm).mpr ⟨?_, by omega, by omega⟩).1
      rw [Int.mul_sub, Int.mul_neg, Int.mul_one]
      omega
    rw [h5]
    omega
  have h2 : 2 * sm (fun i => (p * ((i : Nat) : Int) + p) / ((n : Int) + 1)) n = sm (fun i => (p * ((i : Nat) : Int) + p) / ((n : Int) + 1)) n + sm (fun i => (p * ((n - 1 - i : Nat) : Int) + p) / ((n : Int) + 1)) n := by
    have := sm_rev n (fun i => (p * ((i : Nat) : Int) + p) / ((n : Int) + 1))
    omega
  rw [h2, sm_add, sm_congr n pair, sm_const, Int.mul_comm]
  congr 1
  omega
theorem half_lt {u v : Int} (hu : 1 ≤ u) (huv : u < v) (ou : u % 2 = 1) (ov : v % 2 = 1) (hg : Int.gcd u v = 1) :
    fs v u 0 ((v - 1) / 2 + 1).toNat + fs u v 0 ((u - 1) / 2 + 1).toNat = (u - 1) / 2 * ((v - 1) / 2) := by
  obtain ⟨h, rfl⟩ : ∃ h : Nat, v = 2 * (h : Int) + 1 := ⟨((v - 1) / 2).toNat, by omega⟩
  obtain ⟨M, rfl⟩ : ∃ M : Nat, u = 2 * (M : Int) + 1 := ⟨((u - 1) / 2).toNat, by omega⟩
  rw [show (2 * (h : Int) + 1 - 1) / 2 = h by omega, show (2 * (M : Int) + 1 - 1) / 2 = M by omega, show ((h : Int) + 1).toNat = h + 1 by omega, show ((M : Int) + 1).toNat = M + 1 by omega]
  have t := fs_turn (m := 2 * (h : Int) + 1) (a := 2 * (M : Int) + 1) (b := 0) (by omega) (by omega) huv (by omega) (by omega) h
  have hMh : (M : Int) * h = h * M := Int.mul_comm ..
  have e : ((2 * (M : Int) + 1) * (h : Int) + 0) / (2 * (h : Int) + 1) = M := by
    refine Int.le_antisymm (Int.lt_add_one_iff.mp (Int.ediv_lt_of_lt_mul (by omega) ?_)) (Int.le_ediv_of_mul_le (by omega) ?_)
    · rw [Int.add_mul, Int.one_mul, Int.add_mul, Int.one_mul, Int.mul_add, Int.mul_one, Int.mul_assoc, Int.mul_left_comm]; omega
    · rw [Int.add_mul, Int.one_mul, Int.mul_add, Int.mul_one, Int.mul_assoc, Int.mul_left_comm]; omega
  rw [e, show ((M : Nat) : Int).toNat = M by omega] at t
  rw [fs_shift (2 * (M : Int) + 1), Int.zero_ediv, Int.zero_add, Int.add_zero]
  have c : fs (2 * (M : Int) + 1) (2 * (h : Int) + 1) (2 * (h : Int) + 1 - 0 - 1) M = fs (2 * (M : Int) + 1) (2 * (h : Int) + 1) (2 * (h : Int) + 1) M := fs_congr M fun i hi => by
    have hnd : ¬ (2 * (M : Int) + 1) ∣ (2 * (h : Int) + 1) * (i : Int) + (2 * (h : Int) + 1) := fun d => by
      rw [show (2 * (h : Int) + 1) * (i : Int) + (2 * (h : Int) + 1) = (2 * (h : Int) + 1) * ((i : Int) + 1) by rw [Int.mul_add, Int.mul_one]] at d
      have := Int.le_of_dvd (by omega) (dvd_cop (gcd_sym hg) d)
      omega
    rw [show (2 * (h : Int) + 1) * (i : Int) + (2 * (h : Int) + 1 - 0 - 1) = (2 * (h : Int) + 1) * (i : Int) + (2 * (h : Int) + 1) - 1 by omega]
    generalize (2 * (h : Int) + 1) * (i : Int) + (2 * (h : Int) + 1) = X at hnd
    have hm : (0 : Int) < 2 * (M : Int) + 1 := by omega
    have h1 := Int.emod_add_mul_ediv X (2 * (M : Int) + 1)
    have h2 := Int.emod_nonneg X (show (2 * (M : Int) + 1) ≠ 0 by omega)
    have h3 := Int.emod_lt_of_pos X hm
    have h4 : X % (2 * (M : Int) + 1) ≠ 0 := fun z => hnd (Int.dvd_of_emod_eq_zero z)
    exact ((Int.ediv_emod_unique (r := X % (2 * (M : Int) + 1) - 1) hm).mpr ⟨by omega, by omega, by omega⟩).1
  rw [c] at t
  rw [t]
  omega
theorem half_sum {u v : Int} (hu : 1 ≤ u) (hv : 1 ≤ v) (ou : u % 2 = 1) (ov : v % 2 = 1) (hg : Int.gcd u v = 1) :
    fs v u 0 ((v - 1) / 2 + 1).toNat + fs u v 0 ((u - 1) / 2 + 1).toNat = ((u - 1) * (v - 1)) / 4 := by
  have e : ((u - 1) * (v - 1)) / 4 = (u - 1) / 2 * ((v - 1) / 2) := by
    obtain ⟨x, rfl⟩ : ∃ x : Int, u = 2 * x + 1 := ⟨(u - 1) / 2, by omega⟩
    obtain ⟨y, rfl⟩ : ∃ y : Int, v = 2 * y + 1 := ⟨(v - 1) / 2, by omega⟩
    rw [show (2 * x + 1 - 1) / 2 = x by omega, show (2 * y + 1 - 1) / 2 = y by omega, show 2 * x + 1 - 1 = 2 * x by omega, show 2 * y + 1 - 1 = 2 * y by omega, show 2 * x * (2 * y) = 4 * (x * y) by rw [Int.mul_assoc, Int.mul_left_comm x 2 y, ← Int.mul_assoc]; omega]
    exact Int.mul_ediv_cancel_left _ (by decide)
  rw [e]
  rcases Int.lt_trichotomy u v with h | h | h
  · exact half_lt hu h ou ov hg
  · subst h
    have : u = 1 := by
      have h1 : Int.gcd u u = u.natAbs := Int.gcd_self ..
      omega
    subst this
    rfl
  · have := half_lt hv h ov ou (gcd_sym hg)
    rw [Int.mul_comm]
    omega
/-! ### the law's run -/
abbrev E77 (x2 x3 x4 x5 x6 : Option Slot) : REnv := [none, some (.sh .row), x2, x3, x4, x5, x6, none, none, none, none, none, none, none, none, none, none, none, none]
abbrev kLaw : Kt := { nx := fun _ => False, rt := fun d => d = .bl true, bk := fun _ => False, ct := fun _ => False }
theorem law_turn {nxt : REnv → Prop} {k : Kt} {x2 x3 x4 x5 x6 : Option Slot} (h : ∀ x3 x4 x5 x6, nxt (E77 x2 x3 x4 x5 x6)) : fb2_law pickO takenO signedO fsO (alikeG 1) twoO (E77 x2 x3 x4 x5 x6) (loopK nxt k) := by
  refine ⟨⟨by decide, small_nat (by decide)⟩, fun n n0 n1 => ⟨(show 2 ≤ big by decide), ⟨⟨by decide, by decide⟩, fun d hd => ?_⟩⟩⟩
  have hd' : ∃ c : Int, d = .int c ∧ 0 < c ∧ c ≤ 40 := by
    rcases List.mem_cons.mp hd with e | hd
    · exact ⟨6, e, by decide, by decide⟩
    · rcases List.mem_cons.mp hd with e | hd
      · exact ⟨40, e, by decide, by decide⟩
      · cases hd
  obtain ⟨c, rfl, c0, c1⟩ := hd'
  refine ⟨⟨c0, small_nat (by omega)⟩, fun m m0 m1 => ⟨(show 2 ≤ big by decide), ⟨⟨by decide, by decide⟩, fun a a0 a1 => ⟨⟨by decide, by decide⟩, fun b b0 b1 => ⟨(show 2 ≤ big by decide), ?_⟩⟩⟩⟩⟩
  refine ⟨⟨n0, by omega, by omega, by omega, by omega, by omega, by omega, by omega⟩, ⟨⟨by omega, by omega⟩, ⟨le_big (by rw [rngD_len]; omega), ?_⟩⟩⟩
  refine lcL_map (fun d => match d with
    | .int i => .int ((a * i + b).fdiv (1 + m))
    | _ => .non) _ _ (fun d hd R hR => ?_) ?_
  · obtain ⟨i, rfl, i0, i1⟩ := rngD_mem hd
    exact ⟨mok_l (by omega), ⟨by omega, small_nat (by omega)⟩, hR⟩
  · rw [rngD_map]
    refine onInts_lst (intsD_range (G := fun (k : Nat) => (a * (k : Int) + b) / (1 + m)) fun k => ?_) ?_
    · show D.int ((a * (0 + (k : Int)) + b).fdiv (1 + m)) = _
      rw [Int.zero_add, Int.fdiv_eq_ediv_of_nonneg _ (by omega)]
    · rw [fs_list, Int.sub_zero]
      exact ⟨⟨rfl, rfl⟩, h _ _ _ _⟩
theorem law_run : sem_law pickO takenO signedO fsO (alikeG 1) twoO (lawE ["_law_script", "_law_row", "_law_turn", "_law_n", "_law_m", "_law_a", "_law_b", "_law_i", "_law_great", "_law_whole", "_law_p", "_law_q", "_law_both", "_law_due", "_law_half", "_law_u", "_law_v", "_law_one", "_law_other"]) kLaw := by
  refine ⟨⟨by decide, by decide⟩, forL_inv (fun _ ρ => ∃ x2 x3 x4 x5 x6, ρ = E77 x2 x3 x4 x5 x6) ⟨none, none, none, none, none, rfl⟩ (fun i d ρ nxt hd hρ hn => ?_) (fun ρ hρ => ?_)⟩
  · obtain ⟨x2, x3, x4, x5, x6, rfl⟩ := hρ
    exact law_turn (x2 := some (.sh d)) fun x3 x4 x5 x6 => hn _ ⟨_, _, _, _, _, rfl⟩
  · obtain ⟨x2, x3, x4, x5, x6, rfl⟩ := hρ
    have e9 : (10 : Int) ^ (9 : Int).toNat = 1000000000 := by decide
    have e4 : (10 : Int) ^ (4 : Int).toNat = 10000 := by decide
    -- a great number of terms, and one more
    refine ⟨⟨by decide, by decide, by decide⟩, ⟨by rw [e9]; decide, by rw [e9]; exact small_nat (by decide)⟩, fun g g0 g1 => ⟨⟨by decide, by decide, by decide⟩, ⟨by rw [e9]; decide, by rw [e9]; exact small_nat (by decide)⟩, fun m m0 m1 => ⟨(show 2 ≤ big by decide), ?_⟩⟩⟩
    rw [e9] at g1 m1
    refine ⟨⟨by decide, by decide, by decide⟩, ⟨by rw [e9]; decide, by rw [e9]; decide⟩, fun a a0 a1 => ⟨⟨by decide, by decide, by decide⟩, ⟨by rw [e9]; decide, by rw [e9]; decide⟩, fun b b0 b1 => ⟨(show 2 ≤ big by decide), ?_⟩⟩⟩
    rw [e9] at a0 a1 b0 b1
    refine ⟨⟨by omega, by omega, by omega, by omega, by omega, by omega, by omega, by omega⟩, ⟨⟨by omega, by omega, by omega, by omega, by omega, by omega, by omega, by omega⟩, mok_r (by omega), ⟨by omega, small_nat (by omega)⟩, ?_⟩⟩
    have hs : fs (1 + m) a b (g + 1).toNat - fs (1 + m) a b g.toNat = (a * g + b).fdiv (1 + m) := by
      obtain ⟨k, rfl⟩ : ∃ k : Nat, g = k := ⟨g.toNat, by omega⟩
      rw [show ((k : Int) + 1).toNat = k + 1 by omega, show ((k : Nat) : Int).toNat = k by omega, Int.fdiv_eq_ediv_of_nonneg _ (by omega)]
      show fs (1 + m) a b k + (a * k + b) / (1 + m) - fs (1 + m) a b k = _
      omega
    refine ⟨⟨by show D.int _ = D.int _; rw [hs], rfl⟩, ?_⟩
    -- two without a common divisor
    refine ⟨⟨by decide, by decide, by decide⟩, ⟨by rw [e4]; decide, by rw [e4]; decide⟩, fun p q p0 p1 q0 q1 hpq => ?_⟩
    rw [e4] at p1 q1
    have w1 := fs_whole p0 q0 hpq
    have w2 := fs_whole q0 p0 (gcd_sym hpq)
    have wc : (q - 1) * (p - 1) = (p - 1) * (q - 1) := Int.mul_comm ..
    have hdue : ((p - 1) * (q - 1)).fdiv 2 = fs q p 0 q.toNat := by
      rw [Int.fdiv_eq_ediv_of_nonneg _ (by decide), ← w1]
      exact Int.mul_ediv_cancel_left _ (by decide)
    refine ⟨⟨by omega, by omega, by omega, by omega, by omega, by omega, by omega, by omega⟩, ⟨by omega, by omega, by omega, by omega, by omega, by omega, by omega, by omega⟩, mok_l (by omega), ⟨by decide, small_nat (by decide)⟩, ?_⟩
    refine ⟨⟨by omega, by omega, by omega, by omega, by omega, by omega, by omega, by omega⟩, ?_⟩
    refine br_f (b := !decide (fs q p 0 q.toNat = ((p - 1) * (q - 1)).fdiv 2)) (by rw [hdue, decide_eq_true rfl]; rfl) ?_
    refine ⟨mok_l (by decide), ?_⟩
    refine br_f (b := !decide (fs q p 0 q.toNat + fs p q 0 p.toNat = 2 * ((p - 1) * (q - 1)).fdiv 2)) (by rw [hdue, decide_eq_true (by omega)]; rfl) ?_
    -- both odd
    refine ⟨(show (2 : Int) ≠ 0 by decide), ?_⟩
    refine br_d (c := p.fmod 2 = 1) (fun op => ⟨(show (2 : Int) ≠ 0 by decide), br_d (c := q.fmod 2 = 1) (fun oq => ?_) (fun _ => ⟨Nat.zero_le _, rfl⟩)⟩) (fun _ => ⟨Nat.zero_le _, rfl⟩)
    rw [Int.fmod_eq_emod_of_nonneg _ (by decide)] at op oq
    refine ⟨(show 2 ≤ big by decide), (show 1 ≤ big by decide), ?_⟩
    have f2 : ∀ x : Int, x.fdiv 2 = x / 2 := fun x => Int.fdiv_eq_ediv_of_nonneg _ (by decide)
    have hh := half_sum p0 q0 op oq hpq
    refine ⟨⟨by decide, small_nat (by decide)⟩, ⟨by rw [f2]; omega, by rw [f2]; omega, by omega, by omega, by omega, by omega, by omega, by omega⟩, ⟨by decide, small_nat (by decide)⟩, ⟨by rw [f2]; omega, by rw [f2]; omega, by omega, by omega, by omega, by omega, by omega, by omega⟩, mok_l (by omega), ⟨by decide, small_nat (by decide)⟩, ?_⟩
    refine br_f (b := !decide (fs q p 0 ((q - 1).fdiv 2 + 1).toNat + fs p q 0 ((p - 1).fdiv 2 + 1).toNat = ((p - 1) * (q - 1)).fdiv 4)) ?_ rfl
    rw [f2, f2, Int.fdiv_eq_ediv_of_nonneg _ (by decide), hh, decide_eq_true rfl]
    rfl
end Tx0
namespace Tx0
open PySem PySem.Spec PyProof.Rows L2 Z0
section
variable {Pg : Program} {w : World} {K : Kf} {mg : Str → Option Value} {base : Heap}
theorem ok_law (tx : Tx K mg) : FnOk Pg w K mg base CX0 4 tx.a_law tx.d_law ["_law_script"] (spLaw K) :=
  Z0.law_ok (first := (defBody s_law).headD (.Pass ⟨0, 0, 0, 0⟩)) (rest := (defBody s_law).tail) (seed := 3377) tx.f_law sc_law rfl (by decide)
    (fun cdv A outer s H E hr => ps_set (i := 1) sc_law.nd rfl (by first | exact Or.inl rfl | exact Or.inr rfl) (pe_lst (pa_cons (pv 0) (pa_cons pe_int (pa_cons pe_int (pa_cons pe_int pa_nil))))))
    (walk_law tx pickO_mono (ok_pick tx) (by decide) takenO_mono (ok_taken tx) (by decide) signedO_mono (ok_signed tx) (by decide) fsO_mono (ok_floor_sum tx) (by decide) (alikeG_mono 1) (ok_alike tx 1) (by decide) twoO_mono (ok_two tx) (by decide)) law_run
end
theorem end_of {P : Program} {w : World} {K : Kf} {h : Heap} {mg : Str → Option Value} {f : Addr} (X : K.In h) (G : h.Ns mainGlobals mg) (hfa : mg ("law" : Str) = some (.ref f)) (c : SaysZ fas fns tbs K) :
    ∃ fd : FuncData, (∀ (s : Shared) (v : Value), BindsTo s fd ⟨[v], []⟩ [("_law_script", v)]) ∧ ∀ base : Heap, K.In base → base.Ns mainGlobals mg → FnOk P w K mg base CX0 4 f fd ["_law_script"] (spLaw K) := by
  obtain ⟨tx, _⟩ := tx_of X G c
  have e := hfa.symm.trans tx.m_law
  cases e
  have b := FunD.bindsA (ps := ["_law_script"]) tx.f_law fun _ _ _ _ _ _ us hl => match us, hl with | [_], _ => rfl
  exact ⟨tx.d_law, fun s v => b s [v] rfl, fun base _ _ => ok_law tx⟩
end Tx0
open PySem PySem.W PySem.Calls PyProof.Rows
theorem PySem.Challenge.cw_latticepoints_k77_whole_sums_of_integer_holds : PySem.Challenge.rw_latticepoints_k77_whole_sums_of_integer.Holds := by
  w_on; o_law
  refine HandSHeadRun.head_any (r := OpenLaw.row PySem.Challenge.rw_latticepoints_k77_whole_sums_of_integer) (q := view (OpenLaw.row PySem.Challenge.rw_latticepoints_k77_whole_sums_of_integer).prog [15]) (H := Tx0.hk) (ob := Tx0.ob) (M := 4000) (loose := Tx0.loose) (d := HandSHeadRun.topDef (OpenLaw.row PySem.Challenge.rw_latticepoints_k77_whole_sums_of_integer).prog 15) (kwd := []) Tx0.ob_eq
    (by kernel_rfl) (fun s => by kernel_rfl) Tx0.run (by kernel_rfl) (by kernel_rfl) (by kernel_rfl) (by rfl) (by first | assumption | decide +kernel) (by decide +kernel) ⟨rfl, rfl, rfl, rfl, rfl, by decide +kernel⟩ ?hw ?hc
  case hw => w_witness2
  case hc =>
    refine L2.walk_ofE (l := PySem.Challenge.rw_latticepoints_k77_whole_sums_of_integer) (n := 63) (k := 4) (x := "_law_script") (CX := L2.CX0) rfl (by decide) (by kernel_rfl) ⟨rfl, by decide, by decide⟩ ?F (fun _ _ _ _ z => z)
    intro w mg fa h Y G hmg0
    obtain ⟨K, KX, c⟩ := Y
    have hmg : mg ("law" : PySem.Str) = some (.ref fa) := by
      have e : (HandSHeadRun.topDef (OpenLaw.row PySem.Challenge.rw_latticepoints_k77_whole_sums_of_integer).prog 15).name = ("law" : PySem.Str) := by kernel_rfl
      rw [← e]
      exact hmg0
    obtain ⟨fd, hb, hF⟩ := Tx0.end_of (P := (PySem.Challenge.rw_latticepoints_k77_whole_sums_of_integer).prog) (w := w) KX G hmg c
    exact ⟨K, fd, Z0.spLaw K, KX, hb, fun H a ns hl hO hS => ⟨a, ns, rfl, hS, hO, fun v H' e => e⟩, hF⟩
#print axioms PySem.Challenge.cw_latticepoints_k77_whole_sums_of_integer_holds
