import PyProof.Rows.All
import HandS.ForMost
import HandS.IsInst
import HandS.Style
import HandS.TupAny
import HandS.TupLe
import HandS.Zip
import HandS.Strs
import HandS.SetFor
import HandS.TupSets
import HandS.DictComp
import HandS.Flt
import KE.KDictDisplayH
import HandS.Wide
import HandS.Head0
import HandS.Head1
import HandS.Head2
import HandS.HeadEnd
import HandS.HeadHook1
import HandS.HeadHook2
import HandS.WordsExc
import HandS.Defaults
import HandS.More
import HandS.SortInts
import HandS.Conv
import HandS.Deep
import HandS.TupMul
import KE.KUnpack
import KE.KDictKeyed
import PySem.Challenge.RW_latticepoints_k76_whole_least_sums
set_option Elab.async false
set_option linter.all false
set_option maxRecDepth 100000
set_option maxHeartbeats 4000000
set_option exponentiation.threshold 1000000
/-! Z0: a pure layer over HandS: values as data, environments as lists of slots, a def's meaning as a weakest precondition over data. -/
namespace Z0
open PySem PySem.Spec PyProof.Rows L2

/-! ### data -/
inductive Ty where
  | int | bool | str | tuple | list | dict
def Ty.name : Ty → String
  | .int => "int"
  | .bool => "bool"
  | .str => "str"
  | .tuple => "tuple"
  | .list => "list"
  | .dict => "dict"
inductive D where
  | non | bl (b : Bool) | int (i : Int) | str (x : Str) | tup (xs : List D) | lst (xs : List D) | row | ty (t : Ty)
abbrev Kf := PySem.W.Frag
/-- an own length bound -/
abbrev big : Nat := 16000000
theorem big_line {n : Nat} (h : n ≤ big) : n ≤ sizeLine := Nat.le_trans h (by rw [sizeLine_eq]; decide)
theorem big_lt {n : Nat} (h : n < big) : n < sizeLine := Nat.lt_of_lt_of_le h (by rw [sizeLine_eq]; decide)

mutual
/-- a value that stands for a datum in the frozen part F; rw: where the law's row of draws stands -/
def Rep (K : Kf) (rw : Option Addr) (F : Hp) : D → V → Prop
  | .non, v => v = .non
  | .bl b, v => v = .bl b
  | .int i, v => v = .int i
  | .str x, v => v = .str x
  | .tup ds, v => ∃ a vs, v = .ref a ∧ SqT K F a vs ∧ Reps K rw F ds vs
  | .lst ds, v => ∃ a vs, v = .ref a ∧ F a = some (.lst vs) ∧ Reps K rw F ds vs
  | .row, v => ∃ a, rw = some a ∧ v = .ref a
  | .ty t, v => v = .ty t.name
def Reps (K : Kf) (rw : Option Addr) (F : Hp) : List D → List V → Prop
  | [], vs => vs = []
  | d :: ds, vs => ∃ v r, vs = v :: r ∧ Rep K rw F d v ∧ Reps K rw F ds r
end
def Ex (F F' : Hp) : Prop := ∀ a o, F a = some o → F' a = some o
theorem Ex.refl (F : Hp) : Ex F F := fun _ _ h => h
theorem Ex.trans {F G H : Hp} (a : Ex F G) (b : Ex G H) : Ex F H := fun x o h => b x o (a x o h)
theorem Ex.upd {F : Hp} {p : Addr} {o : HO} (h : F p = none) : Ex F (upd F p o) := fun a u e => by
  rw [upd_ne (ne_of_none e h)]; exact e
theorem Ex.none {F G : Hp} (e : Ex F G) {a : Addr} (h : G a = none) : F a = none := by
  cases q : F a with
  | none => rfl
  | some o => rw [e a o q] at h; cases h
def ExR (rw : Option Addr) (H H' : Hp) : Prop := ∀ a o, rw ≠ some a → H a = some o → H' a = some o
theorem ExR.refl (rw : Option Addr) (H : Hp) : ExR rw H H := fun _ _ _ h => h
theorem ExR.trans {rw : Option Addr} {F G H : Hp} (a : ExR rw F G) (b : ExR rw G H) : ExR rw F H := fun x o n h => b x o n (a x o n h)
theorem ExR.upd {rw : Option Addr} {H : Hp} {p : Addr} {o : HO} (h : H p = none) : ExR rw H (upd H p o) := fun a u _ e => by
  rw [upd_ne (ne_of_none e h)]; exact e
theorem rd_ex {F F' : Hp} {a : Addr} {u : HO} (e : Ex F F') (h : Rd F a u) : Rd F' a u := by
  rcases h with h | ⟨o, h⟩
  · exact .inl (e a _ h)
  · exact .inr ⟨o, e a _ h⟩
theorem sql_ex {K : Kf} {F F' : Hp} {a : Addr} {xs : List V} (e : Ex F F') (h : SqL K F a xs) : SqL K F' a xs := by
  rcases h with h | h
  · exact .inl (rd_ex e h)
  · exact .inr h
theorem sqt_ex {K : Kf} {F F' : Hp} {a : Addr} {xs : List V} (e : Ex F F') (h : SqT K F a xs) : SqT K F' a xs := by
  rcases h with h | h
  · exact .inl (rd_ex e h)
  · exact .inr h
theorem sql_exr {K : Kf} {rw : Option Addr} {F F' : Hp} {a : Addr} {xs : List V} (n : rw ≠ some a) (e : ExR rw F F') (h : SqL K F a xs) : SqL K F' a xs := by
  rcases h with (h | ⟨o, h⟩) | h
  · exact .inl (.inl (e a _ n h))
  · exact .inl (.inr ⟨o, e a _ n h⟩)
  · exact .inr h
mutual
theorem Rep.ex {K : Kf} {rw : Option Addr} {F F' : Hp} (e : Ex F F') : ∀ (d : D) (v : V), Rep K rw F d v → Rep K rw F' d v
  | .non, _, h => h
  | .bl _, _, h => h
  | .int _, _, h => h
  | .str _, _, h => h
  | .tup ds, _, ⟨a, vs, q, s, r⟩ => ⟨a, vs, q, sqt_ex e s, Reps.ex e ds vs r⟩
  | .lst ds, _, ⟨a, vs, q, s, r⟩ => ⟨a, vs, q, e _ _ s, Reps.ex e ds vs r⟩
  | .row, _, h => h
  | .ty _, _, h => h
theorem Reps.ex {K : Kf} {rw : Option Addr} {F F' : Hp} (e : Ex F F') : ∀ (ds : List D) (vs : List V), Reps K rw F ds vs → Reps K rw F' ds vs
  | [], _, h => h
  | d :: ds, _, ⟨v, r, q, h, t⟩ => ⟨v, r, q, Rep.ex e d v h, Reps.ex e ds r t⟩
end
theorem Reps.length {K : Kf} {rw : Option Addr} {F : Hp} : ∀ {ds : List D} {vs : List V}, Reps K rw F ds vs → vs.length = ds.length
  | [], _, h => by cases (show _ = [] from h); rfl
  | d :: ds, _, h => by
    obtain ⟨v, r, rfl, _, t⟩ := (show ∃ v r, _ = v :: r ∧ _ ∧ _ from h)
    show r.length + 1 = ds.length + 1
    rw [Reps.length t]
theorem Reps.get {K : Kf} {rw : Option Addr} {F : Hp} : ∀ {ds : List D} {vs : List V} {i : Nat} {d : D}, Reps K rw F ds vs → ds[i]? = some d → ∃ v, vs[i]? = some v ∧ Rep K rw F d v
  | [], _, _, _, _, e => by simp at e
  | d :: ds, _, i, x, h, e => by
    obtain ⟨v, r, rfl, h1, t⟩ := (show ∃ v r, _ = v :: r ∧ _ ∧ _ from h)
    cases i with
    | zero => simp at e; subst e; exact ⟨v, rfl, h1⟩
    | succ i =>
      obtain ⟨w, e1, e2⟩ := Reps.get (i := i) t (by simpa using e)
      exact ⟨w, by simpa using e1, e2⟩
theorem Reps.app {K : Kf} {rw : Option Addr} {F : Hp} : ∀ {ds es : List D} {vs us : List V}, Reps K rw F ds vs → Reps K rw F es us → Reps K rw F (ds ++ es) (vs ++ us)
  | [], _, _, _, h, q => by cases (show _ = [] from h); exact q
  | d :: ds, _, _, _, h, q => by
    obtain ⟨v, r, rfl, h1, t⟩ := (show ∃ v r, _ = v :: r ∧ _ ∧ _ from h)
    exact ⟨v, _, rfl, h1, Reps.app t q⟩
theorem Reps.one {K : Kf} {rw : Option Addr} {F : Hp} {d : D} {v : V} (h : Rep K rw F d v) : Reps K rw F [d] [v] := ⟨v, [], rfl, h, rfl⟩
theorem Reps.two {K : Kf} {rw : Option Addr} {F : Hp} {d e : D} {v u : V} (h : Rep K rw F d v) (k : Rep K rw F e u) : Reps K rw F [d, e] [v, u] := ⟨v, [u], rfl, h, Reps.one k⟩
theorem Reps.take {K : Kf} {rw : Option Addr} {F : Hp} : ∀ (n : Nat) {ds : List D} {vs : List V}, Reps K rw F ds vs → Reps K rw F (ds.take n) (vs.take n)
  | 0, _, _, _ => by simp [Reps]
  | n + 1, [], _, h => by cases (show _ = [] from h); simp [Reps]
  | n + 1, d :: ds, _, h => by
    obtain ⟨v, r, rfl, h1, t⟩ := (show ∃ v r, _ = v :: r ∧ _ ∧ _ from h)
    exact ⟨v, _, rfl, h1, Reps.take n t⟩
theorem Reps.drop {K : Kf} {rw : Option Addr} {F : Hp} : ∀ (n : Nat) {ds : List D} {vs : List V}, Reps K rw F ds vs → Reps K rw F (ds.drop n) (vs.drop n)
  | 0, _, _, h => by simpa using h
  | n + 1, [], _, h => by cases (show _ = [] from h); simp [Reps]
  | n + 1, d :: ds, _, h => by
    obtain ⟨v, r, rfl, h1, t⟩ := (show ∃ v r, _ = v :: r ∧ _ ∧ _ from h)
    exact Reps.drop n t
theorem Reps.rev {K : Kf} {rw : Option Addr} {F : Hp} : ∀ {ds : List D} {vs : List V}, Reps K rw F ds vs → Reps K rw F ds.reverse vs.reverse
  | [], _, h => by cases (show _ = [] from h); simp [Reps]
  | d :: ds, _, h => by
    obtain ⟨v, r, rfl, h1, t⟩ := (show ∃ v r, _ = v :: r ∧ _ ∧ _ from h)
    rw [List.reverse_cons, List.reverse_cons]
    exact Reps.app (Reps.rev t) (Reps.one h1)
theorem Reps.set {K : Kf} {rw : Option Addr} {F : Hp} {d : D} {v : V} (q : Rep K rw F d v) : ∀ (i : Nat) {ds : List D} {vs : List V}, Reps K rw F ds vs → Reps K rw F (ds.set i d) (vs.set i v)
  | _, [], _, h => by cases (show _ = [] from h); simp [Reps]
  | 0, d :: ds, _, h => by
    obtain ⟨v, r, rfl, h1, t⟩ := (show ∃ v r, _ = v :: r ∧ _ ∧ _ from h)
    exact ⟨_, _, rfl, q, t⟩
  | i + 1, d :: ds, _, h => by
    obtain ⟨v, r, rfl, h1, t⟩ := (show ∃ v r, _ = v :: r ∧ _ ∧ _ from h)
    exact ⟨_, _, rfl, h1, Reps.set q i t⟩
theorem Reps.ints {K : Kf} {rw : Option Addr} {F : Hp} : ∀ {ns : List Int} {vs : List V}, Reps K rw F (ns.map D.int) vs → vs = ns.map V.int
  | [], _, h => h
  | n :: ns, _, h => by
    obtain ⟨v, r, rfl, h1, t⟩ := (show ∃ v r, _ = v :: r ∧ _ ∧ _ from h)
    rw [Reps.ints t, show v = .int n from h1]; rfl
theorem Reps.of_ints {K : Kf} {rw : Option Addr} {F : Hp} : ∀ {ns : List Int}, Reps K rw F (ns.map D.int) (ns.map V.int)
  | [] => rfl
  | n :: ns => ⟨_, _, rfl, rfl, Reps.of_ints⟩

/-! ### environments and their relation to states -/
/-- dic: a dict of one's own (true: its keys are ints; false: tuples of ints, nested) -/
inductive Slot where
  | sh (d : D) | own (ds : List D) | dic (b : Bool) (kvs : List (D × D))
def Slot.mine : Slot → Bool
  | .sh _ => false
  | _ => true
/-- the raw dict at a with keys that are tuples -/
def DkO (a : Addr) (xs : List (NestedKey × Addr × Value)) : HO := .ext fun h => ∃ o es ep, h.get? a = some o ∧ o.ExactDict ∧ o.data = .dict es ep ∧ (∀ (P : Program) (w : World), es.toList = xs.map (entryOfKey (nestedKind P w))) ∧ (xs.map (·.1)).Nodup ∧ (a == sysModules) = false
def DInt (K : Kf) (rw : Option Addr) (F : Hp) : List (D × D) → List (Key × V) → Prop
  | [], vs => vs = []
  | kd :: r, vs => ∃ (i : Int) (v : V) (t : List (Key × V)), vs = (Sum.inl i, v) :: t ∧ kd.1 = .int i ∧ Rep K rw F kd.2 v ∧ DInt K rw F r t
mutual
/-- a key of ints and tuples -/
def nkI : NestedKey → Bool
  | .num _ => true
  | .tup ks => nkIs ks
  | _ => false
def nkIs : List NestedKey → Bool
  | [] => true
  | k :: ks => nkI k && nkIs ks
end
def nkOk (k : NestedKey) : Bool := nkI k && decide (k.depth ≤ 8)
def DTup (nk : D → NestedKey) (K : Kf) (rw : Option Addr) (F : Hp) : List (D × D) → List (NestedKey × Addr × Value) → Prop
  | [], vs => vs = []
  | kd :: r, vs => ∃ (b : Addr) (v : V) (u : Value) (t : List (NestedKey × Addr × Value)), vs = (nk kd.1, b, u) :: t ∧ nkOk (nk kd.1) = true ∧ Rep K rw F kd.1 (.ref b) ∧ Rep K rw F kd.2 v ∧ RelV v u ∧ DTup nk K rw F r t
theorem DInt.ex {K : Kf} {rw : Option Addr} {F F' : Hp} (e : Ex F F') : ∀ {kvs : List (D × D)} {vs : List (Key × V)}, DInt K rw F kvs vs → DInt K rw F' kvs vs
  | [], _, h => h
  | _ :: _, _, ⟨i, v, t, e1, e2, e3, e4⟩ => ⟨i, v, t, e1, e2, Rep.ex e _ _ e3, DInt.ex e e4⟩
theorem DTup.ex {nk : D → NestedKey} {K : Kf} {rw : Option Addr} {F F' : Hp} (e : Ex F F') : ∀ {kvs : List (D × D)} {vs : List (NestedKey × Addr × Value)}, DTup nk K rw F kvs vs → DTup nk K rw F' kvs vs
  | [], _, h => h
  | _ :: _, _, ⟨b, v, u, t, e1, e0, e2, e3, e4, e5⟩ => ⟨b, v, u, t, e1, e0, Rep.ex e _ _ e2, Rep.ex e _ _ e3, e4, DTup.ex e e5⟩
mutual
/-- a datum of ints and tuples as a key -/
def nkD : D → NestedKey
  | .int i => .num i
  | .tup ds => .tup (nkDs ds)
  | _ => .none
def nkDs : List D → List NestedKey
  | [] => []
  | d :: ds => nkD d :: nkDs ds
end
/-- what a dict of one's own is in the heap -/
def DicR (K : Kf) (rw : Option Addr) (F : Hp) (a : Addr) (b : Bool) (kvs : List (D × D)) (o : HO) : Prop := kvs.length ≤ big ∧ match b with
  | true => ∃ vs, o = .dK vs ∧ DInt K rw F kvs vs
  | false => ∃ xs, o = DkO a xs ∧ DTup nkD K rw F kvs xs
theorem DicR.ex {K : Kf} {rw : Option Addr} {F F' : Hp} {a : Addr} {b : Bool} {kvs : List (D × D)} {o : HO} (e : Ex F F') (h : DicR K rw F a b kvs o) : DicR K rw F' a b kvs o := by
  cases b with
  | true => obtain ⟨hl, vs, e1, e2⟩ := h; exact ⟨hl, vs, e1, e2.ex e⟩
  | false => obtain ⟨hl, vs, e1, e2⟩ := h; exact ⟨hl, vs, e1, e2.ex e⟩
abbrev REnv := List (Option Slot)
structure Zs where
  rw : Option Addr
  H0 : Hp
  F0 : Hp
/-- the script: known to the object, or of the written part -/
def ScOk (K : Kf) (H : Hp) (sc : Addr) (ns : List Int) : Prop := (∃ o, H sc = some (.frz o (.lst (ns.map V.int)))) ∨ SqL K (fun _ => none) sc (ns.map V.int)
theorem ScOk.sql {K : Kf} {H : Hp} {sc : Addr} {ns : List Int} (h : ScOk K H sc ns) : SqL K H sc (ns.map V.int) := by
  rcases h with ⟨o, h⟩ | h
  · exact .inl (.inr ⟨o, h⟩)
  · rcases h with (h | ⟨o, h⟩) | h
    · cases h
    · cases h
    · exact .inr h
theorem ScOk.keep {K : Kf} {H H' : Hp} {sc : Addr} {ns : List Int} (h : ScOk K H sc ns) (k : ∀ o, H sc = some (.frz o (.lst (ns.map V.int))) → H' sc = some (.frz o (.lst (ns.map V.int)))) : ScOk K H' sc ns := by
  rcases h with ⟨o, h⟩ | h
  · exact .inl ⟨o, k o h⟩
  · exact .inr h
/-- the row of draws: the script, and three ints -/
def RowOk (K : Kf) (rw : Option Addr) (H : Hp) : Prop := ∀ a, rw = some a → ∃ (sc : Addr) (ns : List Int) (p m r : Int),
  H a = some (.lst [.ref sc, .int p, .int m, .int r]) ∧ ScOk K H sc ns ∧ 0 ≤ p
structure Base (K : Kf) (Z : Zs) (F H : Hp) : Prop where
  fh : Ex F H
  f0 : Ex Z.F0 F
  hh : ExR Z.rw Z.H0 H
  new : ∀ a, F a ≠ none → Z.F0 a ≠ none ∨ Z.H0 a = none
  row : RowOk K Z.rw H
  frow : ∀ a, Z.rw = some a → F a = none
def SlotOk (K : Kf) (Z : Zs) (F H : Hp) (σ : L2.St) (i : Nat) : Slot → Prop
  | .sh d => ∃ v, σ[i]? = some (some v) ∧ Rep K Z.rw F d v
  | .own ds => ∃ a vs, σ[i]? = some (some (.ref a)) ∧ H a = some (.lst vs) ∧ Reps K Z.rw F ds vs ∧ F a = none ∧ Z.H0 a = none ∧ Z.rw ≠ some a
  | .dic b kvs => ∃ a o, σ[i]? = some (some (.ref a)) ∧ H a = some o ∧ DicR K Z.rw F a b kvs o ∧ F a = none ∧ Z.H0 a = none ∧ Z.rw ≠ some a
structure R (K : Kf) (Z : Zs) (F : Hp) (ρ : REnv) (σ : L2.St) (H : Hp) : Prop where
  base : Base K Z F H
  len : ρ.length = σ.length
  slot : ∀ i s, ρ[i]? = some (some s) → SlotOk K Z F H σ i s
  apart : ∀ (i j : Nat) (s t : Slot) (a : Addr), s.mine = true → t.mine = true → ρ[i]? = some (some s) → ρ[j]? = some (some t) → σ[i]? = some (some (V.ref a)) → σ[j]? = some (some (V.ref a)) → i = j
section
variable {K : Kf} {Z : Zs} {F F' : Hp} {ρ : REnv} {σ : L2.St} {H H' : Hp}
/-- what grows: the frozen part, the heap -/
structure Gr (K : Kf) (Z : Zs) (F H F' H' : Hp) : Prop where
  f : Ex F F'
  h : ExR Z.rw H H'
  b : Base K Z F' H'
  n : ∀ a, F' a ≠ none → F a ≠ none ∨ H a = none
theorem Gr.refl (b : Base K Z F H) : Gr K Z F H F H := ⟨Ex.refl _, ExR.refl _ _, b, fun _ h => .inl h⟩
theorem Gr.trans {F1 H1 F2 H2 : Hp} (a : Gr K Z F H F1 H1) (c : Gr K Z F1 H1 F2 H2) : Gr K Z F H F2 H2 :=
  ⟨a.f.trans c.f, a.h.trans c.h, c.b, fun x hx => by
    rcases c.n x hx with q | q
    · exact a.n x q
    · by_cases hr : Z.rw = some x
      · exact absurd (c.b.frow x hr) hx
      · cases e : H x with
        | none => exact .inr rfl
        | some o => rw [a.h x o hr e] at q; cases q⟩
theorem R.grow (r : R K Z F ρ σ H) (g : Gr K Z F H F' H') : R K Z F' ρ σ H' := by
  refine ⟨g.b, r.len, fun i s e => ?_, r.apart⟩
  have q := r.slot i s e
  cases s with
  | sh d => obtain ⟨v, e1, e2⟩ := q; exact ⟨v, e1, Rep.ex g.f _ _ e2⟩
  | own ds =>
    obtain ⟨a, vs, e1, e2, e3, e4, e5, e6⟩ := q
    refine ⟨a, vs, e1, g.h a _ e6 e2, Reps.ex g.f _ _ e3, ?_, e5, e6⟩
    cases z : F' a with
    | none => rfl
    | some o =>
      rcases g.n a (by rw [z]; simp) with y | y
      · exact absurd e4 y
      · rw [e2] at y; cases y
  | dic b kvs =>
    obtain ⟨a, vs, e1, e2, e3, e4, e5, e6⟩ := q
    refine ⟨a, vs, e1, g.h a _ e6 e2, e3.ex g.f, ?_, e5, e6⟩
    cases z : F' a with
    | none => rfl
    | some o =>
      rcases g.n a (by rw [z]; simp) with y | y
      · exact absurd e4 y
      · rw [e2] at y; cases y
/-- a new object is laid and frozen -/
theorem Base.lay (b : Base K Z F H) {p : Addr} {o : HO} (h : H p = none) : Gr K Z F H (upd F p o) (upd H p o) := by
  have hF : F p = none := b.fh.none h
  have hrow : Z.rw ≠ some p := fun e => by obtain ⟨_, _, _, _, _, q, _⟩ := b.row p e; rw [h] at q; cases q
  refine ⟨Ex.upd hF, ExR.upd h, ⟨fun a u e => ?_, b.f0.trans (Ex.upd hF), b.hh.trans (ExR.upd h), fun a e => ?_, fun a e => ?_, fun a e => ?_⟩, fun a e => ?_⟩
  · by_cases ha : a = p
    · subst ha; rw [upd_same] at e ⊢; exact e
    · rw [upd_ne ha] at e ⊢; exact b.fh a u e
  · by_cases ha : a = p
    · subst ha
      right
      cases z : Z.H0 a with
      | none => rfl
      | some u => rw [b.hh a u hrow z] at h; cases h
    · rw [upd_ne ha] at e; exact b.new a e
  · obtain ⟨sc, ns, q, m, r, e1, e3, e4⟩ := b.row a e
    refine ⟨sc, ns, q, m, r, ?_, ?_, e4⟩
    · rw [upd_ne (ne_of_none e1 h)]; exact e1
    · exact e3.keep fun o q => by rw [upd_ne (ne_of_none q h)]; exact q
  · rw [upd_ne (fun z : a = p => hrow (by rw [← z]; exact e))]; exact b.frow a e
  · by_cases ha : a = p
    · subst ha; exact .inr h
    · rw [upd_ne ha] at e; exact .inl e
/-- a new object is laid, not frozen -/
theorem Base.lay0 (b : Base K Z F H) {p : Addr} {o : HO} (h : H p = none) : Gr K Z F H F (upd H p o) := by
  have hrow : Z.rw ≠ some p := fun e => by obtain ⟨_, _, _, _, _, q, _⟩ := b.row p e; rw [h] at q; cases q
  refine ⟨Ex.refl F, ExR.upd h, ⟨fun a u e => ?_, b.f0, b.hh.trans (ExR.upd h), b.new, fun a e => ?_, b.frow⟩, fun a e => .inl e⟩
  · have := b.fh a u e
    rw [upd_ne (ne_of_none this h)]; exact this
  · obtain ⟨sc, ns, q, m, r, e1, e3, e4⟩ := b.row a e
    refine ⟨sc, ns, q, m, r, ?_, ?_, e4⟩
    · rw [upd_ne (ne_of_none e1 h)]; exact e1
    · exact e3.keep fun o q => by rw [upd_ne (ne_of_none q h)]; exact q
theorem Base.norow (b : Base K Z F H) {p : Addr} (h : H p = none) : Z.rw ≠ some p := fun e => by obtain ⟨_, _, _, _, _, q, _⟩ := b.row p e; rw [h] at q; cases q
theorem Base.h0 (b : Base K Z F H) {p : Addr} (h : H p = none) : Z.H0 p = none := by
  cases z : Z.H0 p with
  | none => rfl
  | some u => rw [b.hh p u (b.norow h) z] at h; cases h
end

/-! ### readings of values -/
/-- a value that may be looked at now: a datum, or a list that may still change -/
def RepP (K : Kf) (rw : Option Addr) (F H : Hp) (d : D) (v : V) : Prop :=
  Rep K rw F d v ∨ ∃ ds a vs, d = .lst ds ∧ v = .ref a ∧ H a = some (.lst vs) ∧ Reps K rw F ds vs ∧ rw ≠ some a
section
variable {K : Kf} {Z : Zs} {F F' : Hp} {ρ : REnv} {σ : L2.St} {H H' : Hp} {d : D} {v : V}
theorem RepP.gr (h : RepP K Z.rw F H d v) (g : Gr K Z F H F' H') : RepP K Z.rw F' H' d v := by
  rcases h with h | ⟨ds, a, vs, e1, e2, e3, e4, e5⟩
  · exact .inl (Rep.ex g.f _ _ h)
  · exact .inr ⟨ds, a, vs, e1, e2, g.h a _ e5 e3, Reps.ex g.f _ _ e4, e5⟩
theorem RepP.int {rw : Option Addr} {i : Int} (h : RepP K rw F H (.int i) v) : v = .int i := by
  rcases h with h | ⟨ds, a, vs, e1, _⟩
  · exact h
  · cases e1
theorem RepP.bl {rw : Option Addr} {b : Bool} (h : RepP K rw F H (.bl b) v) : v = .bl b := by
  rcases h with h | ⟨ds, a, vs, e1, _⟩
  · exact h
  · cases e1
theorem RepP.str {rw : Option Addr} {x : Str} (h : RepP K rw F H (.str x) v) : v = .str x := by
  rcases h with h | ⟨ds, a, vs, e1, _⟩
  · exact h
  · cases e1
theorem RepP.non {rw : Option Addr} (h : RepP K rw F H .non v) : v = .non := by
  rcases h with h | ⟨ds, a, vs, e1, _⟩
  · exact h
  · cases e1
theorem RepP.tup {ds : List D} (h : RepP K Z.rw F H (.tup ds) v) (b : Base K Z F H) : ∃ a vs, v = .ref a ∧ SqT K H a vs ∧ Reps K Z.rw F ds vs ∧ SqT K F a vs := by
  rcases h with ⟨a, vs, e1, e2, e3⟩ | ⟨ds, a, vs, e1, _⟩
  · exact ⟨a, vs, e1, sqt_ex b.fh e2, e3, e2⟩
  · cases e1
theorem RepP.lst {ds : List D} (h : RepP K Z.rw F H (.lst ds) v) (b : Base K Z F H) : ∃ a vs, v = .ref a ∧ H a = some (.lst vs) ∧ Reps K Z.rw F ds vs ∧ Z.rw ≠ some a := by
  rcases h with ⟨a, vs, e1, e2, e3⟩ | ⟨ds', a, vs, e1, e2, e3, e4, e5⟩
  · exact ⟨a, vs, e1, b.fh a _ e2, e3, fun z => by rw [b.frow a z] at e2; cases e2⟩
  · cases e1; exact ⟨a, vs, e2, e3, e4, e5⟩
end

/-! ### meanings: expressions, tests, argument lists, statements -/
abbrev SE := REnv → (D → Prop) → Prop
abbrev SA := REnv → (List D → Prop) → Prop
abbrev ST := REnv → (Bool → Prop) → Prop
structure Kt where
  nx : REnv → Prop
  rt : D → Prop
  bk : REnv → Prop
  ct : REnv → Prop
abbrev SS := REnv → Kt → Prop
def Kt.le (k l : Kt) : Prop := (∀ ρ, k.nx ρ → l.nx ρ) ∧ (∀ d, k.rt d → l.rt d) ∧ (∀ ρ, k.bk ρ → l.bk ρ) ∧ (∀ ρ, k.ct ρ → l.ct ρ)
def MonoE {α : Type} (f : REnv → (α → Prop) → Prop) : Prop := ∀ ρ (P Q : α → Prop), (∀ d, P d → Q d) → f ρ P → f ρ Q
def MonoS (f : SS) : Prop := ∀ ρ k l, Kt.le k l → f ρ k → f ρ l
def TEof (K : Kf) (f : SE) : TE := fun σ H Q => ∃ Z F ρ, R K Z F ρ σ H ∧ f ρ fun d => ∀ v F' H', Gr K Z F H F' H' → Rep K Z.rw F' d v → Q v H'
def TPof (K : Kf) (f : SE) : TE := fun σ H Q => ∃ Z F ρ, R K Z F ρ σ H ∧ f ρ fun d => ∀ v F' H', Gr K Z F H F' H' → RepP K Z.rw F' H' d v → Q v H'
/-- a new list, not frozen yet -/
def Fresh (Z : Zs) (F : Hp) (ρ : REnv) (σ : L2.St) (p : Addr) : Prop := F p = none ∧ Z.H0 p = none ∧ Z.rw ≠ some p ∧ ∀ (i : Nat) (s : Slot), s.mine = true → ρ[i]? = some (some s) → σ[i]? ≠ some (some (V.ref p))
def TFof (K : Kf) (f : SA) : TE := fun σ H Q => ∃ Z F ρ, R K Z F ρ σ H ∧ f ρ fun ds => ∀ p vs F' H', Gr K Z F H F' H' → H p = none → Fresh Z F' ρ σ p → H' p = some (.lst vs) → Reps K Z.rw F' ds vs → Q (.ref p) H'
def TTof (K : Kf) (f : ST) : TT := fun σ H Q => ∃ Z F ρ, R K Z F ρ σ H ∧ f ρ fun b => ∀ F' H', Gr K Z F H F' H' → Q b H'
def TAof (K : Kf) (f : SA) : TA := fun σ H Q => ∃ Z F ρ, R K Z F ρ σ H ∧ f ρ fun ds => ∀ vs F' H', Gr K Z F H F' H' → Reps K Z.rw F' ds vs → Q vs H'
def kOf (K : Kf) (Z : Zs) (F : Hp) (D' : Ends) : Kt where
  nx ρ := ∀ σ' F' H', Ex F F' → R K Z F' ρ σ' H' → D'.nx σ' H'
  rt d := ∀ v F' H', Ex F F' → Base K Z F' H' → Rep K Z.rw F' d v → D'.rt v H'
  bk ρ := ∀ σ' F' H', Ex F F' → R K Z F' ρ σ' H' → D'.bk σ' H'
  ct ρ := ∀ σ' F' H', Ex F F' → R K Z F' ρ σ' H' → D'.ct σ' H'
def TSof (K : Kf) (f : SS) : TS := fun D' σ H => ∃ Z F ρ, R K Z F ρ σ H ∧ f ρ (kOf K Z F D')
theorem kOf_ex {K : Kf} {Z : Zs} {F F' : Hp} {D' : Ends} (e : Ex F F') : Kt.le (kOf K Z F D') (kOf K Z F' D') :=
  ⟨fun _ h σ' G H' e' r => h σ' G H' (e.trans e') r, fun _ h v G H' e' b r => h v G H' (e.trans e') b r, fun _ h σ' G H' e' r => h σ' G H' (e.trans e') r, fun _ h σ' G H' e' r => h σ' G H' (e.trans e') r⟩
theorem Kt.le.rfl {k : Kt} : Kt.le k k := ⟨fun _ h => h, fun _ h => h, fun _ h => h, fun _ h => h⟩
theorem Kt.le.trans {k l m : Kt} (a : Kt.le k l) (b : Kt.le l m) : Kt.le k m := ⟨fun x h => b.1 x (a.1 x h), fun x h => b.2.1 x (a.2.1 x h), fun x h => b.2.2.1 x (a.2.2.1 x h), fun x h => b.2.2.2 x (a.2.2.2 x h)⟩

structure E (X : Cx) (e : Expr) (f : SE) : Prop where
  mono : MonoE f
  run : PE X e (TEof X.K f)
structure P (X : Cx) (e : Expr) (f : SE) : Prop where
  mono : MonoE f
  run : PE X e (TPof X.K f)
structure F (X : Cx) (e : Expr) (f : SA) : Prop where
  mono : MonoE f
  run : PE X e (TFof X.K f)
structure T (X : Cx) (e : Expr) (f : ST) : Prop where
  mono : MonoE f
  run : PT X e (TTof X.K f)
structure Tw (X : Cx) (e : Expr) (f : ST) : Prop where
  mono : MonoE f
  run : PW X e (TTof X.K f)
structure A (X : Cx) (es : List Expr) (f : SA) : Prop where
  mono : MonoE f
  run : PA X es (TAof X.K f)
  cnt : ∀ ρ Q, f ρ Q → f ρ fun ds => ds.length = es.length ∧ Q ds
structure S (X : Cx) (st : Stmt) (f : SS) : Prop where
  mono : MonoS f
  run : PS X st (TSof X.K f)
structure Ss (X : Cx) (st : List Stmt) (f : SS) : Prop where
  mono : MonoS f
  run : PSs X st (TSof X.K f)

section
variable {X : Cx} {e a b c : Expr} {f g k : SE}
theorem PE.weak {t t' : TE} (h : PE X e t) (hw : ∀ σ H Q, t' σ H Q → t σ H Q) : PE X e t' := ⟨fun pins s σ H Q I q => h.run pins s σ H Q I (hw σ H Q q)⟩
theorem PT.weak {t t' : TT} (h : PT X e t) (hw : ∀ σ H Q, t' σ H Q → t σ H Q) : PT X e t' := ⟨fun pins s σ H Q I q => h.run pins s σ H Q I (hw σ H Q q)⟩
theorem PW.weak {t t' : TT} (h : PW X e t) (hw : ∀ σ H Q, t' σ H Q → t σ H Q) : PW X e t' := ⟨fun wh pins s σ H Q I q => h.run wh pins s σ H Q I (hw σ H Q q)⟩
theorem PA.weak {es : List Expr} {t t' : TA} (h : PA X es t) (hw : ∀ σ H Q, t' σ H Q → t σ H Q) : PA X es t' := ⟨fun pos pins s σ H Q I q => h.run pos pins s σ H Q I (hw σ H Q q)⟩
theorem PS.weak {st : Stmt} {t t' : TS} (h : PS X st t) (hw : ∀ D σ H, t' D σ H → t D σ H) : PS X st t' := ⟨fun pins s σ H D I q => h.run pins s σ H D I (hw D σ H q)⟩
theorem PSs.weak {st : List Stmt} {t t' : TS} (h : PSs X st t) (hw : ∀ D σ H, t' D σ H → t D σ H) : PSs X st t' := ⟨fun pins s σ H D I q => h.run pins s σ H D I (hw D σ H q)⟩

theorem E.p (h : E X e f) : P X e f := ⟨h.mono, PE.weak h.run fun σ H Q ⟨Z, F, ρ, r, q⟩ => ⟨Z, F, ρ, r, h.mono ρ _ _ (fun d hd v F' H' g rep => hd v F' H' g (.inl rep)) q⟩⟩
/-- freeze a new list -/
theorem freeze {K : Kf} {Z : Zs} {F G : Hp} {ρ : REnv} {σ : L2.St} {H H' : Hp} {p : Addr} {vs : List V} (r : R K Z F ρ σ H) (g : Gr K Z F H G H') (fr : Fresh Z G ρ σ p) (hp : H' p = some (.lst vs)) (h0 : H p = none) : Gr K Z F H (upd G p (.lst vs)) H' := by
  obtain ⟨f1, f2, f3, f4⟩ := fr
  refine ⟨g.f.trans (Ex.upd f1), g.h, ⟨fun a u e => ?_, g.b.f0.trans (Ex.upd f1), g.b.hh, fun a e => ?_, g.b.row, fun a e => ?_⟩, fun a e => ?_⟩
  · by_cases ha : a = p
    · subst ha; rw [upd_same] at e; cases e; exact hp
    · rw [upd_ne ha] at e; exact g.b.fh a u e
  · by_cases ha : a = p
    · subst ha; exact .inr f2
    · rw [upd_ne ha] at e; exact g.b.new a e
  · rw [upd_ne (fun z : a = p => f3 (by rw [← z]; exact e))]; exact g.b.frow a e
  · by_cases ha : a = p
    · subst ha; exact .inr h0
    · rw [upd_ne ha] at e; exact g.n a e
end

section
variable {X : Cx} {e a b c : Expr} {f g k : SE} {pos : Pos}
theorem E.ofF {f : SA} (h : F X e f) : E X e (fun ρ Q => f ρ fun ds => Q (.lst ds)) :=
  ⟨fun ρ P Q hpq q => h.mono ρ _ _ (fun ds hd => hpq _ hd) q,
   PE.weak h.run fun σ H Q ⟨Z, F, ρ, r, q⟩ => ⟨Z, F, ρ, r, h.mono ρ _ _ (fun ds hd p vs F' H' g h0 fr hp rs => by
     have g2 := freeze r g fr hp h0
     refine hd (.ref p) _ H' g2 ⟨p, vs, rfl, upd_same, Reps.ex (Ex.upd fr.1) _ _ rs⟩) q⟩⟩
theorem P.ofF {f : SA} (h : F X e f) : P X e (fun ρ Q => f ρ fun ds => Q (.lst ds)) := (E.ofF h).p

/-! ### names, constants -/
def varE (i : Nat) : SE := fun ρ Q => match ρ[i]? with
  | some (some (Slot.sh d)) => Q d
  | _ => False
def varP (i : Nat) : SE := fun ρ Q => match ρ[i]? with
  | some (some (Slot.sh d)) => Q d
  | some (some (Slot.own ds)) => Q (.lst ds)
  | _ => False
theorem varE_mono (i : Nat) : MonoE (varE i) := fun ρ P Q h q => by
  unfold varE at *
  split at q
  · exact h _ q
  · exact q.elim
theorem varP_mono (i : Nat) : MonoE (varP i) := fun ρ P Q h q => by
  unfold varP at *
  split at q
  · exact h _ q
  · exact h _ q
  · exact q.elim
theorem E.var (i : Nat) (h : PE X e (tVar i)) : E X e (varE i) := ⟨varE_mono i, PE.weak h fun σ H Q ⟨Z, F, ρ, r, q⟩ => by
  unfold varE at q
  split at q
  · rename_i d hd
    obtain ⟨v, e1, e2⟩ := r.slot i _ hd
    exact ⟨v, e1, q v F H (Gr.refl r.base) e2⟩
  · exact q.elim⟩
theorem P.var (i : Nat) (h : PE X e (tVar i)) : P X e (varP i) := ⟨varP_mono i, PE.weak h fun σ H Q ⟨Z, F, ρ, r, q⟩ => by
  unfold varP at q
  split at q
  · rename_i d hd
    obtain ⟨v, e1, e2⟩ := r.slot i _ hd
    exact ⟨v, e1, q v F H (Gr.refl r.base) (.inl e2)⟩
  · rename_i ds hd
    obtain ⟨a, vs, e1, e2, e3, _, _, e6⟩ := r.slot i _ hd
    exact ⟨_, e1, q _ F H (Gr.refl r.base) (.inr ⟨ds, a, vs, rfl, rfl, e2, e3, e6⟩)⟩
  · exact q.elim⟩
def cE (d : D) : SE := fun _ Q => Q d
theorem E.cst {d : D} {v : V} (hd : ∀ K rw F, Rep K rw F d v) (h : PE X e (tC v)) : E X e (cE d) := ⟨fun _ _ _ h q => h _ q, PE.weak h fun σ H Q ⟨Z, F, ρ, r, q⟩ => q v F H (Gr.refl r.base) (hd _ _ _)⟩
theorem E.int {i : Int} {j : Nat} : E X (.Constant (.int i) j pos) (cE (.int i)) := E.cst (fun _ _ _ => rfl) pe_int
theorem E.bl {b : Bool} {j : Nat} : E X (.Constant (.bool b) j pos) (cE (.bl b)) := E.cst (fun _ _ _ => rfl) pe_bl
theorem E.non {j : Nat} : E X (.Constant .none j pos) (cE .non) := E.cst (fun _ _ _ => rfl) pe_non
theorem E.str {x : Str} {j : Nat} : E X (.Constant (.str x) j pos) (cE (.str x)) := E.cst (fun _ _ _ => rfl) pe_str
/-- a constant of the module -/
theorem E.glob {x : Str} {d : D} {v : V} {u : Value} (hd : ∀ rw F, Rep X.K rw F d v) (hg : Gl X x) (hm : X.mg x = some u) (r : RelV v u) (hdb : (x == ("__debug__" : Str)) = false := by decide) : E X (.Name x pos) (cE d) :=
  ⟨fun _ _ _ h q => h _ q, PE.weak (pe_glob hg hm r hdb) fun σ H Q ⟨Z, F, ρ, r, q⟩ => q v F H (Gr.refl r.base) (hd _ _)⟩

/-! ### operators by values -/
abbrev O1 := D → (D → Prop) → Prop
abbrev O2 := D → D → (D → Prop) → Prop
def Mono1 (o : O1) : Prop := ∀ x (P Q : D → Prop), (∀ d, P d → Q d) → o x P → o x Q
def Mono2 (o : O2) : Prop := ∀ x y (P Q : D → Prop), (∀ d, P d → Q d) → o x y P → o x y Q
def OpS (K : Kf) (r : R2) (o : O2) : Prop := ∀ (Z : Zs) (F H : Hp) (dx dy : D) (x y : V) (Q : VK), Base K Z F H → RepP K Z.rw F H dx x → RepP K Z.rw F H dy y →
  (o dx dy fun d => ∀ v F' H', Gr K Z F H F' H' → Rep K Z.rw F' d v → Q v H') → r x y H Q
def UnS (K : Kf) (r : V → Hp → VK → Prop) (o : O1) : Prop := ∀ (Z : Zs) (F H : Hp) (dx : D) (x : V) (Q : VK), Base K Z F H → RepP K Z.rw F H dx x →
  (o dx fun d => ∀ v F' H', Gr K Z F H F' H' → Rep K Z.rw F' d v → Q v H') → r x H Q
def sOp (o : O2) (f g : SE) : SE := fun ρ Q => f ρ fun x => g ρ fun y => o x y Q
def sUn (o : O1) (f : SE) : SE := fun ρ Q => f ρ fun x => o x Q
theorem sOp_mono {o : O2} (mo : Mono2 o) (mf : MonoE f) (mg : MonoE g) : MonoE (sOp o f g) := fun ρ P Q h q => mf ρ _ _ (fun x hx => mg ρ _ _ (fun y hy => mo x y _ _ h hy) hx) q
theorem sUn_mono {o : O1} (mo : Mono1 o) (mf : MonoE f) : MonoE (sUn o f) := fun ρ P Q h q => mf ρ _ _ (fun x hx => mo x _ _ h hx) q
theorem op_tp {K : Kf} {r : R2} {o : O2} (hs : OpS K r o) (mo : Mono2 o) (mf : MonoE f) (mg : MonoE g) : ∀ σ H Q, TEof K (sOp o f g) σ H Q → tOp r (TPof K f) (TPof K g) σ H Q := fun σ H Q ⟨Z, F, ρ, r, q⟩ =>
  ⟨Z, F, ρ, r, mf ρ _ _ (fun x hx v F1 H1 g1 rp => ⟨Z, F1, ρ, r.grow g1, mg ρ _ _ (fun y hy u F2 H2 g2 rq => hs Z F2 H2 x y v u Q g2.b (rp.gr g2) rq
    (mo _ _ _ _ (fun d hd w F3 H3 g3 rep => hd w F3 H3 ((g1.trans g2).trans g3) rep) hy)) hx⟩) q⟩
theorem E.op {op : Operator} {r : R2} {o : O2} (ho : OpR X (binaryOp op) r) (hs : OpS X.K r o) (mo : Mono2 o) (ha : P X a f) (hb : P X b g) : E X (.BinOp a op b pos) (sOp o f g) :=
  ⟨sOp_mono mo ha.mono hb.mono, PE.weak (pe_op ho ha.run hb.run) (op_tp hs mo ha.mono hb.mono)⟩
theorem E.cmp {op : CmpOp} {r : R2} {o : O2} (ho : OpR X (compareOp op) r) (hs : OpS X.K r o) (mo : Mono2 o) (hm : behindInMarks op b = false) (ha : P X a f) (hb : P X b g) : E X (.Compare a [op] [b] pos) (sOp o f g) :=
  ⟨sOp_mono mo ha.mono hb.mono, PE.weak (pe_cmpR ho ha.run hb.run hm) (op_tp hs mo ha.mono hb.mono)⟩
theorem E.un {op : UnaryOp} {r : V → Hp → VK → Prop} {o : O1} (ho : UnR X (unaryOp op) r) (hs : UnS X.K r o) (mo : Mono1 o) (ha : P X a f) : E X (.UnaryOp op a pos) (sUn o f) :=
  ⟨sUn_mono mo ha.mono, PE.weak (pe_un ho ha.run) fun σ H Q ⟨Z, F, ρ, r, q⟩ => ⟨Z, F, ρ, r, ha.mono ρ _ _ (fun x hx v F1 H1 g1 rp => hs Z F1 H1 x v Q g1.b rp (mo _ _ _ (fun d hd w F3 H3 g3 rep => hd w F3 H3 (g1.trans g3) rep) hx)) q⟩⟩
/-- a bool's value as a test -/
def tV (f : SE) : ST := fun ρ Q => f ρ fun d => match d with
  | .bl b => Q b
  | _ => False
theorem tV_mono (mf : MonoE f) : MonoE (tV f) := fun ρ P Q h q => mf ρ _ _ (fun d hd => by
  cases d with
  | bl b => exact h b hd
  | _ => exact hd) q
theorem T.cmp {op : CmpOp} {r : R2} {o : O2} (ho : OpR X (compareOp op) r) (hs : OpS X.K r o) (mo : Mono2 o) (hm : behindInMarks op b = false) (ha : P X a f) (hb : P X b g) : T X (.Compare a [op] [b] pos) (tV (sOp o f g)) :=
  ⟨tV_mono (sOp_mono mo ha.mono hb.mono), PT.weak (pt_cmpR ho ha.run hb.run hm) fun σ H Q ⟨Z, F, ρ, r, q⟩ => op_tp hs mo ha.mono hb.mono σ H _ ⟨Z, F, ρ, r, sOp_mono mo ha.mono hb.mono ρ _ _ (fun d hd v F' H' g rep => by
    cases d with
    | bl b => exact ⟨b, rep, hd F' H' g⟩
    | _ => exact hd.elim) q⟩⟩
theorem T.val (h : E X e f) (he : ∀ whole, isTrue e X.env whole = (do let v ← whole; standAt e.pos; holding [v] (truthy v)) := by intro _; rfl) : T X e (tV f) :=
  ⟨tV_mono h.mono, PT.weak (pt_val h.run he) fun σ H Q ⟨Z, F, ρ, r, q⟩ => ⟨Z, F, ρ, r, h.mono ρ _ _ (fun d hd v F' H' g rep => by
    cases d with
    | bl b => exact ⟨b, rep, hd F' H' g⟩
    | _ => exact hd.elim) q⟩⟩

/-! ### and, or, not -/
def br (b : Bool) (p q : Prop) : Prop := match b with
  | true => p
  | false => q
theorem br_imp {b : Bool} {p q p' q' : Prop} (h : br b p q) (h1 : p → p') (h2 : q → q') : br b p' q' := by
  cases b with
  | true => exact h1 h
  | false => exact h2 h
theorem br_ite {b : Bool} {p q : Prop} (h : br b p q) : if b = true then p else q := by
  cases b with
  | true => rw [if_pos rfl]; exact h
  | false => rw [if_neg (by decide)]; exact h
def andT (f g : ST) : ST := fun ρ Q => f ρ fun b => br b (g ρ Q) (Q false)
def orT (f g : ST) : ST := fun ρ Q => f ρ fun b => br b (Q true) (g ρ Q)
def notT (f : ST) : ST := fun ρ Q => f ρ fun b => Q (!b)
theorem andT_mono {f g : ST} (mf : MonoE f) (mg : MonoE g) : MonoE (andT f g) := fun ρ P Q h q => mf ρ _ _ (fun b hb => br_imp hb (fun z => mg ρ _ _ h z) (h _)) q
theorem orT_mono {f g : ST} (mf : MonoE f) (mg : MonoE g) : MonoE (orT f g) := fun ρ P Q h q => mf ρ _ _ (fun b hb => br_imp hb (h _) (fun z => mg ρ _ _ h z)) q
theorem Tw.and1 {f : ST} (ha : T X a f) : Tw X (.BoolOp .And [a] pos) f := ⟨ha.mono, pw_and1 ha.run⟩
theorem Tw.or1 {f : ST} (ha : T X a f) : Tw X (.BoolOp .Or [a] pos) f := ⟨ha.mono, pw_or1 ha.run⟩
variable {rest : List Expr}
theorem Tw.and {f g : ST} (ha : T X a f) (hb : Tw X (.BoolOp .And (b :: rest) pos) g) : Tw X (.BoolOp .And (a :: b :: rest) pos) (andT f g) :=
  ⟨andT_mono ha.mono hb.mono, PW.weak (pw_and ha.run hb.run) fun σ H Q ⟨Z, F, ρ, r, q⟩ => ⟨Z, F, ρ, r, ha.mono ρ _ _ (fun b hb' F' H' g1 => br_ite (br_imp hb' (fun z => ⟨Z, F', ρ, r.grow g1, hb.mono ρ _ _ (fun c hc F2 H2 g2 => hc F2 H2 (g1.trans g2)) z⟩) (fun z => z F' H' g1))) q⟩⟩
theorem Tw.or {f g : ST} (ha : T X a f) (hb : Tw X (.BoolOp .Or (b :: rest) pos) g) : Tw X (.BoolOp .Or (a :: b :: rest) pos) (orT f g) :=
  ⟨orT_mono ha.mono hb.mono, PW.weak (pw_or ha.run hb.run) fun σ H Q ⟨Z, F, ρ, r, q⟩ => ⟨Z, F, ρ, r, ha.mono ρ _ _ (fun b hb' F' H' g1 => br_ite (br_imp hb' (fun z => z F' H' g1) (fun z => ⟨Z, F', ρ, r.grow g1, hb.mono ρ _ _ (fun c hc F2 H2 g2 => hc F2 H2 (g1.trans g2)) z⟩))) q⟩⟩
theorem Tw.t {f : ST} (h : Tw X e f) : T X e f := ⟨h.mono, h.run.pt⟩
theorem T.not {f : ST} (ha : T X a f) : T X (.UnaryOp .Not a pos) (notT f) := ⟨fun ρ P Q h q => ha.mono ρ _ _ (fun b hb => h _ hb) q, PT.weak (pt_not ha.run) fun σ H Q ⟨Z, F, ρ, r, q⟩ => ⟨Z, F, ρ, r, ha.mono ρ _ _ (fun b hb F' H' g => hb F' H' g) q⟩⟩
/-- .. as values (bools) -/
def vB (f : ST) : SE := fun ρ Q => f ρ fun b => Q (.bl b)
theorem vB_mono {f : ST} (mf : MonoE f) : MonoE (vB f) := fun ρ P Q h q => mf ρ _ _ (fun b hb => h _ hb) q
/-- an expression whose value is a bool -/
structure B (X : Cx) (e : Expr) (f : ST) : Prop where
  mono : MonoE f
  run : PE X e (TEof X.K (vB f))
theorem B.of {f : SE} (h : E X e f) : B X e (tV f) := ⟨tV_mono h.mono, PE.weak h.run fun σ H Q ⟨Z, F, ρ, r, q⟩ => ⟨Z, F, ρ, r, h.mono ρ _ _ (fun d hd v F' H' g rep => by
    cases d with
    | bl b => exact hd v F' H' g rep
    | _ => exact hd.elim) q⟩⟩
theorem B.val {f : ST} (h : B X e f) : E X e (vB f) := ⟨vB_mono h.mono, h.run⟩
theorem B.one {f : ST} {op} (h : B X a f) : B X (.BoolOp op [a] pos) f := ⟨h.mono, pe_one h.run⟩
theorem B.and {f g : ST} (ha : B X a f) (hb : B X (.BoolOp .And (b :: rest) pos) g) : B X (.BoolOp .And (a :: b :: rest) pos) (andT f g) :=
  ⟨andT_mono ha.mono hb.mono, PE.weak (pe_and ha.run hb.run) fun σ H Q ⟨Z, F, ρ, r, q⟩ => ⟨Z, F, ρ, r, ha.mono ρ _ _ (fun b hb' v F' H' g1 rep => ⟨b, rep, br_ite (br_imp hb' (fun z => ⟨Z, F', ρ, r.grow g1, hb.mono ρ _ _ (fun c hc v F2 H2 g2 rep => hc v F2 H2 (g1.trans g2) rep) z⟩) (fun z => z _ F' H' g1 rfl))⟩) q⟩⟩
theorem B.or {f g : ST} (ha : B X a f) (hb : B X (.BoolOp .Or (b :: rest) pos) g) : B X (.BoolOp .Or (a :: b :: rest) pos) (orT f g) :=
  ⟨orT_mono ha.mono hb.mono, PE.weak (pe_or ha.run hb.run) fun σ H Q ⟨Z, F, ρ, r, q⟩ => ⟨Z, F, ρ, r, ha.mono ρ _ _ (fun b hb' v F' H' g1 rep => ⟨b, rep, br_ite (br_imp hb' (fun z => z _ F' H' g1 rfl) (fun z => ⟨Z, F', ρ, r.grow g1, hb.mono ρ _ _ (fun c hc v F2 H2 g2 rep => hc v F2 H2 (g1.trans g2) rep) z⟩))⟩) q⟩⟩
theorem B.not {f : ST} (ha : B X a f) : B X (.UnaryOp .Not a pos) (notT f) := ⟨fun ρ P Q h q => ha.mono ρ _ _ (fun b hb => h _ hb) q, PE.weak (pe_not ha.run) fun σ H Q ⟨Z, F, ρ, r, q⟩ => ⟨Z, F, ρ, r, ha.mono ρ _ _ (fun b hb v F' H' g rep => ⟨b, rep, hb _ F' H' g rfl⟩) q⟩⟩
def ifE (t : ST) (f g : SE) : SE := fun ρ Q => t ρ fun b => br b (f ρ Q) (g ρ Q)
theorem E.ifx {t : ST} (ht : T X c t) (ha : E X a f) (hb : E X b g) : E X (.IfExp c a b pos) (ifE t f g) :=
  ⟨fun ρ P Q h q => ht.mono ρ _ _ (fun b z => br_imp z (ha.mono ρ _ _ h) (hb.mono ρ _ _ h)) q, PE.weak (pe_ifExp ht.run ha.run hb.run) fun σ H Q ⟨Z, F, ρ, r, q⟩ => ⟨Z, F, ρ, r, ht.mono ρ _ _ (fun b z F' H' g1 => br_ite (br_imp z
    (fun z => ⟨Z, F', ρ, r.grow g1, ha.mono ρ _ _ (fun d hd v F2 H2 g2 rep => hd v F2 H2 (g1.trans g2) rep) z⟩) (fun z => ⟨Z, F', ρ, r.grow g1, hb.mono ρ _ _ (fun d hd v F2 H2 g2 rep => hd v F2 H2 (g1.trans g2) rep) z⟩))) q⟩⟩
/-- a < b < c -/
def chE (o o' : O2) (f g k : SE) : ST := fun ρ Q => f ρ fun x => g ρ fun y => o x y fun d => match d with
  | .bl b => br b (k ρ fun z => o' y z fun d' => match d' with
    | .bl b' => Q b'
    | _ => False) (Q false)
  | _ => False

/-! ### argument lists, displays -/
def nilA : SA := fun _ Q => Q []
def consA (f : SE) (g : SA) : SA := fun ρ Q => f ρ fun x => g ρ fun xs => Q (x :: xs)
theorem A.nil : A X [] nilA := ⟨fun _ _ _ h q => h _ q, PA.weak pa_nil fun σ H Q ⟨Z, F, ρ, r, q⟩ => q [] F H (Gr.refl r.base) rfl, fun _ _ q => ⟨rfl, q⟩⟩
theorem A.cons {es : List Expr} {g : SA} (ha : E X e f) (hr : A X es g) (hs : starEach (e :: es) X.env = (false, eval e X.env) :: starEach es X.env := by rfl) : A X (e :: es) (consA f g) :=
  ⟨fun ρ P Q h q => ha.mono ρ _ _ (fun x hx => hr.mono ρ _ _ (fun xs hxs => h _ hxs) hx) q, PA.weak (pa_cons ha.run hr.run hs) fun σ H Q ⟨Z, F, ρ, r, q⟩ => ⟨Z, F, ρ, r, ha.mono ρ _ _ (fun x hx v F1 H1 g1 rep => ⟨Z, F1, ρ, r.grow g1, hr.mono ρ _ _ (fun xs hxs vs F2 H2 g2 reps => hxs (v :: vs) F2 H2 (g1.trans g2) ⟨v, vs, rfl, Rep.ex g2.f _ _ rep, reps⟩) hx⟩) q⟩,
   fun ρ Q q => ha.mono ρ _ _ (fun x hx => hr.mono ρ _ _ (fun xs hxs => ⟨by rw [List.length_cons, List.length_cons, hxs.1], hxs.2⟩) (hr.cnt ρ _ hx)) q⟩
def tupE (f : SA) : SE := fun ρ Q => f ρ fun ds => ds.length ≤ big ∧ Q (.tup ds)
def lstF (f : SA) : SA := fun ρ Q => f ρ fun ds => ds.length ≤ big ∧ Q ds
theorem E.tup {es : List Expr} {f : SA} {x1} (h : A X es f) : E X (.Tuple es x1 pos) (tupE f) :=
  ⟨fun ρ P Q hpq q => h.mono ρ _ _ (fun ds hd => ⟨hd.1, hpq _ hd.2⟩) q, PE.weak (pe_tup h.run) fun σ H Q ⟨Z, F, ρ, r, q⟩ => ⟨Z, F, ρ, r, h.mono ρ _ _ (fun ds hd vs F1 H1 g1 reps => ⟨by rw [reps.length]; exact big_line hd.1, fun p hp =>
    hd.2 (.ref p) _ _ (g1.trans (g1.b.lay hp)) ⟨p, vs, rfl, .inl (.inl upd_same), Reps.ex (Ex.upd (g1.b.fh.none hp)) _ _ reps⟩⟩) q⟩⟩
theorem own_ne {K : Kf} {Z : Zs} {F H : Hp} {ρ : REnv} {σ : L2.St} (r : R K Z F ρ σ H) {p : Addr} (hp : H p = none) : ∀ (i : Nat) (s : Slot), s.mine = true → ρ[i]? = some (some s) → σ[i]? ≠ some (some (V.ref p)) := fun i s hm e z => by
  cases s with
  | sh d => cases hm
  | own ds =>
    obtain ⟨a, vs, e1, e2, _⟩ := r.slot i _ e
    rw [z] at e1
    cases e1
    rw [hp] at e2
    cases e2
  | dic b kvs =>
    obtain ⟨a, vs, e1, e2, _⟩ := r.slot i _ e
    rw [z] at e1
    cases e1
    rw [hp] at e2
    cases e2
theorem fresh_of {K : Kf} {Z : Zs} {F H F1 H1 : Hp} {ρ : REnv} {σ : L2.St} (r : R K Z F ρ σ H) (g1 : Gr K Z F H F1 H1) {p : Addr} (hp : H1 p = none) : Fresh Z F1 ρ σ p :=
  ⟨g1.b.fh.none hp, g1.b.h0 hp, g1.b.norow hp, own_ne (r.grow g1) hp⟩
theorem back_none {K : Kf} {Z : Zs} {F H F1 H1 : Hp} (b : Base K Z F H) (g1 : Gr K Z F H F1 H1) {p : Addr} (hp : H1 p = none) : H p = none := by
  cases e : H p with
  | none => rfl
  | some o => rw [g1.h p o (g1.b.norow hp) e] at hp; cases hp
theorem F.lst {es : List Expr} {f : SA} (h : A X es f) : F X (.List es pos) (lstF f) :=
  ⟨fun ρ P Q hpq q => h.mono ρ _ _ (fun ds hd => ⟨hd.1, hpq _ hd.2⟩) q, PE.weak (pe_lst h.run) fun σ H Q ⟨Z, F, ρ, r, q⟩ => ⟨Z, F, ρ, r, h.mono ρ _ _ (fun ds hd vs F1 H1 g1 reps => ⟨by rw [reps.length]; exact big_line hd.1, fun p hp =>
    hd.2 p vs F1 _ (g1.trans (g1.b.lay0 hp)) (back_none r.base g1 hp) (fresh_of r g1 hp) upd_same reps⟩) q⟩⟩

/-! ### chains of two comparisons -/
def bOf (Q : Bool → Prop) (d : D) : Prop := match d with
  | .bl b => Q b
  | _ => False
theorem bOf_mono {P Q : Bool → Prop} (h : ∀ b, P b → Q b) : ∀ d, bOf P d → bOf Q d := fun d q => by
  cases d with
  | bl b => exact h b q
  | _ => exact q.elim
def chT (o o' : O2) (f g k : SE) : ST := fun ρ Q => f ρ fun x => g ρ fun y => o x y (bOf fun b => br b (k ρ fun z => o' y z (bOf Q)) (Q false))
theorem chT_mono {o o' : O2} (mo : Mono2 o) (mo' : Mono2 o') (mf : MonoE f) (mg : MonoE g) (mk : MonoE k) : MonoE (chT o o' f g k) := fun ρ P Q h q =>
  mf ρ _ _ (fun x hx => mg ρ _ _ (fun y hy => mo x y _ _ (bOf_mono fun b hb => br_imp hb (fun z => mk ρ _ _ (fun z hz => mo' y z _ _ (bOf_mono h) hz) z) (h _)) hy) hx) q
theorem ch_tp {K : Kf} {r r' : R2} {o o' : O2} (hs : OpS K r o) (hs' : OpS K r' o') (mo : Mono2 o) (mo' : Mono2 o') (mf : MonoE f) (mg : MonoE g) (mk : MonoE k) :
    ∀ σ H Q, TEof K (vB (chT o o' f g k)) σ H Q → tChain r r' (TPof K f) (TPof K g) (TPof K k) σ H Q := fun σ H Q ⟨Z, F, ρ, r, q⟩ =>
  ⟨Z, F, ρ, r, mf ρ _ _ (fun x hx v F1 H1 g1 rp => ⟨Z, F1, ρ, r.grow g1, mg ρ _ _ (fun y hy u F2 H2 g2 rq => hs Z F2 H2 x y v u _ g2.b (rp.gr g2) rq
    (mo _ _ _ _ (fun d hd w F3 H3 g3 rep => by
      cases d with
      | bl b => exact ⟨b, rep, br_ite (br_imp hd (fun z => ⟨Z, F3, ρ, r.grow ((g1.trans g2).trans g3), mk ρ _ _ (fun z hz w' F4 H4 g4 rz => hs' Z F4 H4 y z u w' Q g4.b ((rq.gr g3).gr g4) rz (mo' _ _ _ _ (fun d' hd' w2 F5 H5 g5 rep' => by
          cases d' with
          | bl b' => exact hd' w2 F5 H5 ((((g1.trans g2).trans g3).trans g4).trans g5) rep'
          | _ => exact hd'.elim) hz)) z⟩) (fun z => z _ F3 H3 ((g1.trans g2).trans g3) rfl))⟩
      | _ => exact hd.elim) hy)) hx⟩) q⟩
theorem B.chain {op op' : CmpOp} {r r' : R2} {o o' : O2} (ho : OpR X (compareOp op) r) (ho' : OpR X (compareOp op') r') (hs : OpS X.K r o) (hs' : OpS X.K r' o') (mo : Mono2 o) (mo' : Mono2 o') (h1 : behindInMarks op b = false) (h2 : behindInMarks op' c = false)
    (ha : P X a f) (hb : P X b g) (hc : P X c k) (hp : PE X (.Compare a [op, op'] [b, c] pos) (tChain r r' (TPof X.K f) (TPof X.K g) (TPof X.K k))) : B X (.Compare a [op, op'] [b, c] pos) (chT o o' f g k) :=
  ⟨chT_mono mo mo' ha.mono hb.mono hc.mono, PE.weak hp (ch_tp hs hs' mo mo' ha.mono hb.mono hc.mono)⟩
theorem T.chain {op op' : CmpOp} {r r' : R2} {o o' : O2} (hs : OpS X.K r o) (hs' : OpS X.K r' o') (mo : Mono2 o) (mo' : Mono2 o')
    (ha : P X a f) (hb : P X b g) (hc : P X c k) (hp : PT X (.Compare a [op, op'] [b, c] pos) (tTest (tChain r r' (TPof X.K f) (TPof X.K g) (TPof X.K k)))) : T X (.Compare a [op, op'] [b, c] pos) (chT o o' f g k) :=
  ⟨chT_mono mo mo' ha.mono hb.mono hc.mono, PT.weak hp fun σ H Q ⟨Z, F, ρ, r, q⟩ => ch_tp hs hs' mo mo' ha.mono hb.mono hc.mono σ H _ ⟨Z, F, ρ, r, chT_mono mo mo' ha.mono hb.mono hc.mono ρ _ _ (fun b hb v F' H' g1 rep => ⟨b, rep, hb F' H' g1⟩) q⟩⟩
/-- a bool-valued expression as a test -/
theorem T.ofB {f : ST} (h : B X e f) (he : ∀ whole, isTrue e X.env whole = (do let v ← whole; standAt e.pos; holding [v] (truthy v)) := by intro _; rfl) : T X e f :=
  ⟨h.mono, PT.weak (pt_val h.run he) fun σ H Q ⟨Z, F, ρ, r, q⟩ => ⟨Z, F, ρ, r, h.mono ρ _ _ (fun b hb v F' H' g rep => ⟨b, rep, hb F' H' g⟩) q⟩⟩

/-! ### arguments that are only looked at -/
inductive RepPs (K : Kf) (rw : Option Addr) (F H : Hp) : List D → List V → Prop
  | nil : RepPs K rw F H [] []
  | cons {d : D} {v : V} {ds : List D} {vs : List V} : RepP K rw F H d v → RepPs K rw F H ds vs → RepPs K rw F H (d :: ds) (v :: vs)
def TQof (K : Kf) (f : SA) : TA := fun σ H Q => ∃ Z F ρ, R K Z F ρ σ H ∧ f ρ fun ds => ∀ vs F' H', Gr K Z F H F' H' → RepPs K Z.rw F' H' ds vs → Q vs H'
structure Ap (X : Cx) (es : List Expr) (f : SA) : Prop where
  mono : MonoE f
  run : PA X es (TQof X.K f)
theorem Ap.nil : Ap X [] nilA := ⟨fun _ _ _ h q => h _ q, PA.weak pa_nil fun σ H Q ⟨Z, F, ρ, r, q⟩ => q [] F H (Gr.refl r.base) .nil⟩
theorem Ap.cons {es : List Expr} {g : SA} (ha : P X e f) (hr : Ap X es g) (hs : starEach (e :: es) X.env = (false, eval e X.env) :: starEach es X.env := by rfl) : Ap X (e :: es) (consA f g) :=
  ⟨fun ρ P Q h q => ha.mono ρ _ _ (fun x hx => hr.mono ρ _ _ (fun xs hxs => h _ hxs) hx) q, PA.weak (pa_cons ha.run hr.run hs) fun σ H Q ⟨Z, F, ρ, r, q⟩ => ⟨Z, F, ρ, r, ha.mono ρ _ _ (fun x hx v F1 H1 g1 rep => ⟨Z, F1, ρ, r.grow g1, hr.mono ρ _ _ (fun xs hxs vs F2 H2 g2 reps => hxs (v :: vs) F2 H2 (g1.trans g2) (.cons (rep.gr g2) reps)) hx⟩) q⟩⟩
abbrev OC := List D → (D → Prop) → Prop
def MonoC (o : OC) : Prop := ∀ x (P Q : D → Prop), (∀ d, P d → Q d) → o x P → o x Q
def CallS (K : Kf) (r : List V → Hp → VK → Prop) (o : OC) : Prop := ∀ (Z : Zs) (F H : Hp) (ds : List D) (vs : List V) (Q : VK), Base K Z F H → RepPs K Z.rw F H ds vs →
  (o ds fun d => ∀ v F' H', Gr K Z F H F' H' → Rep K Z.rw F' d v → Q v H') → r vs H Q
def callE (o : OC) (f : SA) : SE := fun ρ Q => f ρ fun ds => o ds Q
theorem callE_mono {o : OC} {f : SA} (mo : MonoC o) (mf : MonoE f) : MonoE (callE o f) := fun ρ P Q h q => mf ρ _ _ (fun x hx => mo x _ _ h hx) q
theorem cb_tp {K : Kf} {r : List V → Hp → VK → Prop} {o : OC} {f : SA} (hs : CallS K r o) (mo : MonoC o) (mf : MonoE f) : ∀ σ H Q, TEof K (callE o f) σ H Q → tCB r (TQof K f) σ H Q := fun σ H Q ⟨Z, F, ρ, r, q⟩ =>
  ⟨Z, F, ρ, r, mf ρ _ _ (fun ds hd vs F1 H1 g1 rp => hs Z F1 H1 ds vs Q g1.b rp (mo _ _ _ (fun d hd w F3 H3 g3 rep => hd w F3 H3 (g1.trans g3) rep) hd)) q⟩
theorem E.callB {r : List V → Hp → VK → Prop} {o : OC} {f : SA} {es : List Expr} (hs : CallS X.K r o) (mo : MonoC o) (ha : Ap X es f) (h : PE X e (tCB r (TQof X.K f))) : E X e (callE o f) :=
  ⟨callE_mono mo ha.mono, PE.weak h (cb_tp hs mo ha.mono)⟩
/-- a call that makes a new list -/
abbrev OF := List D → (List D → Prop) → Prop
def MonoF (o : OF) : Prop := ∀ x (P Q : List D → Prop), (∀ d, P d → Q d) → o x P → o x Q
def CallF (K : Kf) (r : List V → Hp → VK → Prop) (o : OF) : Prop := ∀ (Z : Zs) (F H : Hp) (ds : List D) (vs : List V) (Q : VK), Base K Z F H → RepPs K Z.rw F H ds vs →
  (o ds fun es => ∀ p us, H p = none → Reps K Z.rw F es us → Q (.ref p) (upd H p (.lst us))) → r vs H Q
def callF (o : OF) (f : SA) : SA := fun ρ Q => f ρ fun ds => o ds Q
theorem F.callB {r : List V → Hp → VK → Prop} {o : OF} {f : SA} {es : List Expr} (hs : CallF X.K r o) (mo : MonoF o) (ha : Ap X es f) (h : PE X e (tCB r (TQof X.K f))) : F X e (callF o f) :=
  ⟨fun ρ P Q h q => ha.mono ρ _ _ (fun x hx => mo x _ _ h hx) q, PE.weak h fun σ H Q ⟨Z, F, ρ, r, q⟩ => ⟨Z, F, ρ, r, ha.mono ρ _ _ (fun ds hd vs F1 H1 g1 rp => hs Z F1 H1 ds vs Q g1.b rp (mo _ _ _ (fun es hd p us hp reps =>
    hd p us F1 _ (g1.trans (g1.b.lay0 hp)) (back_none r.base g1 hp) (fresh_of r g1 hp) upd_same reps) hd)) q⟩⟩
/-- a two-place operation that makes a new list -/
abbrev OF2 := D → D → (List D → Prop) → Prop
def MonoF2 (o : OF2) : Prop := ∀ x y (P Q : List D → Prop), (∀ d, P d → Q d) → o x y P → o x y Q
def OpF (K : Kf) (r : R2) (o : OF2) : Prop := ∀ (Z : Zs) (F H : Hp) (dx dy : D) (x y : V) (Q : VK), Base K Z F H → RepP K Z.rw F H dx x → RepP K Z.rw F H dy y →
  (o dx dy fun es => ∀ p us, H p = none → Reps K Z.rw F es us → Q (.ref p) (upd H p (.lst us))) → r x y H Q
def opF (o : OF2) (f g : SE) : SA := fun ρ Q => f ρ fun x => g ρ fun y => o x y Q
theorem F.op {op : Operator} {r : R2} {o : OF2} (ho : OpR X (binaryOp op) r) (hs : OpF X.K r o) (mo : MonoF2 o) (ha : P X a f) (hb : P X b g) : F X (.BinOp a op b pos) (opF o f g) :=
  ⟨fun ρ P Q h q => ha.mono ρ _ _ (fun x hx => hb.mono ρ _ _ (fun y hy => mo x y _ _ h hy) hx) q, PE.weak (pe_op ho ha.run hb.run) fun σ H Q ⟨Z, F, ρ, r, q⟩ => ⟨Z, F, ρ, r, ha.mono ρ _ _ (fun x hx v F1 H1 g1 rp => ⟨Z, F1, ρ, r.grow g1, hb.mono ρ _ _ (fun y hy u F2 H2 g2 rq =>
    hs Z F2 H2 x y v u Q g2.b (rp.gr g2) rq (mo _ _ _ _ (fun es hd p us hp reps => hd p us F2 _ ((g1.trans g2).trans (g2.b.lay0 hp)) (back_none r.base (g1.trans g2) hp) (fresh_of r (g1.trans g2) hp) upd_same reps) hy)) hx⟩) q⟩⟩

/-! ### subscripts, slices -/
theorem Reps.at {K : Kf} {rw : Option Addr} {F : Hp} {ds : List D} {vs : List V} {i : Int} {d : D} (h : Reps K rw F ds vs) (e : atI ds i = some d) : ∃ v, atI vs i = some v ∧ Rep K rw F d v := by
  unfold atI at *
  rw [h.length]
  cases q : ixN ds.length i with
  | none => rw [q] at e; cases e
  | some j =>
    rw [q] at e
    exact h.get (show ds[j]? = some d from e)
def ixO : O2 := fun x y Q => match x, y with
  | .tup ds, .int i => (match atI ds i with
    | some d => Q d
    | none => False)
  | .lst ds, .int i => (match atI ds i with
    | some d => Q d
    | none => False)
  | _, _ => False
theorem ixO_mono : Mono2 ixO := fun x y P Q h q => by
  unfold ixO at *
  split at q
  · split at q
    · exact h _ q
    · exact q.elim
  · split at q
    · exact h _ q
    · exact q.elim
  · exact q.elim
theorem ixO_s {K : Kf} : OpS K (rIx K) ixO := fun Z F H dx dy x y Q b rx ry q => by
  unfold ixO at q
  split at q
  · rename_i ds i
    split at q
    · rename_i d hd
      obtain ⟨a, vs, rfl, e1, e2, _⟩ := rx.tup b
      obtain ⟨v, e3, e4⟩ := e2.at hd
      exact .inr (.inl ⟨a, vs, i, v, rfl, ry.int, e1, e3, q v F H (Gr.refl b) e4⟩)
    · exact q.elim
  · rename_i ds i
    split at q
    · rename_i d hd
      obtain ⟨a, vs, rfl, e1, e2, _⟩ := rx.lst b
      obtain ⟨v, e3, e4⟩ := e2.at hd
      exact .inl ⟨a, vs, i, v, rfl, ry.int, SqL.of e1, e3, q v F H (Gr.refl b) e4⟩
    · exact q.elim
  · exact q.elim
theorem E.ix (ha : P X a f) (hb : P X b g) (hs : PlainIx b) : E X (.Subscript a b pos) (sOp ixO f g) :=
  ⟨sOp_mono ixO_mono ha.mono hb.mono, PE.weak (pe_ix ix_seq ha.run hb.run hs) (op_tp ixO_s ixO_mono ha.mono hb.mono)⟩
abbrev SO := REnv → (Option Int → Prop) → Prop
def TOof (K : Kf) (f : SO) : TO := fun σ H Q => ∃ Z F ρ, R K Z F ρ σ H ∧ f ρ fun o => ∀ F' H', Gr K Z F H F' H' → Q o H'
structure O (X : Cx) (e : Option Expr) (f : SO) : Prop where
  mono : MonoE f
  run : PO X e (TOof X.K f)
theorem PO.weak {e : Option Expr} {t t' : TO} (h : PO X e t) (hw : ∀ σ H Q, t' σ H Q → t σ H Q) : PO X e t' := ⟨fun pins s σ H Q I q => h.run pins s σ H Q I (hw σ H Q q)⟩
def noO : SO := fun _ Q => Q none
def intOf (Q : Option Int → Prop) (d : D) : Prop := match d with
  | .int i => Q (some i)
  | _ => False
def someO (f : SE) : SO := fun ρ Q => f ρ (intOf Q)
theorem O.none : O X Option.none noO := ⟨fun _ _ _ h q => h _ q, PO.weak po_none fun σ H Q ⟨Z, F, ρ, r, q⟩ => q F H (Gr.refl r.base)⟩
theorem O.some (h : P X e f) : O X (Option.some e) (someO f) := ⟨fun ρ P Q hpq q => h.mono ρ _ _ (fun d hd => by
    cases d with
    | int i => exact hpq _ hd
    | _ => exact hd.elim) q, PO.weak (po_some h.run) fun σ H Q ⟨Z, F, ρ, r, q⟩ => ⟨Z, F, ρ, r, h.mono ρ _ _ (fun d hd v F' H' g rep => by
    cases d with
    | int i => exact ⟨i, rep.int, hd F' H' g⟩
    | _ => exact hd.elim) q⟩⟩
def cutD (xs : List D) (lo hi : Option Int) : List D := (xs.drop (HT.sIx xs.length 0 lo)).take (HT.sIx xs.length xs.length hi - HT.sIx xs.length 0 lo)
theorem Reps.cut {K : Kf} {rw : Option Addr} {F : Hp} {ds : List D} {vs : List V} (h : Reps K rw F ds vs) (lo hi : Option Int) : Reps K rw F (cutD ds lo hi) (cutV vs lo hi) := by
  unfold cutD cutV
  rw [h.length]
  exact Reps.take _ (Reps.drop _ h)
theorem cut_whole {α : Type} {xs : List α} {lo hi : Option Int} (h : HT.sIx xs.length 0 lo = 0 ∧ HT.sIx xs.length xs.length hi = xs.length) : (xs.drop (HT.sIx xs.length 0 lo)).take (HT.sIx xs.length xs.length hi - HT.sIx xs.length 0 lo) = xs := by
  rw [h.1, h.2]; simp
def slO (x : D) (lo hi : Option Int) (Q : D → Prop) : Prop := match x with
  | .tup ds => Q (.tup (cutD ds lo hi))
  | .lst ds => Q (.lst (cutD ds lo hi))
  | _ => False
def slE (f : SE) (l h : SO) : SE := fun ρ Q => f ρ fun x => l ρ fun lo => h ρ fun hi => slO x lo hi Q
theorem slO_mono {x : D} {lo hi : Option Int} {P Q : D → Prop} (h : ∀ d, P d → Q d) (q : slO x lo hi P) : slO x lo hi Q := by
  unfold slO at *
  split at q
  · exact h _ q
  · exact h _ q
  · exact q.elim
theorem E.sl {lo hi : Option Expr} {l h : SO} {p2 : Pos} (ha : P X e f) (hl : O X lo l) (hh : O X hi h) : E X (.Subscript e (.Slice lo hi none p2) pos) (slE f l h) :=
  ⟨fun ρ P Q hpq q => ha.mono ρ _ _ (fun x hx => hl.mono ρ _ _ (fun o ho => hh.mono ρ _ _ (fun u hu => slO_mono hpq hu) ho) hx) q,
   PE.weak (pe_slice (SlR.or sl_list sl_tupA) ha.run hl.run hh.run) fun σ H Q ⟨Z, F, ρ, r, q⟩ => ⟨Z, F, ρ, r, ha.mono ρ _ _ (fun x hx v F1 H1 g1 rp => ⟨Z, F1, ρ, r.grow g1, hl.mono ρ _ _ (fun o ho F2 H2 g2 => ⟨Z, F2, ρ, (r.grow g1).grow g2, hh.mono ρ _ _ (fun u hu F3 H3 g3 => by
     have gg := (g1.trans g2).trans g3
     have rp3 := (rp.gr g2).gr g3
     unfold slO at hu
     split at hu
     · obtain ⟨a, vs, rfl, e1, e2, e3⟩ := rp3.tup g3.b
       refine .inr ⟨a, vs, rfl, e1, fun hw => hu _ F3 H3 gg ⟨a, vs, rfl, e3, ?_⟩, fun _ p hp => hu _ _ _ (gg.trans (g3.b.lay hp)) ⟨p, _, rfl, .inl (.inl upd_same), Reps.ex (Ex.upd (g3.b.fh.none hp)) _ _ (e2.cut o u)⟩⟩
       have hw' := hw
       rw [e2.length] at hw'
       have : cutD _ o u = _ := cut_whole hw'
       rw [this]; exact e2
     · obtain ⟨a, vs, rfl, e1, e2, _⟩ := rp3.lst g3.b
       exact .inl ⟨a, vs, rfl, SqL.of e1, fun p hp => hu _ _ _ (gg.trans (g3.b.lay hp)) ⟨p, _, rfl, upd_same, Reps.ex (Ex.upd (g3.b.fh.none hp)) _ _ (e2.cut o u)⟩⟩
     · exact hu.elim) ho⟩) hx⟩) q⟩⟩

/-! ### calls of defs -/
def spOf (K : Kf) (n : Nat) (G : OC) : Sp := fun vs H Q _ => vs.length = n ∧ ∃ rw F ds, Base K ⟨rw, H, F⟩ F H ∧ Reps K rw F ds vs ∧ G ds fun d => ∀ v F' H', Base K ⟨rw, H, F⟩ F' H' → Rep K rw F' d v → Q v H'
theorem base_in {K : Kf} {Z : Zs} {F H : Hp} (b : Base K Z F H) : Base K ⟨Z.rw, H, F⟩ F H := ⟨b.fh, Ex.refl _, ExR.refl _ _, fun _ h => .inl h, b.row, b.frow⟩
theorem base_out {K : Kf} {Z : Zs} {F H F' H' : Hp} (b : Base K Z F H) (c : Base K ⟨Z.rw, H, F⟩ F' H') : Gr K Z F H F' H' :=
  ⟨c.f0, c.hh, ⟨c.fh, b.f0.trans c.f0, b.hh.trans c.hh, fun a h => by
    rcases c.new a h with q | q
    · exact b.new a q
    · exact .inr (b.h0 q), c.row, c.frow⟩, c.new⟩
theorem E.call {es : List Expr} {fa : SA} {G : OC} {n : Nat} (mo : MonoC G) (ha : A X es fa) (hn : es.length = n) (h : PA X es (TAof X.K fa) → PE X e (tCall (spOf X.K n G) [] E0 (TAof X.K fa))) : E X e (callE G fa) :=
  ⟨callE_mono mo ha.mono, PE.weak (h ha.run) fun σ H Q ⟨Z, F, ρ, r, q⟩ => ⟨Z, F, ρ, r, ha.mono ρ _ _ (fun ds hd vs F1 H1 g1 reps => by
    show spOf X.K n G (vs ++ []) H1 Q E0
    rw [List.append_nil]
    exact ⟨reps.length.trans (hd.1.trans hn), Z.rw, F1, ds, base_in g1.b, reps, mo _ _ _ (fun d hd v F' H' b' rep => hd v F' H' (g1.trans (base_out g1.b b')) rep) hd.2⟩) (ha.cnt ρ _ q)⟩⟩
end

/-! ### statements -/
section
variable {X : Cx} {e a b c : Expr} {f g k : SE} {pos : Pos} {st : Stmt} {rest : List Stmt} {s t : SS}
def nextS : SS := fun ρ k => k.nx ρ
def seqS (s t : SS) : SS := fun ρ k => s ρ { k with nx := fun ρ' => t ρ' k }
theorem Ss.nil : Ss X [] nextS := ⟨fun ρ k l h q => h.1 _ q, PSs.weak pss_nil fun D σ H ⟨Z, F, ρ, r, q⟩ => q σ F H (Ex.refl _) r⟩
theorem seq_tp {K : Kf} {s t : SS} (ms : MonoS s) (mt : MonoS t) : ∀ D σ H, TSof K (seqS s t) D σ H → tSeq (TSof K s) (TSof K t) D σ H := fun D σ H ⟨Z, F, ρ, r, q⟩ =>
  ⟨Z, F, ρ, r, ms ρ { kOf K Z F D with nx := fun ρ' => t ρ' (kOf K Z F D) } _ ⟨fun ρ' h σ' F' H' e r' => ⟨Z, F', ρ', r', mt ρ' _ _ (kOf_ex e) h⟩, fun _ h => h, fun _ h => h, fun _ h => h⟩ q⟩
theorem seqS_mono (ms : MonoS s) (mt : MonoS t) : MonoS (seqS s t) := fun ρ k l h q => ms ρ { k with nx := fun ρ' => t ρ' k } _ ⟨fun ρ' z => mt ρ' _ _ h z, h.2.1, h.2.2.1, h.2.2.2⟩ q
theorem Ss.cons (h1 : S X st s) (h2 : Ss X rest t) : Ss X (st :: rest) (seqS s t) := ⟨seqS_mono h1.mono h2.mono, PSs.weak (pss_cons h1.run h2.run) (seq_tp h1.mono h2.mono)⟩
theorem Ss.one (h1 : S X st s) : Ss X [st] s := ⟨h1.mono, pss_one h1.run⟩
theorem kOf_gr {K : Kf} {Z : Zs} {F F' H H' : Hp} {D' : Ends} (g : Gr K Z F H F' H') : Kt.le (kOf K Z F D') (kOf K Z F' D') := kOf_ex g.f
def passS : SS := nextS
theorem S.pass : S X (.Pass pos) nextS := ⟨fun ρ k l h q => h.1 _ q, PS.weak ps_pass fun D σ H ⟨Z, F, ρ, r, q⟩ => q σ F H (Ex.refl _) r⟩
def brkS : SS := fun ρ k => k.bk ρ
def cntS : SS := fun ρ k => k.ct ρ
theorem S.brk : S X (.Break pos) brkS := ⟨fun ρ k l h q => h.2.2.1 _ q, PS.weak ps_break fun D σ H ⟨Z, F, ρ, r, q⟩ => q σ F H (Ex.refl _) r⟩
theorem S.cnt : S X (.Continue pos) cntS := ⟨fun ρ k l h q => h.2.2.2 _ q, PS.weak ps_continue fun D σ H ⟨Z, F, ρ, r, q⟩ => q σ F H (Ex.refl _) r⟩
def retS (f : SE) : SS := fun ρ k => f ρ k.rt
theorem S.ret (h : E X e f) : S X (.Return (some e) pos) (retS f) := ⟨fun ρ k l hk q => h.mono ρ _ _ hk.2.1 q, PS.weak (ps_ret h.run) fun D σ H ⟨Z, F, ρ, r, q⟩ => ⟨Z, F, ρ, r, h.mono ρ _ _ (fun d hd v F' H' g rep => hd v F' H' g.f g.b rep) q⟩⟩
def retNS : SS := fun _ k => k.rt .non
/-- a statement on a way that can't be -/
def noS : SS := fun _ _ => False
theorem S.no {t : TS} (h : PS X st t) (ht : ∀ D σ H, False → t D σ H) : S X st noS := ⟨fun _ _ _ _ q => q, PS.weak h fun D σ H ⟨_, _, _, _, q⟩ => q.elim⟩
def dropS (f : SE) : SS := fun ρ k => f ρ fun _ => k.nx ρ
theorem S.expr (h : E X e f) (hs : swapsWith e none pos.line X.env = pure false := by rfl) : S X (.Expr e pos) (dropS f) := ⟨fun ρ k l hk q => h.mono ρ _ _ (fun _ z => hk.1 _ z) q, PS.weak (ps_expr h.run hs) fun D σ H ⟨Z, F, ρ, r, q⟩ => ⟨Z, F, ρ, r, h.mono ρ _ _ (fun d hd v F' H' g rep => hd σ F' H' g.f (r.grow g)) q⟩⟩
def ifS (t : ST) (s u : SS) : SS := fun ρ k => t ρ fun b => br b (s ρ k) (u ρ k)
theorem S.ifs {tt : ST} {u : SS} {xs ys : List Stmt} (ht : T X c tt) (h1 : Ss X xs s) (h2 : Ss X ys u) : S X (.If c xs ys pos) (ifS tt s u) :=
  ⟨fun ρ k l hk q => ht.mono ρ _ _ (fun b z => br_imp z (h1.mono ρ _ _ hk) (h2.mono ρ _ _ hk)) q, PS.weak (ps_if ht.run h1.run h2.run) fun D σ H ⟨Z, F, ρ, r, q⟩ => ⟨Z, F, ρ, r, ht.mono ρ _ _ (fun b z F' H' g1 => br_ite (br_imp z
    (fun z => ⟨Z, F', ρ, r.grow g1, h1.mono ρ _ _ (kOf_gr g1) z⟩) (fun z => ⟨Z, F', ρ, r.grow g1, h2.mono ρ _ _ (kOf_gr g1) z⟩))) q⟩⟩

/-! ### stores -/
theorem R.setSh {K : Kf} {Z : Zs} {F H : Hp} {ρ : REnv} {σ : L2.St} (r : R K Z F ρ σ H) (i : Nat) {d : D} {v : V} (h : Rep K Z.rw F d v) : R K Z F (ρ.set i (some (.sh d))) (σ.set i (some v)) H := by
  refine ⟨r.base, by rw [List.length_set, List.length_set]; exact r.len, fun j s e => ?_, fun j l s1 s2 x m1 m2 e1 e2 e3 e4 => ?_⟩
  · by_cases hj : i = j
    · subst hj
      rw [List.getElem?_set] at e
      simp only [if_true] at e
      split at e
      · rename_i hl
        cases e
        exact ⟨v, by rw [List.getElem?_set_self (by rw [← r.len]; exact hl)], h⟩
      · cases e
    · rw [List.getElem?_set_ne hj] at e
      have q := r.slot j s e
      cases s with
      | sh d => obtain ⟨u, e1, e2⟩ := q; exact ⟨u, by rw [List.getElem?_set_ne hj]; exact e1, e2⟩
      | own ds => obtain ⟨u, vs, e1, e2⟩ := q; exact ⟨u, vs, by rw [List.getElem?_set_ne hj]; exact e1, e2⟩
      | dic b kvs => obtain ⟨u, vs, e1, e2⟩ := q; exact ⟨u, vs, by rw [List.getElem?_set_ne hj]; exact e1, e2⟩
  · have hj : i ≠ j := fun z => by
      subst z
      rw [List.getElem?_set] at e1
      simp only [if_true] at e1
      split at e1 <;> cases e1 <;> cases m1
    have hl : i ≠ l := fun z => by
      subst z
      rw [List.getElem?_set] at e2
      simp only [if_true] at e2
      split at e2 <;> cases e2 <;> cases m2
    rw [List.getElem?_set_ne hj] at e1 e3
    rw [List.getElem?_set_ne hl] at e2 e4
    exact r.apart j l s1 s2 x m1 m2 e1 e2 e3 e4
theorem R.setOwn {K : Kf} {Z : Zs} {F H : Hp} {ρ : REnv} {σ : L2.St} (r : R K Z F ρ σ H) (i : Nat) {ds : List D} {vs : List V} {p : Addr} (hp : H p = some (.lst vs)) (fr : Fresh Z F ρ σ p) (h : Reps K Z.rw F ds vs) : R K Z F (ρ.set i (some (.own ds))) (σ.set i (some (.ref p))) H := by
  obtain ⟨f1, f2, f3, f4⟩ := fr
  refine ⟨r.base, by rw [List.length_set, List.length_set]; exact r.len, fun j s e => ?_, fun j l s1 s2 x m1 m2 e1 e2 e3 e4 => ?_⟩
  · by_cases hj : i = j
    · subst hj
      rw [List.getElem?_set] at e
      simp only [if_true] at e
      split at e
      · rename_i hl
        cases e
        exact ⟨p, vs, by rw [List.getElem?_set_self (by rw [← r.len]; exact hl)], hp, h, f1, f2, f3⟩
      · cases e
    · rw [List.getElem?_set_ne hj] at e
      have q := r.slot j s e
      cases s with
      | sh d => obtain ⟨u, e1, e2⟩ := q; exact ⟨u, by rw [List.getElem?_set_ne hj]; exact e1, e2⟩
      | own ds => obtain ⟨u, vs, e1, e2⟩ := q; exact ⟨u, vs, by rw [List.getElem?_set_ne hj]; exact e1, e2⟩
      | dic b kvs => obtain ⟨u, vs, e1, e2⟩ := q; exact ⟨u, vs, by rw [List.getElem?_set_ne hj]; exact e1, e2⟩
  · by_cases hj : i = j
    · by_cases hl : i = l
      · exact hj.symm.trans hl
      · exfalso
        subst hj
        rw [List.getElem?_set] at e3
        simp only [if_true] at e3
        split at e3
        · cases e3
          rw [List.getElem?_set_ne hl] at e2 e4
          exact f4 l _ m2 e2 e4
        · cases e3
    · by_cases hl : i = l
      · exfalso
        subst hl
        rw [List.getElem?_set] at e4
        simp only [if_true] at e4
        split at e4
        · cases e4
          rw [List.getElem?_set_ne hj] at e1 e3
          exact f4 j _ m1 e1 e3
        · cases e4
      · rw [List.getElem?_set_ne hj] at e1 e3
        rw [List.getElem?_set_ne hl] at e2 e4
        exact r.apart j l s1 s2 x m1 m2 e1 e2 e3 e4
theorem R.setDic {K : Kf} {Z : Zs} {F H : Hp} {ρ : REnv} {σ : L2.St} (r : R K Z F ρ σ H) (i : Nat) {b : Bool} {kvs : List (D × D)} {o : HO} {p : Addr} (hp : H p = some o) (fr : Fresh Z F ρ σ p) (h : DicR K Z.rw F p b kvs o) : R K Z F (ρ.set i (some (.dic b kvs))) (σ.set i (some (.ref p))) H := by
  obtain ⟨f1, f2, f3, f4⟩ := fr
  refine ⟨r.base, by rw [List.length_set, List.length_set]; exact r.len, fun j s e => ?_, fun j l s1 s2 x m1 m2 e1 e2 e3 e4 => ?_⟩
  · by_cases hj : i = j
    · subst hj
      rw [List.getElem?_set] at e
      simp only [if_true] at e
      split at e
      · rename_i hl
        cases e
        exact ⟨p, o, by rw [List.getElem?_set_self (by rw [← r.len]; exact hl)], hp, h, f1, f2, f3⟩
      · cases e
    · rw [List.getElem?_set_ne hj] at e
      have q := r.slot j s e
      cases s with
      | sh d => obtain ⟨u, e1, e2⟩ := q; exact ⟨u, by rw [List.getElem?_set_ne hj]; exact e1, e2⟩
      | own ds => obtain ⟨u, vs, e1, e2⟩ := q; exact ⟨u, vs, by rw [List.getElem?_set_ne hj]; exact e1, e2⟩
      | dic b kvs => obtain ⟨u, vs, e1, e2⟩ := q; exact ⟨u, vs, by rw [List.getElem?_set_ne hj]; exact e1, e2⟩
  · by_cases hj : i = j
    · by_cases hl : i = l
      · exact hj.symm.trans hl
      · exfalso
        subst hj
        rw [List.getElem?_set] at e3
        simp only [if_true] at e3
        split at e3
        · cases e3
          rw [List.getElem?_set_ne hl] at e2 e4
          exact f4 l _ m2 e2 e4
        · cases e3
    · by_cases hl : i = l
      · exfalso
        subst hl
        rw [List.getElem?_set] at e4
        simp only [if_true] at e4
        split at e4
        · cases e4
          rw [List.getElem?_set_ne hj] at e1 e3
          exact f4 j _ m1 e1 e3
        · cases e4
      · rw [List.getElem?_set_ne hj] at e1 e3
        rw [List.getElem?_set_ne hl] at e2 e4
        exact r.apart j l s1 s2 x m1 m2 e1 e2 e3 e4
def setS (i : Nat) (f : SE) : SS := fun ρ k => f ρ fun d => k.nx (ρ.set i (some (.sh d)))
def setO (i : Nat) (f : SA) : SS := fun ρ k => f ρ fun ds => k.nx (ρ.set i (some (.own ds)))
theorem setS_mono {i : Nat} (mf : MonoE f) : MonoS (setS i f) := fun ρ k l hk q => mf ρ _ _ (fun _ z => hk.1 _ z) q
theorem setO_mono {i : Nat} {f : SA} (mf : MonoE f) : MonoS (setO i f) := fun ρ k l hk q => mf ρ _ _ (fun _ z => hk.1 _ z) q
theorem set_tp {K : Kf} {i : Nat} (mf : MonoE f) : ∀ D σ H, TSof K (setS i f) D σ H → tAsg (TEof K f) (gName i) D σ H := fun D σ H ⟨Z, F, ρ, r, q⟩ =>
  ⟨Z, F, ρ, r, mf ρ _ _ (fun d hd v F' H' g rep => hd _ F' H' g.f ((r.grow g).setSh i rep)) q⟩
theorem setO_tp {K : Kf} {i : Nat} {f : SA} (mf : MonoE f) : ∀ D σ H, TSof K (setO i f) D σ H → tAsg (TFof K f) (gName i) D σ H := fun D σ H ⟨Z, F, ρ, r, q⟩ =>
  ⟨Z, F, ρ, r, mf ρ _ _ (fun ds hd p vs F' H' g h0 fr hp reps => hd _ F' H' g.f ((r.grow g).setOwn i hp fr reps)) q⟩
theorem S.set {i : Nat} (h : E X e f) (hp : PS X st (tAsg (TEof X.K f) (gName i))) : S X st (setS i f) := ⟨setS_mono h.mono, PS.weak hp (set_tp h.mono)⟩
theorem S.setO {i : Nat} {f : SA} (h : F X e f) (hp : PS X st (tAsg (TFof X.K f) (gName i))) : S X st (setO i f) := ⟨setO_mono h.mono, PS.weak hp (setO_tp h.mono)⟩
/-- forget that a list is one's own: it may be handed on from here -/
def frzS (i : Nat) (s : SS) : SS := fun ρ k => match ρ[i]? with
  | some (some (.own ds)) => s (ρ.set i (some (.sh (.lst ds)))) k
  | _ => False
theorem R.frz {K : Kf} {Z : Zs} {F H : Hp} {ρ : REnv} {σ : L2.St} (r : R K Z F ρ σ H) {i : Nat} {ds : List D} (h : ρ[i]? = some (some (.own ds))) : ∃ F', Ex F F' ∧ R K Z F' (ρ.set i (some (.sh (.lst ds)))) σ H := by
  obtain ⟨a, vs, e1, e2, e3, e4, e5, e6⟩ := r.slot i _ h
  refine ⟨upd F a (.lst vs), Ex.upd e4, ⟨⟨fun x u e => ?_, r.base.f0.trans (Ex.upd e4), r.base.hh, fun x e => ?_, r.base.row, fun x e => ?_⟩, by rw [List.length_set]; exact r.len, fun j s e => ?_, fun j l s1 s2 x m1 m2 q1 q2 q3 q4 => ?_⟩⟩
  · by_cases ha : x = a
    · subst ha; rw [upd_same] at e; cases e; exact e2
    · rw [upd_ne ha] at e; exact r.base.fh x u e
  · by_cases ha : x = a
    · subst ha; exact .inr e5
    · rw [upd_ne ha] at e; exact r.base.new x e
  · rw [upd_ne (fun z : x = a => e6 (by rw [← z]; exact e))]; exact r.base.frow x e
  · by_cases hj : i = j
    · subst hj
      rw [List.getElem?_set] at e
      simp only [if_true] at e
      split at e
      · cases e
        exact ⟨.ref a, e1, a, vs, rfl, upd_same, Reps.ex (Ex.upd e4) _ _ e3⟩
      · cases e
    · rw [List.getElem?_set_ne hj] at e
      have q := r.slot j s e
      cases s with
      | sh d => obtain ⟨u, q1, q2⟩ := q; exact ⟨u, q1, Rep.ex (Ex.upd e4) _ _ q2⟩
      | own ds' =>
        obtain ⟨u, us, q1, q2, q3, q4, q5, q6⟩ := q
        refine ⟨u, us, q1, q2, Reps.ex (Ex.upd e4) _ _ q3, ?_, q5, q6⟩
        rw [upd_ne (fun z : u = a => hj (r.apart i j _ _ a rfl rfl h e e1 (by rw [← z]; exact q1)))]
        exact q4
      | dic b kvs =>
        obtain ⟨u, us, q1, q2, q3, q4, q5, q6⟩ := q
        refine ⟨u, us, q1, q2, q3.ex (Ex.upd e4), ?_, q5, q6⟩
        rw [upd_ne (fun z : u = a => hj (r.apart i j _ _ a rfl rfl h e e1 (by rw [← z]; exact q1)))]
        exact q4
  · have hj : i ≠ j := fun z => by
      subst z
      rw [List.getElem?_set] at q1
      simp only [if_true] at q1
      split at q1 <;> cases q1 <;> cases m1
    have hl : i ≠ l := fun z => by
      subst z
      rw [List.getElem?_set] at q2
      simp only [if_true] at q2
      split at q2 <;> cases q2 <;> cases m2
    rw [List.getElem?_set_ne hj] at q1
    rw [List.getElem?_set_ne hl] at q2
    exact r.apart j l s1 s2 x m1 m2 q1 q2 q3 q4
theorem frzS_mono {i : Nat} (m : MonoS s) : MonoS (frzS i s) := fun ρ k l hk q => by
  unfold frzS at *
  split at q
  · exact m _ _ _ hk q
  · exact q.elim
theorem S.frz (i : Nat) (h : S X st s) : S X st (frzS i s) := ⟨frzS_mono h.mono, PS.weak h.run fun D σ H ⟨Z, F, ρ, r, q⟩ => by
  unfold frzS at q
  split at q
  · rename_i ds hd
    obtain ⟨F', e, r'⟩ := r.frz hd
    exact ⟨Z, F', _, r', h.mono _ _ _ (kOf_ex e) q⟩
  · exact q.elim⟩
end

/-! ### stores into one's own lists -/
theorem R.mut {K : Kf} {Z : Zs} {F H : Hp} {ρ : REnv} {σ : L2.St} (r : R K Z F ρ σ H) {i : Nat} {ds es : List D} {a : Addr} {vs us : List V} (h : ρ[i]? = some (some (.own ds))) (e1 : σ[i]? = some (some (.ref a))) (e2 : H a = some (.lst vs)) (h2 : Reps K Z.rw F es us) :
    R K Z F (ρ.set i (some (.own es))) σ (upd H a (.lst us)) := by
  obtain ⟨a', vs', q1, q2, q3, q4, q5, q6⟩ := r.slot i _ h
  rw [e1] at q1
  cases q1
  refine ⟨⟨fun x u e => ?_, r.base.f0, fun x u n e => ?_, r.base.new, fun x e => ?_, r.base.frow⟩, by rw [List.length_set]; exact r.len, fun j s e => ?_, fun j l s1 s2 x m1 m2 q1 q2 q3 q4 => ?_⟩
  · rw [upd_ne (fun z : x = a => by rw [z, q4] at e; cases e)]; exact r.base.fh x u e
  · rw [upd_ne (fun z : x = a => by rw [z, q5] at e; cases e)]; exact r.base.hh x u n e
  · obtain ⟨sc, ns, p, m, t, w1, w2, w3⟩ := r.base.row x e
    refine ⟨sc, ns, p, m, t, ?_, w2.keep fun o q => ?_, w3⟩
    · rw [upd_ne (fun z : x = a => q6 (by rw [← z]; exact e))]; exact w1
    · rw [upd_ne (fun z : sc = a => by rw [z, e2] at q; cases q)]; exact q
  · by_cases hj : i = j
    · subst hj
      rw [List.getElem?_set] at e
      simp only [if_true] at e
      split at e
      · cases e
        exact ⟨a, us, e1, upd_same, h2, q4, q5, q6⟩
      · cases e
    · rw [List.getElem?_set_ne hj] at e
      have q := r.slot j s e
      cases s with
      | sh d => exact q
      | own ds' =>
        obtain ⟨u, ws, w1, w2, w3, w4, w5, w6⟩ := q
        refine ⟨u, ws, w1, ?_, w3, w4, w5, w6⟩
        rw [upd_ne (fun z : u = a => hj (r.apart i j _ _ a rfl rfl h e e1 (by rw [← z]; exact w1)))]
        exact w2
      | dic b kvs =>
        obtain ⟨u, ws, w1, w2, w3, w4, w5, w6⟩ := q
        refine ⟨u, ws, w1, ?_, w3, w4, w5, w6⟩
        rw [upd_ne (fun z : u = a => hj (r.apart i j _ _ a rfl rfl h e e1 (by rw [← z]; exact w1)))]
        exact w2
  · have hh : ∀ (j : Nat) (s : Slot), s.mine = true → (ρ.set i (some (Slot.own es)))[j]? = some (some s) → ∃ s', s'.mine = true ∧ ρ[j]? = some (some s') := fun j s m z => by
      by_cases hj : i = j
      · subst hj; exact ⟨_, rfl, h⟩
      · rw [List.getElem?_set_ne hj] at z; exact ⟨s, m, z⟩
    obtain ⟨y1, n1, w1⟩ := hh j _ m1 q1
    obtain ⟨y2, n2, w2⟩ := hh l _ m2 q2
    exact r.apart j l y1 y2 x n1 n2 w1 w2 q3 q4
theorem R.mutD {K : Kf} {Z : Zs} {F H : Hp} {ρ : REnv} {σ : L2.St} (r : R K Z F ρ σ H) {i : Nat} {b b' : Bool} {kv kv' : List (D × D)} {a : Addr} {o o' : HO} (h : ρ[i]? = some (some (.dic b kv))) (e1 : σ[i]? = some (some (.ref a))) (e2 : H a = some o) (h2 : DicR K Z.rw F a b' kv' o') (hf : ∀ q u, o ≠ .frz q u) :
    R K Z F (ρ.set i (some (.dic b' kv'))) σ (upd H a o') := by
  obtain ⟨a', vs', q1, q2, q3, q4, q5, q6⟩ := r.slot i _ h
  rw [e1] at q1
  cases q1
  refine ⟨⟨fun x u e => ?_, r.base.f0, fun x u n e => ?_, r.base.new, fun x e => ?_, r.base.frow⟩, by rw [List.length_set]; exact r.len, fun j s e => ?_, fun j l s1 s2 x m1 m2 q1 q2 q3 q4 => ?_⟩
  · rw [upd_ne (fun z : x = a => by rw [z, q4] at e; cases e)]; exact r.base.fh x u e
  · rw [upd_ne (fun z : x = a => by rw [z, q5] at e; cases e)]; exact r.base.hh x u n e
  · obtain ⟨sc, ns, p, m, t, w1, w2, w3⟩ := r.base.row x e
    refine ⟨sc, ns, p, m, t, ?_, w2.keep fun o q => ?_, w3⟩
    · rw [upd_ne (fun z : x = a => q6 (by rw [← z]; exact e))]; exact w1
    · rw [upd_ne (fun z : sc = a => by rw [z, e2] at q; exact hf _ _ (Option.some.inj q))]; exact q
  · by_cases hj : i = j
    · subst hj
      rw [List.getElem?_set] at e
      simp only [if_true] at e
      split at e
      · cases e
        exact ⟨a, o', e1, upd_same, h2, q4, q5, q6⟩
      · cases e
    · rw [List.getElem?_set_ne hj] at e
      have q := r.slot j s e
      cases s with
      | sh d => exact q
      | own ds' =>
        obtain ⟨u, ws, w1, w2, w3, w4, w5, w6⟩ := q
        refine ⟨u, ws, w1, ?_, w3, w4, w5, w6⟩
        rw [upd_ne (fun z : u = a => hj (r.apart i j _ _ a rfl rfl h e e1 (by rw [← z]; exact w1)))]
        exact w2
      | dic b kvs =>
        obtain ⟨u, ws, w1, w2, w3, w4, w5, w6⟩ := q
        refine ⟨u, ws, w1, ?_, w3, w4, w5, w6⟩
        rw [upd_ne (fun z : u = a => hj (r.apart i j _ _ a rfl rfl h e e1 (by rw [← z]; exact w1)))]
        exact w2
  · have hh : ∀ (j : Nat) (s : Slot), s.mine = true → (ρ.set i (some (Slot.dic b' kv')))[j]? = some (some s) → ∃ s', s'.mine = true ∧ ρ[j]? = some (some s') := fun j s m z => by
      by_cases hj : i = j
      · subst hj; exact ⟨_, rfl, h⟩
      · rw [List.getElem?_set_ne hj] at z; exact ⟨s, m, z⟩
    obtain ⟨y1, n1, w1⟩ := hh j _ m1 q1
    obtain ⟨y2, n2, w2⟩ := hh l _ m2 q2
    exact r.apart j l y1 y2 x n1 n2 w1 w2 q3 q4
section
variable {X : Cx} {e a b c : Expr} {f g k : SE} {pos : Pos} {st : Stmt} {rest : List Stmt} {s t : SS}
theorem R.ownAt {K : Kf} {Z : Zs} {F H : Hp} {ρ : REnv} {σ : L2.St} (r : R K Z F ρ σ H) {i : Nat} {ds : List D} (h : ρ[i]? = some (some (.own ds))) : ∃ a vs, σ[i]? = some (some (.ref a)) ∧ H a = some (.lst vs) ∧ Reps K Z.rw F ds vs ∧ Z.rw ≠ some a := by
  obtain ⟨a, vs, e1, e2, e3, _, _, e6⟩ := r.slot i _ h
  exact ⟨a, vs, e1, e2, e3, e6⟩
/-- x.append(e) -/
def appS (i : Nat) (f : SE) : SS := fun ρ k => match ρ[i]? with
  | some (some (.own ds)) => ds.length < big ∧ f ρ fun d => k.nx (ρ.set i (some (.own (ds ++ [d]))))
  | _ => False
theorem appS_mono {i : Nat} (mf : MonoE f) : MonoS (appS i f) := fun ρ k l hk q => by
  unfold appS at *
  split at q
  · exact ⟨q.1, mf ρ _ _ (fun d hd => hk.1 _ hd) q.2⟩
  · exact q.elim
theorem S.app {i : Nat} (hf : E X e f) (h : PS X st (tDrop (tBM X.K "list" rAppend (tVar i) (tCons (TEof X.K f) tNil)))) : S X st (appS i f) := ⟨appS_mono hf.mono, PS.weak h fun D σ H ⟨Z, F, ρ, r, q⟩ => by
  unfold appS at q
  split at q
  · rename_i ds hd
    obtain ⟨a, vs, e1, e2, e3, e6⟩ := r.ownAt hd
    refine ⟨.ref a, e1, .inl ⟨rfl, vs, SqL.of e2⟩, Z, F, ρ, r, hf.mono ρ _ _ (fun d hd' v F' H' g rep => ?_) q.2⟩
    have r' := r.grow g
    refine ⟨a, vs, v, rfl, rfl, g.h a _ e6 e2, by rw [e3.length]; exact big_lt q.1, hd' _ F' _ g.f (r'.mut hd e1 (g.h a _ e6 e2) (Reps.app (Reps.ex g.f _ _ e3) (Reps.one rep)))⟩
  · exact q.elim⟩
/-- x.pop() as a statement -/
def popS (i : Nat) : SS := fun ρ k => match ρ[i]? with
  | some (some (.own ds)) => ds ≠ [] ∧ k.nx (ρ.set i (some (.own ds.dropLast)))
  | _ => False
theorem Reps.dropLast {K : Kf} {rw : Option Addr} {F : Hp} {ds : List D} {vs : List V} (h : Reps K rw F ds vs) : Reps K rw F ds.dropLast vs.dropLast := by
  rw [List.dropLast_eq_take, List.dropLast_eq_take, h.length]
  exact Reps.take _ h
theorem S.pop {i : Nat} (h : PS X st (tDrop (tBM0 X.K "list" rPop (tVar i)))) : S X st (popS i) := ⟨fun ρ k l hk q => by
    unfold popS at *
    split at q
    · exact ⟨q.1, hk.1 _ q.2⟩
    · exact q.elim, PS.weak h fun D σ H ⟨Z, F, ρ, r, q⟩ => by
  unfold popS at q
  split at q
  · rename_i ds hd
    obtain ⟨a, vs, e1, e2, e3, e6⟩ := r.ownAt hd
    have hne : vs ≠ [] := fun z => q.1 (by
      have := e3.length
      rw [z] at this
      exact List.eq_nil_of_length_eq_zero this.symm)
    have hl : vs.length - 1 < vs.length := Nat.sub_lt (List.length_pos_iff.mpr hne) (by decide)
    exact ⟨.ref a, e1, .inl ⟨rfl, vs, SqL.of e2⟩, a, vs, vs[vs.length - 1], rfl, rfl, e2, List.getElem?_eq_getElem hl, q.2 _ F _ (Ex.refl _) (r.mut hd e1 e2 (Reps.dropLast e3))⟩
  · exact q.elim⟩
/-- x[j] = e -/
def putS (i : Nat) (f g : SE) : SS := fun ρ k => match ρ[i]? with
  | some (some (.own ds)) => f ρ fun d => g ρ fun z => match z with
    | .int j => (match ixN ds.length j with
      | some m => k.nx (ρ.set i (some (.own (ds.set m d))))
      | none => False)
    | _ => False
  | _ => False
theorem putS_mono {i : Nat} (mf : MonoE f) (mg : MonoE g) : MonoS (putS i f g) := fun ρ k l hk q => by
  unfold putS at *
  split at q
  · exact mf ρ _ _ (fun d hd => mg ρ _ _ (fun z hz => by
      split at hz
      · split at hz
        · exact hk.1 _ hz
        · exact hz.elim
      · exact hz.elim) hd) q
  · exact q.elim
theorem S.put {i : Nat} (hf : E X a f) (hg : P X b g) (h : PS X st (tAsg (TEof X.K f) (gSub (tVar i) (TPof X.K g) rSetL))) : S X st (putS i f g) := ⟨putS_mono hf.mono hg.mono, PS.weak h fun D σ H ⟨Z, F, ρ, r, q⟩ => by
  unfold putS at q
  split at q
  · rename_i ds hd
    obtain ⟨a, vs, e1, e2, e3, e6⟩ := r.ownAt hd
    refine ⟨Z, F, ρ, r, hf.mono ρ _ _ (fun d hd' v F1 H1 g1 rep => ?_) q⟩
    refine ⟨.ref a, e1, Z, F1, ρ, r.grow g1, hg.mono ρ _ _ (fun z hz u F2 H2 g2 rq => ?_) hd'⟩
    split at hz
    · rename_i j
      split at hz
      · rename_i m hm
        have g3 := g1.trans g2
        exact ⟨a, vs, j, m, rfl, rq.int, g3.h a _ e6 e2, by rw [e3.length]; exact hm, hz _ F2 _ g3.f ((r.grow g3).mut hd e1 (g3.h a _ e6 e2) (Reps.set (Rep.ex g2.f _ _ rep) m (Reps.ex g3.f _ _ e3)))⟩
      · exact hz.elim
    · exact hz.elim
  · exact q.elim⟩
/-- x op= e, x no list of one's own -/
def augS (i : Nat) (o : O2) (f : SE) : SS := fun ρ k => match ρ[i]? with
  | some (some (.sh x)) => f ρ fun y => o x y fun d => k.nx (ρ.set i (some (.sh d)))
  | _ => False
theorem S.aug {i : Nat} {o : O2} {r : R2} (hs : OpS X.K r o) (mo : Mono2 o) (hf : P X e f) (h : PS X st (tAug i (TPof X.K f) r)) : S X st (augS i o f) := ⟨fun ρ k l hk q => by
    unfold augS at *
    split at q
    · exact hf.mono ρ _ _ (fun y hy => mo _ _ _ _ (fun d hd => hk.1 _ hd) hy) q
    · exact q.elim, PS.weak h fun D σ H ⟨Z, F, ρ, r, q⟩ => by
  unfold augS at q
  split at q
  · rename_i x hx
    obtain ⟨v, e1, e2⟩ := r.slot i _ hx
    exact ⟨v, e1, Z, F, ρ, r, hf.mono ρ _ _ (fun y hy u F1 H1 g1 rq => hs Z F1 H1 x y v u _ g1.b (.inl (Rep.ex g1.f _ _ e2)) rq (mo _ _ _ _ (fun d hd w F2 H2 g2 rep => hd _ F2 H2 (g1.trans g2).f ((r.grow (g1.trans g2)).setSh i rep)) hy)) q⟩
  · exact q.elim⟩
/-- a, b = x, y -/
def parS (i j : Nat) (f : SA) : SS := fun ρ k => f ρ fun ds => match ds with
  | [x, y] => k.nx ((ρ.set i (some (.sh x))).set j (some (.sh y)))
  | _ => False
theorem S.par {i j : Nat} {fa : SA} {es : List Expr} (ha : A X es fa) (h : PS X st (tPar i j (TAof X.K fa))) : S X st (parS i j fa) := ⟨fun ρ k l hk q => ha.mono ρ _ _ (fun ds hd => by
    split at hd
    · exact hk.1 _ hd
    · exact hd.elim) q, PS.weak h fun D σ H ⟨Z, F, ρ, r, q⟩ => ⟨Z, F, ρ, r, ha.mono ρ _ _ (fun ds hd vs F' H' g reps => by
    split at hd
    · rename_i x y
      obtain ⟨v, r1, rfl, h1, v2, r2, rfl, h2, h3⟩ := (show ∃ v r1, vs = v :: r1 ∧ Rep _ _ _ x v ∧ ∃ v2 r2, r1 = v2 :: r2 ∧ Rep _ _ _ y v2 ∧ r2 = [] from reps)
      subst h3
      exact ⟨v, v2, rfl, hd _ F' H' g.f (((r.grow g).setSh i h1).setSh j h2)⟩
    · exact hd.elim) q⟩⟩
def par3S (i j l : Nat) (f : SA) : SS := fun ρ k => f ρ fun ds => match ds with
  | [x, y, z] => k.nx (((ρ.set i (some (.sh x))).set j (some (.sh y))).set l (some (.sh z)))
  | _ => False
theorem S.par3 {i j l : Nat} {fa : SA} {es : List Expr} (ha : A X es fa) (h : PS X st (tPar3 i j l (TAof X.K fa))) : S X st (par3S i j l fa) := ⟨fun ρ k l hk q => ha.mono ρ _ _ (fun ds hd => by
    split at hd
    · exact hk.1 _ hd
    · exact hd.elim) q, PS.weak h fun D σ H ⟨Z, F, ρ, r, q⟩ => ⟨Z, F, ρ, r, ha.mono ρ _ _ (fun ds hd vs F' H' g reps => by
    split at hd
    · rename_i x y z
      obtain ⟨v, r1, rfl, h1, v2, r2, rfl, h2, v3, r3, rfl, h3, h4⟩ := (show ∃ v r1, vs = v :: r1 ∧ Rep _ _ _ x v ∧ ∃ v2 r2, r1 = v2 :: r2 ∧ Rep _ _ _ y v2 ∧ ∃ v3 r3, r2 = v3 :: r3 ∧ Rep _ _ _ z v3 ∧ r3 = [] from reps)
      subst h4
      exact ⟨v, v2, v3, rfl, hd _ F' H' g.f ((((r.grow g).setSh i h1).setSh j h2).setSh l h3)⟩
    · exact hd.elim) q⟩⟩

/-! ### targets -/
abbrev SG := D → REnv → (REnv → Prop) → Prop
abbrev SGs := List D → REnv → (REnv → Prop) → Prop
def TGof (K : Kf) (is : List Nat) (g : SG) : TG := fun v σ H Q => ∃ Z F ρ d, R K Z F ρ σ H ∧ Rep K Z.rw F d v ∧ g d ρ fun ρ' => ∀ σ', R K Z F ρ' σ' H → (∀ vs : List Nat, (∀ i ∈ is, i ∈ vs) → wipe σ' vs = wipe σ vs) → Q σ' H
def TGsof (K : Kf) (is : List Nat) (g : SGs) : TGs := fun us σ H Q => ∃ Z F ρ ds, R K Z F ρ σ H ∧ Reps K Z.rw F ds us ∧ g ds ρ fun ρ' => ∀ σ', R K Z F ρ' σ' H → (∀ vs : List Nat, (∀ i ∈ is, i ∈ vs) → wipe σ' vs = wipe σ vs) → Q σ' H
def MonoG {α : Type} (g : α → REnv → (REnv → Prop) → Prop) : Prop := ∀ d ρ (P Q : REnv → Prop), (∀ ρ', P ρ' → Q ρ') → g d ρ P → g d ρ Q
structure G (X : Cx) (tg : Expr) (is : List Nat) (g : SG) : Prop where
  mono : MonoG g
  run : PG X tg (TGof X.K is g)
structure Gs (X : Cx) (ts : List Expr) (is : List Nat) (g : SGs) : Prop where
  mono : MonoG g
  run : PGs X ts (TGsof X.K is g)
theorem PG.weak {tg : Expr} {t t' : TG} (h : PG X tg t) (hw : ∀ v σ H Q, t' v σ H Q → t v σ H Q) : PG X tg t' := ⟨fun pins s σ H v u Q I r q => h.run pins s σ H v u Q I r (hw v σ H Q q)⟩
theorem PGs.weak {tg : List Expr} {t t' : TGs} (h : PGs X tg t) (hw : ∀ v σ H Q, t' v σ H Q → t v σ H Q) : PGs X tg t' := ⟨fun pins s σ H v u Q I r q => h.run pins s σ H v u Q I r (hw v σ H Q q)⟩
theorem wipe_set {σ : L2.St} {i : Nat} {x : Option V} : ∀ {vs : List Nat}, i ∈ vs → wipe (σ.set i x) vs = wipe σ vs
  | v :: vs, h => by
    unfold wipe
    by_cases hv : i ∈ vs
    · rw [wipe_set hv]
    · have e : i = v := by
        rcases List.mem_cons.mp h with e | e
        · exact e
        · exact absurd e hv
      subst e
      have : ∀ us : List Nat, i ∉ us → wipe (σ.set i x) us = (wipe σ us).set i x := by
        intro us
        induction us with
        | nil => intro _; rfl
        | cons u us ih =>
          intro hu
          unfold wipe
          rw [ih (fun z => hu (List.mem_cons_of_mem _ z)), List.set_comm _ _ (fun z : i = u => hu (by rw [z]; exact List.mem_cons_self))]
      rw [this vs hv, List.set_set]
theorem wipe_none {σ : L2.St} : ∀ {vs : List Nat} (us : List Nat), (∀ v ∈ us, v ∈ vs) → wipe (wipe σ vs) us = wipe σ vs
  | vs, [], _ => rfl
  | vs, u :: us, h => by
    show (wipe (wipe σ vs) us).set u none = _
    rw [wipe_none us fun v hv => h v (List.mem_cons_of_mem _ hv)]
    have : ∀ (ws : List Nat), u ∈ ws → (wipe σ ws).set u none = wipe σ ws := by
      intro ws
      induction ws with
      | nil => intro z; cases z
      | cons w ws ih =>
        intro z
        show ((wipe σ ws).set w none).set u none = (wipe σ ws).set w none
        by_cases hw : w = u
        · subst hw; rw [List.set_set]
        · rw [List.set_comm _ _ hw, ih (by rcases List.mem_cons.mp z with e | e; exact absurd e.symm hw; exact e)]
    exact this vs (h u List.mem_cons_self)
theorem wipe_wipe {σ : L2.St} {vs : List Nat} : wipe (wipe σ vs) vs = wipe σ vs := wipe_none vs fun _ h => h
def gVar (i : Nat) : SG := fun d ρ Q => Q (ρ.set i (some (.sh d)))
theorem G.var {i : Nat} {tg : Expr} (h : PG X tg (gName i)) : G X tg [i] (gVar i) := ⟨fun d ρ P Q hpq q => hpq _ q, PG.weak h fun v σ H Q ⟨Z, F, ρ, d, r, rep, q⟩ => q _ (r.setSh i rep) fun vs hvs => wipe_set (hvs i List.mem_cons_self)⟩
def gNilS : SGs := fun ds ρ Q => match ds with
  | [] => Q ρ
  | _ => False
def gConsS (g : SG) (gs : SGs) : SGs := fun ds ρ Q => match ds with
  | d :: r => g d ρ fun ρ' => gs r ρ' Q
  | [] => False
theorem Gs.nil : Gs X [] [] gNilS := ⟨fun ds ρ P Q hpq q => by
    cases ds with
    | nil => exact hpq _ q
    | cons _ _ => exact q, PGs.weak pgs_nil fun us σ H Q ⟨Z, F, ρ, ds, r, reps, q⟩ => by
    cases ds with
    | nil => exact ⟨reps, q σ r fun _ _ => rfl⟩
    | cons _ _ => exact q.elim⟩
theorem Gs.cons {tg : Expr} {ts : List Expr} {is js : List Nat} {g : SG} {gs : SGs} (h1 : G X tg is g) (h2 : Gs X ts js gs) (h : PGs X (tg :: ts) (gCons (TGof X.K is g) (TGsof X.K js gs))) : Gs X (tg :: ts) (is ++ js) (gConsS g gs) :=
  ⟨fun ds ρ P Q hpq q => by
    cases ds with
    | nil => exact q
    | cons d r => exact h1.mono d ρ _ _ (fun ρ' z => h2.mono r ρ' _ _ hpq z) q, PGs.weak h fun us σ H Q ⟨Z, F, ρ, ds, r, reps, q⟩ => by
    cases ds with
    | nil => exact q.elim
    | cons d ds =>
      obtain ⟨v, vs, rfl, h3, h4⟩ := (show ∃ v vs, us = v :: vs ∧ Rep _ _ _ d v ∧ Reps _ _ _ ds vs from reps)
      exact ⟨v, vs, rfl, Z, F, ρ, d, r, h3, h1.mono d ρ _ _ (fun ρ' z σ' r' hw => ⟨Z, F, ρ', ds, r', h4, h2.mono ds ρ' _ _ (fun ρ2 z2 σ2 r2 hw2 => z2 σ2 r2 fun vs hvs => (hw2 vs fun i hi => hvs i (List.mem_append_right _ hi)).trans (hw vs fun i hi => hvs i (List.mem_append_left _ hi))) z⟩) q⟩⟩
def gTupS (gs : SGs) : SG := fun d ρ Q => match d with
  | .tup ds => gs ds ρ Q
  | _ => False
theorem G.tup {tg : Expr} {is : List Nat} {gs : SGs} {n : Nat} {ts : List Expr} (hn : ∀ ds ρ Q, gs ds ρ Q → ds.length = n) (h2 : Gs X ts is gs) (h : PG X tg (gTup X.K n (TGsof X.K is gs))) : G X tg is (gTupS gs) :=
  ⟨fun d ρ P Q hpq q => by
    cases d with
    | tup ds => exact h2.mono ds ρ _ _ hpq q
    | _ => exact q.elim, PG.weak h fun v σ H Q ⟨Z, F, ρ, d, r, rep, q⟩ => by
    cases d with
    | tup ds =>
      obtain ⟨a, vs, rfl, e1, e2⟩ := (show ∃ a vs, v = V.ref a ∧ SqT _ F a vs ∧ Reps _ _ _ ds vs from rep)
      exact ⟨a, vs, rfl, sqt_ex r.base.fh e1, e2.length.trans (hn _ _ _ q), Z, F, ρ, ds, r, e2, q⟩
    | _ => exact q.elim⟩
/-- target = e -/
def asgS (f : SE) (g : SG) : SS := fun ρ k => f ρ fun d => g d ρ k.nx
theorem S.asg {tg : Expr} {is : List Nat} {g : SG} (hf : E X e f) (hg : G X tg is g) (h : PS X st (tAsg (TEof X.K f) (TGof X.K is g))) : S X st (asgS f g) :=
  ⟨fun ρ k l hk q => hf.mono ρ _ _ (fun d hd => hg.mono d ρ _ _ hk.1 hd) q, PS.weak h fun D σ H ⟨Z, F, ρ, r, q⟩ => ⟨Z, F, ρ, r, hf.mono ρ _ _ (fun d hd v F' H' g1 rep => ⟨Z, F', ρ, d, r.grow g1, rep, hg.mono d ρ _ _ (fun ρ' z σ' r' _ => z σ' F' H' g1.f r') hd⟩) q⟩⟩
end

/-! ### what is walked -/
section
variable {X : Cx} {e a b c : Expr} {f g k : SE} {pos : Pos} {st : Stmt} {rest : List Stmt} {s t : SS}
def TurnOk (K : Kf) (Z : Zs) (J : It) (xs : List D) (F H : Hp) (i : Nat) : Prop := (i = xs.length → J.stop i H) ∧ ∀ d, xs[i]? = some d → J.go i H ∧ ∀ x H', J.yld i H x H' → ∃ F', Gr K Z F H F' H' ∧ Rep K Z.rw F' d x
def ItE (K : Kf) (Z : Zs) (J : It) (xs : List D) (F1 : Hp) : Prop := ∀ F H i, Ex F1 F → Base K Z F H → TurnOk K Z J xs F H i
def ItG (K : Kf) (Z : Zs) (J : It) (xs : List D) (F1 H1 : Hp) : Prop := ∀ F H i, Gr K Z F1 H1 F H → TurnOk K Z J xs F H i
theorem ItE.toG {K : Kf} {Z : Zs} {J : It} {xs : List D} {F1 H1 : Hp} (h : ItE K Z J xs F1) : ItG K Z J xs F1 H1 := fun F H i g => h F H i g.f g.b
def TIof (K : Kf) (f : SA) : TI := fun σ H Rc => ∃ Z F ρ, R K Z F ρ σ H ∧ f ρ fun xs => ∀ J F' H', Gr K Z F H F' H' → ItE K Z J xs F' → Rc J H'
def TIGof (K : Kf) (f : SA) : TI := fun σ H Rc => ∃ Z F ρ, R K Z F ρ σ H ∧ f ρ fun xs => ∀ J F' H', Gr K Z F H F' H' → ItG K Z J xs F' H' → Rc J H'
structure I (X : Cx) (tg e : Expr) (f : SA) : Prop where
  mono : MonoE f
  run : PI X tg e (TIof X.K f)
/-- for comprehensions: what is walked may be a list of one's own -/
structure Ig (X : Cx) (tg e : Expr) (f : SA) : Prop where
  mono : MonoE f
  run : PI X tg e (TIGof X.K f)
theorem PI.weak {tg : Expr} {t t' : TI} (h : PI X tg e t) (hw : ∀ σ H Rc, t' σ H Rc → t σ H Rc) : PI X tg e t' := ⟨fun pins s σ H Rc I q => h.run pins s σ H Rc I (hw σ H Rc q)⟩
theorem I.toG {tg : Expr} {f : SA} (h : I X tg e f) : Ig X tg e f := ⟨h.mono, PI.weak h.run fun σ H Rc ⟨Z, F, ρ, r, q⟩ => ⟨Z, F, ρ, r, h.mono ρ _ _ (fun xs hx J F' H' g i => hx J F' H' g i.toG) q⟩⟩
def seqOf (Q : List D → Prop) (d : D) : Prop := match d with
  | .tup ds => Q ds
  | .lst ds => Q ds
  | _ => False
theorem seqOf_mono {P Q : List D → Prop} (h : ∀ d, P d → Q d) : ∀ d, seqOf P d → seqOf Q d := fun d q => by
  cases d with
  | tup ds => exact h _ q
  | lst ds => exact h _ q
  | _ => exact q.elim
def seqI (f : SE) : SA := fun ρ Q => f ρ (seqOf Q)
def iSeq (K : Kf) (tl : TE) : TI := fun σ H Rc => tl σ H fun x H1 => ∃ a, x = .ref a ∧ (((∃ xs, SqL K H1 a xs) ∧ Rc (Itl K a) H1) ∨ ((∃ xs, SqT K H1 a xs) ∧ Rc (Itt K a) H1))
theorem pi_seq {tg l : Expr} {tl : TE} (hl : PE X l tl) : PI X tg l (iSeq X.K tl) := by
  refine ⟨fun pins s σ H R I h => ?_⟩
  refine thn (hl.run pins s σ H _ I h) fun v s1 ⟨x, H1, I1, r1, q1⟩ => ?_
  obtain ⟨a, e, q1⟩ := q1
  subst e
  cases r1
  rcases q1 with ⟨⟨xs, hq⟩, q⟩ | ⟨⟨xs, hq⟩, q⟩
  · obtain ⟨its, rv, p, hz⟩ := I1.list hq
    refine wpAny_pyIter_list p.isList ?_
    refine ⟨s1.heap.objs.size, [s1.heap.objs.size], _, _, H1, rfl, I1.kept (t' := s1.toks) fun b o e => Heap.get?_push_of_some _ e, turn_list a _, ⟨_, Heap.get?_push_size _ rfl, rfl, rfl⟩, fun b hb => ?_, q⟩
    have e : b = s1.heap.objs.size := by simpa using hb
    subst e
    exact I1.fpOk (Nat.le_refl _) (I1.hok.fresh (Nat.le_refl _))
  · obtain ⟨its, rv, p, hz⟩ := I1.tuple hq
    refine wpAny_pyIter_tuple (show s1.heap.IsTuple a its.toArray from p) ?_
    refine ⟨s1.heap.objs.size, [s1.heap.objs.size], _, _, H1, rfl, I1.kept (t' := s1.toks) fun b o e => Heap.get?_push_of_some _ e, turn_tuple a _, ⟨_, Heap.get?_push_size _ rfl, rfl, rfl⟩, fun b hb => ?_, q⟩
    have e : b = s1.heap.objs.size := by simpa using hb
    subst e
    exact I1.fpOk (Nat.le_refl _) (I1.hok.fresh (Nat.le_refl _))
theorem turn_l {K : Kf} {Z : Zs} {F H : Hp} {a : Addr} {vs : List V} {ds : List D} (b : Base K Z F H) (h : H a = some (.lst vs)) (hr : Reps K Z.rw F ds vs) (i : Nat) : TurnOk K Z (Itl K a) ds F H i :=
  ⟨fun e => ⟨vs, SqL.of h, by rw [hr.length, e]; exact Nat.le_refl _⟩, fun d hd => by
    obtain ⟨v, e1, e2⟩ := hr.get hd
    refine ⟨⟨vs, v, SqL.of h, e1⟩, fun x H' y => ?_⟩
    obtain ⟨rfl, y2⟩ := y
    have := y2 vs (SqL.of h)
    rw [e1] at this
    cases this
    exact ⟨F, Gr.refl b, e2⟩⟩
theorem turn_t {K : Kf} {Z : Zs} {F H : Hp} {a : Addr} {vs : List V} {ds : List D} (b : Base K Z F H) (h : SqT K H a vs) (hr : Reps K Z.rw F ds vs) (i : Nat) : TurnOk K Z (Itt K a) ds F H i :=
  ⟨fun e => ⟨vs, h, by rw [hr.length, e]; exact Nat.le_refl _⟩, fun d hd => by
    obtain ⟨v, e1, e2⟩ := hr.get hd
    refine ⟨⟨vs, v, h, e1⟩, fun x H' y => ?_⟩
    obtain ⟨rfl, y2⟩ := y
    have := y2 vs h
    rw [e1] at this
    cases this
    exact ⟨F, Gr.refl b, e2⟩⟩
theorem I.seq {tg : Expr} (h : E X e f) : I X tg e (seqI f) := ⟨fun ρ P Q hpq q => h.mono ρ _ _ (seqOf_mono hpq) q, PI.weak (pi_seq h.run) fun σ H Rc ⟨Z, F, ρ, r, q⟩ => ⟨Z, F, ρ, r, h.mono ρ _ _ (fun d hd v F1 H1 g1 rep => by
    cases d with
    | lst ds =>
      obtain ⟨a, vs, rfl, e1, e2⟩ := (show ∃ a vs, v = V.ref a ∧ F1 a = some (.lst vs) ∧ Reps _ _ _ ds vs from rep)
      exact ⟨a, rfl, .inl ⟨⟨vs, SqL.of (g1.b.fh _ _ e1)⟩, hd _ F1 H1 g1 fun F2 H2 i ex b2 => turn_l b2 (b2.fh _ _ (ex _ _ e1)) (Reps.ex ex _ _ e2) i⟩⟩
    | tup ds =>
      obtain ⟨a, vs, rfl, e1, e2⟩ := (show ∃ a vs, v = V.ref a ∧ SqT _ F1 a vs ∧ Reps _ _ _ ds vs from rep)
      exact ⟨a, rfl, .inr ⟨⟨vs, sqt_ex g1.b.fh e1⟩, hd _ F1 H1 g1 fun F2 H2 i ex b2 => turn_t b2 (sqt_ex b2.fh (sqt_ex ex e1)) (Reps.ex ex _ _ e2) i⟩⟩
    | _ => exact hd.elim) q⟩⟩
theorem Ig.seq {tg : Expr} (h : P X e f) : Ig X tg e (seqI f) := ⟨fun ρ P Q hpq q => h.mono ρ _ _ (seqOf_mono hpq) q, PI.weak (pi_seq h.run) fun σ H Rc ⟨Z, F, ρ, r, q⟩ => ⟨Z, F, ρ, r, h.mono ρ _ _ (fun d hd v F1 H1 g1 rep => by
    cases d with
    | lst ds =>
      obtain ⟨a, vs, rfl, e1, e2, e3⟩ := rep.lst g1.b
      exact ⟨a, rfl, .inl ⟨⟨vs, SqL.of e1⟩, hd _ F1 H1 g1 fun F2 H2 i g2 => turn_l g2.b (g2.h _ _ e3 e1) (Reps.ex g2.f _ _ e2) i⟩⟩
    | tup ds =>
      obtain ⟨a, vs, rfl, e1, e2, e3⟩ := rep.tup g1.b
      exact ⟨a, rfl, .inr ⟨⟨vs, e1⟩, hd _ F1 H1 g1 fun F2 H2 i g2 => turn_t g2.b (sqt_ex g2.b.fh (sqt_ex g2.f e3)) (Reps.ex g2.f _ _ e2) i⟩⟩
    | _ => exact hd.elim) q⟩⟩
/-- lo, lo + 1, .. below hi -/
def rngD (lo hi : Int) : List D := (List.range (hi - lo).toNat).map fun (i : Nat) => D.int (lo + i)
theorem rngD_len {lo hi : Int} : (rngD lo hi).length = (hi - lo).toNat := by unfold rngD; rw [List.length_map, List.length_range]
theorem turn_r {K : Kf} {Z : Zs} {F H : Hp} {lo hi : Int} (b : Base K Z F H) (i : Nat) : TurnOk K Z (Itr lo (hi - lo).toNat) (rngD lo hi) F H i :=
  ⟨fun e => by rw [rngD_len] at e; exact Nat.le_of_eq e.symm, fun d hd => by
    have hi' : i < (hi - lo).toNat := by
      have := (List.getElem?_eq_some_iff.mp hd).1
      rw [rngD_len] at this; exact this
    refine ⟨hi', fun x H' y => ?_⟩
    obtain ⟨rfl, rfl⟩ := y
    refine ⟨F, Gr.refl b, ?_⟩
    unfold rngD at hd
    rw [List.getElem?_map, List.getElem?_range hi'] at hd
    cases hd
    exact rfl⟩
def rng1A (f : SA) : SA := fun ρ Q => f ρ fun ds => match ds with
  | [.int j] => (-(2 ^ 62) ≤ j ∧ j < 2 ^ 62) ∧ Q (rngD 0 j)
  | _ => False
def rng2A (f : SA) : SA := fun ρ Q => f ρ fun ds => match ds with
  | [.int i, .int j] => (-(2 ^ 62) ≤ i ∧ i < 2 ^ 62 ∧ -(2 ^ 62) ≤ j ∧ j < 2 ^ 62) ∧ Q (rngD i j)
  | _ => False
theorem RepPs.one {K : Kf} {rw : Option Addr} {F H : Hp} {d : D} {vs : List V} (h : RepPs K rw F H [d] vs) : ∃ v, vs = [v] ∧ RepP K rw F H d v := by
  cases h with
  | cons a b => cases b; exact ⟨_, rfl, a⟩
theorem RepPs.two {K : Kf} {rw : Option Addr} {F H : Hp} {d d2 : D} {vs : List V} (h : RepPs K rw F H [d, d2] vs) : ∃ v v2, vs = [v, v2] ∧ RepP K rw F H d v ∧ RepP K rw F H d2 v2 := by
  cases h with
  | cons a b => cases b with
    | cons a2 b2 => cases b2; exact ⟨_, _, rfl, a, a2⟩
theorem RepPs.three {K : Kf} {rw : Option Addr} {F H : Hp} {d d2 d3 : D} {vs : List V} (h : RepPs K rw F H [d, d2, d3] vs) : ∃ v v2 v3, vs = [v, v2, v3] ∧ RepP K rw F H d v ∧ RepP K rw F H d2 v2 ∧ RepP K rw F H d3 v3 := by
  cases h with
  | cons a b =>
    obtain ⟨v2, v3, rfl, h2, h3⟩ := b.two
    exact ⟨_, _, _, rfl, a, h2, h3⟩
theorem I.rng1 {tg : Expr} {es : List Expr} {fa : SA} (ha : Ap X es fa) (h : PI X tg e (iRng1 (TQof X.K fa))) : I X tg e (rng1A fa) := ⟨fun ρ P Q hpq q => ha.mono ρ _ _ (fun ds hd => by
    split at hd
    · exact ⟨hd.1, hpq _ hd.2⟩
    · exact hd.elim) q, PI.weak h fun σ H Rc ⟨Z, F, ρ, r, q⟩ => ⟨Z, F, ρ, r, ha.mono ρ _ _ (fun ds hd vs F1 H1 g1 reps => by
    split at hd
    · rename_i j
      obtain ⟨v, rfl, rep⟩ := reps.one
      refine ⟨j, by rw [rep.int], hd.1.1, hd.1.2, ?_⟩
      have := hd.2 (Itr 0 (j - 0).toNat) F1 H1 g1 fun F2 H2 i ex b2 => turn_r b2 i
      rw [Int.sub_zero] at this
      exact this
    · exact hd.elim) q⟩⟩
theorem I.rng2 {tg : Expr} {es : List Expr} {fa : SA} (ha : Ap X es fa) (h : PI X tg e (iRng2 (TQof X.K fa))) : I X tg e (rng2A fa) := ⟨fun ρ P Q hpq q => ha.mono ρ _ _ (fun ds hd => by
    split at hd
    · exact ⟨hd.1, hpq _ hd.2⟩
    · exact hd.elim) q, PI.weak h fun σ H Rc ⟨Z, F, ρ, r, q⟩ => ⟨Z, F, ρ, r, ha.mono ρ _ _ (fun ds hd vs F1 H1 g1 reps => by
    split at hd
    · rename_i i j
      obtain ⟨v, v2, rfl, rep, rep2⟩ := reps.two
      exact ⟨i, j, by rw [rep.int, rep2.int], hd.1, hd.2 _ F1 H1 g1 fun F2 H2 i ex b2 => turn_r b2 i⟩
    · exact hd.elim) q⟩⟩
/-- zip -/
def zipD : List D → List D → List D
  | x :: xs, y :: ys => .tup [x, y] :: zipD xs ys
  | _, _ => []
theorem zipD_get : ∀ {xs ys : List D} {i : Nat} {d : D}, (zipD xs ys)[i]? = some d → ∃ x y, xs[i]? = some x ∧ ys[i]? = some y ∧ d = .tup [x, y]
  | [], _, _, _, h => by simp [zipD] at h
  | _ :: _, [], _, _, h => by simp [zipD] at h
  | x :: xs, y :: ys, 0, d, h => by
    have e : D.tup [x, y] = d := by simpa [zipD] using h
    exact ⟨x, y, rfl, rfl, e.symm⟩
  | x :: xs, y :: ys, i + 1, d, h => by
    obtain ⟨u, v, h1, h2, h3⟩ := zipD_get (xs := xs) (ys := ys) (i := i) (by simpa [zipD] using h)
    exact ⟨u, v, by simpa using h1, by simpa using h2, h3⟩
theorem zipD_len : ∀ {xs ys : List D}, xs.length ≤ (zipD xs ys).length ∨ ys.length ≤ (zipD xs ys).length
  | [], _ => .inl (by simp)
  | _ :: _, [] => .inr (by simp)
  | x :: xs, y :: ys => by
    rcases zipD_len (xs := xs) (ys := ys) with h | h
    · left; simp [zipD]; exact h
    · right; simp [zipD]; exact h
def zipA (f : SA) : SA := fun ρ Q => f ρ fun ds => match ds with
  | [.lst xs, .lst ys] => Q (zipD xs ys)
  | [.tup xs, .tup ys] => Q (zipD xs ys)
  | _ => False
theorem turn_pair {K : Kf} {Z : Zs} {F H : Hp} {d d2 : D} {x y : V} (b : Base K Z F H) {T : Addr} (hT : H T = none) (h1 : Rep K Z.rw F d x) (h2 : Rep K Z.rw F d2 y) : ∃ F', Gr K Z F H F' (upd H T (.tup [x, y])) ∧ Rep K Z.rw F' (.tup [d, d2]) (.ref T) :=
  ⟨_, b.lay hT, T, [x, y], rfl, .inl (.inl upd_same), Reps.ex (Ex.upd (b.fh.none hT)) _ _ (Reps.two h1 h2)⟩
theorem Ig.zip {tg : Expr} {es : List Expr} {fa : SA} (ha : Ap X es fa) (h : PI X tg e (RZ.iZipA X.K (TQof X.K fa))) : Ig X tg e (zipA fa) := ⟨fun ρ P Q hpq q => ha.mono ρ _ _ (fun ds hd => by
    split at hd
    · exact hpq _ hd
    · exact hpq _ hd
    · exact hd.elim) q, PI.weak h fun σ H Rc ⟨Z, F, ρ, r, q⟩ => ⟨Z, F, ρ, r, ha.mono ρ _ _ (fun ds hd vs F1 H1 g1 reps => by
    split at hd
    · rename_i xs ys
      obtain ⟨v, v2, rfl, rep, rep2⟩ := reps.two
      obtain ⟨a, us, rfl, e1, e2, e3⟩ := rep.lst g1.b
      obtain ⟨a', us', rfl, e1', e2', e3'⟩ := rep2.lst g1.b
      refine ⟨a, a', us, us', rfl, .inl ⟨SqL.of e1, SqL.of e1', hd _ F1 H1 g1 fun F2 H2 i g2 => ?_⟩⟩
      have w1 := g2.h _ _ e3 e1
      have w2 := g2.h _ _ e3' e1'
      refine ⟨fun ei => ⟨us, us', SqL.of w1, SqL.of w2, ?_⟩, fun d hd => ?_⟩
      · rw [e2.length, e2'.length, ei]; exact zipD_len
      · obtain ⟨x, y, hx, hy, rfl⟩ := zipD_get hd
        obtain ⟨v, e4, e5⟩ := e2.get hx
        obtain ⟨v', e4', e5'⟩ := e2'.get hy
        refine ⟨⟨us, us', v, v', SqL.of w1, SqL.of w2, e4, e4'⟩, fun z H' yy => ?_⟩
        obtain ⟨T, z1, z2, rfl, hT, rfl, f1, f2⟩ := yy
        have g1' := f1 us (SqL.of w1)
        have g2' := f2 us' (SqL.of w2)
        rw [e4] at g1'
        rw [e4'] at g2'
        cases g1'
        cases g2'
        exact turn_pair g2.b hT (Rep.ex g2.f _ _ e5) (Rep.ex g2.f _ _ e5')
    · rename_i xs ys
      obtain ⟨v, v2, rfl, rep, rep2⟩ := reps.two
      obtain ⟨a, us, rfl, e1, e2, e3⟩ := rep.tup g1.b
      obtain ⟨a', us', rfl, e1', e2', e3'⟩ := rep2.tup g1.b
      refine ⟨a, a', us, us', rfl, .inr ⟨e1, e1', hd _ F1 H1 g1 fun F2 H2 i g2 => ?_⟩⟩
      have w1 := sqt_ex g2.b.fh (sqt_ex g2.f e3)
      have w2 := sqt_ex g2.b.fh (sqt_ex g2.f e3')
      refine ⟨fun ei => ⟨us, us', w1, w2, ?_⟩, fun d hd => ?_⟩
      · rw [e2.length, e2'.length, ei]; exact zipD_len
      · obtain ⟨x, y, hx, hy, rfl⟩ := zipD_get hd
        obtain ⟨v, e4, e5⟩ := e2.get hx
        obtain ⟨v', e4', e5'⟩ := e2'.get hy
        refine ⟨⟨us, us', v, v', w1, w2, e4, e4'⟩, fun z H' yy => ?_⟩
        obtain ⟨T, z1, z2, rfl, hT, rfl, f1, f2⟩ := yy
        have g1' := f1 us w1
        have g2' := f2 us' w2
        rw [e4] at g1'
        rw [e4'] at g2'
        cases g1'
        cases g2'
        exact turn_pair g2.b hT (Rep.ex g2.f _ _ e5) (Rep.ex g2.f _ _ e5')
    · exact hd.elim) q⟩⟩

/-! ### loops -/
def loopK (n : REnv → Prop) (k : Kt) : Kt := { nx := n, ct := n, bk := k.nx, rt := k.rt }
theorem loopK_le {a b : REnv → Prop} {k l : Kt} (h : ∀ ρ, a ρ → b ρ) (hk : Kt.le k l) : Kt.le (loopK a k) (loopK b l) := ⟨h, hk.2.1, hk.1, h⟩
def whN (t : ST) (s : SS) : Nat → SS
  | 0 => fun _ _ => False
  | n + 1 => fun ρ k => t ρ fun b => br b (s ρ (loopK (fun ρ' => whN t s n ρ' k) k)) (k.nx ρ)
def whS (t : ST) (s : SS) : SS := fun ρ k => ∃ n, whN t s n ρ k
theorem whN_mono {t : ST} (mt : MonoE t) (ms : MonoS s) : ∀ n, MonoS (whN t s n)
  | 0 => fun _ _ _ _ q => q
  | n + 1 => fun ρ k l hk q => mt ρ _ _ (fun b hb => br_imp hb (fun z => ms ρ (loopK (fun ρ' => whN t s n ρ' k) k) _ (loopK_le (fun ρ' y => whN_mono mt ms n ρ' k l hk y) hk) z) (hk.1 _)) q
theorem S.wh {tt : ST} {xs : List Stmt} (ht : T X c tt) (hs : Ss X xs s) (h : PS X st (tWhile (TTof X.K tt) (TSof X.K s))) : S X st (whS tt s) :=
  ⟨fun ρ k l hk ⟨n, q⟩ => ⟨n, whN_mono ht.mono hs.mono n ρ k l hk q⟩, PS.weak h fun D σ H ⟨Z, F, ρ, r, n, q⟩ => by
    refine ⟨fun m σ' H' => ∃ F' ρ', Ex F F' ∧ R X.K Z F' ρ' σ' H' ∧ whN tt s m ρ' (kOf X.K Z F D), ⟨n, F, ρ, Ex.refl _, r, q⟩, ?_⟩
    rintro m σ' H' ⟨F', ρ', ex, r', q'⟩
    cases m with
    | zero => exact q'.elim
    | succ m =>
      refine ⟨Z, F', ρ', r', ht.mono ρ' _ _ (fun b hb F2 H2 g2 => br_ite (br_imp hb (fun z => ?_) (fun z => z σ' F2 H2 (ex.trans g2.f) (r'.grow g2)))) q'⟩
      refine ⟨fun σ3 H3 => ∃ F3 ρ3, Ex F F3 ∧ R X.K Z F3 ρ3 σ3 H3 ∧ whN tt s m ρ3 (kOf X.K Z F D), fun σ3 H3 h3 => ⟨m, Nat.lt_succ_self m, h3⟩, ?_⟩
      refine ⟨Z, F2, ρ', r'.grow g2, hs.mono ρ' (loopK (fun ρ3 => whN tt s m ρ3 (kOf X.K Z F D)) (kOf X.K Z F D)) _ ⟨fun ρ3 y σ3 F3 H3 e3 r3 => ⟨F3, ρ3, (ex.trans g2.f).trans e3, r3, y⟩, fun d y v F3 H3 e3 b3 rep => y v F3 H3 ((ex.trans g2.f).trans e3) b3 rep, fun ρ3 y σ3 F3 H3 e3 r3 => y σ3 F3 H3 ((ex.trans g2.f).trans e3) r3, fun ρ3 y σ3 F3 H3 e3 r3 => ⟨F3, ρ3, (ex.trans g2.f).trans e3, r3, y⟩⟩ z⟩⟩
def forL (g : SG) (s : SS) : List D → SS
  | [] => fun ρ k => k.nx ρ
  | d :: ds => fun ρ k => g d ρ fun ρ1 => s ρ1 (loopK (fun ρ' => forL g s ds ρ' k) k)
theorem forL_mono {g : SG} (mg : MonoG g) (ms : MonoS s) : ∀ ds, MonoS (forL g s ds)
  | [] => fun _ _ _ hk q => hk.1 _ q
  | d :: ds => fun ρ k l hk q => mg d ρ _ _ (fun ρ1 z => ms ρ1 (loopK (fun ρ' => forL g s ds ρ' k) k) _ (loopK_le (fun ρ' y => forL_mono mg ms ds ρ' k l hk y) hk) z) q
def forS (it : SA) (g : SG) (s : SS) : SS := fun ρ k => it ρ fun xs => forL g s xs ρ k
theorem S.for {tg iter : Expr} {it : SA} {is : List Nat} {g : SG} {xs : List Stmt} (hi : I X tg iter it) (hg : G X tg is g) (hs : Ss X xs s) (h : PS X st (tFor (TIof X.K it) (TGof X.K is g) (TSof X.K s))) : S X st (forS it g s) :=
  ⟨fun ρ k l hk q => hi.mono ρ _ _ (fun ds hd => forL_mono hg.mono hs.mono ds ρ k l hk hd) q, PS.weak h fun D σ H ⟨Z, F, ρ, r, q⟩ => by
    refine ⟨Z, F, ρ, r, hi.mono ρ _ _ (fun ds hd J F1 H1 g1 hit => ?_) q⟩
    refine ⟨fun i m σ' H' => m = ds.length - i ∧ i ≤ ds.length ∧ ∃ F' ρ', Ex F1 F' ∧ R X.K Z F' ρ' σ' H' ∧ forL g s (ds.drop i) ρ' (kOf X.K Z F D), ⟨ds.length, by simp, Nat.zero_le _, F1, ρ, Ex.refl _, r.grow g1, hd⟩, ?_⟩
    rintro i m σ' H' ⟨rfl, hle, F', ρ', ex, r', q'⟩
    obtain ⟨t1, t2⟩ := hit F' H' i ex r'.base
    by_cases hlt : i < ds.length
    · right
      have hdrop : ds.drop i = ds[i] :: ds.drop (i + 1) := List.drop_eq_getElem_cons hlt
      rw [hdrop] at q'
      obtain ⟨t3, t4⟩ := t2 ds[i] (List.getElem?_eq_getElem hlt)
      refine ⟨t3, fun σ3 H3 => ∃ F3 ρ3, Ex F1 F3 ∧ R X.K Z F3 ρ3 σ3 H3 ∧ forL g s (ds.drop (i + 1)) ρ3 (kOf X.K Z F D), fun σ3 H3 h3 => ⟨ds.length - (i + 1), by omega, rfl, hlt, h3⟩, fun x H2 y => ?_⟩
      obtain ⟨F2, g2, rep⟩ := t4 x H2 y
      refine ⟨Z, F2, ρ', ds[i], r'.grow g2, rep, hg.mono _ ρ' _ _ (fun ρ1 z σ1 r1 _ => ⟨Z, F2, ρ1, r1, hs.mono ρ1 (loopK (fun ρ3 => forL g s (ds.drop (i + 1)) ρ3 (kOf X.K Z F D)) (kOf X.K Z F D)) _ ?_ z⟩) q'⟩
      have ex2 : Ex F1 F2 := ex.trans g2.f
      exact ⟨fun ρ3 y σ3 F3 H3 e3 r3 => ⟨F3, ρ3, ex2.trans e3, r3, y⟩, fun d y v F3 H3 e3 b3 rep => y v F3 H3 (g1.f.trans (ex2.trans e3)) b3 rep, fun ρ3 y σ3 F3 H3 e3 r3 => y σ3 F3 H3 (g1.f.trans (ex2.trans e3)) r3, fun ρ3 y σ3 F3 H3 e3 r3 => ⟨F3, ρ3, ex2.trans e3, r3, y⟩⟩
    · left
      have e : i = ds.length := by omega
      subst e
      rw [List.drop_length] at q'
      exact ⟨t1 rfl, q' σ' F' H' (g1.f.trans ex) r'⟩⟩

/-! ### comprehensions -/
def lcL (g : SG) (t : ST) (f : SE) (ρ : REnv) : List D → (List D → Prop) → Prop
  | [], Q => Q []
  | d :: ds, Q => g d ρ fun ρ1 => t ρ1 fun b => br b (f ρ1 fun y => lcL g t f ρ ds fun ys => Q (y :: ys)) (lcL g t f ρ ds Q)
theorem lcL_mono {g : SG} {t : ST} (mg : MonoG g) (mt : MonoE t) (mf : MonoE f) {ρ : REnv} : ∀ (ds : List D) (P Q : List D → Prop), (∀ d, P d → Q d) → lcL g t f ρ ds P → lcL g t f ρ ds Q
  | [], _, _, h, q => h _ q
  | d :: ds, P, Q, h, q => mg d ρ _ _ (fun ρ1 z => mt ρ1 _ _ (fun b hb => br_imp hb (fun z => mf ρ1 _ _ (fun y hy => lcL_mono mg mt mf ds _ _ (fun ys hys => h _ hys) hy) z) (fun z => lcL_mono mg mt mf ds _ _ h z)) z) q
def wipeE (ρ : REnv) : List Nat → REnv
  | [] => ρ
  | v :: vs => (wipeE ρ vs).set v none
theorem R.wipe {K : Kf} {Z : Zs} {F H : Hp} {ρ : REnv} {σ : L2.St} (r : R K Z F ρ σ H) : ∀ vs : List Nat, R K Z F (wipeE ρ vs) (wipe σ vs) H
  | [] => r
  | v :: vs => by
    have q := R.wipe r vs
    unfold wipeE L2.wipe
    have key : ∀ (j : Nat) (s : Slot), ((wipeE ρ vs).set v none)[j]? = some (some s) → v ≠ j ∧ (wipeE ρ vs)[j]? = some (some s) := fun j s e => by
      by_cases hj : v = j
      · subst hj
        rw [List.getElem?_set] at e
        simp only [if_true] at e
        split at e <;> cases e
      · rw [List.getElem?_set_ne hj] at e; exact ⟨hj, e⟩
    refine ⟨q.base, by rw [List.length_set, List.length_set]; exact q.len, fun j s e => ?_, fun i j s1 s2 a m1 m2 e1 e2 e3 e4 => ?_⟩
    · obtain ⟨hj, e⟩ := key j s e
      have w := q.slot j s e
      cases s with
      | sh d => obtain ⟨u, e1, e2⟩ := w; exact ⟨u, by rw [List.getElem?_set_ne hj]; exact e1, e2⟩
      | own ds => obtain ⟨u, us, e1, e2⟩ := w; exact ⟨u, us, by rw [List.getElem?_set_ne hj]; exact e1, e2⟩
      | dic b kvs => obtain ⟨u, us, e1, e2⟩ := w; exact ⟨u, us, by rw [List.getElem?_set_ne hj]; exact e1, e2⟩
    · obtain ⟨h1, e1⟩ := key i _ e1
      obtain ⟨h2, e2⟩ := key j _ e2
      rw [List.getElem?_set_ne h1] at e3
      rw [List.getElem?_set_ne h2] at e4
      exact q.apart i j s1 s2 a m1 m2 e1 e2 e3 e4
def lcA (it : SA) (g : SG) (t : ST) (f : SE) (vs : List Nat) : SA := fun ρ Q => it ρ fun xs => xs.length ≤ big ∧ lcL g t f (wipeE ρ vs) xs Q
theorem lc_tp {K : Kf} {it : SA} {g : SG} {t : ST} {is vs : List Nat} (mi : MonoE it) (mg : MonoG g) (mt : MonoE t) (mf : MonoE f) (hv : ∀ i ∈ is, i ∈ vs) : ∀ σ H Q, TFof K (lcA it g t f vs) σ H Q →
    tLc (TIGof K it) (TGof K is g) (TTof K t) (TEof K f) vs σ H Q := fun σ H Q ⟨Z, F, ρ, r, q⟩ => by
  refine ⟨Z, F, ρ, r, mi ρ _ _ (fun xs hx J F1 H1 g1 hit => ?_) q⟩
  intro D hD
  obtain ⟨hlen, hx⟩ := hx
  have r1 := r.grow g1
  have nrow := g1.b.norow hD
  have hF1 : F1 D = none := g1.b.fh.none hD
  -- the heap without the list that grows
  refine ⟨fun i m H' => m = xs.length - i ∧ i ≤ xs.length ∧ ∃ F' acc us, Gr K Z F1 H1 F' H' ∧ F' D = none ∧ H' D = some (.lst us) ∧ Reps K Z.rw F' acc us ∧ acc.length ≤ i ∧ lcL g t f (wipeE ρ vs) (xs.drop i) (fun ys => ∀ p us F' H', Gr K Z F H F' H' → H p = none → Fresh Z F' ρ σ p → H' p = some (.lst us) → Reps K Z.rw F' (acc ++ ys) us → Q (.ref p) H'), ⟨xs.length, by simp, Nat.zero_le _, F1, [], [], g1.b.lay0 hD, hF1, upd_same, rfl, Nat.zero_le _, ?_⟩, ?_⟩
  · simpa using hx
  rintro i m H' ⟨rfl, hle, F', acc, us, g2, hFD, hHD, reps, hacc, q'⟩
  obtain ⟨t1, t2⟩ := hit F' H' i g2
  by_cases hlt : i < xs.length
  · right
    have hdrop : xs.drop i = xs[i] :: xs.drop (i + 1) := List.drop_eq_getElem_cons hlt
    rw [hdrop] at q'
    obtain ⟨t3, t4⟩ := t2 xs[i] (List.getElem?_eq_getElem hlt)
    refine ⟨t3, fun H3 => ∃ F3 acc us, Gr K Z F1 H1 F3 H3 ∧ F3 D = none ∧ H3 D = some (.lst us) ∧ Reps K Z.rw F3 acc us ∧ acc.length ≤ i + 1 ∧ lcL g t f (wipeE ρ vs) (xs.drop (i + 1)) (fun ys => ∀ p us F' H', Gr K Z F H F' H' → H p = none → Fresh Z F' ρ σ p → H' p = some (.lst us) → Reps K Z.rw F' (acc ++ ys) us → Q (.ref p) H'), fun H3 h3 => ⟨xs.length - (i + 1), by omega, rfl, hlt, h3⟩, fun x H2 y => ?_⟩
    obtain ⟨F2, g3, rep⟩ := t4 x H2 y
    have keepD : ∀ {Fa Ha Fb Hb : Hp}, Gr K Z Fa Ha Fb Hb → Fa D = none → Ha D = some (.lst us) → Fb D = none ∧ Hb D = some (.lst us) := fun {Fa Ha Fb Hb} gg h1 h2 => by
      refine ⟨?_, gg.h D _ nrow h2⟩
      cases z : Fb D with
      | none => rfl
      | some o =>
        rcases gg.n D (by rw [z]; simp) with w | w
        · exact absurd h1 w
        · rw [h2] at w; cases w
    obtain ⟨d1, d2⟩ := keepD g3 hFD hHD
    refine ⟨Z, F2, wipeE ρ vs, xs[i], ((r.grow g1).grow (g2.trans g3)).wipe vs, rep, mg _ _ _ _ (fun ρ1 z σ1 r1' hw => ⟨by rw [hw vs hv]; exact wipe_wipe, Z, F2, ρ1, r1', mt ρ1 _ _ (fun b hb F4 H4 g4 => ?_) z⟩) q'⟩
    obtain ⟨d3, d4⟩ := keepD g4 d1 d2
    refine br_ite (br_imp hb (fun z => ?_) (fun z => ?_))
    · refine ⟨Z, F4, ρ1, r1'.grow g4, mf ρ1 _ _ (fun yv hy v F5 H5 g5 rep5 => ?_) z⟩
      obtain ⟨d5, d6⟩ := keepD g5 d3 d4
      have gg : Gr K Z F1 H1 F5 H5 := (g2.trans g3).trans (g4.trans g5)
      refine ⟨us, d6, by rw [reps.length]; exact big_lt (by have := hlen; omega), F5, acc ++ [yv], us ++ [v], ?_, d5, upd_same, Reps.app (Reps.ex ((g3.trans g4).trans g5).f _ _ reps) (Reps.one rep5), by rw [List.length_append]; simp; exact hacc, ?_⟩
      · -- the list at D has grown: it is not frozen, not the row, not at the entry
        have hH1 : H1 D = none := hD
        refine ⟨gg.f, fun a o n e => ?_, ⟨fun a u e => ?_, gg.b.f0, fun a u n e => ?_, gg.b.new, fun a e => ?_, gg.b.frow⟩, gg.n⟩
        · rw [upd_ne (ne_of_none e hH1)]; exact gg.h a o n e
        · rw [upd_ne (fun z : a = D => by rw [z, d5] at e; cases e)]; exact gg.b.fh a u e
        · rw [upd_ne (fun z : a = D => by rw [z, g1.b.h0 hD] at e; cases e)]; exact gg.b.hh a u n e
        · obtain ⟨sc, ns, p, mm, tt, w1, w2, w3⟩ := gg.b.row a e
          refine ⟨sc, ns, p, mm, tt, ?_, w2.keep fun o q => ?_, w3⟩
          · rw [upd_ne (fun z : a = D => nrow (by rw [← z]; exact e))]; exact w1
          · rw [upd_ne (fun z : sc = D => by rw [z, d6] at q; cases q)]; exact q
      · refine lcL_mono mg mt mf _ _ _ (fun ys hys p us' F' H' g' h0 fr hp reps' => hys p us' F' H' g' h0 fr hp ?_) hy
        rw [List.append_assoc] at reps'
        exact reps'
    · exact ⟨F4, acc, us, (g2.trans g3).trans g4, d3, d4, Reps.ex (g3.trans g4).f _ _ reps, Nat.le_succ_of_le hacc, z⟩
  · left
    have e : i = xs.length := by omega
    subst e
    rw [List.drop_length] at q'
    have q2 := q' D us F' H' (g1.trans g2) (back_none r.base g1 hD) ⟨hFD, g1.b.h0 hD, nrow, own_ne (r.grow g1) hD⟩ hHD (by rw [List.append_nil]; exact reps)
    exact ⟨t1 rfl, q2⟩
end

/-! ### comprehensions, the rules -/
structure Tl (X : Cx) (ifs : List Expr) (f : ST) : Prop where
  mono : MonoE f
  run : PTs X ifs (TTof X.K f)
section
variable {X : Cx} {e a b c : Expr} {f g k : SE} {pos : Pos} {st : Stmt} {rest : List Stmt} {s t : SS}
def yesT : ST := fun _ Q => Q true
theorem PTs.weak {ifs : List Expr} {t t' : TT} (h : PTs X ifs t) (hw : ∀ σ H Q, t' σ H Q → t σ H Q) : PTs X ifs t' := ⟨fun pins s σ H Q I q => h.run pins s σ H Q I (hw σ H Q q)⟩
theorem Tl.nil : Tl X [] yesT := ⟨fun _ _ _ h q => h _ q, PTs.weak pts_nil fun σ H Q ⟨Z, F, ρ, r, q⟩ => q F H (Gr.refl r.base)⟩
theorem Tl.one {f : ST} (h : T X c f) : Tl X [c] f := ⟨h.mono, pts_one h.run⟩
abbrev Blk (X : Cx) (scope : Scope) (p : Cx → Prop) : Prop := ∀ (s : Shared) (H : Hp) (C : Addr) (cl : List (Str × Addr)) (fp : List Addr), p (X.blk s H scope (compEnvC scope cl C X.env) fp)
theorem Blk.any {scope : Scope} {p : Cx → Prop} (h : Blk X scope p) : ∃ Y, p Y := ⟨_, h X.s_0 X.H_0 0 [] []⟩
theorem F.lc {elt tg iter : Expr} {ifs : List Expr} {scope : Scope} {own : List (Str × Nat)} {it : SA} {is : List Nat} {gg : SG} {tt : ST} (hc : X.calm = true) (hN : X.N.Nodup) (ok : BlkOk X.N X.env.scope scope own) (hv : ∀ i ∈ is, i ∈ own.map (·.2))
    (hi : Ig X tg iter it) (hg : Blk X scope fun Y => G Y tg is gg) (ht : Blk X scope fun Y => Tl Y ifs tt) (he : Blk X scope fun Y => E Y elt f) (hs : ∀ x, foldedSetIterable iter X.env x = pure x := by intro _; rfl) :
    F X (.ListComp elt [⟨tg, iter, ifs, 0⟩] scope pos) (lcA it gg tt f (own.map (·.2))) := by
  obtain ⟨_, mg⟩ := Blk.any hg
  obtain ⟨_, mt⟩ := Blk.any ht
  obtain ⟨_, me⟩ := Blk.any he
  exact ⟨fun ρ P Q h q => hi.mono ρ _ _ (fun xs hx => ⟨hx.1, lcL_mono mg.mono mt.mono me.mono _ _ _ h hx.2⟩) q,
    PE.weak (pe_lc hc hN hi.run ok (fun s H C cl fp => (hg s H C cl fp).run) (fun s H C cl fp => (ht s H C cl fp).run) (fun s H C cl fp => (he s H C cl fp).run) hs) (lc_tp hi.mono mg.mono mt.mono me.mono hv)⟩
/-- y = [..], y a local: a list of one's own -/
theorem S.lcO {i : Nat} {y : Str} {py spos : Pos} {elt tg iter : Expr} {ifs : List Expr} {scope : Scope} {own : List (Str × Nat)} {it : SA} {is : List Nat} {gg : SG} {tt : ST} (hc : X.calm = true) (hN : X.N.Nodup) (hy : X.N[i]? = some y) (hyl : X.env.scope.names.lookup y = some .local)
    (hsw : swapsWith (.ListComp elt [⟨tg, iter, ifs, 0⟩] scope pos) (some (.Name y py)) spos.line X.env = pure true) (ok : BlkOk X.N X.env.scope scope own) (hv : ∀ i ∈ is, i ∈ own.map (·.2))
    (hi : Ig X tg iter it) (hg : Blk X scope fun Y => G Y tg is gg) (ht : Blk X scope fun Y => Tl Y ifs tt) (he : Blk X scope fun Y => E Y elt f) (hs : ∀ x, foldedSetIterable iter X.env x = pure x := by intro _; rfl) :
    S X (.Assign [.Name y py] (.ListComp elt [⟨tg, iter, ifs, 0⟩] scope pos) spos) (Z0.setO i (lcA it gg tt f (own.map (·.2)))) := by
  obtain ⟨_, mg⟩ := Blk.any hg
  obtain ⟨_, mt⟩ := Blk.any ht
  obtain ⟨_, me⟩ := Blk.any he
  have mm : MonoE (lcA it gg tt f (own.map (·.2))) := fun ρ P Q h q => hi.mono ρ _ _ (fun xs hx => ⟨hx.1, lcL_mono mg.mono mt.mono me.mono _ _ _ h hx.2⟩) q
  exact ⟨setO_mono mm, PS.weak (ps_setLc hc hN hy hyl hsw hi.run ok (fun s H C cl fp => (hg s H C cl fp).run) (fun s H C cl fp => (ht s H C cl fp).run) (fun s H C cl fp => (he s H C cl fp).run) hs)
    fun D σ H q => lc_tp hi.mono mg.mono mt.mono me.mono hv σ H _ (setO_tp mm D σ H q)⟩
/-- .. a datum at once -/
theorem S.lc {i : Nat} {y : Str} {py spos : Pos} {elt tg iter : Expr} {ifs : List Expr} {scope : Scope} {own : List (Str × Nat)} {it : SA} {is : List Nat} {gg : SG} {tt : ST} (hc : X.calm = true) (hN : X.N.Nodup) (hy : X.N[i]? = some y) (hyl : X.env.scope.names.lookup y = some .local)
    (hsw : swapsWith (.ListComp elt [⟨tg, iter, ifs, 0⟩] scope pos) (some (.Name y py)) spos.line X.env = pure true) (ok : BlkOk X.N X.env.scope scope own) (hv : ∀ i ∈ is, i ∈ own.map (·.2))
    (hi : Ig X tg iter it) (hg : Blk X scope fun Y => G Y tg is gg) (ht : Blk X scope fun Y => Tl Y ifs tt) (he : Blk X scope fun Y => E Y elt f) (hs : ∀ x, foldedSetIterable iter X.env x = pure x := by intro _; rfl) :
    S X (.Assign [.Name y py] (.ListComp elt [⟨tg, iter, ifs, 0⟩] scope pos) spos) (setS i (fun ρ Q => lcA it gg tt f (own.map (·.2)) ρ fun ds => Q (.lst ds))) := by
  obtain ⟨_, mg⟩ := Blk.any hg
  obtain ⟨_, mt⟩ := Blk.any ht
  obtain ⟨_, me⟩ := Blk.any he
  have mm : MonoE (lcA it gg tt f (own.map (·.2))) := fun ρ P Q h q => hi.mono ρ _ _ (fun xs hx => ⟨hx.1, lcL_mono mg.mono mt.mono me.mono _ _ _ h hx.2⟩) q
  refine ⟨fun ρ k l hk q => mm ρ _ _ (fun ds hd => hk.1 _ hd) q, PS.weak (ps_setLc hc hN hy hyl hsw hi.run ok (fun s H C cl fp => (hg s H C cl fp).run) (fun s H C cl fp => (ht s H C cl fp).run) (fun s H C cl fp => (he s H C cl fp).run) hs)
    fun D σ H q => lc_tp hi.mono mg.mono mt.mono me.mono hv σ H _ ?_⟩
  obtain ⟨Z, F, ρ, r, q⟩ := q
  refine ⟨Z, F, ρ, r, mm ρ _ _ (fun ds hd p vs F' H' g h0 fr hp rs => ?_) q⟩
  have g2 := freeze r g fr hp h0
  exact hd _ _ H' g2.f ((r.grow g2).setSh i (v := .ref p) ⟨p, vs, rfl, upd_same, Reps.ex (Ex.upd fr.1) _ _ rs⟩)
end

/-! ### operators -/
def small (j : Int) : Prop := j.natAbs < 2 ^ 8000
theorem small_of {j : Int} (h : j.natAbs < 2 ^ 200) : small j := Nat.lt_of_lt_of_le h (Nat.pow_le_pow_right (by decide) (by decide))
def mulOk (i j : Int) : Prop := i.natAbs < 2 ^ 64 ∨ j.natAbs < 2 ^ 64 ∨ (i.natAbs < 2 ^ 400000 ∧ j.natAbs < 2 ^ 400000)
theorem mulOk_ok {i j : Int} (h : mulOk i j) : IntMulOk i j := by
  rcases h with h | h | ⟨h, h'⟩
  · exact CMul.ok (.inl (by omega))
  · exact CMul.ok (.inr (by omega))
  · exact (wide_mul h h' (by decide) (by decide) (by decide)).ok
section
variable {X : Cx}
theorem op_mulS : OpR X (binaryOp .Mult) (rI mulOk fun i j => .int (i * j)) := opI fun _ _ _ _ _ _ _ hc q => mul_int q (mulOk_ok hc)
theorem op_fdivS : OpR X (binaryOp .FloorDiv) (rI (fun _ j => j ≠ 0 ∧ small j) fun i j => .int (i.fdiv j)) := opI fun i j _ _ _ _ _ hc q =>
  floordiv_int hc.1 q (.inl (PyProof.noPylong_of_log2 (Nat.lt_of_lt_of_le (PySem.Flt.log2_lt_of (by decide) hc.2) (by decide))))
end
section
variable {K : Kf}
def intO (C : Int → Int → Prop) (p : Int → Int → D) : O2 := fun x y Q => match x, y with
  | .int i, .int j => C i j ∧ Q (p i j)
  | _, _ => False
theorem intO_mono {C : Int → Int → Prop} {p : Int → Int → D} : Mono2 (intO C p) := fun x y P Q h q => by
  unfold intO at *
  split at q
  · exact ⟨q.1, h _ q.2⟩
  · exact q.elim
theorem intO_s {C : Int → Int → Prop} {p : Int → Int → D} {v : Int → Int → V} (hp : ∀ i j rw F, Rep K rw F (p i j) (v i j)) : OpS K (rI C v) (intO C p) := fun Z F H dx dy x y Q b rx ry q => by
  unfold intO at q
  split at q
  · rename_i i j
    exact ⟨i, j, rx.int, ry.int, q.1, q.2 _ F H (Gr.refl b) (hp i j _ _)⟩
  · exact q.elim
def int0 (p : Int → Int → D) : O2 := fun x y Q => match x, y with
  | .int i, .int j => Q (p i j)
  | _, _ => False
theorem int0_mono {p : Int → Int → D} : Mono2 (int0 p) := fun x y P Q h q => by
  unfold int0 at *
  split at q
  · exact h _ q
  · exact q.elim
theorem int0_s {p : Int → Int → D} {v : Int → Int → V} (hp : ∀ i j rw F, Rep K rw F (p i j) (v i j)) : OpS K (rI0 v) (int0 p) := fun Z F H dx dy x y Q b rx ry q => by
  unfold int0 at q
  split at q
  · rename_i i j
    exact ⟨i, j, rx.int, ry.int, q _ F H (Gr.refl b) (hp i j _ _)⟩
  · exact q.elim
theorem OpS.or1 {r r' : R2} {o : O2} (h : OpS K r o) : OpS K (fun x y H Q => r x y H Q ∨ r' x y H Q) o := fun Z F H dx dy x y Q b rx ry q => .inl (h Z F H dx dy x y Q b rx ry q)
abbrev subO : O2 := int0 fun i j => .int (i - j)
abbrev ltO : O2 := int0 fun i j => .bl (decide (i < j))
abbrev leO : O2 := int0 fun i j => .bl (decide (i ≤ j))
abbrev gtO : O2 := int0 fun i j => .bl (decide (j < i))
abbrev geO : O2 := int0 fun i j => .bl (decide (j ≤ i))
abbrev modO : O2 := intO (fun _ j => j ≠ 0) fun i j => .int (i.fmod j)
abbrev fdivO : O2 := intO (fun _ j => j ≠ 0 ∧ small j) fun i j => .int (i.fdiv j)
abbrev powO : O2 := intO CPow fun i j => .int (i ^ j.toNat)
/-- ints, tuples, lists -/
def addO : O2 := fun x y Q => match x, y with
  | .int i, .int j => Q (.int (i + j))
  | .tup xs, .tup ys => xs.length + ys.length ≤ big ∧ Q (.tup (xs ++ ys))
  | .lst xs, .lst ys => xs.length + ys.length ≤ big ∧ Q (.lst (xs ++ ys))
  | _, _ => False
theorem addO_mono : Mono2 addO := fun x y P Q h q => by
  unfold addO at *
  split at q
  · exact h _ q
  · exact ⟨q.1, h _ q.2⟩
  · exact ⟨q.1, h _ q.2⟩
  · exact q.elim
theorem addO_s : OpS K (fun x y H Q => rI0 (fun i j => .int (i + j)) x y H Q ∨ (rCatA K x y H Q ∨ rCat x y H Q)) addO := fun Z F H dx dy x y Q b rx ry q => by
  unfold addO at q
  split at q
  · rename_i i j
    exact .inl ⟨i, j, rx.int, ry.int, q _ F H (Gr.refl b) rfl⟩
  · rename_i xs ys
    obtain ⟨a, us, rfl, e1, e2, e3⟩ := rx.tup b
    obtain ⟨a', us', rfl, e1', e2', e3'⟩ := ry.tup b
    refine .inr (.inl ⟨a, a', us, us', rfl, rfl, e1, e1', by rw [e2.length, e2'.length]; exact big_line q.1, fun z => ?_, fun _ z => ?_, fun _ _ p hp => ?_⟩)
    · have hx : xs = [] := List.eq_nil_of_length_eq_zero (by rw [← e2.length, z]; rfl)
      subst hx
      exact q.2 _ F H (Gr.refl b) ⟨a', us', rfl, e3', e2'⟩
    · have hy : ys = [] := List.eq_nil_of_length_eq_zero (by rw [← e2'.length, z]; rfl)
      subst hy
      exact q.2 _ F H (Gr.refl b) ⟨a, us, rfl, e3, by rw [List.append_nil]; exact e2⟩
    · exact q.2 _ _ _ (b.lay hp) ⟨p, _, rfl, .inl (.inl upd_same), Reps.ex (Ex.upd (b.fh.none hp)) _ _ (Reps.app e2 e2')⟩
  · rename_i xs ys
    obtain ⟨a, us, rfl, e1, e2, _⟩ := rx.lst b
    obtain ⟨a', us', rfl, e1', e2', _⟩ := ry.lst b
    exact .inr (.inr ⟨a, a', us, us', rfl, rfl, e1, e1', by rw [e2.length, e2'.length]; exact big_line q.1, fun p hp => q.2 _ _ _ (b.lay hp) ⟨p, _, rfl, upd_same, Reps.ex (Ex.upd (b.fh.none hp)) _ _ (Reps.app e2 e2')⟩⟩)
  · exact q.elim
/-- lists alone, a new list -/
def catF : OF2 := fun x y Q => match x, y with
  | .lst xs, .lst ys => xs.length + ys.length ≤ big ∧ Q (xs ++ ys)
  | _, _ => False
theorem catF_mono : MonoF2 catF := fun x y P Q h q => by
  unfold catF at *
  split at q
  · exact ⟨q.1, h _ q.2⟩
  · exact q.elim
theorem catF_s : OpF K rCat catF := fun Z F H dx dy x y Q b rx ry q => by
  unfold catF at q
  split at q
  · obtain ⟨a, us, rfl, e1, e2, _⟩ := rx.lst b
    obtain ⟨a', us', rfl, e1', e2', _⟩ := ry.lst b
    exact ⟨a, a', us, us', rfl, rfl, e1, e1', by rw [e2.length, e2'.length]; exact big_line q.1, fun p hp => q.2 p _ hp (Reps.app e2 e2')⟩
  · exact q.elim
/-- ints, a list by a number -/
def mulO : O2 := intO mulOk fun i j => .int (i * j)
def repF : OF2 := fun x y Q => match x, y with
  | .lst xs, .int k => (k < 2 ^ 63 ∧ -(2 ^ 63) ≤ k ∧ xs.length * k.toNat ≤ big) ∧ Q (List.replicate k.toNat xs).flatten
  | _, _ => False
theorem repF_mono : MonoF2 repF := fun x y P Q h q => by
  unfold repF at *
  split at q
  · exact ⟨q.1, h _ q.2⟩
  · exact q.elim
theorem Reps.rep {K : Kf} {rw : Option Addr} {F : Hp} {ds : List D} {vs : List V} (h : Reps K rw F ds vs) : ∀ k : Nat, Reps K rw F (List.replicate k ds).flatten (List.replicate k vs).flatten
  | 0 => rfl
  | k + 1 => by
    rw [List.replicate_succ, List.replicate_succ, List.flatten_cons, List.flatten_cons]
    exact Reps.app h (Reps.rep h k)
theorem repF_s : OpF K rRep repF := fun Z F H dx dy x y Q b rx ry q => by
  unfold repF at q
  split at q
  · rename_i xs k
    obtain ⟨a, us, rfl, e1, e2, _⟩ := rx.lst b
    exact ⟨a, k, us, rfl, ry.int, e1, q.1.2.1, q.1.1, by rw [e2.length]; exact big_line q.1.2.2, fun p hp => q.2 p _ hp (Reps.rep e2 _)⟩
  · exact q.elim
def negO : O1 := fun x Q => match x with
  | .int i => Q (.int (-i))
  | _ => False
theorem negO_mono : Mono1 negO := fun x P Q h q => by
  unfold negO at *
  split at q
  · exact h _ q
  · exact q.elim
theorem negO_s : UnS K (rU fun i => .int (-i)) negO := fun Z F H dx x Q b rx q => by
  unfold negO at q
  split at q
  · rename_i i
    exact ⟨i, rx.int, q _ F H (Gr.refl b) rfl⟩
  · exact q.elim

/-! ### equality of data -/
mutual
def D.py : D → PyData
  | .non => .none
  | .bl b => .bool b
  | .int i => .int i
  | .str x => .str x
  | .tup ds => .tuple (D.pyl ds)
  | .lst ds => .list (D.pyl ds)
  | .row => .none
  | .ty _ => .none
def D.pyl : List D → List PyData
  | [] => []
  | d :: ds => d.py :: D.pyl ds
end
mutual
def D.pure : D → Bool
  | .tup ds => D.purel ds
  | .lst ds => D.purel ds
  | .row => false
  | .ty _ => false
  | _ => true
def D.purel : List D → Bool
  | [] => true
  | d :: ds => d.pure && D.purel ds
end
def okD (d : D) : Bool := d.pure && SeqAt.shaped d.py
def eqD (x y : D) : Bool := PyData.eqv x.py y.py
mutual
theorem dp_of {Z : Zs} {F H : Hp} (b : Base K Z F H) : ∀ (d : D) (v : V), d.pure = true → Rep K Z.rw F d v → Dp K H v d.py
  | .non, v, _, h => by cases (show v = .non from h); exact .non
  | .bl c, v, _, h => by cases (show v = .bl c from h); exact .bl c
  | .int i, v, _, h => by cases (show v = .int i from h); exact .int i
  | .str x, v, _, h => by cases (show v = .str x from h); exact .str x
  | .tup ds, v, p, h => by
    obtain ⟨a, vs, rfl, e1, e2⟩ := (show ∃ a vs, v = V.ref a ∧ SqT _ F a vs ∧ Reps _ _ _ ds vs from h)
    exact .tup (sqt_ex b.fh e1) (dps_of b ds vs p e2)
  | .lst ds, v, p, h => by
    obtain ⟨a, vs, rfl, e1, e2⟩ := (show ∃ a vs, v = V.ref a ∧ F a = some (.lst vs) ∧ Reps _ _ _ ds vs from h)
    exact .lst (SqL.of (b.fh _ _ e1)) (dps_of b ds vs p e2)
theorem dps_of {Z : Zs} {F H : Hp} (b : Base K Z F H) : ∀ (ds : List D) (vs : List V), D.purel ds = true → Reps K Z.rw F ds vs → DpAll K H vs (D.pyl ds)
  | [], vs, _, h => by cases (show vs = [] from h); exact .nil
  | d :: ds, vs, p, h => by
    obtain ⟨v, r, rfl, h1, h2⟩ := (show ∃ v r, vs = v :: r ∧ Rep _ _ _ d v ∧ Reps _ _ _ ds r from h)
    have p' := Bool.and_eq_true_iff.mp (show (d.pure && D.purel ds) = true from p)
    exact .cons (dp_of b d v p'.1 h1) (dps_of b ds r p'.2 h2)
end
theorem dp_ofP {Z : Zs} {F H : Hp} (b : Base K Z F H) {d : D} {v : V} (p : d.pure = true) (h : RepP K Z.rw F H d v) : Dp K H v d.py := by
  rcases h with h | ⟨ds, a, vs, rfl, rfl, e1, e2, _⟩
  · exact dp_of b d v p h
  · exact .lst (SqL.of e1) (dps_of b ds vs p e2)
def eqO : O2 := fun x y Q => match x, y with
  | .int i, .int j => Q (.bl (decide (i = j)))
  | x, y => okD x = true ∧ okD y = true ∧ Q (.bl (eqD x y))
def neO : O2 := fun x y Q => match x, y with
  | .int i, .int j => Q (.bl (!decide (i = j)))
  | x, y => okD x = true ∧ okD y = true ∧ Q (.bl (!eqD x y))
theorem eqO_mono : Mono2 eqO := fun x y P Q h q => by
  unfold eqO at *
  split at q
  · exact h _ q
  · exact ⟨q.1, q.2.1, h _ q.2.2⟩
theorem neO_mono : Mono2 neO := fun x y P Q h q => by
  unfold neO at *
  split at q
  · exact h _ q
  · exact ⟨q.1, q.2.1, h _ q.2.2⟩
theorem okD_int (i : Int) : okD (.int i) = true := by
  show (true && SeqAt.shaped (.int i)) = true
  rfl
theorem eqO_s : OpS K (rEqD K) eqO := fun Z F H dx dy x y Q b rx ry q => by
  have key : ∀ (dx dy : D), RepP K Z.rw F H dx x → RepP K Z.rw F H dy y → okD dx = true → okD dy = true → Q (.bl (eqD dx dy)) H → rEqD K x y H Q := fun dx dy rx ry h1 h2 q => by
    have p1 := Bool.and_eq_true_iff.mp h1
    have p2 := Bool.and_eq_true_iff.mp h2
    exact ⟨dx.py, dy.py, dp_ofP b p1.1 rx, dp_ofP b p2.1 ry, p1.2, p2.2, q⟩
  unfold eqO at q
  split at q
  · exact key _ _ rx ry (okD_int _) (okD_int _) (q _ F H (Gr.refl b) rfl)
  · exact key _ _ rx ry q.1 q.2.1 (q.2.2 _ F H (Gr.refl b) rfl)
theorem neO_s : OpS K (rNeD K) neO := fun Z F H dx dy x y Q b rx ry q => by
  have key : ∀ (dx dy : D), RepP K Z.rw F H dx x → RepP K Z.rw F H dy y → okD dx = true → okD dy = true → Q (.bl (!eqD dx dy)) H → rNeD K x y H Q := fun dx dy rx ry h1 h2 q => by
    have p1 := Bool.and_eq_true_iff.mp h1
    have p2 := Bool.and_eq_true_iff.mp h2
    exact ⟨dx.py, dy.py, dp_ofP b p1.1 rx, dp_ofP b p2.1 ry, p1.2, p2.2, q⟩
  unfold neO at q
  split at q
  · exact key _ _ rx ry (okD_int _) (okD_int _) (q _ F H (Gr.refl b) rfl)
  · exact key _ _ rx ry q.1 q.2.1 (q.2.2 _ F H (Gr.refl b) rfl)
def isN : D → Bool
  | .non => true
  | _ => false
def isO : O2 := fun x y Q => match y with
  | .non => Q (.bl (isN x))
  | _ => False
def isnO : O2 := fun x y Q => match y with
  | .non => Q (.bl (!isN x))
  | _ => False
theorem isN_v {rw : Option Addr} {F H : Hp} {d : D} {v : V} (h : RepP K rw F H d v) : decide (v = V.non) = isN d := by
  cases d with
  | non => rw [h.non]; rfl
  | bl b => rw [h.bl]; rfl
  | int i => rw [h.int]; rfl
  | str x => rw [h.str]; rfl
  | tup ds =>
    rcases h with ⟨a, vs, rfl, _⟩ | ⟨_, _, _, e, _⟩
    · rfl
    · cases e
  | lst ds =>
    rcases h with ⟨a, vs, rfl, _⟩ | ⟨_, _, _, _, rfl, _⟩
    · rfl
    · rfl
  | row =>
    rcases h with ⟨a, _, rfl⟩ | ⟨_, _, _, e, _⟩
    · rfl
    · cases e
  | ty t =>
    rcases h with h | ⟨_, _, _, e, _⟩
    · rw [show v = _ from h]; rfl
    · cases e
theorem isO_mono : Mono2 isO := fun x y P Q h q => by
  unfold isO at *
  split at q
  · exact h _ q
  · exact q.elim
theorem isnO_mono : Mono2 isnO := fun x y P Q h q => by
  unfold isnO at *
  split at q
  · exact h _ q
  · exact q.elim
theorem isO_s : OpS K (fun x y H Q => y = .non ∧ Q (.bl (decide (x = .non))) H) isO := fun Z F H dx dy x y Q b rx ry q => by
  unfold isO at q
  split at q
  · rw [isN_v rx]; exact ⟨ry.non, q _ F H (Gr.refl b) rfl⟩
  · exact q.elim
theorem isnO_s : OpS K (fun x y H Q => y = .non ∧ Q (.bl (!decide (x = .non))) H) isnO := fun Z F H dx dy x y Q b rx ry q => by
  unfold isnO at q
  split at q
  · rw [isN_v rx]; exact ⟨ry.non, q _ F H (Gr.refl b) rfl⟩
  · exact q.elim
end

/-! ### built-in calls -/
section
variable {K : Kf}
def intsD : List D → Option (List Int)
  | [] => some []
  | d :: ds => match d with
    | .int i => (match intsD ds with
      | some ns => some (i :: ns)
      | none => none)
    | _ => none
theorem intsD_map : ∀ ns : List Int, intsD (ns.map D.int) = some ns
  | [] => rfl
  | n :: ns => by
    show (match intsD (ns.map D.int) with | some ms => some (n :: ms) | none => none) = _
    rw [intsD_map ns]
theorem intsD_eq : ∀ {ds : List D} {ns : List Int}, intsD ds = some ns → ds = ns.map D.int
  | [], _, h => by cases h; rfl
  | d :: ds, ns, h => by
    unfold intsD at h
    split at h
    · split at h
      · rename_i i _ ms hm
        cases h
        rw [intsD_eq hm]; rfl
      · cases h
    · cases h
/-- a builtin of one list of ints -/
def onInts (d : D) (p : List Int → Prop) : Prop := match d with
  | .lst ds => (match intsD ds with
    | some ns => p ns
    | none => False)
  | _ => False
theorem onInts_imp {d : D} {p q : List Int → Prop} (h : onInts d p) (hpq : ∀ ns, p ns → q ns) : onInts d q := by
  unfold onInts at *
  split at h
  · split at h
    · exact hpq _ h
    · exact h
  · exact h
theorem onInts_at {Z : Zs} {F H : Hp} {d : D} {v : V} {p : List Int → Prop} (b : Base K Z F H) (r : RepP K Z.rw F H d v) (h : onInts d p) : ∃ a ns, v = V.ref a ∧ SqL K H a (ns.map V.int) ∧ H a = some (.lst (ns.map V.int)) ∧ p ns := by
  unfold onInts at h
  split at h
  · split at h
    · rename_i ds ns hns
      obtain ⟨a, vs, rfl, e1, e2, _⟩ := r.lst b
      rw [intsD_eq hns] at e2
      have := e2.ints
      subst this
      exact ⟨a, ns, rfl, SqL.of e1, e1, h⟩
    · exact h.elim
  · exact h.elim
def call1 (o : O1) : OC := fun ds Q => match ds with
  | [d] => o d Q
  | _ => False
theorem call1_mono {o : O1} (mo : Mono1 o) : MonoC (call1 o) := fun ds P Q h q => by
  unfold call1 at *
  split at q
  · exact mo _ _ _ h q
  · exact q.elim
theorem call1_s {o : O1} {r : List V → Hp → VK → Prop} (h : ∀ (Z : Zs) (F H : Hp) (d : D) (v : V) (Q : VK), Base K Z F H → RepP K Z.rw F H d v → (o d fun d => ∀ v F' H', Gr K Z F H F' H' → Rep K Z.rw F' d v → Q v H') → r [v] H Q) : CallS K r (call1 o) := fun Z F H ds vs Q b reps q => by
  unfold call1 at q
  split at q
  · obtain ⟨v, rfl, rep⟩ := reps.one
    exact h Z F H _ v Q b rep q
  · exact q.elim
def absO : O1 := fun x Q => match x with
  | .int i => Q (.int (if i < 0 then -i else i))
  | _ => False
theorem absO_mono : Mono1 absO := fun x P Q h q => by
  unfold absO at *
  split at q
  · exact h _ q
  · exact q.elim
theorem abs_s : CallS K (fun xs H Q => ∃ i, xs = [.int i] ∧ Q (.int (if i < 0 then -i else i)) H) (call1 absO) := call1_s fun Z F H d v Q b r q => by
  unfold absO at q
  split at q
  · exact ⟨_, by rw [r.int], q _ F H (Gr.refl b) rfl⟩
  · exact q.elim
def lenO : O1 := fun x Q => match x with
  | .lst ds => Q (.int ds.length)
  | .tup ds => Q (.int ds.length)
  | .str x => x.length ≤ big ∧ Q (.int x.length)
  | _ => False
theorem lenO_mono : Mono1 lenO := fun x P Q h q => by
  unfold lenO at *
  split at q
  · exact h _ q
  · exact h _ q
  · exact ⟨q.1, h _ q.2⟩
  · exact q.elim
theorem len_s : CallS K (fun xs H Q => (∃ p ys, xs = [.ref p] ∧ (SqL K H p ys ∨ SqT K H p ys) ∧ Q (.int ys.length) H) ∨ (∃ z, xs = [.str z] ∧ z.length ≤ sizeLine ∧ Q (.int z.length) H)) (call1 lenO) := call1_s fun Z F H d v Q b r q => by
  unfold lenO at q
  split at q
  · obtain ⟨a, vs, rfl, e1, e2, _⟩ := r.lst b
    exact .inl ⟨a, vs, rfl, .inl (SqL.of e1), q _ F H (Gr.refl b) (by rw [e2.length]; rfl)⟩
  · obtain ⟨a, vs, rfl, e1, e2, _⟩ := r.tup b
    exact .inl ⟨a, vs, rfl, .inr e1, q _ F H (Gr.refl b) (by rw [e2.length]; rfl)⟩
  · exact .inr ⟨_, by rw [r.str], big_line q.1, q.2 _ F H (Gr.refl b) rfl⟩
  · exact q.elim
def toIntO : O1 := fun x Q => match x with
  | .int i => Q (.int i)
  | .bl b => Q (.int (if b then 1 else 0))
  | _ => False
theorem toIntO_mono : Mono1 toIntO := fun x P Q h q => by
  unfold toIntO at *
  split at q
  · exact h _ q
  · exact h _ q
  · exact q.elim
theorem toInt_s : CallS K (fun xs H Q => (∃ i, xs = [.int i] ∧ Q (.int i) H) ∨ ∃ k, xs = [.bl k] ∧ Q (.int (if k then 1 else 0)) H) (call1 toIntO) := call1_s fun Z F H d v Q b r q => by
  unfold toIntO at q
  split at q
  · exact .inl ⟨_, by rw [r.int], q _ F H (Gr.refl b) rfl⟩
  · exact .inr ⟨_, by rw [r.bl], q _ F H (Gr.refl b) rfl⟩
  · exact q.elim
def sumO : O1 := fun x Q => onInts x fun ns => Q (.int ns.sum)
theorem sumO_mono : Mono1 sumO := fun x P Q h q => onInts_imp q fun ns => h _
theorem sum_s : CallS K (rSum K) (call1 sumO) := call1_s fun Z F H d v Q b r q => by
  obtain ⟨a, ns, rfl, e1, _, q⟩ := onInts_at b r q
  exact ⟨a, ns, rfl, e1, q _ F H (Gr.refl b) rfl⟩
def maxI : List Int → Int
  | [] => 0
  | [n] => n
  | n :: m :: r => max n (maxI (m :: r))
def minI : List Int → Int
  | [] => 0
  | [n] => n
  | n :: m :: r => min n (minI (m :: r))
theorem maxI_mem : ∀ {ns : List Int}, ns ≠ [] → maxI ns ∈ ns ∧ ∀ y ∈ ns, y ≤ maxI ns
  | [], h => absurd rfl h
  | [n], _ => ⟨List.mem_cons_self, fun y hy => by rcases List.mem_cons.mp hy with e | e; exact Int.le_of_eq e; cases e⟩
  | n :: m :: r, _ => by
    obtain ⟨h1, h2⟩ := maxI_mem (ns := m :: r) (by simp)
    refine ⟨?_, fun y hy => ?_⟩
    · show max n (maxI (m :: r)) ∈ _
      rcases Int.le_total n (maxI (m :: r)) with z | z
      · rw [Int.max_eq_right z]; exact List.mem_cons_of_mem _ h1
      · rw [Int.max_eq_left z]; exact List.mem_cons_self
    · show y ≤ max n (maxI (m :: r))
      rcases List.mem_cons.mp hy with e | e
      · rw [e]; exact Int.le_max_left _ _
      · exact Int.le_trans (h2 y e) (Int.le_max_right _ _)
theorem minI_mem : ∀ {ns : List Int}, ns ≠ [] → minI ns ∈ ns ∧ ∀ y ∈ ns, minI ns ≤ y
  | [], h => absurd rfl h
  | [n], _ => ⟨List.mem_cons_self, fun y hy => by rcases List.mem_cons.mp hy with e | e; exact Int.le_of_eq e.symm; cases e⟩
  | n :: m :: r, _ => by
    obtain ⟨h1, h2⟩ := minI_mem (ns := m :: r) (by simp)
    refine ⟨?_, fun y hy => ?_⟩
    · show min n (minI (m :: r)) ∈ _
      rcases Int.le_total n (minI (m :: r)) with z | z
      · rw [Int.min_eq_left z]; exact List.mem_cons_self
      · rw [Int.min_eq_right z]; exact List.mem_cons_of_mem _ h1
    · show min n (minI (m :: r)) ≤ y
      rcases List.mem_cons.mp hy with e | e
      · rw [e]; exact Int.min_le_left _ _
      · exact Int.le_trans (Int.min_le_right _ _) (h2 y e)
def maxO : O1 := fun x Q => onInts x fun ns => ns ≠ [] ∧ Q (.int (maxI ns))
def minO : O1 := fun x Q => onInts x fun ns => ns ≠ [] ∧ Q (.int (minI ns))
theorem maxO_mono : Mono1 maxO := fun x P Q h q => onInts_imp q fun ns z => ⟨z.1, h _ z.2⟩
theorem minO_mono : Mono1 minO := fun x P Q h q => onInts_imp q fun ns z => ⟨z.1, h _ z.2⟩
theorem max_s : CallS K (rMax K) (call1 maxO) := call1_s fun Z F H d v Q b r q => by
  obtain ⟨a, ns, rfl, e1, _, hne, q⟩ := onInts_at b r q
  refine ⟨a, ns, rfl, e1, List.length_pos_iff.mpr hne, fun m h1 h2 => ?_⟩
  have e : m = maxI ns := Int.le_antisymm ((maxI_mem hne).2 m h1) (h2 _ (maxI_mem hne).1)
  rw [e]; exact q _ F H (Gr.refl b) rfl
theorem min_s : CallS K (rMin K) (call1 minO) := call1_s fun Z F H d v Q b r q => by
  obtain ⟨a, ns, rfl, e1, _, hne, q⟩ := onInts_at b r q
  refine ⟨a, ns, rfl, e1, List.length_pos_iff.mpr hne, fun m h1 h2 => ?_⟩
  have e : m = minI ns := Int.le_antisymm (h2 _ (minI_mem hne).1) ((minI_mem hne).2 m h1)
  rw [e]; exact q _ F H (Gr.refl b) rfl
def max2O : OC := fun ds Q => match ds with
  | [.int i, .int j] => Q (.int (if j > i then j else i))
  | _ => False
def min2O : OC := fun ds Q => match ds with
  | [.int i, .int j] => Q (.int (if j < i then j else i))
  | _ => False
theorem max2O_mono : MonoC max2O := fun ds P Q h q => by
  unfold max2O at *
  split at q
  · exact h _ q
  · exact q.elim
theorem min2O_mono : MonoC min2O := fun ds P Q h q => by
  unfold min2O at *
  split at q
  · exact h _ q
  · exact q.elim
theorem max2_s : CallS K (fun xs H Q => ∃ i j, xs = [.int i, .int j] ∧ Q (.int (if j > i then j else i)) H) max2O := fun Z F H ds vs Q b reps q => by
  unfold max2O at q
  split at q
  · obtain ⟨v, v2, rfl, r1, r2⟩ := reps.two
    exact ⟨_, _, by rw [r1.int, r2.int], q _ F H (Gr.refl b) rfl⟩
  · exact q.elim
theorem min2_s : CallS K (fun xs H Q => ∃ i j, xs = [.int i, .int j] ∧ Q (.int (if j < i then j else i)) H) min2O := fun Z F H ds vs Q b reps q => by
  unfold min2O at q
  split at q
  · obtain ⟨v, v2, rfl, r1, r2⟩ := reps.two
    exact ⟨_, _, by rw [r1.int, r2.int], q _ F H (Gr.refl b) rfl⟩
  · exact q.elim
/-- list(x), tuple(x) of a list or a tuple -/
def listF : OF := fun ds Q => match ds with
  | [.lst xs] => Q xs
  | [.tup xs] => Q xs
  | _ => False
theorem listF_mono : MonoF listF := fun ds P Q h q => by
  unfold listF at *
  split at q
  · exact h _ q
  · exact h _ q
  · exact q.elim
theorem list_s : CallF K (fun xs H Q => ∃ p ys, xs = [.ref p] ∧ (SqL K H p ys ∨ SqT K H p ys) ∧ ∀ l, H l = none → Q (.ref l) (upd H l (.lst ys))) listF := fun Z F H ds vs Q b reps q => by
  unfold listF at q
  split at q
  · obtain ⟨v, rfl, r⟩ := reps.one
    obtain ⟨a, us, rfl, e1, e2, _⟩ := r.lst b
    exact ⟨a, us, rfl, .inl (SqL.of e1), fun l hl => q l us hl e2⟩
  · obtain ⟨v, rfl, r⟩ := reps.one
    obtain ⟨a, us, rfl, e1, e2, _⟩ := r.tup b
    exact ⟨a, us, rfl, .inr e1, fun l hl => q l us hl e2⟩
  · exact q.elim
def tupleO : O1 := fun x Q => match x with
  | .lst xs => Q (.tup xs)
  | .tup xs => Q (.tup xs)
  | _ => False
theorem tupleO_mono : Mono1 tupleO := fun x P Q h q => by
  unfold tupleO at *
  split at q
  · exact h _ q
  · exact h _ q
  · exact q.elim
theorem tuple_s : CallS K (fun xs H Q => ∃ p ys, xs = [.ref p] ∧ ((SqL K H p ys ∧ ∀ l, H l = none → Q (.ref l) (upd H l (.tup ys))) ∨ (SqT K H p ys ∧ Q (.ref p) H))) (call1 tupleO) := call1_s fun Z F H d v Q b r q => by
  unfold tupleO at q
  split at q
  · obtain ⟨a, us, rfl, e1, e2, _⟩ := r.lst b
    exact ⟨a, us, rfl, .inl ⟨SqL.of e1, fun l hl => q _ _ _ (b.lay hl) ⟨l, us, rfl, .inl (.inl upd_same), Reps.ex (Ex.upd (b.fh.none hl)) _ _ e2⟩⟩⟩
  · obtain ⟨a, us, rfl, e1, e2, e3⟩ := r.tup b
    exact ⟨a, us, rfl, .inr ⟨e1, q _ F H (Gr.refl b) ⟨a, us, rfl, e3, e2⟩⟩⟩
  · exact q.elim
/-- sorted of ints -/
def ins (n : Int) : List Int → List Int
  | [] => [n]
  | m :: r => if n ≤ m then n :: m :: r else m :: ins n r
def isort : List Int → List Int
  | [] => []
  | n :: r => ins n (isort r)
theorem ins_perm (n : Int) : ∀ l : List Int, (ins n l).Perm (n :: l)
  | [] => List.Perm.refl _
  | m :: r => by
    unfold ins
    split
    · exact List.Perm.refl _
    · exact ((ins_perm n r).cons m).trans (List.Perm.swap n m r)
theorem isort_perm : ∀ l : List Int, (isort l).Perm l
  | [] => List.Perm.refl _
  | n :: r => (ins_perm n _).trans ((isort_perm r).cons n)
theorem ins_sorted (n : Int) : ∀ {l : List Int}, l.Pairwise (· ≤ ·) → (ins n l).Pairwise (· ≤ ·)
  | [], _ => by simp [ins]
  | m :: r, h => by
    obtain ⟨h1, h2⟩ := List.pairwise_cons.mp h
    unfold ins
    split
    · rename_i hle
      refine List.pairwise_cons.mpr ⟨fun a ha => ?_, h⟩
      rcases List.mem_cons.mp ha with e | e
      · rw [e]; exact hle
      · exact Int.le_trans hle (h1 a e)
    · rename_i hle
      refine List.pairwise_cons.mpr ⟨fun a ha => ?_, ins_sorted n h2⟩
      rcases List.mem_cons.mp ((ins_perm n r).mem_iff.mp ha) with e | e
      · rw [e]; omega
      · exact h1 a e
theorem isort_sorted : ∀ l : List Int, (isort l).Pairwise (· ≤ ·)
  | [] => List.Pairwise.nil
  | n :: r => ins_sorted n (isort_sorted r)
theorem sorted_one : ∀ {l m : List Int}, l.Perm m → l.Pairwise (· ≤ ·) → m.Pairwise (· ≤ ·) → l = m
  | [], m, p, _, _ => (List.nil_perm.mp p).symm
  | a :: l, [], p, _, _ => by have := p.length_eq; simp at this
  | a :: l, b :: m, p, h1, h2 => by
    obtain ⟨g1, g2⟩ := List.pairwise_cons.mp h1
    obtain ⟨k1, k2⟩ := List.pairwise_cons.mp h2
    have e : a = b := by
      have ha : a ∈ b :: m := p.mem_iff.mp List.mem_cons_self
      have hb : b ∈ a :: l := p.mem_iff.mpr List.mem_cons_self
      rcases List.mem_cons.mp ha with e | e
      · exact e
      · rcases List.mem_cons.mp hb with e' | e'
        · exact e'.symm
        · exact Int.le_antisymm (g1 b e') (k1 a e)
    subst e
    rw [sorted_one (List.Perm.cons_inv p) g2 k2]
def sortF : OF := fun ds Q => match ds with
  | [d] => onInts d fun ns => Q ((isort ns).map D.int)
  | _ => False
theorem sortF_mono : MonoF sortF := fun ds P Q h q => by
  unfold sortF at *
  split at q
  · exact onInts_imp q fun ns z => h _ z
  · exact q.elim
theorem sort_s : CallF K (L2.rSortedI K) sortF := fun Z F H ds vs Q b reps q => by
  unfold sortF at q
  split at q
  · obtain ⟨v, rfl, r⟩ := reps.one
    obtain ⟨a, ns, rfl, e1, _, q⟩ := onInts_at b r q
    refine ⟨a, ns, rfl, e1, fun ns' p h1 h2 hp => ?_⟩
    have e : ns' = isort ns := sorted_one (h1.trans (isort_perm ns).symm) h2 (isort_sorted ns)
    subst e
    exact q p _ hp Reps.of_ints
  · exact q.elim
/-- list(range(..)) -/
def lrgF (f : SA) : SA := fun ρ Q => f ρ fun ds => match ds with
  | [.int j] => (-(2 ^ 62) ≤ j ∧ j ≤ big) ∧ Q (rngD 0 j)
  | [.int i, .int j] => (-(2 ^ 62) ≤ i ∧ i < 2 ^ 62 ∧ -(2 ^ 62) ≤ j ∧ j < 2 ^ 62 ∧ (j - i).toNat ≤ big) ∧ Q (rngD i j)
  | _ => False

/-! ### isinstance -/
def isB : D → Ty → Bool
  | .bl _, .bool => true
  | .bl _, .int => true
  | .int _, .int => true
  | .str _, .str => true
  | .tup _, .tuple => true
  | .lst _, .list => true
  | _, _ => false
def isiO : OC := fun ds Q => match ds with
  | [x, .ty t] => (match x with
    | .row => False
    | .ty _ => False
    | x => Q (.bl (isB x t)))
  | [x, .tup [.ty t, .ty u]] => (match x with
    | .row => False
    | .ty _ => False
    | x => Q (.bl (isB x t || isB x u)))
  | _ => False
theorem isiO_mono : MonoC isiO := fun ds P Q h q => by
  unfold isiO at *
  split at q
  · split at q
    · exact q
    · exact q
    · exact h _ q
  · split at q
    · exact q
    · exact q
    · exact h _ q
  · exact q.elim
def tyN : D → String
  | .bl _ => "bool"
  | .int _ => "int"
  | .str _ => "str"
  | .tup _ => "tuple"
  | .lst _ => "list"
  | _ => "NoneType"
theorem tyx_of {Z : Zs} {F H : Hp} {d : D} {v : V} (b : Base K Z F H) (r : RepP K Z.rw F H d v) (h1 : d ≠ .row) (h2 : ∀ t, d ≠ .ty t) : TyX K H v (.type (tyN d)) := by
  cases d with
  | non => rw [r.non]; exact .base .non
  | bl c => rw [r.bl]; exact .base (.bl c)
  | int i => rw [r.int]; exact .base (.int i)
  | str x => rw [r.str]; exact .base (.str x)
  | lst ds =>
    obtain ⟨a, vs, rfl, e1, _⟩ := r.lst b
    exact .base (.lst e1)
  | tup ds =>
    obtain ⟨a, vs, rfl, e1, _⟩ := r.tup b
    rcases e1 with (e1 | ⟨o, e1⟩) | ⟨o, its, n, e1, e2, _⟩
    · exact .base (.tup e1)
    · exact .fTuple e1
    · exact .kTuple e1 e2
  | row => exact absurd rfl h1
  | ty t => exact absurd rfl (h2 t)
theorem kit_is (d : D) (t : Ty) : PySem.W.kitOne K (.type (tyN d)) (.type t.name) = some (isB d t) := by
  cases d <;> cases t <;> exact kit_ty (by kernel_rfl)
def rIsiA (K : Kf) : List V → Hp → VK → Prop := fun xs H Q => rIsi K xs H Q ∨ ∃ (x : V) (tp : Addr) (cs : List V) (t : Value) (us : List Value) (b : Bool), xs = [x, .ref tp] ∧ SqT K H tp cs ∧ Paired ClsV cs us ∧ TyX K H x t ∧ PySem.W.kitAny K t us = some b ∧ Q (.bl b) H
theorem call_isiA {X : Cx} : CallR X (.builtin "isinstance") (rIsiA X.K) := by
  intro pins s σ H xs us Q I r h
  rcases h with h | h
  · exact call_isi pins s σ H xs us Q I r h
  · obtain ⟨x, tp, cs, t, ws, b, rfl, hT, k, ty, e, q⟩ := h
    obtain ⟨u1, u2, rfl, r1, r2⟩ := vals2 r
    cases (show u2 = Value.ref tp from r2)
    obtain ⟨P, Z, p, hx⟩ := kit_of I r1 ty
    obtain ⟨its, rv, ⟨o, h1, h2, n, h3⟩, _⟩ := I.tuple hT
    have e3 := ClsV.all k rv
    subst e3
    obtain ⟨oc, od, dt, sl⟩ := o
    simp only at h2 h3
    subst h2 h3
    exact PySem.W.kia_tup Z I.kIn p h1 e hx fun tk => ⟨.bl b, H, I.tok tk, rfl, q⟩
theorem RepP.ty {rw : Option Addr} {F H : Hp} {t : Ty} {v : V} (h : RepP K rw F H (.ty t) v) : v = .ty t.name := by
  rcases h with h | ⟨ds, a, vs, e1, _⟩
  · exact h
  · cases e1
theorem isi_s : CallS K (rIsiA K) isiO := fun Z F H ds vs Q b reps q => by
  unfold isiO at q
  split at q
  · rename_i x t
    obtain ⟨v, v2, rfl, r1, r2⟩ := reps.two
    split at q
    · exact q.elim
    · exact q.elim
    · rename_i h1 h2
      exact .inl ⟨v, _, _, _, _, by rw [r2.ty], .ty _, tyx_of b r1 h1 h2, kit_is x t, q _ F H (Gr.refl b) rfl⟩
  · rename_i x t u
    obtain ⟨v, v2, rfl, r1, r2⟩ := reps.two
    split at q
    · exact q.elim
    · exact q.elim
    · rename_i h1 h2
      obtain ⟨a, us, rfl, e1, e2, _⟩ := r2.tup b
      obtain ⟨w1, s1, rfl, g1, w2, s2, rfl, g2, g3⟩ := (show ∃ w1 s1, us = w1 :: s1 ∧ Rep K Z.rw F (.ty t) w1 ∧ ∃ w2 s2, s1 = w2 :: s2 ∧ Rep K Z.rw F (.ty u) w2 ∧ s2 = [] from e2)
      subst g3
      cases (show w1 = .ty t.name from g1)
      cases (show w2 = .ty u.name from g2)
      refine .inr ⟨v, a, _, _, [.type t.name, .type u.name], isB x t || isB x u, rfl, e1, .cons (.ty _) (.cons (.ty _) .nil), tyx_of b r1 h1 h2, ?_, q _ F H (Gr.refl b) rfl⟩
      refine kitAny_cons (kit_is x t) (fun z => ?_) (fun z => by rw [z]; rfl)
      rw [z, Bool.false_or]
      exact kitAny_cons (kit_is x u) (fun z => by rw [z]; rfl) (fun z => z)
  · exact q.elim
end
section
variable {X : Cx}
theorem E.tyv {x : Str} {t : Ty} {pos : Pos} (hg : Gl X x) (hm : X.mg x = none) (hv : bootBuiltins x = some (.type t.name)) (hn : x ≠ "__name__" := by decide) (hd : (x == ("__debug__" : Str)) = false := by decide) : E X (.Name x pos) (cE (.ty t)) :=
  E.cst (v := .ty t.name) (fun _ _ _ => rfl) (pe_bltn hg hm hv rfl hn hd)
end

/-! ### a def of the text -/
section
variable {P : Program} {w : World} {K : Kf} {mg : Str → Option Value} {base : Heap}
def startE (N : List Str) (ds : List D) : REnv := ds.map (fun d => some (Slot.sh d)) ++ List.replicate (N.length - ds.length) none
theorem R.start {rw : Option Addr} {F H : Hp} {N : List Str} {ds : List D} {vs : List V} (b : Base K ⟨rw, H, F⟩ F H) (h : Reps K rw F ds vs) : R K ⟨rw, H, F⟩ F (startE N ds) (L2.start N vs) H := by
  have hl := h.length
  have key : ∀ (i : Nat) (s : Slot), (startE N ds)[i]? = some (some s) → ∃ d v, s = .sh d ∧ (L2.start N vs)[i]? = some (some v) ∧ Rep K rw F d v := fun i s e => by
    unfold startE at e
    unfold L2.start
    by_cases hi : i < ds.length
    · rw [List.getElem?_append_left (by simpa using hi), List.getElem?_map, List.getElem?_eq_getElem hi] at e
      cases e
      obtain ⟨v, e1, e2⟩ := h.get (List.getElem?_eq_getElem hi)
      refine ⟨_, v, rfl, ?_, e2⟩
      rw [List.getElem?_append_left (by simpa [hl] using hi), List.getElem?_map, e1]; rfl
    · rw [List.getElem?_append_right (by simpa using hi), List.getElem?_replicate] at e
      split at e <;> cases e
  refine ⟨b, ?_, fun i s e => ?_, fun i j s1 s2 a m1 m2 e1 e2 e3 e4 => ?_⟩
  · unfold startE L2.start
    rw [List.length_append, List.length_append, List.length_map, List.length_map, List.length_replicate, List.length_replicate, hl]
  · obtain ⟨d, v, rfl, e1, e2⟩ := key i s e
    exact ⟨v, e1, e2⟩
  · obtain ⟨d, v, e, _⟩ := key i _ e1
    cases e
    cases m1
abbrev endK (Q : D → Prop) : Kt := { nx := fun _ => Q .non, rt := Q, bk := fun _ => False, ct := fun _ => False }
/-- the context of a def's body -/
abbrev bodyX (P : Program) (w : World) (K : Kf) (mg : Str → Option Value) (base : Heap) (N : List Str) (qual : Str) (scope : Scope) (f : Addr) (cdv : Value) (A : Around) (outer : List Env) (s : Shared) (H : Hp) (E : XK) : Cx := (cxOf CX0 P w K mg base N qual scope f cdv A outer s H E).nox
theorem fn_ok {x qual : Str} {params : Arguments} {body : List Stmt} {scope : Scope} {f : Addr} {fd : FuncData} {N ps : List Str} {k n : Nat} {G : OC} (Fn : FunD K x qual params body scope [] [] f fd) (Sc : FnScope N ps scope) (hn : ps.length = n) {sem : SS}
    (hb : ∀ (cdv : Value) (A : Around) (outer : List Env) (s : Shared) (H : Hp) (E : XK), Room k (A.deeper (envOfC qual scope s.heap.objs.size f cdv)) → Ss (bodyX P w K mg base N qual scope f cdv A outer s H E) body sem)
    (hG : ∀ ds Q, ds.length = n → G ds Q → sem (startE N ds) (endK Q)) : FnOk P w K mg base CX0 (k + 1) f fd ps (spOf K n G) := by
  refine Fn.ok Sc (fun vs H Q E h => h.1.trans hn.symm) (fun cdv A outer s H vs Q E hr h => ?_)
  obtain ⟨hl, rw, F, ds, b, reps, q⟩ := h
  have hS := hb cdv A outer s H E hr
  refine ⟨_, hS.run.nox, ⟨rw, H, F⟩, F, startE N ds, R.start b reps, ?_⟩
  have q2 := hG ds _ (reps.length.symm.trans hl) q
  exact hS.mono _ (endK _) _ ⟨fun ρ h σ' F' H' e r => h .non F' H' r.base rfl, fun d h v F' H' e b rep => h v F' H' b rep, fun _ h => h.elim, fun _ h => h.elim⟩ q2
end

/-! ### the head's facts, with tuples of the module -/
section
open He
def obsZ (fa : List Fa) (fn : List DefD) (tb : List (Str × List Dv)) (K : PySem.W.Frag) : AlD := (((fa.all fun f => f.ok K) && fn.all fun d => d.ok K) && tb.all fun t => tupB K t.1 t.2, fn.map fun d => fnW K d.at_)
def SaysZ (fa : List Fa) (fn : List DefD) (tb : List (Str × List Dv)) (K : PySem.W.Frag) : Prop := obsZ fa fn tb K = valD fn
def obsZG (n : Nat) (fa : List Fa) (fn : List DefD) (tb : List (Str × List Dv)) (g : Addr → Option Obj) : AlD := obsZ fa fn tb (frG g (asD g n))
def hookZ (n : Nat) (fa : List Fa) (fn : List DefD) (tb : List (Str × List Dv)) : PySem.W.Hook where
  α := AlD
  obs := fun s => obsZG n fa fn tb s.heap.get?
  val := fun _ => valD fn
  says := fun _ h => ∃ K : PySem.W.Frag, K.In h ∧ SaysZ fa fn tb K
  of := fun _ _ e => ⟨_, frG_in, e⟩
  keeps := fun _ _ _ ⟨K, hK, c⟩ k => ⟨K, PySem.W.Frag.In.keeps hK k, c⟩
theorem obsZG_eq {n : Nat} {fa : List Fa} {fn : List DefD} {tb : List (Str × List Dv)} {g : Addr → Option Obj} {s : Shared} (h : ∀ a, g a = s.heap.get? a) : obsZG n fa fn tb g = (hookZ n fa fn tb).obs s := by
  have e : g = s.heap.get? := funext h
  rw [e] <;> rfl
section
variable {fa : List Fa} {fn : List DefD} {tb : List (Str × List Dv)} {K : PySem.W.Frag}
theorem SaysZ.all (c : SaysZ fa fn tb K) : ((fa.all fun f => f.ok K) = true ∧ (fn.all fun d => d.ok K) = true) ∧ (tb.all fun t => tupB K t.1 t.2) = true := by
  have c1 := ba (show (((fa.all fun f => f.ok K) && fn.all fun d => d.ok K) && tb.all fun t => tupB K t.1 t.2) = true from congrArg (fun z : AlD => z.1) c)
  exact ⟨ba c1.1, c1.2⟩
theorem SaysZ.fact (c : SaysZ fa fn tb K) (i : Nat) {f : Fa} (h : fa[i]? = some f := by rfl) : f.ok K = true := List.all_eq_true.mp c.all.1.1 f (List.mem_of_getElem? h)
theorem SaysZ.tup (c : SaysZ fa fn tb K) (i : Nat) {t : Str × List Dv} (h : tb[i]? = some t := by rfl) (H : Hp) : SqT K H (ga K t.1) (t.2.map (Dv.v K)) := tupB_ok (List.all_eq_true.mp c.all.2 t (List.mem_of_getElem? h)) H
theorem SaysZ.def_ (c : SaysZ fa fn tb K) (i : Nat) {d : DefD} (h : fn[i]? = some d := by rfl) : ∃ fd, FunD K d.name d.qual d.params d.body d.scope (d.dvs K) (d.kws K) (fAd K d.at_) fd := by
  have e : fn.map (fun d => fnW K d.at_) = fn.map DefD.val := congrArg (fun z : AlD => z.2) c
  have e2 : (fn.map fun d => fnW K d.at_)[i]? = (fn.map DefD.val)[i]? := by rw [e]
  rw [List.getElem?_map, List.getElem?_map, h] at e2
  exact DefD.funD (Option.some.inj e2) (List.all_eq_true.mp c.all.1.2 d (List.mem_of_getElem? h))
end
end

/-! ### the law's def: the row of draws is laid, then the rest -/
section
variable {P : Program} {w : World} {K : Kf} {mg : Str → Option Value} {base : Heap}
def spLaw (K : Kf) : Sp := fun vs H Q _ => ∃ (a : Addr) (ns : List Int), vs = [.ref a] ∧ SqL K H a (ns.map V.int) ∧ Only H ∧ ∀ v H', v = V.bl true → Q v H'
def lawE (N : List Str) : REnv := none :: some (.sh .row) :: List.replicate (N.length - 2) none
theorem law_ok {x qual : Str} {params : Arguments} {first : Stmt} {rest : List Stmt} {scope : Scope} {f : Addr} {fd : FuncData} {N ps : List Str} {k : Nat} {seed : Int} (Fn : FunD K x qual params (first :: rest) scope [] [] f fd) (Sc : FnScope N ps scope) (hn : ps.length = 1) (h2 : 2 ≤ N.length) {sem : SS}
    (h1 : ∀ (cdv : Value) (A : Around) (outer : List Env) (s : Shared) (H : Hp) (E : XK), Room k (A.deeper (envOfC qual scope s.heap.objs.size f cdv)) → PS (bodyX P w K mg base N qual scope f cdv A outer s H E) first (tAsg (tLst (tCons (tVar 0) (tCons (tC (.int 0)) (tCons (tC (.int seed)) (tCons (tC (.int 0)) tNil))))) (gName 1)))
    (hb : ∀ (cdv : Value) (A : Around) (outer : List Env) (s : Shared) (H : Hp) (E : XK), Room k (A.deeper (envOfC qual scope s.heap.objs.size f cdv)) → Ss (bodyX P w K mg base N qual scope f cdv A outer s H E) rest sem)
    (hG : sem (lawE N) { nx := fun _ => False, rt := fun d => d = .bl true, bk := fun _ => False, ct := fun _ => False }) : FnOk P w K mg base CX0 (k + 1) f fd ps (spLaw K) := by
  refine Fn.ok Sc (fun vs H Q E h => ?_) (fun cdv A outer s H vs Q E hr h => ?_)
  · obtain ⟨a, ns, rfl, _⟩ := h
    exact hn.symm
  obtain ⟨a, ns, rfl, hS, hO, q⟩ := h
  have hp := h1 cdv A outer s H E hr
  have hs := hb cdv A outer s H E hr
  refine ⟨_, (pss_cons hp hs.run).nox, ?_⟩
  obtain ⟨m, hm⟩ : ∃ m, N.length = m + 2 := ⟨N.length - 2, by omega⟩
  have est : L2.start N [V.ref a] = some (.ref a) :: none :: List.replicate m none := by
    unfold L2.start
    rw [hm]
    rfl
  rw [est]
  refine ⟨.ref a, rfl, (by show 4 ≤ sizeLine; decide), fun p hp => ?_⟩
  have nF : ∀ b : Addr, (fun _ => none : Hp) b = none := fun _ => rfl
  have sc : ScOk K (upd H p (.lst [.ref a, .int 0, .int seed, .int 0])) a ns := by
    rcases hS with (h | ⟨o, h⟩) | h
    · rcases hO a with z | ⟨o, xs, z⟩
      · rw [h] at z; cases z
      · rw [h] at z; cases z
    · exact .inl ⟨o, by rw [upd_ne (ne_of_none h hp)]; exact h⟩
    · exact .inr (.inr h)
  refine ⟨⟨some p, upd H p (.lst [.ref a, .int 0, .int seed, .int 0]), fun _ => none⟩, fun _ => none, lawE N, ⟨⟨fun x o e => (by cases e), Ex.refl _, ExR.refl _ _, fun x e => absurd rfl e, fun x e => ?_, fun _ _ => rfl⟩, ?_, fun i s e => ?_, fun i j s1 s2 x m1 m2 e1 => ?_⟩, ?_⟩
  · cases e
    exact ⟨a, ns, 0, seed, 0, upd_same, sc, Int.le_refl 0⟩
  · unfold lawE
    rw [hm]
    simp
  · unfold lawE at e
    match i, e with
    | 0, e => cases e
    | 1, e => cases e; exact ⟨.ref p, rfl, p, rfl, rfl⟩
    | i + 2, e =>
      have e' : (List.replicate (N.length - 2) (none : Option Slot))[i]? = some (some s) := e
      rw [List.getElem?_replicate] at e'
      split at e' <;> cases e'
  · unfold lawE at e1
    match i, e1 with
    | 0, e => cases e
    | 1, e => cases e; cases m1
    | i + 2, e =>
      have e' : (List.replicate (N.length - 2) (none : Option Slot))[i]? = some (some s1) := e
      rw [List.getElem?_replicate] at e'
      split at e' <;> cases e'
  · exact hs.mono _ { nx := fun _ => False, rt := fun d => d = .bl true, bk := fun _ => False, ct := fun _ => False } _ ⟨fun ρ h => h.elim, fun d h v F' H' e b rep => q v H' (by subst h; exact rep), fun ρ h => h.elim, fun ρ h => h.elim⟩ hG
/-- a draw: any number from 0 on, below so many -/
def takenO : OC := fun ds Q => match ds with
  | [.row, .int m] => (0 < m ∧ small m) ∧ ∀ v : Int, 0 ≤ v → v < m → Q (.int v)
  | _ => False
theorem takenO_mono : MonoC takenO := fun ds P Q h q => by
  unfold takenO at *
  split at q
  · exact ⟨q.1, fun v h1 h2 => h _ (q.2 v h1 h2)⟩
  · exact q.elim
theorem base_row {rw : Option Addr} {F H H1 : Hp} {a sc : Addr} {ns : List Int} {p m r p' m' r' : Int} (b : Base K ⟨rw, H, F⟩ F H1) (e : rw = some a) (h : H1 a = some (.lst [.ref sc, .int p, .int m, .int r])) (hs : ScOk K H1 sc ns) (hp : 0 ≤ p') :
    Base K ⟨rw, H, F⟩ F (upd H1 a (.lst [.ref sc, .int p', .int m', .int r'])) ∧ ScOk K (upd H1 a (.lst [.ref sc, .int p', .int m', .int r'])) sc ns := by
  have s2 : ScOk K (upd H1 a (.lst [.ref sc, .int p', .int m', .int r'])) sc ns := hs.keep fun o q => by rw [upd_ne (fun z : sc = a => by rw [z, h] at q; cases q)]; exact q
  have fa : F a = none := b.frow a e
  refine ⟨⟨fun x u ex => ?_, Ex.refl _, fun x u n ex => ?_, fun x h => .inl h, fun x ex => ?_, b.frow⟩, s2⟩
  · rw [upd_ne (fun z : x = a => by rw [z, fa] at ex; cases ex)]; exact b.fh x u ex
  · rw [upd_ne (fun z : x = a => n (by rw [z]; exact e))]; exact b.hh x u n ex
  · have : x = a := by
      have ex' : rw = some x := ex
      rw [e] at ex'; cases ex'; rfl
    subst this
    exact ⟨sc, ns, p', m', r', upd_same, s2, hp⟩
end
/-! ### short words -/
section
variable {X : Cx} {a b c : Expr} {f g k : SE} {pos : Pos} {n : Nat}
abbrev R0 (X : Cx) : Prop := X.A.units + 64 < cLine
theorem E.add (ha : P X a f) (hb : P X b g) : E X (.BinOp a .Add b pos) (sOp addO f g) := E.op (OpR.or op_add (OpR.or op_catA op_cat)) addO_s addO_mono ha hb
theorem E.sub (ha : P X a f) (hb : P X b g) : E X (.BinOp a .Sub b pos) (sOp subO f g) := E.op op_sub (int0_s fun _ _ _ _ => rfl) int0_mono ha hb
theorem E.mul (ha : P X a f) (hb : P X b g) : E X (.BinOp a .Mult b pos) (sOp mulO f g) := E.op op_mulS (intO_s fun _ _ _ _ => rfl) intO_mono ha hb
theorem E.fdiv (ha : P X a f) (hb : P X b g) : E X (.BinOp a .FloorDiv b pos) (sOp fdivO f g) := E.op op_fdivS (intO_s fun _ _ _ _ => rfl) intO_mono ha hb
theorem E.mod (ha : P X a f) (hb : P X b g) : E X (.BinOp a .Mod b pos) (sOp modO f g) := E.op op_modN (intO_s fun _ _ _ _ => rfl) intO_mono ha hb
theorem E.pow (ha : P X a f) (hb : P X b g) : E X (.BinOp a .Pow b pos) (sOp powO f g) := E.op op_pow (intO_s fun _ _ _ _ => rfl) intO_mono ha hb
theorem E.neg (ha : P X a f) : E X (.UnaryOp .USub a pos) (sUn negO f) := E.un un_neg negO_s negO_mono ha
theorem F.cat (ha : P X a f) (hb : P X b g) : F X (.BinOp a .Add b pos) (opF catF f g) := F.op op_cat catF_s catF_mono ha hb
theorem F.rep (ha : P X a f) (hb : P X b g) : F X (.BinOp a .Mult b pos) (opF repF f g) := F.op op_rep repF_s repF_mono ha hb
theorem E.lt (ha : P X a f) (hb : P X b g) : E X (.Compare a [.Lt] [b] pos) (sOp ltO f g) := E.cmp op_lt (int0_s fun _ _ _ _ => rfl) int0_mono (nomark _) ha hb
theorem E.le (ha : P X a f) (hb : P X b g) : E X (.Compare a [.LtE] [b] pos) (sOp leO f g) := E.cmp op_le (int0_s fun _ _ _ _ => rfl) int0_mono (nomark _) ha hb
theorem E.gt (ha : P X a f) (hb : P X b g) : E X (.Compare a [.Gt] [b] pos) (sOp gtO f g) := E.cmp op_gt (int0_s fun _ _ _ _ => rfl) int0_mono (nomark _) ha hb
theorem E.ge (ha : P X a f) (hb : P X b g) : E X (.Compare a [.GtE] [b] pos) (sOp geO f g) := E.cmp op_ge (int0_s fun _ _ _ _ => rfl) int0_mono (nomark _) ha hb
theorem E.eq (hu : R0 X) (ha : P X a f) (hb : P X b g) : E X (.Compare a [.Eq] [b] pos) (sOp eqO f g) := E.cmp (op_eqD hu) eqO_s eqO_mono (nomark _) ha hb
theorem E.ne (hu : R0 X) (ha : P X a f) (hb : P X b g) : E X (.Compare a [.NotEq] [b] pos) (sOp neO f g) := E.cmp (op_neD hu) neO_s neO_mono (nomark _) ha hb
theorem B.ch {op op' : CmpOp} {r r' : R2} {o o' : O2} (ho : OpR X (compareOp op) r) (ho' : OpR X (compareOp op') r') (hs : OpS X.K r o) (hs' : OpS X.K r' o') (mo : Mono2 o) (mo' : Mono2 o') (ha : P X a f) (hb : P X b g) (hc : P X c k)
    (hm : lastMarks [op, op'] [b, c] = false := by with_unfolding_all rfl) : B X (.Compare a [op, op'] [b, c] pos) (chT o o' f g k) :=
  ⟨chT_mono mo mo' ha.mono hb.mono hc.mono, PE.weak (pe_chain ho ho' ha.run hb.run hc.run hm) (ch_tp hs hs' mo mo' ha.mono hb.mono hc.mono)⟩
theorem T.ch {op op' : CmpOp} {r r' : R2} {o o' : O2} (ho : OpR X (compareOp op) r) (ho' : OpR X (compareOp op') r') (hs : OpS X.K r o) (hs' : OpS X.K r' o') (mo : Mono2 o) (mo' : Mono2 o') (ha : P X a f) (hb : P X b g) (hc : P X c k)
    (hm : lastMarks [op, op'] [b, c] = false := by with_unfolding_all rfl) : T X (.Compare a [op, op'] [b, c] pos) (chT o o' f g k) :=
  T.chain hs hs' mo mo' ha hb hc (pt_chain ho ho' ha.run hb.run hc.run hm)
theorem lt_s {K : Kf} : OpS K (rI0 fun i j => .bl (decide (i < j))) ltO := int0_s fun _ _ _ _ => rfl
theorem le_s {K : Kf} : OpS K (rI0 fun i j => .bl (decide (i ≤ j))) leO := int0_s fun _ _ _ _ => rfl
theorem gt_s {K : Kf} : OpS K (rI0 fun i j => .bl (decide (j < i))) gtO := int0_s fun _ _ _ _ => rfl
theorem ge_s {K : Kf} : OpS K (rI0 fun i j => .bl (decide (j ≤ i))) geO := int0_s fun _ _ _ _ => rfl
theorem E.is (ha : P X a f) (hb : P X b g) : E X (.Compare a [.Is] [b] pos) (sOp isO f g) := E.cmp op_isN isO_s isO_mono (nomark _) ha hb
theorem E.isn (ha : P X a f) (hb : P X b g) : E X (.Compare a [.IsNot] [b] pos) (sOp isnO f g) := E.cmp op_notN isnO_s isnO_mono (nomark _) ha hb
theorem T.lt (ha : P X a f) (hb : P X b g) : T X (.Compare a [.Lt] [b] pos) (tV (sOp ltO f g)) := T.cmp op_lt (int0_s fun _ _ _ _ => rfl) int0_mono (nomark _) ha hb
theorem T.le (ha : P X a f) (hb : P X b g) : T X (.Compare a [.LtE] [b] pos) (tV (sOp leO f g)) := T.cmp op_le (int0_s fun _ _ _ _ => rfl) int0_mono (nomark _) ha hb
theorem T.gt (ha : P X a f) (hb : P X b g) : T X (.Compare a [.Gt] [b] pos) (tV (sOp gtO f g)) := T.cmp op_gt (int0_s fun _ _ _ _ => rfl) int0_mono (nomark _) ha hb
theorem T.ge (ha : P X a f) (hb : P X b g) : T X (.Compare a [.GtE] [b] pos) (tV (sOp geO f g)) := T.cmp op_ge (int0_s fun _ _ _ _ => rfl) int0_mono (nomark _) ha hb
theorem T.eq (hu : R0 X) (ha : P X a f) (hb : P X b g) : T X (.Compare a [.Eq] [b] pos) (tV (sOp eqO f g)) := T.cmp (op_eqD hu) eqO_s eqO_mono (nomark _) ha hb
theorem T.ne (hu : R0 X) (ha : P X a f) (hb : P X b g) : T X (.Compare a [.NotEq] [b] pos) (tV (sOp neO f g)) := T.cmp (op_neD hu) neO_s neO_mono (nomark _) ha hb
theorem T.is (ha : P X a f) (hb : P X b g) : T X (.Compare a [.Is] [b] pos) (tV (sOp isO f g)) := T.cmp op_isN isO_s isO_mono (nomark _) ha hb
theorem T.isn (ha : P X a f) (hb : P X b g) : T X (.Compare a [.IsNot] [b] pos) (tV (sOp isnO f g)) := T.cmp op_notN isnO_s isnO_mono (nomark _) ha hb

variable {st : Stmt} {s : SS} {e : Expr} {es : List Expr} {fa : SA} {i : Nat}
theorem S.setN (h : E X e f) (hp : PE X e (TEof X.K f) → PS X st (tAsg (TEof X.K f) (gName i))) : S X st (setS i f) := S.set h (hp h.run)
theorem S.setON (h : F X e fa) (hp : PE X e (TFof X.K fa) → PS X st (tAsg (TFof X.K fa) (gName i))) : S X st (Z0.setO i fa) := S.setO h (hp h.run)
theorem S.asgN {tg : Expr} {is : List Nat} {gg : SG} (h : E X e f) (hg : G X tg is gg) (hp : PE X e (TEof X.K f) → PG X tg (TGof X.K is gg) → PS X st (tAsg (TEof X.K f) (TGof X.K is gg))) : S X st (asgS f gg) := S.asg h hg (hp h.run hg.run)
theorem S.parN {j : Nat} (h : A X es fa) (hp : PA X es (TAof X.K fa) → PS X st (tPar i j (TAof X.K fa))) : S X st (parS i j fa) := S.par h (hp h.run)
theorem S.par3N {j l : Nat} (h : A X es fa) (hp : PA X es (TAof X.K fa) → PS X st (tPar3 i j l (TAof X.K fa))) : S X st (par3S i j l fa) := S.par3 h (hp h.run)
theorem S.augN {o : O2} {r : R2} (hs : OpS X.K r o) (mo : Mono2 o) (h : P X e f) (hp : PE X e (TPof X.K f) → PS X st (tAug i (TPof X.K f) r)) : S X st (augS i o f) := S.aug hs mo h (hp h.run)
theorem S.appN (h : E X e f) (hp : PE X e (TEof X.K f) → PS X st (tDrop (tBM X.K "list" rAppend (tVar i) (tCons (TEof X.K f) tNil)))) : S X st (appS i f) := S.app h (hp h.run)
theorem S.putN (h : E X a f) (h2 : P X b g) (hp : PE X a (TEof X.K f) → PE X b (TPof X.K g) → PS X st (tAsg (TEof X.K f) (gSub (tVar i) (TPof X.K g) rSetL))) : S X st (putS i f g) := S.put h h2 (hp h.run h2.run)
theorem S.whN {tt : ST} {xs : List Stmt} (ht : T X c tt) (hs : Ss X xs s) (hp : PT X c (TTof X.K tt) → PSs X xs (TSof X.K s) → PS X st (tWhile (TTof X.K tt) (TSof X.K s))) : S X st (whS tt s) := S.wh ht hs (hp ht.run hs.run)
theorem S.forN {tg iter : Expr} {it : SA} {is : List Nat} {gg : SG} {xs : List Stmt} (hi : I X tg iter it) (hg : G X tg is gg) (hs : Ss X xs s) (hp : PI X tg iter (TIof X.K it) → PG X tg (TGof X.K is gg) → PSs X xs (TSof X.K s) → PS X st (tFor (TIof X.K it) (TGof X.K is gg) (TSof X.K s))) : S X st (forS it gg s) := S.for hi hg hs (hp hi.run hg.run hs.run)
theorem E.callBN {r : List V → Hp → VK → Prop} {o : OC} (hs : CallS X.K r o) (mo : MonoC o) (ha : Ap X es fa) (h : PA X es (TQof X.K fa) → PE X e (tCB r (TQof X.K fa))) : E X e (callE o fa) := E.callB hs mo ha (h ha.run)
theorem F.callBN {r : List V → Hp → VK → Prop} {o : OF} (hs : CallF X.K r o) (mo : MonoF o) (ha : Ap X es fa) (h : PA X es (TQof X.K fa) → PE X e (tCB r (TQof X.K fa))) : F X e (callF o fa) := F.callB hs mo ha (h ha.run)
theorem I.r1 {tg : Expr} (ha : Ap X es fa) (h : PA X es (TQof X.K fa) → PI X tg e (iRng1 (TQof X.K fa))) : I X tg e (rng1A fa) := I.rng1 ha (h ha.run)
theorem I.r2 {tg : Expr} (ha : Ap X es fa) (h : PA X es (TQof X.K fa) → PI X tg e (iRng2 (TQof X.K fa))) : I X tg e (rng2A fa) := I.rng2 ha (h ha.run)
theorem Ig.z {tg : Expr} (ha : Ap X es fa) (h : PA X es (TQof X.K fa) → PI X tg e (RZ.iZipA X.K (TQof X.K fa))) : Ig X tg e (zipA fa) := Ig.zip ha (h ha.run)
theorem Gs.cn {tg : Expr} {ts : List Expr} {is js : List Nat} {gg : SG} {gs : SGs} (h1 : G X tg is gg) (h2 : Gs X ts js gs) (h : PG X tg (TGof X.K is gg) → PGs X ts (TGsof X.K js gs) → PGs X (tg :: ts) (gCons (TGof X.K is gg) (TGsof X.K js gs))) : Gs X (tg :: ts) (is ++ js) (gConsS gg gs) := Gs.cons h1 h2 (h h1.run h2.run)
theorem G.t {tg : Expr} {is : List Nat} {gs : SGs} {m : Nat} {ts : List Expr} (hn : ∀ ds ρ Q, gs ds ρ Q → ds.length = m) (h2 : Gs X ts is gs) (h : PGs X ts (TGsof X.K is gs) → PG X tg (gTup X.K m (TGsof X.K is gs))) : G X tg is (gTupS gs) := G.tup hn h2 (h h2.run)
theorem gn_nil : ∀ (ds : List D) (ρ : REnv) (Q : REnv → Prop), gNilS ds ρ Q → ds.length = 0 := fun ds ρ Q h => by
  cases ds with
  | nil => rfl
  | cons _ _ => exact h.elim
theorem gn_var {i : Nat} {gs : SGs} {m : Nat} (h : ∀ ds ρ Q, gs ds ρ Q → ds.length = m) : ∀ (ds : List D) (ρ : REnv) (Q : REnv → Prop), gConsS (gVar i) gs ds ρ Q → ds.length = m + 1 := fun ds ρ Q q => by
  cases ds with
  | nil => exact q.elim
  | cons d ds => rw [List.length_cons, h ds _ _ q]
theorem E.gint {x : Str} {z : Int} (hg : Gl X x) (hm : ∃ t, X.mg x = some (.int z t)) (hdb : (x == ("__debug__" : Str)) = false := by decide) : E X (.Name x pos) (cE (.int z)) := by
  obtain ⟨t, hm⟩ := hm
  exact E.glob (v := .int z) (fun _ _ => rfl) hg hm ⟨t, rfl⟩ hdb
theorem E.gtup {x : Str} {ad : Addr} {vs : List V} {ds : List D} (hg : Gl X x) (hm : X.mg x = some (.ref ad)) (h : ∀ H, SqT X.K H ad vs) (hr : ∀ rw F, Reps X.K rw F ds vs) (hdb : (x == ("__debug__" : Str)) = false := by decide) : E X (.Name x pos) (cE (.tup ds)) :=
  E.glob (v := .ref ad) (fun rw F => ⟨ad, vs, rfl, h F, hr rw F⟩) hg hm rfl hdb
theorem isT_not {a : Expr} : True := trivial
abbrev addI : O2 := int0 fun i j => .int (i + j)
theorem addI_s {K : Kf} : OpS K (rI0 fun i j => .int (i + j)) addI := int0_s fun _ _ _ _ => rfl
theorem addI_mono : Mono2 addI := int0_mono
theorem ip_addI : PIp X .Add (rI0 fun i j => .int (i + j)) := iop_add
theorem iop_mulS : PIp X .Mult (rI mulOk fun i j => .int (i * j)) := (opI fun _ _ _ _ _ _ _ hc q => imul_int q (mulOk_ok hc) : OpR X (inplaceOp .Mult) _)
theorem S.nev : S X st noS := S.no ps_never (fun _ _ _ h => h)
theorem bt_len : bootBuiltins "len" = some (.builtin "len") := by decide +kernel
theorem bt_abs : bootBuiltins "abs" = some (.builtin "abs") := by decide +kernel
theorem bt_sum : bootBuiltins "sum" = some (.builtin "sum") := by decide +kernel
theorem bt_max : bootBuiltins "max" = some (.builtin "max") := by decide +kernel
theorem bt_min : bootBuiltins "min" = some (.builtin "min") := by decide +kernel
theorem bt_sorted : bootBuiltins "sorted" = some (.builtin "sorted") := by decide +kernel
theorem bt_isinstance : bootBuiltins "isinstance" = some (.builtin "isinstance") := by decide +kernel
theorem bt_int : bootBuiltins "int" = some (.type "int") := by decide +kernel
theorem bt_list : bootBuiltins "list" = some (.type "list") := by decide +kernel
theorem bt_tuple : bootBuiltins "tuple" = some (.type "tuple") := by decide +kernel
theorem bt_bool : bootBuiltins "bool" = some (.type "bool") := by decide +kernel
theorem bt_str : bootBuiltins "str" = some (.type "str") := by decide +kernel
theorem bt_dict : bootBuiltins "dict" = some (.type "dict") := by decide +kernel
end

/-! ### plain lemmas on meanings -/
section
theorem lcL_fm {g : SG} {t : ST} {f : SE} {ρ : REnv} (c : D → Option D) : ∀ (ds : List D) (Q : List D → Prop), (∀ d ∈ ds, ∀ (R : Option D → Prop), R (c d) → g d ρ fun ρ1 => t ρ1 fun b => br b (f ρ1 fun y => R (some y)) (R none)) → Q (ds.filterMap c) → lcL g t f ρ ds Q
  | [], Q, _, q => q
  | d :: ds, Q, h, q => by
    refine h d List.mem_cons_self (fun o => match o with
      | some y => lcL g t f ρ ds fun ys => Q (y :: ys)
      | none => lcL g t f ρ ds Q) ?_
    have ih := fun Q => lcL_fm (g := g) (t := t) (f := f) (ρ := ρ) c ds Q fun d hd => h d (List.mem_cons_of_mem _ hd)
    rw [List.filterMap_cons] at q
    cases e : c d with
    | none => rw [e] at q; exact ih Q q
    | some y => rw [e] at q; exact ih _ q
theorem rngD_mem {lo hi : Int} {d : D} (h : d ∈ rngD lo hi) : ∃ i : Int, d = .int i ∧ lo ≤ i ∧ i < hi := by
  unfold rngD at h
  obtain ⟨i, hi', rfl⟩ := List.mem_map.mp h
  have := List.mem_range.mp hi'
  exact ⟨lo + i, rfl, by omega, by omega⟩
theorem rngD_get {lo hi : Int} {i : Nat} {d : D} (h : (rngD lo hi)[i]? = some d) : d = .int (lo + i) ∧ lo + (i : Int) < hi := by
  unfold rngD at h
  rw [List.getElem?_map] at h
  by_cases hi' : i < (hi - lo).toNat
  · rw [List.getElem?_range hi'] at h
    cases h
    exact ⟨rfl, by omega⟩
  · rw [List.getElem?_eq_none (by simpa using hi')] at h
    cases h
theorem forL_at {g : SG} {s : SS} {k : Kt} {ds : List D} (P : Nat → REnv → Prop)
    (hs : ∀ (i : Nat) (d : D) (ρ : REnv) (nxt : REnv → Prop), ds[i]? = some d → P i ρ → (∀ ρ', P (i + 1) ρ' → nxt ρ') → g d ρ fun ρ1 => s ρ1 (loopK nxt k)) (hd : ∀ ρ, P ds.length ρ → k.nx ρ) : ∀ (m i : Nat) (ρ : REnv), m + i = ds.length → P i ρ → forL g s (ds.drop i) ρ k
  | 0, i, ρ, e, p => by
    have : i = ds.length := by omega
    subst this
    rw [List.drop_length]
    exact hd ρ p
  | m + 1, i, ρ, e, p => by
    have hlt : i < ds.length := by omega
    rw [List.drop_eq_getElem_cons hlt]
    exact hs i ds[i] ρ _ (List.getElem?_eq_getElem hlt) p fun ρ' p' => forL_at P hs hd m (i + 1) ρ' (by omega) p'
theorem forL_inv {g : SG} {s : SS} {k : Kt} {ds : List D} {ρ : REnv} (P : Nat → REnv → Prop) (h0 : P 0 ρ)
    (hs : ∀ (i : Nat) (d : D) (ρ : REnv) (nxt : REnv → Prop), ds[i]? = some d → P i ρ → (∀ ρ', P (i + 1) ρ' → nxt ρ') → g d ρ fun ρ1 => s ρ1 (loopK nxt k)) (hd : ∀ ρ, P ds.length ρ → k.nx ρ) : forL g s ds ρ k := by
  have := forL_at P hs hd ds.length 0 ρ (by omega) h0
  rwa [List.drop_zero] at this
theorem br_t {b : Bool} {p q : Prop} (h : b = true) (hp : p) : br b p q := by subst h; exact hp
theorem br_f {b : Bool} {p q : Prop} (h : b = false) (hq : q) : br b p q := by subst h; exact hq
theorem br_d {c : Prop} [Decidable c] {p q : Prop} (h1 : c → p) (h2 : ¬ c → q) : br (decide c) p q := by
  by_cases h : c
  · rw [decide_eq_true h]; exact h1 h
  · rw [decide_eq_false h]; exact h2 h
theorem br_n {c : Prop} [Decidable c] {p q : Prop} (h1 : ¬ c → p) (h2 : c → q) : br (!decide c) p q := by
  by_cases h : c
  · rw [decide_eq_true h]; exact h2 h
  · rw [decide_eq_false h]; exact h1 h
end

theorem eqD_refl {d : D} (h : okD d = true) : eqD d d = true := by
  have h1 := (Bool.and_eq_true_iff.mp h).2
  exact SeqAt.eqv_refl _ (SeqAt.canLay_of_shaped h1)
theorem okD_bl (b : Bool) : okD (.bl b) = true := rfl
theorem okD_non : okD .non = true := rfl
theorem okD_nil : okD (.lst []) = true := rfl
theorem okD_tnil : okD (.tup []) = true := rfl
/-- a def that is never called so -/
theorem ok_never {P : Program} {w : World} {K : Kf} {mg : Str → Option Value} {base : Heap} {f : Addr} {fd : FuncData} {ps : List Str} {n k : Nat} (hn : ps.length = n) : FnOk P w K mg base CX0 k f fd ps (spOf K n fun _ _ => False) :=
  ⟨fun vs H Q E h => h.1.trans hn.symm, fun A outer s H args us vs Q E _ _ _ _ h => by
    obtain ⟨_, _, _, _, _, _, q⟩ := h
    exact q.elim⟩

theorem le_big {n : Nat} (h : n ≤ 1000000) : n ≤ big := Nat.le_trans h (by decide)
theorem lt_big {n : Nat} (h : n < 1000000) : n < big := Nat.lt_of_lt_of_le h (by decide)

theorem lcL_map {g : SG} {f : SE} {ρ : REnv} (F : D → D) (ds : List D) (Q : List D → Prop) (h : ∀ d ∈ ds, ∀ R : D → Prop, R (F d) → g d ρ fun ρ1 => f ρ1 R) (q : Q (ds.map F)) : lcL g yesT f ρ ds Q :=
  lcL_fm (fun d => some (F d)) ds Q (fun d hd R hR => h d hd _ hR) (by rw [show (fun d => some (F d)) = some ∘ F from rfl, List.filterMap_eq_map]; exact q)
theorem rngD_map {lo hi : Int} {F : D → D} : (rngD lo hi).map F = (List.range (hi - lo).toNat).map fun (k : Nat) => F (.int (lo + k)) := by
  unfold rngD
  rw [List.map_map]
  rfl
/-- a list of ints told by a function of the place -/
theorem intsD_range {n : Nat} {G : Nat → Int} {F : Nat → D} (h : ∀ k, F k = .int (G k)) : intsD ((List.range n).map F) = some ((List.range n).map G) := by
  have : (List.range n).map F = ((List.range n).map G).map D.int := by
    rw [List.map_map]
    exact List.map_congr_left fun k _ => h k
  rw [this]
  exact intsD_map _
theorem onInts_lst {ds : List D} {ns : List Int} {p : List Int → Prop} (h : intsD ds = some ns) (q : p ns) : onInts (.lst ds) p := by
  show (match intsD ds with | some ns => p ns | none => False)
  rw [h]; exact q
end Z0

namespace Z0
open PySem PySem.Spec PyProof.Rows L2

/-! ### several names at once, some of them lists of one's own -/
section
variable {K : Kf} {Z : Zs} {F F' : Hp} {ρ : REnv} {σ : L2.St} {H H' : Hp} {d : D} {v : V} {s : Slot}
def SlV (K : Kf) (Z : Zs) (F H : Hp) (ρ : REnv) (σ : L2.St) : Slot → V → Prop
  | .sh d, v => Rep K Z.rw F d v
  | .own ds, v => ∃ p vs, v = .ref p ∧ H p = some (.lst vs) ∧ Reps K Z.rw F ds vs ∧ Fresh Z F ρ σ p
  | .dic b kvs, v => ∃ p o, v = .ref p ∧ H p = some o ∧ DicR K Z.rw F p b kvs o ∧ Fresh Z F ρ σ p
theorem SlV.gr (h : SlV K Z F H ρ σ s v) (g : Gr K Z F H F' H') : SlV K Z F' H' ρ σ s v := by
  cases s with
  | sh d => exact Rep.ex g.f _ _ h
  | own ds =>
    obtain ⟨p, vs, e, e1, e2, f1, f2, f3, f4⟩ := h
    refine ⟨p, vs, e, g.h p _ f3 e1, Reps.ex g.f _ _ e2, ?_, f2, f3, f4⟩
    cases z : F' p with
    | none => rfl
    | some o =>
      rcases g.n p (by rw [z]; simp) with y | y
      · exact absurd f1 y
      · rw [e1] at y; cases y
  | dic b kvs =>
    obtain ⟨p, vs, e, e1, e2, f1, f2, f3, f4⟩ := h
    refine ⟨p, vs, e, g.h p _ f3 e1, e2.ex g.f, ?_, f2, f3, f4⟩
    cases z : F' p with
    | none => rfl
    | some o =>
      rcases g.n p (by rw [z]; simp) with y | y
      · exact absurd f1 y
      · rw [e1] at y; cases y
abbrev SM1 := REnv → (Slot → Prop) → Prop
abbrev SM := REnv → (List Slot → Prop) → Prop
inductive SlVs (K : Kf) (Z : Zs) (F H : Hp) (ρ : REnv) (σ : L2.St) : List Slot → List V → Prop
  | nil : SlVs K Z F H ρ σ [] []
  | cons {s v ss vs} : SlV K Z F H ρ σ s v → SlVs K Z F H ρ σ ss vs → (∀ p, s.mine = true → v = .ref p → ∀ (i : Nat) (s' : Slot), s'.mine = true → ss[i]? = some s' → vs[i]? ≠ some (.ref p)) → SlVs K Z F H ρ σ (s :: ss) (v :: vs)
theorem SlVs.gr {ss : List Slot} {vs : List V} (h : SlVs K Z F H ρ σ ss vs) (g : Gr K Z F H F' H') : SlVs K Z F' H' ρ σ ss vs := by
  induction h with
  | nil => exact .nil
  | cons a b c ih => exact .cons (a.gr g) ih c
theorem SlVs.length {ss : List Slot} {vs : List V} (h : SlVs K Z F H ρ σ ss vs) : vs.length = ss.length := by
  induction h with
  | nil => rfl
  | cons a b c ih => rw [List.length_cons, List.length_cons, ih]
def TM1of (K : Kf) (f : SM1) : TE := fun σ H Q => ∃ Z F ρ, R K Z F ρ σ H ∧ f ρ fun s => ∀ v F' H', Gr K Z F H F' H' → SlV K Z F' H' ρ σ s v → (∀ p, s.mine = true → v = .ref p → H p = none) → Q v H'
def TMof (K : Kf) (f : SM) : TA := fun σ H Q => ∃ Z F ρ, R K Z F ρ σ H ∧ f ρ fun ss => ∀ vs F' H', Gr K Z F H F' H' → SlVs K Z F' H' ρ σ ss vs → (∀ (i : Nat) p s, s.mine = true → ss[i]? = some s → vs[i]? = some (.ref p) → H p = none) → Q vs H'
end
structure M1 (X : Cx) (e : Expr) (f : SM1) : Prop where
  mono : MonoE f
  run : PE X e (TM1of X.K f)
structure Ms (X : Cx) (es : List Expr) (f : SM) : Prop where
  mono : MonoE f
  run : PA X es (TMof X.K f)
  cnt : ∀ ρ Q, f ρ Q → f ρ fun ss => ss.length = es.length ∧ Q ss
def shM (f : SE) : SM1 := fun ρ Q => f ρ fun d => Q (.sh d)
def ownM (f : SA) : SM1 := fun ρ Q => f ρ fun ds => Q (.own ds)
def nilM : SM := fun _ Q => Q []
def consM (f : SM1) (g : SM) : SM := fun ρ Q => f ρ fun s => g ρ fun ss => Q (s :: ss)
section
variable {X : Cx} {e a b c : Expr} {f g k : SE} {pos : Pos} {st : Stmt}
theorem M1.sh (h : E X e f) : M1 X e (shM f) := ⟨fun ρ P Q h' q => h.mono ρ _ _ (fun d z => h' _ z) q, PE.weak h.run fun σ H Q ⟨Z, F, ρ, r, q⟩ => ⟨Z, F, ρ, r, h.mono ρ _ _ (fun d hd v F' H' g rep => hd v F' H' g rep (fun _ e _ => by cases e)) q⟩⟩
theorem M1.own {fa : SA} (h : F X e fa) : M1 X e (ownM fa) := ⟨fun ρ P Q h' q => h.mono ρ _ _ (fun d z => h' _ z) q, PE.weak h.run fun σ H Q ⟨Z, F, ρ, r, q⟩ => ⟨Z, F, ρ, r, h.mono ρ _ _ (fun ds hd p vs F' H' g h0 fr hp reps => hd (.ref p) F' H' g ⟨p, vs, rfl, hp, reps, fr⟩ (fun p' _ e => by cases e; exact h0)) q⟩⟩
theorem Ms.nil : Ms X [] nilM := ⟨fun _ _ _ h q => h _ q, PA.weak pa_nil fun σ H Q ⟨Z, F, ρ, r, q⟩ => q [] F H (Gr.refl r.base) .nil (fun i p s _ e => by simp at e), fun _ _ q => ⟨rfl, q⟩⟩
theorem Ms.cons {es : List Expr} {f : SM1} {g : SM} (ha : M1 X e f) (hr : Ms X es g) (hs : starEach (e :: es) X.env = (false, eval e X.env) :: starEach es X.env := by rfl) : Ms X (e :: es) (consM f g) :=
  ⟨fun ρ P Q h q => ha.mono ρ _ _ (fun x hx => hr.mono ρ _ _ (fun xs hxs => h _ hxs) hx) q, PA.weak (pa_cons ha.run hr.run hs) fun σ H Q ⟨Z, F, ρ, r, q⟩ => ⟨Z, F, ρ, r, ha.mono ρ _ _ (fun x hx v F1 H1 g1 rep h0 => ⟨Z, F1, ρ, r.grow g1, hr.mono ρ _ _ (fun xs hxs vs F2 H2 g2 reps h1 => hxs (v :: vs) F2 H2 (g1.trans g2) (.cons (rep.gr g2) reps (fun p m e' i s' m' y y' => by
      subst e'
      have hv : ∃ o, H1 p = some o := by
        cases x with
        | sh d => cases m
        | own ds => obtain ⟨p', vs', e3, e4, _⟩ := rep; cases e3; exact ⟨_, e4⟩
        | dic b kvs => obtain ⟨p', vs', e3, e4, _⟩ := rep; cases e3; exact ⟨_, e4⟩
      obtain ⟨o, e4⟩ := hv
      have := h1 i p s' m' y y'
      rw [e4] at this
      cases this)) (fun i p s m e e' => by
      cases i with
      | zero => cases e; cases e'; exact h0 p m rfl
      | succ i => exact back_none r.base g1 (h1 i p s m e e'))) hx⟩) q⟩,
   fun ρ Q q => ha.mono ρ _ _ (fun x hx => hr.mono ρ _ _ (fun xs hxs => ⟨by rw [List.length_cons, List.length_cons, hxs.1], hxs.2⟩) (hr.cnt ρ _ hx)) q⟩
end
def setAll (ρ : REnv) : List Nat → List Slot → REnv
  | i :: is, s :: ss => setAll (ρ.set i (some s)) is ss
  | _, _ => ρ
def setAllV (σ : L2.St) : List Nat → List V → L2.St
  | i :: is, v :: vs => setAllV (σ.set i (some v)) is vs
  | _, _ => σ
theorem R.setSl {K : Kf} {Z : Zs} {F H : Hp} {ρ : REnv} {σ : L2.St} (r : R K Z F ρ σ H) (i : Nat) {s : Slot} {v : V} (h : SlV K Z F H ρ σ s v) : R K Z F (ρ.set i (some s)) (σ.set i (some v)) H := by
  cases s with
  | sh d => exact r.setSh i h
  | own ds =>
    obtain ⟨p, vs, rfl, e1, e2, e3⟩ := h
    exact r.setOwn i e1 e3 e2
  | dic b kvs =>
    obtain ⟨p, vs, rfl, e1, e2, e3⟩ := h
    exact r.setDic i e1 e3 e2
theorem R.setAll {K : Kf} {Z : Zs} {F H : Hp} : ∀ (is : List Nat) {ρ : REnv} {σ : L2.St} {ss : List Slot} {vs : List V}, R K Z F ρ σ H → SlVs K Z F H ρ σ ss vs → R K Z F (Z0.setAll ρ is ss) (setAllV σ is vs) H
  | [], _, _, _, _, r, h => by cases h <;> exact r
  | i :: is, ρ, σ, _, _, r, h => by
    cases h with
    | nil => exact r
    | @cons s v ss vs a b c =>
      refine R.setAll is (r.setSl i a) ?_
      have key : ∀ {ss : List Slot} {vs : List V}, SlVs K Z F H ρ σ ss vs → (∀ p, s.mine = true → v = .ref p → ∀ (i : Nat) (s' : Slot), s'.mine = true → ss[i]? = some s' → vs[i]? ≠ some (.ref p)) → SlVs K Z F H (ρ.set i (some s)) (σ.set i (some v)) ss vs := by
        intro ss vs h
        induction h with
        | nil => intro _; exact .nil
        | @cons s' v' ss' vs' a' b' c' ih =>
          intro hc
          refine .cons ?_ (ih fun p m e' i s2 m2 y => hc p m e' (i + 1) s2 m2 (by simpa using y)) c'
          have fr : ∀ {p : Addr}, s'.mine = true → v' = .ref p → Fresh Z F ρ σ p → Fresh Z F (ρ.set i (some s)) (σ.set i (some v)) p := fun {p} hm e fr => by
            obtain ⟨f1, f2, f3, f4⟩ := fr
            refine ⟨f1, f2, f3, fun j s2 m2 e5 e6 => ?_⟩
            by_cases hj : i = j
            · subst hj
              rw [List.getElem?_set] at e5 e6
              simp only [if_true] at e5 e6
              split at e5
              · split at e6
                · have q1 : s = s2 := by injection e5 with e5; injection e5
                  have q2 : v = .ref p := by injection e6 with e6; injection e6
                  exact hc p (by rw [q1]; exact m2) q2 0 s' hm rfl (by rw [e]; rfl)
                · cases e6
              · cases e5
            · rw [List.getElem?_set_ne hj] at e5 e6
              exact f4 j s2 m2 e5 e6
          cases s' with
          | sh d => exact a'
          | own ds =>
            obtain ⟨p, us, e, e1, e2, f⟩ := a'
            exact ⟨p, us, e, e1, e2, fr rfl e f⟩
          | dic b kvs =>
            obtain ⟨p, us, e, e1, e2, f⟩ := a'
            exact ⟨p, us, e, e1, e2, fr rfl e f⟩
      exact key b c
section
variable {X : Cx} {e a b c : Expr} {f g k : SE} {pos : Pos} {st : Stmt}
def parM (is : List Nat) (f : SM) : SS := fun ρ k => f ρ fun ss => k.nx (setAll ρ is ss)
theorem parM_mono {is : List Nat} {f : SM} (mf : MonoE f) : MonoS (parM is f) := fun ρ k l hk q => mf ρ _ _ (fun _ z => hk.1 _ z) q
theorem parM_tp {K : Kf} {is : List Nat} {f : SM} (mf : MonoE f) {D : Ends} {σ : L2.St} {H : Hp} (h : TSof K (parM is f) D σ H) : TMof K f σ H fun vs H1 => D.nx (setAllV σ is vs) H1 := by
  obtain ⟨Z, F, ρ, r, q⟩ := h
  exact ⟨Z, F, ρ, r, mf ρ _ _ (fun ss hs vs F' H' g sl _ => hs _ F' H' g.f ((r.grow g).setAll is sl)) q⟩
theorem TMof.cnt {X : Cx} {es : List Expr} {f : SM} (h : Ms X es f) {σ : L2.St} {H : Hp} {Q : List V → Hp → Prop} (q : TMof X.K f σ H Q) : TMof X.K f σ H fun vs H1 => vs.length = es.length ∧ Q vs H1 := by
  obtain ⟨Z, F, ρ, r, q⟩ := q
  exact ⟨Z, F, ρ, r, h.mono ρ _ _ (fun ss hs vs F' H' g sl h0 => ⟨sl.length.trans hs.1, hs.2 vs F' H' g sl h0⟩) (h.cnt ρ _ q)⟩
theorem S.parM2 {i j : Nat} {e1 e2 : Expr} {f : SM} (h : Ms X [e1, e2] f) (hp : PA X [e1, e2] (TMof X.K f) → PS X st (tPar i j (TMof X.K f))) (mono : ∀ σ H (P Q : List V → Hp → Prop), (∀ vs H, P vs H → Q vs H) → TMof X.K f σ H P → TMof X.K f σ H Q) : S X st (parM [i, j] f) := ⟨parM_mono h.mono, PS.weak (hp h.run) fun D σ H q =>
  mono _ _ _ _ (fun vs H1 z => by
    obtain ⟨z1, z2⟩ := z
    match vs, z1 with
    | [v, w], _ => exact ⟨v, w, rfl, z2⟩) (TMof.cnt h (parM_tp h.mono q))⟩
theorem TMof.mono {K : Kf} {f : SM} (mf : MonoE f) : ∀ σ H (P Q : List V → Hp → Prop), (∀ vs H, P vs H → Q vs H) → TMof K f σ H P → TMof K f σ H Q := fun σ H P Q h ⟨Z, F, ρ, r, q⟩ => ⟨Z, F, ρ, r, mf ρ _ _ (fun ss hs vs F' H' g sl h0 => h _ _ (hs vs F' H' g sl h0)) q⟩
theorem S.pm2 {i j : Nat} {e1 e2 : Expr} {f : SM} (h : Ms X [e1, e2] f) (hp : PA X [e1, e2] (TMof X.K f) → PS X st (tPar i j (TMof X.K f))) : S X st (parM [i, j] f) := S.parM2 h hp (TMof.mono h.mono)
theorem S.pm3 {i j l : Nat} {e1 e2 e3 : Expr} {f : SM} (h : Ms X [e1, e2, e3] f) (hp : PA X [e1, e2, e3] (TMof X.K f) → PS X st (tPar3 i j l (TMof X.K f))) : S X st (parM [i, j, l] f) := ⟨parM_mono h.mono, PS.weak (hp h.run) fun D σ H q =>
  TMof.mono h.mono _ _ _ _ (fun vs H1 z => by
    obtain ⟨z1, z2⟩ := z
    match vs, z1 with
    | [u, v, w], _ => exact ⟨u, v, w, rfl, z2⟩) (TMof.cnt h (parM_tp h.mono q))⟩
/-- .. by way of a tuple -/
def gNames : List Nat → TGs
  | [] => gNil
  | i :: is => gCons (gName i) (gNames is)
theorem gNames_at : ∀ (is : List Nat) (vs : List V) (σ : L2.St) (H : Hp) (Q : L2.St → Hp → Prop), vs.length = is.length → Q (setAllV σ is vs) H → gNames is vs σ H Q
  | [], [], σ, H, Q, _, q => ⟨rfl, q⟩
  | i :: is, v :: vs, σ, H, Q, h, q => ⟨v, vs, rfl, gNames_at is vs _ H Q (by simpa using h) q⟩
theorem S.pmT {is : List Nat} {es : List Expr} {n : Nat} {f : SM} (h : Ms X es f) (hn : es.length = n) (hi : is.length = n) (hz : n ≤ 1000) (hp : PA X es (TMof X.K f) → PS X st (tAsg (tTup (TMof X.K f)) (gTup X.K n (gNames is)))) : S X st (parM is f) := ⟨parM_mono h.mono, PS.weak (hp h.run) fun D σ H q => by
  obtain ⟨Z, F, ρ, r, q⟩ := q
  refine ⟨Z, F, ρ, r, h.mono ρ _ _ (fun ss hs vs F' H' g sl _ => ?_) (h.cnt ρ _ q)⟩
  have hl : vs.length = n := (sl.length.trans hs.1).trans hn
  refine ⟨by rw [hl]; exact big_line (Nat.le_trans hz (by decide)), fun p hp => ?_⟩
  have g2 := g.trans (g.b.lay0 (o := .tup vs) hp)
  refine ⟨p, vs, rfl, .inl (.inl upd_same), hl, gNames_at is vs σ _ _ (hl.trans hi.symm) ?_⟩
  exact hs.2 _ F' _ g2.f ((r.grow g2).setAll is (sl.gr (g.b.lay0 hp)))⟩
end

/-! ### t[lo::-1] -/
/-- how many items t[lo::-1] has -/
def backN (n : Nat) : Option Int → Nat
  | none => n
  | some v => ((if v < 0 then max (v + n) (-1) else min v (n - 1)) + 1).toNat
theorem backN_le (n : Nat) (lo : Option Int) : backN n lo ≤ n := by
  cases lo with
  | none => exact Nat.le_refl _
  | some v => show ((if v < 0 then max (v + (n : Int)) (-1) else min v ((n : Int) - 1)) + 1).toNat ≤ n; split <;> omega
theorem adjust_back (lo : Option Int) (n : Nat) : Builtin.Slice.sliceAdjust lo none (-1) (n : Int) = (((backN n lo : Nat) : Int) - 1, -1) := by
  unfold Builtin.Slice.sliceAdjust
  refine Prod.ext ?_ ?_
  · cases lo with
    | none => show (if (-1 : Int) < 0 then (if (-1 : Int) < 0 then (n : Int) - 1 else n) else (if (-1 : Int) < 0 then -1 else 0)) = (n : Int) - 1; rfl
    | some v =>
      show (if v < 0 then max (v + (n : Int)) (if (-1 : Int) < 0 then -1 else 0) else min v (if (-1 : Int) < 0 then (n : Int) - 1 else n)) = ((((if v < 0 then max (v + (n : Int)) (-1) else min v ((n : Int) - 1)) + 1).toNat : Nat) : Int) - 1
      rw [if_pos (show (-1 : Int) < 0 by decide), if_pos (show (-1 : Int) < 0 by decide)]
      split <;> omega
  · rfl
theorem places_back (c : Nat) : Builtin.Slice.slicePlaces ((c : Int) - 1) (-1) (-1) = c := by
  unfold Builtin.Slice.slicePlaces
  rw [if_neg (show ¬ ((-1 : Int) > 0) by decide)]
  split
  · have : ((c : Int) - 1 - -1 - 1) / (- -1) = (c : Int) - 1 := by
      rw [show (- -1 : Int) = 1 by decide, Int.ediv_one]; omega
    rw [this]; omega
  · omega
theorem pick_back {α : Type} : ∀ (c : Nat) (xs : List α), c ≤ xs.length → ((List.range c).filterMap fun (k : Nat) => xs[(((c : Int) - 1) + (k : Int) * (-1)).toNat]?) = (xs.take c).reverse
  | 0, xs, _ => rfl
  | c + 1, xs, h => by
    have hl : c < xs.length := h
    rw [List.range_succ_eq_map, List.filterMap_cons, List.filterMap_map]
    have e0 : xs[((((c + 1 : Nat) : Int) - 1) + ((0 : Nat) : Int) * (-1)).toNat]? = some xs[c] := by
      rw [show ((((c + 1 : Nat) : Int) - 1) + ((0 : Nat) : Int) * (-1)).toNat = c by omega]
      exact List.getElem?_eq_getElem hl
    rw [e0]
    have ih := pick_back c xs (Nat.le_of_lt hl)
    have e1 : ((fun (k : Nat) => xs[((((c + 1 : Nat) : Int) - 1) + (k : Int) * (-1)).toNat]?) ∘ Nat.succ) = fun (k : Nat) => xs[(((c : Int) - 1) + (k : Int) * (-1)).toNat]? := by
      funext k
      show xs[((((c + 1 : Nat) : Int) - 1) + ((k + 1 : Nat) : Int) * (-1)).toNat]? = _
      congr 1
      omega
    rw [e1, ih, List.take_succ_eq_append_getElem hl, List.reverse_append]
    rfl
section
variable {prog : Program} {w : World} {A : Around} {E : Value → Shared → Prop} {s : Shared}
theorem sliceApplied_back {sl : Addr} {vl : Value} {u : Tok} {lo : Option Int} {n : Nat} {Q : Int × Int × Nat → Shared → Prop} (hs : s.heap.IsSliceOf sl vl .none (.int (-1) u)) (pl : IsPart vl lo)
    (h : Q (((backN n lo : Nat) : Int) - 1, -1, backN n lo) s) : wpAny (model prog w) A (Builtin.Slice.sliceApplied (.ref sl) (pure (n : Int))) Q E s := by
  obtain ⟨os, hos, hcs, hds⟩ := id hs
  unfold Builtin.Slice.sliceApplied Builtin.Slice.sliceFields
  refine wpAny_bind (wpAny_bind (wpAny_field hos hds (x := vl) rfl (wpAny_bind (wpAny_field hos hds (x := .none) rfl (wpAny_bind (wpAny_field hos hds (x := .int (-1) u) rfl (wpAny_pure ?_)))))))
  refine wpAny_bind (slicePart_int ?_)
  show wpAny _ _ (if ((-1 : Int) == 0) = true then _ else _) _ _ s
  rw [if_neg (by decide)]
  refine wpAny_bind (HT.slicePart_ pl (wpAny_bind (slicePart_none (wpAny_bind (wpAny_pure ?_)))))
  show wpAny _ _ (match Builtin.Slice.sliceAdjust lo none (-1) (n : Int) with | (lo, hi) => pure (lo, (-1 : Int), Builtin.Slice.slicePlaces lo hi (-1))) _ _ s
  rw [adjust_back lo n]
  show wpAny _ _ (pure (((backN n lo : Nat) : Int) - 1, (-1 : Int), Builtin.Slice.slicePlaces (((backN n lo : Nat) : Int) - 1) (-1) (-1))) _ _ s
  rw [places_back]
  exact wpAny_pure h
theorem getItem_tuple_back {t sl : Addr} {items : Array Value} {vl : Value} {u : Tok} {lo : Option Int} {Q : Value → Shared → Prop} (ht : IsTup s.heap t items) (hs : s.heap.IsSliceOf sl vl .none (.int (-1) u)) (pl : IsPart vl lo)
    (h : Q (.ref s.heap.objs.size) { s with heap := s.heap.push { cls := .type "tuple", data := .seq ((items.toList.take (backN items.size lo)).reverse).toArray } })
    (hsz : items.size ≤ sizeLine) : wpAny (model prog w) A (getItem (.ref t) (.ref sl)) Q E s := by
  have hb := backN_le items.size lo
  have htake : sizeOk (.seq ((items.toList.take (backN items.size lo)).reverse).toArray) := by
    show ((items.toList.take (backN items.size lo)).reverse).toArray.size ≤ sizeLine
    rw [List.size_toArray, List.length_reverse, List.length_take, Array.length_toList]
    omega
  obtain ⟨os, hos, hcs, hds⟩ := id hs
  have hTs : s.TypeIs (.ref sl) "slice" := ⟨os, hos, hcs⟩
  unfold getItem
  try with_reducible refine wpAny_holding ?_
  first | refine wpAny_bind (wpAny_pure ?_) | skip
  refine wpAny_bind (wpAny_sequenceKey ht.typeIs (by decide) ?_)
  refine wpAny_bind (wpAny_callSpecial?_slot (name := Str.ofString "__getitem__") ht.typeIs PyProof.Rows.slot_tuple_getitem
    (wpAny_call_entry PyProof.Rows.slot_tuple_getitem ht.typeIs entry_tuple_getitem ?_ (args_tuple_getitem _ _)))
  show wpAny _ _ (Builtin.Tuple.tupleItemsOf (.ref t) >>= _) _ _ s
  refine wpAny_bind (tupleItemsOf_ ht ?_)
  refine wpAny_bind (wpAny_typeOf hTs ?_)
  rw [if_pos (by decide)]
  refine wpAny_bind (sliceApplied_back hs pl ?_)
  have hno : ¬ (((((backN items.size lo : Nat) : Int) - 1) == 0 && (-1 : Int) == 1 && backN items.size lo == items.size) = true) := by
    rw [show ((-1 : Int) == 1) = false by decide, Bool.and_false, Bool.false_and]
    exact Bool.false_ne_true
  show wpAny _ _ (if ((((backN items.size lo : Nat) : Int) - 1) == 0 && (-1 : Int) == 1 && backN items.size lo == items.size) = true then _ else _) _ _ s
  rw [if_neg hno]
  have hp : ((List.range (backN items.size lo)).filterMap fun (k : Nat) => items[((((backN items.size lo : Nat) : Int) - 1) + (k : Int) * (-1)).toNat]?).toArray = ((items.toList.take (backN items.size lo)).reverse).toArray := by
    have := pick_back (backN items.size lo) items.toList (by rw [Array.length_toList]; exact hb)
    rw [← this]
    congr 2
    funext k
    rw [Array.getElem?_toList]
  rw [hp]
  first
    | exact wpAny_bind (m := Builtin.Tuple.tupleExact _) (wpAny_newObj_type (wpAny_pure ⟨_, rfl, wpAny_pure h⟩) htake)
    | exact wpAny_bind (m := Builtin.Tuple.tupleExact _) (wpAny_newObj_type (wpAny_bind (wpAny_pure (wpAny_pure ⟨_, rfl, wpAny_pure h⟩))) htake)
    | exact wpAny_bind (wpAny_bind (m := Builtin.Tuple.tupleExact _) (wpAny_newObj_type (wpAny_pure (wpAny_pure ⟨_, rfl, wpAny_pure h⟩)) htake))
    | exact wpAny_bind (wpAny_bind (m := Builtin.Tuple.tupleExact _) (wpAny_newObj_type (wpAny_pure ⟨_, rfl, wpAny_pure h⟩) htake))
end
/-- what t[lo::-1] is, by values: a tuple with any lo, a list without one -/
def rBack (K : PySem.W.Frag) : V → Option Int → Hp → VK → Prop := fun x lo H Q => ∃ a xs, x = .ref a ∧ ((SqT K H a xs ∧ ∀ p, H p = none → Q (.ref p) (upd H p (.tup ((xs.take (backN xs.length lo)).reverse)))) ∨ (lo = none ∧ SqL K H a xs ∧ ∀ p, H p = none → Q (.ref p) (upd H p (.lst xs.reverse))))
section
variable {X : Cx}
theorem pe_back {e : Expr} {lo : Option Expr} {te : TE} {tl : TO} {k : Nat} {p1 p2 p3 pos : Pos} (he : PE X e te) (hl : PO X lo tl) : PE X (.Subscript e (.Slice lo none (some (.UnaryOp .USub (.Constant (.int 1) k p1) p2)) p3) pos)
    (fun σ H Q => te σ H fun x H1 => tl σ H1 fun o H2 => rBack X.K x o H2 Q) := by
  refine ⟨fun pins s σ H Q I h => ?_⟩
  refine Subscript_ (thn (he.run pins s σ H _ I h) fun v s1 ⟨x, H1, I1, r1, q1⟩ => ?_)
  have hst : PO X (some (.UnaryOp .USub (.Constant (.int 1) k p1) p2)) (tPart (tUn (rU fun i => .int (-i)) (tC (.int 1)))) := po_some (pe_un un_neg pe_int)
  refine wpAny_Slice (thn (hl.run pins s1 σ H1 _ I1 q1) fun vl s2 ⟨l, H2, I2, pl, q2⟩ => ?_)
  obtain ⟨a, xs, ex, q⟩ := q2
  subst ex
  cases r1
  refine thn (po_none.run pins s2 σ H2 (fun o H3 => o = none ∧ H3 = H2) I2 ⟨rfl, rfl⟩) fun vu s3 ⟨u, H3, I3, pu, eu, e3⟩ => ?_
  subst eu e3
  refine thn (hst.run pins s3 σ H3 (fun o H4 => o = some (-1) ∧ H4 = H3) I3 ⟨1, rfl, -1, rfl, rfl, rfl⟩) fun vs s4 ⟨o, H4, I4, ps, eo, e4⟩ => ?_
  subst eo e4
  have I5 : Inv X pins σ H4 { s4 with heap := s4.heap.push { cls := .type "slice", data := .fields #[vl, vu, vs] } } := I4.kept (t' := s4.toks) fun b ob q => Heap.get?_push_of_some _ q
  rcases q with ⟨hx, q⟩ | ⟨el, hx, q⟩
  · obtain ⟨its, r, ht, hz⟩ := I5.tuple hx
    have hlen := r.length
    show wpAny (model X.prog X.w) X.A (subscriptTail e (.Slice lo none (some (.UnaryOp .USub (.Constant (.int 1) k p1) p2)) p3) (.ref a) (.ref s4.heap.objs.size)) (EP X pins σ Q) X.xe { s4 with heap := s4.heap.push { cls := .type "slice", data := .fields #[vl, vu, vs] } }
    refine tail_any (ops := [.ref a, .ref s4.heap.objs.size]) ht.typeIs (PyProof.Rows.slot_tuple_getitem.lookup) ?_ (by with_unfolding_all rfl)
    cases pu
    cases ps with
    | int _ u =>
    refine getItem_tuple_back (items := its.toArray) ht (Heap.IsSliceOf.new _ vl .none (.int (-1) u)) pl ?_ (by rw [List.size_toArray]; omega)
    have hsz2 : its.toArray.size = xs.length := by rw [List.size_toArray, hlen]
    have hl2 : its.toArray.toList = its := rfl
    rw [hsz2, hl2]
    refine ⟨.ref _, _, I5.laid (t' := s4.toks) (o := .tup ((xs.take (backN xs.length l)).reverse)) (fun b ob q => Heap.get?_push_of_some _ q) (Nat.le_refl _) ?_, rfl, q _ (I5.hok.fresh (Nat.le_refl _))⟩
    exact ⟨by rw [List.length_reverse, List.length_take]; omega, _, (r.take _).reverse, IsTup.new _ _⟩
  · subst el
    cases pl
    obtain ⟨its, r, ht, hz⟩ := I5.list hx
    have hlen := r.length
    show wpAny (model X.prog X.w) X.A (subscriptTail e (.Slice lo none (some (.UnaryOp .USub (.Constant (.int 1) k p1) p2)) p3) (.ref a) (.ref s4.heap.objs.size)) (EP X pins σ Q) X.xe { s4 with heap := s4.heap.push { cls := .type "slice", data := .fields #[.none, vu, vs] } }
    refine tail_any (ops := [.ref a, .ref s4.heap.objs.size]) ht.isList.typeIs (PySem.slot_list_getitem.lookup) ?_ (by with_unfolding_all rfl)
    refine wpAny_getItem_list_slice ht.isList (Heap.IsSliceOf.new _ .none vu vs) .none pu ps (by decide) ?_ (by rw [List.size_toArray]; omega)
    rw [PySem.W.krv_pick]
    refine ⟨.ref _, _, I5.laid (t' := s4.toks) (o := .lst xs.reverse) (fun b ob q => Heap.get?_push_of_some _ q) (Nat.le_refl _) ?_, rfl, q _ (I5.hok.fresh (Nat.le_refl _))⟩
    exact ⟨by rw [List.length_reverse]; exact hz, _, 0, r.reverse, Heap.get?_push_size _ rfl⟩
def backO (x : D) (lo : Option Int) (Q : D → Prop) : Prop := match x, lo with
  | .tup ds, lo => Q (.tup ((ds.take (backN ds.length lo)).reverse))
  | .lst ds, none => Q (.lst ds.reverse)
  | _, _ => False
theorem backO_mono {x : D} {lo : Option Int} {P Q : D → Prop} (h : ∀ d, P d → Q d) (q : backO x lo P) : backO x lo Q := by
  unfold backO at *
  split at q
  · exact h _ q
  · exact h _ q
  · exact q.elim
def backE (f : SE) (l : SO) : SE := fun ρ Q => f ρ fun x => l ρ fun lo => backO x lo Q
theorem E.back {e : Expr} {f : SE} {lo : Option Expr} {l : SO} {k : Nat} {p1 p2 p3 pos : Pos} (ha : P X e f) (hl : O X lo l) : E X (.Subscript e (.Slice lo none (some (.UnaryOp .USub (.Constant (.int 1) k p1) p2)) p3) pos) (backE f l) :=
  ⟨fun ρ P Q hpq q => ha.mono ρ _ _ (fun x hx => hl.mono ρ _ _ (fun o ho => backO_mono hpq ho) hx) q,
   PE.weak (pe_back ha.run hl.run) fun σ H Q ⟨Z, F, ρ, r, q⟩ => ⟨Z, F, ρ, r, ha.mono ρ _ _ (fun x hx v F1 H1 g1 rp => ⟨Z, F1, ρ, r.grow g1, hl.mono ρ _ _ (fun o ho F2 H2 g2 => by
     have gg := g1.trans g2
     have rp3 := rp.gr g2
     unfold backO at ho
     split at ho
     · obtain ⟨a, vs, rfl, e1, e2, e3⟩ := rp3.tup g2.b
       refine ⟨a, vs, rfl, .inl ⟨e1, fun p hp => ho _ _ _ (gg.trans (g2.b.lay hp)) ⟨p, _, rfl, .inl (.inl upd_same), ?_⟩⟩⟩
       rw [e2.length]
       exact Reps.ex (Ex.upd (g2.b.fh.none hp)) _ _ (Reps.rev (e2.take _))
     · obtain ⟨a, vs, rfl, e1, e2, _⟩ := rp3.lst g2.b
       exact ⟨a, vs, rfl, .inr ⟨rfl, SqL.of e1, fun p hp => ho _ _ _ (gg.trans (g2.b.lay hp)) ⟨p, _, rfl, upd_same, Reps.ex (Ex.upd (g2.b.fh.none hp)) _ _ (Reps.rev e2)⟩⟩⟩
     · exact ho.elim) hx⟩) q⟩⟩
end

/-! ### ranges with a step, lists of ranges -/
def cntR (i j c : Int) : Nat := if i < j then ((j - i - 1) / c + 1).toNat else 0
def rng3D (i j c : Int) : List D := (List.range (cntR i j c)).map fun (k : Nat) => D.int (i + (k : Int) * c)
theorem rng3D_len {i j c : Int} : (rng3D i j c).length = cntR i j c := by unfold rng3D; rw [List.length_map, List.length_range]
def R3 (i j c : Int) : Prop := 0 < c ∧ c < 2 ^ 30 ∧ -(2 ^ 60) ≤ i ∧ i < 2 ^ 60 ∧ -(2 ^ 60) ≤ j ∧ j < 2 ^ 60
theorem cntR_size {i j c : Int} (h : 0 < c) : Builtin.Range.rangeSize i j c = (cntR i j c : Int) := by
  unfold Builtin.Range.rangeSize cntR
  rw [if_pos h]
  by_cases hl : i < j
  · rw [if_pos hl, if_pos hl]
    have := Int.ediv_nonneg (show 0 ≤ j - i - 1 by omega) (show 0 ≤ c by omega)
    omega
  · rw [if_neg hl, if_neg hl]; rfl
theorem R3.rgc {i j c : Int} (h : R3 i j c) : RgC i j c (cntR i j c) := by
  obtain ⟨h1, h2, h3, h4, h5, h6⟩ := h
  refine ⟨by omega, by omega, ?_, cntR_size h1⟩
  have hd : 0 ≤ j - i - 1 → (j - i - 1) / c ≤ j - i - 1 := fun h => Int.ediv_le_self _ h
  have hd0 : 0 ≤ j - i - 1 → 0 ≤ (j - i - 1) / c := fun h => Int.ediv_nonneg h (by omega)
  unfold Builtin.Range.small
  rw [cntR_size h1]
  simp only [Builtin.Range.rangeFitsLong, Bool.and_eq_true, Bool.or_eq_true, decide_eq_true_eq, beq_iff_eq, if_pos (show c > 0 from h1)]
  unfold cntR
  split <;> omega
section
variable {X : Cx} {e tg : Expr} {es : List Expr} {fa : SA} {pos : Pos}
theorem turn_r3 {K : Kf} {Z : Zs} {F H : Hp} {lo hi c : Int} (b : Base K Z F H) (i : Nat) : TurnOk K Z (Itc lo c (cntR lo hi c)) (rng3D lo hi c) F H i :=
  ⟨fun e => by rw [rng3D_len] at e; exact Nat.le_of_eq e.symm, fun d hd => by
    have hi' : i < cntR lo hi c := by
      have := (List.getElem?_eq_some_iff.mp hd).1
      rw [rng3D_len] at this; exact this
    refine ⟨hi', fun x H' y => ?_⟩
    obtain ⟨rfl, rfl⟩ := y
    refine ⟨F, Gr.refl b, ?_⟩
    unfold rng3D at hd
    rw [List.getElem?_map, List.getElem?_range hi'] at hd
    cases hd
    exact rfl⟩
def rng3A (f : SA) : SA := fun ρ Q => f ρ fun ds => match ds with
  | [.int i, .int j, .int c] => R3 i j c ∧ Q (rng3D i j c)
  | _ => False
theorem I.r3 (ha : Ap X es fa) (h : PA X es (TQof X.K fa) → PI X tg e (iRng3 (TQof X.K fa))) : I X tg e (rng3A fa) := ⟨fun ρ P Q hpq q => ha.mono ρ _ _ (fun ds hd => by
    split at hd
    · exact ⟨hd.1, hpq _ hd.2⟩
    · exact hd.elim) q, PI.weak (h ha.run) fun σ H Rc ⟨Z, F, ρ, r, q⟩ => ⟨Z, F, ρ, r, ha.mono ρ _ _ (fun ds hd vs F1 H1 g1 reps => by
    split at hd
    · rename_i i j c
      obtain ⟨v, v2, v3, rfl, rep, rep2, rep3⟩ := reps.three
      exact ⟨i, j, c, _, by rw [rep.int, rep2.int, rep3.int], hd.1.rgc, hd.2 _ F1 H1 g1 fun F2 H2 i ex b2 => turn_r3 b2 i⟩
    · exact hd.elim) q⟩⟩
/-- an expression that makes a range, any step -/
def PR3 (X : Cx) (e : Expr) (t : L2.St → Hp → (Int → Int → Nat → Hp → Prop) → Prop) : Prop :=
  ∀ (pins : List (Addr × Obj)) (s : Shared) (σ : L2.St) (H : Hp) (Q : Int → Int → Nat → Hp → Prop), Inv X pins σ H s → t σ H Q →
    wpAny (model X.prog X.w) X.A (eval e X.env) (fun x s' => ∃ (r : Addr) (a b c : Int) (n : Nat) (t u v : Tok) (H' : Hp), x = .ref r ∧ IsRange s'.heap r a b c t u v ∧ Builtin.Range.small a b c = true ∧ Builtin.Range.rangeSize a b c = (n : Int) ∧ Inv X pins σ H' s' ∧ Q a c n H') X.xe s
def tR1 (ta : TA) : L2.St → Hp → (Int → Int → Nat → Hp → Prop) → Prop := fun σ H Q => ta σ H fun vs H1 => ∃ j : Int, vs = [.int j] ∧ (-(2 ^ 62) ≤ j ∧ j < 2 ^ 62) ∧ Q 0 1 j.toNat H1
def tR2 (ta : TA) : L2.St → Hp → (Int → Int → Nat → Hp → Prop) → Prop := fun σ H Q => ta σ H fun vs H1 => ∃ i j : Int, vs = [.int i, .int j] ∧ (-(2 ^ 62) ≤ i ∧ i < 2 ^ 62 ∧ -(2 ^ 62) ≤ j ∧ j < 2 ^ 62) ∧ Q i 1 (j - i).toNat H1
def tR3 (ta : TA) : L2.St → Hp → (Int → Int → Nat → Hp → Prop) → Prop := fun σ H Q => ta σ H fun vs H1 => ∃ (i j c : Int) (n : Nat), vs = [.int i, .int j, .int c] ∧ RgC i j c n ∧ Q i c n H1
theorem pr3_1 {a : Expr} {ta : TA} {p : Pos} (hg : Gl X "range") (hm : X.mg "range" = none) (ha : PA X [a] ta) (hs : starEach [a] X.env = (false, eval a X.env) :: starEach [] X.env := by rfl) : PR3 X (.Call (.Name "range" p) [a] [] pos) (tR1 ta) := by
  intro pins s σ H Q I h
  refine Call_ (ld_blt I hg hm boot_range (PyProof.Rows.callWith_type1 (thn (ha.run pos pins s σ H _ I h) fun us s1 ⟨vs, H1, I1, r1, q1⟩ => ?_) hs))
  obtain ⟨j, e, ⟨b1, b2⟩, q⟩ := q1
  subst e
  cases r1 with
  | cons r rr =>
    cases rr
    obtain ⟨t, rfl⟩ := r
    refine call_range_1 ⟨_, 0, j, 1, _, _, _, _, H1, rfl, IsRange.new _ _ _ _ _ _ _, small_one (by omega) (by omega) b1 b2, ?_, I1.kept fun b u e => Heap.get?_push_of_some _ e, q⟩
    have := rangeSize_nat 0 j
    rw [Int.sub_zero] at this
    exact this
theorem pr3_2 {a b : Expr} {ta : TA} {p : Pos} (hg : Gl X "range") (hm : X.mg "range" = none) (ha : PA X [a, b] ta) (hs : starEach [a, b] X.env = (false, eval a X.env) :: starEach [b] X.env := by rfl) (hpl : (backTo pos (starEach [b] X.env)).any (·.1) = false := by rfl) : PR3 X (.Call (.Name "range" p) [a, b] [] pos) (tR2 ta) := by
  intro pins s σ H Q I h
  refine Call_ (ld_blt I hg hm boot_range (PyProof.Rows.callWith_type1 (thn (ha.run pos pins s σ H _ I h) fun us s1 ⟨vs, H1, I1, r1, q1⟩ => ?_) hs hpl))
  obtain ⟨i, j, e, ⟨b1, b2, b3, b4⟩, q⟩ := q1
  subst e
  cases r1 with
  | cons r rr =>
    cases rr with
    | cons r' rr =>
      cases rr
      obtain ⟨t, rfl⟩ := r
      obtain ⟨t', rfl⟩ := r'
      exact call_range_2 ⟨_, i, j, 1, _, _, _, _, H1, rfl, IsRange.new _ _ _ _ _ _ _, small_one b1 b2 b3 b4, rangeSize_nat i j, I1.kept fun b u e => Heap.get?_push_of_some _ e, q⟩
theorem pr3_3 {a b c : Expr} {ta : TA} {p : Pos} (hg : Gl X "range") (hm : X.mg "range" = none) (ha : PA X [a, b, c] ta) (hs : starEach [a, b, c] X.env = (false, eval a X.env) :: starEach [b, c] X.env := by rfl) (hpl : (backTo pos (starEach [b, c] X.env)).any (·.1) = false := by rfl) : PR3 X (.Call (.Name "range" p) [a, b, c] [] pos) (tR3 ta) := by
  intro pins s σ H Q I h
  refine Call_ (ld_blt I hg hm boot_range (PyProof.Rows.callWith_type1 (thn (ha.run pos pins s σ H _ I h) fun us s1 ⟨vs, H1, I1, r1, q1⟩ => ?_) hs hpl))
  obtain ⟨i, j, k, n, e, ⟨c0, c1, c2, c3⟩, q⟩ := q1
  subst e
  cases r1 with
  | cons r rr =>
    cases rr with
    | cons r' rr =>
      cases rr with
      | cons r'' rr =>
        cases rr
        obtain ⟨t, rfl⟩ := r
        obtain ⟨t', rfl⟩ := r'
        obtain ⟨t'', rfl⟩ := r''
        exact call_range_3 c0 ⟨_, i, j, k, n, _, _, _, H1, rfl, IsRange.new _ _ _ _ _ _ _, c2, c3, I1.kept fun b u e => Heap.get?_push_of_some _ e, q⟩ (.inl (PyProof.noPylong_small c1))
def rgV3 (a c : Int) (n : Nat) : List V := (List.range n).map fun (i : Nat) => V.int (a + (i : Int) * c)
theorem rgV3_length (a c : Int) (n : Nat) : (rgV3 a c n).length = n := by unfold rgV3; rw [List.length_map, List.length_range]
theorem vals_rg3 {a c : Int} {n : Nat} {acc : Array Value} (h : ItemsOf (fun i v => ∃ t, v = .int (a + i * c) t) acc n) : Vals (rgV3 a c n) acc.toList := by
  have e : acc.toList.length = n := by rw [Array.length_toList]; exact h.1
  unfold rgV3
  rw [← e]
  refine vals_of_get acc.toList _ fun j u hj => ?_
  obtain ⟨t, rfl⟩ := h.2 j u (by rw [← hj, Array.getElem?_toList])
  exact ⟨t, rfl⟩
theorem pe_listR3 {te : L2.St → Hp → (Int → Int → Nat → Hp → Prop) → Prop} {p : Pos} (hc : X.calm = true) (hg : Gl X "list") (hm : X.mg "list" = none) (he : PR3 X e te) (na : starEach [e] X.env = (false, eval e X.env) :: starEach [] X.env := by rfl) :
    PE X (.Call (.Name "list" p) [e] [] pos) (fun σ H Q => te σ H fun a c n H1 => n ≤ big ∧ ∀ q, H1 q = none → Q (.ref q) (upd H1 q (.lst (rgV3 a c n)))) := by
  refine ⟨fun pins s σ H Q I h => ?_⟩
  refine Call_ (ld_blt I hg hm boot_list (PyProof.Rows.callWith_type1 (args_cons (thn (he pins s σ H _ I h) fun x s1 ⟨r, a, b, c, n, t, u, v, H1, ex, hr, hs, hn, I1, ok, q⟩ => args_nil ?_) na) na))
  subst ex
  refine call_list_range (n := n) (I1.ok.hd hc) hr hs hn (Nat.le_trans ok (by decide)) fun h' tk acc c' hk e' hi => ?_
  refine ⟨.ref s1.heap.objs.size, upd H1 s1.heap.objs.size (.lst (rgV3 a c n)), I1.laid hk (Nat.le_refl _) (show ObjOk X.prog X.w _ _ _ (.lst (rgV3 a c n)) from ⟨?_, acc.toList, c', vals_rg3 hi, ?_⟩), rfl, q _ (I1.hok.fresh (Nat.le_refl _))⟩
  · rw [rgV3_length]; exact big_line ok
  · rw [Array.toArray_toList]; exact e'
def lrgA (f : SA) : SA := fun ρ Q => f ρ fun ds => match ds with
  | [.int j] => (-(2 ^ 62) ≤ j ∧ j < 2 ^ 62 ∧ j.toNat ≤ big) ∧ Q (rngD 0 j)
  | [.int i, .int j] => (-(2 ^ 62) ≤ i ∧ i < 2 ^ 62 ∧ -(2 ^ 62) ≤ j ∧ j < 2 ^ 62 ∧ (j - i).toNat ≤ big) ∧ Q (rngD i j)
  | [.int i, .int j, .int c] => (R3 i j c ∧ cntR i j c ≤ big) ∧ Q (rng3D i j c)
  | _ => False
theorem lrgA_mono (mf : MonoE fa) : MonoE (lrgA fa) := fun ρ P Q hpq q => mf ρ _ _ (fun ds hd => by
    split at hd
    · exact ⟨hd.1, hpq _ hd.2⟩
    · exact ⟨hd.1, hpq _ hd.2⟩
    · exact ⟨hd.1, hpq _ hd.2⟩
    · exact hd.elim) q
theorem reps_rg {K : Kf} {rw : Option Addr} {F : Hp} {a c : Int} : ∀ n, Reps K rw F ((List.range n).map fun (k : Nat) => D.int (a + (k : Int) * c)) (rgV3 a c n) := fun n => by
  have : ((List.range n).map fun (k : Nat) => D.int (a + (k : Int) * c)) = ((List.range n).map fun (k : Nat) => (a + (k : Int) * c)).map D.int := by rw [List.map_map]; rfl
  rw [this]
  have e : rgV3 a c n = ((List.range n).map fun (k : Nat) => (a + (k : Int) * c)).map V.int := by unfold rgV3; rw [List.map_map]; rfl
  rw [e]
  exact Reps.of_ints
theorem rngD_one {i j : Int} : rngD i j = (List.range (j - i).toNat).map fun (k : Nat) => D.int (i + (k : Int) * 1) := by
  unfold rngD
  congr 1
  funext k
  rw [Int.mul_one]
theorem lrg_key {σ : L2.St} {H H1 F1 : Hp} {Q : VK} {Z : Zs} {F : Hp} {ρ : REnv} (r : R X.K Z F ρ σ H) (g1 : Gr X.K Z F H F1 H1) {es : List D} {a c : Int} {n : Nat} (e : es = ((List.range n).map fun (k : Nat) => D.int (a + (k : Int) * c)))
    (k : ∀ (p : Addr) (vs : List V) (F' H' : Hp), Gr X.K Z F H F' H' → H p = none → Fresh Z F' ρ σ p → H' p = some (HO.lst vs) → Reps X.K Z.rw F' es vs → Q (V.ref p) H') : ∀ q, H1 q = none → Q (.ref q) (upd H1 q (.lst (rgV3 a c n))) := fun q hq =>
  k q (rgV3 a c n) F1 _ (g1.trans (g1.b.lay0 hq)) (back_none r.base g1 hq) (fresh_of r g1 hq) upd_same (by rw [e]; exact reps_rg n)
abbrev lstR (t : L2.St → Hp → (Int → Int → Nat → Hp → Prop) → Prop) : TE := fun σ H Q => t σ H fun a c n H1 => n ≤ big ∧ ∀ q, H1 q = none → Q (.ref q) (upd H1 q (.lst (rgV3 a c n)))
def len1 (fa : SA) : SA := fun ρ Q => fa ρ fun ds => match ds with | [.int j] => Q [.int j] | _ => False
theorem F.lrg1 (ha : Ap X es fa) (h : PA X es (TQof X.K fa) → PE X e (lstR (tR1 (TQof X.K fa)))) : F X e (lrgA (len1 fa)) :=
  ⟨lrgA_mono (fun ρ P Q hpq q => ha.mono ρ _ _ (fun ds hd => by
      split at hd
      · exact hpq _ hd
      · exact hd.elim) q), PE.weak (h ha.run) fun σ H Q ⟨Z, F, ρ, r, q⟩ => ⟨Z, F, ρ, r, ha.mono ρ _ _ (fun ds hd vs F1 H1 g1 reps => by
    split at hd
    · rename_i j
      obtain ⟨hc, hd⟩ := hd
      obtain ⟨v, rfl, rep⟩ := reps.one
      exact ⟨j, by rw [rep.int], ⟨hc.1, hc.2.1⟩, hc.2.2, lrg_key r g1 (by rw [rngD_one, Int.sub_zero]) hd⟩
    · exact hd.elim) q⟩⟩
def len2 (fa : SA) : SA := fun ρ Q => fa ρ fun ds => match ds with | [.int i, .int j] => Q [.int i, .int j] | _ => False
theorem F.lrg2 (ha : Ap X es fa) (h : PA X es (TQof X.K fa) → PE X e (lstR (tR2 (TQof X.K fa)))) : F X e (lrgA (len2 fa)) :=
  ⟨lrgA_mono (fun ρ P Q hpq q => ha.mono ρ _ _ (fun ds hd => by
      split at hd
      · exact hpq _ hd
      · exact hd.elim) q), PE.weak (h ha.run) fun σ H Q ⟨Z, F, ρ, r, q⟩ => ⟨Z, F, ρ, r, ha.mono ρ _ _ (fun ds hd vs F1 H1 g1 reps => by
    split at hd
    · rename_i i j
      obtain ⟨hc, hd⟩ := hd
      obtain ⟨v, v2, rfl, rep, rep2⟩ := reps.two
      exact ⟨i, j, by rw [rep.int, rep2.int], ⟨hc.1, hc.2.1, hc.2.2.1, hc.2.2.2.1⟩, hc.2.2.2.2, lrg_key r g1 rngD_one hd⟩
    · exact hd.elim) q⟩⟩
def len3 (fa : SA) : SA := fun ρ Q => fa ρ fun ds => match ds with | [.int i, .int j, .int c] => Q [.int i, .int j, .int c] | _ => False
theorem F.lrg3 (ha : Ap X es fa) (h : PA X es (TQof X.K fa) → PE X e (lstR (tR3 (TQof X.K fa)))) : F X e (lrgA (len3 fa)) :=
  ⟨lrgA_mono (fun ρ P Q hpq q => ha.mono ρ _ _ (fun ds hd => by
      split at hd
      · exact hpq _ hd
      · exact hd.elim) q), PE.weak (h ha.run) fun σ H Q ⟨Z, F, ρ, r, q⟩ => ⟨Z, F, ρ, r, ha.mono ρ _ _ (fun ds hd vs F1 H1 g1 reps => by
    split at hd
    · rename_i i j c
      obtain ⟨hc, hd⟩ := hd
      obtain ⟨v, v2, v3, rfl, rep, rep2, rep3⟩ := reps.three
      exact ⟨i, j, c, _, by rw [rep.int, rep2.int, rep3.int], hc.1.rgc, hc.2, lrg_key r g1 rfl hd⟩
    · exact hd.elim) q⟩⟩
end

/-! ### x[j] op= e on a list of one's own -/
section
variable {X : Cx} {e a b c : Expr} {f g k : SE} {pos : Pos} {st : Stmt}
theorem pget_list : PGet X (rIxL X.K) := fun pins s σ H o i ov iv Q I rx ry h => by
  obtain ⟨p, xs, i, z, rfl, rfl, hq, he, q⟩ := h
  cases rx
  obtain ⟨t, rfl⟩ := ry
  obtain ⟨its, r, pl, hz⟩ := I.list hq
  obtain ⟨j, h1, h2, h3, h4, h5⟩ := atI_get he
  obtain ⟨w, ew, rw'⟩ := r.get h2
  have hl := r.length
  have hn := line63
  have fin : EP X pins σ Q w s := ⟨z, H, I, rw', q⟩
  by_cases h0 : 0 ≤ i
  · have hj : i.toNat = j := by
      rw [seqIndex_of h0 h5] at h1
      exact Option.some.inj h1
    exact wpAny_getItem_list pl.isList h0 (by omega) (by rw [hj]; simpa using ew) fin
  · have hj : (i + (its.toArray.size : Int)).toNat = j := by
      rw [seqIndex_neg (by omega) h4] at h1
      rw [List.size_toArray, ← hl]
      exact Option.some.inj h1
    exact wpAny_getItem_list_neg pl.isList (by omega) (by rw [List.size_toArray] <;> omega) (by omega) (by rw [hj]; simpa using ew) fin
def augI (i : Nat) (o : O2) (g f : SE) : SS := fun ρ k => match ρ[i]? with
  | some (some (.own ds)) => g ρ fun z => match z with
    | .int j => (match ixN ds.length j with
      | some m => (match ds[m]? with
        | some x => f ρ fun y => o x y fun d => k.nx (ρ.set i (some (.own (ds.set m d))))
        | none => False)
      | none => False)
    | _ => False
  | _ => False
theorem augI_mono {i : Nat} {o : O2} (mo : Mono2 o) (mg : MonoE g) (mf : MonoE f) : MonoS (augI i o g f) := fun ρ k l hk q => by
  unfold augI at *
  split at q
  · exact mg ρ _ _ (fun z hz => by
      split at hz
      · split at hz
        · split at hz
          · exact mf ρ _ _ (fun y hy => mo _ _ _ _ (fun d hd => hk.1 _ hd) hy) hz
          · exact hz.elim
        · exact hz.elim
      · exact hz.elim) q
  · exact q.elim
theorem S.augIN {i : Nat} {o : O2} {r : R2} (hs : OpS X.K r o) (mo : Mono2 o) (hg : P X b g) (hf : P X a f) (hp : PE X b (TPof X.K g) → PE X a (TPof X.K f) → PS X st (tAugS (tVar i) (TPof X.K g) (TPof X.K f) (rIxL X.K) r rSetL)) : S X st (augI i o g f) := ⟨augI_mono mo hg.mono hf.mono, PS.weak (hp hg.run hf.run) fun D σ H ⟨Z, F, ρ, rr, q⟩ => by
  unfold augI at q
  split at q
  · rename_i ds hd
    obtain ⟨a, vs, e1, e2, e3, e6⟩ := rr.ownAt hd
    refine ⟨.ref a, e1, Z, F, ρ, rr, hg.mono ρ _ _ (fun z hz u F1 H1 g1 rq => ?_) q⟩
    split at hz
    · rename_i j
      split at hz
      · rename_i m hm
        split at hz
        · rename_i x hx
          obtain ⟨v, hv, hr⟩ := e3.get hx
          have h1 := g1.h a _ e6 e2
          have hat : atI vs j = some v := by
            unfold atI
            rw [e3.length, hm]
            exact hv
          refine ⟨a, vs, j, v, rfl, rq.int, SqL.of h1, hat, Z, F1, ρ, rr.grow g1, hf.mono ρ _ _ (fun y hy u' F2 H2 g2 ry => ?_) hz⟩
          have g12 := g1.trans g2
          refine hs Z F2 H2 x y v u' _ g12.b (.inl (Rep.ex g12.f _ _ hr)) ry (mo _ _ _ _ (fun d hd' w F3 H3 g3 rep => ?_) hy)
          have g13 := g12.trans g3
          exact ⟨a, vs, j, m, rfl, rq.int, g13.h a _ e6 e2, by rw [e3.length]; exact hm, hd' _ F3 _ g13.f ((rr.grow g13).mut hd e1 (g13.h a _ e6 e2) (Reps.set rep m (Reps.ex g13.f _ _ e3)))⟩
        · exact hz.elim
      · exact hz.elim
    · exact hz.elim
  · exact q.elim⟩
end

/-! ### a tuple by a number, any number -/
theorem tuple_mul1 (l : Addr) (items : Array Value) (n : Nat) (dd : Option Addr) (sl : Array (Option Value)) (x : Int) (u : Tok) (c0 : (decide (x < -(2 ^ 63)) || decide (x ≥ 2 ^ 63)) = false) (c1 : (items.isEmpty || x == 1) = true) :
    Meets (Builtin.«tuple.__mul__» ⟨[.ref l, .int x u], []⟩) (fun _ R s => s.heap.get? l = some { cls := .type "tuple", dict := dd, data := .seq items n, slots := sl } ∧ R (.ok (.ret (Value.ref l))) s) :=
  .of_wp fun prog w A R s h => by
    obtain ⟨hp, g, d, tk, os⟩ := s
    obtain ⟨hl, h⟩ := h
    have f1 := AutoSeq1.idx_int
    wp_walk using wpAny_loadPart' hl
    repeat (first
      | (refine wpAny_ite_false (decide_eq_false (by rw [c0]; exact Bool.false_ne_true)) ?_; wp_walk using wpAny_loadPart' hl)
      | (refine wpAny_ite_true (decide_eq_true c1) ?_; wp_walk using wpAny_loadPart' hl))
    exact ⟨_, rfl, h⟩
theorem tuple_mul0 (l : Addr) (items : Array Value) (n : Nat) (dd : Option Addr) (sl : Array (Option Value)) (x : Int) (u : Tok) (c0 : (decide (x < -(2 ^ 63)) || decide (x ≥ 2 ^ 63)) = false) (c1 : (items.isEmpty || x == 1) = false) (c2 : (decide (x ≤ 0) || items.isEmpty) = true) :
    Meets (Builtin.«tuple.__mul__» ⟨[.ref l, .int x u], []⟩) (fun _ R s => s.heap.get? l = some { cls := .type "tuple", dict := dd, data := .seq items n, slots := sl } ∧
      R (.ok (.ret (Value.ref s.heap.objs.size))) { s with heap := s.heap.push { cls := Value.type "tuple", data := Data.seq #[] }, toks := s.toks }) :=
  .of_wp fun prog w A R s h => by
    obtain ⟨hp, g, d, tk, os⟩ := s
    obtain ⟨hl, h⟩ := h
    have f1 := AutoSeq1.idx_int
    wp_walk using wpAny_loadPart' hl
    repeat (first
      | (refine wpAny_ite_false (decide_eq_false (by rw [c0]; exact Bool.false_ne_true)) ?_; wp_walk using wpAny_loadPart' hl)
      | (refine wpAny_ite_false (decide_eq_false (by rw [c1]; exact Bool.false_ne_true)) ?_; wp_walk using wpAny_loadPart' hl)
      | (refine wpAny_ite_true (decide_eq_true c2) ?_; wp_walk using wpAny_loadPart' hl))
    exact ⟨_, rfl, h⟩
def rRepA (K : PySem.W.Frag) : R2 := fun x y H Q => ∃ l k xs, x = .ref l ∧ y = .int k ∧ SqT K H l xs ∧ -1000 ≤ k ∧ k ≤ 1000 ∧ xs.length ≤ 1000 ∧
  ((xs = [] ∨ k = 1) → Q (.ref l) H) ∧ (xs ≠ [] → k ≠ 1 → ∀ p, H p = none → Q (.ref p) (upd H p (.tup (List.replicate k.toNat xs).flatten)))
section
variable {X : Cx} {e a b c : Expr} {f g k : SE} {pos : Pos}
theorem op_repA : OpR X (binaryOp .Mult) (rRepA X.K) := by
  intro pins s σ H x y v u Q I rx ry h
  obtain ⟨l, k, xs, rfl, rfl, hT, h1, h2, hz, q1, q2⟩ := h
  by_cases hk : xs = [] ∨ k = 1
  · cases rx
    obtain ⟨t, rfl⟩ := ry
    obtain ⟨its, r, ⟨⟨cls, dd, data, sl⟩, ho, hc, n, hd⟩, hs⟩ := I.tuple hT
    simp only at hc hd
    subst hc hd
    have hle : its.length = xs.length := r.length.symm
    have c0 : (decide (k < -(2 ^ 63)) || decide (k ≥ 2 ^ 63)) = false := by
      rw [decide_eq_false (by omega), decide_eq_false (by omega)] <;> rfl
    have c1 : (its.toArray.isEmpty || k == 1) = true := by
      rcases hk with e | e
      · rw [e] at hle
        rw [List.eq_nil_of_length_eq_zero hle]; rfl
      · rw [e]; exact Bool.or_true _
    exact wpAny_binaryOp_repeat_ref (T := "tuple") (U := "int") (by decide) ⟨_, ho, rfl⟩ (fun s' => typeIs_int s' k t) noFill_tuple_mul F.fills_int_mul F.slot_int_rmul repeat_tuple F.slot_int_index.lookup
      (call_meets F.slot_int_rmul (typeIs_int s k t) F.entry_int_rmul (F.args_int_rmul_2 _ _) (int_rmul_tuple k t l its.toArray n dd sl)
        ⟨ho, rfl, ⟨_, ho, rfl⟩, call_meets F.slot_tuple_mul ⟨_, ho, rfl⟩ F.entry_tuple_mul (F.args_tuple_mul_2 _ _) (tuple_mul1 l its.toArray n dd sl k t c0 c1) ⟨ho, ⟨.ref l, H, I, rfl, q1 hk⟩⟩⟩)
  · have hne : xs ≠ [] := fun e => hk (.inl e)
    have hk1 : k ≠ 1 := fun e => hk (.inr e)
    by_cases hp : 2 ≤ k
    · exact op_repT pins s σ H _ _ v u Q I rx ry ⟨l, k, xs, rfl, rfl, hT, hne, hp, h2, hz, q2 hne hk1⟩
    · cases rx
      obtain ⟨t, rfl⟩ := ry
      obtain ⟨its, r, ⟨⟨cls, dd, data, sl⟩, ho, hc, n, hd⟩, hs⟩ := I.tuple hT
      simp only at hc hd
      subst hc hd
      have hle : its.length = xs.length := r.length.symm
      have hi : its.toArray.isEmpty = false := by
        cases its with
        | nil => exact absurd (List.eq_nil_of_length_eq_zero hle.symm) hne
        | cons a b => rfl
      have c0 : (decide (k < -(2 ^ 63)) || decide (k ≥ 2 ^ 63)) = false := by
        rw [decide_eq_false (by omega), decide_eq_false (by omega)] <;> rfl
      have c1 : (its.toArray.isEmpty || k == 1) = false := by
        rw [hi, Bool.false_or]
        exact beq_eq_false_iff_ne.mpr hk1
      have c2 : (decide (k ≤ 0) || its.toArray.isEmpty) = true := by
        rw [decide_eq_true (by omega)]; rfl
      have e0 : k.toNat = 0 := by omega
      have q := q2 hne hk1
      rw [e0] at q
      refine wpAny_binaryOp_repeat_ref (T := "tuple") (U := "int") (by decide) ⟨_, ho, rfl⟩ (fun s' => typeIs_int s' k t) noFill_tuple_mul F.fills_int_mul F.slot_int_rmul repeat_tuple F.slot_int_index.lookup
        (call_meets F.slot_int_rmul (typeIs_int s k t) F.entry_int_rmul (F.args_int_rmul_2 _ _) (int_rmul_tuple k t l its.toArray n dd sl)
          ⟨ho, rfl, ⟨_, ho, rfl⟩, call_meets F.slot_tuple_mul ⟨_, ho, rfl⟩ F.entry_tuple_mul (F.args_tuple_mul_2 _ _) (tuple_mul0 l its.toArray n dd sl k t c0 c1 c2) ⟨ho, ?_⟩⟩)
      refine ⟨.ref s.heap.objs.size, _, I.laid (t' := s.toks) (o := .tup []) (fun b ob q => Heap.get?_push_of_some _ q) (Nat.le_refl _) ?_, rfl, q _ (I.hok.fresh (Nat.le_refl _))⟩
      exact ⟨Nat.zero_le _, [], .nil, IsTup.new _ _⟩
/-- ints, a tuple by a number -/
def mulT : O2 := fun x y Q => match x, y with
  | .int i, .int j => mulOk i j ∧ Q (.int (i * j))
  | .tup xs, .int k => (-1000 ≤ k ∧ k ≤ 1000 ∧ xs.length ≤ 1000) ∧ Q (.tup (List.replicate k.toNat xs).flatten)
  | _, _ => False
theorem mulT_mono : Mono2 mulT := fun x y P Q h q => by
  unfold mulT at *
  split at q
  · exact ⟨q.1, h _ q.2⟩
  · exact ⟨q.1, h _ q.2⟩
  · exact q.elim
theorem mulT_s {K : Kf} : OpS K (fun x y H Q => rI mulOk (fun i j => .int (i * j)) x y H Q ∨ rRepA K x y H Q) mulT := fun Z F H dx dy x y Q b rx ry q => by
  unfold mulT at q
  split at q
  · rename_i i j
    exact .inl ⟨i, j, rx.int, ry.int, q.1, q.2 _ F H (Gr.refl b) rfl⟩
  · rename_i xs k
    obtain ⟨a, us, rfl, e1, e2, e3⟩ := rx.tup b
    obtain ⟨⟨h1, h2, h3⟩, q⟩ := q
    refine .inr ⟨a, k, us, rfl, ry.int, e1, h1, h2, by rw [e2.length]; exact h3, fun hk => ?_, fun hne hk p hp => ?_⟩
    · refine q _ F H (Gr.refl b) ⟨a, us, rfl, e3, ?_⟩
      rcases hk with hk | hk
      · subst hk
        have hx : xs = [] := List.eq_nil_of_length_eq_zero e2.length.symm
        subst hx
        have : ∀ n : Nat, (List.replicate n ([] : List D)).flatten = [] := fun n => by induction n with
          | zero => rfl
          | succ n ih => rw [List.replicate_succ, List.flatten_cons, ih]; rfl
        rw [this]; exact e2
      · subst hk
        show Reps K Z.rw F (List.replicate 1 xs).flatten us
        have : (List.replicate 1 xs).flatten = xs := by simp
        rw [this]; exact e2
    · exact q _ _ _ (b.lay hp) ⟨p, _, rfl, .inl (.inl upd_same), Reps.ex (Ex.upd (b.fh.none hp)) _ _ (Reps.rep e2 _)⟩
  · exact q.elim
theorem E.mulT (ha : P X a f) (hb : P X b g) : E X (.BinOp a .Mult b pos) (sOp mulT f g) := E.op (OpR.or op_mulS op_repA) mulT_s mulT_mono ha hb
end

/-! ### sum, max, min of a list or a tuple of ints -/
section
variable {prog : Program} {w : World} {A : Around} {E : Value → Shared → Prop} {s : Shared} {l : Addr} {its : List Value} {ns : List Int} {Q : Value → Shared → Prop}
theorem numAt_map (xs : Array (Int × Tok)) : ∀ i, numAt xs i = numAt xs i := fun _ => rfl
theorem sum_rawT (hh : A.handled = none) (hl : s.heap.IsTuple l its.toArray) (hi : IntsAre its ns)
    (h : ∀ h' tk t', (∀ b o, s.heap.get? b = some o → h'.get? b = some o) → Q (.int ns.sum t') { s with heap := h', toks := tk }) : wpAny (model prog w) A (call (.builtin "sum") [.ref l]) Q E s := by
  obtain ⟨xs, e⟩ := hi.allInts.items
  have hn : numsOf (intItems xs).toList = ns := by rw [← e]; exact hi.numsOf
  rw [nums_intItems] at hn
  rw [e] at hl
  have hlt : l < s.heap.objs.size := by obtain ⟨_, e, _⟩ := id hl; exact Heap.lt_size e
  refine call_sum_walkG (wpAny_pyIter_tuple hl ?_)
  refine ⟨_, [_, l], [_], _, _, _, numAt xs, rfl, Walks.tuple (A := A.in1) hh _ l (Nat.ne_of_lt hlt) (intItems xs), ⟨⟨_, Heap.get?_push_size _ rfl, rfl, rfl⟩, hl.push _⟩, fun b hb => ?_, (fun _ _ => intItems_at), fun h' tk t' hk => ?_⟩
  · show b < (s.heap.push _).objs.size
    rw [Heap.size_push]
    rcases List.mem_cons.mp hb with e | e
    · rw [e]; exact Nat.lt_succ_self _
    · have : b = l := by simpa using e
      rw [this]; exact Nat.lt_succ_of_lt hlt
  · have := h h' tk t' (fun b o e => hk b o (fun hb => by
      have : b = s.heap.objs.size := by simpa using hb
      subst this
      exact absurd (Heap.lt_size e) (Nat.lt_irrefl _)) (Heap.get?_push_of_some _ e))
    rw [← hn] at this
    have e2 : preSum (numAt xs) xs.size = (xs.toList.map (·.1)).sum := by rw [preSum_eq, List.take_of_length_le (by simp)]
    show Q (.int (preSum (numAt xs) (intItems xs).size) t') _
    rw [show (intItems xs).size = xs.size by simp [intItems], e2]
    exact this
theorem iterT (hl : s.heap.IsTuple l its.toArray) {xs : Array (Int × Tok)} (e : its.toArray = intItems xs) {Q : Value → Shared → Prop} {E : Value → Shared → Prop} {A : Around}
    (h : ∀ s₂ : Shared, s₂ = { s with heap := s.heap.push { cls := .type "tuple_iterator", data := .fields #[.ref l, .int 0 0] } } → (s₂.heap.IsTupleIter s.heap.objs.size l 0 ∧ s₂.heap.IsTuple l (intItems xs)) →
      (∀ b ∈ [s.heap.objs.size, l], b < s₂.heap.objs.size) → l ≠ s.heap.objs.size → Q (.ref s.heap.objs.size) s₂) : wpAny (model prog w) A (pyIter (.ref l)) Q E s := by
  rw [e] at hl
  have hlt : l < s.heap.objs.size := by obtain ⟨_, e, _⟩ := id hl; exact Heap.lt_size e
  refine wpAny_pyIter_tuple hl (h _ rfl ⟨⟨_, Heap.get?_push_size _ rfl, rfl, rfl⟩, hl.push _⟩ (fun b hb => ?_) (Nat.ne_of_lt hlt))
  show b < (s.heap.push _).objs.size
  rw [Heap.size_push]
  rcases List.mem_cons.mp hb with e | e
  · rw [e]; exact Nat.lt_succ_self _
  · have : b = l := by simpa using e
    rw [this]; exact Nat.lt_succ_of_lt hlt
theorem max_rawT (hh : A.handled = none) (hl : s.heap.IsTuple l its.toArray) (hi : IntsAre its ns) (hne : 0 < ns.length)
    (h : ∀ h' tk M t', (∀ b o, s.heap.get? b = some o → h'.get? b = some o) → M ∈ ns → (∀ a, a ∈ ns → a ≤ M) → Q (.int M t') { s with heap := h', toks := tk }) : wpAny (model prog w) A (call (.builtin "max") [.ref l]) Q E s := by
  obtain ⟨xs, e⟩ := hi.allInts.items
  have hn : numsOf (intItems xs).toList = ns := by rw [← e]; exact hi.numsOf
  rw [nums_intItems] at hn
  subst hn
  have hsz : 0 < xs.size := by simpa using hne
  refine call_max_walk (iterT hl e fun s₂ e2 st hfp hlI => ?_)
  subst e2
  refine ⟨_, _, _, _, _, _, _, rfl, Walks.tuple (A := A.in1) hh _ l hlI (intItems xs), st, hfp, by simpa [intItems] using hsz, CmpOf.ints_gt (numAt xs) (fun _ _ => intItems_at), fun v h' tk hP hk => ?_⟩
  have hv : (intItems xs)[argBest (fun i j => decide (numAt xs i > numAt xs j)) (xs.size - 1)]? = some v := by simpa [intItems] using hP
  obtain ⟨t, rfl⟩ := intItems_at hv
  obtain ⟨h1, h2⟩ := argBest_gt (numAt xs) (xs.size - 1)
  refine h h' tk _ t (fun b o e => hk b o (fun hb => by
    have : b = s.heap.objs.size := by simpa using hb
    subst this
    exact absurd (Heap.lt_size e) (Nat.lt_irrefl _)) (Heap.get?_push_of_some _ e)) ?_ fun a ha => ?_
  · rw [numAt_eq]; exact PySem.getD_mem (by rw [List.length_map, Array.length_toList]; omega)
  · obtain ⟨j, hj, rfl⟩ := mem_getD ha
    rw [List.length_map, Array.length_toList] at hj
    rw [← numAt_eq]; exact h2 j (by omega)
theorem min_rawT (hh : A.handled = none) (hl : s.heap.IsTuple l its.toArray) (hi : IntsAre its ns) (hne : 0 < ns.length)
    (h : ∀ h' tk M t', (∀ b o, s.heap.get? b = some o → h'.get? b = some o) → M ∈ ns → (∀ a, a ∈ ns → M ≤ a) → Q (.int M t') { s with heap := h', toks := tk }) : wpAny (model prog w) A (call (.builtin "min") [.ref l]) Q E s := by
  obtain ⟨xs, e⟩ := hi.allInts.items
  have hn : numsOf (intItems xs).toList = ns := by rw [← e]; exact hi.numsOf
  rw [nums_intItems] at hn
  subst hn
  have hsz : 0 < xs.size := by simpa using hne
  refine call_min_walk (iterT hl e fun s₂ e2 st hfp hlI => ?_)
  subst e2
  refine ⟨_, _, _, _, _, _, _, rfl, Walks.tuple (A := A.in1) hh _ l hlI (intItems xs), st, hfp, by simpa [intItems] using hsz, CmpOf.ints_lt (numAt xs) (fun _ _ => intItems_at), fun v h' tk hP hk => ?_⟩
  have hv : (intItems xs)[argBest (fun i j => decide (numAt xs i < numAt xs j)) (xs.size - 1)]? = some v := by simpa [intItems] using hP
  obtain ⟨t, rfl⟩ := intItems_at hv
  obtain ⟨h1, h2⟩ := argBest_lt (numAt xs) (xs.size - 1)
  refine h h' tk _ t (fun b o e => hk b o (fun hb => by
    have : b = s.heap.objs.size := by simpa using hb
    subst this
    exact absurd (Heap.lt_size e) (Nat.lt_irrefl _)) (Heap.get?_push_of_some _ e)) ?_ fun a ha => ?_
  · rw [numAt_eq]; exact PySem.getD_mem (by rw [List.length_map, Array.length_toList]; omega)
  · obtain ⟨j, hj, rfl⟩ := mem_getD ha
    rw [List.length_map, Array.length_toList] at hj
    rw [← numAt_eq]; exact h2 j (by omega)
end
def rSumT (K : PySem.W.Frag) : List V → Hp → VK → Prop := fun vs H Q => ∃ (a : Addr) (ns : List Int), vs = [V.ref a] ∧ SqT K H a (ns.map V.int) ∧ Q (.int ns.sum) H
def rMaxT (K : PySem.W.Frag) : List V → Hp → VK → Prop := fun vs H Q => ∃ (a : Addr) (ns : List Int), vs = [V.ref a] ∧ SqT K H a (ns.map V.int) ∧ 0 < ns.length ∧ ∀ m, m ∈ ns → (∀ y, y ∈ ns → y ≤ m) → Q (.int m) H
def rMinT (K : PySem.W.Frag) : List V → Hp → VK → Prop := fun vs H Q => ∃ (a : Addr) (ns : List Int), vs = [V.ref a] ∧ SqT K H a (ns.map V.int) ∧ 0 < ns.length ∧ ∀ m, m ∈ ns → (∀ y, y ∈ ns → m ≤ y) → Q (.int m) H
section
variable {X : Cx} {K : Kf}
theorem IsTup.isT {h : Heap} {a : Addr} {xs : Array Value} (p : IsTup h a xs) : h.IsTuple a xs := p
theorem cr_sumT (hc : X.calm = true) : CallR X (.builtin "sum") (rSumT X.K) := by
  intro pins s σ H vs us Q I r h
  obtain ⟨a, ns, rfl, hs, q⟩ := h
  obtain ⟨its, rv, hl, _⟩ := I.tuple hs
  rw [Vals.ref1 r]
  exact sum_rawT (I.ok.hd hc) hl rv.ints fun h' tk t' hk => ⟨.int _, H, I.kept hk, ⟨_, rfl⟩, q⟩
theorem cr_maxT (hc : X.calm = true) : CallR X (.builtin "max") (rMaxT X.K) := by
  intro pins s σ H vs us Q I r h
  obtain ⟨a, ns, rfl, hs, hne, q⟩ := h
  obtain ⟨its, rv, hl, _⟩ := I.tuple hs
  rw [Vals.ref1 r]
  exact max_rawT (I.ok.hd hc) hl rv.ints hne fun h' tk m t' hk h1 h2 => ⟨.int _, H, I.kept hk, ⟨_, rfl⟩, q m h1 h2⟩
theorem cr_minT (hc : X.calm = true) : CallR X (.builtin "min") (rMinT X.K) := by
  intro pins s σ H vs us Q I r h
  obtain ⟨a, ns, rfl, hs, hne, q⟩ := h
  obtain ⟨its, rv, hl, _⟩ := I.tuple hs
  rw [Vals.ref1 r]
  exact min_rawT (I.ok.hd hc) hl rv.ints hne fun h' tk m t' hk h1 h2 => ⟨.int _, H, I.kept hk, ⟨_, rfl⟩, q m h1 h2⟩
/-- .. of a list or a tuple -/
def onIntsA (d : D) (p : List Int → Prop) : Prop := match d with
  | .lst ds => (match intsD ds with
    | some ns => p ns
    | none => False)
  | .tup ds => (match intsD ds with
    | some ns => p ns
    | none => False)
  | _ => False
theorem onIntsA_imp {d : D} {p q : List Int → Prop} (h : onIntsA d p) (hpq : ∀ ns, p ns → q ns) : onIntsA d q := by
  unfold onIntsA at *
  split at h
  · split at h
    · exact hpq _ h
    · exact h
  · split at h
    · exact hpq _ h
    · exact h
  · exact h
theorem onIntsA_at {Z : Zs} {F H : Hp} {d : D} {v : V} {p : List Int → Prop} (b : Base K Z F H) (r : RepP K Z.rw F H d v) (h : onIntsA d p) : ∃ a ns, v = V.ref a ∧ (SqL K H a (ns.map V.int) ∨ SqT K H a (ns.map V.int)) ∧ p ns := by
  unfold onIntsA at h
  split at h
  · split at h
    · rename_i ds ns hns
      obtain ⟨a, vs, rfl, e1, e2, _⟩ := r.lst b
      rw [intsD_eq hns] at e2
      have := e2.ints
      subst this
      exact ⟨a, ns, rfl, .inl (SqL.of e1), h⟩
    · exact h.elim
  · split at h
    · rename_i ds ns hns
      obtain ⟨a, vs, rfl, e1, e2, _⟩ := r.tup b
      rw [intsD_eq hns] at e2
      have := e2.ints
      subst this
      exact ⟨a, ns, rfl, .inr e1, h⟩
    · exact h.elim
  · exact h.elim
def sumA : O1 := fun x Q => onIntsA x fun ns => Q (.int ns.sum)
theorem sumA_mono : Mono1 sumA := fun x P Q h q => onIntsA_imp q fun ns => h _
theorem sumA_s : CallS K (fun xs H Q => rSum K xs H Q ∨ rSumT K xs H Q) (call1 sumA) := call1_s fun Z F H d v Q b r q => by
  obtain ⟨a, ns, rfl, e1, q⟩ := onIntsA_at b r q
  rcases e1 with e1 | e1
  · exact .inl ⟨a, ns, rfl, e1, q _ F H (Gr.refl b) rfl⟩
  · exact .inr ⟨a, ns, rfl, e1, q _ F H (Gr.refl b) rfl⟩
def maxA : O1 := fun x Q => onIntsA x fun ns => ns ≠ [] ∧ Q (.int (maxI ns))
def minA : O1 := fun x Q => onIntsA x fun ns => ns ≠ [] ∧ Q (.int (minI ns))
theorem maxA_mono : Mono1 maxA := fun x P Q h q => onIntsA_imp q fun ns z => ⟨z.1, h _ z.2⟩
theorem minA_mono : Mono1 minA := fun x P Q h q => onIntsA_imp q fun ns z => ⟨z.1, h _ z.2⟩
theorem maxA_s : CallS K (fun xs H Q => rMax K xs H Q ∨ rMaxT K xs H Q) (call1 maxA) := call1_s fun Z F H d v Q b r q => by
  obtain ⟨a, ns, rfl, e1, hne, q⟩ := onIntsA_at b r q
  have key : ∀ m, m ∈ ns → (∀ y, y ∈ ns → y ≤ m) → Q (.int m) H := fun m h1 h2 => by
    have e : m = maxI ns := Int.le_antisymm ((maxI_mem hne).2 m h1) (h2 _ (maxI_mem hne).1)
    rw [e]; exact q _ F H (Gr.refl b) rfl
  rcases e1 with e1 | e1
  · exact .inl ⟨a, ns, rfl, e1, List.length_pos_iff.mpr hne, key⟩
  · exact .inr ⟨a, ns, rfl, e1, List.length_pos_iff.mpr hne, key⟩
theorem minA_s : CallS K (fun xs H Q => rMin K xs H Q ∨ rMinT K xs H Q) (call1 minA) := call1_s fun Z F H d v Q b r q => by
  obtain ⟨a, ns, rfl, e1, hne, q⟩ := onIntsA_at b r q
  have key : ∀ m, m ∈ ns → (∀ y, y ∈ ns → m ≤ y) → Q (.int m) H := fun m h1 h2 => by
    have e : m = minI ns := Int.le_antisymm (h2 _ (minI_mem hne).1) ((minI_mem hne).2 m h1)
    rw [e]; exact q _ F H (Gr.refl b) rfl
  rcases e1 with e1 | e1
  · exact .inl ⟨a, ns, rfl, e1, List.length_pos_iff.mpr hne, key⟩
  · exact .inr ⟨a, ns, rfl, e1, List.length_pos_iff.mpr hne, key⟩
end

/-! ### x in xs -/
section
variable {X : Cx} {K : Kf} {e a b c : Expr} {f g k : SE} {pos : Pos}
def rInT (K : PySem.W.Frag) (neg : Bool) : R2 := fun x y H Q => ∃ d ds, Dp K H x d ∧ Dp K H y (.tuple ds) ∧ SeqAt.shaped d = true ∧ SeqAt.shaped (.tuple ds) = true ∧ Q (.bl (if neg then !ds.any fun z => PyData.eqv z d else ds.any fun z => PyData.eqv z d)) H
theorem op_inT (hu : X.A.units + 65 < cLine) : OpR X (compareOp .In) (rInT X.K false) := by
  intro pins s σ H x y v u Q I rx ry h
  obtain ⟨d, ds, hd, he, sd, se, q⟩ := h
  obtain ⟨as, r1⟩ := Dp.reads I d x v hd rx
  obtain ⟨bs, r2⟩ := Dp.reads I (.tuple ds) y u he ry
  exact SeqAt.in_tuple_reads r2 r1 (SeqAt.canLay_of_shaped se) (SeqAt.canLay_of_shaped sd) (room_in_shaped sd hu) ⟨.bl _, H, I, rfl, q⟩
theorem op_notInT (hu : X.A.units + 65 < cLine) : OpR X (compareOp .NotIn) (rInT X.K true) := by
  intro pins s σ H x y v u Q I rx ry h
  obtain ⟨d, ds, hd, he, sd, se, q⟩ := h
  obtain ⟨as, r1⟩ := Dp.reads I d x v hd rx
  obtain ⟨bs, r2⟩ := Dp.reads I (.tuple ds) y u he ry
  exact SeqAt.notIn_tuple_reads r2 r1 (SeqAt.canLay_of_shaped se) (SeqAt.canLay_of_shaped sd) (room_in_shaped sd hu) ⟨.bl _, H, I, rfl, q⟩
def inB (x : D) (ds : List D) : Bool := ds.any fun z => eqD z x
theorem pyl_any (x : D) : ∀ ds : List D, ((D.pyl ds).any fun z => PyData.eqv z x.py) = inB x ds
  | [] => rfl
  | d :: ds => by
    show (PyData.eqv d.py x.py || (D.pyl ds).any fun z => PyData.eqv z x.py) = (eqD d x || ds.any fun z => eqD z x)
    rw [pyl_any x ds]; rfl
def inO : O2 := fun x y Q => match y with
  | .lst ds => okD x = true ∧ okD (.lst ds) = true ∧ Q (.bl (inB x ds))
  | .tup ds => okD x = true ∧ okD (.tup ds) = true ∧ Q (.bl (inB x ds))
  | _ => False
def ninO : O2 := fun x y Q => match y with
  | .lst ds => okD x = true ∧ okD (.lst ds) = true ∧ Q (.bl (!inB x ds))
  | .tup ds => okD x = true ∧ okD (.tup ds) = true ∧ Q (.bl (!inB x ds))
  | _ => False
theorem inO_mono : Mono2 inO := fun x y P Q h q => by
  unfold inO at *
  split at q
  · exact ⟨q.1, q.2.1, h _ q.2.2⟩
  · exact ⟨q.1, q.2.1, h _ q.2.2⟩
  · exact q.elim
theorem ninO_mono : Mono2 ninO := fun x y P Q h q => by
  unfold ninO at *
  split at q
  · exact ⟨q.1, q.2.1, h _ q.2.2⟩
  · exact ⟨q.1, q.2.1, h _ q.2.2⟩
  · exact q.elim
theorem okD_parts {d : D} (h : okD d = true) : d.pure = true ∧ SeqAt.shaped d.py = true := Bool.and_eq_true_iff.mp h
theorem inO_s : OpS K (fun x y H Q => rInD K x y H Q ∨ rInT K false x y H Q) inO := fun Z F H dx dy x y Q b rx ry q => by
  unfold inO at q
  split at q
  · rename_i ds
    obtain ⟨h1, h2, q⟩ := q
    obtain ⟨p1, s1⟩ := okD_parts h1
    obtain ⟨p2, s2⟩ := okD_parts h2
    refine .inl ⟨dx.py, D.pyl ds, dp_ofP b p1 rx, dp_ofP b p2 ry, s1, s2, ?_⟩
    rw [pyl_any]; exact q _ F H (Gr.refl b) rfl
  · rename_i ds
    obtain ⟨h1, h2, q⟩ := q
    obtain ⟨p1, s1⟩ := okD_parts h1
    obtain ⟨p2, s2⟩ := okD_parts h2
    refine .inr ⟨dx.py, D.pyl ds, dp_ofP b p1 rx, dp_ofP b p2 ry, s1, s2, ?_⟩
    rw [pyl_any]; exact q _ F H (Gr.refl b) rfl
  · exact q.elim
theorem ninO_s : OpS K (fun x y H Q => rNotInD K x y H Q ∨ rInT K true x y H Q) ninO := fun Z F H dx dy x y Q b rx ry q => by
  unfold ninO at q
  split at q
  · rename_i ds
    obtain ⟨h1, h2, q⟩ := q
    obtain ⟨p1, s1⟩ := okD_parts h1
    obtain ⟨p2, s2⟩ := okD_parts h2
    refine .inl ⟨dx.py, D.pyl ds, dp_ofP b p1 rx, dp_ofP b p2 ry, s1, s2, ?_⟩
    rw [pyl_any]; exact q _ F H (Gr.refl b) rfl
  · rename_i ds
    obtain ⟨h1, h2, q⟩ := q
    obtain ⟨p1, s1⟩ := okD_parts h1
    obtain ⟨p2, s2⟩ := okD_parts h2
    refine .inr ⟨dx.py, D.pyl ds, dp_ofP b p1 rx, dp_ofP b p2 ry, s1, s2, ?_⟩
    rw [pyl_any]; exact q _ F H (Gr.refl b) rfl
  · exact q.elim
abbrev R1 (X : Cx) : Prop := X.A.units + 65 < cLine
theorem E.in (hu : R1 X) (ha : P X a f) (hb : P X b g) (hm : behindInMarks .In b = false := by with_unfolding_all rfl) : E X (.Compare a [.In] [b] pos) (sOp inO f g) := E.cmp (OpR.or (op_inD hu) (op_inT hu)) inO_s inO_mono hm ha hb
theorem E.nin (hu : R1 X) (ha : P X a f) (hb : P X b g) (hm : behindInMarks .NotIn b = false := by with_unfolding_all rfl) : E X (.Compare a [.NotIn] [b] pos) (sOp ninO f g) := E.cmp (OpR.or (op_notInD hu) (op_notInT hu)) ninO_s ninO_mono hm ha hb
theorem T.in (hu : R1 X) (ha : P X a f) (hb : P X b g) (hm : behindInMarks .In b = false := by with_unfolding_all rfl) : T X (.Compare a [.In] [b] pos) (tV (sOp inO f g)) := T.cmp (OpR.or (op_inD hu) (op_inT hu)) inO_s inO_mono hm ha hb
theorem T.nin (hu : R1 X) (ha : P X a f) (hb : P X b g) (hm : behindInMarks .NotIn b = false := by with_unfolding_all rfl) : T X (.Compare a [.NotIn] [b] pos) (tV (sOp ninO f g)) := T.cmp (OpR.or (op_notInD hu) (op_notInT hu)) ninO_s ninO_mono hm ha hb
/-! ### bits -/
abbrev shlO : O2 := intO CPow fun i j => .int (i * 2 ^ j.toNat)
abbrev shrO : O2 := intO (fun _ j => 0 ≤ j) fun i j => .int (i / 2 ^ j.toNat)
abbrev bandO : O2 := int0 fun i j => .int (Builtin.bitAnd i j)
theorem E.shl (ha : P X a f) (hb : P X b g) : E X (.BinOp a .LShift b pos) (sOp shlO f g) := E.op op_shl (intO_s fun _ _ _ _ => rfl) intO_mono ha hb
theorem E.shr (ha : P X a f) (hb : P X b g) : E X (.BinOp a .RShift b pos) (sOp shrO f g) := E.op op_shr (intO_s fun _ _ _ _ => rfl) intO_mono ha hb
theorem E.band (ha : P X a f) (hb : P X b g) : E X (.BinOp a .BitAnd b pos) (sOp bandO f g) := E.op op_and (int0_s fun _ _ _ _ => rfl) int0_mono ha hb
end
theorem u65 {k : Nat} {A : Around} (r : Room k A) : A.units + 65 < cLine := by have := r.un; omega

/-! ### (a, b) = a list or a tuple -/
def gTupA (K : PySem.W.Frag) (n : Nat) (t : TGs) : TG := fun v σ H Q => ∃ a xs, v = .ref a ∧ (SqT K H a xs ∨ SqL K H a xs) ∧ xs.length = n ∧ t xs σ H Q
section
variable {X : Cx} {pos : Pos}
theorem pg_tupA {es : List Expr} {k : Nat} {t : TGs} {n : Nat} (hc : X.calm = true) (h : PGs X es t) (hn : (assignEach es X.env).length = n := by rfl) (hst : (assignEach es X.env).findIdx? (·.1) = none := by rfl) : PG X (.Tuple es k pos) (gTupA X.K n t) := by
  refine ⟨fun pins s σ H v u Q I r hw => ?_⟩
  obtain ⟨a, xs, e1, hq, hl, hw⟩ := hw
  rcases hq with hq | hq
  · exact (pg_tup hc h hn hst).run pins s σ H v u Q I r ⟨a, xs, e1, hq, hl, hw⟩
  · subst e1
    cases r
    obtain ⟨its, rv, ht, hz⟩ := I.list hq
    have hsz : (assignEach es X.env).length = its.toArray.size := by rw [hn, ← hl, rv.length, List.size_toArray]
    rw [PyProof.Rows.assign_Tuple]
    refine wpAny_bind (wpAny_standAt ?_)
    show wpAny _ _ (unpack _ _) _ _ _
    unfold unpack
    rw [hsz, hst]
    refine wpAny_bind (wpAny_holding (PySem.W.kun_itemsOf (I.ok.hd hc) ht.isList fun h' hx => ?_))
    have I1 : Inv X pins σ H { s with heap := h' } := I.kept (t' := s.toks) fun b o e => hx b o (Nat.ne_of_lt (Heap.lt_size e)) e
    exact h.run pins _ σ H xs _ Q I1 (by simpa using rv) hw
end
def gTupB (gs : SGs) : SG := fun d ρ Q => match d with
  | .tup ds => gs ds ρ Q
  | .lst ds => gs ds ρ Q
  | _ => False
section
variable {X : Cx} {pos : Pos}
theorem G.tA {tg : Expr} {is : List Nat} {gs : SGs} {m : Nat} {ts : List Expr} (hn : ∀ ds ρ Q, gs ds ρ Q → ds.length = m) (h2 : Gs X ts is gs) (h : PGs X ts (TGsof X.K is gs) → PG X tg (gTupA X.K m (TGsof X.K is gs))) : G X tg is (gTupB gs) :=
  ⟨fun d ρ P Q hpq q => by
    cases d with
    | tup ds => exact h2.mono ds ρ _ _ hpq q
    | lst ds => exact h2.mono ds ρ _ _ hpq q
    | _ => exact q.elim, PG.weak (h h2.run) fun v σ H Q ⟨Z, F, ρ, d, r, rep, q⟩ => by
    cases d with
    | tup ds =>
      obtain ⟨a, vs, rfl, e1, e2⟩ := (show ∃ a vs, v = V.ref a ∧ SqT _ F a vs ∧ Reps _ _ _ ds vs from rep)
      exact ⟨a, vs, rfl, .inl (sqt_ex r.base.fh e1), e2.length.trans (hn _ _ _ q), Z, F, ρ, ds, r, e2, q⟩
    | lst ds =>
      obtain ⟨a, vs, rfl, e1, e2⟩ := (show ∃ a vs, v = V.ref a ∧ F a = some (.lst vs) ∧ Reps _ _ _ ds vs from rep)
      exact ⟨a, vs, rfl, .inr (SqL.of (r.base.fh a _ e1)), e2.length.trans (hn _ _ _ q), Z, F, ρ, ds, r, e2, q⟩
    | _ => exact q.elim⟩
end

/-! ### comprehensions of two sources -/
section
variable {X : Cx} {e a b c : Expr} {f g k : SE} {pos : Pos} {st : Stmt} {rest : List Stmt} {s t : SS}
def lc2L (g : SG) (t : ST) (it1 : SA) (vs1 : List Nat) (g1 : SG) (t1 : ST) (f : SE) (ρ : REnv) : Nat → List D → (List D → Prop) → Prop
  | _, [], Q => Q []
  | n, d :: ds, Q => g d ρ fun ρ1 => t ρ1 fun b => br b (it1 ρ1 fun xs1 => n + xs1.length ≤ big ∧ lcL g1 t1 f (wipeE ρ1 vs1) xs1 fun ys => lc2L g t it1 vs1 g1 t1 f ρ (n + ys.length) ds fun zs => Q (ys ++ zs)) (lc2L g t it1 vs1 g1 t1 f ρ n ds Q)
theorem lc2L_mono {g : SG} {t : ST} {it1 : SA} {vs1 : List Nat} {g1 : SG} {t1 : ST} {f : SE} (mg : MonoG g) (mt : MonoE t) (mi : MonoE it1) (mg1 : MonoG g1) (mt1 : MonoE t1) (mf : MonoE f) {ρ : REnv} : ∀ (n : Nat) (ds : List D) (P Q : List D → Prop), (∀ d, P d → Q d) → lc2L g t it1 vs1 g1 t1 f ρ n ds P → lc2L g t it1 vs1 g1 t1 f ρ n ds Q
  | _, [], _, _, h, q => h _ q
  | n, d :: ds, P, Q, h, q => mg d ρ _ _ (fun ρ1 z => mt ρ1 _ _ (fun b hb => br_imp hb (fun z => mi ρ1 _ _ (fun xs1 hx => ⟨hx.1, lcL_mono mg1 mt1 mf _ _ _ (fun ys hy => lc2L_mono mg mt mi mg1 mt1 mf _ ds _ _ (fun zs hz => h _ hz) hy) hx.2⟩) z) (fun z => lc2L_mono mg mt mi mg1 mt1 mf n ds _ _ h z)) z) q
def lc2A (it : SA) (g : SG) (t : ST) (it1 : SA) (vs1 : List Nat) (g1 : SG) (t1 : ST) (f : SE) (vs : List Nat) : SA := fun ρ Q => it ρ fun xs => lc2L g t it1 vs1 g1 t1 f (wipeE ρ vs) 0 xs Q
theorem lc2A_mono {it : SA} {g : SG} {t : ST} {it1 : SA} {vs1 : List Nat} {g1 : SG} {t1 : ST} {f : SE} {vs : List Nat} (mi0 : MonoE it) (mg : MonoG g) (mt : MonoE t) (mi : MonoE it1) (mg1 : MonoG g1) (mt1 : MonoE t1) (mf : MonoE f) : MonoE (lc2A it g t it1 vs1 g1 t1 f vs) := fun ρ P Q h q => mi0 ρ _ _ (fun xs hx => lc2L_mono mg mt mi mg1 mt1 mf 0 xs _ _ h hx) q
/-- a list that grows at D, apart -/
structure Grow (K : Kf) (Z : Zs) (F1 H1 : Hp) (D : Addr) (F' H' : Hp) (acc : List Z0.D) : Prop where
  gr : Gr K Z F1 H1 F' H'
  fd : F' D = none
  hd : ∃ us, H' D = some (.lst us) ∧ Reps K Z.rw F' acc us
theorem Grow.len {K : Kf} {Z : Zs} {F1 H1 F' H' : Hp} {D : Addr} {acc : List Z0.D} (g : Grow K Z F1 H1 D F' H' acc) {us : List V} (h : H' D = some (.lst us)) : us.length = acc.length := by
  obtain ⟨us', e, r⟩ := g.hd
  rw [h] at e; cases e
  exact r.length
theorem Grow.step {K : Kf} {Z : Zs} {F1 H1 F' H' F2 H2 : Hp} {D : Addr} {acc : List Z0.D} (g : Grow K Z F1 H1 D F' H' acc) (nrow : Z.rw ≠ some D) (g2 : Gr K Z F' H' F2 H2) : Grow K Z F1 H1 D F2 H2 acc := by
  obtain ⟨gr, fd, us, hd, r⟩ := g
  refine ⟨gr.trans g2, ?_, us, g2.h D _ nrow hd, Reps.ex g2.f _ _ r⟩
  cases z : F2 D with
  | none => rfl
  | some o =>
    rcases g2.n D (by rw [z]; simp) with w | w
    · exact absurd fd w
    · rw [hd] at w; cases w
theorem Grow.put {K : Kf} {Z : Zs} {F1 H1 F' H' : Hp} {D : Addr} {acc : List Z0.D} (g : Grow K Z F1 H1 D F' H' acc) (hH1 : H1 D = none) (h0 : Z.H0 D = none) (nrow : Z.rw ≠ some D) {d : Z0.D} {v : V} (rep : Rep K Z.rw F' d v) {us : List V} (hd : H' D = some (.lst us)) :
    Grow K Z F1 H1 D F' (upd H' D (.lst (us ++ [v]))) (acc ++ [d]) := by
  obtain ⟨gg, fd, us', hd', r⟩ := g
  rw [hd] at hd'; cases hd'
  refine ⟨⟨gg.f, fun a o n e => ?_, ⟨fun a u e => ?_, gg.b.f0, fun a u n e => ?_, gg.b.new, fun a e => ?_, gg.b.frow⟩, gg.n⟩, fd, _, upd_same, Reps.app r (Reps.one rep)⟩
  · rw [upd_ne (ne_of_none e hH1)]; exact gg.h a o n e
  · rw [upd_ne (fun z : a = D => by rw [z, fd] at e; cases e)]; exact gg.b.fh a u e
  · rw [upd_ne (fun z : a = D => by rw [z, h0] at e; cases e)]; exact gg.b.hh a u n e
  · obtain ⟨sc, ns, p, mm, tt, w1, w2, w3⟩ := gg.b.row a e
    refine ⟨sc, ns, p, mm, tt, ?_, w2.keep fun o q => ?_, w3⟩
    · rw [upd_ne (fun z : a = D => nrow (by rw [← z]; exact e))]; exact w1
    · rw [upd_ne (fun z : sc = D => by rw [z, hd] at q; cases q)]; exact q
/-- a target stores nothing of one's own -/
def GNo (g : SG) : Prop := ∀ d ρ (P : REnv → Prop), g d ρ P → g d ρ fun ρ' => (∀ (i : Nat) (s : Slot), s.mine = true → ρ'[i]? = some (some s) → ρ[i]? = some (some s)) ∧ P ρ'
def GsNo (g : SGs) : Prop := ∀ d ρ (P : REnv → Prop), g d ρ P → g d ρ fun ρ' => (∀ (i : Nat) (s : Slot), s.mine = true → ρ'[i]? = some (some s) → ρ[i]? = some (some s)) ∧ P ρ'
theorem gno_var (i : Nat) : GNo (gVar i) := fun d ρ P h => ⟨fun j s m e => by
    by_cases hj : i = j
    · subst hj
      rw [List.getElem?_set] at e
      simp only [if_true] at e
      split at e <;> cases e <;> cases m
    · rw [List.getElem?_set_ne hj] at e; exact e, h⟩
theorem gno_nil : GsNo gNilS := fun ds ρ P h => by
  cases ds with
  | nil => exact ⟨fun _ _ _ e => e, h⟩
  | cons _ _ => exact h.elim
theorem gno_cons {g : SG} {gs : SGs} (mg : MonoG g) (mgs : MonoG gs) (h1 : GNo g) (h2 : GsNo gs) : GsNo (gConsS g gs) := fun ds ρ P h => by
  cases ds with
  | nil => exact h
  | cons d r => exact mg d ρ _ _ (fun ρ' q => mgs r ρ' _ _ (fun ρ2 q2 => ⟨fun i s m e => q.1 i s m (q2.1 i s m e), q2.2⟩) (h2 r ρ' _ q.2)) (h1 d ρ _ h)
theorem gno_tup {gs : SGs} (h : GsNo gs) : GNo (gTupS gs) := fun d ρ P q => by
  cases d with
  | tup ds => exact h ds ρ P q
  | _ => exact q.elim
theorem R.bump {K : Kf} {Z : Zs} {F F' H H' : Hp} {ρ : REnv} {σ : L2.St} {D : Addr} (r : R K Z F ρ σ H) (hne : ∀ (i : Nat) (s : Slot), s.mine = true → ρ[i]? = some (some s) → σ[i]? ≠ some (some (V.ref D))) (b : Base K Z F' H') (ex : Ex F F')
    (hh : ∀ a o, a ≠ D → Z.rw ≠ some a → H a = some o → H' a = some o) (hn : ∀ a, F' a ≠ none → F a ≠ none ∨ H a = none) : R K Z F' ρ σ H' := by
  refine ⟨b, r.len, fun i s e => ?_, r.apart⟩
  have q := r.slot i s e
  cases s with
  | sh d => obtain ⟨v, e1, e2⟩ := q; exact ⟨v, e1, Rep.ex ex _ _ e2⟩
  | own ds =>
    obtain ⟨a, vs, e1, e2, e3, e4, e5, e6⟩ := q
    refine ⟨a, vs, e1, hh a _ (fun z => hne i _ rfl e (by rw [← z]; exact e1)) e6 e2, Reps.ex ex _ _ e3, ?_, e5, e6⟩
    cases z : F' a with
    | none => rfl
    | some o =>
      rcases hn a (by rw [z]; simp) with y | y
      · exact absurd e4 y
      · rw [e2] at y; cases y
  | dic b kvs =>
    obtain ⟨a, vs, e1, e2, e3, e4, e5, e6⟩ := q
    refine ⟨a, vs, e1, hh a _ (fun z => hne i _ rfl e (by rw [← z]; exact e1)) e6 e2, e3.ex ex, ?_, e5, e6⟩
    cases z : F' a with
    | none => rfl
    | some o =>
      rcases hn a (by rw [z]; simp) with y | y
      · exact absurd e4 y
      · rw [e2] at y; cases y
theorem wipeE_none : ∀ {vs : List Nat} {i : Nat} {ρ : REnv} {s : Slot}, i ∈ vs → (wipeE ρ vs)[i]? ≠ some (some s)
  | v :: vs, i, ρ, s, h => fun e => by
    unfold wipeE at e
    by_cases hv : v = i
    · subst hv
      rw [List.getElem?_set] at e
      simp only [if_true] at e
      split at e <;> cases e
    · rw [List.getElem?_set_ne hv] at e
      rcases List.mem_cons.mp h with y | y
      · exact hv y.symm
      · exact wipeE_none y e
theorem wipeE_some : ∀ {vs : List Nat} {i : Nat} {ρ : REnv} {s : Slot}, (wipeE ρ vs)[i]? = some (some s) → ρ[i]? = some (some s)
  | [], _, _, _, e => e
  | v :: vs, i, ρ, s, e => by
    unfold wipeE at e
    by_cases hv : v = i
    · subst hv
      rw [List.getElem?_set] at e
      simp only [if_true] at e
      split at e <;> cases e
    · rw [List.getElem?_set_ne hv] at e
      exact wipeE_some e
theorem wipe_get : ∀ {vs : List Nat} {i : Nat} {σ : L2.St}, i ∉ vs → (L2.wipe σ vs)[i]? = σ[i]?
  | [], _, _, _ => rfl
  | v :: vs, i, σ, h => by
    show ((L2.wipe σ vs).set v none)[i]? = _
    rw [List.getElem?_set_ne (fun z : v = i => h (by rw [z]; exact List.mem_cons_self)), wipe_get fun z => h (List.mem_cons_of_mem _ z)]
theorem lc2_tp {K : Kf} {it it1 : SA} {g g1 : SG} {t t1 : ST} {is is1 vs vs1 : List Nat} (mi : MonoE it) (mg : MonoG g) (gn : GNo g) (mt : MonoE t) (mi1 : MonoE it1) (mg1 : MonoG g1) (mt1 : MonoE t1) (mf : MonoE f) (hv : ∀ i ∈ is, i ∈ vs) (hv1 : ∀ i ∈ is1, i ∈ vs1) : ∀ σ H Q, TFof K (lc2A it g t it1 vs1 g1 t1 f vs) σ H Q →
    tLc2 (TIGof K it) (TGof K is g) (TTof K t) (TIof K it1) (TGof K is1 g1) (TTof K t1) (TEof K f) vs vs1 σ H Q := fun σ H Q ⟨Z, F, ρ, r, q⟩ => by
  refine ⟨Z, F, ρ, r, mi ρ _ _ (fun xs hx J F1 H1 g01 hit => ?_) q⟩
  intro D hD
  have r1 := r.grow g01
  have nrow := g01.b.norow hD
  have h0D := g01.b.h0 hD
  have hF1 : F1 D = none := g01.b.fh.none hD
  have hown := own_ne r1 hD
  let Qf : List Z0.D → Prop := fun ys => ∀ p us F' H', Gr K Z F H F' H' → H p = none → Fresh Z F' ρ σ p → H' p = some (.lst us) → Reps K Z.rw F' ys us → Q (.ref p) H'
  have hx : lc2L g t it1 vs1 g1 t1 f (wipeE ρ vs) 0 xs Qf := hx
  refine ⟨fun i m H' => m = xs.length - i ∧ i ≤ xs.length ∧ ∃ F' acc, Grow K Z F1 H1 D F' H' acc ∧ lc2L g t it1 vs1 g1 t1 f (wipeE ρ vs) acc.length (xs.drop i) (fun ys => Qf (acc ++ ys)), ⟨xs.length, by simp, Nat.zero_le _, F1, [], ⟨g01.b.lay0 hD, hF1, [], upd_same, rfl⟩, ?_⟩, ?_⟩
  · simpa using hx
  rintro i m H' ⟨rfl, hle, F', acc, gw, q'⟩
  obtain ⟨t1', t2⟩ := hit F' H' i gw.gr
  by_cases hlt : i < xs.length
  · right
    have hdrop : xs.drop i = xs[i] :: xs.drop (i + 1) := List.drop_eq_getElem_cons hlt
    rw [hdrop] at q'
    obtain ⟨t3, t4⟩ := t2 xs[i] (List.getElem?_eq_getElem hlt)
    refine ⟨t3, fun H3 => ∃ F3 acc, Grow K Z F1 H1 D F3 H3 acc ∧ lc2L g t it1 vs1 g1 t1 f (wipeE ρ vs) acc.length (xs.drop (i + 1)) (fun ys => Qf (acc ++ ys)), fun H3 h3 => ⟨xs.length - (i + 1), by omega, rfl, hlt, h3⟩, fun x H2 y => ?_⟩
    obtain ⟨F2, g3, rep⟩ := t4 x H2 y
    have gw2 := gw.step nrow g3
    refine ⟨Z, F2, wipeE ρ vs, xs[i], ((r.grow g01).grow (gw.gr.trans g3)).wipe vs, rep, mg _ _ _ _ (fun ρ1 z0 σ1 r1' hw => ?_) (gn _ _ _ q')⟩
    obtain ⟨hno, z⟩ := z0
    have hw1 : wipe σ1 vs = wipe σ vs := by rw [hw vs hv]; exact wipe_wipe
    have hne : ∀ (j : Nat) (s : Slot), s.mine = true → ρ1[j]? = some (some s) → σ1[j]? ≠ some (some (V.ref D)) := fun j s m e => by
      have e1 := hno j s m e
      have hj : j ∉ vs := fun z => wipeE_none z e1
      rw [← wipe_get (σ := σ1) hj, hw1, wipe_get hj]
      exact hown j s m (wipeE_some e1)
    refine ⟨hw1, Z, F2, ρ1, r1', mt ρ1 _ _ (fun b hb F4 H4 g4 => ?_) z⟩
    have gw4 := gw2.step nrow g4
    refine br_ite (br_imp hb (fun z => ?_) (fun z => ⟨F4, acc, gw4, z⟩))
    refine ⟨Z, F4, ρ1, r1'.grow g4, mi1 ρ1 _ _ (fun xs1 hx1 J1 F5 H5 g5 hit1 => ?_) z⟩
    obtain ⟨hlen, hx1⟩ := hx1
    have gw5 := gw4.step nrow g5
    have r5 := (r1'.grow g4).grow g5
    let Nx1 : Nat → Hp → Prop := fun j H' => ∃ F' acc', Grow K Z F1 H1 D F' H' acc' ∧ Ex F5 F' ∧ (∀ a o, a ≠ D → Z.rw ≠ some a → H5 a = some o → H' a = some o) ∧ (∀ a, F' a ≠ none → F5 a ≠ none ∨ H5 a = none) ∧ acc'.length ≤ acc.length + j ∧ lcL g1 t1 f (wipeE ρ1 vs1) (xs1.drop j) (fun ys => lc2L g t it1 vs1 g1 t1 f (wipeE ρ vs) (acc'.length + ys.length) (xs.drop (i + 1)) (fun zs => Qf (acc' ++ (ys ++ zs))))
    refine ⟨fun j k H' => k = xs1.length - j ∧ j ≤ xs1.length ∧ Nx1 j H', ⟨xs1.length, by simp, Nat.zero_le _, F5, acc, gw5, Ex.refl _, fun _ _ _ _ h => h, fun _ h => .inl h, Nat.le_refl _, ?_⟩, ?_⟩
    · refine lcL_mono mg1 mt1 mf _ _ _ (fun ys hy => lc2L_mono mg mt mi1 mg1 mt1 mf _ _ _ _ (fun zs hz => ?_) hy) (by simpa using hx1)
      exact hz
    rintro j k H6 ⟨rfl, hjle, F6, acc6, gw6, ex6, hh6, hn6, hl6, q6⟩
    obtain ⟨s1, s2⟩ := hit1 F6 H6 j ex6 gw6.gr.b
    by_cases hjlt : j < xs1.length
    · right
      have hdrop1 : xs1.drop j = xs1[j] :: xs1.drop (j + 1) := List.drop_eq_getElem_cons hjlt
      rw [hdrop1] at q6
      obtain ⟨s3, s4⟩ := s2 xs1[j] (List.getElem?_eq_getElem hjlt)
      refine ⟨s3, fun H7 => Nx1 (j + 1) H7, fun H7 h7 => ⟨xs1.length - (j + 1), by omega, rfl, hjlt, h7⟩, fun x7 H7 y7 => ?_⟩
      obtain ⟨F7, g7, rep7⟩ := s4 x7 H7 y7
      have gw7 := gw6.step nrow g7
      have r7 : R K Z F7 ρ1 σ1 H7 := (r5.bump hne gw6.gr.b ex6 hh6 hn6).grow g7
      refine ⟨Z, F7, wipeE ρ1 vs1, xs1[j], r7.wipe vs1, rep7, mg1 _ _ _ _ (fun ρ2 z2 σ2 r2 hw2 => ⟨by rw [hw2 vs1 hv1]; exact wipe_wipe, Z, F7, ρ2, r2, mt1 ρ2 _ _ (fun b2 hb2 F8 H8 g8 => ?_) z2⟩) q6⟩
      have gw8 := gw7.step nrow g8
      have old8 : ∀ {F9 H9}, Gr K Z F6 H6 F9 H9 → Ex F5 F9 ∧ (∀ a o, a ≠ D → Z.rw ≠ some a → H5 a = some o → H9 a = some o) ∧ (∀ a, F9 a ≠ none → F5 a ≠ none ∨ H5 a = none) := fun {F9 H9} gg =>
        ⟨ex6.trans gg.f, fun a o h1 h2 e => gg.h a o h2 (hh6 a o h1 h2 e), fun a h => by
          rcases gg.n a h with w | w
          · exact hn6 a w
          · by_cases ha : a = D
            · subst ha; obtain ⟨us, e, _⟩ := gw6.hd; rw [e] at w; cases w
            · by_cases hr : Z.rw = some a
              · exact absurd (gg.b.frow a hr) h
              · cases e : H5 a with
                | none => exact .inr rfl
                | some o => rw [hh6 a o ha hr e] at w; cases w⟩
      refine br_ite (br_imp hb2 (fun z3 => ?_) (fun z3 => ?_))
      · refine ⟨Z, F8, ρ2, r2.grow g8, mf ρ2 _ _ (fun yv hy v F9 H9 g9 rep9 => ?_) z3⟩
        have gw9 := gw8.step nrow g9
        obtain ⟨us9, hd9, rr9⟩ := gw9.hd
        obtain ⟨o1, o2, o3⟩ := old8 ((g7.trans g8).trans g9)
        refine ⟨us9, hd9, by rw [rr9.length]; exact big_lt (by omega), F9, acc6 ++ [yv], gw9.put hD h0D nrow rep9 hd9, o1, fun a o h1 h2 e => by rw [upd_ne h1]; exact o2 a o h1 h2 e, o3, by rw [List.length_append]; simp; omega, ?_⟩
        refine lcL_mono mg1 mt1 mf _ _ _ (fun ys hy => ?_) hy
        have hy : lc2L g t it1 vs1 g1 t1 f (wipeE ρ vs) (acc6.length + (ys.length + 1)) (xs.drop (i + 1)) (fun zs => Qf (acc6 ++ (yv :: ys ++ zs))) := hy
        rw [List.length_append, show acc6.length + [yv].length + ys.length = acc6.length + (ys.length + 1) by simp; omega]
        refine lc2L_mono mg mt mi1 mg1 mt1 mf _ _ _ _ (fun zs hz => ?_) hy
        rw [List.append_assoc]
        exact hz
      · obtain ⟨o1, o2, o3⟩ := old8 (g7.trans g8)
        exact ⟨F8, acc6, gw8, o1, o2, o3, by omega, z3⟩
    · left
      have e : j = xs1.length := by omega
      subst e
      rw [List.drop_length] at q6
      refine ⟨s1 rfl, F6, acc6, gw6, ?_⟩
      have q7 : lc2L g t it1 vs1 g1 t1 f (wipeE ρ vs) (acc6.length + 0) (xs.drop (i + 1)) (fun zs => Qf (acc6 ++ ([] ++ zs))) := q6
      simpa using q7
  · left
    have e : i = xs.length := by omega
    subst e
    rw [List.drop_length] at q'
    obtain ⟨us, hd, rr⟩ := gw.hd
    have q2 := q' D us F' H' (g01.trans gw.gr) (back_none r.base g01 hD) ⟨gw.fd, h0D, nrow, own_ne (r.grow g01) hD⟩ hd (by rw [List.append_nil]; exact rr)
    exact ⟨t1' rfl, q2⟩
/-! the rules -/
theorem F.lc2 {elt tg iter tg1 iter1 : Expr} {ifs ifs1 : List Expr} {scope : Scope} {own : List (Str × Nat)} {vs1 : List Nat} {it it1 : SA} {is is1 : List Nat} {gg g1 : SG} {tt t1 : ST} (hc : X.calm = true) (hN : X.N.Nodup) (ok : BlkOk X.N X.env.scope scope own) (hv : ∀ i ∈ is, i ∈ own.map (·.2)) (hv0 : ∀ i ∈ vs1, i ∈ own.map (·.2)) (hv1 : ∀ i ∈ is1, i ∈ vs1) (gn : GNo gg)
    (hi : Ig X tg iter it) (hg : Blk X scope fun Y => G Y tg is gg) (ht : Blk X scope fun Y => Tl Y ifs tt) (hi1 : Blk X scope fun Y => I Y tg1 iter1 it1) (hg1 : Blk X scope fun Y => G Y tg1 is1 g1) (ht1 : Blk X scope fun Y => Tl Y ifs1 t1) (he : Blk X scope fun Y => E Y elt f)
    (hs : ∀ x, foldedSetIterable iter X.env x = pure x := by intro _; rfl) (hs1 : ∀ env x, foldedSetIterable iter1 env x = pure x := by intro _ _; rfl) :
    F X (.ListComp elt [⟨tg, iter, ifs, 0⟩, ⟨tg1, iter1, ifs1, 0⟩] scope pos) (lc2A it gg tt it1 vs1 g1 t1 f (own.map (·.2))) := by
  obtain ⟨_, mg⟩ := Blk.any hg
  obtain ⟨_, mt⟩ := Blk.any ht
  obtain ⟨_, mi1⟩ := Blk.any hi1
  obtain ⟨_, mg1⟩ := Blk.any hg1
  obtain ⟨_, mt1⟩ := Blk.any ht1
  obtain ⟨_, me⟩ := Blk.any he
  exact ⟨lc2A_mono hi.mono mg.mono mt.mono mi1.mono mg1.mono mt1.mono me.mono,
    PE.weak (pe_lc2 hc hN hi.run ok hv0 (fun s H C cl fp => (hg s H C cl fp).run) (fun s H C cl fp => (ht s H C cl fp).run) (fun s H C cl fp => (hi1 s H C cl fp).run) (fun s H C cl fp => (hg1 s H C cl fp).run) (fun s H C cl fp => (ht1 s H C cl fp).run) (fun s H C cl fp => (he s H C cl fp).run) hs hs1)
      (lc2_tp hi.mono mg.mono gn mt.mono mi1.mono mg1.mono mt1.mono me.mono hv hv1)⟩
theorem S.lc2O {i : Nat} {y : Str} {py spos : Pos} {elt tg iter tg1 iter1 : Expr} {ifs ifs1 : List Expr} {scope : Scope} {own : List (Str × Nat)} {vs1 : List Nat} {it it1 : SA} {is is1 : List Nat} {gg g1 : SG} {tt t1 : ST} (hc : X.calm = true) (hN : X.N.Nodup) (hy : X.N[i]? = some y) (hyl : X.env.scope.names.lookup y = some .local)
    (hsw : swapsWith (.ListComp elt [⟨tg, iter, ifs, 0⟩, ⟨tg1, iter1, ifs1, 0⟩] scope pos) (some (.Name y py)) spos.line X.env = pure true) (ok : BlkOk X.N X.env.scope scope own) (hv : ∀ i ∈ is, i ∈ own.map (·.2)) (hv0 : ∀ i ∈ vs1, i ∈ own.map (·.2)) (hv1 : ∀ i ∈ is1, i ∈ vs1) (gn : GNo gg)
    (hi : Ig X tg iter it) (hg : Blk X scope fun Y => G Y tg is gg) (ht : Blk X scope fun Y => Tl Y ifs tt) (hi1 : Blk X scope fun Y => I Y tg1 iter1 it1) (hg1 : Blk X scope fun Y => G Y tg1 is1 g1) (ht1 : Blk X scope fun Y => Tl Y ifs1 t1) (he : Blk X scope fun Y => E Y elt f)
    (hs : ∀ x, foldedSetIterable iter X.env x = pure x := by intro _; rfl) (hs1 : ∀ env x, foldedSetIterable iter1 env x = pure x := by intro _ _; rfl) :
    S X (.Assign [.Name y py] (.ListComp elt [⟨tg, iter, ifs, 0⟩, ⟨tg1, iter1, ifs1, 0⟩] scope pos) spos) (Z0.setO i (lc2A it gg tt it1 vs1 g1 t1 f (own.map (·.2)))) := by
  obtain ⟨_, mg⟩ := Blk.any hg
  obtain ⟨_, mt⟩ := Blk.any ht
  obtain ⟨_, mi1⟩ := Blk.any hi1
  obtain ⟨_, mg1⟩ := Blk.any hg1
  obtain ⟨_, mt1⟩ := Blk.any ht1
  obtain ⟨_, me⟩ := Blk.any he
  have mm := lc2A_mono (vs := own.map (·.2)) (vs1 := vs1) hi.mono mg.mono mt.mono mi1.mono mg1.mono mt1.mono me.mono
  exact ⟨setO_mono mm, PS.weak (ps_setLc2 hc hN hy hyl hsw hi.run ok hv0 (fun s H C cl fp => (hg s H C cl fp).run) (fun s H C cl fp => (ht s H C cl fp).run) (fun s H C cl fp => (hi1 s H C cl fp).run) (fun s H C cl fp => (hg1 s H C cl fp).run) (fun s H C cl fp => (ht1 s H C cl fp).run) (fun s H C cl fp => (he s H C cl fp).run) hs hs1)
    fun D σ H q => lc2_tp hi.mono mg.mono gn mt.mono mi1.mono mg1.mono mt1.mono me.mono hv hv1 σ H _ (setO_tp mm D σ H q)⟩
theorem set_of_setO {K : Kf} {i : Nat} {fa : SA} (mm : MonoE fa) : ∀ D σ H, TSof K (setS i (fun ρ Q => fa ρ fun ds => Q (.lst ds))) D σ H → tAsg (TFof K fa) (gName i) D σ H := fun D σ H ⟨Z, F, ρ, r, q⟩ =>
  ⟨Z, F, ρ, r, mm ρ _ _ (fun ds hd p us F' H' g h0 fr hp reps => by
    have g2 := freeze r g fr hp h0
    exact hd _ _ _ g2.f ((r.grow g2).setSh i ⟨p, us, rfl, upd_same, Reps.ex (Ex.upd fr.1) _ _ reps⟩)) q⟩
theorem S.lc2 {i : Nat} {y : Str} {py spos : Pos} {elt tg iter tg1 iter1 : Expr} {ifs ifs1 : List Expr} {scope : Scope} {own : List (Str × Nat)} {vs1 : List Nat} {it it1 : SA} {is is1 : List Nat} {gg g1 : SG} {tt t1 : ST} (hc : X.calm = true) (hN : X.N.Nodup) (hy : X.N[i]? = some y) (hyl : X.env.scope.names.lookup y = some .local)
    (hsw : swapsWith (.ListComp elt [⟨tg, iter, ifs, 0⟩, ⟨tg1, iter1, ifs1, 0⟩] scope pos) (some (.Name y py)) spos.line X.env = pure true) (ok : BlkOk X.N X.env.scope scope own) (hv : ∀ i ∈ is, i ∈ own.map (·.2)) (hv0 : ∀ i ∈ vs1, i ∈ own.map (·.2)) (hv1 : ∀ i ∈ is1, i ∈ vs1) (gn : GNo gg)
    (hi : Ig X tg iter it) (hg : Blk X scope fun Y => G Y tg is gg) (ht : Blk X scope fun Y => Tl Y ifs tt) (hi1 : Blk X scope fun Y => I Y tg1 iter1 it1) (hg1 : Blk X scope fun Y => G Y tg1 is1 g1) (ht1 : Blk X scope fun Y => Tl Y ifs1 t1) (he : Blk X scope fun Y => E Y elt f)
    (hs : ∀ x, foldedSetIterable iter X.env x = pure x := by intro _; rfl) (hs1 : ∀ env x, foldedSetIterable iter1 env x = pure x := by intro _ _; rfl) :
    S X (.Assign [.Name y py] (.ListComp elt [⟨tg, iter, ifs, 0⟩, ⟨tg1, iter1, ifs1, 0⟩] scope pos) spos) (setS i (fun ρ Q => lc2A it gg tt it1 vs1 g1 t1 f (own.map (·.2)) ρ fun ds => Q (.lst ds))) := by
  obtain ⟨_, mg⟩ := Blk.any hg
  obtain ⟨_, mt⟩ := Blk.any ht
  obtain ⟨_, mi1⟩ := Blk.any hi1
  obtain ⟨_, mg1⟩ := Blk.any hg1
  obtain ⟨_, mt1⟩ := Blk.any ht1
  obtain ⟨_, me⟩ := Blk.any he
  have mm := lc2A_mono (vs := own.map (·.2)) (vs1 := vs1) hi.mono mg.mono mt.mono mi1.mono mg1.mono mt1.mono me.mono
  exact ⟨setS_mono (fun ρ P Q h q => mm ρ _ _ (fun ds z => h _ z) q), PS.weak (ps_setLc2 hc hN hy hyl hsw hi.run ok hv0 (fun s H C cl fp => (hg s H C cl fp).run) (fun s H C cl fp => (ht s H C cl fp).run) (fun s H C cl fp => (hi1 s H C cl fp).run) (fun s H C cl fp => (hg1 s H C cl fp).run) (fun s H C cl fp => (ht1 s H C cl fp).run) (fun s H C cl fp => (he s H C cl fp).run) hs hs1)
    fun D σ H q => lc2_tp hi.mono mg.mono gn mt.mono mi1.mono mg1.mono mt1.mono me.mono hv hv1 σ H _ (set_of_setO mm D σ H q)⟩
end

/-! ### zip and enumerate in for, nested targets -/
section
variable {X : Cx} {e a b c : Expr} {f g k : SE} {pos : Pos} {st : Stmt}
theorem I.zip {tg : Expr} {es : List Expr} {fa : SA} (ha : A X es fa) (h : PI X tg e (RZ.iZipA X.K (TAof X.K fa))) : I X tg e (zipA fa) := ⟨fun ρ P Q hpq q => ha.mono ρ _ _ (fun ds hd => by
    split at hd
    · exact hpq _ hd
    · exact hpq _ hd
    · exact hd.elim) q, PI.weak h fun σ H Rc ⟨Z, F, ρ, r, q⟩ => ⟨Z, F, ρ, r, ha.mono ρ _ _ (fun ds hd vs F1 H1 g1 reps => by
    split at hd
    · rename_i xs ys
      obtain ⟨v, r1, rfl, rep, v2, r2, rfl, rep2, h3⟩ := (show ∃ v r1, vs = v :: r1 ∧ Rep _ _ _ (.lst xs) v ∧ ∃ v2 r2, r1 = v2 :: r2 ∧ Rep _ _ _ (.lst ys) v2 ∧ r2 = [] from reps)
      subst h3
      obtain ⟨a, us, rfl, e1, e2⟩ := (show ∃ a us, v = V.ref a ∧ F1 a = some (.lst us) ∧ Reps _ _ _ xs us from rep)
      obtain ⟨a', us', rfl, e1', e2'⟩ := (show ∃ a us, v2 = V.ref a ∧ F1 a = some (.lst us) ∧ Reps _ _ _ ys us from rep2)
      refine ⟨a, a', us, us', rfl, .inl ⟨SqL.of (g1.b.fh _ _ e1), SqL.of (g1.b.fh _ _ e1'), hd _ F1 H1 g1 fun F2 H2 i ex b2 => ?_⟩⟩
      have w1 := b2.fh _ _ (ex _ _ e1)
      have w2 := b2.fh _ _ (ex _ _ e1')
      refine ⟨fun ei => ⟨us, us', SqL.of w1, SqL.of w2, ?_⟩, fun d hd => ?_⟩
      · rw [e2.length, e2'.length, ei]; exact zipD_len
      · obtain ⟨x, y, hx, hy, rfl⟩ := zipD_get hd
        obtain ⟨v, e4, e5⟩ := e2.get hx
        obtain ⟨v', e4', e5'⟩ := e2'.get hy
        refine ⟨⟨us, us', v, v', SqL.of w1, SqL.of w2, e4, e4'⟩, fun z H' yy => ?_⟩
        obtain ⟨T, z1, z2, rfl, hT, rfl, f1, f2⟩ := yy
        have g1' := f1 us (SqL.of w1)
        have g2' := f2 us' (SqL.of w2)
        rw [e4] at g1'
        rw [e4'] at g2'
        cases g1'
        cases g2'
        exact turn_pair b2 hT (Rep.ex ex _ _ e5) (Rep.ex ex _ _ e5')
    · rename_i xs ys
      obtain ⟨v, r1, rfl, rep, v2, r2, rfl, rep2, h3⟩ := (show ∃ v r1, vs = v :: r1 ∧ Rep _ _ _ (.tup xs) v ∧ ∃ v2 r2, r1 = v2 :: r2 ∧ Rep _ _ _ (.tup ys) v2 ∧ r2 = [] from reps)
      subst h3
      obtain ⟨a, us, rfl, e1, e2⟩ := (show ∃ a us, v = V.ref a ∧ SqT _ F1 a us ∧ Reps _ _ _ xs us from rep)
      obtain ⟨a', us', rfl, e1', e2'⟩ := (show ∃ a us, v2 = V.ref a ∧ SqT _ F1 a us ∧ Reps _ _ _ ys us from rep2)
      refine ⟨a, a', us, us', rfl, .inr ⟨sqt_ex g1.b.fh e1, sqt_ex g1.b.fh e1', hd _ F1 H1 g1 fun F2 H2 i ex b2 => ?_⟩⟩
      have w1 := sqt_ex b2.fh (sqt_ex ex e1)
      have w2 := sqt_ex b2.fh (sqt_ex ex e1')
      refine ⟨fun ei => ⟨us, us', w1, w2, ?_⟩, fun d hd => ?_⟩
      · rw [e2.length, e2'.length, ei]; exact zipD_len
      · obtain ⟨x, y, hx, hy, rfl⟩ := zipD_get hd
        obtain ⟨v, e4, e5⟩ := e2.get hx
        obtain ⟨v', e4', e5'⟩ := e2'.get hy
        refine ⟨⟨us, us', v, v', w1, w2, e4, e4'⟩, fun z H' yy => ?_⟩
        obtain ⟨T, z1, z2, rfl, hT, rfl, f1, f2⟩ := yy
        have g1' := f1 us w1
        have g2' := f2 us' w2
        rw [e4] at g1'
        rw [e4'] at g2'
        cases g1'
        cases g2'
        exact turn_pair b2 hT (Rep.ex ex _ _ e5) (Rep.ex ex _ _ e5')
    · exact hd.elim) q⟩⟩
theorem I.z {tg : Expr} {es : List Expr} {fa : SA} (ha : A X es fa) (h : PA X es (TAof X.K fa) → PI X tg e (RZ.iZipA X.K (TAof X.K fa))) : I X tg e (zipA fa) := I.zip ha (h ha.run)
/-- (0, x), (1, y), .. -/
def enumD : Nat → List D → List D
  | _, [] => []
  | i, d :: ds => .tup [.int (i : Int), d] :: enumD (i + 1) ds
theorem enumD_len : ∀ (n : Nat) (ds : List D), (enumD n ds).length = ds.length
  | _, [] => rfl
  | n, d :: ds => by show (enumD (n + 1) ds).length + 1 = ds.length + 1; rw [enumD_len]
theorem enumD_get : ∀ {n : Nat} {ds : List D} {i : Nat} {d : D}, (enumD n ds)[i]? = some d → ∃ x, ds[i]? = some x ∧ d = .tup [.int ((n + i : Nat) : Int), x]
  | _, [], _, _, h => by simp [enumD] at h
  | n, x :: ds, 0, d, h => by
    have e : D.tup [.int (n : Int), x] = d := by simpa [enumD] using h
    exact ⟨x, rfl, e.symm⟩
  | n, x :: ds, i + 1, d, h => by
    obtain ⟨y, h1, h2⟩ := enumD_get (n := n + 1) (ds := ds) (i := i) (by simpa [enumD] using h)
    exact ⟨y, by simpa using h1, by rw [h2, show n + 1 + i = n + (i + 1) by omega]⟩
def enumA (f : SA) : SA := fun ρ Q => f ρ fun ds => match ds with
  | [.lst xs] => Q (enumD 0 xs)
  | _ => False
theorem enumA_mono {f : SA} (mf : MonoE f) : MonoE (enumA f) := fun ρ P Q hpq q => mf ρ _ _ (fun ds hd => by
    split at hd
    · exact hpq _ hd
    · exact hd.elim) q
theorem I.en {tg : Expr} {es : List Expr} {fa : SA} (ha : A X es fa) (h : PA X es (TAof X.K fa) → PI X tg e (iEnum X.K (TAof X.K fa))) : I X tg e (enumA fa) := ⟨enumA_mono ha.mono, PI.weak (h ha.run) fun σ H Rc ⟨Z, F, ρ, r, q⟩ => ⟨Z, F, ρ, r, ha.mono ρ _ _ (fun ds hd vs F1 H1 g1 reps => by
    split at hd
    · rename_i xs
      obtain ⟨v, r1, rfl, rep, h3⟩ := (show ∃ v r1, vs = v :: r1 ∧ Rep _ _ _ (.lst xs) v ∧ r1 = [] from reps)
      subst h3
      obtain ⟨a, us, rfl, e1, e2⟩ := (show ∃ a us, v = V.ref a ∧ F1 a = some (.lst us) ∧ Reps _ _ _ xs us from rep)
      refine ⟨a, us, rfl, SqL.of (g1.b.fh _ _ e1), hd _ F1 H1 g1 fun F2 H2 i ex b2 => ?_⟩
      have w1 := b2.fh _ _ (ex _ _ e1)
      refine ⟨fun ei => ⟨us, SqL.of w1, by rw [e2.length, ei, enumD_len]; exact Nat.le_refl _⟩, fun d hd => ?_⟩
      obtain ⟨x, hx, rfl⟩ := enumD_get hd
      obtain ⟨v, e4, e5⟩ := e2.get hx
      refine ⟨⟨us, v, SqL.of w1, e4⟩, fun z H' yy => ?_⟩
      obtain ⟨T, z2, rfl, hT, rfl, f2⟩ := yy
      have g2' := f2 us (SqL.of w1)
      rw [e4] at g2'
      cases g2'
      rw [Nat.zero_add]
      exact turn_pair b2 hT (show Rep _ _ _ (.int ((i : Nat) : Int)) (.int ((i : Nat) : Int)) from rfl) (Rep.ex ex _ _ e5)
    · exact hd.elim) q⟩⟩
/-- a target that may end -/
def GEnd (g : SG) : Prop := ∀ d ρ (P : REnv → Prop), g d ρ P → ∃ ρ', P ρ'
def GsEnd (g : SGs) : Prop := ∀ d ρ (P : REnv → Prop), g d ρ P → ∃ ρ', P ρ'
theorem gend_var (i : Nat) : GEnd (gVar i) := fun _ _ _ h => ⟨_, h⟩
theorem gend_nil : GsEnd gNilS := fun ds ρ P h => by
  cases ds with
  | nil => exact ⟨_, h⟩
  | cons _ _ => exact h.elim
theorem gend_cons {g : SG} {gs : SGs} (h1 : GEnd g) (h2 : GsEnd gs) : GsEnd (gConsS g gs) := fun ds ρ P h => by
  cases ds with
  | nil => exact h.elim
  | cons d r =>
    obtain ⟨ρ', q⟩ := h1 d ρ _ h
    exact h2 r ρ' P q
theorem gend_tup {gs : SGs} (h : GsEnd gs) : GEnd (gTupS gs) := fun d ρ P q => by
  cases d with
  | tup ds => exact h ds ρ P q
  | _ => exact q.elim
theorem gn_cons {g : SG} {gs : SGs} {m : Nat} (h1 : GEnd g) (h : ∀ ds ρ Q, gs ds ρ Q → ds.length = m) : ∀ (ds : List D) (ρ : REnv) (Q : REnv → Prop), gConsS g gs ds ρ Q → ds.length = m + 1 := fun ds ρ Q q => by
  cases ds with
  | nil => exact q.elim
  | cons d ds =>
    obtain ⟨ρ', q'⟩ := h1 d ρ _ q
    rw [List.length_cons, h ds _ _ q']
end
theorem gm_var (i : Nat) : MonoG (gVar i) := fun _ _ _ _ h q => h _ q
theorem gm_nil : MonoG gNilS := fun ds ρ P Q h q => by
  cases ds with
  | nil => exact h _ q
  | cons _ _ => exact q
theorem gm_cons {g : SG} {gs : SGs} (h1 : MonoG g) (h2 : MonoG gs) : MonoG (gConsS g gs) := fun ds ρ P Q h q => by
  cases ds with
  | nil => exact q
  | cons d r => exact h1 d ρ _ _ (fun ρ' z => h2 r ρ' _ _ h z) q
theorem gm_tup {gs : SGs} (h : MonoG gs) : MonoG (gTupS gs) := fun d ρ P Q hpq q => by
  cases d with
  | tup ds => exact h ds ρ _ _ hpq q
  | _ => exact q.elim
/-- forget that a list is one's own, where it is -/
def frzU (i : Nat) (s : SS) : SS := fun ρ k => match ρ[i]? with
  | some (some (.own ds)) => s (ρ.set i (some (.sh (.lst ds)))) k
  | _ => s ρ k
theorem S.frzU {X : Cx} {st : Stmt} {s : SS} (i : Nat) (h : S X st s) : S X st (Z0.frzU i s) := ⟨fun ρ k l hk q => by
    unfold Z0.frzU at *
    split at q
    · exact h.mono _ _ _ hk q
    · exact h.mono _ _ _ hk q, PS.weak h.run fun D σ H ⟨Z, F, ρ, r, q⟩ => by
  unfold Z0.frzU at q
  split at q
  · rename_i ds hd
    obtain ⟨F', e, r'⟩ := r.frz hd
    exact ⟨Z, F', _, r', h.mono _ _ _ (kOf_ex e) q⟩
  · exact ⟨Z, F, ρ, r, q⟩⟩

/-! ### sorted of tuples of ints, nested, all of one shape -/
def lexLt : List Int → List Int → Bool
  | [], [] => false
  | [], _ :: _ => true
  | _ :: _, [] => false
  | x :: xs, y :: ys => if x = y then lexLt xs ys else decide (x < y)
theorem lexLt_self : ∀ a : List Int, lexLt a a = false
  | [] => rfl
  | x :: xs => by unfold lexLt; rw [if_pos rfl]; exact lexLt_self xs
theorem lexLt_asym : ∀ a b : List Int, lexLt a b = true → lexLt b a = false
  | [], [], h => by cases h
  | [], _ :: _, _ => rfl
  | _ :: _, [], h => by cases h
  | x :: xs, y :: ys, h => by
    unfold lexLt at h ⊢
    by_cases e : x = y
    · subst e; rw [if_pos rfl] at h ⊢; exact lexLt_asym xs ys h
    · rw [if_neg e, decide_eq_true_eq] at h
      rw [if_neg (fun z => e z.symm), decide_eq_false_iff_not]
      omega
theorem lexLt_tr : ∀ a b c : List Int, lexLt b a = false → lexLt c b = false → lexLt c a = false
  | [], [], [], _, _ => rfl
  | [], [], _ :: _, _, h => h
  | [], _ :: _, [], _, h => by cases h
  | [], y :: ys, z :: zs, _, _ => rfl
  | _ :: _, [], c, h, _ => by cases h
  | _ :: _, _ :: _, [], _, h => by cases h
  | x :: xs, y :: ys, z :: zs, h1, h2 => by
    unfold lexLt at h1 h2 ⊢
    by_cases e1 : y = x
    · subst e1
      rw [if_pos rfl] at h1
      by_cases e2 : z = y
      · subst e2
        rw [if_pos rfl] at h2 ⊢
        exact lexLt_tr xs ys zs h1 h2
      · rw [if_neg e2] at h2 ⊢
        exact h2
    · rw [if_neg e1, decide_eq_false_iff_not] at h1
      by_cases e2 : z = y
      · subst e2
        rw [if_neg e1, decide_eq_false_iff_not]; exact h1
      · rw [if_neg e2, decide_eq_false_iff_not] at h2
        rw [if_neg (by omega), decide_eq_false_iff_not]
        omega
theorem lexLt_anti : ∀ {a b : List Int}, lexLt a b = false → lexLt b a = false → a = b
  | [], [], _, _ => rfl
  | [], _ :: _, h, _ => by cases h
  | _ :: _, [], _, h => by cases h
  | x :: xs, y :: ys, h1, h2 => by
    unfold lexLt at h1 h2
    by_cases e : x = y
    · subst e
      rw [if_pos rfl] at h1 h2
      rw [lexLt_anti h1 h2]
    · rw [if_neg e, decide_eq_false_iff_not] at h1
      rw [if_neg (fun z => e z.symm), decide_eq_false_iff_not] at h2
      omega
theorem lexLt_app : ∀ {a b : List Int} (r r' : List Int), a.length = b.length → lexLt (a ++ r) (b ++ r') = if a = b then lexLt r r' else lexLt a b
  | [], [], r, r', _ => by simp
  | [], _ :: _, _, _, h => by simp at h
  | _ :: _, [], _, _, h => by simp at h
  | x :: xs, y :: ys, r, r', h => by
    show (if x = y then lexLt (xs ++ r) (ys ++ r') else decide (x < y)) = if x :: xs = y :: ys then lexLt r r' else (if x = y then lexLt xs ys else decide (x < y))
    by_cases e : x = y
    · subst e
      rw [if_pos rfl, lexLt_app r r' (by simpa using h)]
      by_cases e2 : xs = ys
      · subst e2; rw [if_pos rfl, if_pos rfl]
      · rw [if_neg e2, if_neg (fun z => e2 (by injection z)), if_pos rfl]
    · rw [if_neg e, if_neg (fun z => e (by injection z)), if_neg e]
/-- shapes -/
inductive Sh where
  | num | tup (ss : List Sh)
mutual
def shP : Sh → PyData → Bool
  | .num, .int _ => true
  | .tup ss, .tuple ds => shPs ss ds
  | _, _ => false
def shPs : List Sh → List PyData → Bool
  | [], [] => true
  | s :: ss, d :: ds => shP s d && shPs ss ds
  | _, _ => false
end
mutual
def flatP : PyData → List Int
  | .int i => [i]
  | .tuple ds => flatPs ds
  | _ => []
def flatPs : List PyData → List Int
  | [] => []
  | d :: ds => flatP d ++ flatPs ds
end
mutual
def nkP : PyData → NestedKey
  | .int i => .num i
  | .bool b => .num (if b = true then 1 else 0)
  | .str x => .text x
  | .tuple ds => .tup (nkPs ds)
  | _ => .none
def nkPs : List PyData → List NestedKey
  | [] => []
  | d :: ds => nkP d :: nkPs ds
end
theorem shP_num {d : PyData} (h : shP .num d = true) : ∃ i, d = .int i := by
  cases d with
  | int i => exact ⟨i, rfl⟩
  | _ => simp [shP] at h
theorem shP_tup {ss : List Sh} {d : PyData} (h : shP (.tup ss) d = true) : ∃ ds, d = .tuple ds ∧ shPs ss ds = true := by
  cases d with
  | tuple ds => exact ⟨ds, rfl, by simpa [shP] using h⟩
  | _ => simp [shP] at h
theorem shPs_nil {ds : List PyData} (h : shPs [] ds = true) : ds = [] := by
  cases ds with
  | nil => rfl
  | cons _ _ => simp [shPs] at h
theorem shPs_cons {s : Sh} {ss : List Sh} {ds : List PyData} (h : shPs (s :: ss) ds = true) : ∃ d r, ds = d :: r ∧ shP s d = true ∧ shPs ss r = true := by
  cases ds with
  | nil => simp [shPs] at h
  | cons d r => simp only [shPs, Bool.and_eq_true] at h; exact ⟨d, r, rfl, h.1, h.2⟩
mutual
theorem flat_len : ∀ (s : Sh) (d e : PyData), shP s d = true → shP s e = true → (flatP d).length = (flatP e).length ∧ (flatP d = flatP e → d = e)
  | .num, d, e, h1, h2 => by
    obtain ⟨i, rfl⟩ := shP_num h1
    obtain ⟨j, rfl⟩ := shP_num h2
    refine ⟨by simp [flatP], fun h => ?_⟩
    simp [flatP] at h
    rw [h]
  | .tup ss, d, e, h1, h2 => by
    obtain ⟨ds, rfl, h1⟩ := shP_tup h1
    obtain ⟨es, rfl, h2⟩ := shP_tup h2
    obtain ⟨h3, h4⟩ := flats_len ss ds es h1 h2
    exact ⟨by simpa [flatP] using h3, fun h => by rw [h4 (by simpa [flatP] using h)]⟩
theorem flats_len : ∀ (ss : List Sh) (ds es : List PyData), shPs ss ds = true → shPs ss es = true → (flatPs ds).length = (flatPs es).length ∧ (flatPs ds = flatPs es → ds = es)
  | [], ds, es, h1, h2 => by
    rw [shPs_nil h1, shPs_nil h2]
    exact ⟨rfl, fun _ => rfl⟩
  | s :: ss, ds, es, h1, h2 => by
    obtain ⟨d, ds, rfl, p1, p2⟩ := shPs_cons h1
    obtain ⟨e, es, rfl, q1, q2⟩ := shPs_cons h2
    obtain ⟨a1, a2⟩ := flat_len s d e p1 q1
    obtain ⟨b1, b2⟩ := flats_len ss ds es p2 q2
    refine ⟨by simp [flatPs, a1, b1], fun h => ?_⟩
    simp only [flatPs] at h
    obtain ⟨e1, e2⟩ := List.append_inj h a1
    rw [a2 e1, b2 e2]
end
mutual
theorem beq_flat : ∀ (s : Sh) (d e : PyData), shP s d = true → shP s e = true → (NestedKey.beq (nkP d) (nkP e) = true ↔ flatP d = flatP e)
  | .num, d, e, h1, h2 => by
    obtain ⟨i, rfl⟩ := shP_num h1
    obtain ⟨j, rfl⟩ := shP_num h2
    simp [nkP, NestedKey.beq, flatP]
  | .tup ss, d, e, h1, h2 => by
    obtain ⟨ds, rfl, h1⟩ := shP_tup h1
    obtain ⟨es, rfl, h2⟩ := shP_tup h2
    have := beqs_flat ss ds es h1 h2
    simpa [nkP, NestedKey.beq, flatP] using this
theorem beqs_flat : ∀ (ss : List Sh) (ds es : List PyData), shPs ss ds = true → shPs ss es = true → (NestedKey.beqAll (nkPs ds) (nkPs es) = true ↔ flatPs ds = flatPs es)
  | [], ds, es, h1, h2 => by
    rw [shPs_nil h1, shPs_nil h2]
    simp [nkPs, NestedKey.beqAll, flatPs]
  | s :: ss, ds, es, h1, h2 => by
    obtain ⟨d, ds, rfl, p1, p2⟩ := shPs_cons h1
    obtain ⟨e, es, rfl, q1, q2⟩ := shPs_cons h2
    have a := beq_flat s d e p1 q1
    have b := beqs_flat ss ds es p2 q2
    have l := (flat_len s d e p1 q1).1
    simp only [nkPs, NestedKey.beqAll, flatPs, Bool.and_eq_true, a, b]
    exact ⟨fun h => by rw [h.1, h.2], fun h => List.append_inj h l⟩
end
theorem beq_dec {s : Sh} {d e : PyData} (h1 : shP s d = true) (h2 : shP s e = true) : NestedKey.beq (nkP d) (nkP e) = decide (flatP d = flatP e) := by
  have := beq_flat s d e h1 h2
  cases q : NestedKey.beq (nkP d) (nkP e) with
  | true => exact (decide_eq_true (this.mp q)).symm
  | false => exact (decide_eq_false (fun z => by rw [this.mpr z] at q; cases q)).symm
/-! ### how the machine compares them -/
section
variable {K : Kf} {H : Hp} {h : Heap}
mutual
theorem nis_num {X : Cx} {pins : List (Addr × Obj)} {σ : L2.St} {H : Hp} {s : Shared} (I : Inv X pins σ H s) : ∀ (sh : Sh) (d : PyData) (v : V) (u : Value), shP sh d = true → Dp X.K H v d → RelV v u → NestedIs s.heap (nkP d) u
  | .num, d, v, u, h, dp, r => by
    obtain ⟨i, rfl⟩ := shP_num h
    cases dp
    obtain ⟨t, rfl⟩ := (show ∃ t, u = Value.int i t from r)
    exact .int i t
  | .tup ss, d, v, u, h, dp, r => by
    obtain ⟨ds, rfl, h⟩ := shP_tup h
    cases dp with
    | tup hs hd =>
      cases (show u = Value.ref _ from r)
      obtain ⟨its, rv, ⟨o, ho, hc, n, hdat⟩, _⟩ := I.tuple hs
      exact .tup ho hc hdat (by simpa using nis_nums I ss ds _ _ h hd rv)
theorem nis_nums {X : Cx} {pins : List (Addr × Obj)} {σ : L2.St} {H : Hp} {s : Shared} (I : Inv X pins σ H s) : ∀ (ss : List Sh) (ds : List PyData) (vs : List V) (us : List Value), shPs ss ds = true → DpAll X.K H vs ds → Vals vs us → NestedAll s.heap (nkPs ds) us
  | [], ds, vs, us, h, dp, r => by
    have := shPs_nil h
    subst this
    cases dp
    cases r
    exact .nil
  | sh :: ss, ds, vs, us, h, dp, r => by
    obtain ⟨d, ds, rfl, p1, p2⟩ := shPs_cons h
    cases dp with
    | cons d1 d2 =>
      cases r with
      | cons r1 r2 => exact .cons (nis_num I sh d _ _ p1 d1 r1) (nis_nums I ss ds _ _ p2 d2 r2)
end
end
mutual
theorem depth_sh : ∀ (s : Sh) (d e : PyData), shP s d = true → shP s e = true → (nkP d).depth = (nkP e).depth
  | .num, d, e, h1, h2 => by
    obtain ⟨i, rfl⟩ := shP_num h1
    obtain ⟨j, rfl⟩ := shP_num h2
    simp [nkP, NestedKey.depth]
  | .tup ss, d, e, h1, h2 => by
    obtain ⟨ds, rfl, h1⟩ := shP_tup h1
    obtain ⟨es, rfl, h2⟩ := shP_tup h2
    simp only [nkP, NestedKey.depth]
    rw [depths_sh ss ds es h1 h2]
theorem depths_sh : ∀ (ss : List Sh) (ds es : List PyData), shPs ss ds = true → shPs ss es = true → NestedKey.depthAll (nkPs ds) = NestedKey.depthAll (nkPs es)
  | [], ds, es, h1, h2 => by rw [shPs_nil h1, shPs_nil h2]
  | s :: ss, ds, es, h1, h2 => by
    obtain ⟨d, ds, rfl, p1, p2⟩ := shPs_cons h1
    obtain ⟨e, es, rfl, q1, q2⟩ := shPs_cons h2
    simp only [nkPs, NestedKey.depthAll]
    rw [depth_sh s d e p1 q1, depths_sh ss ds es p2 q2]
end
/-- what the comparison of two lists of items says, from place i on -/
theorem lexAt_flat : ∀ (ss : List Sh) (ds es : List PyData) (off : Nat) (e r : Nat → Bool), shPs ss ds = true → shPs ss es = true →
    (∀ j d f, ds[j]? = some d → es[j]? = some f → e (off + j) = decide (flatP d = flatP f)) → (∀ j d f, ds[j]? = some d → es[j]? = some f → e (off + j) = false → r (off + j) = lexLt (flatP d) (flatP f)) →
    Ob.lexAt e r false off ds.length = lexLt (flatPs ds) (flatPs es)
  | [], ds, es, off, e, r, h1, h2, _, _ => by
    rw [shPs_nil h1, shPs_nil h2]
    rfl
  | s :: ss, ds, es, off, e, r, h1, h2, he, hr => by
    obtain ⟨d, ds, rfl, p1, p2⟩ := shPs_cons h1
    obtain ⟨f, es, rfl, q1, q2⟩ := shPs_cons h2
    have a1 := he 0 d f rfl rfl
    rw [Nat.add_zero] at a1
    show (if e off = true then Ob.lexAt e r false (off + 1) ds.length else r off) = lexLt (flatP d ++ flatPs ds) (flatP f ++ flatPs es)
    rw [lexLt_app _ _ (flat_len s d f p1 q1).1]
    by_cases c : flatP d = flatP f
    · rw [if_pos c, if_pos (by rw [a1]; exact decide_eq_true c)]
      refine lexAt_flat ss ds es (off + 1) e r p2 q2 (fun j x y hx hy => ?_) (fun j x y hx hy => ?_)
      · have := he (j + 1) x y hx hy
        rwa [show off + (j + 1) = off + 1 + j by omega] at this
      · have := hr (j + 1) x y hx hy
        rwa [show off + (j + 1) = off + 1 + j by omega] at this
    · have a2 : e off = false := by rw [a1]; exact decide_eq_false c
      rw [if_neg c, if_neg (by rw [a2]; decide)]
      have := hr 0 d f rfl rfl
      rw [Nat.add_zero] at this
      exact this a2
/-! ints, and tuples of such, in a heap -/
mutual
inductive KI (h : Heap) : PyData → Value → Prop
  | int (i : Int) (t : Tok) : KI h (.int i) (.int i t)
  | tup {a : Addr} {o : Obj} {vs : Array Value} {n : Nat} {ds : List PyData} : h.get? a = some o → o.cls = .type "tuple" → o.data = .seq vs n → KIs h ds vs.toList → KI h (.tuple ds) (.ref a)
inductive KIs (h : Heap) : List PyData → List Value → Prop
  | nil : KIs h [] []
  | cons {d : PyData} {v : Value} {ds : List PyData} {vs : List Value} : KI h d v → KIs h ds vs → KIs h (d :: ds) (v :: vs)
end
mutual
theorem KI.nis {h : Heap} : ∀ (d : PyData) (v : Value), KI h d v → NestedIs h (nkP d) v
  | .int i, _, x => by cases x; exact .int _ _
  | .tuple ds, _, x => by
    cases x with
    | tup h1 h2 h3 h4 => exact .tup h1 h2 h3 (KIs.nis ds _ h4)
  | .none, _, x => by cases x
  | .bool _, _, x => by cases x
  | .str _, _, x => by cases x
  | .list _, _, x => by cases x
  | .dict _, _, x => by cases x
theorem KIs.nis {h : Heap} : ∀ (ds : List PyData) (vs : List Value), KIs h ds vs → NestedAll h (nkPs ds) vs
  | [], _, x => by cases x; exact .nil
  | d :: ds, _, x => by
    cases x with
    | cons a b => exact .cons (KI.nis d _ a) (KIs.nis ds _ b)
end
mutual
theorem KI.keep {h h' : Heap} (k : ∀ b o vs n, h.get? b = some o → o.data = .seq vs n → o.cls = .type "tuple" → h'.get? b = some o) : ∀ (d : PyData) (v : Value), KI h d v → KI h' d v
  | .int i, _, x => by cases x; exact .int _ _
  | .tuple ds, _, x => by
    cases x with
    | tup h1 h2 h3 h4 => exact .tup (k _ _ _ _ h1 h3 h2) h2 h3 (KIs.keep k ds _ h4)
  | .none, _, x => by cases x
  | .bool _, _, x => by cases x
  | .str _, _, x => by cases x
  | .list _, _, x => by cases x
  | .dict _, _, x => by cases x
theorem KIs.keep {h h' : Heap} (k : ∀ b o vs n, h.get? b = some o → o.data = .seq vs n → o.cls = .type "tuple" → h'.get? b = some o) : ∀ (ds : List PyData) (vs : List Value), KIs h ds vs → KIs h' ds vs
  | [], _, x => by cases x; exact .nil
  | d :: ds, _, x => by
    cases x with
    | cons a b => exact .cons (KI.keep k d _ a) (KIs.keep k ds _ b)
end
theorem KIs.length {h : Heap} : ∀ {ds : List PyData} {vs : List Value}, KIs h ds vs → vs.length = ds.length
  | [], _, x => by cases x; rfl
  | d :: ds, _, x => by
    cases x with
    | cons a b => rw [List.length_cons, List.length_cons, KIs.length b]
theorem KIs.get {h : Heap} : ∀ {ds : List PyData} {vs : List Value} {j : Nat} {d : PyData} {v : Value}, KIs h ds vs → ds[j]? = some d → vs[j]? = some v → KI h d v
  | [], _, _, _, _, _, e, _ => by simp at e
  | d :: ds, _, 0, _, _, x, e, e2 => by
    cases x with
    | cons a b => simp at e e2; subst e e2; exact a
  | d :: ds, _, j + 1, _, _, x, e, e2 => by
    cases x with
    | cons a b => exact KIs.get b (by simpa using e) (by simpa using e2)
theorem shPs_len : ∀ {ss : List Sh} {ds : List PyData}, shPs ss ds = true → ds.length = ss.length
  | [], ds, h => by rw [shPs_nil h]; rfl
  | s :: ss, ds, h => by
    obtain ⟨d, r, rfl, _, h2⟩ := shPs_cons h
    rw [List.length_cons, List.length_cons, shPs_len h2]
theorem shPs_get : ∀ {ss : List Sh} {ds : List PyData} {j : Nat} {d : PyData}, shPs ss ds = true → ds[j]? = some d → ∃ s, ss[j]? = some s ∧ shP s d = true
  | [], ds, j, d, h, e => by rw [shPs_nil h] at e; simp at e
  | s :: ss, ds, 0, d, h, e => by
    obtain ⟨x, r, rfl, h1, h2⟩ := shPs_cons h
    simp at e; subst e
    exact ⟨s, rfl, h1⟩
  | s :: ss, ds, j + 1, d, h, e => by
    obtain ⟨x, r, rfl, h1, h2⟩ := shPs_cons h
    obtain ⟨t, e1, e2⟩ := shPs_get (j := j) h2 (by simpa using e)
    exact ⟨t, by simpa using e1, e2⟩
theorem depth_le : ∀ {ss : List NestedKey} {j : Nat} {k : NestedKey}, ss[j]? = some k → k.depth ≤ NestedKey.depthAll ss
  | [], _, _, e => by simp at e
  | x :: xs, 0, k, e => by simp at e; subst e; simp only [NestedKey.depthAll]; omega
  | x :: xs, j + 1, k, e => by
    have := depth_le (ss := xs) (j := j) (by simpa using e)
    simp only [NestedKey.depthAll]; omega
theorem nkPs_get : ∀ {ds : List PyData} {j : Nat} {d : PyData}, ds[j]? = some d → (nkPs ds)[j]? = some (nkP d)
  | [], _, _, e => by simp at e
  | x :: xs, 0, d, e => by simp at e; subst e; rfl
  | x :: xs, j + 1, d, e => by
    have := nkPs_get (ds := xs) (j := j) (by simpa using e)
    simpa [nkPs] using this
theorem ki_eq {s : Shared} {A : Around} {sh : Sh} {d e : PyData} {u v : Value} (p : shP sh d = true) (q : shP sh e = true) (x : KI s.heap d u) (y : KI s.heap e v) (hu : A.units + (nkP d).depth < cLine) : SeqAt.EqAt A s u v (decide (flatP d = flatP e)) := by
  rw [← beq_dec p q]
  exact eqAt_key (nkP d) (nkP e) A s u v x.nis y.nis (by have := depth_sh sh d e p q; omega)
theorem ki_lt (s : Shared) : ∀ (n : Nat) (sh : Sh) (d e : PyData) (A : Around) (u v : Value), (nkP d).depth ≤ n → shP sh d = true → shP sh e = true → KI s.heap d u → KI s.heap e v → A.units + n + 1 < cLine → Ob.RcOp .Lt A s u v (lexLt (flatP d) (flatP e)) := fun n => by
  induction n with
  | zero =>
    intro sh d e A u v hd p q x y hu
    cases sh with
    | num =>
      obtain ⟨i, rfl⟩ := shP_num p
      obtain ⟨j, rfl⟩ := shP_num q
      cases x; cases y
      rw [show lexLt (flatP (.int i)) (flatP (.int j)) = decide (i < j) by
        simp only [flatP, lexLt]
        by_cases c : i = j
        · subst c; rw [if_pos rfl]; simp
        · rw [if_neg c]]
      exact Ob.RcOp.lt_int _ _ _ _
    | tup ss =>
      obtain ⟨ds, rfl, p⟩ := shP_tup p
      simp [nkP, NestedKey.depth] at hd
  | succ n ih =>
    intro sh d e A u v hd p q x y hu
    cases sh with
    | num =>
      obtain ⟨i, rfl⟩ := shP_num p
      obtain ⟨j, rfl⟩ := shP_num q
      cases x; cases y
      rw [show lexLt (flatP (.int i)) (flatP (.int j)) = decide (i < j) by
        simp only [flatP, lexLt]
        by_cases c : i = j
        · subst c; rw [if_pos rfl]; simp
        · rw [if_neg c]]
      exact Ob.RcOp.lt_int _ _ _ _
    | tup ss =>
      obtain ⟨ds, rfl, p⟩ := shP_tup p
      obtain ⟨es, rfl, q⟩ := shP_tup q
      simp only [nkP, NestedKey.depth] at hd
      cases x with
      | tup x1 x2 x3 x4 =>
      cases y with
      | tup y1 y2 y3 y4 =>
      rename_i a o vs m a' o' vs' m'
      have l1 : vs.size = ds.length := by rw [← Array.length_toList]; exact x4.length
      have l2 : vs'.size = es.length := by rw [← Array.length_toList]; exact y4.length
      have l3 : ds.length = es.length := (shPs_len p).trans (shPs_len q).symm
      have dg : ∀ {j : Nat} {d : PyData}, ds[j]? = some d → (nkP d).depth ≤ n := fun h => by
        have := depth_le (nkPs_get h); omega
      have R := Ob.RcOp.tuples_lt (A := A) (s := s) (l := a) (b := a') (items := vs) (items2 := vs') (e := fun j => decide (flatP (ds.getD j .none) = flatP (es.getD j .none))) (r := fun j => lexLt (flatP (ds.getD j .none)) (flatP (es.getD j .none))) ⟨o, x1, x2, m, x3⟩ ⟨o', y1, y2, m', y3⟩ (by omega) (fun j h1 h2 => ?_) (fun j h1 h2 _ => ?_)
      · rw [l1, l2, show decide (ds.length < es.length) = false from decide_eq_false (by omega), show min ds.length es.length = ds.length by omega] at R
        rw [lexAt_flat ss ds es 0 _ _ p q (fun j d f hd hf => by
          simp only [Nat.zero_add, List.getD_eq_getElem?_getD, hd, hf, Option.getD_some]) (fun j d f hd hf _ => by
          simp only [Nat.zero_add, List.getD_eq_getElem?_getD, hd, hf, Option.getD_some])] at R
        simpa only [flatP] using R
      all_goals
        have j1 : j < ds.length := by omega
        have j2 : j < es.length := by omega
        have e1 : ds[j]? = some ds[j] := List.getElem?_eq_getElem j1
        have e2 : es[j]? = some es[j] := List.getElem?_eq_getElem j2
        have v1 : vs.toList[j]? = some vs[j] := by rw [Array.getElem?_toList]; exact Array.getElem?_eq_getElem h1
        have v2 : vs'.toList[j]? = some vs'[j] := by rw [Array.getElem?_toList]; exact Array.getElem?_eq_getElem h2
        obtain ⟨sh, s1, s2⟩ := shPs_get p e1
        obtain ⟨sh', s1', s2'⟩ := shPs_get q e2
        rw [s1] at s1'
        cases s1'
        simp only [List.getD_eq_getElem?_getD, e1, e2, Option.getD_some]
      · exact ki_eq s2 s2' (x4.get e1 v1) (y4.get e2 v2) (by have := dg e1; show A.units + 1 + _ < _; omega)
      · exact ih sh _ _ A.in1 _ _ (dg e1) s2 s2' (x4.get e1 v1) (y4.get e2 v2) (by show A.units + 1 + n + 1 < _; omega)
mutual
theorem KI.inj {h : Heap} : ∀ (d e : PyData) (v : Value), KI h d v → KI h e v → d = e
  | .int i, e, _, x, y => by
    cases x; cases y; rfl
  | .tuple ds, e, _, x, y => by
    cases x with
    | tup h1 h2 h3 h4 =>
      cases y with
      | tup g1 g2 g3 g4 =>
        rw [h1] at g1; cases g1
        rw [h3] at g3; cases g3
        rw [KIs.inj ds _ _ h4 g4]
  | .none, _, _, x, _ => by cases x
  | .bool _, _, _, x, _ => by cases x
  | .str _, _, _, x, _ => by cases x
  | .list _, _, _, x, _ => by cases x
  | .dict _, _, _, x, _ => by cases x
theorem KIs.inj {h : Heap} : ∀ (ds es : List PyData) (vs : List Value), KIs h ds vs → KIs h es vs → ds = es
  | [], es, _, x, y => by cases x; cases y; rfl
  | d :: ds, es, _, x, y => by
    cases x with
    | cons a b =>
      cases y with
      | cons a' b' => rw [KI.inj d _ _ a a', KIs.inj ds _ _ b b']
end
open Classical in
noncomputable def rdv (h : Heap) (v : Value) : List Int := if e : ∃ d, KI h d v then flatP e.choose else []
theorem rdv_eq {h : Heap} {d : PyData} {v : Value} (x : KI h d v) : rdv h v = flatP d := by
  have e : ∃ d, KI h d v := ⟨d, x⟩
  unfold rdv
  rw [dif_pos e, KI.inj _ _ _ e.choose_spec x]
theorem swo_rdv (h : Heap) : SrtO.Swo fun v u => lexLt (rdv h v) (rdv h u) := ⟨fun x y => lexLt_asym _ _, fun x y z => lexLt_tr _ _ _⟩
section
open PySem.W PyProof.Rows Srt SrtO
variable {prog : Program} {w : World} {A : Around} {E : Value → Shared → Prop} {s : Shared}
theorem katlex_of {b : Bool} {Q : Bool → Shared → Prop} {n : Nat} : ∀ (ss : List Sh) (ds es : List PyData) (xs ys : List Value) (i : Nat), shPs ss ds = true → shPs ss es = true → KIs s.heap ds xs → KIs s.heap es ys → NestedKey.depthAll (nkPs ds) ≤ n → A.units + n + 2 < cLine →
    (b = true → i = 0 → ss.head? = some .num) → Q (lexLt (flatPs ds) (flatPs es)) s → KatLex prog w A b false Q (xs.zip ys) i s
  | [], ds, es, xs, ys, i, h1, h2, x, y, _, _, _, q => by
    rw [shPs_nil h1] at x q
    rw [shPs_nil h2] at y q
    cases x; cases y
    exact kat_nil q
  | sh :: ss, ds, es, xs, ys, i, h1, h2, x, y, hd, hu, hb, q => by
    obtain ⟨d, ds, rfl, p1, p2⟩ := shPs_cons h1
    obtain ⟨e, es, rfl, q1, q2⟩ := shPs_cons h2
    cases x with
    | cons x1 x2 =>
    cases y with
    | cons y1 y2 =>
    simp only [nkPs, NestedKey.depthAll] at hd
    have q' : Q (lexLt (flatP d ++ flatPs ds) (flatP e ++ flatPs es)) s := q
    rw [lexLt_app _ _ (flat_len sh d e p1 q1).1] at q'
    refine kat_cons (ki_eq (A := A) p1 q1 x1 y1 (by omega) prog w _ _ ?_)
    refine kat_go (fun c => ?_) (fun c => ?_)
    · rw [if_pos (of_decide_eq_true c)] at q'
      exact kat_yes (katlex_of ss ds es _ _ (i + 1) p2 q2 x2 y2 (by omega) hu (fun _ h => by omega) q')
    · rw [if_neg (of_decide_eq_false c)] at q'
      refine kat_no ?_
      by_cases hb0 : b = true ∧ i = 0
      · have hn := hb hb0.1 hb0.2
        simp at hn
        subst hn
        obtain ⟨j, rfl⟩ := shP_num p1
        obtain ⟨k, rfl⟩ := shP_num q1
        cases x1; cases y1
        rw [hb0.1, hb0.2]
        refine oneLt_int ?_
        rw [show lexLt (flatP (.int j)) (flatP (.int k)) = decide (j < k) by
          simp only [flatP, lexLt]
          by_cases c : j = k
          · subst c; rw [if_pos rfl]; simp
          · rw [if_neg c]] at q'
        exact q'
      · have : (b && i == 0) = false := by
          cases hbb : b with
          | false => rfl
          | true =>
            have : i ≠ 0 := fun z => hb0 ⟨hbb, z⟩
            simpa using this
        rw [this]
        refine kat_one _ _ ?_
        exact ki_lt s (NestedKey.depth (nkP d)) sh d e A _ _ (Nat.le_refl _) p1 q1 x1 y1 (by omega) prog w _ _ q'
theorem katTups_of {h : Heap} {ss : List Sh} {sh : Sh} : ∀ (vs : List Value), (∀ v ∈ vs, ∃ d, KI h (.tuple d) v ∧ shPs (sh :: ss) d = true) → ∃ fs, KatTups h vs fs ∧ fs.length = vs.length ∧ ∀ f ∈ fs, ∃ d, KI h d f ∧ shP sh d = true
  | [], _ => ⟨[], KatTups.nil, rfl, fun f hf => by cases hf⟩
  | v :: vs, hv => by
    obtain ⟨fs, k1, k2, k3⟩ := katTups_of vs fun u hu => hv u (List.mem_cons_of_mem _ hu)
    obtain ⟨d, x, hs⟩ := hv v List.mem_cons_self
    obtain ⟨d0, dr, rfl, p1, p2⟩ := shPs_cons hs
    cases x with
    | tup h1 h2 h3 h4 =>
      rename_i a o xs n
      have l : xs.toList.length = (d0 :: dr).length := h4.length
      cases e : xs.toList with
      | nil => rw [e] at l; simp at l
      | cons f r =>
        rw [e] at h4
        cases h4 with
        | cons a1 a2 =>
          refine ⟨f :: fs, KatTups.cons h1 h2 h3 ?_ k1, by rw [List.length_cons, List.length_cons, k2], fun g hg => ?_⟩
          · rw [← Array.getElem?_toList, e]; rfl
          · rcases List.mem_cons.mp hg with z | z
            · rw [z]; exact ⟨d0, a1, p1⟩
            · exact k3 g z
theorem nest_sortable {h0 : Heap} {a : Addr} {vs : List Value} {ss : List Sh} {sh : Sh} {n : Nat} (hne : 0 < vs.length) (hv : ∀ v ∈ vs, ∃ d, KI h0 (.tuple d) v ∧ shPs (sh :: ss) d = true ∧ NestedKey.depthAll (nkPs d) ≤ n) (hu : A.units + n + 2 < cLine)
    (hk : ∀ b o, h0.get? b = some o → b ≠ a ∧ s.heap.get? b = some o) : SortableO prog w A s a vs fun v u => lexLt (rdv h0 v) (rdv h0 u) := by
  intro h' keep
  have kk : ∀ b o, h0.get? b = some o → h'.get? b = some o := fun b o e => keep b o (hk b o e).1 (hk b o e).2
  have hv' : ∀ v ∈ vs, ∃ d, KI h' (.tuple d) v ∧ shPs (sh :: ss) d = true ∧ NestedKey.depthAll (nkPs d) ≤ n ∧ rdv h0 v = flatPs d := fun v hm => by
    obtain ⟨d, x, h1, h2⟩ := hv v hm
    exact ⟨d, x.keep (fun b o _ _ e _ _ => kk b o e), h1, h2, by rw [rdv_eq x]; rfl⟩
  obtain ⟨fs, h1, h2, h3⟩ := katTups_of (h := h') vs fun v hm => by
    obtain ⟨d, x, h1, _⟩ := hv' v hm
    exact ⟨d, x, h1⟩
  have cmp : ∀ b : Bool, (b = true → sh = .num) → Cmp prog w A { s with heap := h' } (tuples' b) (fun p => p.1 ∈ vs) (lt2 fun v u => lexLt (rdv h0 v) (rdv h0 u)) := by
    intro b hb p q hm hm'
    obtain ⟨d, x, p1, p2, p3⟩ := hv' _ hm
    obtain ⟨e, y, q1, q2, q3⟩ := hv' _ hm'
    show wpAny (model prog w) A (keyLt' (tuples' b) p.1 q.1) (fun r s' => s' = { s with heap := h' } ∧ r = lexLt (rdv h0 p.1) (rdv h0 q.1)) (fun _ _ => False) { s with heap := h' }
    rw [p3, q3]
    generalize p.1 = u at x
    generalize q.1 = v at y
    cases x with
    | tup x1 x2 x3 x4 =>
    cases y with
    | tup y1 y2 y3 y4 =>
    rename_i a1 o1 vs1 n1 a2 o2 vs2 n2
    refine kat_lt x1 x3 y1 y3 ?_
    have l1 : vs1.size = d.length := by rw [← Array.length_toList]; exact x4.length
    have l2 : vs2.size = e.length := by rw [← Array.length_toList]; exact y4.length
    have l3 : d.length = e.length := (shPs_len p1).trans (shPs_len q1).symm
    rw [show decide (vs1.size < vs2.size) = false from decide_eq_false (by omega)]
    exact katlex_of (s := { s with heap := h' }) (sh :: ss) d e _ _ 0 p1 q1 x4 y4 p2 (by omega) (fun h _ => by rw [hb h]; rfl) ⟨rfl, rfl⟩
  cases sh with
  | num =>
    refine ⟨tuples' true, fun Q E hq => ?_, cmp true fun _ => rfl⟩
    refine kat_kind (s := { s with heap := h' }) (T := .type "int") h1 (by omega) (fun f hm => ?_) (by rfl) ?_
    · obtain ⟨d, x, p⟩ := h3 f hm
      obtain ⟨i, rfl⟩ := shP_num p
      cases x
      exact PySem.W.Looks.now
    · have e : (Value.type "int" != Value.type "tuple") = true := by first | decide +kernel | rfl | decide
      rw [e]; exact hq
  | tup ts =>
    refine ⟨tuples' false, fun Q E hq => ?_, cmp false fun h => by cases h⟩
    refine kat_kind (s := { s with heap := h' }) (T := .type "tuple") h1 (by omega) (fun f hm => ?_) (by rfl) ?_
    · obtain ⟨d, x, p⟩ := h3 f hm
      obtain ⟨ds, rfl, p⟩ := shP_tup p
      cases x with
      | tup g1 g2 g3 g4 =>
        rename_i b1 o1 vs1 n1
        have this : Looks (model prog w) h' (typeOf (.ref b1)) o1.cls := (PySem.W.Looks.ld g1).andThen PySem.W.Looks.now
        rw [g2] at this
        exact this
    · have e : (Value.type "tuple" != Value.type "tuple") = false := by first | decide +kernel | rfl | decide
      rw [e]; exact hq
end

/-! ### sorted, the rule -/
section
open PySem.W PyProof.Rows Srt SrtO
variable {prog : Program} {w : World} {A : Around} {E : Value → Shared → Prop} {s : Shared}
/-- sorted(l) of a list or a tuple: a new list, somewhere -/
theorem sorted_seq {l : Addr} {T : String} {ob : Obj} {vs : List Value} {n : Nat} {ltv : Value → Value → Bool} {Q : Value → Shared → Prop} (hT : T = "list" ∨ T = "tuple") (hob : s.heap.get? l = some ob) (hcls : ob.cls = .type T) (hdat : ob.data = .seq vs.toArray n) (O : Swo ltv)
    (hz : vs.length ≤ sizeLine)
    (sortable : 2 ≤ vs.length → ∀ (g : Heap) (d : Addr), (∀ b o, s.heap.get? b = some o → b ≠ d ∧ g.get? b = some o) → SortableO prog w A.in1.in1 { s with heap := g } d vs ltv)
    (fin : ∀ (g : Heap) (d : Addr) (out : List Value) (k : Nat), Srtd ltv out → Stb ltv out vs → (∀ b o, s.heap.get? b = some o → g.get? b = some o) → s.heap.get? d = none → g.get? d = some (seqObj "list" out.toArray k) → Q (.ref d) { s with heap := g }) :
    wpAny (model prog w) A (call (.builtin "sorted") [.ref l]) Q E s := by
  have hz2 : vs.toArray.size ≤ sizeLine := by rw [List.size_toArray]; exact hz
  refine Calls.call_function_entry kind_sorted plain_sorted entry_sorted (args_sorted1 _) ?_
  unfold Builtin.«sorted»
  refine wpAny_bind (m := checkCount "sorted" 1 1 _) (wpAny_pure (wpAny_bind (wpAny_collect_seq l hT hob hcls hdat (fun g1 k1 => ?_) hz2)))
  show wpAny (model prog w) _ (newList vs >>= _) _ _ _
  refine wpAny_bind (wpAny_newList ?_ hz)
  have g1l : s.heap.get? g1.objs.size = none := by
    cases e : s.heap.get? g1.objs.size with
    | none => rfl
    | some o => exact absurd (Heap.lt_size (k1 g1.objs.size o e)) (Nat.lt_irrefl _)
  have at1 : (g1.push (seqObj "list" vs.toArray 0)).get? g1.objs.size = some (seqObj "list" vs.toArray 0) := Heap.get?_push_size _ rfl
  have k2 : ∀ b o, s.heap.get? b = some o → b ≠ g1.objs.size ∧ (g1.push (seqObj "list" vs.toArray 0)).get? b = some o := fun b o e => by
    refine ⟨fun z => ?_, Heap.get?_push_of_some _ (k1 b o e)⟩
    rw [z, g1l] at e
    cases e
  refine wpAny_bind (wpAny_holding (wpAny_call_entry slot_list_sort ⟨_, at1, rfl⟩ entry_list_sort (list_sort_ord (s := { s with heap := g1.push (seqObj "list" vs.toArray 0) }) O at1 hz (fun h2 => sortable h2 _ _ k2) fun out o1 o2 => ⟨_, rfl, ?_⟩) (args_list_sort _)))
  obtain ⟨ep, here⟩ := sortedHeap_at (vs := vs) (out := out.toArray) at1
  have k3 : ∀ b o, s.heap.get? b = some o → (sortedHeap (g1.push (seqObj "list" vs.toArray 0)) g1.objs.size vs out.toArray).get? b = some o := fun b o e =>
    (sortedHeap_old (k2 b o e).1 (Heap.lt_size (k2 b o e).2)).trans (k2 b o e).2
  exact wpAny_pure ⟨_, rfl, fin _ _ out ep o1 o2 k3 g1l here⟩
theorem int_sortable {h0 : Heap} {a : Addr} {vs : List Value} (h2 : 2 ≤ vs.length) (hv : ∀ v ∈ vs, ∃ d, KI h0 d v ∧ shP .num d = true) : SortableO prog w A s a vs fun v u => lexLt (rdv h0 v) (rdv h0 u) := by
  intro h' _
  have hv' : ∀ v ∈ vs, ∃ i t, v = Value.int i t ∧ rdv h0 v = [i] := fun v hm => by
    obtain ⟨d, x, p⟩ := hv v hm
    obtain ⟨i, rfl⟩ := shP_num p
    have := rdv_eq x
    cases x
    exact ⟨i, _, rfl, this⟩
  have hI : IntsAre vs (vs.map iv) := ints_iv fun v hm => by
    obtain ⟨i, t, e, _⟩ := hv' v hm
    exact ⟨i, t, e⟩
  refine ⟨oneType', fun Q E hq => ?_, fun p q hm hm' => ?_⟩
  · match vs, hI, h2 with
    | v1 :: v2 :: rest, hI, _ =>
      rw [keyKind_ints hI]
      exact wpAny_pure hq
    | [], _, h => exact absurd h (by decide)
    | [v], _, h => exact absurd h (by simp)
  · obtain ⟨i, t, e, r⟩ := hv' _ hm
    obtain ⟨j, u, e', r'⟩ := hv' _ hm'
    show wpAny (model prog w) A (keyLt' oneType' p.1 q.1) (fun r s' => s' = { s with heap := h' } ∧ r = lexLt (rdv h0 p.1) (rdv h0 q.1)) (fun _ _ => False) { s with heap := h' }
    rw [r, r', e, e', keyLt'_oneType]
    refine oneLt_int ⟨rfl, ?_⟩
    simp only [lexLt]
    by_cases c : i = j
    · subst c; rw [if_pos rfl]; simp
    · rw [if_neg c]
end
theorem perm_lift {α β : Type} {R : α → β → Prop} {out its : List β} (p : out.Perm its) : ∀ {xs : List α}, Paired R xs its → ∃ ys, ys.Perm xs ∧ Paired R ys out := by
  induction p with
  | nil => intro xs h; cases h; exact ⟨[], .refl _, .nil⟩
  | cons x _ ih =>
    intro xs h
    cases h with
    | cons a b =>
      obtain ⟨ys, p, q⟩ := ih b
      exact ⟨_ :: ys, p.cons _, .cons a q⟩
  | swap x y l =>
    intro xs h
    cases h with
    | cons a b =>
      cases b with
      | cons a' b' => exact ⟨_ :: _ :: _, List.Perm.swap .., .cons a' (.cons a b')⟩
  | trans _ _ ih1 ih2 =>
    intro xs h
    obtain ⟨ys, p, q⟩ := ih2 h
    obtain ⟨zs, p', q'⟩ := ih1 q
    exact ⟨zs, p'.trans p, q'⟩
theorem paired_mem {α β : Type} {R : α → β → Prop} : ∀ {xs : List α} {vs : List β} {y : α}, Paired R xs vs → y ∈ xs → ∃ u, u ∈ vs ∧ R y u
  | _, _, _, .nil, h => by cases h
  | _, _, _, .cons a b, h => by
    rcases List.mem_cons.mp h with e | e
    · subst e; exact ⟨_, List.mem_cons_self, a⟩
    · obtain ⟨u, hu, r⟩ := paired_mem b e
      exact ⟨u, List.mem_cons_of_mem _ hu, r⟩
theorem paired_memr {α β : Type} {R : α → β → Prop} : ∀ {xs : List α} {vs : List β} {v : β}, Paired R xs vs → v ∈ vs → ∃ x, x ∈ xs ∧ R x v
  | _, _, _, .nil, h => by cases h
  | _, _, _, .cons a b, h => by
    rcases List.mem_cons.mp h with e | e
    · subst e; exact ⟨_, List.mem_cons_self, a⟩
    · obtain ⟨u, hu, r⟩ := paired_memr b e
      exact ⟨u, List.mem_cons_of_mem _ hu, r⟩
theorem paired_pw {α β : Type} {R : α → β → Prop} {P : α → α → Prop} {P' : β → β → Prop} {xs0 : List α} (hP : ∀ x v y u, x ∈ xs0 → y ∈ xs0 → R x v → R y u → P' v u → P x y) : ∀ {xs : List α} {vs : List β}, (∀ x ∈ xs, x ∈ xs0) → Paired R xs vs → vs.Pairwise P' → xs.Pairwise P := by
  intro xs vs hs h
  induction h with
  | nil => intro _; exact List.Pairwise.nil
  | cons a b ih =>
    intro h
    obtain ⟨h1, h2⟩ := List.pairwise_cons.mp h
    refine List.pairwise_cons.mpr ⟨fun y hy => ?_, ih (fun x hx => hs x (List.mem_cons_of_mem _ hx)) h2⟩
    obtain ⟨u, hu, r⟩ := paired_mem b hy
    exact hP _ _ _ _ (hs _ List.mem_cons_self) (hs _ (List.mem_cons_of_mem _ hy)) a r (h1 u hu)
theorem paired_map {α β γ : Type} {R : β → γ → Prop} {f : α → β} : ∀ {xs : List α} {vs : List γ}, Paired R (xs.map f) vs ↔ Paired (fun x v => R (f x) v) xs vs
  | [], vs => ⟨fun h => by cases h; exact .nil, fun h => by cases h; exact .nil⟩
  | x :: xs, vs => ⟨fun h => by cases h with | cons a b => exact .cons a (paired_map.mp b), fun h => by cases h with | cons a b => exact .cons a (paired_map.mpr b)⟩

mutual
def shDep : Sh → Nat
  | .num => 0
  | .tup ss => shDeps ss + 1
def shDeps : List Sh → Nat
  | [] => 0
  | s :: ss => max (shDep s) (shDeps ss)
end
mutual
theorem dep_nk : ∀ (s : Sh) (d : PyData), shP s d = true → (nkP d).depth = shDep s
  | .num, d, h => by
    obtain ⟨i, rfl⟩ := shP_num h
    simp [nkP, NestedKey.depth, shDep]
  | .tup ss, d, h => by
    obtain ⟨ds, rfl, h⟩ := shP_tup h
    simp only [nkP, NestedKey.depth, shDep]
    rw [deps_nk ss ds h]
theorem deps_nk : ∀ (ss : List Sh) (ds : List PyData), shPs ss ds = true → NestedKey.depthAll (nkPs ds) = shDeps ss
  | [], ds, h => by rw [shPs_nil h]; simp [nkPs, NestedKey.depthAll, shDeps]
  | s :: ss, ds, h => by
    obtain ⟨d, ds, rfl, p1, p2⟩ := shPs_cons h
    simp only [nkPs, NestedKey.depthAll, shDeps]
    rw [dep_nk s d p1, deps_nk ss ds p2]
end
mutual
theorem ki_of {X : Cx} {pins : List (Addr × Obj)} {σ : L2.St} {H : Hp} {s : Shared} (I : Inv X pins σ H s) : ∀ (sh : Sh) (d : PyData) (v : V) (u : Value), shP sh d = true → Dp X.K H v d → RelV v u → KI s.heap d u
  | .num, d, v, u, h, dp, r => by
    obtain ⟨i, rfl⟩ := shP_num h
    cases dp
    obtain ⟨t, rfl⟩ := (show ∃ t, u = Value.int i t from r)
    exact .int i t
  | .tup ss, d, v, u, h, dp, r => by
    obtain ⟨ds, rfl, h⟩ := shP_tup h
    cases dp with
    | tup hs hd =>
      cases (show u = Value.ref _ from r)
      obtain ⟨its, rv, ⟨o, ho, hc, n, hdat⟩, _⟩ := I.tuple hs
      exact .tup ho hc hdat (by simpa using kis_of I ss ds _ _ h hd rv)
theorem kis_of {X : Cx} {pins : List (Addr × Obj)} {σ : L2.St} {H : Hp} {s : Shared} (I : Inv X pins σ H s) : ∀ (ss : List Sh) (ds : List PyData) (vs : List V) (us : List Value), shPs ss ds = true → DpAll X.K H vs ds → Vals vs us → KIs s.heap ds us
  | [], ds, vs, us, h, dp, r => by
    have := shPs_nil h
    subst this
    cases dp
    cases r
    exact .nil
  | sh :: ss, ds, vs, us, h, dp, r => by
    obtain ⟨d, ds, rfl, p1, p2⟩ := shPs_cons h
    cases dp with
    | cons d1 d2 =>
      cases r with
      | cons r1 r2 => exact .cons (ki_of I sh d _ _ p1 d1 r1) (kis_of I ss ds _ _ p2 d2 r2)
end
theorem obj_there {P : Program} {w : World} {H : Hp} {h : Heap} {a : Addr} {o : HO} (x : ObjOk P w H h a o) : ∃ u, h.get? a = some u := by
  cases o with
  | lst xs => exact ⟨_, x.2.choose_spec.choose_spec.2⟩
  | tup xs =>
    obtain ⟨_, _, _, u, e, _⟩ := x
    exact ⟨u, e⟩
  | dK kvs =>
    obtain ⟨_, _, _, _, u, _, _, e, _⟩ := x
    exact ⟨u, e⟩
  | dT kvs =>
    obtain ⟨_, _, _, _, u, _, _, e, _⟩ := x
    exact ⟨u, e⟩
  | set S n =>
    obtain ⟨u, _, _, _, e, _⟩ := x
    exact ⟨u, e⟩
  | ins C dx fs => exact ⟨_, x.2.2.2.1⟩
  | own y => exact x
  | xd fs =>
    obtain ⟨_, ⟨u, _, _, e, _⟩, _⟩ := x
    exact ⟨u, e⟩
  | rng lo hi =>
    obtain ⟨_, _, _, e⟩ := x
    exact ⟨_, e⟩
  | frz ob u => exact ⟨_, x.1⟩
  | tbl ps => exact ⟨_, x⟩
  | met f y => exact ⟨_, x⟩
  | ext φ => exact x.2.1
theorem pw_short {α : Type} {P : α → α → Prop} : ∀ {M : List α}, M.length < 2 → M.Pairwise P
  | [], _ => List.Pairwise.nil
  | [x], _ => List.pairwise_singleton _ _
  | _ :: _ :: _, h => by simp at h; omega
/-- an object is laid at an address without one -/
theorem laid_at {X : Cx} {pins : List (Addr × Obj)} {σ : L2.St} {H : Hp} {s : Shared} {a : Addr} {o : HO} {h' : Heap} {t' : Nat} (I : Inv X pins σ H s) (k : ∀ b u, s.heap.get? b = some u → h'.get? b = some u) (hg : s.heap.get? a = none) (new : ObjOk X.prog X.w (upd H a o) h' a o) :
    H a = none ∧ Inv X pins σ (upd H a o) { s with heap := h', toks := t' } := by
  have ne : ∀ b u, s.heap.get? b = some u → b ≠ a := fun b u e z => by rw [z, hg] at e; cases e
  have hn : H a = none := by
    cases q : H a with
    | none => rfl
    | some u =>
      obtain ⟨o, e⟩ := obj_there (I.hok a u q)
      rw [hg] at e
      cases e
  have neH : ∀ b u, H b = some u → b ≠ a := fun b u e z => by rw [z, hn] at e; cases e
  refine ⟨hn, I.un ⟨fun b u e _ _ _ => k b u e, fun b u e _ _ _ => ⟨u.slots, k b u e⟩, fun b u e n _ => by rw [upd_ne (ne b u e)]; exact n, fun b u e _ => ⟨u, k b u e⟩, fun b xs e => by rw [upd_ne (neH b _ e)]; exact e, fun b u xs e => by rw [upd_ne (neH b _ e)]; exact e, fun b ps e => ⟨#[], by rw [upd_ne (neH b _ e), e]; simp⟩⟩ fun b u e => ?_⟩
  by_cases hb : b = a
  · subst hb; rw [upd_same] at e; cases e; exact new
  · rw [upd_ne hb] at e
    exact (I.hok b u e).stay (fun c v _ q => k c v q) (fun c q => by rw [upd_ne (neH c _ q)]; exact q) fun c xs q => by rw [upd_ne (neH c _ q)]; exact q
/-- sorted(xs), xs a list or a tuple of ints, or of tuples of one shape -/
def rSortX (K : Kf) : List V → Hp → VK → Prop := fun vs H Q => ∃ (a : Addr) (ι : Type) (L : List ι) (f : ι → V) (k : ι → PyData) (sh : Sh), vs = [V.ref a] ∧ (SqL K H a (L.map f) ∨ SqT K H a (L.map f)) ∧
  (L.length < 2 ∨ (sh ≠ .tup [] ∧ shDep sh ≤ 50 ∧ ∀ x ∈ L, shP sh (k x) = true ∧ Dp K H (f x) (k x))) ∧
  ∀ (M : List ι) (p : Addr), M.Perm L → (M.Pairwise fun x y => lexLt (flatP (k y)) (flatP (k x)) = false) → H p = none → Q (.ref p) (upd H p (.lst (M.map f)))
theorem cr_sortX {X : Cx} (hu : X.A.units + 100 < cLine) : CallR X (.builtin "sorted") (rSortX X.K) := by
  intro pins s σ H vs us Q I r h
  obtain ⟨a, ι, L, f, k, sh, rfl, hs, hL, q⟩ := h
  rw [Vals.ref1 r]
  obtain ⟨its, rv, hz, T, ob, n, hT, hob, hcls, hdat⟩ : ∃ its : List Value, Vals (L.map f) its ∧ (L.map f).length ≤ sizeLine ∧ ∃ (T : String) (ob : Obj) (n : Nat), (T = "list" ∨ T = "tuple") ∧ s.heap.get? a = some ob ∧ ob.cls = .type T ∧ ob.data = .seq its.toArray n := by
    rcases hs with hs | hs
    · obtain ⟨its, rv, hl, hz⟩ := I.list hs
      obtain ⟨o, h1, h2, n, h3⟩ := hl.isList
      exact ⟨its, rv, hz, "list", o, n, .inl rfl, h1, h2, h3⟩
    · obtain ⟨its, rv, ⟨o, h1, h2, n, h3⟩, hz⟩ := I.tuple hs
      exact ⟨its, rv, hz, "tuple", o, n, .inr rfl, h1, h2, h3⟩
  have hzi : its.length ≤ sizeLine := by rw [← rv.length]; exact hz
  have pr : Paired (fun x v => RelV (f x) v) L its := paired_map.mp rv
  refine sorted_seq hT hob hcls hdat (swo_rdv s.heap) hzi (fun h2 h₁ b kk => ?_) fun g d out ep h1 h2 kg hd he' => ?_
  · rcases hL with hL | ⟨hne, hdep, hL⟩
    · have := rv.length; rw [List.length_map] at this; omega
    · have hv : ∀ v ∈ its, ∃ d, KI s.heap d v ∧ shP sh d = true := fun v hv => by
        obtain ⟨x, hx, r⟩ := paired_memr pr hv
        exact ⟨k x, ki_of I sh (k x) (f x) v (hL x hx).1 (hL x hx).2 r, (hL x hx).1⟩
      cases sh with
      | num => exact int_sortable (s := { s with heap := h₁ }) h2 hv
      | tup ss =>
        cases ss with
        | nil => exact absurd rfl hne
        | cons s0 ss =>
          refine nest_sortable (s := { s with heap := h₁ }) (ss := ss) (sh := s0) (n := 50) (by omega) (fun v hm => ?_) (show X.A.units + 1 + 1 + 50 + 2 < cLine by omega) (fun b o e => kk b o e)
          obtain ⟨d, x, p⟩ := hv v hm
          obtain ⟨ds, rfl, p⟩ := shP_tup p
          refine ⟨ds, x, p, ?_⟩
          rw [deps_nk _ _ p]
          have : shDeps (s0 :: ss) + 1 ≤ 50 := hdep
          omega
  · obtain ⟨M, m1, m2⟩ := perm_lift h2.perm pr
    have hlen : (M.map f).length ≤ sizeLine := by rw [List.length_map, m1.length_eq]; rw [List.length_map] at hz; exact hz
    obtain ⟨hn, J⟩ := laid_at (t' := s.toks) I kg hd (o := .lst (M.map f)) ⟨hlen, out, ep, paired_map.mpr m2, he'⟩
    refine ⟨.ref d, upd H d (.lst (M.map f)), J, rfl, q M d m1 ?_ hn⟩
    rcases hL with hL | ⟨hne, hdep, hL⟩
    · exact pw_short (by rw [m1.length_eq]; exact hL)
    · refine paired_pw (xs0 := M) (fun x v y u hx hy r1 r2 hlt => ?_) (fun x hx => hx) m2 h1
      have k1 := ki_of I sh (k x) (f x) v (hL x (m1.mem_iff.mp hx)).1 (hL x (m1.mem_iff.mp hx)).2 r1
      have k2 := ki_of I sh (k y) (f y) u (hL y (m1.mem_iff.mp hy)).1 (hL y (m1.mem_iff.mp hy)).2 r2
      have hlt : lexLt (rdv s.heap u) (rdv s.heap v) = false := hlt
      rw [rdv_eq k1, rdv_eq k2] at hlt
      exact hlt
/-! ### .. upon data -/
abbrev flatD (d : D) : List Int := flatP d.py
abbrev shD (s : Sh) (d : D) : Bool := shP s d.py
def insD (d : D) : List D → List D
  | [] => [d]
  | e :: r => if lexLt (flatD e) (flatD d) then e :: insD d r else d :: e :: r
def sortD : List D → List D
  | [] => []
  | d :: r => insD d (sortD r)
theorem insD_perm (d : D) : ∀ l : List D, (insD d l).Perm (d :: l)
  | [] => List.Perm.refl _
  | e :: r => by
    unfold insD
    split
    · exact ((insD_perm d r).cons e).trans (List.Perm.swap d e r)
    · exact List.Perm.refl _
theorem sortD_perm : ∀ l : List D, (sortD l).Perm l
  | [] => List.Perm.refl _
  | d :: r => (insD_perm d _).trans ((sortD_perm r).cons d)
abbrev SrtdD (l : List D) : Prop := l.Pairwise fun x y => lexLt (flatD y) (flatD x) = false
theorem insD_sorted (d : D) : ∀ {l : List D}, SrtdD l → SrtdD (insD d l)
  | [], _ => by simp [insD, SrtdD]
  | e :: r, h => by
    obtain ⟨h1, h2⟩ := List.pairwise_cons.mp h
    unfold insD
    split
    · rename_i hlt
      refine List.pairwise_cons.mpr ⟨fun a ha => ?_, insD_sorted d h2⟩
      rcases List.mem_cons.mp ((insD_perm d r).mem_iff.mp ha) with z | z
      · rw [z]; exact lexLt_asym _ _ hlt
      · exact h1 a z
    · rename_i hlt
      have hlt : lexLt (flatD e) (flatD d) = false := by simpa using hlt
      refine List.pairwise_cons.mpr ⟨fun a ha => ?_, h⟩
      rcases List.mem_cons.mp ha with z | z
      · rw [z]; exact hlt
      · exact lexLt_tr _ _ _ hlt (h1 a z)
theorem sortD_sorted : ∀ l : List D, SrtdD (sortD l)
  | [] => List.Pairwise.nil
  | d :: r => insD_sorted d (sortD_sorted r)
theorem py_inj {sh : Sh} {d e : D} (h1 : shD sh d = true) (h : d.py = e.py) : d = e := by
  have key : (∀ (sh : Sh) (d e : D), shD sh d = true → d.py = e.py → d = e) ∧ (∀ (ss : List Sh) (ds es : List D), shPs ss (D.pyl ds) = true → D.pyl ds = D.pyl es → ds = es) := by
    refine ⟨fun sh => ?_, fun ss => ?_⟩
    · exact py_inj1 sh
    · exact py_injs ss
  exact key.1 sh d e h1 h
where
  py_inj1 : ∀ (sh : Sh) (d e : D), shD sh d = true → d.py = e.py → d = e
  | .num, d, e, h1, h => by
    obtain ⟨i, hi⟩ := shP_num h1
    cases d <;> simp [D.py] at hi
    subst hi
    cases e <;> simp [D.py] at h
    rw [h]
  | .tup ss, d, e, h1, h => by
    obtain ⟨ps, hi, h2⟩ := shP_tup h1
    cases d <;> simp [D.py] at hi
    subst hi
    cases e <;> simp [D.py] at h
    rw [py_injs ss _ _ h2 h]
  py_injs : ∀ (ss : List Sh) (ds es : List D), shPs ss (D.pyl ds) = true → D.pyl ds = D.pyl es → ds = es
  | [], ds, es, h1, h => by
    cases ds with
    | nil => cases es with
      | nil => rfl
      | cons _ _ => simp [D.pyl] at h
    | cons _ _ => simp [D.pyl, shPs] at h1
  | s :: ss, ds, es, h1, h => by
    cases ds with
    | nil => simp [D.pyl, shPs] at h1
    | cons d r => cases es with
      | nil => simp [D.pyl] at h
      | cons e r' =>
        simp only [D.pyl, shPs, Bool.and_eq_true] at h1
        simp only [D.pyl, List.cons.injEq] at h
        rw [py_inj1 s d e h1.1 h.1, py_injs ss r r' h1.2 h.2]
theorem sortD_uniq {sh : Sh} : ∀ {l m : List D}, (∀ d ∈ l, shD sh d = true) → l.Perm m → SrtdD l → SrtdD m → l = m
  | [], m, _, p, _, _ => (List.nil_perm.mp p).symm
  | a :: l, [], _, p, _, _ => by have := p.length_eq; simp at this
  | a :: l, b :: m, hs, p, h1, h2 => by
    obtain ⟨g1, g2⟩ := List.pairwise_cons.mp h1
    obtain ⟨k1, k2⟩ := List.pairwise_cons.mp h2
    have hb : b ∈ a :: l := p.mem_iff.mpr List.mem_cons_self
    have e : a = b := by
      have ha : a ∈ b :: m := p.mem_iff.mp List.mem_cons_self
      rcases List.mem_cons.mp ha with e | e
      · exact e
      · rcases List.mem_cons.mp hb with e' | e'
        · exact e'.symm
        · have c1 := g1 b e'
          have c2 := k1 a e
          have f := lexLt_anti c2 c1
          have sa := hs a List.mem_cons_self
          have sb := hs b hb
          exact py_inj sa ((flat_len sh a.py b.py sa sb).2 f)
    subst e
    rw [sortD_uniq (sh := sh) (fun d hd => hs d (List.mem_cons_of_mem _ hd)) (List.Perm.cons_inv p) g2 k2]
def sortOk (xs : List D) : Prop := xs.length < 2 ∨ ∃ sh : Sh, sh ≠ .tup [] ∧ shDep sh ≤ 50 ∧ ∀ d ∈ xs, shD sh d = true
theorem sortOk_ints (ns : List Int) : sortOk (ns.map D.int) := .inr ⟨.num, by simp, by decide, fun d hd => by obtain ⟨n, _, rfl⟩ := List.mem_map.mp hd; rfl⟩
def sortXF : OF := fun ds Q => match ds with
  | [.lst xs] => sortOk xs ∧ Q (sortD xs)
  | [.tup xs] => sortOk xs ∧ Q (sortD xs)
  | _ => False
theorem sortXF_mono : MonoF sortXF := fun ds P Q h q => by
  unfold sortXF at *
  split at q
  · exact ⟨q.1, h _ q.2⟩
  · exact ⟨q.1, h _ q.2⟩
  · exact q.elim
theorem reps_zip {K : Kf} {rw : Option Addr} {F : Hp} : ∀ {ds : List D} {vs : List V}, Reps K rw F ds vs → ∃ L : List (V × D), L.map (·.1) = vs ∧ L.map (·.2) = ds ∧ ∀ x ∈ L, Rep K rw F x.2 x.1
  | [], _, h => by cases (show _ = [] from h); exact ⟨[], rfl, rfl, fun _ h => by cases h⟩
  | d :: ds, _, h => by
    obtain ⟨v, r, rfl, h1, t⟩ := (show ∃ v r, _ = v :: r ∧ _ ∧ _ from h)
    obtain ⟨L, e1, e2, hL⟩ := reps_zip t
    refine ⟨(v, d) :: L, by rw [List.map_cons, e1], by rw [List.map_cons, e2], fun x hx => ?_⟩
    rcases List.mem_cons.mp hx with z | z
    · subst z; exact h1
    · exact hL x z
theorem zip_reps {K : Kf} {rw : Option Addr} {F : Hp} : ∀ {L : List (V × D)}, (∀ x ∈ L, Rep K rw F x.2 x.1) → Reps K rw F (L.map (·.2)) (L.map (·.1))
  | [], _ => rfl
  | x :: L, h => ⟨x.1, _, rfl, h x List.mem_cons_self, zip_reps fun y hy => h y (List.mem_cons_of_mem _ hy)⟩
mutual
theorem sh_pure : ∀ (s : Sh) (d : D), shD s d = true → d.pure = true
  | .num, d, h => by
    obtain ⟨i, hi⟩ := shP_num h
    cases d <;> simp [D.py] at hi
    rfl
  | .tup ss, d, h => by
    obtain ⟨ps, hi, h2⟩ := shP_tup h
    cases d <;> simp [D.py] at hi
    subst hi
    exact shs_pure ss _ h2
theorem shs_pure : ∀ (ss : List Sh) (ds : List D), shPs ss (D.pyl ds) = true → D.purel ds = true
  | [], ds, h => by
    cases ds with
    | nil => rfl
    | cons _ _ => simp [D.pyl, shPs] at h
  | s :: ss, ds, h => by
    cases ds with
    | nil => rfl
    | cons d r =>
      simp only [D.pyl, shPs, Bool.and_eq_true] at h
      exact Bool.and_eq_true_iff.mpr ⟨sh_pure s d h.1, shs_pure ss r h.2⟩
end
theorem sortX_s {K : Kf} : CallF K (rSortX K) sortXF := fun Z F H ds vs Q b reps q => by
  have key : ∀ (xs : List D) (a : Addr) (us : List V), (SqL K H a us ∨ SqT K H a us) → Reps K Z.rw F xs us → sortOk xs → (∀ p vs, H p = none → Reps K Z.rw F (sortD xs) vs → Q (.ref p) (upd H p (.lst vs))) → rSortX K [V.ref a] H Q := by
    intro xs a us hs hr hok hq
    obtain ⟨L, rfl, rfl, hL⟩ := reps_zip hr
    have fin : ∀ (sh : Sh) (M : List (V × D)) (p : Addr), (L.length < 2 ∨ ∀ d ∈ L.map (·.2), shD sh d = true) → M.Perm L → (M.Pairwise fun x y => lexLt (flatP y.2.py) (flatP x.2.py) = false) → H p = none → Q (.ref p) (upd H p (.lst (M.map (·.1)))) := by
      intro sh M p hsh hp hsrt hnone
      refine hq p _ hnone ?_
      have e : sortD (L.map (·.2)) = M.map (·.2) := by
        rcases hsh with h | h
        · have eM : M = L := by
            cases L with
            | nil => exact List.Perm.eq_nil hp
            | cons x r =>
              cases r with
              | nil => exact List.perm_singleton.mp hp
              | cons y r => simp at h; omega
          rw [eM]
          cases L with
          | nil => rfl
          | cons x r =>
            cases r with
            | nil => rfl
            | cons y r => simp at h; omega
        · exact sortD_uniq (sh := sh) (fun d hd => h d ((sortD_perm _).mem_iff.mp hd)) ((sortD_perm _).trans (hp.map (·.2)).symm) (sortD_sorted _) (List.pairwise_map.mpr hsrt)
      rw [e]
      exact zip_reps fun x hx => hL x (hp.mem_iff.mp hx)
    rcases hok with hok | ⟨sh, h1, h2, h3⟩
    · exact ⟨a, V × D, L, (·.1), fun x => x.2.py, .num, rfl, hs, .inl (by simpa using hok), fun M p hp hsrt hn => fin .num M p (.inl (by simpa using hok)) hp hsrt hn⟩
    · refine ⟨a, V × D, L, (·.1), fun x => x.2.py, sh, rfl, hs, .inr ⟨h1, h2, fun x hx => ?_⟩, fun M p hp hsrt hn => fin sh M p (.inr h3) hp hsrt hn⟩
      have hx3 := h3 x.2 (List.mem_map_of_mem hx)
      exact ⟨hx3, dp_of b x.2 x.1 (sh_pure sh x.2 hx3) (hL x hx)⟩
  unfold sortXF at q
  split at q
  · obtain ⟨v, rfl, r⟩ := reps.one
    obtain ⟨a, us, rfl, e1, e2, _⟩ := r.lst b
    exact key _ a us (.inl (SqL.of e1)) e2 q.1 fun p vs hn hr => q.2 p vs hn hr
  · obtain ⟨v, rfl, r⟩ := reps.one
    obtain ⟨a, us, rfl, e1, e2, _⟩ := r.tup b
    exact key _ a us (.inr e1) e2 q.1 fun p vs hn hr => q.2 p vs hn hr
  · exact q.elim
theorem u100 {k : Nat} {A : Around} (r : Room k A) : A.units + 100 < cLine := by have := r.un; omega

/-! ### sorted(set(xs)) -/
section
variable {X : Cx} {es : List Expr} {e : Expr}
/-- set of a tuple of ints -/
def rSetI (K : Kf) (w : World) : List V → Hp → VK → Prop := fun vs H Q => ∃ (a : Addr) (ns : List Int), vs = [V.ref a] ∧ SqT K H a (ns.map V.int) ∧ ns.length < 64 ∧
  ∀ (b : Addr) (c : Nat), H b = none → c < 64 → Q (.ref b) (upd H b (SetO w b (fun j => decide (j ∈ ns)) c))
theorem cr_setI (hc : X.calm = true) : CallR X (.type "set") (rSetI X.K X.w) := fun pins s σ H vs us Q I r h => by
  obtain ⟨a, ns, rfl, hs, hn, q⟩ := h
  rw [Vals.ref1 r]
  obtain ⟨its, rv, pt, hz⟩ := I.tuple hs
  have hi : IntsAre its.toArray.toList ns := ints_of_vals rv
  exact call_set_tupI ns (I.ok.hd hc) (show s.heap.IsTuple a its.toArray from pt) hi (by unfold scanBound; omega) fun h' tk c R hcn k =>
    ⟨.ref s.heap.objs.size, _, I.laid (t' := tk) k (Nat.le_refl _) (setO_new R), rfl, q _ c (I.hok.fresh (Nat.le_refl _)) (Nat.lt_of_le_of_lt hcn hn)⟩
/-- one call upon the value of another -/
def rThen (r1 r2 : List V → Hp → VK → Prop) : List V → Hp → VK → Prop := fun vs H Q => r1 vs H fun v H2 => r2 [v] H2 Q
/-- a new list, one object having been made ahead of it -/
def CallF2 (K : Kf) (r : List V → Hp → VK → Prop) (o : OF) : Prop := ∀ (Z : Zs) (F H : Hp) (ds : List D) (vs : List V) (Q : VK), Base K Z F H → RepPs K Z.rw F H ds vs →
  (o ds fun es => ∀ H1 p us, Gr K Z F H F H1 → H1 p = none → Reps K Z.rw F es us → Q (.ref p) (upd H1 p (.lst us))) → r vs H Q
theorem F.call2 {r : List V → Hp → VK → Prop} {o : OF} {f : SA} (hs : CallF2 X.K r o) (mo : MonoF o) (ha : Ap X es f) (h : PA X es (TQof X.K f) → PE X e (tCB r (TQof X.K f))) : F X e (callF o f) :=
  ⟨fun ρ P Q h q => ha.mono ρ _ _ (fun x hx => mo x _ _ h hx) q, PE.weak (h ha.run) fun σ H Q ⟨Z, F, ρ, r, q⟩ => ⟨Z, F, ρ, r, ha.mono ρ _ _ (fun ds hd vs F1 H1 g1 rp => hs Z F1 H1 ds vs Q g1.b rp (mo _ _ _ (fun es hd H2 p us g2 hp reps =>
    hd p us F1 _ ((g1.trans g2).trans (g2.b.lay0 hp)) (back_none r.base (g1.trans g2) hp) (fresh_of r (g1.trans g2) hp) upd_same reps) hd)) q⟩⟩
end
def insI (x : Int) : List Int → List Int
  | [] => [x]
  | y :: r => if x < y then x :: y :: r else if x = y then y :: r else y :: insI x r
/-- ascending, each once -/
def setL : List Int → List Int
  | [] => []
  | x :: r => insI x (setL r)
theorem mem_insI {x z : Int} : ∀ {l : List Int}, z ∈ insI x l ↔ z = x ∨ z ∈ l
  | [] => by simp [insI]
  | y :: r => by
    unfold insI
    split
    · simp
    · split
      · rename_i h1 h2
        subst h2
        simp
      · rw [List.mem_cons, mem_insI, List.mem_cons]
        constructor
        · rintro (h | h | h)
          · exact .inr (.inl h)
          · exact .inl h
          · exact .inr (.inr h)
        · rintro (h | h | h)
          · exact .inr (.inl h)
          · exact .inl h
          · exact .inr (.inr h)
theorem mem_setL {z : Int} : ∀ {l : List Int}, z ∈ setL l ↔ z ∈ l
  | [] => by simp [setL]
  | x :: r => by show z ∈ insI x (setL r) ↔ _; rw [mem_insI, mem_setL, List.mem_cons]
theorem insI_asc {x : Int} : ∀ {l : List Int}, l.Pairwise (· < ·) → (insI x l).Pairwise (· < ·)
  | [], _ => List.pairwise_singleton _ _
  | y :: r, h => by
    obtain ⟨h1, h2⟩ := List.pairwise_cons.mp h
    unfold insI
    split
    · rename_i hx
      refine List.pairwise_cons.mpr ⟨fun z hz => ?_, h⟩
      rcases List.mem_cons.mp hz with e | e
      · rw [e]; exact hx
      · exact Int.lt_trans hx (h1 z e)
    · split
      · exact h
      · refine List.pairwise_cons.mpr ⟨fun z hz => ?_, insI_asc h2⟩
        rcases mem_insI.mp hz with e | e
        · rw [e]; omega
        · exact h1 z e
theorem setL_asc : ∀ l : List Int, (setL l).Pairwise (· < ·)
  | [] => List.Pairwise.nil
  | _ :: r => insI_asc (setL_asc r)
theorem asc_ext : ∀ {l m : List Int}, l.Pairwise (· < ·) → m.Pairwise (· < ·) → (∀ z, z ∈ l ↔ z ∈ m) → l = m
  | [], [], _, _, _ => rfl
  | [], b :: m, _, _, h => absurd ((h b).mpr List.mem_cons_self) (by simp)
  | a :: l, [], _, _, h => absurd ((h a).mp List.mem_cons_self) (by simp)
  | a :: l, b :: m, h1, h2, h => by
    obtain ⟨g1, g2⟩ := List.pairwise_cons.mp h1
    obtain ⟨k1, k2⟩ := List.pairwise_cons.mp h2
    have e : a = b := by
      rcases List.mem_cons.mp ((h a).mp List.mem_cons_self) with c | c
      · exact c
      · rcases List.mem_cons.mp ((h b).mpr List.mem_cons_self) with c' | c'
        · exact c'.symm
        · have := k1 a c
          have := g1 b c'
          omega
    subst e
    rw [asc_ext g2 k2 fun z => ?_]
    constructor
    · intro hz
      rcases List.mem_cons.mp ((h z).mp (List.mem_cons_of_mem _ hz)) with c | c
      · have := g1 z hz; omega
      · exact c
    · intro hz
      rcases List.mem_cons.mp ((h z).mpr (List.mem_cons_of_mem _ hz)) with c | c
      · have := k1 z hz; omega
      · exact c
section
variable {X : Cx}
theorem bt_set : bootBuiltins "set" = some (.type "set") := by decide +kernel
/-- the tuple or list has ints, fewer than 64 -/
def sortSetF : OF := fun ds Q => match ds with
  | [.tup xs] => ∃ ns : List Int, xs = ns.map D.int ∧ ns.length < 64 ∧ Q ((setL ns).map D.int)
  | _ => False
theorem sortSetF_mono : MonoF sortSetF := fun ds P Q h q => by
  unfold sortSetF at *
  split at q
  · obtain ⟨ns, e, c, q⟩ := q
    exact ⟨ns, e, c, h _ q⟩
  · exact q.elim
theorem sortSet_s {K : Kf} {w : World} : CallF2 K (rThen (rSetI K w) (rSortedSet w)) sortSetF := fun Z F H ds vs Q b reps q => by
  unfold sortSetF at q
  split at q
  · obtain ⟨ns, rfl, hn, q⟩ := q
    obtain ⟨v, rfl, r⟩ := reps.one
    obtain ⟨a, us, rfl, e1, e2, _⟩ := r.tup b
    rw [Reps.ints e2] at e1
    refine ⟨a, ns, rfl, e1, hn, fun c n hc hn64 => ⟨c, _, n, rfl, upd_same, hn64, fun ms p h1 h2 _ hp => ?_⟩⟩
    have e : ms = setL ns := asc_ext h1 (setL_asc ns) fun z => by rw [h2, decide_eq_true_eq, mem_setL]
    rw [e]
    exact q _ p _ (b.lay0 hc) hp Reps.of_ints
  · exact q.elim
end
section
variable {X : Cx} {e : Expr}
theorem pe_then {r1 r2 : List V → Hp → VK → Prop} {t : TA} {x : Str} {id : String} {p pos : Pos} (hc : CallR X (.builtin id) r2) (hg : Gl X x) (hm : X.mg x = none) (hv : bootBuiltins x = some (.builtin id)) (h : PE X e (tCB r1 t)) (hn : x ≠ "__name__" := by decide) (hdb : (x == ("__debug__" : Str)) = false := by decide)
    (he : starEach [e] X.env = (false, eval e X.env) :: starEach [] X.env := by rfl) (hpl : (backTo pos (starEach [] X.env)).any (·.1) = false := by rfl) : PE X (.Call (.Name x p) [e] [] pos) (tCB (rThen r1 r2) t) := by
  have k : PE X (.Call (.Name x p) [e] [] pos) (tCB r2 (tCons (tCB r1 t) tNil)) := pe_callB hc hg hm hv (pa_cons h pa_nil he) hn hdb he hpl
  exact k
end
/-! ### dicts of one's own: keys -/
section
variable {X : Cx} {pins : List (Addr × Obj)} {σ : L2.St} {H : Hp} {s : Shared}
mutual
theorem nis_of (I : Inv X pins σ H s) {Z : Zs} {F : Hp} (b : Base X.K Z F H) : ∀ (d : D) (v : V) (u : Value), nkI (nkD d) = true → Rep X.K Z.rw F d v → RelV v u → NestedIs s.heap (nkD d) u
  | .int i, v, u, _, h, r => by
    cases (show v = .int i from h)
    obtain ⟨t, rfl⟩ := r
    exact .int _ _
  | .tup ds, v, u, p, h, r => by
    obtain ⟨a, vs, rfl, e1, e2⟩ := (show ∃ a vs, v = V.ref a ∧ SqT _ F a vs ∧ Reps _ _ _ ds vs from h)
    obtain rfl : u = .ref a := r
    obtain ⟨its, rv, ⟨o, h1, h2, n, h3⟩, _⟩ := I.tuple (sqt_ex b.fh e1)
    exact .tup h1 h2 h3 (niss_of I b ds vs its p e2 rv)
  | .non, _, _, p, _, _ => nomatch p
  | .bl _, _, _, p, _, _ => nomatch p
  | .str _, _, _, p, _, _ => nomatch p
  | .lst _, _, _, p, _, _ => nomatch p
  | .row, _, _, p, _, _ => nomatch p
  | .ty _, _, _, p, _, _ => nomatch p
theorem niss_of (I : Inv X pins σ H s) {Z : Zs} {F : Hp} (b : Base X.K Z F H) : ∀ (ds : List D) (vs : List V) (us : List Value), nkIs (nkDs ds) = true → Reps X.K Z.rw F ds vs → Vals vs us → NestedAll s.heap (nkDs ds) us
  | [], vs, us, _, h, r => by
    cases (show vs = [] from h)
    cases r
    exact .nil
  | d :: ds, vs, us, p, h, r => by
    obtain ⟨v, t, rfl, h1, h2⟩ := (show ∃ v r, vs = v :: r ∧ Rep _ _ _ d v ∧ Reps _ _ _ ds r from h)
    cases r with
    | cons r1 r2 =>
      have p' := Bool.and_eq_true_iff.mp (show (nkI (nkD d) && nkIs (nkDs ds)) = true from p)
      exact .cons (nis_of I b d v _ p'.1 h1 r1) (niss_of I b ds t _ p'.2 h2 r2)
end
mutual
theorem hash_any (w w' : World) : ∀ k : NestedKey, nkI k = true → k.hash w = k.hash w'
  | .num i, _ => rfl
  | .tup ks, p => by
    show reduceHash (Builtin.Tuple.tupleHashOf (NestedKey.hashes w ks)) = reduceHash (Builtin.Tuple.tupleHashOf (NestedKey.hashes w' ks))
    rw [hashes_any w w' ks p]
  | .none, p => nomatch p
  | .text _, p => nomatch p
theorem hashes_any (w w' : World) : ∀ ks : List NestedKey, nkIs ks = true → NestedKey.hashes w ks = NestedKey.hashes w' ks
  | [], _ => rfl
  | k :: ks, p => by
    have p' := Bool.and_eq_true_iff.mp (show (nkI k && nkIs ks) = true from p)
    show k.hash w :: NestedKey.hashes w ks = k.hash w' :: NestedKey.hashes w' ks
    rw [hash_any w w' k p'.1, hashes_any w w' ks p'.2]
end
theorem nkOk_i {k : NestedKey} (h : nkOk k = true) : nkI k = true ∧ k.depth ≤ 8 := by
  unfold nkOk at h
  rw [Bool.and_eq_true, decide_eq_true_eq] at h
  exact h
theorem DTup.ok {K : Kf} {rw : Option Addr} {F : Hp} : ∀ {kvs : List (D × D)} {xs : List (NestedKey × Addr × Value)}, DTup nkD K rw F kvs xs → ∀ x ∈ xs, nkOk x.1 = true
  | [], _, h, x, hx => by cases (show _ = [] from h); cases hx
  | _ :: _, _, ⟨b, v, u, t, e1, e0, e2, e3, e4, e5⟩, x, hx => by
    subst e1
    rcases List.mem_cons.mp hx with rfl | hx
    · exact e0
    · exact DTup.ok e5 x hx
theorem DTup.length {K : Kf} {rw : Option Addr} {F : Hp} : ∀ {kvs : List (D × D)} {xs : List (NestedKey × Addr × Value)}, DTup nkD K rw F kvs xs → xs.length = kvs.length
  | [], _, h => by cases (show _ = [] from h); rfl
  | _ :: _, _, ⟨b, v, u, t, e1, e0, e2, e3, e4, e5⟩ => by subst e1; rw [List.length_cons, List.length_cons, DTup.length e5]
theorem DTup.is (I : Inv X pins σ H s) {Z : Zs} {F : Hp} (b : Base X.K Z F H) : ∀ {kvs : List (D × D)} {xs : List (NestedKey × Addr × Value)}, DTup nkD X.K Z.rw F kvs xs → ∀ x ∈ xs, (nestedKind X.prog X.w).is s.heap x.1 x.2.1
  | [], _, h, x, hx => by cases (show _ = [] from h); cases hx
  | kd :: _, _, ⟨c, v, u, t, e1, e0, e2, e3, e4, e5⟩, x, hx => by
    subst e1
    rcases List.mem_cons.mp hx with rfl | hx
    · exact ⟨nis_of I b kd.1 _ _ (nkOk_i e0).1 e2 rfl, (nkOk_i e0).2⟩
    · exact DTup.is I b e5 x hx
theorem entries_any {P P' : Program} {w w' : World} {xs : List (NestedKey × Addr × Value)} (h : ∀ x ∈ xs, nkOk x.1 = true) : xs.map (entryOfKey (nestedKind P w)) = xs.map (entryOfKey (nestedKind P' w')) :=
  List.map_congr_left fun x hx => by
    show (⟨x.1.hash w, .ref x.2.1, x.2.2⟩ : DictEntry) = ⟨x.1.hash w', .ref x.2.1, x.2.2⟩
    rw [hash_any w w' x.1 (nkOk_i (h x hx)).1]
theorem dko_at (I : Inv X pins σ H s) {Z : Zs} {F : Hp} (b : Base X.K Z F H) {a : Addr} {kvs : List (D × D)} {xs : List (NestedKey × Addr × Value)} (e : H a = some (DkO a xs)) (h : DTup nkD X.K Z.rw F kvs xs) :
    s.heap.DictOfH (nestedKind X.prog X.w) a xs ∧ (a == sysModules) = false := by
  have x : ObjOk X.prog X.w H s.heap a (DkO a xs) := I.hok a _ e
  obtain ⟨o, es, ep, h1, h2, h3, h4, h5, h6⟩ := (show (∃ o es ep, s.heap.get? a = some o ∧ o.ExactDict ∧ o.data = .dict es ep ∧ (∀ (P : Program) (w : World), es.toList = xs.map (entryOfKey (nestedKind P w))) ∧ (xs.map (·.1)).Nodup ∧ (a == sysModules) = false) from x.1)
  exact ⟨⟨o, es, ep, h1, h2, h3, h4 _ _, DTup.is I b h, h5⟩, h6⟩
theorem dko_new {P : Program} {w : World} {H' : Hp} {h' : Heap} {a : Addr} {xs : List (NestedKey × Addr × Value)} (hok : ∀ x ∈ xs, nkOk x.1 = true) (ha : (a == sysModules) = false) (d : h'.DictOfH (nestedKind P w) a xs) : ObjOk P w H' h' a (DkO a xs) := by
  obtain ⟨o, es, ep, h1, h2, h3, h4, h5, h6⟩ := d
  refine ⟨⟨o, es, ep, h1, h2, h3, fun P' w' => h4.trans (entries_any hok), h6, ha⟩, ⟨o, h1⟩, fun g1 g2 z k => ?_⟩
  obtain ⟨o, es, ep, h1, r⟩ := z
  exact ⟨o, es, ep, k _ h1, r⟩
/-- the value at a key -/
def getK (kvs : List (D × D)) (k : D) : Option D := (kvs.find? fun kv => NestedKey.beq (nkD kv.1) (nkD k)).map (·.2)
/-- a value stored at a key -/
def putK (kvs : List (D × D)) (k v : D) : List (D × D) := if (getK kvs k).isSome then kvs.map (fun kv => if NestedKey.beq (nkD kv.1) (nkD k) = true then (kv.1, v) else kv) else kvs ++ [(k, v)]
theorem putK_len {kvs : List (D × D)} {k v : D} : (putK kvs k v).length ≤ kvs.length + 1 := by
  unfold putK
  split <;> simp
theorem DTup.get {K : Kf} {rw : Option Addr} {F : Hp} {k : D} : ∀ {kvs : List (D × D)} {xs : List (NestedKey × Addr × Value)}, DTup nkD K rw F kvs xs → match getK kvs k with
    | none => atKey xs (nkD k) = none
    | some d => ∃ p v, atKey xs (nkD k) = some p ∧ Rep K rw F d v ∧ RelV v p.2
  | [], _, h => by cases (show _ = [] from h); rfl
  | kd :: r, _, ⟨c, v, u, t, e1, e0, e2, e3, e4, e5⟩ => by
    subst e1
    have ih := DTup.get (k := k) e5
    unfold getK atKey at *
    rw [List.find?_cons, List.find?_cons]
    cases e : NestedKey.beq (nkD kd.1) (nkD k) with
    | true =>
      have : decide (nkD kd.1 = nkD k) = true := (NestedKey.decide_eq _ _).trans e
      dsimp only
      rw [this]
      exact ⟨_, v, rfl, e3, e4⟩
    | false =>
      have : decide (nkD kd.1 = nkD k) = false := (NestedKey.decide_eq _ _).trans e
      dsimp only
      rw [this]
      exact ih
theorem DTup.map {K : Kf} {rw : Option Addr} {F : Hp} {k d : D} {v : V} {u : Value} (hd : Rep K rw F d v) (hu : RelV v u) : ∀ {kvs : List (D × D)} {xs : List (NestedKey × Addr × Value)}, DTup nkD K rw F kvs xs → DTup nkD K rw F (kvs.map (fun kv => if NestedKey.beq (nkD kv.1) (nkD k) = true then (kv.1, d) else kv)) (xs.map (putAt (nkD k) u))
  | [], _, h => by cases (show _ = [] from h); rfl
  | kd :: r, _, ⟨c, v', u', t, e1, e0, e2, e3, e4, e5⟩ => by
    subst e1
    have ih := DTup.map hd hu (k := k) e5
    rw [List.map_cons, List.map_cons]
    unfold putAt
    by_cases e : nkD kd.1 = nkD k
    · have e' : NestedKey.beq (nkD kd.1) (nkD k) = true := by rw [e]; exact NestedKey.beq_self _
      rw [if_pos e', if_pos e]
      exact ⟨c, v, u, _, rfl, e0, e2, hd, hu, ih⟩
    · have e' : ¬ NestedKey.beq (nkD kd.1) (nkD k) = true := fun z => e (NestedKey.eq_of_beq _ _ z)
      rw [if_neg e', if_neg e]
      exact ⟨c, v', u', _, rfl, e0, e2, e3, e4, ih⟩
theorem DTup.snoc {K : Kf} {rw : Option Addr} {F : Hp} {k d : D} {b : Addr} {v : V} {u : Value} (hk : nkOk (nkD k) = true) (hb : Rep K rw F k (.ref b)) (hd : Rep K rw F d v) (hu : RelV v u) : ∀ {kvs : List (D × D)} {xs : List (NestedKey × Addr × Value)}, DTup nkD K rw F kvs xs → DTup nkD K rw F (kvs ++ [(k, d)]) (xs ++ [(nkD k, b, u)])
  | [], _, h => by cases (show _ = [] from h); exact ⟨b, v, u, [], rfl, hk, hb, hd, hu, rfl⟩
  | kd :: r, _, ⟨c, v', u', t, e1, e0, e2, e3, e4, e5⟩ => by
    subst e1
    exact ⟨c, v', u', _, rfl, e0, e2, e3, e4, DTup.snoc hk hb hd hu e5⟩
theorem DTup.put {K : Kf} {rw : Option Addr} {F : Hp} {k d : D} {b : Addr} {v : V} {u : Value} (hk : nkOk (nkD k) = true) (hb : Rep K rw F k (.ref b)) (hd : Rep K rw F d v) (hu : RelV v u) {kvs : List (D × D)} {xs : List (NestedKey × Addr × Value)} (h : DTup nkD K rw F kvs xs) : DTup nkD K rw F (putK kvs k d) (storedH xs (nkD k) b u) := by
  have g := h.get (k := k)
  unfold putK storedH
  cases e : getK kvs k with
  | none =>
    rw [e] at g
    dsimp only at g
    rw [g]
    exact h.snoc hk hb hd hu
  | some x =>
    rw [e] at g
    obtain ⟨p, _, e2, _⟩ := g
    rw [e2]
    exact h.map hd hu
/-! ints as keys -/
theorem nkD_int {d : D} {i : Int} (h : d = .int i) : nkD d = .num i := by subst h; rfl
theorem DInt.get {K : Kf} {rw : Option Addr} {F : Hp} {i : Int} : ∀ {kvs : List (D × D)} {vs : List (Key × V)}, DInt K rw F kvs vs → match getK kvs (.int i) with
    | none => valV vs (Sum.inl i) = none
    | some d => ∃ v, valV vs (Sum.inl i) = some v ∧ Rep K rw F d v
  | [], _, h => by cases (show _ = [] from h); rfl
  | kd :: r, _, ⟨j, v, t, e1, e2, e3, e4⟩ => by
    subst e1
    have ih := DInt.get (i := i) e4
    unfold getK at *
    rw [List.find?_cons, nkD_int e2]
    by_cases e : j = i
    · subst e
      rw [show NestedKey.beq (.num j) (nkD (.int j)) = true from decide_eq_true rfl]
      exact ⟨v, valV_pos rfl, e3⟩
    · rw [show NestedKey.beq (.num j) (nkD (.int i)) = false from decide_eq_false e]
      rw [valV_neg (p := (Sum.inl j, v)) (k := (Sum.inl i : Key)) (fun z => e (by injection z))]
      exact ih
theorem DInt.map {K : Kf} {rw : Option Addr} {F : Hp} {i : Int} {d : D} {v : V} (hd : Rep K rw F d v) : ∀ {kvs : List (D × D)} {vs : List (Key × V)}, DInt K rw F kvs vs → DInt K rw F (kvs.map (fun kv => if NestedKey.beq (nkD kv.1) (nkD (.int i)) = true then (kv.1, d) else kv)) (vs.map fun kv => if kv.1 = (Sum.inl i : Key) then (kv.1, v) else kv)
  | [], _, h => by cases (show _ = [] from h); rfl
  | kd :: r, _, ⟨j, v', t, e1, e2, e3, e4⟩ => by
    subst e1
    have ih := DInt.map hd (i := i) e4
    rw [List.map_cons, List.map_cons, nkD_int e2]
    by_cases e : j = i
    · subst e
      rw [if_pos (show NestedKey.beq (.num j) (nkD (.int j)) = true from decide_eq_true rfl), if_pos rfl]
      exact ⟨j, v, _, rfl, e2, hd, ih⟩
    · rw [if_neg (show ¬ NestedKey.beq (.num j) (nkD (.int i)) = true by rw [show NestedKey.beq (.num j) (nkD (.int i)) = false from decide_eq_false e]; decide), if_neg (fun z => e (by injection z))]
      exact ⟨j, v', _, rfl, e2, e3, ih⟩
theorem DInt.snoc {K : Kf} {rw : Option Addr} {F : Hp} {i : Int} {d : D} {v : V} (hd : Rep K rw F d v) : ∀ {kvs : List (D × D)} {vs : List (Key × V)}, DInt K rw F kvs vs → DInt K rw F (kvs ++ [(.int i, d)]) (vs ++ [(Sum.inl i, v)])
  | [], _, h => by cases (show _ = [] from h); exact ⟨i, v, [], rfl, rfl, hd, rfl⟩
  | kd :: r, _, ⟨j, v', t, e1, e2, e3, e4⟩ => by
    subst e1
    exact ⟨j, v', _, rfl, e2, e3, DInt.snoc hd e4⟩
theorem DInt.put {K : Kf} {rw : Option Addr} {F : Hp} {i : Int} {d : D} {v : V} (hd : Rep K rw F d v) {kvs : List (D × D)} {vs : List (Key × V)} (h : DInt K rw F kvs vs) : DInt K rw F (putK kvs (.int i) d) (L2.putK vs (Sum.inl i) v) := by
  have g := h.get (i := i)
  have ha := valV_any (Sum.inl i : Key) vs
  unfold putK L2.putK
  cases e : getK kvs (.int i) with
  | none =>
    rw [e] at g
    dsimp only at g
    rw [ha, g]
    exact h.snoc hd
  | some x =>
    rw [e] at g
    obtain ⟨u, e2, _⟩ := g
    rw [ha, e2]
    exact h.map hd
theorem DInt.length {K : Kf} {rw : Option Addr} {F : Hp} : ∀ {kvs : List (D × D)} {vs : List (Key × V)}, DInt K rw F kvs vs → vs.length = kvs.length
  | [], _, h => by cases (show _ = [] from h); rfl
  | _ :: _, _, ⟨j, v', t, e1, e2, e3, e4⟩ => by subst e1; rw [List.length_cons, List.length_cons, DInt.length e4]
end
/-! ### dicts keyed by tuples: rules -/
/-- at a the raw dict of xs; at b the key nk: at any state that is held -/
def DAt (X : Cx) (H : Hp) (a : Addr) (xs : List (NestedKey × Addr × Value)) : Prop := ∀ pins σ s, Inv X pins σ H s → s.heap.DictOfH (nestedKind X.prog X.w) a xs ∧ (a == sysModules) = false
def KAt (X : Cx) (H : Hp) (b : Addr) (nk : NestedKey) : Prop := nk.depth ≤ 8 ∧ ∀ pins σ s, Inv X pins σ H s → NestedIs s.heap nk (.ref b)
section
variable {X : Cx} {o i e f value : Expr} {pos pos' apos cpos : Pos} {td ty tv tx : TE}
theorem nroom (hu : X.A.units + 10 < cLine) : (nestedKind X.prog X.w).room X.A.in1 := by
  show X.A.in1.units + 8 < cLine
  rw [Around.in1_units]; omega
def tNGet (X : Cx) (td ty : TE) : TE := fun σ H Q => td σ H fun x H1 => ty σ H1 fun y H2 => ∃ a b xs nk p v, x = .ref a ∧ y = .ref b ∧ DAt X H2 a xs ∧ KAt X H2 b nk ∧ atKey xs nk = some p ∧ RelV v p.2 ∧ Q v H2
def tNIn (X : Cx) (n : Bool) (ty td : TE) : TE := fun σ H Q => ty σ H fun y H1 => td σ H1 fun x H2 => ∃ a b xs nk, x = .ref a ∧ y = .ref b ∧ DAt X H2 a xs ∧ KAt X H2 b nk ∧ Q (.bl (if n then !(atKey xs nk).isSome else (atKey xs nk).isSome)) H2
theorem pe_nget (hu : X.A.units + 10 < cLine) (ho : PE X o td) (hi : PE X i ty) (hs : NoSl i) : PE X (.Subscript o i pos) (tNGet X td ty) := by
  refine ⟨fun pins s σ H Q I h => ?_⟩
  refine subD_of PySem.F.slot_dict_getitem.lookup hs (thn (ho.run pins s σ H _ I h) fun u s1 ⟨x, H1, I1, rx, q1⟩ => thn (hi.run pins s1 σ H1 _ I1 q1) fun iv s2 ⟨y, H2, I2, ry, a, b, xs, nk, p, v, ex, ey, hd, hk, hp, rv, q2⟩ => ?_)
  subst ex ey
  obtain rfl : u = Value.ref a := rx
  obtain rfl : iv = Value.ref b := ry
  obtain ⟨dd, hsm⟩ := hd _ _ _ I2
  exact ⟨dd.typeIs, wpAny_getItem_heap (nroom hu) ⟨hk.2 _ _ _ I2, hk.1⟩ dd hp ⟨v, H2, I2.tok _, rv, q2⟩⟩
theorem pc_nin (hu : X.A.units + 10 < cLine) (hi : PE X i ty) (ho : PE X o td) : PC X .In i o (tNIn X false ty td) := by
  refine ⟨fun pins s σ H Q I h => ?_⟩
  refine thn (hi.run pins s σ H _ I h) fun iv s1 ⟨y, H1, I1, ry, q1⟩ => thn (ho.run pins s1 σ H1 _ I1 q1) fun u s2 ⟨x, H2, I2, rx, a, b, xs, nk, ex, ey, hd, hk, q2⟩ => ?_
  subst ex ey
  obtain rfl : u = Value.ref a := rx
  obtain rfl : iv = Value.ref b := ry
  obtain ⟨dd, hsm⟩ := hd _ _ _ I2
  exact wpAny_in_heap (nroom hu) ⟨hk.2 _ _ _ I2, hk.1⟩ hsm dd ⟨.bl (atKey xs nk).isSome, H2, I2.tok _, rfl, q2⟩
theorem pc_nnotin (hu : X.A.units + 10 < cLine) (hi : PE X i ty) (ho : PE X o td) : PC X .NotIn i o (tNIn X true ty td) := by
  refine ⟨fun pins s σ H Q I h => ?_⟩
  refine thn (hi.run pins s σ H _ I h) fun iv s1 ⟨y, H1, I1, ry, q1⟩ => thn (ho.run pins s1 σ H1 _ I1 q1) fun u s2 ⟨x, H2, I2, rx, a, b, xs, nk, ex, ey, hd, hk, q2⟩ => ?_
  subst ex ey
  obtain rfl : u = Value.ref a := rx
  obtain rfl : iv = Value.ref b := ry
  obtain ⟨dd, hsm⟩ := hd _ _ _ I2
  exact wpAny_notIn_heap (nroom hu) ⟨hk.2 _ _ _ I2, hk.1⟩ hsm dd ⟨.bl (!(atKey xs nk).isSome), H2, I2.tok _, rfl, q2⟩
def sNPut (X : Cx) (td ty tv : TE) : TS := fun D σ H => tv σ H fun v H1 => td σ H1 fun x H2 => ty σ H2 fun y H3 => ∃ a b xs nk, x = .ref a ∧ y = .ref b ∧ H3 a = some (DkO a xs) ∧ DAt X H3 a xs ∧ KAt X H3 b nk ∧ xs.length < big ∧ (∀ x ∈ xs, nkOk x.1 = true) ∧ nkOk nk = true ∧
  ∀ u, RelV v u → D.nx σ (upd H3 a (DkO a (storedH xs nk b u)))
theorem storedH_ok {xs : List (NestedKey × Addr × Value)} {nk : NestedKey} {b : Addr} {u : Value} (h : ∀ x ∈ xs, nkOk x.1 = true) (hk : nkOk nk = true) : ∀ x ∈ storedH xs nk b u, nkOk x.1 = true := fun x hx => by
  unfold storedH at hx
  split at hx
  · obtain ⟨y, hy, rfl⟩ := List.mem_map.mp hx
    unfold putAt
    split
    · exact h y hy
    · exact h y hy
  · rcases List.mem_append.mp hx with hx | hx
    · exact h x hx
    · rw [List.mem_singleton.mp hx]; exact hk
theorem ps_nput (hu : X.A.units + 10 < cLine) (ho : PE X o td) (hi : PE X i ty) (hv : PE X value tv) (hs : swapsWith value (some (.Subscript o i pos')) pos.line X.env = pure false) :
    PS X (.Assign [.Subscript o i pos'] value pos) (sNPut X td ty tv) := by
  refine ⟨fun pins s σ H D I h => ?_⟩
  refine wpAny_Assign_Subscript (thn (hv.run pins s σ H _ I h) fun r s1 ⟨v, H1, I1, rv, q1⟩ => thn (ho.run pins s1 σ H1 _ I1 q1) fun u s2 ⟨x, H2, I2, rx, q2⟩ => thn (hi.run pins s2 σ H2 _ I2 q2) fun iv s3 ⟨y, H3, I3, ry, a, b, xs, nk, ex, ey, eH, hd, hk, hz, hok, hnk, q3⟩ => ?_) hs
  subst ex ey
  obtain rfl : u = Value.ref a := rx
  obtain rfl : iv = Value.ref b := ry
  obtain ⟨dd, hsm⟩ := hd _ _ _ I3
  refine wpAny_setItem_heap (nroom hu) ⟨hk.2 _ _ _ I3, hk.1⟩ dd (fun h' dd' hs' => ?_) (big_line (Nat.le_of_lt hz))
  refine ⟨σ, _, d_write I3 (by rw [eH]; exact True.intro) hs' ?_ (dko_new (storedH_ok hok hnk) hsm dd'), q3 r rv⟩
  obtain ⟨o', es, ep, h1, _⟩ := dd'
  exact ⟨o', h1⟩
def tNGet2 (X : Cx) (td ty tx : TE) : TE := fun σ H Q => td σ H fun x H1 => ∃ a xs, x = .ref a ∧ DAt X H1 a xs ∧ ty σ H1 fun y H2 => tx σ H2 fun z H3 => ∃ b nk, y = .ref b ∧ DAt X H3 a xs ∧ KAt X H3 b nk ∧ match atKey xs nk with
  | some p => ∃ v, RelV v p.2 ∧ Q v H3
  | none => Q z H3
theorem dat_obj {pins : List (Addr × Obj)} {σ : L2.St} {H : Hp} {s : Shared} {a : Addr} {xs : List (NestedKey × Addr × Value)} (I : Inv X pins σ H s) (hd : DAt X H a xs) : s.TypeIs (.ref a) "dict" ∧ ∀ b, Value.ref a = .ref b → ∃ ob, s.heap.get? b = some ob ∧ ob.dict = none := by
  obtain ⟨dd, hsm⟩ := hd _ _ _ I
  refine ⟨dd.typeIs, fun b q => ?_⟩
  cases q
  obtain ⟨ob, _, _, h1, h2, _⟩ := dd
  exact ⟨ob, h1, h2.2.1⟩
theorem pe_nget2 (hu : X.A.units + 10 < cLine) (ho : PE X o td) (he : PE X e ty) (hf : PE X f tx) (m : M2 X o "get" apos e f cpos) : PE X (.Call (.Attribute o "get" apos) [e, f] [] cpos) (tNGet2 X td ty tx) := by
  refine ⟨fun pins s σ H Q I h => ?_⟩
  refine wpAny_Call_method m.base m.few m.line PySem.F.plainAttrs_dict PySem.F.slot_dict_get PySem.F.type_dict_get (thn (ho.run pins s σ H _ I h) fun u s1 ⟨x, H1, I1, rx, a, xs, ex, hd, q1⟩ => ?_)
  subst ex
  obtain rfl : u = Value.ref a := rx
  obtain ⟨t1, t2⟩ := dat_obj I1 hd
  refine ⟨t1, t2, ?_⟩
  rw [m.trees]
  refine Calls.callWith_builtin rfl (Calls.evalArgs_plain (Calls.spliced_cons (thn (he.run pins s1 σ H1 _ I1 q1) fun iv s2 ⟨y, H2, I2, ry, q2⟩ =>
    Calls.spliced_cons (thn (hf.run pins s2 σ H2 _ I2 q2) fun fv s3 ⟨z, H3, I3, rz, b, nk, ey, hd3, hk, q3⟩ => Calls.spliced_nil ?_))))
  subst ey
  obtain rfl : iv = Value.ref b := ry
  obtain ⟨dd, hsm⟩ := hd3 _ _ _ I3
  refine call_meetsIn PySem.F.slot_dict_get dd.typeIs PySem.F.entry_dict_get (PySem.F.args_dict_get_3 _ _ _) (meetsH_dict_get_default (nestedKind X.prog X.w) a b hsm fv) ⟨nroom hu, nk, xs, ⟨hk.2 _ _ _ I3, hk.1⟩, dd, ?_⟩
  cases eA : atKey xs nk with
  | some p =>
    rw [eA] at q3
    obtain ⟨v, rv, q3⟩ := q3
    exact ⟨v, H3, I3.tok _, rv, q3⟩
  | none =>
    rw [eA] at q3
    exact ⟨z, H3, I3.tok _, rz, q3⟩
theorem call_lenN : CallR X (.builtin "len") (fun vs H Q => ∃ a xs, vs = [V.ref a] ∧ DAt X H a xs ∧ xs.length ≤ big ∧ Q (.int xs.length) H) := by
  intro pins s σ H vs us Q I r h
  obtain ⟨a, xs, rfl, hd, hl, q⟩ := h
  obtain ⟨u, rfl, ru⟩ := vals1 r
  cases ru
  obtain ⟨dd, hsm⟩ := hd _ _ _ I
  have hm : s.heap.DictKeyed (nestedKind X.prog X.w) a (pairsH xs) := ⟨xs, dd, rfl⟩
  refine PyProof.Rows.call_len_slot (n := (pairsH xs).length) hm.typeIs PySem.F.slot_dict_len (fun Q' hq => len_keyed hsm hm hq) (by omega) (by rw [pairsH_length]; have := big_line hl; rw [sizeLine_eq] at this; omega) ?_
  rw [pairsH_length]
  exact ⟨.int xs.length, H, I.tok _, ⟨_, rfl⟩, q⟩
def tDNewN : TE := fun _ H Q => ∀ p, H p = none → Q (.ref p) (upd H p (DkO p []))
theorem pe_dnewN : PE X (.Dict [] [] pos) tDNewN := ⟨fun pins s σ H Q I h =>
  wpAny_Dict_empty ⟨.ref s.heap.objs.size, _, I.laid (a := s.heap.objs.size) (o := DkO s.heap.objs.size []) (t' := s.toks) (fun _ _ q => Heap.get?_push_of_some _ q) (Nat.le_refl _)
    (dko_new (fun x hx => nomatch hx) (beq_eq_false_iff_ne.mpr (Ne.symm (Nat.ne_of_lt I.big))) (Heap.DictOfH.new s.heap)), rfl, h _ (I.hok.fresh (Nat.le_refl _))⟩⟩
/-! sorted(d.keys()) -/
def ViewO (v a : Addr) : HO := .ext fun h => PySem.W.KdlKeysView h v a
def tKeys (X : Cx) (td : TE) : TE := fun σ H Q => td σ H fun x H1 => ∃ a, x = .ref a ∧ ((∃ xs, DAt X H1 a xs) ∨ ∃ kvs, H1 a = some (.dK kvs)) ∧ ∀ p, H1 p = none → Q (.ref p) (upd H1 p (ViewO p a))
theorem pe_keys (hcl : X.calm = true) (ho : PE X o td) (hbase : attributeBase o "keys" X.env (eval o X.env) = eval o X.env := by rfl) (hline : (apos.endLine == cpos.line) = true := by rfl) : PE X (.Call (.Attribute o "keys" apos) [] [] cpos) (tKeys X td) := by
  refine ⟨fun pins s σ H Q I h => ?_⟩
  refine wpAny_Call_method0_late hbase hline (thn (ho.run pins s σ H _ I h) fun v s1 ⟨x, H1, I1, r1, a, ex, hd, q⟩ => ?_)
  subst ex
  obtain rfl : v = Value.ref a := r1
  have raw : (∃ es ep, s1.heap.DictRaw a es ep) ∧ (a == sysModules) = false := by
    rcases hd with ⟨xs, hd⟩ | ⟨kvs, hd⟩
    · obtain ⟨dd, hsm⟩ := hd _ _ _ I1
      obtain ⟨es, ep, hr, _⟩ := dd.raw
      exact ⟨⟨es, ep, hr⟩, hsm⟩
    · obtain ⟨_, hsm, vs, _, dd⟩ := dk_of I1.hok hd
      obtain ⟨es, ep, hr, _⟩ := dd.raw
      exact ⟨⟨es, ep, hr⟩, hsm⟩
  obtain ⟨⟨es, ep, hr⟩, hsm⟩ := raw
  refine ⟨"dict", "dict.keys", PySem.F.plainAttrs_dict, PySem.F.slot_dict_keys, PySem.F.type_dict_keys, hr.typeIs, fun b q => ?_, Calls.callWith_builtin rfl (PySem.evalArgs_none ?_)⟩
  · cases q
    obtain ⟨ob, h1, h2, _⟩ := hr
    exact ⟨ob, h1, h2.2.1⟩
  refine call_meetsIn PySem.F.slot_dict_keys hr.typeIs PySem.F.entry_dict_keys (PySem.F.args_dict_keys_1 _) (PySem.meets_dict_keys_raw a hsm) ⟨⟨es, ep, hr⟩, ?_⟩
  refine ⟨.ref s1.heap.objs.size, _, I1.laid (a := s1.heap.objs.size) (o := ViewO s1.heap.objs.size a) (t' := s1.toks) (fun _ _ q => Heap.get?_push_of_some _ q) (Nat.le_refl _) ?_, rfl, q _ (I1.hok.fresh (Nat.le_refl _))⟩
  exact ⟨⟨_, Heap.get?_push_size _ rfl, rfl, rfl⟩, ⟨_, Heap.get?_push_size _ rfl⟩, fun h1 h2 z k => by
    obtain ⟨o, e, r⟩ := z
    exact ⟨o, k _ e, r⟩⟩
end
section
open PySem.W PyProof.Rows Srt SrtO
variable {prog : Program} {w : World} {A : Around} {E : Value → Shared → Prop} {s : Shared}
/-- sorted of what is collected from a walked thing -/
theorem sorted_src {T : String} {r d0 : Addr} {n : Nat} {P : Nat → Value → Prop} {OK : Heap → Prop} (K : KdlSrc prog w T r d0 n P OK) (hh : A.in1.handled = none) (hok : OK s.heap) (hn : n ≤ sizeLine) {vs : List Value} {ltv : Value → Value → Bool} {Q : Value → Shared → Prop} (hvs : ∀ acc : Array Value, ItemsOf P acc n → acc.toList = vs) (O : Swo ltv)
    (hz : vs.length ≤ sizeLine)
    (sortable : 2 ≤ vs.length → ∀ (g : Heap) (d : Addr) (tk : Nat), (∀ b o, s.heap.get? b = some o → b ≠ d ∧ g.get? b = some o) → SortableO prog w A.in1.in1 { s with heap := g, toks := tk } d vs ltv)
    (fin : ∀ (g : Heap) (d : Addr) (out : List Value) (k tk : Nat), Srtd ltv out → Stb ltv out vs → (∀ b o, s.heap.get? b = some o → g.get? b = some o) → s.heap.get? d = none → g.get? d = some (seqObj "list" out.toArray k) → Q (.ref d) { s with heap := g, toks := tk }) :
    wpAny (model prog w) A (call (.builtin "sorted") [.ref r]) Q E s := by
  refine Calls.call_function_entry kind_sorted plain_sorted entry_sorted (args_sorted1 _) ?_
  unfold Builtin.«sorted»
  refine wpAny_bind (m := checkCount "sorted" 1 1 _) (wpAny_pure (wpAny_bind (kdu_collect K hh hok hn (fun g1 tk acc k1 ha => ?_))))
  rw [hvs acc ha]
  show wpAny (model prog w) _ (newList vs >>= _) _ _ _
  refine wpAny_bind (wpAny_newList ?_ hz)
  have g1l : s.heap.get? g1.objs.size = none := by
    cases e : s.heap.get? g1.objs.size with
    | none => rfl
    | some o => exact absurd (Heap.lt_size (k1 g1.objs.size o e)) (Nat.lt_irrefl _)
  have at1 : (g1.push (seqObj "list" vs.toArray 0)).get? g1.objs.size = some (seqObj "list" vs.toArray 0) := Heap.get?_push_size _ rfl
  have k2 : ∀ b o, s.heap.get? b = some o → b ≠ g1.objs.size ∧ (g1.push (seqObj "list" vs.toArray 0)).get? b = some o := fun b o e => by
    refine ⟨fun z => ?_, Heap.get?_push_of_some _ (k1 b o e)⟩
    rw [z, g1l] at e
    cases e
  refine wpAny_bind (wpAny_holding (wpAny_call_entry slot_list_sort ⟨_, at1, rfl⟩ entry_list_sort (list_sort_ord (s := { s with heap := g1.push (seqObj "list" vs.toArray 0), toks := tk }) O at1 hz (fun h2 => sortable h2 _ _ tk k2) fun out o1 o2 => ⟨_, rfl, ?_⟩) (args_list_sort _)))
  obtain ⟨ep, here⟩ := sortedHeap_at (vs := vs) (out := out.toArray) at1
  have k3 : ∀ b o, s.heap.get? b = some o → (sortedHeap (g1.push (seqObj "list" vs.toArray 0)) g1.objs.size vs out.toArray).get? b = some o := fun b o e =>
    (sortedHeap_old (k2 b o e).1 (Heap.lt_size (k2 b o e).2)).trans (k2 b o e).2
  exact wpAny_pure ⟨_, rfl, fin _ _ out ep tk o1 o2 k3 g1l here⟩
end
/-- the dict at a has the keys L, in order -/
def KeysAt (X : Cx) (H : Hp) (a : Addr) (L : List (D × V)) : Prop := ∀ pins σ s, Inv X pins σ H s → ∃ es ep, s.heap.DictRaw a es ep ∧ es.size = L.length ∧ ∀ i (hi : i < es.size) x, L[i]? = some x → RelV x.2 es[i].key
def rSortK (X : Cx) : List V → Hp → VK → Prop := fun vs H Q => ∃ (p a : Addr) (L : List (D × V)) (sh : Sh), vs = [V.ref p] ∧ H p = some (ViewO p a) ∧ KeysAt X H a L ∧ L.length ≤ big ∧
  (L.length < 2 ∨ (sh ≠ .tup [] ∧ shDep sh ≤ 50 ∧ ∀ x ∈ L, shP sh x.1.py = true ∧ Dp X.K H x.2 x.1.py)) ∧
  ∀ (M : List (D × V)) (q : Addr), M.Perm L → (M.Pairwise fun x y => lexLt (flatP y.1.py) (flatP x.1.py) = false) → H q = none → Q (.ref q) (upd H q (.lst (M.map (·.2))))
theorem paired_of {R : D × V → Value → Prop} : ∀ {L : List (D × V)} {us : List Value}, us.length = L.length → (∀ (i : Nat) (x : D × V) (u : Value), L[i]? = some x → us[i]? = some u → R x u) → Paired R L us
  | [], us, h, _ => by
    cases us with
    | nil => exact .nil
    | cons _ _ => cases h
  | x :: L, us, h, hR => by
    cases us with
    | nil => cases h
    | cons u us => exact .cons (hR 0 x u rfl rfl) (paired_of (by simpa using h) fun i x u e1 e2 => hR (i + 1) x u (by simpa using e1) (by simpa using e2))
theorem cr_sortK {X : Cx} (hcl : X.calm = true) (hu : X.A.units + 100 < cLine) : CallR X (.builtin "sorted") (rSortK X) := by
  intro pins s σ H vs us Q I r h
  obtain ⟨p, a, L, sh, rfl, hp, hk, hlen, hL, q⟩ := h
  rw [Vals.ref1 r]
  have hv : PySem.W.KdlKeysView s.heap p a := (show ObjOk X.prog X.w H s.heap p (ViewO p a) from I.hok p _ hp).1
  obtain ⟨es, ep, hr, hes, hkey⟩ := hk _ _ _ I
  let its : List Value := es.toList.map (·.key)
  have hil : its.length = L.length := by show (es.toList.map _).length = _; rw [List.length_map, Array.length_toList, hes]
  have pr : Paired (fun (x : D × V) v => RelV x.2 v) L its := paired_of hil fun i x u e1 e2 => by
    have e3 : (es.toList.map (·.key))[i]? = some u := e2
    rw [List.getElem?_map, Array.getElem?_toList] at e3
    obtain ⟨en, e4, rfl⟩ := Option.map_eq_some_iff.mp e3
    obtain ⟨hi, e5⟩ := Array.getElem?_eq_some_iff.mp e4
    subst e5
    exact hkey i hi x e1
  have hzi : its.length ≤ sizeLine := by rw [hil]; exact big_line hlen
  refine sorted_src (A := X.A) (s := s) (KdlSrc.rawKeys (es := es) (ep := ep) (r := p) (d := a)) (I.ok.hd hcl) ⟨hv, hr⟩ (by rw [hes]; exact big_line hlen) (vs := its) (fun acc ha => ?_) (swo_rdv s.heap) hzi (fun h2 h₁ b tk kk => ?_) fun g d out ep' tk h1 h2 kg hd he' => ?_
  · apply List.ext_getElem?
    intro i
    obtain ⟨ha1, ha2⟩ := ha
    by_cases hi : i < es.size
    · have hia : i < acc.size := by rw [ha1]; exact hi
      obtain ⟨hi', e⟩ := ha2 i acc[i] (Array.getElem?_eq_getElem hia)
      rw [Array.getElem?_toList, Array.getElem?_eq_getElem hia, e]
      show _ = (es.toList.map (·.key))[i]?
      rw [List.getElem?_map, Array.getElem?_toList, Array.getElem?_eq_getElem hi']; rfl
    · rw [List.getElem?_eq_none (by rw [Array.length_toList, ha1]; omega), List.getElem?_eq_none (by rw [hil, ← hes]; omega)]
  · rcases hL with hL | ⟨hne, hdep, hL⟩
    · omega
    · have hv : ∀ v ∈ its, ∃ d, KI s.heap d v ∧ shP sh d = true := fun v hv => by
        obtain ⟨x, hx, r⟩ := paired_memr pr hv
        exact ⟨x.1.py, ki_of I sh x.1.py x.2 v (hL x hx).1 (hL x hx).2 r, (hL x hx).1⟩
      cases sh with
      | num => exact int_sortable (s := { s with heap := h₁, toks := tk }) h2 hv
      | tup ss =>
        cases ss with
        | nil => exact absurd rfl hne
        | cons s0 ss =>
          refine nest_sortable (s := { s with heap := h₁, toks := tk }) (ss := ss) (sh := s0) (n := 50) (by omega) (fun v hm => ?_) (show X.A.units + 1 + 1 + 50 + 2 < cLine by omega) (fun b o e => kk b o e)
          obtain ⟨d, x, p⟩ := hv v hm
          obtain ⟨ds, rfl, p⟩ := shP_tup p
          refine ⟨ds, x, p, ?_⟩
          rw [deps_nk _ _ p]
          have : shDeps (s0 :: ss) + 1 ≤ 50 := hdep
          omega
  · obtain ⟨M, m1, m2⟩ := perm_lift h2.perm pr
    have hlM : (M.map (·.2)).length ≤ sizeLine := by rw [List.length_map, m1.length_eq]; exact big_line hlen
    obtain ⟨hn, J⟩ := laid_at (t' := tk) I kg hd (o := .lst (M.map (·.2))) ⟨hlM, out, ep', paired_map.mpr m2, he'⟩
    refine ⟨.ref d, upd H d (.lst (M.map (·.2))), J, rfl, q M d m1 ?_ hn⟩
    rcases hL with hL | ⟨hne, hdep, hL⟩
    · exact pw_short (by rw [m1.length_eq]; exact hL)
    · refine paired_pw (xs0 := M) (fun x v y u hx hy r1 r2 hlt => ?_) (fun x hx => hx) m2 h1
      have k1 := ki_of I sh x.1.py x.2 v (hL x (m1.mem_iff.mp hx)).1 (hL x (m1.mem_iff.mp hx)).2 r1
      have k2 := ki_of I sh y.1.py y.2 u (hL y (m1.mem_iff.mp hy)).1 (hL y (m1.mem_iff.mp hy)).2 r2
      have hlt : lexLt (rdv s.heap u) (rdv s.heap v) = false := hlt
      rw [rdv_eq k1, rdv_eq k2] at hlt
      exact hlt
/-! ### dicts of one's own: meanings -/
theorem PE.or {X : Cx} {e : Expr} {t t' : TE} (h : PE X e t) (h' : PE X e t') : PE X e (fun σ H Q => t σ H Q ∨ t' σ H Q) := ⟨fun pins s σ H Q I q => q.elim (h.run pins s σ H Q I) (h'.run pins s σ H Q I)⟩
theorem PS.or {X : Cx} {st : Stmt} {t t' : TS} (h : PS X st t) (h' : PS X st t') : PS X st (fun D σ H => t D σ H ∨ t' D σ H) := ⟨fun pins s σ H D I q => q.elim (h.run pins s σ H D I) (h'.run pins s σ H D I)⟩
/-- a key fits a dict: an int, or a tuple of ints, nested -/
def kfit : Bool → D → Bool
  | true, .int _ => true
  | false, .tup ds => nkOk (nkD (.tup ds))
  | _, _ => false
theorem kfit_int {k : D} (h : kfit true k = true) : ∃ i, k = .int i := by
  cases k with
  | int i => exact ⟨i, rfl⟩
  | _ => cases h
theorem kfit_tup {k : D} (h : kfit false k = true) : (∃ ds, k = .tup ds) ∧ nkOk (nkD k) = true := by
  cases k with
  | tup ds => exact ⟨⟨ds, rfl⟩, h⟩
  | _ => cases h
section
variable {X : Cx} {Z : Zs} {F H : Hp} {ρ : REnv} {σ : L2.St} {e a b c i e1 e2 : Expr} {f g : SE} {pos pos' apos cpos : Pos} {st : Stmt}
theorem R.dicAt {K : Kf} (r : R K Z F ρ σ H) {n : Nat} {b : Bool} {kvs : List (D × D)} (h : ρ[n]? = some (some (.dic b kvs))) : ∃ a o, σ[n]? = some (some (.ref a)) ∧ H a = some o ∧ DicR K Z.rw F a b kvs o ∧ Z.rw ≠ some a := by
  obtain ⟨a, o, e1, e2, e3, _, _, e6⟩ := r.slot n _ h
  exact ⟨a, o, e1, e2, e3, e6⟩
theorem tup_ref {K : Kf} {rw : Option Addr} {F : Hp} {k : D} {v : V} (h : ∃ ds, k = .tup ds) (r : Rep K rw F k v) : ∃ b, v = .ref b := by
  obtain ⟨ds, rfl⟩ := h
  obtain ⟨a, vs, e, _⟩ := (show ∃ a vs, v = V.ref a ∧ SqT _ F a vs ∧ Reps _ _ _ ds vs from r)
  exact ⟨a, e⟩
theorem kat_of {Z : Zs} {F H : Hp} (b : Base X.K Z F H) {k : D} {c : Addr} (hk : nkOk (nkD k) = true) (r : Rep X.K Z.rw F k (.ref c)) : KAt X H c (nkD k) := ⟨(nkOk_i hk).2, fun _ _ _ I => nis_of I b k _ _ (nkOk_i hk).1 r rfl⟩
/-- d[k] -/
def dgetE (n : Nat) (f : SE) : SE := fun ρ Q => match ρ[n]? with
  | some (some (.dic b kvs)) => f ρ fun k => kfit b k = true ∧ match getK kvs k with
    | some d => Q d
    | none => False
  | _ => False
theorem dgetE_mono {n : Nat} (mf : MonoE f) : MonoE (dgetE n f) := fun ρ P Q h q => by
  unfold dgetE at *
  split at q
  · exact mf ρ _ _ (fun k hk => ⟨hk.1, by
      have := hk.2
      split at this
      · exact h _ this
      · exact this.elim⟩) q
  · exact q.elim
theorem E.dget {n : Nat} (hu : X.A.units + 10 < cLine) (hd : PE X a (tVar n)) (hk : E X b f) (hs : NoSl b) : E X (.Subscript a b pos) (dgetE n f) := ⟨dgetE_mono hk.mono, PE.weak (PE.or (pe_dget (by omega) hd hk.run hs) (pe_nget hu hd hk.run hs)) fun σ H Q ⟨Z, F, ρ, r, q⟩ => by
  unfold dgetE at q
  split at q
  · rename_i bb kvs hn
    obtain ⟨x, o, e1, e2, ⟨hl, e3⟩, e6⟩ := r.dicAt hn
    cases bb with
    | true =>
      obtain ⟨vs, rfl, hI⟩ := e3
      refine .inl ⟨_, e1, Z, F, ρ, r, hk.mono ρ _ _ (fun k hk' v F' H' g rep => ?_) q⟩
      obtain ⟨hf, hg⟩ := hk'
      obtain ⟨j, rfl⟩ := kfit_int hf
      obtain rfl : v = .int j := rep
      have hI' := (hI.ex g.f).get (i := j)
      split at hg
      · rename_i d hd'
        rw [hd'] at hI'
        obtain ⟨u, eu, ru⟩ := hI'
        exact ⟨x, u, rfl, .inl ⟨vs, Sum.inl j, .inl (g.h x _ e6 e2), rfl, eu.symm⟩, hg u F' H' g ru⟩
      · exact hg.elim
    | false =>
      obtain ⟨xs, rfl, hT⟩ := e3
      refine .inr ⟨_, e1, Z, F, ρ, r, hk.mono ρ _ _ (fun k hk' v F' H' g rep => ?_) q⟩
      obtain ⟨hf, hg⟩ := hk'
      obtain ⟨hd1, hk1⟩ := kfit_tup hf
      obtain ⟨c, rfl⟩ := tup_ref hd1 rep
      have hT' := hT.ex g.f
      have hG := hT'.get (k := k)
      split at hg
      · rename_i d hd'
        rw [hd'] at hG
        obtain ⟨p, u, ep, ru, rp⟩ := hG
        exact ⟨x, c, xs, nkD k, p, u, rfl, rfl, fun _ _ _ I => dko_at I g.b (g.h x _ e6 e2) hT', kat_of g.b hk1 rep, ep, rp, hg u F' H' g ru⟩
      · exact hg.elim
  · exact q.elim⟩
/-- k in d, k not in d (n = true) -/
def dinE (m : Bool) (n : Nat) (f : SE) : SE := fun ρ Q => match ρ[n]? with
  | some (some (.dic b kvs)) => f ρ fun k => kfit b k = true ∧ Q (.bl (if m then !(getK kvs k).isSome else (getK kvs k).isSome))
  | _ => False
theorem dinE_mono {m : Bool} {n : Nat} (mf : MonoE f) : MonoE (dinE m n f) := fun ρ P Q h q => by
  unfold dinE at *
  split at q
  · exact mf ρ _ _ (fun k hk => ⟨hk.1, h _ hk.2⟩) q
  · exact q.elim
theorem din_int {K : Kf} {rw : Option Addr} {F : Hp} {kvs : List (D × D)} {vs : List (Key × V)} {j : Int} (h : DInt K rw F kvs vs) : (valV vs (Sum.inl j)).isSome = (getK kvs (.int j)).isSome := by
  have := h.get (i := j)
  cases e : getK kvs (.int j) with
  | none => rw [e] at this; rw [show valV vs (Sum.inl j) = none from this]; rfl
  | some d => rw [e] at this; obtain ⟨u, eu, _⟩ := this; rw [eu]; rfl
theorem din_tup {K : Kf} {rw : Option Addr} {F : Hp} {kvs : List (D × D)} {xs : List (NestedKey × Addr × Value)} {k : D} (h : DTup nkD K rw F kvs xs) : (atKey xs (nkD k)).isSome = (getK kvs k).isSome := by
  have := h.get (k := k)
  cases e : getK kvs k with
  | none => rw [e] at this; rw [show atKey xs (nkD k) = none from this]; rfl
  | some d => rw [e] at this; obtain ⟨p, u, eu, _⟩ := this; rw [eu]; rfl
theorem din_tp {n : Nat} (mf : MonoE f) : ∀ σ H Q, TEof X.K (dinE false n f) σ H Q → tDIn (TEof X.K f) (tVar n) σ H Q ∨ tNIn X false (TEof X.K f) (tVar n) σ H Q := fun σ H Q ⟨Z, F, ρ, r, q⟩ => by
  unfold dinE at q
  split at q
  · rename_i bb kvs hn
    obtain ⟨x, o, e1, e2, ⟨hl, e3⟩, e6⟩ := r.dicAt hn
    cases bb with
    | true =>
      obtain ⟨vs, rfl, hI⟩ := e3
      refine .inl ⟨Z, F, ρ, r, mf ρ _ _ (fun k hk' v F' H' g rep => ?_) q⟩
      obtain ⟨hf, hg⟩ := hk'
      obtain ⟨j, rfl⟩ := kfit_int hf
      obtain rfl : v = .int j := rep
      refine ⟨.ref x, e1, x, _, rfl, .inl ⟨vs, Sum.inl j, .inl (g.h x _ e6 e2), rfl, rfl⟩, ?_⟩
      rw [din_int hI]
      exact hg _ F' H' g rfl
    | false =>
      obtain ⟨xs, rfl, hT⟩ := e3
      refine .inr ⟨Z, F, ρ, r, mf ρ _ _ (fun k hk' v F' H' g rep => ?_) q⟩
      obtain ⟨hf, hg⟩ := hk'
      obtain ⟨hd1, hk1⟩ := kfit_tup hf
      obtain ⟨c, rfl⟩ := tup_ref hd1 rep
      refine ⟨.ref x, e1, x, c, xs, nkD k, rfl, rfl, fun _ _ _ I => dko_at I g.b (g.h x _ e6 e2) (hT.ex g.f), kat_of g.b hk1 rep, ?_⟩
      rw [din_tup hT]
      exact hg _ F' H' g rfl
  · exact q.elim
theorem dnin_tp {n : Nat} (mf : MonoE f) : ∀ σ H Q, TEof X.K (dinE true n f) σ H Q → tDNotIn (TEof X.K f) (tVar n) σ H Q ∨ tNIn X true (TEof X.K f) (tVar n) σ H Q := fun σ H Q ⟨Z, F, ρ, r, q⟩ => by
  unfold dinE at q
  split at q
  · rename_i bb kvs hn
    obtain ⟨x, o, e1, e2, ⟨hl, e3⟩, e6⟩ := r.dicAt hn
    cases bb with
    | true =>
      obtain ⟨vs, rfl, hI⟩ := e3
      refine .inl ⟨Z, F, ρ, r, mf ρ _ _ (fun k hk' v F' H' g rep => ?_) q⟩
      obtain ⟨hf, hg⟩ := hk'
      obtain ⟨j, rfl⟩ := kfit_int hf
      obtain rfl : v = .int j := rep
      refine ⟨.ref x, e1, x, _, rfl, .inl ⟨vs, Sum.inl j, .inl (g.h x _ e6 e2), rfl, rfl⟩, ?_⟩
      rw [din_int hI]
      exact hg _ F' H' g rfl
    | false =>
      obtain ⟨xs, rfl, hT⟩ := e3
      refine .inr ⟨Z, F, ρ, r, mf ρ _ _ (fun k hk' v F' H' g rep => ?_) q⟩
      obtain ⟨hf, hg⟩ := hk'
      obtain ⟨hd1, hk1⟩ := kfit_tup hf
      obtain ⟨c, rfl⟩ := tup_ref hd1 rep
      refine ⟨.ref x, e1, x, c, xs, nkD k, rfl, rfl, fun _ _ _ I => dko_at I g.b (g.h x _ e6 e2) (hT.ex g.f), kat_of g.b hk1 rep, ?_⟩
      rw [din_tup hT]
      exact hg _ F' H' g rfl
  · exact q.elim
theorem PC.or {op : CmpOp} {t t' : TE} (h : PC X op a b t) (h' : PC X op a b t') : PC X op a b (fun σ H Q => t σ H Q ∨ t' σ H Q) := ⟨fun pins s σ H Q I q => q.elim (h.run pins s σ H Q I) (h'.run pins s σ H Q I)⟩
theorem E.din {n : Nat} (hu : X.A.units + 10 < cLine) (hk : E X a f) (hd : PE X b (tVar n)) (hm : behindInMarks .In b = false) : E X (.Compare a [.In] [b] pos) (dinE false n f) := ⟨dinE_mono hk.mono, PE.weak (pe_cmp (PC.or (pc_din (by omega) hk.run hd) (pc_nin hu hk.run hd)) hm) (din_tp hk.mono)⟩
theorem E.dnin {n : Nat} (hu : X.A.units + 10 < cLine) (hk : E X a f) (hd : PE X b (tVar n)) (hm : behindInMarks .NotIn b = false) : E X (.Compare a [.NotIn] [b] pos) (dinE true n f) := ⟨dinE_mono hk.mono, PE.weak (pe_cmp (PC.or (pc_dnotin (by omega) hk.run hd) (pc_nnotin hu hk.run hd)) hm) (dnin_tp hk.mono)⟩
theorem tB_of {g : SE} (mg : MonoE g) {σ : L2.St} {H : Hp} {Q : Bool → Hp → Prop} (h : TTof X.K (tV g) σ H Q) : TEof X.K g σ H fun v H' => ∃ b, v = .bl b ∧ Q b H' := by
  obtain ⟨Z, F, ρ, r, q⟩ := h
  exact ⟨Z, F, ρ, r, mg ρ _ _ (fun d hd v F' H' gg rep => by
    cases d with
    | bl b => exact ⟨b, rep, hd F' H' gg⟩
    | _ => exact hd.elim) q⟩
theorem T.din {n : Nat} (hu : X.A.units + 10 < cLine) (hk : E X a f) (hd : PE X b (tVar n)) (hm : behindInMarks .In b = false) : T X (.Compare a [.In] [b] pos) (tV (dinE false n f)) := ⟨tV_mono (dinE_mono hk.mono), PT.weak (pt_cmp (PC.or (pc_din (by omega) hk.run hd) (pc_nin hu hk.run hd)) hm) fun σ H Q q => din_tp hk.mono σ H _ (tB_of (dinE_mono hk.mono) q)⟩
theorem T.dnin {n : Nat} (hu : X.A.units + 10 < cLine) (hk : E X a f) (hd : PE X b (tVar n)) (hm : behindInMarks .NotIn b = false) : T X (.Compare a [.NotIn] [b] pos) (tV (dinE true n f)) := ⟨tV_mono (dinE_mono hk.mono), PT.weak (pt_cmp (PC.or (pc_dnotin (by omega) hk.run hd) (pc_nnotin hu hk.run hd)) hm) fun σ H Q q => dnin_tp hk.mono σ H _ (tB_of (dinE_mono hk.mono) q)⟩
/-- d.get(k, x) -/
def dgetD (n : Nat) (f g : SE) : SE := fun ρ Q => match ρ[n]? with
  | some (some (.dic b kvs)) => f ρ fun k => g ρ fun x => kfit b k = true ∧ Q ((getK kvs k).getD x)
  | _ => False
theorem dgetD_mono {n : Nat} (mf : MonoE f) (mg : MonoE g) : MonoE (dgetD n f g) := fun ρ P Q h q => by
  unfold dgetD at *
  split at q
  · exact mf ρ _ _ (fun k hk => mg ρ _ _ (fun x hx => ⟨hx.1, h _ hx.2⟩) hk) q
  · exact q.elim
theorem E.dgetD {n : Nat} (hu : X.A.units + 10 < cLine) (hd : PE X e (tVar n)) (hk : E X e1 f) (hx : E X e2 g) (m : M2 X e "get" apos e1 e2 cpos) : E X (.Call (.Attribute e "get" apos) [e1, e2] [] cpos) (Z0.dgetD n f g) := ⟨dgetD_mono hk.mono hx.mono, PE.weak (PE.or (pe_dget2 (by omega) hd hk.run hx.run m) (pe_nget2 hu hd hk.run hx.run m)) fun σ H Q ⟨Z, F, ρ, r, q⟩ => by
  unfold Z0.dgetD at q
  split at q
  · rename_i bb kvs hn
    obtain ⟨x, o, h1, h2, ⟨hl, h3⟩, h6⟩ := r.dicAt hn
    cases bb with
    | true =>
      obtain ⟨vs, rfl, hI⟩ := h3
      refine .inl ⟨_, h1, x, rfl, .inl ⟨vs, .inl h2⟩, Z, F, ρ, r, hk.mono ρ _ _ (fun k hk' v F' H' g1 rep => ?_) q⟩
      refine ⟨Z, F', ρ, r.grow g1, hx.mono ρ _ _ (fun z hz u F2 H2 g2 repz => ?_) hk'⟩
      obtain ⟨hf, hg⟩ := hz
      obtain ⟨j, rfl⟩ := kfit_int hf
      obtain rfl : v = .int j := rep
      have g12 := g1.trans g2
      have hI' := (hI.ex g12.f).get (i := j)
      refine ⟨_, .inl ⟨vs, Sum.inl j, .inl (g12.h x _ h6 h2), rfl, rfl⟩, ?_⟩
      cases e : getK kvs (.int j) with
      | none =>
        rw [e] at hI' hg
        rw [show valV vs (Sum.inl j) = none from hI']
        exact hg u F2 H2 g12 repz
      | some d =>
        rw [e] at hI' hg
        obtain ⟨w, ew, rw'⟩ := hI'
        rw [ew]
        exact hg w F2 H2 g12 rw'
    | false =>
      obtain ⟨xs, rfl, hT⟩ := h3
      refine .inr ⟨_, h1, x, xs, rfl, fun _ _ _ I => dko_at I r.base h2 hT, Z, F, ρ, r, hk.mono ρ _ _ (fun k hk' v F' H' g1 rep => ?_) q⟩
      refine ⟨Z, F', ρ, r.grow g1, hx.mono ρ _ _ (fun z hz u F2 H2 g2 repz => ?_) hk'⟩
      obtain ⟨hf, hg⟩ := hz
      obtain ⟨hd1, hk1⟩ := kfit_tup hf
      obtain ⟨c, rfl⟩ := tup_ref hd1 rep
      have g12 := g1.trans g2
      have hT' := hT.ex g12.f
      have hG := hT'.get (k := k)
      refine ⟨c, nkD k, rfl, fun _ _ _ I => dko_at I g2.b (g12.h x _ h6 h2) hT', kat_of g2.b hk1 (Rep.ex g2.f _ _ rep), ?_⟩
      cases e : getK kvs k with
      | none =>
        rw [e] at hG hg
        rw [show atKey xs (nkD k) = none from hG]
        exact hg u F2 H2 g12 repz
      | some d =>
        rw [e] at hG hg
        obtain ⟨p, w, ep, rw', rp⟩ := hG
        rw [ep]
        exact ⟨w, rp, hg w F2 H2 g12 rw'⟩
  · exact q.elim⟩
/-- len(d) -/
def dlenE (n : Nat) : SE := fun ρ Q => match ρ[n]? with
  | some (some (.dic _ kvs)) => Q (.int kvs.length)
  | _ => False
theorem dlenE_mono {n : Nat} : MonoE (dlenE n) := fun ρ P Q h q => by
  unfold dlenE at *
  split at q
  · exact h _ q
  · exact q.elim
theorem CallR.or' {v : Value} {r r' : List V → Hp → VK → Prop} (h : CallR X v r) (h' : CallR X v r') : CallR X v (fun xs H Q => r xs H Q ∨ r' xs H Q) := fun pins s σ H xs us Q I rv q => q.elim (h pins s σ H xs us Q I rv) (h' pins s σ H xs us Q I rv)
theorem E.dlen {n : Nat} (h : PE X e (tCB (fun xs H Q => (∃ a kvs, xs = [V.ref a] ∧ H a = some (.dK kvs) ∧ Q (.int kvs.length) H) ∨ ∃ a xs', xs = [V.ref a] ∧ DAt X H a xs' ∧ xs'.length ≤ big ∧ Q (.int xs'.length) H) (tCons (tVar n) tNil))) : E X e (dlenE n) := ⟨dlenE_mono, PE.weak h fun σ H Q ⟨Z, F, ρ, r, q⟩ => by
  unfold dlenE at q
  split at q
  · rename_i bb kvs hn
    obtain ⟨x, o, h1, h2, ⟨hl, h3⟩, h6⟩ := r.dicAt hn
    cases bb with
    | true =>
      obtain ⟨vs, rfl, hI⟩ := h3
      refine ⟨.ref x, h1, .inl ⟨x, vs, rfl, h2, ?_⟩⟩
      rw [hI.length]
      exact q _ F H (Gr.refl r.base) rfl
    | false =>
      obtain ⟨xs, rfl, hT⟩ := h3
      refine ⟨.ref x, h1, .inr ⟨x, xs, rfl, fun _ _ _ I => dko_at I r.base h2 hT, by rw [hT.length]; exact hl, ?_⟩⟩
      rw [hT.length]
      exact q _ F H (Gr.refl r.base) rfl
  · exact q.elim⟩
/-- d[k] = v -/
def dputS (n : Nat) (g f : SE) : SS := fun ρ k => match ρ[n]? with
  | some (some (.dic b kvs)) => g ρ fun v => f ρ fun x => (kfit b x = true ∧ kvs.length < big) ∧ k.nx (ρ.set n (some (.dic b (putK kvs x v))))
  | _ => False
theorem dputS_mono {n : Nat} (mf : MonoE f) (mg : MonoE g) : MonoS (dputS n g f) := fun ρ k l hk q => by
  unfold dputS at *
  split at q
  · exact mg ρ _ _ (fun v hv => mf ρ _ _ (fun x hx => ⟨hx.1, hk.1 _ hx.2⟩) hv) q
  · exact q.elim
theorem S.dput {n : Nat} (hu : X.A.units + 10 < cLine) (hd : PE X a (tVar n)) (hk : E X b f) (hv : E X c g) (hs : swapsWith c (some (.Subscript a b pos')) pos.line X.env = pure false) : S X (.Assign [.Subscript a b pos'] c pos) (dputS n g f) := ⟨dputS_mono hk.mono hv.mono, PS.weak (PS.or (ps_dput (by omega) hd hk.run hv.run hs) (ps_nput hu hd hk.run hv.run hs)) fun D σ H ⟨Z, F, ρ, r, q⟩ => by
  unfold dputS at q
  split at q
  · rename_i bb kvs hn
    obtain ⟨x, o, h1, h2, ⟨hl, h3⟩, h6⟩ := r.dicAt hn
    cases bb with
    | true =>
      obtain ⟨vs, rfl, hI⟩ := h3
      refine .inl ⟨Z, F, ρ, r, hv.mono ρ _ _ (fun d hd' v F' H' g1 rep => ?_) q⟩
      refine ⟨.ref x, h1, Z, F', ρ, r.grow g1, hk.mono ρ _ _ (fun k hk' u F2 H2 g2 repk => ?_) hd'⟩
      obtain ⟨⟨hf, hlt⟩, hn'⟩ := hk'
      obtain ⟨j, rfl⟩ := kfit_int hf
      obtain rfl : u = .int j := repk
      have g12 := g1.trans g2
      have r2 := r.grow g12
      have hI' := hI.ex g12.f
      refine ⟨x, _, rfl, .inl ⟨vs, Sum.inl j, g12.h x _ h6 h2, rfl, by rw [hI.length]; exact big_lt hlt, rfl⟩, ?_⟩
      exact hn' _ F2 _ g12.f (r2.mutD (b' := true) (kv' := putK kvs (.int j) d) hn h1 (g12.h x _ h6 h2) ⟨Nat.le_trans putK_len hlt, _, rfl, hI'.put (Rep.ex g2.f _ _ rep)⟩ (fun _ _ z => nomatch z))
    | false =>
      obtain ⟨xs, rfl, hT⟩ := h3
      refine .inr ⟨Z, F, ρ, r, hv.mono ρ _ _ (fun d hd' v F' H' g1 rep => ?_) q⟩
      refine ⟨.ref x, h1, Z, F', ρ, r.grow g1, hk.mono ρ _ _ (fun k hk' u F2 H2 g2 repk => ?_) hd'⟩
      obtain ⟨⟨hf, hlt⟩, hn'⟩ := hk'
      obtain ⟨hd1, hk1⟩ := kfit_tup hf
      obtain ⟨c', rfl⟩ := tup_ref hd1 repk
      have g12 := g1.trans g2
      have r2 := r.grow g12
      have hT' := hT.ex g12.f
      refine ⟨x, c', xs, nkD k, rfl, rfl, g12.h x _ h6 h2, fun _ _ _ I => dko_at I g2.b (g12.h x _ h6 h2) hT', kat_of g2.b hk1 repk, by rw [hT.length]; exact hlt, hT.ok, hk1, fun w rw' => ?_⟩
      exact hn' _ F2 _ g12.f (r2.mutD (b' := false) (kv' := putK kvs k d) hn h1 (g12.h x _ h6 h2) ⟨Nat.le_trans putK_len hlt, _, rfl, hT'.put hk1 repk (Rep.ex g2.f _ _ rep) rw'⟩ (fun _ _ z => by unfold DkO at z; cases z))
  · exact q.elim⟩
/-- a new dict -/
def setD (n : Nat) (b : Bool) : SS := fun ρ k => k.nx (ρ.set n (some (.dic b [])))
theorem setD_mono {n : Nat} {b : Bool} : MonoS (setD n b) := fun ρ k l hk q => hk.1 _ q
def tDNew (b : Bool) : TE := if b then tDNewK else tDNewN
theorem pe_dnew {b : Bool} : PE X (.Dict [] [] pos) (tDNew b) := by
  cases b with
  | true => exact pe_dnewK
  | false => exact pe_dnewN
theorem dnew_tp {b : Bool} {K : Kf} (r : R K Z F ρ σ H) {Q : VK} (h : ∀ p o H', Gr K Z F H F H' → H p = none → Fresh Z F ρ σ p → H' p = some o → DicR K Z.rw F p b [] o → Q (.ref p) H') : tDNew b σ H Q := by
  cases b with
  | true => exact fun p hp => h p _ _ (r.base.lay0 hp) hp (fresh_of r (Gr.refl r.base) hp) upd_same ⟨Nat.zero_le _, [], rfl, rfl⟩
  | false => exact fun p hp => h p _ _ (r.base.lay0 hp) hp (fresh_of r (Gr.refl r.base) hp) upd_same ⟨Nat.zero_le _, [], rfl, rfl⟩
theorem S.setD {n : Nat} {bb : Bool} (h : PS X st (tAsg (tDNew bb) (gName n))) : S X st (Z0.setD n bb) := ⟨setD_mono, PS.weak h fun D σ H ⟨Z, F, ρ, r, q⟩ => by
  refine dnew_tp r fun p o H' g hp fr ho hd => ?_
  exact q _ F H' (Ex.refl F) ((r.grow g).setDic n ho fr hd)⟩
def dicM (b : Bool) : SM1 := fun _ Q => Q (.dic b [])
theorem M1.dic {bb : Bool} : M1 X (.Dict [] [] pos) (dicM bb) := ⟨fun ρ P Q h q => h _ q, PE.weak (pe_dnew (b := bb)) fun σ H Q ⟨Z, F, ρ, r, q⟩ => by
  refine dnew_tp r fun p o H' g hp fr ho hd => ?_
  exact q (.ref p) F H' g ⟨p, o, rfl, ho, hd, fr⟩ (fun p' _ e => by cases e; exact hp)⟩
end
/-! ### sorted(d.keys()), moves, entries in order -/
section
variable {X : Cx} {Z : Zs} {F H : Hp} {ρ : REnv} {σ : L2.St} {e a b c i e1 e2 : Expr} {f g : SE} {pos pos' apos cpos : Pos} {st : Stmt}
/-- the dict at a has these entries, in order -/
def EntsAt (X : Cx) (H : Hp) (a : Addr) (L : List (V × V)) : Prop := ∀ pins σ s, Inv X pins σ H s → (a == sysModules) = false ∧ ∃ es ep, s.heap.DictRaw a es ep ∧ es.size = L.length ∧ ∀ i (hi : i < es.size) x, L[i]? = some x → RelV x.1 es[i].key ∧ RelV x.2 es[i].val
theorem DInt.ents {K : Kf} {rw : Option Addr} {F : Hp} : ∀ {kvs : List (D × D)} {vs : List (Key × V)}, DInt K rw F kvs vs → Reps K rw F (kvs.map (·.1)) (vs.map fun p => kV p.1) ∧ Reps K rw F (kvs.map (·.2)) (vs.map (·.2))
  | [], _, h => by cases (show _ = [] from h); exact ⟨rfl, rfl⟩
  | kd :: r, _, ⟨j, v, t, e1, e2, e3, e4⟩ => by
    subst e1
    obtain ⟨h1, h2⟩ := DInt.ents e4
    exact ⟨⟨.int j, _, rfl, by show Rep K rw F kd.1 _; rw [e2]; exact rfl, h1⟩, ⟨v, _, rfl, e3, h2⟩⟩
/-- values for the entries' -/
theorem DTup.ents {K : Kf} {rw : Option Addr} {F : Hp} : ∀ {kvs : List (D × D)} {xs : List (NestedKey × Addr × Value)}, DTup nkD K rw F kvs xs → ∃ vs : List V, Reps K rw F (kvs.map (·.1)) (xs.map fun x => V.ref x.2.1) ∧ Reps K rw F (kvs.map (·.2)) vs ∧ Vals vs (xs.map fun x => x.2.2)
  | [], _, h => by cases (show _ = [] from h); exact ⟨[], rfl, rfl, .nil⟩
  | kd :: r, _, ⟨c, v, u, t, e1, e0, e2, e3, e4, e5⟩ => by
    subst e1
    obtain ⟨vs, h1, h2, h3⟩ := DTup.ents e5
    exact ⟨v :: vs, ⟨.ref c, _, rfl, e2, h1⟩, ⟨v, _, rfl, e3, h2⟩, .cons e4 h3⟩
theorem vals_at : ∀ {vs : List V} {us : List Value}, Vals vs us → ∀ {i : Nat} {v : V} {u : Value}, vs[i]? = some v → us[i]? = some u → RelV v u
  | _, _, .nil, i, _, _, h, _ => by simp at h
  | _, _, .cons r rs, 0, _, _, h, h' => by
    simp only [List.getElem?_cons_zero, Option.some.injEq] at h h'
    subst h h'; exact r
  | _, _, .cons r rs, i + 1, _, _, h, h' => by
    simp only [List.getElem?_cons_succ] at h h'
    exact vals_at rs h h'
theorem dic_ents (b : Base X.K Z F H) {a : Addr} {o : HO} {bb : Bool} {kvs : List (D × D)} (e : H a = some o) (d : DicR X.K Z.rw F a bb kvs o) : ∃ ks vs : List V, Reps X.K Z.rw F (kvs.map (·.1)) ks ∧ Reps X.K Z.rw F (kvs.map (·.2)) vs ∧
    ∀ H', (∀ p u, Z.rw ≠ some p → H p = some u → H' p = some u) → Z.rw ≠ some a → EntsAt X H' a (ks.zip vs) := by
  obtain ⟨hl, e3⟩ := d
  cases bb with
  | true =>
    obtain ⟨vs, rfl, hI⟩ := e3
    obtain ⟨h1, h2⟩ := hI.ents
    refine ⟨_, _, h1, h2, fun H' hH hrw pins σ s I => ?_⟩
    obtain ⟨_, hsm, ws, kv, dd⟩ := dk_of I.hok (hH a _ hrw e)
    obtain ⟨es, ep, hr, hs, hk⟩ := dd.raw
    have el : (vs.map fun p => kV p.1).zip (vs.map (·.2)) = vs.map fun p => (kV p.1, p.2) := by
      rw [List.zip_map']
    rw [el]
    refine ⟨hsm, es, ep, hr, by rw [hs, List.length_map, kv.length], fun i hi x hx => ?_⟩
    rw [List.getElem?_map] at hx
    obtain ⟨p, hp, rfl⟩ := Option.map_eq_some_iff.mp hx
    have hi2 : i < ws.length := hs ▸ hi
    have e9 : ws[i]? = some ws[i] := List.getElem?_eq_getElem hi2
    obtain ⟨k1, k2⟩ := hk i hi ws[i].1 ws[i].2 e9
    obtain ⟨x', q1, q2⟩ := KV.at' kv e9
    rw [hp] at q1
    cases q1
    refine ⟨?_, by rw [k2]; exact q2⟩
    rcases keyIs_shape k1 with ⟨j, t, e5, e6⟩ | ⟨y, t, e5, e6⟩
    · show RelV (kV ws[i].1) _; rw [e5, e6]; exact ⟨t, rfl⟩
    · show RelV (kV ws[i].1) _; rw [e5, e6]; exact ⟨t, rfl⟩
  | false =>
    obtain ⟨xs, rfl, hT⟩ := e3
    obtain ⟨vs, h1, h2, h3⟩ := hT.ents
    refine ⟨_, _, h1, h2, fun H' hH hrw pins σ s I => ?_⟩
    have x : ObjOk X.prog X.w H' s.heap a (DkO a xs) := I.hok a _ (hH a _ hrw e)
    obtain ⟨o', es, ep, g1, g2, g3, g4, g5, g6⟩ := (show (∃ o es ep, s.heap.get? a = some o ∧ o.ExactDict ∧ o.data = .dict es ep ∧ (∀ (P : Program) (w : World), es.toList = xs.map (entryOfKey (nestedKind P w))) ∧ (xs.map (·.1)).Nodup ∧ (a == sysModules) = false) from x.1)
    have el := g4 X.prog X.w
    have es1 : es.size = xs.length := by rw [← Array.length_toList, el, List.length_map]
    have l3 : vs.length = xs.length := by rw [h3.length, List.length_map]
    refine ⟨g6, es, ep, ⟨o', g1, g2, g3⟩, by rw [es1, List.length_zip, List.length_map, l3, Nat.min_self], fun i hi y hy => ?_⟩
    have hi2 : i < xs.length := es1 ▸ hi
    have hy' : y = (V.ref xs[i].2.1, vs[i]'(l3 ▸ hi2)) := by
      rw [List.getElem?_eq_getElem (by rw [List.length_zip, List.length_map, l3, Nat.min_self]; exact hi2), List.getElem_zip, List.getElem_map] at hy
      exact (Option.some.inj hy).symm
    have ek : es[i] = entryOfKey (nestedKind X.prog X.w) xs[i] := by
      have : es.toList[i]? = (xs.map (entryOfKey (nestedKind X.prog X.w)))[i]? := by rw [el]
      rw [Array.getElem?_toList, Array.getElem?_eq_getElem hi, List.getElem?_map, List.getElem?_eq_getElem hi2] at this
      exact Option.some.inj this
    rw [hy', ek]
    exact ⟨rfl, vals_at h3 (List.getElem?_eq_getElem (l3 ▸ hi2)) (by rw [List.getElem?_map, List.getElem?_eq_getElem hi2]; rfl)⟩
theorem reps_length {K : Kf} {rw : Option Addr} {F : Hp} : ∀ {ds : List D} {vs : List V}, Reps K rw F ds vs → vs.length = ds.length
  | [], _, h => by cases (show _ = [] from h); rfl
  | _ :: _, _, h => by
    obtain ⟨v, r, rfl, _, h2⟩ := (show ∃ v r, _ = v :: r ∧ _ ∧ _ from h)
    rw [List.length_cons, List.length_cons, reps_length h2]
/-- sorted(d.keys()) -/
def dkeysF (n : Nat) : SA := fun ρ Q => match ρ[n]? with
  | some (some (.dic _ kvs)) => sortOk (kvs.map (·.1)) ∧ Q (sortD (kvs.map (·.1)))
  | _ => False
theorem dkeysF_mono {n : Nat} : MonoE (dkeysF n) := fun ρ P Q h q => by
  unfold dkeysF at *
  split at q
  · exact ⟨q.1, h _ q.2⟩
  · exact q.elim
theorem _root_.Z0.F.dkeys {n : Nat} (h : PE X e (tCB (rSortK X) (tCons (tKeys X (tVar n)) tNil))) : Z0.F X e (dkeysF n) := ⟨dkeysF_mono, PE.weak h fun σ H Q ⟨Z, F, ρ, r, q⟩ => by
  unfold dkeysF at q
  split at q
  · rename_i bb kvs hn
    obtain ⟨x, o, h1, h2, hd, h6⟩ := r.dicAt hn
    obtain ⟨ks, vs, r1, r2, hE⟩ := dic_ents r.base h2 hd
    obtain ⟨hok, q⟩ := q
    refine ⟨.ref x, h1, x, rfl, ?_, fun p hp => ?_⟩
    · obtain ⟨hl, e3⟩ := hd
      cases bb with
      | true => obtain ⟨ws, rfl, hI⟩ := e3; exact .inr ⟨ws, h2⟩
      | false => obtain ⟨xs, rfl, hT⟩ := e3; exact .inl ⟨xs, fun _ _ _ I => dko_at I r.base h2 hT⟩
    · have g : Gr X.K Z F H F (upd H p (ViewO p x)) := r.base.lay0 hp
      have hE' := hE _ g.h h6
      obtain ⟨L, l1, l2, hL⟩ := reps_zip r1
      have lk : ks.length = kvs.length := by rw [reps_length r1, List.length_map]
      have lv : vs.length = kvs.length := by rw [reps_length r2, List.length_map]
      have lL : L.length = kvs.length := by rw [← lk, ← l1, List.length_map]
      have hkeys : KeysAt X (upd H p (ViewO p x)) x (L.map fun y => (y.2, y.1)) := fun pins σ s I => by
        obtain ⟨_, es, ep, hr, hs, hk⟩ := hE' pins σ s I
        refine ⟨es, ep, hr, by rw [hs, List.length_zip, List.length_map, lk, lv, lL, Nat.min_self], fun i hi y hy => ?_⟩
        rw [List.getElem?_map] at hy
        obtain ⟨z, hz, rfl⟩ := Option.map_eq_some_iff.mp hy
        have hi3 : i < kvs.length := by rw [hs, List.length_zip, lk, lv, Nat.min_self] at hi; exact hi
        have ez : ks[i]? = some z.1 := by rw [← l1, List.getElem?_map, hz]; rfl
        have := (hk i hi (ks[i]'(by omega), vs[i]'(by omega)) (by rw [List.getElem?_eq_getElem (by rw [List.length_zip]; omega), List.getElem_zip])).1
        rw [List.getElem?_eq_getElem (by omega)] at ez
        rw [← Option.some.inj ez]
        exact this
      have fin : ∀ (sh : Sh) (M : List (D × V)) (q' : Addr), (L.length < 2 ∨ ∀ d ∈ kvs.map (·.1), shD sh d = true) → M.Perm (L.map fun y => (y.2, y.1)) → (M.Pairwise fun x y => lexLt (flatP y.1.py) (flatP x.1.py) = false) → (upd H p (ViewO p x)) q' = none → Q (.ref q') (upd (upd H p (ViewO p x)) q' (.lst (M.map (·.2)))) := by
        intro sh M q' hsh hp' hsrt hnone
        have eM : sortD (kvs.map (·.1)) = M.map (·.1) := by
          have eL : kvs.map (·.1) = (L.map fun y => (y.2, y.1)).map (·.1) := by rw [List.map_map, ← l2]; rfl
          rcases hsh with hs | hs
          · have : M = L.map fun y => (y.2, y.1) := by
              cases L with
              | nil => exact List.Perm.eq_nil hp'
              | cons x r =>
                cases r with
                | nil => exact List.perm_singleton.mp hp'
                | cons y r => simp at hs; omega
            rw [this, eL]
            cases L with
            | nil => rfl
            | cons x r =>
              cases r with
              | nil => rfl
              | cons y r => simp at hs; omega
          · refine sortD_uniq (sh := sh) (fun d hd => hs d ((sortD_perm _).mem_iff.mp hd)) ((sortD_perm _).trans ?_) (sortD_sorted _) (List.pairwise_map.mpr hsrt)
            rw [eL]
            exact (hp'.map (·.1)).symm
        have g2 := g.trans (g.b.lay0 (o := .lst (M.map (·.2))) hnone)
        refine q q' (M.map (·.2)) F _ g2 (back_none r.base g hnone) (fresh_of r g hnone) upd_same ?_
        rw [eM]
        have : ∀ {M : List (D × V)}, (∀ y ∈ M, Rep X.K Z.rw F y.1 y.2) → Reps X.K Z.rw F (M.map (·.1)) (M.map (·.2)) := by
          intro M
          induction M with
          | nil => intro _; rfl
          | cons y M ih => intro hM; exact ⟨y.2, _, rfl, hM y List.mem_cons_self, ih fun z hz => hM z (List.mem_cons_of_mem _ hz)⟩
        refine this fun y hy => ?_
        obtain ⟨z, hz, rfl⟩ := List.mem_map.mp (hp'.mem_iff.mp hy)
        exact hL z hz
      have hl : kvs.length ≤ big := hd.1
      rcases hok with hok | ⟨sh, s1, s2, s3⟩
      · rw [List.length_map] at hok
        exact ⟨p, x, _, .num, rfl, upd_same, hkeys, by rw [List.length_map, lL]; exact hl, .inl (by rw [List.length_map, lL]; exact hok), fun M q' hp' hsrt hn' => fin .num M q' (.inl (by rw [lL]; exact hok)) hp' hsrt hn'⟩
      · refine ⟨p, x, _, sh, rfl, upd_same, hkeys, by rw [List.length_map, lL]; exact hl, .inr ⟨s1, s2, fun y hy => ?_⟩, fun M q' hp' hsrt hn' => fin sh M q' (.inr s3) hp' hsrt hn'⟩
        obtain ⟨z, hz, rfl⟩ := List.mem_map.mp hy
        have h3 := s3 z.2 (by rw [← l2]; exact List.mem_map_of_mem hz)
        exact ⟨h3, dp_of g.b z.2 z.1 (sh_pure sh z.2 h3) (hL z hz)⟩
  · exact q.elim⟩
end
theorem u10 {k : Nat} {A : Around} (r : Room k A) : A.units + 10 < cLine := by have := r.un; omega
/-! ### tuple(range(..)) -/
section
variable {X : Cx} {e : Expr} {es : List Expr} {fa : SA} {pos : Pos}
theorem pe_tupR3 {e : Expr} {te : L2.St → Hp → (Int → Int → Nat → Hp → Prop) → Prop} {p : Pos} (hc : X.calm = true) (hg : Gl X "tuple") (hm : X.mg "tuple" = none) (he : PR3 X e te) (na : starEach [e] X.env = (false, eval e X.env) :: starEach [] X.env := by rfl) :
    PE X (.Call (.Name "tuple" p) [e] [] pos) (fun σ H Q => te σ H fun a c n H1 => n ≤ big ∧ ∀ q, H1 q = none → Q (.ref q) (upd H1 q (.tup (rgV3 a c n)))) := by
  refine ⟨fun pins s σ H Q I h => ?_⟩
  refine Call_ (ld_blt I hg hm boot_tuple (PyProof.Rows.callWith_type1 (args_cons (thn (he pins s σ H _ I h) fun x s1 ⟨r, a, b, c, n, t, u, v, H1, ex, hr, hs, hn, I1, ok, q⟩ => args_nil ?_) na) na))
  subst ex
  refine call_tuple_range (n := n) (I1.ok.hd hc) hr hs hn (Nat.le_trans ok (by decide)) fun h' tk acc hk hi => ?_
  have I2 : Inv X pins σ H1 { s1 with heap := h', toks := tk } := I1.kept hk
  refine ⟨.ref h'.objs.size, upd H1 h'.objs.size (.tup (rgV3 a c n)), I2.laid (t' := tk) (fun c o e => Heap.get?_push_of_some _ e) (Nat.le_refl _) (show ObjOk X.prog X.w _ _ _ (.tup (rgV3 a c n)) from ⟨?_, acc.toList, vals_rg3 hi, ?_⟩), rfl, q _ (I2.hok.fresh (Nat.le_refl _))⟩
  · rw [rgV3_length]; exact big_line ok
  · rw [Array.toArray_toList]; exact IsTup.new _ _
def tupOfA (f : SA) : SE := fun ρ Q => f ρ fun ds => Q (.tup ds)
theorem tupOfA_mono {f : SA} (h : MonoE f) : MonoE (tupOfA f) := fun ρ P Q hpq q => h ρ _ _ (fun ds hd => hpq _ hd) q
abbrev tupR (t : L2.St → Hp → (Int → Int → Nat → Hp → Prop) → Prop) : TE := fun σ H Q => t σ H fun a c n H1 => n ≤ big ∧ ∀ q, H1 q = none → Q (.ref q) (upd H1 q (.tup (rgV3 a c n)))
theorem trg_key {σ : L2.St} {H H1 F1 : Hp} {Q : VK} {Z : Zs} {F : Hp} {ρ : REnv} (r : R X.K Z F ρ σ H) (g1 : Gr X.K Z F H F1 H1) {es : List D} {a c : Int} {n : Nat} (e : es = ((List.range n).map fun (k : Nat) => D.int (a + (k : Int) * c)))
    (k : ∀ (v : V) (F' H' : Hp), Gr X.K Z F H F' H' → Rep X.K Z.rw F' (.tup es) v → Q v H') : ∀ q, H1 q = none → Q (.ref q) (upd H1 q (.tup (rgV3 a c n))) := fun q hq =>
  k (.ref q) _ _ (g1.trans (g1.b.lay hq)) ⟨q, rgV3 a c n, rfl, .inl (.inl upd_same), by rw [e]; exact reps_rg n⟩
theorem E.trg1 (ha : Ap X es fa) (h : PA X es (TQof X.K fa) → PE X e (tupR (tR1 (TQof X.K fa)))) : E X e (tupOfA (lrgA (len1 fa))) :=
  ⟨tupOfA_mono (lrgA_mono (fun ρ P Q hpq q => ha.mono ρ _ _ (fun ds hd => by
      split at hd
      · exact hpq _ hd
      · exact hd.elim) q)), PE.weak (h ha.run) fun σ H Q ⟨Z, F, ρ, r, q⟩ => ⟨Z, F, ρ, r, ha.mono ρ _ _ (fun ds hd vs F1 H1 g1 reps => by
    split at hd
    · rename_i j
      obtain ⟨hc, hd⟩ := hd
      obtain ⟨v, rfl, rep⟩ := reps.one
      exact ⟨j, by rw [rep.int], ⟨hc.1, hc.2.1⟩, hc.2.2, trg_key r g1 (by rw [rngD_one, Int.sub_zero]) hd⟩
    · exact hd.elim) q⟩⟩
theorem E.trg2 (ha : Ap X es fa) (h : PA X es (TQof X.K fa) → PE X e (tupR (tR2 (TQof X.K fa)))) : E X e (tupOfA (lrgA (len2 fa))) :=
  ⟨tupOfA_mono (lrgA_mono (fun ρ P Q hpq q => ha.mono ρ _ _ (fun ds hd => by
      split at hd
      · exact hpq _ hd
      · exact hd.elim) q)), PE.weak (h ha.run) fun σ H Q ⟨Z, F, ρ, r, q⟩ => ⟨Z, F, ρ, r, ha.mono ρ _ _ (fun ds hd vs F1 H1 g1 reps => by
    split at hd
    · rename_i i j
      obtain ⟨hc, hd⟩ := hd
      obtain ⟨v, v2, rfl, rep, rep2⟩ := reps.two
      exact ⟨i, j, by rw [rep.int, rep2.int], ⟨hc.1, hc.2.1, hc.2.2.1, hc.2.2.2.1⟩, hc.2.2.2.2, trg_key r g1 rngD_one hd⟩
    · exact hd.elim) q⟩⟩
end
/-! ### for .. in d.items(), for .. in d: the dict of one's own is locked, and no more a name's -/
section
variable {P : Program} {w : World} {K : PySem.W.Frag} {tg : Expr} {es : Array DictEntry} {ep : Nat} {d : Addr} {ob : Obj} {u : HO} {L : List (V × V)}
/-- the keys -/
def ItDK (d : Addr) (ob : Obj) (u : HO) (L : List (V × V)) : It :=
  ⟨fun i H => H d = some (.frz ob u) ∧ i < L.length, fun i H x H' => H' = H ∧ ∃ y, L[i]? = some y ∧ x = y.1, fun i H => H d = some (.frz ob u) ∧ L.length ≤ i⟩
/-- the pairs, each a new tuple -/
def ItDI (d : Addr) (ob : Obj) (u : HO) (L : List (V × V)) : It :=
  ⟨fun i H => H d = some (.frz ob u) ∧ i < L.length, fun i H x H' => ∃ T y, L[i]? = some y ∧ x = .ref T ∧ H T = none ∧ H' = upd H T (.tup [y.1, y.2]), fun i H => H d = some (.frz ob u) ∧ L.length ≤ i⟩
def EntsOf (ob : Obj) (es : Array DictEntry) (ep : Nat) (L : List (V × V)) : Prop := ob.ExactDict ∧ ob.data = .dict es ep ∧ es.size = L.length ∧ ∀ i (hi : i < es.size) x, L[i]? = some x → RelV x.1 es[i].key ∧ RelV x.2 es[i].val
theorem frz_raw {X : Cx} {pins : List (Addr × Obj)} {σ : L2.St} {H : Hp} {s : Shared} (I : Inv X pins σ H s) (h : H d = some (.frz ob u)) (e : EntsOf ob es ep L) : s.heap.DictRaw d es ep := ⟨ob, (show ObjOk X.prog X.w H s.heap d (.frz ob u) from I.hok d _ h).1, e.1, e.2.1⟩
theorem turn_dk (it : Addr) (e : EntsOf ob es ep L) : Turn P w K tg (ItDK d ob u L) [it] it (fun i h => h.IsKeyIter it d i es.size ep) where
  mem := by simp
  obj := fun i h st b hb => by
    have e : b = it := by simpa using hb
    subst e
    obtain ⟨oi, e, c, dd⟩ := st
    exact ⟨oi, e, fun v z => by rw [dd] at z; cases z⟩
  keep := fun i h h' st k => st.at fun oi e => k it (by simp) oi e
  item := by
    intro X hP hw hK hc i pins s σ H E I hf st hg
    subst hP hw hK
    obtain ⟨hd, hi⟩ := hg
    obtain ⟨f0, f1, f2, f3, f4, f5⟩ := hf it (by simp)
    have hr := frz_raw I hd e
    have hi' : i < es.size := by rw [e.2.2.1]; exact hi
    refine wpAny_pyNext_keys_item_raw st hr hi' fun h' st' sb => ?_
    have I1 : Inv X pins σ H { s with heap := h' } := I.turned (t' := s.toks) (fun b ob hb e => (sb.2 b hb).trans e) f0 f1 f3 f4 f5
    obtain ⟨oi, e1, c, dd⟩ := id st'
    exact ⟨_, rfl, go_of (s := { s with heap := h' }) e1 c dd (by decide) ⟨_, H, I1, (e.2.2.2 i hi' _ (List.getElem?_eq_getElem hi)).1, ⟨rfl, _, List.getElem?_eq_getElem hi, rfl⟩, st', fun b hb => (hf b hb).1⟩⟩
  done := by
    intro X hP hw hK hc i pins s σ H E I hf st hg
    subst hP hw hK
    obtain ⟨hd, hi⟩ := hg
    obtain ⟨f0, f1, f2, f3, f4, f5⟩ := hf it (by simp)
    exact wpAny_pyNext_keys_end_raw (I.ok.hd hc) st (frz_raw I hd e) (by rw [e.2.2.1]; exact hi) fun h' eb => ⟨rfl, I.turned (t' := s.toks) (fun b ob hb e => eb b ob hb e) f0 f1 f3 f4 f5⟩
  self := fun A i s Q E st h => by
    refine wpAny_pyIter_slot st.typeIs F.slot_dict_keyiterator_iter (wpAny_call_entry F.slot_dict_keyiterator_iter st.typeIs F.entry_dict_keyiterator_iter ?_ (F.args_dict_keyiterator_iter_1 _))
    show wpAny _ _ (ret (.ref it)) _ _ s
    exact wpAny_pure ⟨_, rfl, "dict_keyiterator", _, st.typeIs, F.slot_dict_keyiterator_next.lookup, h⟩
theorem turn_di {elts : List Expr} {kk : Nat} {tpos : Pos} (it : Addr) (e : EntsOf ob es ep L) : Turn P w K (.Tuple elts kk tpos) (ItDI d ob u L) [it] it (fun i h => ∃ ok ov, IsItemIter h it d i es.size ep ok ov) where
  mem := by simp
  obj := fun i h st b hb => by
    have e : b = it := by simpa using hb
    subst e
    obtain ⟨ok, ov, e⟩ := st
    exact ⟨_, e, fun v z => nomatch z⟩
  keep := fun i h h' st k => let ⟨ok, ov, e⟩ := st; ⟨ok, ov, k it (by simp) _ e⟩
  item := by
    intro X hP hw hK hc i pins s σ H E I hf st hg
    subst hP hw hK
    obtain ⟨hd, hi⟩ := hg
    have hr := frz_raw I hd e
    have hi' : i < es.size := by rw [e.2.2.1]; exact hi
    obtain ⟨r1, r2⟩ := e.2.2.2 i hi' _ (List.getElem?_eq_getElem hi)
    obtain ⟨ok, ov, he⟩ := st
    have hlt : it < s.heap.objs.size := Heap.lt_size he
    refine wpAny_pyNext_items_item_raw he hr hi' fun h' ho hT hz hk => ?_
    refine ⟨_, rfl, wpAny_letOwnedTupleGo_items (s := { s with heap := h' }) ho fun h'' he' sb => ?_⟩
    have hT2 : h''.get? s.heap.objs.size = some { cls := .type "tuple", data := .seq #[es[i].key, es[i].val] } := (sb.2 _ (Nat.ne_of_gt hlt)).trans hT
    have new : ObjOk X.prog X.w (upd H s.heap.objs.size (.tup [L[i].1, L[i].2])) h'' s.heap.objs.size (.tup [L[i].1, L[i].2]) :=
      ⟨by show 2 ≤ sizeLine; decide, [es[i].key, es[i].val], .cons r1 (.cons r2 .nil), ⟨_, hT2, rfl, _, rfl⟩⟩
    have I1 : Inv X pins σ (upd H s.heap.objs.size (.tup [L[i].1, L[i].2])) { s with heap := h'' } :=
      I.turnedNew (t' := s.toks) (ch := [it]) (fun b ob hb e => (sb.2 b (by simpa using hb)).trans (hk b ob (by simpa using hb) e)) hf (Nat.le_refl _) new
    refine ⟨.ref s.heap.objs.size, _, I1, rfl, ⟨_, L[i], List.getElem?_eq_getElem hi, rfl, I.hok.fresh (Nat.le_refl _), rfl⟩, ⟨_, _, he'⟩, fun b hb => ?_⟩
    have e : b = it := by simpa using hb
    rw [e, upd_ne (Nat.ne_of_lt hlt)]
    exact (hf it (by simp)).1
  done := by
    intro X hP hw hK hc i pins s σ H E I hf st hg
    subst hP hw hK
    obtain ⟨hd, hi⟩ := hg
    obtain ⟨f0, f1, f2, f3, f4, f5⟩ := hf it (by simp)
    obtain ⟨ok, ov, he⟩ := st
    exact wpAny_pyNext_items_end_raw (I.ok.hd hc) he (frz_raw I hd e) (by rw [e.2.2.1]; exact hi) fun h' eb => ⟨rfl, I.turned (t' := s.toks) (fun b ob hb e => eb b ob hb e) f0 f1 f3 f4 f5⟩
  self := fun A i s Q E st h => let ⟨_, _, e⟩ := st; PySem.W.kcp_self e h
end
section
variable {X : Cx} {tg e : Expr} {td : TE} {apos cpos : Pos}
/-- d at its address; it is locked; J: how it is walked -/
def iDic (X : Cx) (J : Addr → Obj → HO → List (V × V) → It) (td : TE) : TI := fun σ H Rc => td σ H fun x H1 => ∃ a o L, x = .ref a ∧ H1 a = some o ∧ Mut (some o) ∧ EntsAt X H1 a L ∧ ∀ ob, Rc (J a ob o L) (upd H1 a (.frz ob o))
theorem ents_lock {pins : List (Addr × Obj)} {σ : L2.St} {H : Hp} {s : Shared} {a : Addr} {o : HO} {L : List (V × V)} (I : Inv X pins σ H s) (ho : H a = some o) (mu : Mut (some o)) (hE : EntsAt X H a L) :
    (a == sysModules) = false ∧ ∃ ob es ep, Inv X pins σ (upd H a (.frz ob o)) s ∧ EntsOf ob es ep L ∧ s.heap.DictRaw a es ep := by
  obtain ⟨hsm, es, ep, hr, hs, hk⟩ := hE pins σ s I
  obtain ⟨ob, I1⟩ := I.lock ho mu
  have e1 : s.heap.get? a = some ob := (show ObjOk X.prog X.w _ s.heap a (.frz ob o) from I1.hok a _ upd_same).1
  obtain ⟨ob', g1, g2, g3⟩ := id hr
  rw [e1] at g1
  cases g1
  exact ⟨hsm, ob, es, ep, I1, ⟨g2, g3, hs, hk⟩, hr⟩
theorem pi_dicK (he : PE X e td) : PI X tg e (iDic X ItDK td) := by
  refine ⟨fun pins s σ H R I h => ?_⟩
  refine thn (he.run pins s σ H _ I h) fun v s1 ⟨x, H1, I1, r1, a, o, L, ex, ho, mu, hE, q⟩ => ?_
  subst ex
  obtain rfl : v = Value.ref a := r1
  obtain ⟨hsm, ob, es, ep, I2, eo, hr⟩ := ents_lock I1 ho mu hE
  exact wpAny_pyIter_dict_raw hsm hr (pi_one (tk := s1.toks) I2 _ (turn_dk _ eo) ⟨_, Heap.get?_push_size _ rfl, rfl, rfl⟩ (q ob))
theorem pi_dicI {elts : List Expr} {kk : Nat} {tpos : Pos} (he : PE X e td) (hbase : attributeBase e "items" X.env (eval e X.env) = eval e X.env := by rfl) (hline : (apos.endLine == cpos.line) = true := by rfl) :
    PI X (.Tuple elts kk tpos) (.Call (.Attribute e "items" apos) [] [] cpos) (iDic X ItDI td) := by
  refine ⟨fun pins s σ H R I h => ?_⟩
  refine wpAny_Call_method0_late hbase hline (thn (he.run pins s σ H _ I h) fun v s1 ⟨x, H1, I1, r1, a, o, L, ex, ho, mu, hE, q⟩ => ?_)
  subst ex
  obtain rfl : v = Value.ref a := r1
  obtain ⟨hsm, ob, es, ep, I2, eo, hr⟩ := ents_lock I1 ho mu hE
  refine ⟨"dict", "dict.items", PySem.F.plainAttrs_dict, PySem.F.slot_dict_items, PySem.F.type_dict_items, hr.typeIs, fun b q => ?_, Calls.callWith_builtin rfl (PySem.evalArgs_none ?_)⟩
  · cases q
    obtain ⟨ob, h1, h2, _⟩ := hr
    exact ⟨ob, h1, h2.2.1⟩
  refine call_meetsIn PySem.F.slot_dict_items hr.typeIs PySem.F.entry_dict_items (PySem.F.args_dict_items_1 _) (PySem.meets_dict_items_raw a hsm) ⟨⟨es, ep, hr⟩, ?_⟩
  have I3 : Inv X pins σ (upd H1 a (.frz ob o)) { s1 with heap := s1.heap.push { cls := .type "dict_items", data := .fields #[.ref a] } } := I2.kept (t' := s1.toks) fun b ob q => Heap.get?_push_of_some _ q
  exact wpAny_pyIter_items_raw ⟨_, Heap.get?_push_size _ rfl, rfl, rfl⟩ (hr.at fun o' q => Heap.get?_push_of_some _ q) (pi_one (tk := s1.toks) I3 _ (turn_di _ eo) ⟨.none, .none, Heap.get?_push_size _ rfl⟩ (q ob))
end
/-- what a walk of a dict gives -/
def entsD (it : Bool) (kvs : List (D × D)) : List D := if it then kvs.map fun kv => .tup [kv.1, kv.2] else kvs.map (·.1)
def dforS (it : Bool) (n : Nat) (g : SG) (s : SS) : SS := fun ρ k => match ρ[n]? with
  | some (some (.dic _ kvs)) => forL g s (entsD it kvs) (ρ.set n none) k
  | _ => False
section
variable {X : Cx} {Z : Zs} {F H : Hp} {ρ : REnv} {σ : L2.St} {s : SS} {st : Stmt}
/-- the dict of a name is frozen, the name is no more known -/
theorem R.frzD {K : Kf} (r : R K Z F ρ σ H) {n : Nat} {b : Bool} {kvs : List (D × D)} (h : ρ[n]? = some (some (.dic b kvs))) {a : Addr} (ha : σ[n]? = some (some (.ref a))) {o : HO} (ho : H a = some o) (nf : ∀ ob u, o ≠ .frz ob u) (ob : Obj) : R K Z (upd F a (.frz ob o)) (ρ.set n none) σ (upd H a (.frz ob o)) := by
  obtain ⟨a', o', e1, e2, e3, e4, e5, e6⟩ := r.slot n _ h
  rw [ha] at e1
  cases e1
  rw [ho] at e2
  cases e2
  have nt : ∀ i (t : Slot), (ρ.set n none)[i]? = some (some t) → i ≠ n ∧ ρ[i]? = some (some t) := fun i t e => by
    by_cases hi : i = n
    · subst hi
      rw [List.getElem?_set] at e
      simp only [if_true] at e
      split at e <;> cases e
    · rw [List.getElem?_set_ne (Ne.symm hi)] at e; exact ⟨hi, e⟩
  have ex : Ex F (upd F a (.frz ob o)) := Ex.upd e4
  have ne : ∀ c u, F c = some u → c ≠ a := fun c u e z => by rw [z, e4] at e; cases e
  refine ⟨⟨fun c u e => ?_, r.base.f0.trans ex, fun c u hrw e => ?_, fun c e => ?_, fun c e => ?_, fun c e => ?_⟩, by rw [List.length_set]; exact r.len, fun i t e => ?_, fun i j t1 t2 c m1 m2 e1 e2 => r.apart i j t1 t2 c m1 m2 (nt i t1 e1).2 (nt j t2 e2).2⟩
  · by_cases hc : c = a
    · subst hc; rw [upd_same] at e ⊢; exact e
    · rw [upd_ne hc] at e ⊢; exact r.base.fh c u e
  · have hc : c ≠ a := fun z => by rw [z, e5] at e; cases e
    rw [upd_ne hc]; exact r.base.hh c u hrw e
  · by_cases hc : c = a
    · subst hc; exact .inr e5
    · rw [upd_ne hc] at e; exact r.base.new c e
  · obtain ⟨sc, ns, q, m, r0, k1, k2, k3⟩ := r.base.row c e
    refine ⟨sc, ns, q, m, r0, ?_, k2.keep fun o' q' => ?_, k3⟩
    · rw [upd_ne (fun z => e6 (by rw [← z]; exact e))]; exact k1
    · rw [upd_ne (fun z => nf o' _ (by rw [z, ho] at q'; exact Option.some.inj q'))]; exact q'
  · rw [upd_ne (fun z => e6 (by rw [← z]; exact e))]; exact r.base.frow c e
  · obtain ⟨hi, e⟩ := nt i t e
    have w := r.slot i t e
    have far : ∀ c, t.mine = true → σ[i]? = some (some (V.ref c)) → c ≠ a := fun c m e' z => hi (r.apart i n t _ a m rfl e h (by rw [← z]; exact e') ha)
    cases t with
    | sh d => obtain ⟨v, w1, w2⟩ := w; exact ⟨v, w1, Rep.ex ex _ _ w2⟩
    | own ds =>
      obtain ⟨c, vs, w1, w2, w3, w4, w5, w6⟩ := w
      have hc := far c rfl w1
      exact ⟨c, vs, w1, by rw [upd_ne hc]; exact w2, Reps.ex ex _ _ w3, by rw [upd_ne hc]; exact w4, w5, w6⟩
    | dic b' kv' =>
      obtain ⟨c, o', w1, w2, w3, w4, w5, w6⟩ := w
      have hc := far c rfl w1
      exact ⟨c, o', w1, by rw [upd_ne hc]; exact w2, w3.ex ex, by rw [upd_ne hc]; exact w4, w5, w6⟩
theorem dicR_mut {K : Kf} {rw : Option Addr} {a : Addr} {b : Bool} {kvs : List (D × D)} {o : HO} (h : DicR K rw F a b kvs o) : Mut (some o) ∧ ∀ ob u, o ≠ .frz ob u := by
  obtain ⟨_, h⟩ := h
  cases b with
  | true => obtain ⟨vs, rfl, _⟩ := h; exact ⟨trivial, fun _ _ z => nomatch z⟩
  | false => obtain ⟨xs, rfl, _⟩ := h; exact ⟨trivial, fun _ _ z => by unfold DkO at z; cases z⟩
def JD : Bool → Addr → Obj → HO → List (V × V) → It
  | true => ItDI
  | false => ItDK
/-- walked: every turn gives the next entry -/
theorem jd_turn {K : Kf} {it : Bool} {a : Addr} {ob : Obj} {o : HO} {kvs : List (D × D)} {ks vs : List V} {F1 : Hp} (hF : F1 a = some (.frz ob o)) (h1 : Reps K Z.rw F1 (kvs.map (·.1)) ks) (h2 : Reps K Z.rw F1 (kvs.map (·.2)) vs) : ItE K Z (JD it a ob o (ks.zip vs)) (entsD it kvs) F1 := fun F2 H2 i ex b2 => by
  have l1 : ks.length = kvs.length := by rw [h1.length, List.length_map]
  have l2 : vs.length = kvs.length := by rw [h2.length, List.length_map]
  have lz : (ks.zip vs).length = kvs.length := by rw [List.length_zip, l1, l2, Nat.min_self]
  have le : (entsD it kvs).length = kvs.length := by unfold entsD; split <;> rw [List.length_map]
  have wH : H2 a = some (.frz ob o) := b2.fh _ _ (ex _ _ hF)
  refine ⟨fun ei => ?_, fun d hd => ?_⟩
  · cases it <;> exact ⟨wH, by rw [lz, ei, le]; exact Nat.le_refl _⟩
  · have hi : i < kvs.length := by
      have := (List.getElem?_eq_some_iff.mp hd).1
      rw [le] at this; exact this
    have ek : (kvs.map (·.1))[i]? = some kvs[i].1 := by rw [List.getElem?_map, List.getElem?_eq_getElem hi]; rfl
    have ev : (kvs.map (·.2))[i]? = some kvs[i].2 := by rw [List.getElem?_map, List.getElem?_eq_getElem hi]; rfl
    obtain ⟨k, e1, r1⟩ := h1.get ek
    obtain ⟨v, e2, r2⟩ := h2.get ev
    have ez : (ks.zip vs)[i]? = some (k, v) := by rw [List.getElem?_zip_eq_some]; exact ⟨e1, e2⟩
    cases it with
    | false =>
      refine ⟨⟨wH, by rw [lz]; exact hi⟩, fun x H' y => ?_⟩
      obtain ⟨rfl, z, q1, rfl⟩ := y
      rw [ez] at q1
      cases q1
      have : d = kvs[i].1 := by
        have q : (kvs.map (·.1))[i]? = some d := hd
        rw [ek] at q
        exact (Option.some.inj q).symm
      subst this
      exact ⟨F2, Gr.refl b2, Rep.ex ex _ _ r1⟩
    | true =>
      refine ⟨⟨wH, by rw [lz]; exact hi⟩, fun x H' y => ?_⟩
      obtain ⟨T, z, q1, rfl, hT, rfl⟩ := y
      rw [ez] at q1
      cases q1
      have : d = .tup [kvs[i].1, kvs[i].2] := by
        have q : (kvs.map fun kv => D.tup [kv.1, kv.2])[i]? = some d := hd
        rw [List.getElem?_map, List.getElem?_eq_getElem hi] at q
        exact (Option.some.inj q).symm
      subst this
      exact turn_pair b2 hT (Rep.ex ex _ _ r1) (Rep.ex ex _ _ r2)
theorem S.dfor {it : Bool} {n : Nat} {tg : Expr} {is : List Nat} {gg : SG} {xs : List Stmt} (hg : G X tg is gg) (hs : Ss X xs s) (hp : PG X tg (TGof X.K is gg) → PSs X xs (TSof X.K s) → PS X st (tFor (iDic X (JD it) (tVar n)) (TGof X.K is gg) (TSof X.K s))) : S X st (dforS it n gg s) :=
  ⟨fun ρ k l hk q => by
    unfold dforS at *
    split at q
    · exact forL_mono hg.mono hs.mono _ _ k l hk q
    · exact q.elim, PS.weak (hp hg.run hs.run) fun D σ H ⟨Z, F, ρ, r, q⟩ => by
    unfold dforS at q
    split at q
    · rename_i bb kvs hn
      obtain ⟨a, o, h1, h2, hd, h6⟩ := r.dicAt hn
      obtain ⟨mu, nf⟩ := dicR_mut hd
      obtain ⟨ks, vs, r1, r2, hE⟩ := dic_ents r.base h2 hd
      refine ⟨.ref a, h1, a, o, ks.zip vs, rfl, h2, mu, hE H (fun p u _ e => e) h6, fun ob => ?_⟩
      have hFa : F a = none := by
        obtain ⟨a', _, e1, _, _, e4, _⟩ := r.slot n _ hn
        rw [h1] at e1; cases e1; exact e4
      have r' := r.frzD hn h1 h2 nf ob
      have ex0 : Ex F (upd F a (.frz ob o)) := Ex.upd hFa
      have hit : ItE X.K Z (JD it a ob o (ks.zip vs)) (entsD it kvs) (upd F a (.frz ob o)) := jd_turn upd_same (Reps.ex ex0 _ _ r1) (Reps.ex ex0 _ _ r2)
      generalize entsD it kvs = ds at q hit
      generalize ρ.set n none = ρ0 at q r'
      generalize e1 : upd F a (.frz ob o) = F1 at r' hit ex0
      refine ⟨fun i m σ' H' => m = ds.length - i ∧ i ≤ ds.length ∧ ∃ F' ρ', Ex F1 F' ∧ R X.K Z F' ρ' σ' H' ∧ forL gg s (ds.drop i) ρ' (kOf X.K Z F D), ⟨ds.length, by simp, Nat.zero_le _, F1, ρ0, Ex.refl _, r', q⟩, ?_⟩
      rintro i m σ' H' ⟨rfl, hle, F', ρ', ex, r2', q'⟩
      obtain ⟨t1, t2⟩ := hit F' H' i ex r2'.base
      by_cases hlt : i < ds.length
      · right
        have hdrop : ds.drop i = ds[i] :: ds.drop (i + 1) := List.drop_eq_getElem_cons hlt
        rw [hdrop] at q'
        obtain ⟨t3, t4⟩ := t2 ds[i] (List.getElem?_eq_getElem hlt)
        refine ⟨t3, fun σ3 H3 => ∃ F3 ρ3, Ex F1 F3 ∧ R X.K Z F3 ρ3 σ3 H3 ∧ forL gg s (ds.drop (i + 1)) ρ3 (kOf X.K Z F D), fun σ3 H3 h3 => ⟨ds.length - (i + 1), by omega, rfl, hlt, h3⟩, fun x H2 y => ?_⟩
        obtain ⟨F2, g2, rep⟩ := t4 x H2 y
        refine ⟨Z, F2, ρ', ds[i], r2'.grow g2, rep, hg.mono _ ρ' _ _ (fun ρ1 z σ1 r1' _ => ⟨Z, F2, ρ1, r1', hs.mono ρ1 (loopK (fun ρ3 => forL gg s (ds.drop (i + 1)) ρ3 (kOf X.K Z F D)) (kOf X.K Z F D)) _ ?_ z⟩) q'⟩
        have ex2 : Ex F1 F2 := ex.trans g2.f
        exact ⟨fun ρ3 y σ3 F3 H3 e3 r3 => ⟨F3, ρ3, ex2.trans e3, r3, y⟩, fun d y v F3 H3 e3 b3 rep => y v F3 H3 (ex0.trans (ex2.trans e3)) b3 rep, fun ρ3 y σ3 F3 H3 e3 r3 => y σ3 F3 H3 (ex0.trans (ex2.trans e3)) r3, fun ρ3 y σ3 F3 H3 e3 r3 => ⟨F3, ρ3, ex2.trans e3, r3, y⟩⟩
      · left
        have e : i = ds.length := by omega
        subst e
        rw [List.drop_length] at q'
        exact ⟨t1 rfl, q' σ' F' H' (ex0.trans ex) r2'⟩
    · exact q.elim⟩
end
/-! ### a dict of one pair; dict comprehensions; a dict of one's own moved -/

theorem nroomA {P : Program} {w : World} {A : Around} (hu : A.units + 10 < cLine) : (nestedKind P w).room A := by show A.units + 8 < cLine; omega
section
variable {X : Cx} {pos : Pos}
/-- a dict keyed by tuples: empty, as it stands -/
theorem dko_nil {pins : List (Addr × Obj)} {σ : L2.St} {H : Hp} {s : Shared} {a : Addr} {xs : List (NestedKey × Addr × Value)} (I : Inv X pins σ H s) (e : H a = some (DkO a xs)) (h : ∀ x ∈ xs, (nestedKind X.prog X.w).is s.heap x.1 x.2.1) : s.heap.DictOfH (nestedKind X.prog X.w) a xs ∧ (a == sysModules) = false := by
  obtain ⟨o, es, ep, h1, h2, h3, h4, h5, h6⟩ := (show (∃ o es ep, s.heap.get? a = some o ∧ o.ExactDict ∧ o.data = .dict es ep ∧ (∀ (P : Program) (w : World), es.toList = xs.map (entryOfKey (nestedKind P w))) ∧ (xs.map (·.1)).Nodup ∧ (a == sysModules) = false) from (show ObjOk X.prog X.w H s.heap a (DkO a xs) from I.hok a _ e).1)
  exact ⟨⟨o, es, ep, h1, h2, h3, h4 _ _, h, h5⟩, h6⟩
/-- {k: v} -/
def tDic1 (X : Cx) (tk tv : TE) : TE := fun σ H Q => ∀ D, H D = none → tk σ (upd H D (DkO D [])) fun y H2 => tv σ H2 fun z H3 => ∃ c nk, y = .ref c ∧ H3 D = some (DkO D []) ∧ KAt X H3 c nk ∧ nkOk nk = true ∧ ∀ u, RelV z u → Q (.ref D) (upd H3 D (DkO D [(nk, c, u)]))
theorem pe_dic1 {kx vx : Expr} {tk tv : TE} (hu : X.A.units + 10 < cLine) (hk : PE X kx tk) (hv : PE X vx tv)
    (hshape : (evalEachOpt [some kx] X.env).zip ((evalEach [vx] X.env).map fun v => do let x ← v; standAt pos; pure x) = [(some (eval kx X.env), do let x ← eval vx X.env; standAt pos; pure x)] := by rfl) : PE X (.Dict [some kx] [vx] pos) (tDic1 X tk tv) := by
  refine ⟨fun pins s σ H Q I h => ?_⟩
  have hs2 : (evalEachOpt [some kx] X.env).zip ((evalEach [vx] X.env).map fun v => do let x ← v; standAt pos; pure x) = [(eval kx X.env, (do let x ← eval vx X.env; standAt pos; pure x : Sem Value))].map fun p => (some p.1, p.2) := hshape
  rw [arm_eval_Dict, hs2, dictDisplay_pairs _ (by simp) (by simp)]
  have hD : H s.heap.objs.size = none := I.hok.fresh (Nat.le_refl _)
  have bigD : (s.heap.objs.size == sysModules) = false := beq_eq_false_iff_ne.mpr (Ne.symm (Nat.ne_of_lt I.big))
  have I1 : Inv X pins σ (upd H s.heap.objs.size (DkO s.heap.objs.size [])) { s with heap := s.heap.push { cls := .type "dict", data := .dict #[] } } :=
    I.laid (a := s.heap.objs.size) (o := DkO s.heap.objs.size []) (t' := s.toks) (fun _ _ q => Heap.get?_push_of_some _ q) (Nat.le_refl _) (dko_new (fun x hx => nomatch hx) bigD (Heap.DictOfH.new s.heap))
  refine wpAny_bind (wpAny_standAt (wpAny_bind (wpAny_subDictH (knd := nestedKind X.prog X.w) (nroomA hu) (by simp) (evalPairs_cons ?_))))
  refine thn (hk.run pins _ σ _ _ I1 (h _ hD)) fun kv s1 ⟨y, H2, I2, ry, q2⟩ => ?_
  refine wpAny_bind (thn (hv.run pins s1 σ H2 _ I2 q2) fun vv s2 ⟨z, H3, I3, rz, c, nk, ey, eD, hka, hnk, q3⟩ => wpAny_bind (wpAny_standAt (wpAny_pure (evalPairs_nil ?_))))
  subst ey
  obtain rfl : kv = Value.ref c := ry
  obtain ⟨dd, _⟩ := dko_nil I3 eD (fun x hx => nomatch hx)
  refine ⟨[(nk, c, vv)], ⟨rfl, rfl, ⟨hka.2 _ _ _ I3, hka.1⟩, trivial⟩, dd, fun h' tk dd' hs' => wpAny_pure ?_⟩
  have dd2 : h'.DictOfH (nestedKind X.prog X.w) s.heap.objs.size [(nk, c, vv)] := dd'
  refine ⟨.ref s.heap.objs.size, _, d_write (t' := tk) I3 (by rw [eD]; exact True.intro) hs' ?_ (dko_new (fun x hx => by rw [List.mem_singleton.mp hx]; exact hnk) bigD dd2), rfl, q3 vv rz⟩
  obtain ⟨o', es, ep, h1, _⟩ := dd2
  exact ⟨o', h1⟩
/-- a pair put into the dict at D -/
def DPut (X : Cx) (b : Bool) (D : Addr) (H : Hp) (y z : V) (N : Hp → Prop) : Prop := match b with
  | true => ∃ kvs k, y = kV k ∧ H D = some (.dK kvs) ∧ kvs.length < sizeLine ∧ N (upd H D (.dK (L2.putK kvs k z)))
  | false => ∃ c xs nk, y = .ref c ∧ H D = some (DkO D xs) ∧ (∀ Y : Cx, Y.K = X.K → DAt Y H D xs ∧ KAt Y H c nk) ∧ xs.length < big ∧ (∀ x ∈ xs, nkOk x.1 = true) ∧ nkOk nk = true ∧ ∀ u, RelV z u → N (upd H D (DkO D (storedH xs nk c u)))
def dO0 (b : Bool) (D : Addr) : HO := if b then .dK [] else DkO D []
theorem dput_run {Y : Cx} (hY : Y.K = X.K) (hu : Y.A.units + 10 < cLine) {b : Bool} {D : Addr} {pins : List (Addr × Obj)} {σ : L2.St} {H : Hp} {s : Shared} {y z : V} {u r : Value} {N : Hp → Prop} {Q : Unit → Shared → Prop} {E : Value → Shared → Prop} (I : Inv Y pins σ H s) (ry : RelV y u) (rz : RelV z r) (h : DPut X b D H y z N)
    (fin : ∀ s' H', Inv Y pins σ H' s' → N H' → Q () s') : wpAny (model Y.prog Y.w) Y.A (dictSet D u r) Q E s := by
  cases b with
  | true =>
    obtain ⟨kvs, k, rfl, hD, hz, n⟩ := h
    exact d_dictSet I hD hz ry rz fun s' I' => fin s' _ I' n
  | false =>
    obtain ⟨c, xs, nk, rfl, hD, hdk, hz, hok, hnk, n⟩ := h
    obtain rfl : u = Value.ref c := ry
    obtain ⟨hd, hk⟩ := hdk Y hY
    obtain ⟨dd, hsm⟩ := hd _ _ _ I
    refine wpAny_dictSet_heap (hsz := big_line (Nat.le_of_lt hz)) (knd := nestedKind Y.prog Y.w) (nroomA hu) ⟨hk.2 _ _ _ I, hk.1⟩ dd fun h' dd' hs' => fin _ _ (d_write I (by rw [hD]; exact True.intro) hs' ?_ (dko_new (storedH_ok hok hnk) hsm dd')) (n r rz)
    obtain ⟨o', es, ep, h1, _⟩ := dd'
    exact ⟨o', h1⟩
theorem dO0_new (b : Bool) {P : Program} {w : World} {H' : Hp} (h : Heap) (hb : sysModules < h.objs.size) : ObjOk P w H' (h.push { cls := .type "dict", data := .dict #[] }) h.objs.size (dO0 b h.objs.size) := by
  cases b with
  | true => exact dk_empty h hb
  | false => exact dko_new (fun x hx => nomatch hx) (beq_eq_false_iff_ne.mpr (Ne.symm (Nat.ne_of_lt hb))) (Heap.DictOfH.new h)
end
section
variable {X : Cx}
/-- {k: v for target in iter if ..}, the dict at D -/
def tDcG (X : Cx) (kd : Bool) (wi : TI) (g : TG) (tt : TT) (tk tv : TE) (vs : List Nat) : TE := fun σ H Q => wi σ H fun J H1 => ∀ D, H1 D = none → ∃ W : Nat → Nat → Hp → Prop, (∃ m, W 0 m (upd H1 D (dO0 kd D))) ∧ ∀ i m H, W i m H →
  (J.stop i H ∧ Q (.ref D) H) ∨ (J.go i H ∧ ∃ Nx : Hp → Prop, (∀ H', Nx H' → ∃ m', m' < m ∧ W (i + 1) m' H') ∧ ∀ x H', J.yld i H x H' → g x (wipe σ vs) H' fun σ2 H2 => wipe σ2 vs = wipe σ vs ∧ tt σ2 H2 fun c H3 =>
    if c = true then tk σ2 H3 fun y H4 => tv σ2 H4 fun z H5 => DPut X kd D H5 y z Nx else Nx H3)
theorem dc_coreG {kd : Bool} (hu : X.A.units + 10 < cLine) {pins : List (Addr × Obj)} {s : Shared} {σ : L2.St} {H : Hp} {Q : VK} {kx vx tg iter : Expr} {ifs : List Expr} {scope : Scope} {own : List (Str × Nat)} {pos pos' : Pos} {wi : TI} {g : TG} {tt : TT} {tk tv : TE} {use : Option (Value → Sem Unit)} {Qf : Value → Shared → Prop}
    (hc : X.calm = true) (hN : X.N.Nodup) (I : Inv X pins σ H s) (hi : PI X tg iter wi) (ok : BlkOk X.N X.env.scope scope own)
    (hg : ∀ (s : Shared) (H : Hp) (C : Addr) (cl : List (Str × Addr)) (fp : List Addr), PG (X.blk s H scope (compEnvC scope cl C X.env) fp) tg g) (ht : ∀ (s : Shared) (H : Hp) (C : Addr) (cl : List (Str × Addr)) (fp : List Addr), PTs (X.blk s H scope (compEnvC scope cl C X.env) fp) ifs tt)
    (hk : ∀ (s : Shared) (H : Hp) (C : Addr) (cl : List (Str × Addr)) (fp : List Addr), PE (X.blk s H scope (compEnvC scope cl C X.env) fp) kx tk)
    (he : ∀ (s : Shared) (H : Hp) (C : Addr) (cl : List (Str × Addr)) (fp : List Addr), PE (X.blk s H scope (compEnvC scope cl C X.env) fp) vx tv) (hs : ∀ x, foldedSetIterable iter X.env x = pure x)
    (h : tDcG X kd wi g tt tk tv (own.map (·.2)) σ H Q)
    (hRR : ∀ D C s' m H', Inv X pins σ H' s' → Q (.ref D) H' → s'.heap.Ns C m → FpOk X pins H' C → compPost (model X.prog X.w) X.A X.xe use Qf (.ref D) C (.ok .next) s') :
    wpAny (model X.prog X.w) X.A (comprehension (.DictComp kx vx [⟨tg, iter, ifs, 0⟩] scope pos) scope X.env pos' newDict false (eval iter X.env) use) Qf X.xe s := by
  have hfree : ∀ y ∈ scope.names, y.2 = .free → ∃ c, X.env.cells.lookup y.1 = some c := fun y hy e => by
    rcases ok.free y hy e with k | k
    · exact I.ok.has _ (.inl k)
    · exact I.ok.has _ (.inr k)
  refine wpAny_comprehension_free (use := use) rfl hs (closure_ok hfree) ok.kind (fun y hy e => by rw [ok.uniq y hy, e])
    (thn (hi.run pins s σ H _ I h) fun xv s1 hx => thn hx fun itv s2 h2 => ?_)
  obtain ⟨it, fp, tn, J, H2, e, I2, T, st2, f2, q⟩ := h2
  subst e
  refine wpAny_newObj_type (newEnv_comp ?_)
  generalize hD : s2.heap.objs.size = D
  have hDn : H2 D = none := I2.hok.fresh (Nat.le_of_eq hD)
  obtain ⟨W, ⟨m0, w0⟩, turn⟩ := q D hDn
  -- the new list
  generalize hs3 : ({ s2 with heap := s2.heap.push { cls := .type "dict", data := .dict #[] } } : Shared) = s3
  have I3 : Inv X pins σ (upd H2 D (dO0 kd D)) s3 := by
    rw [← hs3]
    refine I2.laid (t' := s2.toks) (fun b o e => Heap.get?_push_of_some _ e) (Nat.le_of_eq hD) ?_
    rw [← hD]
    exact dO0_new kd s2.heap I2.big
  have h3 : s3.heap = s2.heap.push { cls := .type "dict", data := .dict #[] } := by rw [← hs3]
  have sz : ∀ b ∈ fp, b < s2.heap.objs.size := fun b hb => by
    obtain ⟨o, e, _⟩ := T.obj _ _ st2 b hb
    exact Heap.lt_size e
  have f3 : ∀ b ∈ fp, FpOk X pins (upd H2 D (dO0 kd D)) b ∧ b < s3.heap.objs.size := fun b hb => by
    have hlt := sz b hb
    refine ⟨⟨?_, (f2 b hb).2⟩, by rw [h3, Heap.size_push]; exact Nat.lt_succ_of_lt hlt⟩
    rw [upd_ne (by rw [← hD]; exact Nat.ne_of_lt hlt)]
    exact (f2 b hb).1
  have st3 : tn 0 s3.heap := T.keep _ _ _ st2 fun b _ o e => by rw [h3]; exact Heap.get?_push_of_some _ e
  have I4 := block_start I3 ok hN f3
  have pg := hg s3 (upd H2 D (dO0 kd D)) s3.heap.objs.size (cellsFrom (s3.heap.objs.size + 1) scope.names (cloFrom X.env.cells scope.names [])) fp
  have pt := ht s3 (upd H2 D (dO0 kd D)) s3.heap.objs.size (cellsFrom (s3.heap.objs.size + 1) scope.names (cloFrom X.env.cells scope.names [])) fp
  have pk := hk s3 (upd H2 D (dO0 kd D)) s3.heap.objs.size (cellsFrom (s3.heap.objs.size + 1) scope.names (cloFrom X.env.cells scope.names [])) fp
  have pe := he s3 (upd H2 D (dO0 kd D)) s3.heap.objs.size (cellsFrom (s3.heap.objs.size + 1) scope.names (cloFrom X.env.cells scope.names [])) fp
  show codeAny _ _ (.compStart (.DictComp kx vx [⟨tg, iter, ifs, 0⟩] scope pos) 0 (.ref it) (.ref D) (compEnvC scope (cellsFrom (s3.heap.objs.size + 1) scope.names (cloFrom X.env.cells scope.names [])) s3.heap.objs.size X.env)) (compPost (model X.prog X.w) X.A X.xe use Qf (.ref D) s3.heap.objs.size) { s3 with heap := pushCells (s3.heap.push { cls := .type "dict", data := .dict #[] }) scope.names }
  have nfp : ∀ b ∈ fp, (upd H2 D (dO0 kd D)) b = none := fun b hb => (f3 b hb).1.1
  generalize hce : compEnvC scope (cellsFrom (s3.heap.objs.size + 1) scope.names (cloFrom X.env.cells scope.names [])) s3.heap.objs.size X.env = ce at I4 pg pt pk pe ⊢
  have cL : ce.locals = s3.heap.objs.size := by subst hce; rfl
  generalize hH3 : upd H2 D (dO0 kd D) = H3 at I3 I4 pg pt pk pe w0 nfp f3
  generalize hs4 : ({ s3 with heap := pushCells (s3.heap.push { cls := .type "dict", data := .dict #[] }) scope.names } : Shared) = s4 at I4 ⊢
  have st4 : tn 0 s4.heap := T.keep _ _ _ st3 fun b _ o e => by rw [← hs4]; exact pushCells_keeps _ _ _ _ (Heap.get?_push_of_some _ e)
  have stat : ∀ {σ' : L2.St} {H' : Hp} {s' : Shared}, Inv (X.blk s3 H3 scope ce fp) [] σ' H' s' → (∀ b ∈ fp, H' b = none) → ∀ b ∈ fp, FpOk (X.blk s3 H3 scope ce fp) [] H' b := fun {σ' H' s'} I' hn b hb =>
    ⟨hn b hb, (I'.ok.exf b hb).1, I'.ok.exfs b hb, .inl hb, fun x c e => (I'.ok.exf b hb).2 x c e, fun p hp => absurd (show p ∈ ([] : List (Addr × Obj)) ++ [] from hp) (by simp)⟩
  have loop : codeAny (model X.prog X.w) X.A (.compLoop (.DictComp kx vx [⟨tg, iter, ifs, 0⟩] scope pos) 0 (.ref it) (.ref D) ce) (compPost (model X.prog X.w) X.A X.xe use Qf (.ref D) s3.heap.objs.size) s4 := by
    refine compLoop_anyD (fun n s' => ∃ i H', Inv (X.blk s3 H3 scope ce fp) [] (wipe σ (own.map (·.2))) H' s' ∧ tn i s'.heap ∧ (∀ b ∈ fp, H' b = none) ∧ W i n H') ?_ m0 ⟨0, H3, I4, st4, nfp, w0⟩
    rintro n s5 ⟨i, H5, I5, st5, n5, w5⟩
    rcases turn i n H5 w5 with ⟨stop, qq⟩ | ⟨go, Nx, hNx, step⟩
    · have td := T.done (X.blk s3 H3 scope ce fp) rfl rfl rfl hc i [] s5 _ H5 (fun _ _ => False) I5 (stat I5 n5) st5 stop
      refine thnF td fun r s6 ⟨hr, I6⟩ => ?_
      subst hr
      -- back in the def's context
      have I7 : Inv X pins σ H5 s6 := I3.call' (ch := fp) I6.os I6.base I6.hok I6.bare fun b hb => ⟨(f3 b hb).1.2.2.2.1, (f3 b hb).1.2.1, (f3 b hb).1.2.2.2.2.1, (f3 b hb).1.2.2.2.2.2⟩
      have nC : H5 s3.heap.objs.size = none := by
        have z : H5 ce.locals = none := I6.free
        rw [cL] at z
        exact z
      obtain ⟨m, hn, _⟩ := I6.loc
      have hn : s6.heap.Ns ce.locals m := hn
      rw [cL] at hn
      exact hRR D s3.heap.objs.size s6 m H5 I7 qq hn (I3.fpOk (Nat.le_refl _) nC)
    · have ti := T.item (X.blk s3 H3 scope ce fp) rfl rfl rfl hc i [] s5 _ H5 (fun _ _ => False) I5 (stat I5 n5) st5 go
      refine thnF ti fun r s6 ⟨u, hr, h6⟩ => ?_
      subst hr
      refine thnF h6 fun _ s7 ⟨x, H7, I7, r7, y7, st7, n7⟩ => ?_
      have I7' := I7.pinned (stat I7 n7) (T.obj _ _ st7)
      refine thnF (pg.run _ s7 _ H7 x u _ I7' r7 (step x H7 y7)) fun _ s8 ⟨σ8, H8, I8, hw8, q8⟩ => ?_
      refine thnF (pt.run _ s8 σ8 H8 _ I8 q8) fun bb s9 ⟨H9, I9, q9⟩ => ?_
      -- the turn's end
      have fin : ∀ {s' : Shared} {H' : Hp}, Inv (X.blk s3 H3 scope ce fp) ([] ++ pinsAt fp s7.heap) σ8 H' s' → Nx H' → ∃ m, m < n ∧ ∃ i H', Inv (X.blk s3 H3 scope ce fp) [] (wipe σ (own.map (·.2))) H' s' ∧ tn i s'.heap ∧ (∀ b ∈ fp, H' b = none) ∧ W i m H' := fun {s' H'} I' nx => by
        obtain ⟨m', hm, w'⟩ := hNx H' nx
        have pin' : ∀ b ∈ fp, ∀ o, s7.heap.get? b = some o → s'.heap.get? b = some o ∧ H' b = none := fun b hb o e =>
          let z := I'.pin (b, o) (List.mem_append_right _ (List.mem_append_right _ (mem_pinsAt hb e)))
          ⟨z.1, z.2.1⟩
        have hl : (wipe σ (own.map (·.2))).length = σ8.length := by rw [← hw8, wipe_length]
        refine ⟨m', hm, i + 1, H', (I'.unpinned (pins := [])).weak hl (fun j v e => ?_), T.keep _ _ _ st7 fun b hb o e => (pin' b hb o e).1, fun b hb => ?_, w'⟩
        · rw [← hw8] at e
          exact (wipe_some e).1
        · obtain ⟨o, e, _⟩ := T.obj _ _ st7 b hb
          exact (pin' b hb o e).2
      cases bb with
      | false =>
        simp only [Bool.false_eq_true, if_false] at q9 ⊢
        exact fin I9 q9
      | true =>
        simp only [if_true] at q9 ⊢
        refine thnF (pk.run _ s9 σ8 H9 _ I9 q9) fun z s10 ⟨yk, H10, I10, r10, q10⟩ => ?_
        refine thnF (pe.run _ s10 σ8 H10 _ I10 q10) fun z2 s11 ⟨yv, H11, I11, r11, nx⟩ => ?_
        exact dput_run (X := X) (Y := X.blk s3 H3 scope ce fp) rfl hu I11 r10 r11 nx fun s12 H12 I12 n12 => fin I12 n12
  exact codeAny_compStart_dict loop (T.self X.A 0 _ _ _ st4 loop)
/-- as a value -/
theorem pe_dcG {kd : Bool} {kx vx tg iter : Expr} {ifs : List Expr} {scope : Scope} {own : List (Str × Nat)} {pos : Pos} {wi : TI} {g : TG} {tt : TT} {tk tv : TE} (hu : X.A.units + 10 < cLine) (hc : X.calm = true) (hN : X.N.Nodup) (ok : BlkOk X.N X.env.scope scope own) (hi : PI X tg iter wi)
    (hg : ∀ (s : Shared) (H : Hp) (C : Addr) (cl : List (Str × Addr)) (fp : List Addr), PG (X.blk s H scope (compEnvC scope cl C X.env) fp) tg g) (ht : ∀ (s : Shared) (H : Hp) (C : Addr) (cl : List (Str × Addr)) (fp : List Addr), PTs (X.blk s H scope (compEnvC scope cl C X.env) fp) ifs tt)
    (hk : ∀ (s : Shared) (H : Hp) (C : Addr) (cl : List (Str × Addr)) (fp : List Addr), PE (X.blk s H scope (compEnvC scope cl C X.env) fp) kx tk)
    (he : ∀ (s : Shared) (H : Hp) (C : Addr) (cl : List (Str × Addr)) (fp : List Addr), PE (X.blk s H scope (compEnvC scope cl C X.env) fp) vx tv) (hs : ∀ x, foldedSetIterable iter X.env x = pure x := by intro _; rfl) :
    PE X (.DictComp kx vx [⟨tg, iter, ifs, 0⟩] scope pos) (tDcG X kd wi g tt tk tv (own.map (·.2))) := by
  refine ⟨fun pins s σ H Q I h => ?_⟩
  rw [arm_eval_DictComp]
  refine dc_coreG hu hc hN I hi ok hg ht hk he hs h fun D C s' m H' I' q hn f => ⟨m, hn, fun h'' sb => ?_⟩
  obtain ⟨f0, f1, f2, f3, f4, f5⟩ := f
  exact ⟨.ref D, H', I'.turned (t' := s'.toks) (fun b o hb e => (sb.2 b hb).trans e) f0 f1 f3 f4 f5, rfl, q⟩
theorem ps_setDcG {kd : Bool} (hu : X.A.units + 10 < cLine) {i : Nat} {y : Str} {py : Pos} {kx vx tg iter : Expr} {ifs : List Expr} {scope : Scope} {own : List (Str × Nat)} {pos spos : Pos} {wi : TI} {g : TG} {tt : TT} {tk tv : TE} (hc : X.calm = true) (hN : X.N.Nodup) (hy : X.N[i]? = some y) (hyl : X.env.scope.names.lookup y = some .local)
    (hsw : swapsWith (.DictComp kx vx [⟨tg, iter, ifs, 0⟩] scope pos) (some (.Name y py)) spos.line X.env = pure true) (hi : PI X tg iter wi) (ok : BlkOk X.N X.env.scope scope own)
    (hg : ∀ (s : Shared) (H : Hp) (C : Addr) (cl : List (Str × Addr)) (fp : List Addr), PG (X.blk s H scope (compEnvC scope cl C X.env) fp) tg g) (ht : ∀ (s : Shared) (H : Hp) (C : Addr) (cl : List (Str × Addr)) (fp : List Addr), PTs (X.blk s H scope (compEnvC scope cl C X.env) fp) ifs tt)
    (hk : ∀ (s : Shared) (H : Hp) (C : Addr) (cl : List (Str × Addr)) (fp : List Addr), PE (X.blk s H scope (compEnvC scope cl C X.env) fp) kx tk)
    (he : ∀ (s : Shared) (H : Hp) (C : Addr) (cl : List (Str × Addr)) (fp : List Addr), PE (X.blk s H scope (compEnvC scope cl C X.env) fp) vx tv) (hs : ∀ x, foldedSetIterable iter X.env x = pure x := by intro _; rfl) :
    PS X (.Assign [.Name y py] (.DictComp kx vx [⟨tg, iter, ifs, 0⟩] scope pos) spos) (tAsg (tDcG X kd wi g tt tk tv (own.map (·.2))) (gName i)) := by
  refine ⟨fun pins s σ H D I h => ?_⟩
  rw [exec_Assign_Name_used _ _ _ _ hsw]
  refine wpAny_bind (wpAny_standAt (wpAny_bind ?_))
  show wpAny _ X.A (do let _ ← comprehension (.DictComp kx vx [⟨tg, iter, ifs, 0⟩] scope pos) scope X.env (firstIterPos [⟨tg, iter, ifs, 0⟩] pos) newDict false (eval iter X.env) (some (assign (.Name y py) X.env))) _ _ s
  have h : tDcG X kd wi g tt tk tv (own.map (·.2)) σ H (fun x H1 => gName i x σ H1 D.nx) := h
  refine wpAny_bind (thn (dc_coreG (Qf := fun _ s' => SP X pins D .next s') hu hc hN I hi ok hg ht hk he hs h fun L C s' m H' I' q hn f => ?_) fun _ s' hq => wpAny_pure (wpAny_pure hq))
  show wpAny _ _ (assign (.Name y py) X.env (.ref L)) _ _ _
  refine wpAny_assign_Name (store_ok2 (v := V.ref L) I' hN hy (.inl hyl) rfl (fun s2 I2 ⟨a, sb, ha⟩ => ?_) (.inr hyl))
  obtain ⟨f0, f1, f2, f3, f4, f5⟩ := f
  have haC : C ≠ a := by
    rcases ha with z | z
    · rw [z]; exact f1
    · exact fun e => f4 y a z e.symm
  refine ⟨m, hn.sameBut sb haC, fun h3 sb3 => ?_⟩
  exact ⟨_, H', I2.turned (t' := s2.toks) (fun b o hb e => (sb3.2 b hb).trans e) f0 f1 f3 f4 f5, q⟩
theorem sw_trueD {kx vx : Expr} {gs : List Comprehension} {scope : Scope} {pos py : Pos} {y : Str} {l : Nat} {env : Env} (hk : env.scope.kind = .function) (hy : env.scope.names.lookup y = some .local) (hl : (py.line == pos.line) = true)
    (ha : (scope.names.any fun (n, k) => n == y && (k == .local || k == .cell)) = false) : swapsWith (.DictComp kx vx gs scope pos) (some (.Name y py)) l env = pure true := by
  have ky : env.kindOf y = some .local := hy
  have hb : env.blockKind = .function := by unfold Env.blockKind; rw [hk]; rfl
  unfold swapsWith
  simp only [hb, ky, ha, Expr.pos, hl]
  rfl
end
/-! ### dict comprehensions: meanings -/
section
variable {X : Cx} {e a b c : Expr} {f g k : SE} {pos : Pos} {st : Stmt} {fk fv : SE} {t : ST}
def dcL (g : SG) (t : ST) (fk fv : SE) (kd : Bool) (ρ : REnv) : List D → List (D × D) → (List (D × D) → Prop) → Prop
  | [], acc, Q => Q acc
  | d :: ds, acc, Q => g d ρ fun ρ1 => t ρ1 fun b => br b (fk ρ1 fun k => fv ρ1 fun v => (kfit kd k = true ∧ acc.length < big) ∧ dcL g t fk fv kd ρ ds (putK acc k v) Q) (dcL g t fk fv kd ρ ds acc Q)
theorem dcL_mono {g : SG} {kd : Bool} (mg : MonoG g) (mt : MonoE t) (mk : MonoE fk) (mv : MonoE fv) {ρ : REnv} : ∀ (ds : List D) (acc : List (D × D)) (P Q : List (D × D) → Prop), (∀ d, P d → Q d) → dcL g t fk fv kd ρ ds acc P → dcL g t fk fv kd ρ ds acc Q
  | [], _, _, _, h, q => h _ q
  | d :: ds, acc, P, Q, h, q => mg d ρ _ _ (fun ρ1 z => mt ρ1 _ _ (fun b hb => br_imp hb (fun z => mk ρ1 _ _ (fun y hy => mv ρ1 _ _ (fun v hv => ⟨hv.1, dcL_mono mg mt mk mv ds _ _ _ h hv.2⟩) hy) z) (fun z => dcL_mono mg mt mk mv ds _ _ _ h z)) z) q
def dcA (it : SA) (g : SG) (t : ST) (fk fv : SE) (kd : Bool) (vs : List Nat) : REnv → (List (D × D) → Prop) → Prop := fun ρ Q => it ρ fun xs => dcL g t fk fv kd (wipeE ρ vs) xs [] Q
def setDc (i : Nat) (kd : Bool) (F : REnv → (List (D × D) → Prop) → Prop) : SS := fun ρ k => F ρ fun kvs => k.nx (ρ.set i (some (.dic kd kvs)))
theorem dicR_nil {K : Kf} {rw : Option Addr} {F : Hp} {kd : Bool} {D : Addr} : DicR K rw F D kd [] (dO0 kd D) := by
  cases kd with
  | true => exact ⟨Nat.zero_le _, [], rfl, rfl⟩
  | false => exact ⟨Nat.zero_le _, [], rfl, rfl⟩
/-- what is put at D: the dict with one pair more -/
theorem dput_of {Z : Zs} {F H : Hp} {kd : Bool} {D : Addr} {acc : List (Z0.D × Z0.D)} {o : HO} {y z : V} {kk vv : Z0.D} {N : Hp → Prop} (b : Base X.K Z F H) (ho : H D = some o) (hd : DicR X.K Z.rw F D kd acc o) (hf : kfit kd kk = true) (hl : acc.length < big) (ry : Rep X.K Z.rw F kk y) (rz : Rep X.K Z.rw F vv z)
    (n : ∀ o', DicR X.K Z.rw F D kd (putK acc kk vv) o' → (∀ ob u, o' ≠ .frz ob u) → N (upd H D o')) : DPut X kd D H y z N := by
  obtain ⟨_, hd⟩ := hd
  cases kd with
  | true =>
    obtain ⟨vs, rfl, hI⟩ := hd
    obtain ⟨j, rfl⟩ := kfit_int hf
    obtain rfl : y = .int j := ry
    exact ⟨vs, Sum.inl j, rfl, ho, by rw [hI.length]; exact big_lt hl, n _ ⟨Nat.le_trans putK_len hl, _, rfl, hI.put rz⟩ (fun _ _ q => nomatch q)⟩
  | false =>
    obtain ⟨xs, rfl, hT⟩ := hd
    obtain ⟨hd1, hk1⟩ := kfit_tup hf
    obtain ⟨c, rfl⟩ := tup_ref hd1 ry
    refine ⟨c, xs, nkD kk, rfl, ho, fun Y hY => ?_, by rw [hT.length]; exact hl, hT.ok, hk1, fun u ru => n _ ⟨Nat.le_trans putK_len hl, _, rfl, hT.put hk1 ry rz ru⟩ (fun _ _ q => by unfold DkO at q; cases q)⟩
    have b' : Base Y.K Z F H := by rw [hY]; exact b
    have hT' : DTup nkD Y.K Z.rw F acc xs := by rw [hY]; exact hT
    have ry' : Rep Y.K Z.rw F kk (.ref c) := by rw [hY]; exact ry
    exact ⟨fun _ _ _ I => dko_at I b' ho hT', kat_of b' hk1 ry'⟩
theorem dc_tp {kd : Bool} {it : SA} {g : SG} {is vs : List Nat} (mi : MonoE it) (mg : MonoG g) (mt : MonoE t) (mk : MonoE fk) (mv : MonoE fv) (hv : ∀ i ∈ is, i ∈ vs) {i0 : Nat} : ∀ Dd σ H, TSof X.K (setDc i0 kd (dcA it g t fk fv kd vs)) Dd σ H →
    tAsg (tDcG X kd (TIGof X.K it) (TGof X.K is g) (TTof X.K t) (TEof X.K fk) (TEof X.K fv) vs) (gName i0) Dd σ H := fun Dd σ H ⟨Z, F, ρ, r, q⟩ => by
  refine ⟨Z, F, ρ, r, mi ρ _ _ (fun xs hx J F1 H1 g1 hit => ?_) q⟩
  intro D hD
  have r1 := r.grow g1
  have nrow := g1.b.norow hD
  have hF1 : F1 D = none := g1.b.fh.none hD
  have fin0 : ∀ {F' H' : Hp} {acc : List (Z0.D × Z0.D)} {o : HO}, Gr X.K Z F1 H1 F' H' → F' D = none → H' D = some o → DicR X.K Z.rw F' D kd acc o → (kOf X.K Z F Dd).nx (ρ.set i0 (some (.dic kd acc))) → Dd.nx (σ.set i0 (some (.ref D))) H' := fun {F' H' acc o} g2 hFD ho hdr hk =>
    hk _ F' H' (g1.trans g2).f (((r.grow (g1.trans g2)).setDic i0 ho ⟨hFD, g1.b.h0 hD, nrow, fun i s m es ez => own_ne r1 hD i s m es ez⟩ hdr))
  refine ⟨fun i m H' => m = xs.length - i ∧ i ≤ xs.length ∧ ∃ F' acc o, Gr X.K Z F1 H1 F' H' ∧ F' D = none ∧ H' D = some o ∧ (∀ ob u, o ≠ .frz ob u) ∧ DicR X.K Z.rw F' D kd acc o ∧ dcL g t fk fv kd (wipeE ρ vs) (xs.drop i) acc (fun kvs => (kOf X.K Z F Dd).nx (ρ.set i0 (some (.dic kd kvs)))), ⟨xs.length, by simp, Nat.zero_le _, F1, [], dO0 kd D, g1.b.lay0 hD, hF1, upd_same, fun ob u e => by cases kd <;> · unfold dO0 at e; first | cases e | (simp only [Bool.false_eq_true, if_false] at e; unfold DkO at e; cases e) | (simp at e), dicR_nil, ?_⟩, ?_⟩
  · simpa using hx
  rintro i m H' ⟨rfl, hle, F', acc, o, g2, hFD, hHD, nf, hdr, q'⟩
  obtain ⟨t1, t2⟩ := hit F' H' i g2
  by_cases hlt : i < xs.length
  · right
    have hdrop : xs.drop i = xs[i] :: xs.drop (i + 1) := List.drop_eq_getElem_cons hlt
    rw [hdrop] at q'
    obtain ⟨t3, t4⟩ := t2 xs[i] (List.getElem?_eq_getElem hlt)
    refine ⟨t3, fun H3 => ∃ F3 acc o, Gr X.K Z F1 H1 F3 H3 ∧ F3 D = none ∧ H3 D = some o ∧ (∀ ob u, o ≠ .frz ob u) ∧ DicR X.K Z.rw F3 D kd acc o ∧ dcL g t fk fv kd (wipeE ρ vs) (xs.drop (i + 1)) acc (fun kvs => (kOf X.K Z F Dd).nx (ρ.set i0 (some (.dic kd kvs)))), fun H3 h3 => ⟨xs.length - (i + 1), by omega, rfl, hlt, h3⟩, fun x H2 y => ?_⟩
    obtain ⟨F2, g3, rep⟩ := t4 x H2 y
    have keepD : ∀ {Fa Ha Fb Hb : Hp}, Gr X.K Z Fa Ha Fb Hb → Fa D = none → Ha D = some o → Fb D = none ∧ Hb D = some o := fun {Fa Ha Fb Hb} gg h1 h2 => by
      refine ⟨?_, gg.h D _ nrow h2⟩
      cases z : Fb D with
      | none => rfl
      | some o' =>
        rcases gg.n D (by rw [z]; simp) with w | w
        · exact absurd h1 w
        · rw [h2] at w; cases w
    obtain ⟨d1, d2⟩ := keepD g3 hFD hHD
    refine ⟨Z, F2, wipeE ρ vs, xs[i], ((r.grow g1).grow (g2.trans g3)).wipe vs, rep, mg _ _ _ _ (fun ρ1 z σ1 r1' hw => ⟨by rw [hw vs hv]; exact wipe_wipe, Z, F2, ρ1, r1', mt ρ1 _ _ (fun b hb F4 H4 g4 => ?_) z⟩) q'⟩
    obtain ⟨d3, d4⟩ := keepD g4 d1 d2
    refine br_ite (br_imp hb (fun z => ?_) (fun z => ?_))
    · refine ⟨Z, F4, ρ1, r1'.grow g4, mk ρ1 _ _ (fun kk hk v F5 H5 g5 rep5 => ?_) z⟩
      obtain ⟨d5, d6⟩ := keepD g5 d3 d4
      refine ⟨Z, F5, ρ1, (r1'.grow g4).grow g5, mv ρ1 _ _ (fun vv hvv v2 F6 H6 g6 rep6 => ?_) hk⟩
      obtain ⟨d7, d8⟩ := keepD g6 d5 d6
      have gg : Gr X.K Z F1 H1 F6 H6 := (g2.trans g3).trans ((g4.trans g5).trans g6)
      obtain ⟨⟨hf, hl⟩, hrest⟩ := hvv
      refine dput_of gg.b d8 (hdr.ex ((g3.trans g4).trans (g5.trans g6)).f) hf hl (Rep.ex g6.f _ _ rep5) rep6 fun o' hdr' nf' => ?_
      refine ⟨F6, putK acc kk vv, o', ?_, d7, upd_same, nf', hdr', hrest⟩
      have hH1 : H1 D = none := hD
      refine ⟨gg.f, fun a o n e => ?_, ⟨fun a u e => ?_, gg.b.f0, fun a u n e => ?_, gg.b.new, fun a e => ?_, gg.b.frow⟩, gg.n⟩
      · rw [upd_ne (ne_of_none e hH1)]; exact gg.h a o n e
      · rw [upd_ne (fun z : a = D => by rw [z, d7] at e; cases e)]; exact gg.b.fh a u e
      · rw [upd_ne (fun z : a = D => by rw [z, g1.b.h0 hD] at e; cases e)]; exact gg.b.hh a u n e
      · obtain ⟨sc, ns, p, mm, tt, w1, w2, w3⟩ := gg.b.row a e
        refine ⟨sc, ns, p, mm, tt, ?_, w2.keep fun o q => ?_, w3⟩
        · rw [upd_ne (fun z : a = D => nrow (by rw [← z]; exact e))]; exact w1
        · rw [upd_ne (fun z : sc = D => nf o _ (by rw [z, d8] at q; exact Option.some.inj q))]; exact q
    · exact ⟨F4, acc, o, (g2.trans g3).trans g4, d3, d4, nf, hdr.ex (g3.trans g4).f, z⟩
  · left
    have e : i = xs.length := by omega
    subst e
    rw [List.drop_length] at q'
    exact ⟨t1 rfl, fin0 g2 hFD hHD hdr q'⟩
/-- y = {k: v for ..} -/
theorem S.dcO {kd : Bool} {i : Nat} {y : Str} {py spos : Pos} {kx vx tg iter : Expr} {ifs : List Expr} {scope : Scope} {own : List (Str × Nat)} {it : SA} {is : List Nat} {gg : SG} {tt : ST} (hu : X.A.units + 10 < cLine) (hc : X.calm = true) (hN : X.N.Nodup) (hy : X.N[i]? = some y) (hyl : X.env.scope.names.lookup y = some .local)
    (hsw : swapsWith (.DictComp kx vx [⟨tg, iter, ifs, 0⟩] scope pos) (some (.Name y py)) spos.line X.env = pure true) (ok : BlkOk X.N X.env.scope scope own) (hv : ∀ i ∈ is, i ∈ own.map (·.2))
    (hi : Ig X tg iter it) (hg : Blk X scope fun Y => G Y tg is gg) (ht : Blk X scope fun Y => Tl Y ifs tt) (hk : Blk X scope fun Y => E Y kx fk) (he : Blk X scope fun Y => E Y vx fv) (hs : ∀ x, foldedSetIterable iter X.env x = pure x := by intro _; rfl) :
    S X (.Assign [.Name y py] (.DictComp kx vx [⟨tg, iter, ifs, 0⟩] scope pos) spos) (setDc i kd (dcA it gg tt fk fv kd (own.map (·.2)))) := by
  obtain ⟨_, mg⟩ := Blk.any hg
  obtain ⟨_, mt⟩ := Blk.any ht
  obtain ⟨_, mk⟩ := Blk.any hk
  obtain ⟨_, me⟩ := Blk.any he
  exact ⟨fun ρ k l hk' q => hi.mono ρ _ _ (fun xs hx => dcL_mono mg.mono mt.mono mk.mono me.mono _ _ _ _ (fun kvs h => hk'.1 _ h) hx) q, PS.weak (ps_setDcG hu hc hN hy hyl hsw hi.run ok (fun s H C cl fp => (hg s H C cl fp).run) (fun s H C cl fp => (ht s H C cl fp).run) (fun s H C cl fp => (hk s H C cl fp).run) (fun s H C cl fp => (he s H C cl fp).run) hs)
    (dc_tp hi.mono mg.mono mt.mono mk.mono me.mono hv)⟩
/-- .. the name being captured -/
theorem S.dcV {kd : Bool} {i : Nat} {tg iter kx vx : Expr} {ifs : List Expr} {scope : Scope} {vs : List Nat} {it : SA} {is : List Nat} {gg : SG} {tt : ST} (hv : ∀ i ∈ is, i ∈ vs)
    (hi : Ig X tg iter it) (hg : Blk X scope fun Y => G Y tg is gg) (ht : Blk X scope fun Y => Tl Y ifs tt) (hk : Blk X scope fun Y => E Y kx fk) (he : Blk X scope fun Y => E Y vx fv)
    (h : PI X tg iter (TIGof X.K it) → (Blk X scope fun Y => PG Y tg (TGof X.K is gg)) → (Blk X scope fun Y => PTs Y ifs (TTof X.K tt)) → (Blk X scope fun Y => PE Y kx (TEof X.K fk)) → (Blk X scope fun Y => PE Y vx (TEof X.K fv)) → PS X st (tAsg (tDcG X kd (TIGof X.K it) (TGof X.K is gg) (TTof X.K tt) (TEof X.K fk) (TEof X.K fv) vs) (gName i))) :
    S X st (setDc i kd (dcA it gg tt fk fv kd vs)) := by
  obtain ⟨_, mg⟩ := Blk.any hg
  obtain ⟨_, mt⟩ := Blk.any ht
  obtain ⟨_, mk⟩ := Blk.any hk
  obtain ⟨_, me⟩ := Blk.any he
  exact ⟨fun ρ k l hk' q => hi.mono ρ _ _ (fun xs hx => dcL_mono mg.mono mt.mono mk.mono me.mono _ _ _ _ (fun kvs h => hk'.1 _ h) hx) q, PS.weak (h hi.run (fun s H C cl fp => (hg s H C cl fp).run) (fun s H C cl fp => (ht s H C cl fp).run) (fun s H C cl fp => (hk s H C cl fp).run) (fun s H C cl fp => (he s H C cl fp).run))
    (dc_tp hi.mono mg.mono mt.mono mk.mono me.mono hv)⟩
/-- y = {k: v} -/
def setD1 (i : Nat) (fk fv : SE) : SS := fun ρ k => fk ρ fun x => fv ρ fun v => kfit false x = true ∧ k.nx (ρ.set i (some (.dic false [(x, v)])))
theorem S.setD1 {i : Nat} {kx vx : Expr} (hk : E X kx fk) (hv : E X vx fv) (h : PE X kx (TEof X.K fk) → PE X vx (TEof X.K fv) → PS X st (tAsg (tDic1 X (TEof X.K fk) (TEof X.K fv)) (gName i))) : S X st (Z0.setD1 i fk fv) := ⟨fun ρ k l hk' q => hk.mono ρ _ _ (fun x hx => hv.mono ρ _ _ (fun v hv => ⟨hv.1, hk'.1 _ hv.2⟩) hx) q, PS.weak (h hk.run hv.run) fun Dd σ H ⟨Z, F, ρ, r, q⟩ => by
  intro D hD
  have g0 : Gr X.K Z F H F (upd H D (DkO D [])) := r.base.lay0 hD
  have nrow := r.base.norow hD
  refine ⟨Z, F, ρ, r.grow g0, hk.mono ρ _ _ (fun x hx y F1 H1 g1 ry => ?_) q⟩
  refine ⟨Z, F1, ρ, (r.grow g0).grow g1, hv.mono ρ _ _ (fun v hvv z F2 H2 g2 rz => ?_) hx⟩
  obtain ⟨hf, hn⟩ := hvv
  obtain ⟨hd1, hk1⟩ := kfit_tup hf
  obtain ⟨c, rfl⟩ := tup_ref hd1 ry
  have g12 := g1.trans g2
  have hHD : H2 D = some (DkO D []) := g12.h D _ nrow upd_same
  have hFD : F2 D = none := by
    cases z : F2 D with
    | none => rfl
    | some o' =>
      rcases g12.n D (by rw [z]; simp) with w | w
      · exact absurd (r.base.fh.none hD) w
      · rw [upd_same] at w; cases w
  refine ⟨c, nkD x, rfl, hHD, kat_of g2.b hk1 (Rep.ex g2.f _ _ ry), hk1, fun u ru => ?_⟩
  have gg : Gr X.K Z F H F2 (upd H2 D (DkO D [(nkD x, c, u)])) := by
    have q := g0.trans g12
    refine ⟨q.f, fun a o n e => ?_, ⟨fun a u e => ?_, q.b.f0, fun a u n e => ?_, q.b.new, fun a e => ?_, q.b.frow⟩, q.n⟩
    · rw [upd_ne (ne_of_none e hD)]; exact q.h a o n e
    · rw [upd_ne (fun z : a = D => by rw [z, hFD] at e; cases e)]; exact q.b.fh a u e
    · rw [upd_ne (fun z : a = D => by rw [z, r.base.h0 hD] at e; cases e)]; exact q.b.hh a u n e
    · obtain ⟨sc, ns, p, mm, tt, w1, w2, w3⟩ := q.b.row a e
      refine ⟨sc, ns, p, mm, tt, ?_, w2.keep fun o q => ?_, w3⟩
      · rw [upd_ne (fun z : a = D => nrow (by rw [← z]; exact e))]; exact w1
      · rw [upd_ne (fun z : sc = D => by rw [z, hHD] at q; unfold DkO at q; cases q)]; exact q
  exact hn _ F2 _ gg.f ((r.grow gg).setDic i upd_same ⟨hFD, r.base.h0 hD, nrow, own_ne r hD⟩ ⟨show 1 ≤ big by decide, [(nkD x, c, u)], rfl, c, z, u, [], rfl, hk1, Rep.ex g2.f _ _ ry, rz, ru, rfl⟩)⟩
/-- x = y, a dict moved -/
def mvD (i j : Nat) : SS := fun ρ k => match ρ[j]? with
  | some (some (.dic b kvs)) => k.nx ((ρ.set j none).set i (some (.dic b kvs)))
  | _ => False
theorem R.forget {K : Kf} {Z : Zs} {F H : Hp} {ρ : REnv} {σ : L2.St} (r : R K Z F ρ σ H) (n : Nat) : R K Z F (ρ.set n none) σ H := by
  have nt : ∀ i (t : Slot), (ρ.set n none)[i]? = some (some t) → i ≠ n ∧ ρ[i]? = some (some t) := fun i t e => by
    by_cases hi : i = n
    · subst hi
      rw [List.getElem?_set] at e
      simp only [if_true] at e
      split at e <;> cases e
    · rw [List.getElem?_set_ne (Ne.symm hi)] at e; exact ⟨hi, e⟩
  exact ⟨r.base, by rw [List.length_set]; exact r.len, fun i t e => r.slot i t (nt i t e).2, fun i j t1 t2 c m1 m2 e1 e2 => r.apart i j t1 t2 c m1 m2 (nt i t1 e1).2 (nt j t2 e2).2⟩
theorem S.mvD {i j : Nat} (h : PS X st (tAsg (tVar j) (gName i))) : S X st (Z0.mvD i j) := ⟨fun ρ k l hk q => by
    unfold Z0.mvD at *
    split at q
    · exact hk.1 _ q
    · exact q.elim, PS.weak h fun Dd σ H ⟨Z, F, ρ, r, q⟩ => by
  unfold Z0.mvD at q
  split at q
  · rename_i bb kvs hn
    obtain ⟨a, o, h1, h2, h3, h4, h5, h6⟩ := r.slot j _ hn
    refine ⟨.ref a, h1, q _ F H (Ex.refl F) ((r.forget j).setDic i h2 ⟨h4, h5, h6, fun k s m e z => ?_⟩ h3)⟩
    by_cases hk : k = j
    · subst hk
      rw [List.getElem?_set] at e
      simp only [if_true] at e
      split at e <;> cases e
    · rw [List.getElem?_set_ne (Ne.symm hk)] at e
      exact hk (r.apart k j s _ a m rfl e hn z h1)
  · exact q.elim⟩
end
/-! ### max, min of three -/
section
variable {K : Kf}
def max3O : OC := fun ds Q => match ds with
  | [.int i, .int j, .int k] => Q (.int (if k > (if j > i then j else i) then k else if j > i then j else i))
  | _ => False
def min3O : OC := fun ds Q => match ds with
  | [.int i, .int j, .int k] => Q (.int (if k < (if j < i then j else i) then k else if j < i then j else i))
  | _ => False
theorem max3O_mono : MonoC max3O := fun ds P Q h q => by
  unfold max3O at *
  split at q
  · exact h _ q
  · exact q.elim
theorem min3O_mono : MonoC min3O := fun ds P Q h q => by
  unfold min3O at *
  split at q
  · exact h _ q
  · exact q.elim
theorem nuMax2_int (i j : Int) : nuMax2 (.int i) (.int j) = some (.int (if j > i then j else i)) := by
  have e : nuLt (.int i) (.int j) = some (decide (i < j)) := rfl
  unfold nuMax2
  rw [e]
  by_cases h : i < j
  · rw [if_pos h, decide_eq_true h]; rfl
  · rw [if_neg h, decide_eq_false h]; rfl
theorem nuMin2_int (i j : Int) : nuMin2 (.int i) (.int j) = some (.int (if j < i then j else i)) := by
  have e : nuLt (.int j) (.int i) = some (decide (j < i)) := rfl
  unfold nuMin2
  rw [e]
  by_cases h : j < i
  · rw [if_pos h, decide_eq_true h]; rfl
  · rw [if_neg h, decide_eq_false h]; rfl
theorem max3_s : CallS K (rNuC3 nuMax3) max3O := fun Z F H ds vs Q b reps q => by
  unfold max3O at q
  split at q
  · obtain ⟨v, v2, v3, rfl, r1, r2, r3⟩ := reps.three
    refine ⟨_, _, _, _, by rw [r1.int, r2.int, r3.int], ?_, q _ F H (Gr.refl b) rfl⟩
    unfold nuMax3
    rw [nuMax2_int]
    exact nuMax2_int _ _
  · exact q.elim
theorem min3_s : CallS K (rNuC3 nuMin3) min3O := fun Z F H ds vs Q b reps q => by
  unfold min3O at q
  split at q
  · obtain ⟨v, v2, v3, rfl, r1, r2, r3⟩ := reps.three
    refine ⟨_, _, _, _, by rw [r1.int, r2.int, r3.int], ?_, q _ F H (Gr.refl b) rfl⟩
    unfold nuMin3
    rw [nuMin2_int]
    exact nuMin2_int _ _
  · exact q.elim
end
end Z0
namespace Z0
open PySem PySem.Spec PyProof.Rows L2
noncomputable section
/-! ### answers by functions: what a meaning reckons, as a function -/

inductive Rs (α : Type) where
  | ok (a : α) | er (n : Str) (ds : List D) | no | ask (m : Int) (k : Int → Rs α)
noncomputable def Rs.bd {α β : Type} (x : Rs α) (f : α → Rs β) : Rs β := Rs.rec (motive := fun _ => Rs β) (fun a => f a) (fun n ds => .er n ds) .no (fun m _ ih => .ask m ih) x
/-- all ends, whatever is drawn, are values for which Q holds -/
def All {α : Type} (x : Rs α) (Q : α → Prop) : Prop := Rs.rec (motive := fun _ => Prop) (fun a => Q a) (fun _ _ => False) False (fun m _ ih => (0 < m ∧ small m) ∧ ∀ v : Int, 0 ≤ v → v < m → ih v) x
/-- as All, told by a structure: it is not unfolded by the way -/
structure AS {α : Type} (x : Rs α) (Q : α → Prop) : Prop where
  h : All x Q
theorem bd_ok {α β : Type} {a : α} {f : α → Rs β} : (Rs.ok a).bd f = f a := rfl
theorem bd_no {α β : Type} {f : α → Rs β} : (Rs.no : Rs α).bd f = .no := rfl
theorem bd_er {α β : Type} {n : Str} {ds : List D} {f : α → Rs β} : (Rs.er n ds : Rs α).bd f = .er n ds := rfl
theorem bd_ask {α β : Type} {m : Int} {k : Int → Rs α} {f : α → Rs β} : (Rs.ask m k).bd f = .ask m fun v => (k v).bd f := rfl
theorem all_ok {α : Type} {a : α} {Q : α → Prop} : All (.ok a) Q ↔ Q a := Iff.rfl
theorem all_ask {α : Type} {m : Int} {k : Int → Rs α} {Q : α → Prop} : All (.ask m k) Q ↔ (0 < m ∧ small m) ∧ ∀ v : Int, 0 ≤ v → v < m → All (k v) Q := Iff.rfl
theorem All.mono {α : Type} {P Q : α → Prop} (h : ∀ a, P a → Q a) : ∀ {x : Rs α}, All x P → All x Q
  | .ok a, q => h a q
  | .er _ _, q => q
  | .no, q => q
  | .ask m k, q => ⟨q.1, fun v h0 h1 => All.mono h (x := k v) (q.2 v h0 h1)⟩
theorem all_bd {α β : Type} {f : α → Rs β} {Q : β → Prop} : ∀ {x : Rs α}, All (x.bd f) Q ↔ All x fun a => All (f a) Q
  | .ok a => Iff.rfl
  | .er _ _ => Iff.rfl
  | .no => Iff.rfl
  | .ask m k => and_congr_right fun _ => forall_congr' fun v => imp_congr_right fun _ => imp_congr_right fun _ => all_bd (x := k v)
theorem bd_assoc {α β γ : Type} {f : α → Rs β} {g : β → Rs γ} : ∀ {x : Rs α}, (x.bd f).bd g = x.bd fun a => (f a).bd g
  | .ok a => rfl
  | .er _ _ => rfl
  | .no => rfl
  | .ask m k => by rw [bd_ask, bd_ask, bd_ask]; exact congrArg _ (funext fun v => bd_assoc (x := k v))
theorem bd_eq {α β : Type} {x : Rs α} {f : α → Rs β} {a : α} {b : β} (h : x = .ok a) (k : f a = .ok b) : x.bd f = .ok b := by subst h; exact k
theorem all_eq {α : Type} {x : Rs α} {a : α} {Q : α → Prop} (h : x = .ok a) (q : Q a) : All x Q := by subst h; exact q
def ofO {α : Type} : Option α → Rs α
  | some a => .ok a
  | none => .no
theorem all_ofO {α : Type} {x : Option α} {Q : α → Prop} (h : All (ofO x) Q) : ∃ a, x = some a ∧ Q a := by
  cases x with
  | some b => exact ⟨b, rfl, h⟩
  | none => exact h.elim
def grd {α : Type} (c : Prop) [Decidable c] (x : Rs α) : Rs α := if c then x else .no
theorem grd_pos {α : Type} {c : Prop} [Decidable c] {x : Rs α} (h : c) : grd c x = x := if_pos h
theorem all_grd {α : Type} {c : Prop} [Decidable c] {x : Rs α} {Q : α → Prop} (h : All (grd c x) Q) : c ∧ All x Q := by
  unfold grd at h
  split at h
  · exact ⟨by assumption, h⟩
  · exact h.elim
def boX : D → Rs Bool
  | .bl b => .ok b
  | _ => .no
/-- a meaning at an environment gives what the function gives -/
def QX {α : Type} (ρ : REnv) (f : REnv → (α → Prop) → Prop) (x : Rs α) : Prop := ∀ Q : α → Prop, All x Q → f ρ Q
def O1X (o : O1) (xo : D → Rs D) : Prop := ∀ a (Q : D → Prop), All (xo a) Q → o a Q
def O2X (o : O2) (xo : D → D → Rs D) : Prop := ∀ a b (Q : D → Prop), All (xo a b) Q → o a b Q
def OF2X (o : OF2) (xo : D → D → Rs (List D)) : Prop := ∀ a b (Q : List D → Prop), All (xo a b) Q → o a b Q
/-! operators -/
def ixX : D → D → Rs D
  | .tup ds, .int i => ofO (atI ds i)
  | .lst ds, .int i => ofO (atI ds i)
  | _, _ => .no
theorem ixX_s : O2X ixO ixX := fun a b Q h => by
  unfold ixX at h
  split at h
  · obtain ⟨d, e, q⟩ := all_ofO h
    show (match atI _ _ with | some d => Q d | none => False)
    rw [e]; exact q
  · obtain ⟨d, e, q⟩ := all_ofO h
    show (match atI _ _ with | some d => Q d | none => False)
    rw [e]; exact q
  · exact h.elim
def iiX (p : Int → Int → D) : D → D → Rs D
  | .int i, .int j => .ok (p i j)
  | _, _ => .no
theorem iiX_s {p : Int → Int → D} : O2X (int0 p) (iiX p) := fun a b Q h => by
  unfold iiX at h
  split at h
  · exact h
  · exact h.elim
abbrev subX : D → D → Rs D := iiX fun i j => .int (i - j)
abbrev addIX : D → D → Rs D := iiX fun i j => .int (i + j)
abbrev ltX : D → D → Rs D := iiX fun i j => .bl (decide (i < j))
abbrev leX : D → D → Rs D := iiX fun i j => .bl (decide (i ≤ j))
abbrev gtX : D → D → Rs D := iiX fun i j => .bl (decide (j < i))
abbrev geX : D → D → Rs D := iiX fun i j => .bl (decide (j ≤ i))
abbrev bandX : D → D → Rs D := iiX fun i j => .int (Builtin.bitAnd i j)
def modX : D → D → Rs D
  | .int i, .int j => grd (j ≠ 0) (.ok (.int (i.fmod j)))
  | _, _ => .no
theorem modX_s : O2X modO modX := fun a b Q h => by
  unfold modX at h
  split at h
  · exact all_grd h
  · exact h.elim
instance (j : Int) : Decidable (small j) := inferInstanceAs (Decidable (_ < _))
def fdivX : D → D → Rs D
  | .int i, .int j => grd (j ≠ 0 ∧ small j) (.ok (.int (i.fdiv j)))
  | _, _ => .no
theorem fdivX_s : O2X fdivO fdivX := fun a b Q h => by
  unfold fdivX at h
  split at h
  · exact all_grd h
  · exact h.elim
instance (i j : Int) : Decidable (CPow i j) := inferInstanceAs (Decidable (_ ∧ _))
def powX : D → D → Rs D
  | .int i, .int j => grd (CPow i j) (.ok (.int (i ^ j.toNat)))
  | _, _ => .no
theorem powX_s : O2X powO powX := fun a b Q h => by
  unfold powX at h
  split at h
  · exact all_grd h
  · exact h.elim
def shlX : D → D → Rs D
  | .int i, .int j => grd (CPow i j) (.ok (.int (i * 2 ^ j.toNat)))
  | _, _ => .no
theorem shlX_s : O2X shlO shlX := fun a b Q h => by
  unfold shlX at h
  split at h
  · exact all_grd h
  · exact h.elim
def shrX : D → D → Rs D
  | .int i, .int j => grd (0 ≤ j) (.ok (.int (i / 2 ^ j.toNat)))
  | _, _ => .no
theorem shrX_s : O2X shrO shrX := fun a b Q h => by
  unfold shrX at h
  split at h
  · exact all_grd h
  · exact h.elim
instance (i j : Int) : Decidable (mulOk i j) := inferInstanceAs (Decidable (_ ∨ _ ∨ _))
def mulX : D → D → Rs D
  | .int i, .int j => grd (mulOk i j) (.ok (.int (i * j)))
  | .tup xs, .int k => grd (-1000 ≤ k ∧ k ≤ 1000 ∧ xs.length ≤ 1000) (.ok (.tup (List.replicate k.toNat xs).flatten))
  | _, _ => .no
theorem mulX_s : O2X mulT mulX := fun a b Q h => by
  unfold mulX at h
  split at h
  · exact all_grd h
  · exact all_grd h
  · exact h.elim
def mulIX : D → D → Rs D
  | .int i, .int j => grd (mulOk i j) (.ok (.int (i * j)))
  | _, _ => .no
theorem mulIX_s : O2X mulO mulIX := fun a b Q h => by
  unfold mulIX at h
  split at h
  · exact all_grd h
  · exact h.elim
def addX : D → D → Rs D
  | .int i, .int j => .ok (.int (i + j))
  | .tup xs, .tup ys => grd (xs.length + ys.length ≤ big) (.ok (.tup (xs ++ ys)))
  | .lst xs, .lst ys => grd (xs.length + ys.length ≤ big) (.ok (.lst (xs ++ ys)))
  | _, _ => .no
theorem addX_s : O2X addO addX := fun a b Q h => by
  unfold addX at h
  split at h
  · exact h
  · exact all_grd h
  · exact all_grd h
  · exact h.elim
def catX : D → D → Rs (List D)
  | .lst xs, .lst ys => grd (xs.length + ys.length ≤ big) (.ok (xs ++ ys))
  | _, _ => .no
theorem catX_s : OF2X catF catX := fun a b Q h => by
  unfold catX at h
  split at h
  · exact all_grd h
  · exact h.elim
def repX : D → D → Rs (List D)
  | .lst xs, .int k => grd (k < 2 ^ 63 ∧ -(2 ^ 63) ≤ k ∧ xs.length * k.toNat ≤ big) (.ok (List.replicate k.toNat xs).flatten)
  | _, _ => .no
theorem repX_s : OF2X repF repX := fun a b Q h => by
  unfold repX at h
  split at h
  · exact all_grd h
  · exact h.elim
def negX : D → Rs D
  | .int i => .ok (.int (-i))
  | _ => .no
theorem negX_s : O1X negO negX := fun a Q h => by
  unfold negX at h
  split at h
  · exact h
  · exact h.elim
def eqX : D → D → Rs D
  | .int i, .int j => .ok (.bl (decide (i = j)))
  | x, y => grd (okD x = true ∧ okD y = true) (.ok (.bl (eqD x y)))
theorem eqX_s : O2X eqO eqX := fun a b Q h => by
  unfold eqX at h
  unfold eqO
  split at h
  · exact h
  · obtain ⟨⟨c1, c2⟩, q⟩ := all_grd h
    rename_i hh
    cases a <;> first | exact ⟨c1, c2, q⟩ | (cases b <;> first | exact ⟨c1, c2, q⟩ | exact (hh _ _ rfl rfl).elim)
def neX : D → D → Rs D
  | .int i, .int j => .ok (.bl (!decide (i = j)))
  | x, y => grd (okD x = true ∧ okD y = true) (.ok (.bl (!eqD x y)))
theorem neX_s : O2X neO neX := fun a b Q h => by
  unfold neX at h
  unfold neO
  split at h
  · exact h
  · obtain ⟨⟨c1, c2⟩, q⟩ := all_grd h
    rename_i hh
    cases a <;> first | exact ⟨c1, c2, q⟩ | (cases b <;> first | exact ⟨c1, c2, q⟩ | exact (hh _ _ rfl rfl).elim)
def isX : D → D → Rs D
  | x, .non => .ok (.bl (isN x))
  | _, _ => .no
theorem isX_s : O2X isO isX := fun a b Q h => by
  unfold isX at h
  split at h
  · exact h
  · exact h.elim
def isnX : D → D → Rs D
  | x, .non => .ok (.bl (!isN x))
  | _, _ => .no
theorem isnX_s : O2X isnO isnX := fun a b Q h => by
  unfold isnX at h
  split at h
  · exact h
  · exact h.elim
def inX : D → D → Rs D
  | x, .lst ds => grd (okD x = true ∧ okD (.lst ds) = true) (.ok (.bl (inB x ds)))
  | x, .tup ds => grd (okD x = true ∧ okD (.tup ds) = true) (.ok (.bl (inB x ds)))
  | _, _ => .no
theorem inX_s : O2X inO inX := fun a b Q h => by
  unfold inX at h
  split at h
  · obtain ⟨⟨c1, c2⟩, q⟩ := all_grd h
    exact ⟨c1, c2, q⟩
  · obtain ⟨⟨c1, c2⟩, q⟩ := all_grd h
    exact ⟨c1, c2, q⟩
  · exact h.elim
def ninX : D → D → Rs D
  | x, .lst ds => grd (okD x = true ∧ okD (.lst ds) = true) (.ok (.bl (!inB x ds)))
  | x, .tup ds => grd (okD x = true ∧ okD (.tup ds) = true) (.ok (.bl (!inB x ds)))
  | _, _ => .no
theorem ninX_s : O2X ninO ninX := fun a b Q h => by
  unfold ninX at h
  split at h
  · obtain ⟨⟨c1, c2⟩, q⟩ := all_grd h
    exact ⟨c1, c2, q⟩
  · obtain ⟨⟨c1, c2⟩, q⟩ := all_grd h
    exact ⟨c1, c2, q⟩
  · exact h.elim
/-! expressions -/
section
variable {ρ : REnv} {f g k : SE} {x y z : Rs D}
theorem qx_varE {i : Nat} {d : D} (h : ρ[i]? = some (some (.sh d))) : QX ρ (varE i) (.ok d) := fun Q q => by
  unfold varE; rw [h]; exact q
theorem qx_varP {i : Nat} {d : D} (h : ρ[i]? = some (some (.sh d))) : QX ρ (varP i) (.ok d) := fun Q q => by
  unfold varP; rw [h]; exact q
theorem qx_varO {i : Nat} {l : List D} (h : ρ[i]? = some (some (.own l))) : QX ρ (varP i) (.ok (.lst l)) := fun Q q => by
  unfold varP; rw [h]; exact q
theorem qx_c {d : D} : QX ρ (cE d) (.ok d) := fun Q q => q
theorem qx_op {o : O2} {xo : D → D → Rs D} (ho : O2X o xo) (hf : QX ρ f x) (hg : QX ρ g y) : QX ρ (sOp o f g) (x.bd fun a => y.bd fun b => xo a b) := fun Q q =>
  hf _ ((all_bd.mp q).mono fun a q => hg _ ((all_bd.mp q).mono fun b q => ho a b Q q))
theorem qx_un {o : O1} {xo : D → Rs D} (ho : O1X o xo) (hf : QX ρ f x) : QX ρ (sUn o f) (x.bd xo) := fun Q q =>
  hf _ ((all_bd.mp q).mono fun a q => ho a Q q)
theorem qx_opF {o : OF2} {xo : D → D → Rs (List D)} (ho : OF2X o xo) (hf : QX ρ f x) (hg : QX ρ g y) : QX ρ (opF o f g) (x.bd fun a => y.bd fun b => xo a b) := fun Q q =>
  hf _ ((all_bd.mp q).mono fun a q => hg _ ((all_bd.mp q).mono fun b q => ho a b Q q))
theorem qx_ofF {f : SA} {x : Rs (List D)} (hf : QX ρ f x) : QX ρ (fun ρ Q => f ρ fun ds => Q (.lst ds) : SE) (x.bd fun l => .ok (.lst l)) := fun Q q =>
  hf _ ((all_bd.mp q).mono fun a q => q)
theorem all_boX {d : D} {Q : Bool → Prop} (q : All (boX d) Q) : bOf Q d := by
  cases d with
  | bl c => exact q
  | _ => exact q.elim
theorem qx_tV (hf : QX ρ f x) : QX ρ (tV f) (x.bd boX) := fun Q q =>
  hf _ ((all_bd.mp q).mono fun a q => all_boX q)
theorem qx_vB {f : ST} {x : Rs Bool} (hf : QX ρ f x) : QX ρ (vB f) (x.bd fun b => .ok (.bl b)) := fun Q q =>
  hf _ ((all_bd.mp q).mono fun a q => q)
theorem qx_not {f : ST} {x : Rs Bool} (hf : QX ρ f x) : QX ρ (notT f) (x.bd fun b => .ok (!b)) := fun Q q =>
  hf _ ((all_bd.mp q).mono fun a q => q)
theorem qx_if {α : Type} {t : ST} {f g : REnv → (α → Prop) → Prop} {w : Rs Bool} {x y : Rs α} (ht : QX ρ t w) (hf : QX ρ f x) (hg : QX ρ g y) : QX ρ (fun ρ Q => t ρ fun b => br b (f ρ Q) (g ρ Q)) (w.bd fun b => cond b x y) := fun Q q =>
  ht _ ((all_bd.mp q).mono fun b q => by
    cases b with
    | true => exact hf Q q
    | false => exact hg Q q)
theorem qx_and {f g : ST} {x y : Rs Bool} (hf : QX ρ f x) (hg : QX ρ g y) : QX ρ (andT f g) (x.bd fun b => cond b y (.ok false)) := qx_if (f := g) (g := fun _ Q => Q false) hf hg fun Q q => q
theorem qx_or {f g : ST} {x y : Rs Bool} (hf : QX ρ f x) (hg : QX ρ g y) : QX ρ (orT f g) (x.bd fun b => cond b (.ok true) y) := qx_if (f := fun _ Q => Q true) (g := g) hf (fun Q q => q) hg
theorem qx_ifE {t : ST} {w : Rs Bool} (ht : QX ρ t w) (hf : QX ρ f x) (hg : QX ρ g y) : QX ρ (ifE t f g) (w.bd fun b => cond b x y) := qx_if ht hf hg
theorem qx_ch {o o' : O2} {xo xo' : D → D → Rs D} (ho : O2X o xo) (ho' : O2X o' xo') (hf : QX ρ f x) (hg : QX ρ g y) (hk : QX ρ k z) :
    QX ρ (chT o o' f g k) (x.bd fun a => y.bd fun b => (xo a b).bd fun c => (boX c).bd fun c => cond c (z.bd fun e => (xo' b e).bd boX) (.ok false)) := fun Q q =>
  hf _ ((all_bd.mp q).mono fun a q => hg _ ((all_bd.mp q).mono fun b q => ho a b _ ((all_bd.mp q).mono fun c q => all_boX ((all_bd.mp q).mono fun v q => by
    cases v with
    | true => exact hk _ ((all_bd.mp q).mono fun e q => ho' b e _ ((all_bd.mp q).mono fun n q => all_boX q))
    | false => exact q))))
/-! arguments -/
theorem qx_nil : QX ρ nilA (.ok []) := fun Q q => q
theorem qx_cons {g : SA} {y : Rs (List D)} (hf : QX ρ f x) (hg : QX ρ g y) : QX ρ (consA f g) (x.bd fun a => y.bd fun l => .ok (a :: l)) := fun Q q =>
  hf _ ((all_bd.mp q).mono fun a q => hg _ ((all_bd.mp q).mono fun l q => q))
theorem qx_a1 (hf : QX ρ f x) : QX ρ (consA f nilA) (x.bd fun a => .ok [a]) := fun Q q => hf _ ((all_bd.mp q).mono fun a q => q)
theorem qx_a2 (hf : QX ρ f x) (hg : QX ρ g y) : QX ρ (consA f (consA g nilA)) (x.bd fun a => y.bd fun b => .ok [a, b]) := fun Q q =>
  hf _ ((all_bd.mp q).mono fun a q => hg _ ((all_bd.mp q).mono fun b q => q))
theorem qx_a3 (hf : QX ρ f x) (hg : QX ρ g y) (hk : QX ρ k z) : QX ρ (consA f (consA g (consA k nilA))) (x.bd fun a => y.bd fun b => z.bd fun c => .ok [a, b, c]) := fun Q q =>
  hf _ ((all_bd.mp q).mono fun a q => hg _ ((all_bd.mp q).mono fun b q => hk _ ((all_bd.mp q).mono fun c q => q)))
theorem qx_a4 {m : SE} {w : Rs D} (hf : QX ρ f x) (hg : QX ρ g y) (hk : QX ρ k z) (hm : QX ρ m w) : QX ρ (consA f (consA g (consA k (consA m nilA)))) (x.bd fun a => y.bd fun b => z.bd fun c => w.bd fun d => .ok [a, b, c, d]) := fun Q q =>
  hf _ ((all_bd.mp q).mono fun a q => hg _ ((all_bd.mp q).mono fun b q => hk _ ((all_bd.mp q).mono fun c q => hm _ ((all_bd.mp q).mono fun d q => q))))
def bigX (l : List D) : Rs (List D) := grd (l.length ≤ big) (.ok l)
theorem qx_tup {g : SA} {y : Rs (List D)} (hg : QX ρ g y) : QX ρ (tupE g) (y.bd fun l => grd (l.length ≤ big) (.ok (.tup l))) := fun Q q =>
  hg _ ((all_bd.mp q).mono fun l q => all_grd q)
theorem qx_lst {g : SA} {y : Rs (List D)} (hg : QX ρ g y) : QX ρ (lstF g) (y.bd bigX) := fun Q q =>
  hg _ ((all_bd.mp q).mono fun l q => all_grd (x := .ok l) q)
/-! calls -/
def OCX (o : OC) (xo : List D → Rs D) : Prop := ∀ ds (Q : D → Prop), All (xo ds) Q → o ds Q
def OFX (o : OF) (xo : List D → Rs (List D)) : Prop := ∀ ds (Q : List D → Prop), All (xo ds) Q → o ds Q
def x1O (F : D → Rs D) : OC := fun ds Q => match ds with
  | [a] => AS (F a) Q
  | _ => False
def x2O (F : D → D → Rs D) : OC := fun ds Q => match ds with
  | [a, b] => AS (F a b) Q
  | _ => False
def x3O (F : D → D → D → Rs D) : OC := fun ds Q => match ds with
  | [a, b, c] => AS (F a b c) Q
  | _ => False
def x4O (F : D → D → D → D → Rs D) : OC := fun ds Q => match ds with
  | [a, b, c, e] => AS (F a b c e) Q
  | _ => False
def x5O (F : D → D → D → D → D → Rs D) : OC := fun ds Q => match ds with
  | [a, b, c, e, m] => AS (F a b c e m) Q
  | _ => False
theorem x1O_mono {F : D → Rs D} : MonoC (x1O F) := fun ds P Q h q => by
  unfold x1O at *
  split at q
  · exact ⟨q.h.mono h⟩
  · exact q.elim
theorem x2O_mono {F : D → D → Rs D} : MonoC (x2O F) := fun ds P Q h q => by
  unfold x2O at *
  split at q
  · exact ⟨q.h.mono h⟩
  · exact q.elim
theorem x3O_mono {F : D → D → D → Rs D} : MonoC (x3O F) := fun ds P Q h q => by
  unfold x3O at *
  split at q
  · exact ⟨q.h.mono h⟩
  · exact q.elim
theorem x4O_mono {F : D → D → D → D → Rs D} : MonoC (x4O F) := fun ds P Q h q => by
  unfold x4O at *
  split at q
  · exact ⟨q.h.mono h⟩
  · exact q.elim
theorem x5O_mono {F : D → D → D → D → D → Rs D} : MonoC (x5O F) := fun ds P Q h q => by
  unfold x5O at *
  split at q
  · exact ⟨q.h.mono h⟩
  · exact q.elim
theorem qx_call1 (hf : QX ρ f x) (F : D → Rs D) : QX ρ (callE (x1O F) (consA f nilA)) (x.bd F) := fun Q q =>
  hf _ ((all_bd.mp q).mono fun a q => ⟨q⟩)
theorem qx_call2 (hf : QX ρ f x) (hg : QX ρ g y) (F : D → D → Rs D) : QX ρ (callE (x2O F) (consA f (consA g nilA))) (x.bd fun a => y.bd fun b => F a b) := fun Q q =>
  hf _ ((all_bd.mp q).mono fun a q => hg _ ((all_bd.mp q).mono fun b q => ⟨q⟩))
theorem qx_call3 (hf : QX ρ f x) (hg : QX ρ g y) (hk : QX ρ k z) (F : D → D → D → Rs D) : QX ρ (callE (x3O F) (consA f (consA g (consA k nilA)))) (x.bd fun a => y.bd fun b => z.bd fun c => F a b c) := fun Q q =>
  hf _ ((all_bd.mp q).mono fun a q => hg _ ((all_bd.mp q).mono fun b q => hk _ ((all_bd.mp q).mono fun c q => ⟨q⟩)))
theorem qx_call4 {m : SE} {w : Rs D} (hf : QX ρ f x) (hg : QX ρ g y) (hk : QX ρ k z) (hm : QX ρ m w) (F : D → D → D → D → Rs D) : QX ρ (callE (x4O F) (consA f (consA g (consA k (consA m nilA))))) (x.bd fun a => y.bd fun b => z.bd fun c => w.bd fun d => F a b c d) := fun Q q =>
  hf _ ((all_bd.mp q).mono fun a q => hg _ ((all_bd.mp q).mono fun b q => hk _ ((all_bd.mp q).mono fun c q => hm _ ((all_bd.mp q).mono fun d q => ⟨q⟩))))
theorem qx_call5 {m m' : SE} {w w' : Rs D} (hf : QX ρ f x) (hg : QX ρ g y) (hk : QX ρ k z) (hm : QX ρ m w) (hm' : QX ρ m' w') (F : D → D → D → D → D → Rs D) : QX ρ (callE (x5O F) (consA f (consA g (consA k (consA m (consA m' nilA)))))) (x.bd fun a => y.bd fun b => z.bd fun c => w.bd fun d => w'.bd fun e => F a b c d e) := fun Q q =>
  hf _ ((all_bd.mp q).mono fun a q => hg _ ((all_bd.mp q).mono fun b q => hk _ ((all_bd.mp q).mono fun c q => hm _ ((all_bd.mp q).mono fun d q => hm' _ ((all_bd.mp q).mono fun e q => ⟨q⟩)))))
/-- a draw -/
def askX (r m : D) : Rs D := match r, m with
  | .row, .int m => .ask m fun v => .ok (.int v)
  | _, _ => .no
theorem qx_taken (hf : QX ρ f x) (hg : QX ρ g y) : QX ρ (callE takenO (consA f (consA g nilA))) (x.bd fun a => y.bd fun b => askX a b) := fun Q q =>
  hf _ ((all_bd.mp q).mono fun a q => hg _ ((all_bd.mp q).mono fun b q => by
    unfold askX at q
    split at q
    · exact q
    · exact q.elim))
/-- a built-in of one place -/
theorem qx_b1 {o : O1} {xo : D → Rs D} (ho : O1X o xo) (hf : QX ρ f x) : QX ρ (callE (call1 o) (consA f nilA)) (x.bd xo) := fun Q q =>
  hf _ ((all_bd.mp q).mono fun a q => ho a Q q)
theorem qx_b {o : OC} {xo : List D → Rs D} {g : SA} {y : Rs (List D)} (ho : OCX o xo) (hg : QX ρ g y) : QX ρ (callE o g) (y.bd xo) := fun Q q =>
  hg _ ((all_bd.mp q).mono fun a q => ho a Q q)
theorem qx_bF {o : OF} {xo : List D → Rs (List D)} {g : SA} {y : Rs (List D)} (ho : OFX o xo) (hg : QX ρ g y) : QX ρ (callF o g) (y.bd xo) := fun Q q =>
  hg _ ((all_bd.mp q).mono fun a q => ho a Q q)
end
/-! ### answers by functions: built-ins, iterators, comprehensions -/
def absX : D → Rs D
  | .int i => .ok (.int (if i < 0 then -i else i))
  | _ => .no
theorem absX_s : O1X absO absX := fun a Q h => by
  unfold absX at h
  split at h
  · exact h
  · exact h.elim
def lenX : D → Rs D
  | .lst ds => .ok (.int ds.length)
  | .tup ds => .ok (.int ds.length)
  | .str x => grd (x.length ≤ big) (.ok (.int x.length))
  | _ => .no
theorem lenX_s : O1X lenO lenX := fun a Q h => by
  unfold lenX at h
  split at h
  · exact h
  · exact h
  · exact all_grd h
  · exact h.elim
def toIntX : D → Rs D
  | .int i => .ok (.int i)
  | .bl b => .ok (.int (if b then 1 else 0))
  | _ => .no
theorem toIntX_s : O1X toIntO toIntX := fun a Q h => by
  unfold toIntX at h
  split at h
  · exact h
  · exact h
  · exact h.elim
def itemsX : D → Rs (List D)
  | .lst ds => .ok ds
  | .tup ds => .ok ds
  | _ => .no
def intsX (d : D) : Rs (List Int) := (itemsX d).bd fun ds => ofO (intsD ds)
theorem intsX_s {d : D} {p : List Int → Prop} (h : All (intsX d) p) : onIntsA d p := by
  unfold intsX at h
  have h := all_bd.mp h
  unfold onIntsA
  cases d with
  | lst l =>
    obtain ⟨ns, e, q⟩ := all_ofO (show All (ofO (intsD l)) p from h)
    dsimp only; rw [e]; exact q
  | tup l =>
    obtain ⟨ns, e, q⟩ := all_ofO (show All (ofO (intsD l)) p from h)
    dsimp only; rw [e]; exact q
  | _ => exact h.elim
def sumX (d : D) : Rs D := (intsX d).bd fun ns => .ok (.int ns.sum)
theorem sumX_s : O1X sumA sumX := fun a Q h => intsX_s ((all_bd.mp h).mono fun ns q => q)
def maxX (d : D) : Rs D := (intsX d).bd fun ns => grd (ns ≠ []) (.ok (.int (maxI ns)))
theorem maxX_s : O1X maxA maxX := fun a Q h => intsX_s ((all_bd.mp h).mono fun ns q => all_grd q)
def minX (d : D) : Rs D := (intsX d).bd fun ns => grd (ns ≠ []) (.ok (.int (minI ns)))
theorem minX_s : O1X minA minX := fun a Q h => intsX_s ((all_bd.mp h).mono fun ns q => all_grd q)
def max2X : List D → Rs D
  | [.int i, .int j] => .ok (.int (if j > i then j else i))
  | _ => .no
theorem max2X_s : OCX max2O max2X := fun a Q h => by
  unfold max2X at h
  split at h
  · exact h
  · exact h.elim
def min2X : List D → Rs D
  | [.int i, .int j] => .ok (.int (if j < i then j else i))
  | _ => .no
theorem min2X_s : OCX min2O min2X := fun a Q h => by
  unfold min2X at h
  split at h
  · exact h
  · exact h.elim
def listX : List D → Rs (List D)
  | [.lst xs] => .ok xs
  | [.tup xs] => .ok xs
  | _ => .no
theorem listX_s : OFX listF listX := fun a Q h => by
  unfold listX at h
  split at h
  · exact h
  · exact h
  · exact h.elim
def tupleX : D → Rs D
  | .lst xs => .ok (.tup xs)
  | .tup xs => .ok (.tup xs)
  | _ => .no
theorem tupleX_s : O1X tupleO tupleX := fun a Q h => by
  unfold tupleX at h
  split at h
  · exact h
  · exact h
  · exact h.elim
mutual
/-- the form of nested tuples of ints -/
def shOf : D → Option Sh
  | .int _ => some .num
  | .tup ds => (shOfs ds).map .tup
  | _ => none
def shOfs : List D → Option (List Sh)
  | [] => some []
  | d :: ds => match shOf d, shOfs ds with
    | some s, some ss => some (s :: ss)
    | _, _ => none
end
def Sh.full : Sh → Bool
  | .tup [] => false
  | _ => true
theorem Sh.full_ne {s : Sh} (h : s.full = true) : s ≠ .tup [] := fun e => by subst e; cases h
def sortOkB : List D → Bool
  | [] => true
  | [_] => true
  | d :: ds => match shOf d with
    | some s => s.full && decide (shDep s ≤ 50) && shD s d && ds.all (shD s)
    | none => false
theorem sortOkB_s : ∀ {xs : List D}, sortOkB xs = true → sortOk xs
  | [], _ => .inl (by simp)
  | [_], _ => .inl (by simp)
  | d :: e :: r, h => by
    have h : (match shOf d with
      | some s => s.full && decide (shDep s ≤ 50) && shD s d && (e :: r).all (shD s)
      | none => false) = true := h
    split at h
    · rename_i s hs
      simp only [Bool.and_eq_true, decide_eq_true_eq, List.all_eq_true] at h
      obtain ⟨⟨⟨h1, h2⟩, h3⟩, h4⟩ := h
      refine .inr ⟨s, Sh.full_ne h1, h2, fun x hx => ?_⟩
      rcases List.mem_cons.mp hx with rfl | hx
      · exact h3
      · exact h4 x hx
    · cases h
def sortX : List D → Rs (List D)
  | [.lst xs] => grd (sortOkB xs = true) (.ok (sortD xs))
  | [.tup xs] => grd (sortOkB xs = true) (.ok (sortD xs))
  | _ => .no
theorem sortX_x : OFX sortXF sortX := fun a Q h => by
  unfold sortX at h
  split at h
  · obtain ⟨c, q⟩ := all_grd h
    exact ⟨sortOkB_s c, q⟩
  · obtain ⟨c, q⟩ := all_grd h
    exact ⟨sortOkB_s c, q⟩
  · exact h.elim
def sortSetX : List D → Rs (List D)
  | [.tup xs] => (ofO (intsD xs)).bd fun ns => grd (ns.length < 64) (.ok ((setL ns).map D.int))
  | _ => .no
theorem sortSetX_s : OFX sortSetF sortSetX := fun a Q h => by
  unfold sortSetX at h
  split at h
  · obtain ⟨ns, e, h⟩ := all_ofO (all_bd.mp h)
    obtain ⟨c, q⟩ := all_grd h
    exact ⟨ns, intsD_eq e, c, q⟩
  · exact h.elim
def isiX : List D → Rs D
  | [x, .ty t] => (match x with
    | .row => .no
    | .ty _ => .no
    | x => .ok (.bl (isB x t)))
  | [x, .tup [.ty t, .ty u]] => (match x with
    | .row => .no
    | .ty _ => .no
    | x => .ok (.bl (isB x t || isB x u)))
  | _ => .no
theorem isiX_s : OCX isiO isiX := fun a Q h => by
  unfold isiX at h
  split at h
  · rename_i x t
    cases x <;> first | exact h | exact h.elim
  · rename_i x t u
    cases x <;> first | exact h | exact h.elim
  · exact h.elim
section
variable {ρ : REnv} {f g k : SE} {x y z : Rs D}
/-! slices -/
def intX : D → Rs (Option Int)
  | .int i => .ok (some i)
  | _ => .no
theorem qx_no : QX ρ noO (.ok none) := fun Q q => q
theorem qx_some (hf : QX ρ f x) : QX ρ (someO f) (x.bd intX) := fun Q q => hf _ ((all_bd.mp q).mono fun a q => by
  cases a with
  | int i => exact q
  | _ => exact q.elim)
def slX (x : D) (lo hi : Option Int) : Rs D := match x with
  | .tup ds => .ok (.tup (cutD ds lo hi))
  | .lst ds => .ok (.lst (cutD ds lo hi))
  | _ => .no
def backX (x : D) (lo : Option Int) : Rs D := match x, lo with
  | .tup ds, lo => .ok (.tup ((ds.take (backN ds.length lo)).reverse))
  | .lst ds, none => .ok (.lst ds.reverse)
  | _, _ => .no
theorem qx_sl {l h : SO} {xl xh : Rs (Option Int)} (hf : QX ρ f x) (hl : QX ρ l xl) (hh : QX ρ h xh) : QX ρ (slE f l h) (x.bd fun a => xl.bd fun lo => xh.bd fun hi => slX a lo hi) := fun Q q =>
  hf _ ((all_bd.mp q).mono fun a q => hl _ ((all_bd.mp q).mono fun b q => hh _ ((all_bd.mp q).mono fun c q => by
    unfold slX at q
    split at q
    · exact q
    · exact q
    · exact q.elim)))
theorem qx_back {l : SO} {xl : Rs (Option Int)} (hf : QX ρ f x) (hl : QX ρ l xl) : QX ρ (backE f l) (x.bd fun a => xl.bd fun lo => backX a lo) := fun Q q =>
  hf _ ((all_bd.mp q).mono fun a q => hl _ ((all_bd.mp q).mono fun b q => by
    unfold backX at q
    split at q
    · exact q
    · exact q
    · exact q.elim))
def rg1X : D → Rs (List D)
  | .int j => grd (-(2 ^ 62) ≤ j ∧ j < 2 ^ 62) (.ok (rngD 0 j))
  | _ => .no
def rg2X : D → D → Rs (List D)
  | .int i, .int j => grd (-(2 ^ 62) ≤ i ∧ i < 2 ^ 62 ∧ -(2 ^ 62) ≤ j ∧ j < 2 ^ 62) (.ok (rngD i j))
  | _, _ => .no
instance (i j c : Int) : Decidable (R3 i j c) := inferInstanceAs (Decidable (_ ∧ _))
def rg3X : D → D → D → Rs (List D)
  | .int i, .int j, .int c => grd (R3 i j c) (.ok (rng3D i j c))
  | _, _, _ => .no
def lr1X : D → Rs (List D)
  | .int j => grd (-(2 ^ 62) ≤ j ∧ j < 2 ^ 62 ∧ j.toNat ≤ big) (.ok (rngD 0 j))
  | _ => .no
def lr2X : D → D → Rs (List D)
  | .int i, .int j => grd (-(2 ^ 62) ≤ i ∧ i < 2 ^ 62 ∧ -(2 ^ 62) ≤ j ∧ j < 2 ^ 62 ∧ (j - i).toNat ≤ big) (.ok (rngD i j))
  | _, _ => .no
def lr3X : D → D → D → Rs (List D)
  | .int i, .int j, .int c => grd (R3 i j c ∧ cntR i j c ≤ big) (.ok (rng3D i j c))
  | _, _, _ => .no
def zipX : D → D → Rs (List D)
  | .lst xs, .lst ys => .ok (zipD xs ys)
  | .tup xs, .tup ys => .ok (zipD xs ys)
  | _, _ => .no
def enumX : D → Rs (List D)
  | .lst xs => .ok (enumD 0 xs)
  | _ => .no
theorem qx_rng1 (hf : QX ρ f x) : QX ρ (rng1A (consA f nilA)) (x.bd rg1X) := fun Q q => hf _ ((all_bd.mp q).mono fun a q => by
  cases a with
  | int j => exact all_grd q
  | _ => exact q.elim)
theorem qx_rng2 (hf : QX ρ f x) (hg : QX ρ g y) : QX ρ (rng2A (consA f (consA g nilA))) (x.bd fun a => y.bd fun b => rg2X a b) := fun Q q => hf _ ((all_bd.mp q).mono fun a q => hg _ ((all_bd.mp q).mono fun b q => by
  unfold rg2X at q
  split at q
  · exact all_grd q
  · exact q.elim))
theorem qx_rng3 (hf : QX ρ f x) (hg : QX ρ g y) (hk : QX ρ k z) : QX ρ (rng3A (consA f (consA g (consA k nilA)))) (x.bd fun a => y.bd fun b => z.bd fun c => rg3X a b c) := fun Q q => hf _ ((all_bd.mp q).mono fun a q => hg _ ((all_bd.mp q).mono fun b q => hk _ ((all_bd.mp q).mono fun c q => by
  unfold rg3X at q
  split at q
  · exact all_grd q
  · exact q.elim)))
theorem qx_lr1 (hf : QX ρ f x) : QX ρ (lrgA (len1 (consA f nilA))) (x.bd lr1X) := fun Q q => hf _ ((all_bd.mp q).mono fun a q => by
  cases a with
  | int j => exact all_grd q
  | _ => exact q.elim)
theorem qx_lr2 (hf : QX ρ f x) (hg : QX ρ g y) : QX ρ (lrgA (len2 (consA f (consA g nilA)))) (x.bd fun a => y.bd fun b => lr2X a b) := fun Q q => hf _ ((all_bd.mp q).mono fun a q => hg _ ((all_bd.mp q).mono fun b q => by
  unfold lr2X at q
  split at q
  · exact all_grd q
  · exact q.elim))
theorem qx_lr3 (hf : QX ρ f x) (hg : QX ρ g y) (hk : QX ρ k z) : QX ρ (lrgA (len3 (consA f (consA g (consA k nilA))))) (x.bd fun a => y.bd fun b => z.bd fun c => lr3X a b c) := fun Q q => hf _ ((all_bd.mp q).mono fun a q => hg _ ((all_bd.mp q).mono fun b q => hk _ ((all_bd.mp q).mono fun c q => by
  unfold lr3X at q
  split at q
  · exact all_grd q
  · exact q.elim)))
theorem qx_seq (hf : QX ρ f x) : QX ρ (seqI f) (x.bd itemsX) := fun Q q => hf _ ((all_bd.mp q).mono fun a q => by
  cases a with
  | lst l => exact q
  | tup l => exact q
  | _ => exact q.elim)
theorem qx_zip (hf : QX ρ f x) (hg : QX ρ g y) : QX ρ (zipA (consA f (consA g nilA))) (x.bd fun a => y.bd fun b => zipX a b) := fun Q q => hf _ ((all_bd.mp q).mono fun a q => hg _ ((all_bd.mp q).mono fun b q => by
  unfold zipX at q
  split at q
  · exact q
  · exact q
  · exact q.elim))
theorem qx_enum (hf : QX ρ f x) : QX ρ (enumA (consA f nilA)) (x.bd enumX) := fun Q q => hf _ ((all_bd.mp q).mono fun a q => by
  cases a with
  | lst l => exact q
  | _ => exact q.elim)
end
/-! targets -/
def un1 {β : Type} (d : D) (k : D → Rs β) : Rs β := match d with
  | .tup [a] => k a
  | _ => .no
def un2 {β : Type} (d : D) (k : D → D → Rs β) : Rs β := match d with
  | .tup [a, b] => k a b
  | _ => .no
def un3 {β : Type} (d : D) (k : D → D → D → Rs β) : Rs β := match d with
  | .tup [a, b, c] => k a b c
  | _ => .no
def un4 {β : Type} (d : D) (k : D → D → D → D → Rs β) : Rs β := match d with
  | .tup [a, b, c, e] => k a b c e
  | _ => .no
def unB1 {β : Type} (d : D) (k : D → Rs β) : Rs β := (itemsX d).bd fun l => un1 (.tup l) k
def unB2 {β : Type} (d : D) (k : D → D → Rs β) : Rs β := (itemsX d).bd fun l => un2 (.tup l) k
def unB3 {β : Type} (d : D) (k : D → D → D → Rs β) : Rs β := (itemsX d).bd fun l => un3 (.tup l) k
def unB4 {β : Type} (d : D) (k : D → D → D → D → Rs β) : Rs β := (itemsX d).bd fun l => un4 (.tup l) k
/-- a target takes d, and what follows is by J -/
def GX {β : Type} (g : SG) (d : D) (ρ : REnv) (J : REnv → Rs β → Prop) (x : Rs β) : Prop := ∀ Q : β → Prop, All x Q → ∀ P : REnv → Prop, (∀ ρ' y, J ρ' y → All y Q → P ρ') → g d ρ P
section
variable {β : Type} {ρ : REnv} {d : D} {J : REnv → Rs β → Prop} {g1 g2 g3 g4 : SG}
theorem gx_var {i : Nat} {y : Rs β} (h : J (ρ.set i (some (.sh d))) y) : GX (gVar i) d ρ J y := fun Q q P hP => hP _ _ h q
theorem gx_t1 {k : D → Rs β} (h : ∀ a, GX g1 a ρ J (k a)) : GX (gTupS (gConsS g1 gNilS)) d ρ J (un1 d k) := fun Q q P hP => by
  unfold un1 at q
  split at q
  · exact h _ Q q _ hP
  · exact q.elim
theorem gx_t2 {k : D → D → Rs β} (h : ∀ a b, GX g1 a ρ (fun ρ1 y => GX g2 b ρ1 J y) (k a b)) : GX (gTupS (gConsS g1 (gConsS g2 gNilS))) d ρ J (un2 d k) := fun Q q P hP => by
  unfold un2 at q
  split at q
  · exact h _ _ Q q _ fun ρ1 y1 j1 q1 => j1 Q q1 _ hP
  · exact q.elim
theorem gx_t3 {k : D → D → D → Rs β} (h : ∀ a b c, GX g1 a ρ (fun ρ1 y => GX g2 b ρ1 (fun ρ2 y => GX g3 c ρ2 J y) y) (k a b c)) : GX (gTupS (gConsS g1 (gConsS g2 (gConsS g3 gNilS)))) d ρ J (un3 d k) := fun Q q P hP => by
  unfold un3 at q
  split at q
  · exact h _ _ _ Q q _ fun ρ1 y1 j1 q1 => j1 Q q1 _ fun ρ2 y2 j2 q2 => j2 Q q2 _ hP
  · exact q.elim
theorem gx_t4 {k : D → D → D → D → Rs β} (h : ∀ a b c e, GX g1 a ρ (fun ρ1 y => GX g2 b ρ1 (fun ρ2 y => GX g3 c ρ2 (fun ρ3 y => GX g4 e ρ3 J y) y) y) (k a b c e)) : GX (gTupS (gConsS g1 (gConsS g2 (gConsS g3 (gConsS g4 gNilS))))) d ρ J (un4 d k) := fun Q q P hP => by
  unfold un4 at q
  split at q
  · exact h _ _ _ _ Q q _ fun ρ1 y1 j1 q1 => j1 Q q1 _ fun ρ2 y2 j2 q2 => j2 Q q2 _ fun ρ3 y3 j3 q3 => j3 Q q3 _ hP
  · exact q.elim
theorem gx_any {gs : SGs} {x : Rs β} {U : D → Rs β} (h : ∀ l, GX (gTupS gs) (.tup l) ρ J (U (.tup l))) (e : x = (itemsX d).bd fun l => U (.tup l)) : GX (gTupB gs) d ρ J x := fun Q q P hP => by
  subst e
  have q := all_bd.mp q
  cases d with
  | tup m => exact h m Q q P hP
  | lst m => exact h m Q q P hP
  | _ => exact q.elim
theorem gx_b1 {k : D → Rs β} (h : ∀ a, GX g1 a ρ J (k a)) : GX (gTupB (gConsS g1 gNilS)) d ρ J (unB1 d k) := gx_any (U := fun d => un1 d k) (fun _ => gx_t1 h) rfl
theorem gx_b2 {k : D → D → Rs β} (h : ∀ a b, GX g1 a ρ (fun ρ1 y => GX g2 b ρ1 J y) (k a b)) : GX (gTupB (gConsS g1 (gConsS g2 gNilS))) d ρ J (unB2 d k) := gx_any (U := fun d => un2 d k) (fun _ => gx_t2 h) rfl
theorem gx_b3 {k : D → D → D → Rs β} (h : ∀ a b c, GX g1 a ρ (fun ρ1 y => GX g2 b ρ1 (fun ρ2 y => GX g3 c ρ2 J y) y) (k a b c)) : GX (gTupB (gConsS g1 (gConsS g2 (gConsS g3 gNilS)))) d ρ J (unB3 d k) := gx_any (U := fun d => un3 d k) (fun _ => gx_t3 h) rfl
end
/-! comprehensions -/
def mapX {α : Type} (F : α → Rs D) : List α → Rs (List D)
  | [] => .ok []
  | d :: ds => (F d).bd fun y => (mapX F ds).bd fun ys => .ok (y :: ys)
def filX {α : Type} (F : α → Rs (Option D)) : List α → Rs (List D)
  | [] => .ok []
  | d :: ds => (F d).bd fun y => (filX F ds).bd fun ys => .ok (match y with
    | some y => y :: ys
    | none => ys)
section
variable {ρ : REnv} {it : SA} {g : SG} {t : ST} {f : SE} {x : Rs (List D)}
theorem lcL_mapX {F : D → Rs D} (h : ∀ d, GX g d ρ (fun ρ' y => QX ρ' f y) (F d)) : ∀ (ds : List D) (Q : List D → Prop), All (mapX F ds) Q → lcL g yesT f ρ ds Q
  | [], Q, q => q
  | d :: ds, Q, q => h d _ (all_bd.mp q) _ fun ρ' z hz q1 => hz _ (q1.mono fun y q => lcL_mapX h ds _ ((all_bd.mp q).mono fun ys q => q))
abbrev FilJ (t : ST) (f : SE) : REnv → Rs (Option D) → Prop := fun ρ' y => ∃ (u : Rs Bool) (v : Rs D), QX ρ' t u ∧ QX ρ' f v ∧ y = u.bd fun b => cond b (v.bd fun e => .ok (some e)) (.ok none)
theorem lcL_filX {F : D → Rs (Option D)} (h : ∀ d, GX g d ρ (FilJ t f) (F d)) : ∀ (ds : List D) (Q : List D → Prop), All (filX F ds) Q → lcL g t f ρ ds Q
  | [], Q, q => q
  | d :: ds, Q, q => h d _ (all_bd.mp q) _ fun ρ' z ⟨u, v, hu, hv, e⟩ q1 => by
    subst e
    refine hu _ ((all_bd.mp q1).mono fun b q2 => ?_)
    cases b with
    | true => exact hv _ ((all_bd.mp (show All (v.bd _) _ from q2)).mono fun y q3 => lcL_filX h ds _ ((all_bd.mp q3).mono fun ys q => q))
    | false => exact lcL_filX h ds _ ((all_bd.mp q2).mono fun ys q => q)
def lcX (F : D → Rs D) (xs : List D) : Rs (List D) := grd (xs.length ≤ big) (mapX F xs)
def lfX (F : D → Rs (Option D)) (xs : List D) : Rs (List D) := grd (xs.length ≤ big) (filX F xs)
theorem qx_lc {vs : List Nat} {F : D → Rs D} (hi : QX ρ it x) (h : ∀ d, GX g d (wipeE ρ vs) (fun ρ' y => QX ρ' f y) (F d)) : QX ρ (lcA it g yesT f vs) (x.bd fun xs => lcX F xs) := fun Q q =>
  hi _ ((all_bd.mp q).mono fun xs q => ⟨(all_grd q).1, lcL_mapX h xs Q (all_grd q).2⟩)
theorem qx_lf {vs : List Nat} {F : D → Rs (Option D)} (hi : QX ρ it x) (h : ∀ d, GX g d (wipeE ρ vs) (FilJ t f) (F d)) : QX ρ (lcA it g t f vs) (x.bd fun xs => lfX F xs) := fun Q q =>
  hi _ ((all_bd.mp q).mono fun xs q => ⟨(all_grd q).1, lcL_filX h xs Q (all_grd q).2⟩)
theorem fil_j {u : Rs Bool} {v : Rs D} (hu : QX ρ t u) (hv : QX ρ f v) : FilJ t f ρ (u.bd fun b => cond b (v.bd fun e => Rs.ok (some e)) (.ok none)) := ⟨u, v, hu, hv, rfl⟩
/-- two sources: what the second gives for an item of the first -/
def flX (F : D → Rs (List D)) : Nat → List D → Rs (List D)
  | _, [] => .ok []
  | n, d :: ds => (F d).bd fun ys => grd (n + ys.length ≤ big) ((flX F (n + ys.length) ds).bd fun zs => .ok (ys ++ zs))
theorem mapX_len {α : Type} {F : α → Rs D} : ∀ {xs : List α} {Q : List D → Prop}, All (mapX F xs) Q → All (mapX F xs) fun ys => ys.length = xs.length ∧ Q ys
  | [], Q, q => ⟨rfl, q⟩
  | d :: ds, Q, q => all_bd.mpr ((all_bd.mp q).mono fun y q => all_bd.mpr ((mapX_len (all_bd.mp q)).mono fun ys q => ⟨by rw [List.length_cons, List.length_cons, q.1], q.2⟩))
abbrev Lc2J (it1 : SA) (vs1 : List Nat) (g1 : SG) (f : SE) : REnv → Rs (List D) → Prop := fun ρ' y => ∃ (x1 : Rs (List D)), QX ρ' it1 x1 ∧ ∃ G : D → Rs D, (∀ d, GX g1 d (wipeE ρ' vs1) (fun ρ' y => QX ρ' f y) (G d)) ∧ y = x1.bd fun l => mapX G l
theorem all_ex {α : Type} {P : α → Prop} : ∀ {x : Rs α}, All x P → ∃ a, P a
  | .ok a, q => ⟨a, q⟩
  | .er _ _, q => q.elim
  | .no, q => q.elim
  | .ask m k, q => all_ex (x := k 0) (q.2 0 (Int.le_refl 0) q.1.1)
theorem lc2L_map {it1 : SA} {vs1 : List Nat} {g1 : SG} {F : D → Rs (List D)} (h : ∀ d, GX g d ρ (Lc2J it1 vs1 g1 f) (F d)) :
    ∀ (ds : List D) (n : Nat) (Q : List D → Prop), All (flX F n ds) Q → lc2L g yesT it1 vs1 g1 yesT f ρ n ds Q
  | [], n, Q, q => q
  | d :: ds, n, Q, q => h d _ (all_bd.mp q) _ fun ρ' z ⟨x1, hx1, G, hG, e⟩ q1 => by
    subst e
    refine hx1 _ ((all_bd.mp q1).mono fun xs1 q2 => ?_)
    have q3 := mapX_len q2
    obtain ⟨ys, e1, e2⟩ := all_ex q3
    refine ⟨by rw [← e1]; exact (all_grd e2).1, lcL_mapX hG xs1 _ (q2.mono fun ys q => ?_)⟩
    exact lc2L_map h ds _ _ ((all_bd.mp (all_grd q).2).mono fun zs q => q)
theorem qx_lc2 {vs vs1 : List Nat} {it1 : SA} {g1 : SG} {F : D → Rs (List D)} (hi : QX ρ it x) (h : ∀ d, GX g d (wipeE ρ vs) (Lc2J it1 vs1 g1 f) (F d)) :
    QX ρ (lc2A it g yesT it1 vs1 g1 yesT f vs) (x.bd fun xs => flX F 0 xs) := fun Q q =>
  hi _ ((all_bd.mp q).mono fun xs q => lc2L_map h xs 0 Q q)
theorem lc2_j {it1 : SA} {vs1 : List Nat} {g1 : SG} {x1 : Rs (List D)} {G : D → Rs D} (hx : QX ρ it1 x1) (hG : ∀ d, GX g1 d (wipeE ρ vs1) (fun ρ' y => QX ρ' f y) (G d)) : Lc2J it1 vs1 g1 f ρ (x1.bd fun l => mapX G l) := ⟨x1, hx, G, hG, rfl⟩
end
/-! ### answers by functions: statements -/
/-- a block gives an outcome: whatever its continuations hold by K, its meaning holds; Fo: what the end of the block asks -/
def GT {O : Type} (K : O → Kt → Prop) (Fo : Kt → Prop) (ρ : REnv) (s : SS) (x : Rs O) : Prop := ∀ k, All x (fun o => K o k) → Fo k → s ρ k
inductive Lp (S : Type) where
  | go (s : S) | bk (s : S) | rt (d : D)
/-- a def's end -/
def KF : D → Kt → Prop := fun d k => k.rt d
def FoF : Kt → Prop := fun k => ∀ ρ, k.rt .non → k.nx ρ
/-- a block's end, the variables by E -/
def KB {S : Type} (E : S → REnv → Prop) : S → Kt → Prop := fun s k => ∀ ρ, E s ρ → k.nx ρ
def FoB : Kt → Prop := fun _ => True
/-- a loop's turn that may leave -/
def KL {S : Type} (E : S → REnv → Prop) : Lp S → Kt → Prop := fun o k => match o with
  | .go s => ∀ ρ, E s ρ → k.ct ρ
  | .bk s => ∀ ρ, E s ρ → k.bk ρ
  | .rt d => k.rt d
def FoL : Kt → Prop := fun k => ∀ ρ, k.ct ρ → k.nx ρ
section
variable {O S : Type} {K : O → Kt → Prop} {Fo : Kt → Prop} {ρ : REnv} {s t u : SS} {f g : SE} {E : S → REnv → Prop}
theorem gt_one {x : Rs O} (h : GT K Fo ρ (seqS s nextS) x) : GT K Fo ρ s x := h
theorem gt_as {x : Rs O} (h : GT K Fo ρ (seqS s (seqS t u)) x) : GT K Fo ρ (seqS (seqS s t) u) x := h
/-! ends -/
theorem gt_endF : GT KF FoF ρ nextS (.ok .non) := fun k hk hf => hf ρ hk
theorem gt_endB {v : S} (h : E v ρ) : GT (KB E) Fo ρ nextS (.ok v) := fun k hk _ => hk ρ h
theorem gt_endL {v : S} (h : E v ρ) : GT (KL E) FoL ρ nextS (.ok (.go v)) := fun k hk hf => hf ρ (hk ρ h)
theorem gt_cnt {v : S} (h : E v ρ) : GT (KL E) Fo ρ (seqS cntS t) (.ok (.go v)) := fun k hk _ => hk ρ h
theorem gt_brk {v : S} (h : E v ρ) : GT (KL E) Fo ρ (seqS brkS t) (.ok (.bk v)) := fun k hk _ => hk ρ h
theorem gt_retF {x : Rs D} (h : QX ρ f x) : GT KF Fo ρ (seqS (retS f) t) x := fun k hk _ => h _ hk
theorem gt_retL {x : Rs D} (h : QX ρ f x) : GT (KL E) Fo ρ (seqS (retS f) t) (x.bd fun d => .ok (.rt d)) := fun k hk _ => h _ ((all_bd.mp hk).mono fun d q => q)
theorem gt_raise {n : Str} {y : Rs (List D)} : GT K Fo ρ (seqS noS t) (y.bd fun ds => .er n ds) := fun k hk _ => by
  obtain ⟨_, q⟩ := all_ex (all_bd.mp hk)
  exact q.elim
theorem gt_pass {x : Rs O} (h : GT K Fo ρ t x) : GT K Fo ρ (seqS nextS t) x := h
/-! stores -/
theorem gt_set {i : Nat} {x : Rs D} {y : D → Rs O} (hf : QX ρ f x) (h : ∀ a, GT K Fo (ρ.set i (some (.sh a))) t (y a)) : GT K Fo ρ (seqS (setS i f) t) (x.bd y) := fun k hk hF =>
  hf _ ((all_bd.mp hk).mono fun a q => h a k q hF)
theorem gt_setO {i : Nat} {f : SA} {x : Rs (List D)} {y : List D → Rs O} (hf : QX ρ f x) (h : ∀ a, GT K Fo (ρ.set i (some (.own a))) t (y a)) : GT K Fo ρ (seqS (Z0.setO i f) t) (x.bd y) := fun k hk hF =>
  hf _ ((all_bd.mp hk).mono fun a q => h a k q hF)
def appX (l : List D) (d : D) : Rs (List D) := grd (l.length < big) (.ok (l ++ [d]))
theorem appS_at {i : Nat} {l : List D} {k : Kt} (hi : ρ[i]? = some (some (.own l))) (h : l.length < big ∧ f ρ fun d => k.nx (ρ.set i (some (.own (l ++ [d]))))) : appS i f ρ k := by
  unfold appS; rw [hi]; exact h
theorem gt_app {i : Nat} {l : List D} {x : Rs D} {y : List D → Rs O} (hi : ρ[i]? = some (some (.own l))) (hf : QX ρ f x) (h : ∀ a, GT K Fo (ρ.set i (some (.own a))) t (y a)) : GT K Fo ρ (seqS (appS i f) t) (x.bd fun a => (appX l a).bd y) := fun k hk hF => by
  have q := all_bd.mp hk
  have c : l.length < big := by
    obtain ⟨_, q⟩ := all_ex q
    exact (all_grd (all_bd.mp q)).1
  exact appS_at hi ⟨c, hf _ (q.mono fun a q => h _ k (all_grd (all_bd.mp q)).2 hF)⟩
def popX (l : List D) : Rs (List D) := grd (l ≠ []) (.ok l.dropLast)
theorem popS_at {i : Nat} {l : List D} {k : Kt} (hi : ρ[i]? = some (some (.own l))) (h : l ≠ [] ∧ k.nx (ρ.set i (some (.own l.dropLast)))) : popS i ρ k := by
  unfold popS; rw [hi]; exact h
theorem gt_pop {i : Nat} {l : List D} {y : List D → Rs O} (hi : ρ[i]? = some (some (.own l))) (h : ∀ a, GT K Fo (ρ.set i (some (.own a))) t (y a)) : GT K Fo ρ (seqS (popS i) t) ((popX l).bd y) := fun k hk hF => by
  obtain ⟨c, q⟩ := all_grd (all_bd.mp hk)
  exact popS_at hi ⟨c, h _ k q hF⟩
def putX (l : List D) (z d : D) : Rs (List D) := match z with
  | .int j => (match ixN l.length j with
    | some m => .ok (l.set m d)
    | none => .no)
  | _ => .no
theorem putS_at {i : Nat} {l : List D} {k : Kt} (hi : ρ[i]? = some (some (.own l))) (h : f ρ fun d => g ρ fun z => match z with
    | .int j => (match ixN l.length j with
      | some m => k.nx (ρ.set i (some (.own (l.set m d))))
      | none => False)
    | _ => False) : putS i f g ρ k := by
  unfold putS; rw [hi]; exact h
def PutP (l : List D) (j d : D) (P : List D → Prop) : Prop := match j with
  | .int j => (match ixN l.length j with
    | some m => P (l.set m d)
    | none => False)
  | _ => False
theorem putX_at {l : List D} {j d : D} {P : List D → Prop} (q : All (putX l j d) P) : PutP l j d P := by
  unfold putX at q
  unfold PutP
  cases j with
  | int j =>
    dsimp only at q ⊢
    cases e : ixN l.length j with
    | some m => rw [e] at q; exact q
    | none => rw [e] at q; exact q
  | _ => exact q
theorem gt_put {i : Nat} {l : List D} {x z : Rs D} {y : List D → Rs O} (hi : ρ[i]? = some (some (.own l))) (hf : QX ρ f x) (hg : QX ρ g z) (h : ∀ a, GT K Fo (ρ.set i (some (.own a))) t (y a)) : GT K Fo ρ (seqS (putS i f g) t) (x.bd fun d => z.bd fun j => (putX l j d).bd y) := fun k hk hF =>
  putS_at hi (hf _ ((all_bd.mp hk).mono fun d q => hg _ ((all_bd.mp q).mono fun j q => putX_at ((all_bd.mp q).mono fun a q => h a k q hF))))
def getX (l : List D) (z : D) : Rs D := match z with
  | .int j => (match ixN l.length j with
    | some m => ofO l[m]?
    | none => .no)
  | _ => .no
theorem augI_at {i : Nat} {l : List D} {k : Kt} {o2 : O2} (hi : ρ[i]? = some (some (.own l))) (h : g ρ fun z => match z with
    | .int j => (match ixN l.length j with
      | some m => (match l[m]? with
        | some x => f ρ fun y => o2 x y fun d => k.nx (ρ.set i (some (.own (l.set m d))))
        | none => False)
      | none => False)
    | _ => False) : augI i o2 g f ρ k := by
  unfold augI; rw [hi]; exact h
theorem getX_at {l : List D} {j : D} {P : D → Prop} (q : All (getX l j) P) : ∃ (n : Int) (m : Nat) (a : D), j = .int n ∧ ixN l.length n = some m ∧ l[m]? = some a ∧ P a := by
  unfold getX at q
  cases j with
  | int n =>
    dsimp only at q
    cases e : ixN l.length n with
    | some m =>
      rw [e] at q
      obtain ⟨a, e2, q⟩ := all_ofO q
      exact ⟨n, m, a, rfl, e, e2, q⟩
    | none => rw [e] at q; exact q.elim
  | _ => exact q.elim
theorem gt_augI {i : Nat} {l : List D} {o2 : O2} {xo : D → D → Rs D} {z x : Rs D} {y : List D → Rs O} (hi : ρ[i]? = some (some (.own l))) (ho : O2X o2 xo) (hg : QX ρ g z) (hf : QX ρ f x) (h : ∀ a, GT K Fo (ρ.set i (some (.own a))) t (y a)) :
    GT K Fo ρ (seqS (augI i o2 g f) t) (z.bd fun j => (getX l j).bd fun a => x.bd fun b => (xo a b).bd fun d => (putX l j d).bd y) := fun k hk hF =>
  augI_at hi (hg _ ((all_bd.mp hk).mono fun j q => by
    obtain ⟨n, m, a, rfl, e1, e2, q⟩ := getX_at (all_bd.mp q)
    dsimp only
    rw [e1]
    dsimp only
    rw [e2]
    refine hf _ ((all_bd.mp q).mono fun b q => ho a b _ ((all_bd.mp q).mono fun d q => ?_))
    have q2 := putX_at (all_bd.mp q)
    unfold PutP at q2
    dsimp only at q2
    rw [e1] at q2
    exact h _ k q2 hF))
theorem augS_at {i : Nat} {d : D} {k : Kt} {o2 : O2} (hi : ρ[i]? = some (some (.sh d))) (h : f ρ fun y => o2 d y fun d => k.nx (ρ.set i (some (.sh d)))) : augS i o2 f ρ k := by
  unfold augS; rw [hi]; exact h
theorem gt_aug {i : Nat} {v : D} {o2 : O2} {xo : D → D → Rs D} {x : Rs D} {y : D → Rs O} (hi : ρ[i]? = some (some (.sh v))) (ho : O2X o2 xo) (hf : QX ρ f x) (h : ∀ a, GT K Fo (ρ.set i (some (.sh a))) t (y a)) : GT K Fo ρ (seqS (augS i o2 f) t) (x.bd fun b => (xo v b).bd y) := fun k hk hF =>
  augS_at hi (hf _ ((all_bd.mp hk).mono fun b q => ho v b _ ((all_bd.mp q).mono fun d q => h _ k q hF)))
theorem gt_par {i j : Nat} {x z : Rs D} {y : D → D → Rs O} (hf : QX ρ f x) (hg : QX ρ g z) (h : ∀ a b, GT K Fo ((ρ.set i (some (.sh a))).set j (some (.sh b))) t (y a b)) : GT K Fo ρ (seqS (parS i j (consA f (consA g nilA))) t) (x.bd fun a => z.bd fun b => y a b) := fun k hk hF =>
  hf _ ((all_bd.mp hk).mono fun a q => hg _ ((all_bd.mp q).mono fun b q => h a b k q hF))
theorem gt_par3 {i j l : Nat} {m : SE} {x z w : Rs D} {y : D → D → D → Rs O} (hf : QX ρ f x) (hg : QX ρ g z) (hm : QX ρ m w) (h : ∀ a b c, GT K Fo (((ρ.set i (some (.sh a))).set j (some (.sh b))).set l (some (.sh c))) t (y a b c)) :
    GT K Fo ρ (seqS (par3S i j l (consA f (consA g (consA m nilA)))) t) (x.bd fun a => z.bd fun b => w.bd fun c => y a b c) := fun k hk hF =>
  hf _ ((all_bd.mp hk).mono fun a q => hg _ ((all_bd.mp q).mono fun b q => hm _ ((all_bd.mp q).mono fun c q => h a b c k q hF)))
/-- a value for a slot, shared or one's own -/
def MX {β : Type} (ρ : REnv) (m : SM1) (x : Rs β) (sl : β → Slot) : Prop := ∀ Q : Slot → Prop, All x (fun b => Q (sl b)) → m ρ Q
theorem mx_sh {x : Rs D} (hf : QX ρ f x) : MX ρ (shM f) x Slot.sh := fun Q q => hf _ q
theorem mx_own {f : SA} {x : Rs (List D)} (hf : QX ρ f x) : MX ρ (ownM f) x Slot.own := fun Q q => hf _ q
theorem gt_m1 {α : Type} {is : List Nat} {m1 : SM1} {x : Rs α} {s1 : α → Slot} {y : α → Rs O} (h1 : MX ρ m1 x s1) (h : ∀ a, GT K Fo (setAll ρ is [s1 a]) t (y a)) : GT K Fo ρ (seqS (parM is (consM m1 nilM)) t) (x.bd y) := fun k hk hF =>
  h1 _ ((all_bd.mp hk).mono fun a q => h a k q hF)
theorem gt_m2 {α β : Type} {is : List Nat} {m1 m2 : SM1} {x : Rs α} {z : Rs β} {s1 : α → Slot} {s2 : β → Slot} {y : α → β → Rs O} (h1 : MX ρ m1 x s1) (h2 : MX ρ m2 z s2) (h : ∀ a b, GT K Fo (setAll ρ is [s1 a, s2 b]) t (y a b)) :
    GT K Fo ρ (seqS (parM is (consM m1 (consM m2 nilM))) t) (x.bd fun a => z.bd fun b => y a b) := fun k hk hF =>
  h1 _ ((all_bd.mp hk).mono fun a q => h2 _ ((all_bd.mp q).mono fun b q => h a b k q hF))
theorem gt_m3 {α β γ : Type} {is : List Nat} {m1 m2 m3 : SM1} {x : Rs α} {z : Rs β} {w : Rs γ} {s1 : α → Slot} {s2 : β → Slot} {s3 : γ → Slot} {y : α → β → γ → Rs O} (h1 : MX ρ m1 x s1) (h2 : MX ρ m2 z s2) (h3 : MX ρ m3 w s3) (h : ∀ a b c, GT K Fo (setAll ρ is [s1 a, s2 b, s3 c]) t (y a b c)) :
    GT K Fo ρ (seqS (parM is (consM m1 (consM m2 (consM m3 nilM)))) t) (x.bd fun a => z.bd fun b => w.bd fun c => y a b c) := fun k hk hF =>
  h1 _ ((all_bd.mp hk).mono fun a q => h2 _ ((all_bd.mp q).mono fun b q => h3 _ ((all_bd.mp q).mono fun c q => h a b c k q hF)))
theorem gt_m4 {α β γ δ : Type} {is : List Nat} {m1 m2 m3 m4 : SM1} {x : Rs α} {z : Rs β} {w : Rs γ} {v : Rs δ} {s1 : α → Slot} {s2 : β → Slot} {s3 : γ → Slot} {s4 : δ → Slot} {y : α → β → γ → δ → Rs O} (h1 : MX ρ m1 x s1) (h2 : MX ρ m2 z s2) (h3 : MX ρ m3 w s3) (h4 : MX ρ m4 v s4) (h : ∀ a b c d, GT K Fo (setAll ρ is [s1 a, s2 b, s3 c, s4 d]) t (y a b c d)) :
    GT K Fo ρ (seqS (parM is (consM m1 (consM m2 (consM m3 (consM m4 nilM))))) t) (x.bd fun a => z.bd fun b => w.bd fun c => v.bd fun d => y a b c d) := fun k hk hF =>
  h1 _ ((all_bd.mp hk).mono fun a q => h2 _ ((all_bd.mp q).mono fun b q => h3 _ ((all_bd.mp q).mono fun c q => h4 _ ((all_bd.mp q).mono fun d q => h a b c d k q hF))))
theorem gt_asg {x : Rs D} {tg : SG} {y : D → Rs O} (hf : QX ρ f x) (h : ∀ d, GX tg d ρ (fun ρ' z => GT K Fo ρ' t z) (y d)) : GT K Fo ρ (seqS (asgS f tg) t) (x.bd y) := fun k hk hF =>
  hf _ ((all_bd.mp hk).mono fun a q => h a _ q _ fun ρ' z hz qz => hz k qz hF)
theorem gt_drop {x : Rs D} {y : Rs O} (hf : QX ρ f x) (h : GT K Fo ρ t y) : GT K Fo ρ (seqS (dropS f) t) (x.bd fun _ => y) := fun k hk hF =>
  hf _ ((all_bd.mp hk).mono fun a q => h k q hF)
theorem gt_frz {i : Nat} {l : List D} {x : Rs O} (hi : ρ[i]? = some (some (.own l))) (h : GT K Fo (ρ.set i (some (.sh (.lst l)))) (seqS s t) x) : GT K Fo ρ (seqS (frzS i s) t) x := fun k hk hF => by
  show frzS i s ρ _
  unfold frzS
  rw [hi]
  exact h k hk hF
theorem gt_frzU {i : Nat} {l : List D} {x : Rs O} (hi : ρ[i]? = some (some (.own l))) (h : GT K Fo (ρ.set i (some (.sh (.lst l)))) (seqS s t) x) : GT K Fo ρ (seqS (frzU i s) t) x := fun k hk hF => by
  show frzU i s ρ _
  unfold frzU
  rw [hi]
  exact h k hk hF
theorem gt_frzN {i : Nat} {d : D} {x : Rs O} (hi : ρ[i]? = some (some (.sh d))) (h : GT K Fo ρ (seqS s t) x) : GT K Fo ρ (seqS (frzU i s) t) x := fun k hk hF => by
  show frzU i s ρ _
  unfold frzU
  rw [hi]
  exact h k hk hF
/-! if -/
theorem gt_ifD {c : ST} {w : Rs Bool} {x y : Rs O} (hc : QX ρ c w) (hs : GT K Fo ρ (seqS s t) x) (hu : GT K Fo ρ (seqS u t) y) : GT K Fo ρ (seqS (ifS c s u) t) (w.bd fun b => cond b x y) := fun k hk hF =>
  hc _ ((all_bd.mp hk).mono fun b q => by
    cases b with
    | true => exact hs k q hF
    | false => exact hu k q hF)
theorem gt_ifJ {c : ST} {w : Rs Bool} {x y : Rs S} {z : S → Rs O} (hc : QX ρ c w) (hs : GT (KB E) FoB ρ (seqS s nextS) x) (hu : GT (KB E) FoB ρ (seqS u nextS) y) (h : ∀ v ρ', E v ρ' → GT K Fo ρ' t (z v)) : GT K Fo ρ (seqS (ifS c s u) t) ((w.bd fun b => cond b x y).bd z) := fun k hk hF =>
  hc _ ((all_bd.mp (all_bd.mp hk)).mono fun b q => by
    cases b with
    | true => exact hs { k with nx := fun ρ' => t ρ' k } (All.mono (fun v q ρ' hρ => h v ρ' hρ k q hF) q) trivial
    | false => exact hu { k with nx := fun ρ' => t ρ' k } (All.mono (fun v q ρ' hρ => h v ρ' hρ k q hF) q) trivial)
/-! loops -/
def forX {α : Type} (step : S → α → Rs S) : S → List α → Rs S
  | s, [] => .ok s
  | s, d :: ds => (step s d).bd fun s' => forX step s' ds
theorem forL_x {tg : SG} {step : S → D → Rs S} (hb : ∀ v d ρ1, E v ρ1 → GX tg d ρ1 (fun ρ2 y => GT (KB E) FoB ρ2 (seqS s nextS) y) (step v d)) : ∀ (ds : List D) (v : S) (ρ : REnv) (k : Kt), E v ρ → All (forX step v ds) (fun v' => ∀ ρ', E v' ρ' → k.nx ρ') → forL tg s ds ρ k
  | [], v, ρ, k, hE, q => q ρ hE
  | d :: ds, v, ρ, k, hE, q => hb v d ρ hE _ (all_bd.mp q) _ fun ρ2 y hy qy => hy (loopK (fun ρ' => forL tg s ds ρ' k) k) (qy.mono fun v1 q1 ρ3 h3 => forL_x hb ds v1 ρ3 k h3 q1) trivial
theorem gt_for {it : SA} {tg : SG} {x : Rs (List D)} {step : S → D → Rs S} {z : S → Rs O} {v0 : S} (hi : QX ρ it x) (h0 : E v0 ρ) (hb : ∀ v d ρ1, E v ρ1 → GX tg d ρ1 (fun ρ2 y => GT (KB E) FoB ρ2 (seqS s nextS) y) (step v d)) (h : ∀ v ρ', E v ρ' → GT K Fo ρ' t (z v)) :
    GT K Fo ρ (seqS (forS it tg s) t) (x.bd fun xs => (forX step v0 xs).bd z) := fun k hk hF =>
  hi _ ((all_bd.mp hk).mono fun xs q => forL_x hb xs v0 ρ _ h0 ((all_bd.mp q).mono fun v q ρ' hρ => h v ρ' hρ k q hF))
def forR {α : Type} (step : S → α → Rs (Lp S)) : S → List α → Rs (Lp S)
  | s, [] => .ok (.go s)
  | s, d :: ds => (step s d).bd fun r => match r with
    | .go s' => forR step s' ds
    | .bk s' => .ok (.bk s')
    | .rt d => .ok (.rt d)
def OutK (E : S → REnv → Prop) (k : Kt) (r : Lp S) : Prop := match r with
  | .go v => ∀ ρ', E v ρ' → k.nx ρ'
  | .bk v => ∀ ρ', E v ρ' → k.nx ρ'
  | .rt d => k.rt d
theorem forL_r {tg : SG} {step : S → D → Rs (Lp S)} (hb : ∀ v d ρ1, E v ρ1 → GX tg d ρ1 (fun ρ2 y => GT (KL E) FoL ρ2 (seqS s nextS) y) (step v d)) : ∀ (ds : List D) (v : S) (ρ : REnv) (k : Kt), E v ρ → All (forR step v ds) (OutK E k) → forL tg s ds ρ k
  | [], v, ρ, k, hE, q => q ρ hE
  | d :: ds, v, ρ, k, hE, q => hb v d ρ hE _ (all_bd.mp q) _ fun ρ2 y hy qy => hy (loopK (fun ρ' => forL tg s ds ρ' k) k) (qy.mono fun r q1 => by
      cases r with
      | go v1 => exact fun ρ3 h3 => forL_r hb ds v1 ρ3 k h3 q1
      | bk v1 => exact q1
      | rt d => exact q1) (fun _ z => z)
def outX {β : Type} (r : Lp S) (z : S → Rs β) (w : D → Rs β) : Rs β := match r with
  | .go v => z v
  | .bk v => z v
  | .rt d => w d
theorem gt_forR {it : SA} {tg : SG} {x : Rs (List D)} {step : S → D → Rs (Lp S)} {z : S → Rs O} {w : D → O} {v0 : S} (hw : ∀ d k, K (w d) k → k.rt d) (hi : QX ρ it x) (h0 : E v0 ρ) (hb : ∀ v d ρ1, E v ρ1 → GX tg d ρ1 (fun ρ2 y => GT (KL E) FoL ρ2 (seqS s nextS) y) (step v d)) (h : ∀ v ρ', E v ρ' → GT K Fo ρ' t (z v)) :
    GT K Fo ρ (seqS (forS it tg s) t) (x.bd fun xs => (forR step v0 xs).bd fun r => outX r z fun d => .ok (w d)) := fun k hk hF =>
  hi _ ((all_bd.mp hk).mono fun xs q => forL_r hb xs v0 ρ _ h0 ((all_bd.mp q).mono fun r q => by
    cases r with
    | go v => exact fun ρ' hρ => h v ρ' hρ k q hF
    | bk v => exact fun ρ' hρ => h v ρ' hρ k q hF
    | rt d => exact hw d k q))
def FU : Nat := 2 ^ 1000
def whX (test : S → Rs Bool) (step : S → Rs S) : Nat → S → Rs S
  | 0, _ => .no
  | n + 1, s => (test s).bd fun b => cond b ((step s).bd fun s' => whX test step n s') (.ok s)
theorem whN_x {c : ST} {test : S → Rs Bool} {step : S → Rs S} (ht : ∀ v ρ1, E v ρ1 → QX ρ1 c (test v)) (hb : ∀ v ρ1, E v ρ1 → GT (KB E) FoB ρ1 (seqS s nextS) (step v)) : ∀ (n : Nat) (v : S) (ρ : REnv) (k : Kt), E v ρ → All (whX test step n v) (fun v' => ∀ ρ', E v' ρ' → k.nx ρ') → whN c s n ρ k
  | 0, v, ρ, k, hE, q => q.elim
  | n + 1, v, ρ, k, hE, q => ht v ρ hE _ ((all_bd.mp q).mono fun b q => by
    cases b with
    | true => exact hb v ρ hE (loopK (fun ρ' => whN c s n ρ' k) k) ((all_bd.mp (show All ((step v).bd _) _ from q)).mono fun v1 q ρ3 h3 => whN_x ht hb n v1 ρ3 k h3 q) trivial
    | false => exact q ρ hE)
theorem gt_wh {c : ST} {test : S → Rs Bool} {step : S → Rs S} {z : S → Rs O} {v0 : S} (h0 : E v0 ρ) (ht : ∀ v ρ1, E v ρ1 → QX ρ1 c (test v)) (hb : ∀ v ρ1, E v ρ1 → GT (KB E) FoB ρ1 (seqS s nextS) (step v)) (h : ∀ v ρ', E v ρ' → GT K Fo ρ' t (z v)) :
    GT K Fo ρ (seqS (whS c s) t) ((whX test step FU v0).bd z) := fun k hk hF =>
  ⟨FU, whN_x ht hb FU v0 ρ _ h0 ((all_bd.mp hk).mono fun v q ρ' hρ => h v ρ' hρ k q hF)⟩
def whR (test : S → Rs Bool) (step : S → Rs (Lp S)) : Nat → S → Rs (Lp S)
  | 0, _ => .no
  | n + 1, s => (test s).bd fun b => cond b ((step s).bd fun r => match r with
    | .go s' => whR test step n s'
    | .bk s' => .ok (.bk s')
    | .rt d => .ok (.rt d)) (.ok (.go s))
theorem whN_r {c : ST} {test : S → Rs Bool} {step : S → Rs (Lp S)} (ht : ∀ v ρ1, E v ρ1 → QX ρ1 c (test v)) (hb : ∀ v ρ1, E v ρ1 → GT (KL E) FoL ρ1 (seqS s nextS) (step v)) : ∀ (n : Nat) (v : S) (ρ : REnv) (k : Kt), E v ρ → All (whR test step n v) (OutK E k) → whN c s n ρ k
  | 0, v, ρ, k, hE, q => q.elim
  | n + 1, v, ρ, k, hE, q => ht v ρ hE _ ((all_bd.mp q).mono fun b q => by
    cases b with
    | true => exact hb v ρ hE (loopK (fun ρ' => whN c s n ρ' k) k) ((all_bd.mp (show All ((step v).bd _) _ from q)).mono fun r q1 => by
        cases r with
        | go v1 => exact fun ρ3 h3 => whN_r ht hb n v1 ρ3 k h3 q1
        | bk v1 => exact q1
        | rt d => exact q1) (fun _ z => z)
    | false => exact q ρ hE)
theorem gt_whR {c : ST} {test : S → Rs Bool} {step : S → Rs (Lp S)} {z : S → Rs O} {w : D → O} {v0 : S} (hw : ∀ d k, K (w d) k → k.rt d) (h0 : E v0 ρ) (ht : ∀ v ρ1, E v ρ1 → QX ρ1 c (test v)) (hb : ∀ v ρ1, E v ρ1 → GT (KL E) FoL ρ1 (seqS s nextS) (step v)) (h : ∀ v ρ', E v ρ' → GT K Fo ρ' t (z v)) :
    GT K Fo ρ (seqS (whS c s) t) ((whR test step FU v0).bd fun r => outX r z fun d => .ok (w d)) := fun k hk hF =>
  ⟨FU, whN_r ht hb FU v0 ρ _ h0 ((all_bd.mp hk).mono fun r q => by
    cases r with
    | go v => exact fun ρ' hρ => h v ρ' hρ k q hF
    | bk v => exact fun ρ' hρ => h v ρ' hρ k q hF
    | rt d => exact hw d k q)⟩
theorem kf_rt : ∀ (d : D) (k : Kt), KF d k → k.rt d := fun _ _ h => h
theorem kl_rt : ∀ (d : D) (k : Kt), KL E (.rt d) k → k.rt d := fun _ _ h => h
end
/-! a def -/
theorem mir1 {N : List Str} {sem : SS} {F : D → Rs D} (h : ∀ a, GT KF FoF (startE N [a]) sem (F a)) : ∀ ds Q, ds.length = 1 → x1O F ds Q → sem (startE N ds) (endK Q) := fun ds Q hl q => by
  match ds, hl, q with
  | [a], _, q => exact h a (endK Q) q.h fun _ z => z
theorem mir2 {N : List Str} {sem : SS} {F : D → D → Rs D} (h : ∀ a b, GT KF FoF (startE N [a, b]) sem (F a b)) : ∀ ds Q, ds.length = 2 → x2O F ds Q → sem (startE N ds) (endK Q) := fun ds Q hl q => by
  match ds, hl, q with
  | [a, b], _, q => exact h a b (endK Q) q.h fun _ z => z
theorem mir3 {N : List Str} {sem : SS} {F : D → D → D → Rs D} (h : ∀ a b c, GT KF FoF (startE N [a, b, c]) sem (F a b c)) : ∀ ds Q, ds.length = 3 → x3O F ds Q → sem (startE N ds) (endK Q) := fun ds Q hl q => by
  match ds, hl, q with
  | [a, b, c], _, q => exact h a b c (endK Q) q.h fun _ z => z
theorem mir4 {N : List Str} {sem : SS} {F : D → D → D → D → Rs D} (h : ∀ a b c m, GT KF FoF (startE N [a, b, c, m]) sem (F a b c m)) : ∀ ds Q, ds.length = 4 → x4O F ds Q → sem (startE N ds) (endK Q) := fun ds Q hl q => by
  match ds, hl, q with
  | [a, b, c, m], _, q => exact h a b c m (endK Q) q.h fun _ z => z
theorem mir5 {N : List Str} {sem : SS} {F : D → D → D → D → D → Rs D} (h : ∀ a b c m n, GT KF FoF (startE N [a, b, c, m, n]) sem (F a b c m n)) : ∀ ds Q, ds.length = 5 → x5O F ds Q → sem (startE N ds) (endK Q) := fun ds Q hl q => by
  match ds, hl, q with
  | [a, b, c, m, n], _, q => exact h a b c m n (endK Q) q.h fun _ z => z
theorem ok_nev {P : Program} {w : World} {K : Kf} {mg : Str → Option Value} {base : Heap} {f : Addr} {fd : FuncData} {ps : List Str} {n k : Nat} {G : OC} (hn : ps.length = n) (hG : ∀ ds Q, ¬ G ds Q) : FnOk P w K mg base CX0 k f fd ps (spOf K n G) :=
  ⟨fun vs H Q E h => h.1.trans hn.symm, fun A outer s H args us vs Q E _ _ _ _ h => by
    obtain ⟨_, _, _, ds, _, _, q⟩ := h
    exact absurd q (hG _ _)⟩
theorem x1O_no {F : D → Rs D} (h : ∀ a, F a = .no) : ∀ ds Q, ¬ x1O F ds Q := fun ds Q q => by
  unfold x1O at q
  split at q
  · rw [h] at q; exact q.h
  · exact q
theorem x2O_no {F : D → D → Rs D} (h : ∀ a b, F a b = .no) : ∀ ds Q, ¬ x2O F ds Q := fun ds Q q => by
  unfold x2O at q
  split at q
  · rw [h] at q; exact q.h
  · exact q
theorem x3O_no {F : D → D → D → Rs D} (h : ∀ a b c, F a b c = .no) : ∀ ds Q, ¬ x3O F ds Q := fun ds Q q => by
  unfold x3O at q
  split at q
  · rw [h] at q; exact q.h
  · exact q
/-! the law: its rest behind the row of draws -/
def KW : D → Kt → Prop := fun d k => k.rt d
/-- whatever is drawn, a test holds: reckoned -/
def allB {α : Type} (q : α → Bool) (x : Rs α) : Bool := Rs.rec (motive := fun _ => Bool) (fun a => q a) (fun _ _ => false) false (fun m _ ih => decide (0 < m ∧ small m) && (List.range m.toNat).all fun v => ih (v : Int)) x
theorem allB_s {α : Type} {q : α → Bool} : ∀ {x : Rs α}, allB q x = true → All x fun a => q a = true
  | .ok a, h => h
  | .er _ _, h => Bool.noConfusion h
  | .no, h => Bool.noConfusion h
  | .ask m k, h => by
    obtain ⟨h1, h2⟩ := Bool.and_eq_true_iff.mp (show (decide (0 < m ∧ small m) && (List.range m.toNat).all fun v => allB q (k (v : Int))) = true from h)
    refine ⟨of_decide_eq_true h1, fun v h0 hm => ?_⟩
    have := List.all_eq_true.mp h2 v.toNat (List.mem_range.mpr (by omega))
    rw [Int.toNat_of_nonneg h0] at this
    exact allB_s (x := k v) this
/-! ### answers by functions: dicts of one's own -/
section
variable {ρ : REnv} {f g : SE} {x y : Rs D} {b : Bool} {kvs : List (D × D)} {i : Nat}
theorem dgetE_at {Q : D → Prop} (hi : ρ[i]? = some (some (.dic b kvs))) (h : f ρ fun k => kfit b k = true ∧ match getK kvs k with
    | some d => Q d
    | none => False) : dgetE i f ρ Q := by unfold dgetE; rw [hi]; exact h
theorem qx_dget (hi : ρ[i]? = some (some (.dic b kvs))) (hf : QX ρ f x) : QX ρ (dgetE i f) (x.bd fun k => grd (kfit b k = true) (ofO (getK kvs k))) := fun Q q =>
  dgetE_at hi (hf _ ((all_bd.mp q).mono fun k q => by
    obtain ⟨c, q⟩ := all_grd q
    obtain ⟨d, e, q⟩ := all_ofO q
    exact ⟨c, by rw [e]; exact q⟩))
theorem dinE_at {m : Bool} {Q : D → Prop} (hi : ρ[i]? = some (some (.dic b kvs))) (h : f ρ fun k => kfit b k = true ∧ Q (.bl (if m then !(getK kvs k).isSome else (getK kvs k).isSome))) : dinE m i f ρ Q := by unfold dinE; rw [hi]; exact h
theorem qx_din (hi : ρ[i]? = some (some (.dic b kvs))) (hf : QX ρ f x) : QX ρ (dinE false i f) (x.bd fun k => grd (kfit b k = true) (.ok (.bl (getK kvs k).isSome))) := fun Q q =>
  dinE_at hi (hf _ ((all_bd.mp q).mono fun k q => all_grd q))
theorem qx_dnin (hi : ρ[i]? = some (some (.dic b kvs))) (hf : QX ρ f x) : QX ρ (dinE true i f) (x.bd fun k => grd (kfit b k = true) (.ok (.bl (!(getK kvs k).isSome)))) := fun Q q =>
  dinE_at hi (hf _ ((all_bd.mp q).mono fun k q => all_grd q))
theorem dgetD_at {Q : D → Prop} (hi : ρ[i]? = some (some (.dic b kvs))) (h : f ρ fun k => g ρ fun x => kfit b k = true ∧ Q ((getK kvs k).getD x)) : dgetD i f g ρ Q := by unfold dgetD; rw [hi]; exact h
theorem qx_dgetD (hi : ρ[i]? = some (some (.dic b kvs))) (hf : QX ρ f x) (hg : QX ρ g y) : QX ρ (dgetD i f g) (x.bd fun k => y.bd fun z => grd (kfit b k = true) (.ok ((getK kvs k).getD z))) := fun Q q =>
  dgetD_at hi (hf _ ((all_bd.mp q).mono fun k q => hg _ ((all_bd.mp q).mono fun z q => all_grd q)))
theorem qx_dlen (hi : ρ[i]? = some (some (.dic b kvs))) : QX ρ (dlenE i) (.ok (.int kvs.length)) := fun Q q => by unfold dlenE; rw [hi]; exact q
theorem qx_dkeys (hi : ρ[i]? = some (some (.dic b kvs))) : QX ρ (dkeysF i) (grd (sortOkB (kvs.map (·.1)) = true) (.ok (sortD (kvs.map (·.1))))) := fun Q q => by
  obtain ⟨c, q⟩ := all_grd q
  unfold dkeysF; rw [hi]; exact ⟨sortOkB_s c, q⟩
end
section
variable {O : Type} {K : O → Kt → Prop} {Fo : Kt → Prop} {ρ : REnv} {t : SS} {f g : SE} {b : Bool} {kvs : List (D × D)} {i : Nat}
def dputX (b : Bool) (kvs : List (D × D)) (k v : D) : Rs (List (D × D)) := grd (kfit b k = true ∧ kvs.length < big) (.ok (putK kvs k v))
theorem dputS_at {k : Kt} (hi : ρ[i]? = some (some (.dic b kvs))) (h : g ρ fun v => f ρ fun x => (kfit b x = true ∧ kvs.length < big) ∧ k.nx (ρ.set i (some (.dic b (putK kvs x v))))) : dputS i g f ρ k := by unfold dputS; rw [hi]; exact h
theorem gt_dput {v x : Rs D} {y : List (D × D) → Rs O} (hi : ρ[i]? = some (some (.dic b kvs))) (hg : QX ρ g v) (hf : QX ρ f x) (h : ∀ a, GT K Fo (ρ.set i (some (.dic b a))) t (y a)) : GT K Fo ρ (seqS (dputS i g f) t) (v.bd fun d => x.bd fun k => (dputX b kvs k d).bd y) := fun k hk hF =>
  dputS_at hi (hg _ ((all_bd.mp hk).mono fun d q => hf _ ((all_bd.mp q).mono fun z q => by
    obtain ⟨c, q⟩ := all_grd (all_bd.mp q)
    exact ⟨c, h _ k q hF⟩)))
theorem gt_setD {y : List (D × D) → Rs O} (h : ∀ a, GT K Fo (ρ.set i (some (.dic b a))) t (y a)) : GT K Fo ρ (seqS (Z0.setD i b) t) ((Rs.ok []).bd y) := fun k hk hF => h [] k hk hF
theorem mx_dic : MX ρ (dicM b) (.ok ([] : List (D × D))) (Slot.dic b) := fun Q q => q
end
theorem qx_tupOf {ρ : REnv} {f : SA} {x : Rs (List D)} (hf : QX ρ f x) : QX ρ (tupOfA f) (x.bd fun l => .ok (.tup l)) := fun Q q => hf _ ((all_bd.mp q).mono fun l q => q)
theorem run_key {ρ : REnv} {sem : SS} {x : Rs D} (g : GT KF FoF ρ sem x) (h : All x fun d => d = .bl true) : sem ρ { nx := fun _ => False, rt := fun d => d = .bl true, bk := fun _ => False, ct := fun _ => False } := g _ h (fun _ z => nomatch z)
def isTr : D → Bool
  | .bl true => true
  | _ => false
theorem isTr_eq {d : D} (h : isTr d = true) : d = .bl true := by
  unfold isTr at h
  split at h
  · rfl
  · cases h
theorem all_dec {x : Rs D} (h : allB isTr x = true) : All x fun d => d = .bl true := All.mono (fun _ => isTr_eq) (allB_s h)
/-! ### answers by functions: dicts walked, made by comprehensions, moved -/
section
variable {O S : Type} {K : O → Kt → Prop} {Fo : Kt → Prop} {ρ : REnv} {s t : SS} {f g : SE} {E : S → REnv → Prop} {b : Bool} {kvs : List (D × D)} {i j : Nat}
theorem dforS_at {it : Bool} {tg : SG} {k : Kt} (hi : ρ[i]? = some (some (.dic b kvs))) (h : forL tg s (entsD it kvs) (ρ.set i none) k) : dforS it i tg s ρ k := by unfold dforS; rw [hi]; exact h
theorem gt_dfor {it : Bool} {tg : SG} {step : S → D → Rs S} {z : S → Rs O} {v0 : S} (hi : ρ[i]? = some (some (.dic b kvs))) (h0 : E v0 (ρ.set i none)) (hb : ∀ v d ρ1, E v ρ1 → GX tg d ρ1 (fun ρ2 y => GT (KB E) FoB ρ2 (seqS s nextS) y) (step v d)) (h : ∀ v ρ', E v ρ' → GT K Fo ρ' t (z v)) :
    GT K Fo ρ (seqS (dforS it i tg s) t) ((forX step v0 (entsD it kvs)).bd z) := fun k hk hF =>
  dforS_at hi (forL_x hb _ v0 _ _ h0 ((all_bd.mp hk).mono fun v q ρ' hρ => h v ρ' hρ k q hF))
theorem gt_dforR {it : Bool} {tg : SG} {step : S → D → Rs (Lp S)} {z : S → Rs O} {w : D → O} {v0 : S} (hw : ∀ d k, K (w d) k → k.rt d) (hi : ρ[i]? = some (some (.dic b kvs))) (h0 : E v0 (ρ.set i none)) (hb : ∀ v d ρ1, E v ρ1 → GX tg d ρ1 (fun ρ2 y => GT (KL E) FoL ρ2 (seqS s nextS) y) (step v d)) (h : ∀ v ρ', E v ρ' → GT K Fo ρ' t (z v)) :
    GT K Fo ρ (seqS (dforS it i tg s) t) ((forR step v0 (entsD it kvs)).bd fun r => outX r z fun d => .ok (w d)) := fun k hk hF =>
  dforS_at hi (forL_r hb _ v0 _ _ h0 ((all_bd.mp hk).mono fun r q => by
    cases r with
    | go v => exact fun ρ' hρ => h v ρ' hρ k q hF
    | bk v => exact fun ρ' hρ => h v ρ' hρ k q hF
    | rt d => exact hw d k q))
def dcX (kd : Bool) (F : D → Rs (D × D)) : List D → List (D × D) → Rs (List (D × D))
  | [], acc => .ok acc
  | d :: ds, acc => (F d).bd fun kv => grd (kfit kd kv.1 = true ∧ acc.length < big) (dcX kd F ds (putK acc kv.1 kv.2))
abbrev DcJ (fk fv : SE) : REnv → Rs (D × D) → Prop := fun ρ' y => ∃ (u v : Rs D), QX ρ' fk u ∧ QX ρ' fv v ∧ y = u.bd fun k => v.bd fun w => .ok (k, w)
theorem dc_j {fk fv : SE} {u v : Rs D} (hu : QX ρ fk u) (hv : QX ρ fv v) : DcJ fk fv ρ (u.bd fun k => v.bd fun w => .ok (k, w)) := ⟨u, v, hu, hv, rfl⟩
theorem dcL_x {kd : Bool} {tg : SG} {fk fv : SE} {F : D → Rs (D × D)} (h : ∀ d, GX tg d ρ (DcJ fk fv) (F d)) : ∀ (ds : List D) (acc : List (D × D)) (Q : List (D × D) → Prop), All (dcX kd F ds acc) Q → dcL tg yesT fk fv kd ρ ds acc Q
  | [], acc, Q, q => q
  | d :: ds, acc, Q, q => h d _ (all_bd.mp q) _ fun ρ' z ⟨u, v, hu, hv, e⟩ q1 => by
    subst e
    refine hu _ ((all_bd.mp q1).mono fun k q2 => hv _ ((all_bd.mp q2).mono fun w q3 => ?_))
    obtain ⟨c, q4⟩ := all_grd q3
    exact ⟨c, dcL_x h ds _ Q q4⟩
theorem gt_dc {kd : Bool} {it : SA} {tg : SG} {fk fv : SE} {vs : List Nat} {x : Rs (List D)} {F : D → Rs (D × D)} {y : List (D × D) → Rs O} (hi : QX ρ it x) (hF : ∀ d, GX tg d (wipeE ρ vs) (DcJ fk fv) (F d)) (h : ∀ a, GT K Fo (ρ.set i (some (.dic kd a))) t (y a)) :
    GT K Fo ρ (seqS (setDc i kd (dcA it tg yesT fk fv kd vs)) t) (x.bd fun xs => (dcX kd F xs []).bd y) := fun k hk hFo =>
  hi _ ((all_bd.mp hk).mono fun xs q => dcL_x hF xs [] _ ((all_bd.mp q).mono fun a q => h a k q hFo))
theorem gt_setD1 {x y : Rs D} {z : List (D × D) → Rs O} (hf : QX ρ f x) (hg : QX ρ g y) (h : ∀ a, GT K Fo (ρ.set i (some (.dic false a))) t (z a)) : GT K Fo ρ (seqS (Z0.setD1 i f g) t) (x.bd fun k => y.bd fun v => (grd (kfit false k = true) (.ok [(k, v)])).bd z) := fun k hk hF =>
  hf _ ((all_bd.mp hk).mono fun a q => hg _ ((all_bd.mp q).mono fun v q => by
    obtain ⟨c, q⟩ := all_grd (all_bd.mp q)
    exact ⟨c, h _ k q hF⟩))
theorem mvD_at {k : Kt} (hi : ρ[j]? = some (some (.dic b kvs))) (h : k.nx ((ρ.set j none).set i (some (.dic b kvs)))) : mvD i j ρ k := by unfold mvD; rw [hi]; exact h
theorem gt_mvD {y : Rs O} (hi : ρ[j]? = some (some (.dic b kvs))) (h : GT K Fo ((ρ.set j none).set i (some (.dic b kvs))) t y) : GT K Fo ρ (seqS (mvD i j) t) y := fun k hk hF => mvD_at hi (h k hk hF)
end
theorem all_step {α β : Type} {x : Rs α} {f : α → Rs β} {Q : β → Prop} (a : α) (h : x = .ok a) (k : All (f a) Q) : All (x.bd f) Q := by subst h; exact k
theorem all_cf {α : Type} {x y : Rs α} {Q : α → Prop} (h : All y Q) : All (cond false x y) Q := h
theorem all_ct {α : Type} {x y : Rs α} {Q : α → Prop} (h : All x Q) : All (cond true x y) Q := h
theorem all_askX {m : Int} {Q : D → Prop} (h0 : 0 < m ∧ small m) (h : ∀ v : Int, 0 ≤ v → v < m → Q (.int v)) : All (askX .row (.int m)) Q := ⟨h0, h⟩
theorem small_dec {m : Int} (h : m.natAbs < 2 ^ 200) : small m := small_of h
theorem qx_cv {ρ : REnv} {c : Int → D} {i : Int} (hc : ∀ i, c i = .int i) : QX ρ (cE (.int i)) (.ok (c i)) := fun Q q => by
  show Q (.int i)
  rw [← hc i]
  exact q
theorem as_step {α β : Type} {x : Rs α} {f : α → Rs β} {Q : β → Prop} (a : α) (h : x = .ok a) (k : AS (f a) Q) : AS (x.bd f) Q := by subst h; exact ⟨k.h⟩
theorem as_cf {α : Type} {x y : Rs α} {Q : α → Prop} (h : AS y Q) : AS (cond false x y) Q := h
theorem as_ct {α : Type} {x y : Rs α} {Q : α → Prop} (h : AS x Q) : AS (cond true x y) Q := h
theorem as_bd {α β : Type} {x : Rs α} {f : α → Rs β} {Q : β → Prop} (h : AS x fun a => AS (f a) Q) : AS (x.bd f) Q := ⟨all_bd.mpr (h.h.mono fun _ k => k.h)⟩
theorem as_eq {α : Type} {x : Rs α} {a : α} {Q : α → Prop} (h : x = .ok a) (q : Q a) : AS x Q := ⟨all_eq h q⟩
theorem as_askX {m : Int} {Q : D → Prop} (h0 : 0 < m ∧ small m) (h : ∀ v : Int, 0 ≤ v → v < m → Q (.int v)) : AS (askX .row (.int m)) Q := ⟨⟨h0, h⟩⟩
theorem run_key2 (sem : SS) (ρ : REnv) (x : Rs D) (g : GT KF FoF ρ sem x) (h : AS x fun d => d = .bl true) : sem ρ { nx := fun _ => False, rt := fun d => d = .bl true, bk := fun _ => False, ct := fun _ => False } := g _ h.h (fun _ z => nomatch z)
theorem as_ask {x : Rs D} {m : Int} {k : Int → Rs D} {Q : D → Prop} (e : x = .ask m k) (hm : 0 < m ∧ small m) (h : ∀ n : Nat, (n : Int) < m → AS (k (n : Int)) Q) : AS x Q := by
  subst e
  refine ⟨⟨hm, fun v h0 h1 => ?_⟩⟩
  have q := (h v.toNat (by omega)).h
  rwa [Int.toNat_of_nonneg h0] at q
theorem as_dec {x : Rs D} (h : allB isTr x = true) : AS x fun d => d = .bl true := ⟨all_dec h⟩
def max3X : List D → Rs D
  | [.int i, .int j, .int k] => .ok (.int (if k > (if j > i then j else i) then k else if j > i then j else i))
  | _ => .no
theorem max3X_s : OCX max3O max3X := fun a Q h => by
  unfold max3X at h
  split at h
  · exact h
  · exact h.elim
def min3X : List D → Rs D
  | [.int i, .int j, .int k] => .ok (.int (if k < (if j < i then j else i) then k else if j < i then j else i))
  | _ => .no
theorem min3X_s : OCX min3O min3X := fun a Q h => by
  unfold min3X at h
  split at h
  · exact h
  · exact h.elim
def un5 {β : Type} (d : D) (k : D → D → D → D → D → Rs β) : Rs β := match d with
  | .tup [a, b, c, e, m] => k a b c e m
  | _ => .no
section
variable {β : Type} {ρ : REnv} {d : D} {J : REnv → Rs β → Prop} {g1 g2 g3 g4 g5 : SG}
theorem gx_t5 {k : D → D → D → D → D → Rs β} (h : ∀ a b c e m, GX g1 a ρ (fun ρ1 y => GX g2 b ρ1 (fun ρ2 y => GX g3 c ρ2 (fun ρ3 y => GX g4 e ρ3 (fun ρ4 y => GX g5 m ρ4 J y) y) y) y) (k a b c e m)) : GX (gTupS (gConsS g1 (gConsS g2 (gConsS g3 (gConsS g4 (gConsS g5 gNilS)))))) d ρ J (un5 d k) := fun Q q P hP => by
  unfold un5 at q
  split at q
  · exact h _ _ _ _ _ Q q _ fun ρ1 y1 j1 q1 => j1 Q q1 _ fun ρ2 y2 j2 q2 => j2 Q q2 _ fun ρ3 y3 j3 q3 => j3 Q q3 _ fun ρ4 y4 j4 q4 => j4 Q q4 _ hP
  · exact q.elim
end
/-! ### contracts as functions -/
section
open Classical
noncomputable def y1 (o : OC) (a : D) : Rs D := if h : ∃ r, ∀ Q : D → Prop, Q r → o [a] Q then .ok h.choose else .no
noncomputable def y2 (o : OC) (a b : D) : Rs D := if h : ∃ r, ∀ Q : D → Prop, Q r → o [a, b] Q then .ok h.choose else .no
noncomputable def y3 (o : OC) (a b c : D) : Rs D := if h : ∃ r, ∀ Q : D → Prop, Q r → o [a, b, c] Q then .ok h.choose else .no
theorem y1_le {o : OC} : ∀ ds Q, x1O (y1 o) ds Q → o ds Q := fun ds Q q => by
  unfold x1O at q
  split at q
  · rename_i a
    have h := q.h
    unfold y1 at h
    split at h
    · rename_i e; exact e.choose_spec Q h
    · exact h.elim
  · exact q.elim
theorem y2_le {o : OC} : ∀ ds Q, x2O (y2 o) ds Q → o ds Q := fun ds Q q => by
  unfold x2O at q
  split at q
  · rename_i a b
    have h := q.h
    unfold y2 at h
    split at h
    · rename_i e; exact e.choose_spec Q h
    · exact h.elim
  · exact q.elim
theorem y3_le {o : OC} : ∀ ds Q, x3O (y3 o) ds Q → o ds Q := fun ds Q q => by
  unfold x3O at q
  split at q
  · rename_i a b c
    have h := q.h
    unfold y3 at h
    split at h
    · rename_i e; exact e.choose_spec Q h
    · exact h.elim
  · exact q.elim
/-- a contract tells one value -/
def Det (o : OC) : Prop := ∀ ds (P Q : D → Prop), o ds P → o ds Q → ∃ d, P d ∧ Q d
theorem y1_eq {o : OC} {a r : D} (dt : Det o) (h : ∀ Q : D → Prop, Q r → o [a] Q) : y1 o a = .ok r := by
  have e : ∃ r, ∀ Q : D → Prop, Q r → o [a] Q := ⟨r, h⟩
  unfold y1
  rw [dif_pos e]
  obtain ⟨d, h1, h2⟩ := dt [a] (fun d => d = e.choose) (fun d => d = r) (e.choose_spec _ rfl) (h _ rfl)
  rw [← h1, h2]
theorem y2_eq {o : OC} {a b r : D} (dt : Det o) (h : ∀ Q : D → Prop, Q r → o [a, b] Q) : y2 o a b = .ok r := by
  have e : ∃ r, ∀ Q : D → Prop, Q r → o [a, b] Q := ⟨r, h⟩
  unfold y2
  rw [dif_pos e]
  obtain ⟨d, h1, h2⟩ := dt [a, b] (fun d => d = e.choose) (fun d => d = r) (e.choose_spec _ rfl) (h _ rfl)
  rw [← h1, h2]
theorem y3_eq {o : OC} {a b c r : D} (dt : Det o) (h : ∀ Q : D → Prop, Q r → o [a, b, c] Q) : y3 o a b c = .ok r := by
  have e : ∃ r, ∀ Q : D → Prop, Q r → o [a, b, c] Q := ⟨r, h⟩
  unfold y3
  rw [dif_pos e]
  obtain ⟨d, h1, h2⟩ := dt [a, b, c] (fun d => d = e.choose) (fun d => d = r) (e.choose_spec _ rfl) (h _ rfl)
  rw [← h1, h2]
end
theorem ok_weak {P : Program} {w : World} {K : Kf} {mg : Str → Option Value} {base : Heap} {f : Addr} {fd : FuncData} {ps : List Str} {n k : Nat} {G G' : OC} (h : FnOk P w K mg base CX0 k f fd ps (spOf K n G)) (le : ∀ ds Q, G' ds Q → G ds Q) :
    FnOk P w K mg base CX0 k f fd ps (spOf K n G') := h.imp fun vs H Q E q => by
  obtain ⟨e, rw', F, ds, b, r, g⟩ := q
  exact ⟨e, rw', F, ds, b, r, le _ _ g⟩
/-! ### reckoning with answers -/
theorem s_ok {α β : Type} {a : α} {f : α → Rs β} : (Rs.ok a).bd f = f a := of_eq_true (eq_true rfl)
theorem s_no {α β : Type} {f : α → Rs β} : (Rs.no : Rs α).bd f = .no := of_eq_true (eq_true rfl)
theorem s_er {α β : Type} {n : Str} {ds : List D} {f : α → Rs β} : (Rs.er n ds : Rs α).bd f = .er n ds := of_eq_true (eq_true rfl)
theorem s_ofO {α : Type} {a : α} : ofO (some a) = .ok a := of_eq_true (eq_true rfl)
theorem s_all {α : Type} {a : α} {Q : α → Prop} : All (.ok a) Q ↔ Q a := Iff.rfl
theorem s_bo {b : Bool} : boX (.bl b) = .ok b := of_eq_true (eq_true rfl)
theorem s_int {i : Int} : intX (.int i) = .ok (some i) := of_eq_true (eq_true rfl)
theorem s_itT {l : List D} : itemsX (.tup l) = .ok l := of_eq_true (eq_true rfl)
theorem s_itL {l : List D} : itemsX (.lst l) = .ok l := of_eq_true (eq_true rfl)
theorem s_lenT {l : List D} : lenX (.tup l) = .ok (.int l.length) := of_eq_true (eq_true rfl)
theorem s_lenL {l : List D} : lenX (.lst l) = .ok (.int l.length) := of_eq_true (eq_true rfl)
theorem s_sub {i j : Int} : subX (.int i) (.int j) = .ok (.int (i - j)) := of_eq_true (eq_true rfl)
theorem s_add {i j : Int} : addX (.int i) (.int j) = .ok (.int (i + j)) := of_eq_true (eq_true rfl)
theorem s_lt {i j : Int} : ltX (.int i) (.int j) = .ok (.bl (decide (i < j))) := of_eq_true (eq_true rfl)
theorem s_le {i j : Int} : leX (.int i) (.int j) = .ok (.bl (decide (i ≤ j))) := of_eq_true (eq_true rfl)
theorem s_gt {i j : Int} : gtX (.int i) (.int j) = .ok (.bl (decide (j < i))) := of_eq_true (eq_true rfl)
theorem s_ge {i j : Int} : geX (.int i) (.int j) = .ok (.bl (decide (j ≤ i))) := of_eq_true (eq_true rfl)
theorem s_eq {i j : Int} : eqX (.int i) (.int j) = .ok (.bl (decide (i = j))) := of_eq_true (eq_true rfl)
theorem s_ne {i j : Int} : neX (.int i) (.int j) = .ok (.bl (!decide (i = j))) := of_eq_true (eq_true rfl)
theorem s_neg {i : Int} : negX (.int i) = .ok (.int (-i)) := of_eq_true (eq_true rfl)
theorem s_un2 {β : Type} {a b : D} {k : D → D → Rs β} : un2 (.tup [a, b]) k = k a b := of_eq_true (eq_true rfl)
theorem s_un3 {β : Type} {a b c : D} {k : D → D → D → Rs β} : un3 (.tup [a, b, c]) k = k a b c := of_eq_true (eq_true rfl)
theorem s_unB2T {β : Type} {a b : D} {k : D → D → Rs β} : unB2 (.tup [a, b]) k = k a b := of_eq_true (eq_true rfl)
theorem s_unB2L {β : Type} {a b : D} {k : D → D → Rs β} : unB2 (.lst [a, b]) k = k a b := of_eq_true (eq_true rfl)
theorem s_unB3T {β : Type} {a b c : D} {k : D → D → D → Rs β} : unB3 (.tup [a, b, c]) k = k a b c := of_eq_true (eq_true rfl)
theorem s_ix0 {a : D} {l : List D} : ixX (.tup (a :: l)) (.int 0) = .ok a := by
  show ofO (atI (a :: l) 0) = _
  unfold atI ixN
  rw [if_pos (by decide), if_pos (by rw [List.length_cons]; omega)]; rfl
theorem s_ix1 {a b : D} {l : List D} : ixX (.tup (a :: b :: l)) (.int 1) = .ok b := by
  show ofO (atI (a :: b :: l) 1) = _
  unfold atI ixN
  rw [if_pos (by decide), if_pos (by rw [List.length_cons, List.length_cons]; omega)]; rfl
theorem s_ix2 {a b c : D} {l : List D} : ixX (.tup (a :: b :: c :: l)) (.int 2) = .ok c := by
  show ofO (atI (a :: b :: c :: l) 2) = _
  unfold atI ixN
  rw [if_pos (by decide), if_pos (by rw [List.length_cons, List.length_cons, List.length_cons]; omega)]; rfl
theorem s_tupL {l : List D} : tupleX (.lst l) = .ok (.tup l) := of_eq_true (eq_true rfl)
theorem s_listT {l : List D} : listX [.tup l] = .ok l := of_eq_true (eq_true rfl)
theorem s_listL {l : List D} : listX [.lst l] = .ok l := of_eq_true (eq_true rfl)
theorem s_outg {S β : Type} {v : S} {z : S → Rs β} {w : D → Rs β} : outX (.go v) z w = z v := of_eq_true (eq_true rfl)
theorem s_outb {S β : Type} {v : S} {z : S → Rs β} {w : D → Rs β} : outX (.bk v) z w = z v := of_eq_true (eq_true rfl)
theorem s_outr {S β : Type} {d : D} {z : S → Rs β} {w : D → Rs β} : outX (.rt d : Lp S) z w = w d := of_eq_true (eq_true rfl)
theorem s_grd {α : Type} {c : Prop} [Decidable c] {x : Rs α} (h : c) : grd c x = x := if_pos h
theorem s_tup1 {a : D} {x : Rs D} : grd (([a] : List D).length ≤ big) x = x := if_pos (by show 1 ≤ big; decide)
theorem s_tup2 {a b : D} {x : Rs D} : grd (([a, b] : List D).length ≤ big) x = x := if_pos (by show 2 ≤ big; decide)
theorem s_tup3 {a b c : D} {x : Rs D} : grd (([a, b, c] : List D).length ≤ big) x = x := if_pos (by show 3 ≤ big; decide)
theorem s_tup0 {x : Rs D} : grd (([] : List D).length ≤ big) x = x := if_pos (by show 0 ≤ big; decide)
theorem s_big0 : bigX [] = .ok [] := by unfold bigX; exact if_pos (by show 0 ≤ big; decide)
theorem s_big1 {a : D} : bigX [a] = .ok [a] := by unfold bigX; exact if_pos (by show 1 ≤ big; decide)
theorem s_big2 {a b : D} : bigX [a, b] = .ok [a, b] := by unfold bigX; exact if_pos (by show 2 ≤ big; decide)
theorem s_big3 {a b c : D} : bigX [a, b, c] = .ok [a, b, c] := by unfold bigX; exact if_pos (by show 3 ≤ big; decide)
theorem s_min2 {i j : Int} : min2X [.int i, .int j] = .ok (.int (if j < i then j else i)) := of_eq_true (eq_true rfl)
theorem s_max2 {i j : Int} : max2X [.int i, .int j] = .ok (.int (if j > i then j else i)) := of_eq_true (eq_true rfl)
theorem s_ixN {l : List D} {n : Nat} {d : D} (h : l[n]? = some d) : ixX (.tup l) (.int (n : Int)) = .ok d := by
  show ofO (atI l (n : Int)) = _
  rw [atI_nat h]; rfl
theorem s_ixLN {l : List D} {n : Nat} {d : D} (h : l[n]? = some d) : ixX (.lst l) (.int (n : Int)) = .ok d := by
  show ofO (atI l (n : Int)) = _
  rw [atI_nat h]; rfl
theorem s_rg1 {j : Int} (h : -(2 ^ 62) ≤ j ∧ j < 2 ^ 62) : rg1X (.int j) = .ok (rngD 0 j) := if_pos h
theorem s_rg2 {i j : Int} (h : -(2 ^ 62) ≤ i ∧ i < 2 ^ 62 ∧ -(2 ^ 62) ≤ j ∧ j < 2 ^ 62) : rg2X (.int i) (.int j) = .ok (rngD i j) := if_pos h
theorem s_cat {l m : List D} (h : l.length + m.length ≤ big) : catX (.lst l) (.lst m) = .ok (l ++ m) := if_pos h
theorem s_addT {l m : List D} (h : l.length + m.length ≤ big) : addX (.tup l) (.tup m) = .ok (.tup (l ++ m)) := if_pos h
theorem s_addL {l m : List D} (h : l.length + m.length ≤ big) : addX (.lst l) (.lst m) = .ok (.lst (l ++ m)) := if_pos h
theorem s_app {l : List D} {d : D} (h : l.length < big) : appX l d = .ok (l ++ [d]) := if_pos h
theorem s_mul {i j : Int} (h : mulOk i j) : mulX (.int i) (.int j) = .ok (.int (i * j)) := if_pos h
theorem s_mod {i j : Int} (h : j ≠ 0) : modX (.int i) (.int j) = .ok (.int (i.fmod j)) := if_pos h
theorem s_fdiv {i j : Int} (h : j ≠ 0 ∧ small j) : fdivX (.int i) (.int j) = .ok (.int (i.fdiv j)) := if_pos h
/-! lists -/
theorem mapX_eq {α : Type} {F : α → Rs D} {f : α → D} : ∀ {xs : List α}, (∀ a ∈ xs, F a = .ok (f a)) → mapX F xs = .ok (xs.map f)
  | [], _ => rfl
  | a :: xs, h => by
    unfold mapX
    rw [h a List.mem_cons_self, mapX_eq fun b hb => h b (List.mem_cons_of_mem _ hb)]; rfl
theorem filX_eq {α : Type} {F : α → Rs (Option D)} {f : α → Option D} : ∀ {xs : List α}, (∀ a ∈ xs, F a = .ok (f a)) → filX F xs = .ok (xs.filterMap f)
  | [], _ => rfl
  | a :: xs, h => by
    unfold filX
    rw [h a List.mem_cons_self, filX_eq fun b hb => h b (List.mem_cons_of_mem _ hb), List.filterMap_cons]
    cases f a <;> rfl
theorem lcX_eq {F : D → Rs D} {f : D → D} {xs : List D} (hl : xs.length ≤ big) (h : ∀ a ∈ xs, F a = .ok (f a)) : lcX F xs = .ok (xs.map f) := by
  unfold lcX; rw [s_grd hl, mapX_eq h]
theorem lfX_eq {F : D → Rs (Option D)} {f : D → Option D} {xs : List D} (hl : xs.length ≤ big) (h : ∀ a ∈ xs, F a = .ok (f a)) : lfX F xs = .ok (xs.filterMap f) := by
  unfold lfX; rw [s_grd hl, filX_eq h]
/-- over data of another type -/
theorem mapX_map {α : Type} {e : α → D} {F : D → Rs D} {f : α → D} {xs : List α} (h : ∀ a ∈ xs, F (e a) = .ok (f a)) : mapX F (xs.map e) = .ok (xs.map f) := by
  induction xs with
  | nil => rfl
  | cons a xs ih =>
    rw [List.map_cons, List.map_cons]
    unfold mapX
    rw [h a List.mem_cons_self, ih fun b hb => h b (List.mem_cons_of_mem _ hb)]; rfl
theorem filX_map {α : Type} {e : α → D} {F : D → Rs (Option D)} {f : α → Option D} {xs : List α} (h : ∀ a ∈ xs, F (e a) = .ok (f a)) : filX F (xs.map e) = .ok (xs.filterMap f) := by
  induction xs with
  | nil => rfl
  | cons a xs ih =>
    rw [List.map_cons, List.filterMap_cons]
    unfold filX
    rw [h a List.mem_cons_self, ih fun b hb => h b (List.mem_cons_of_mem _ hb)]
    cases f a <;> rfl
theorem lcX_map {α : Type} {e : α → D} {F : D → Rs D} {f : α → D} {xs : List α} (hl : xs.length ≤ big) (h : ∀ a ∈ xs, F (e a) = .ok (f a)) : lcX F (xs.map e) = .ok (xs.map f) := by
  unfold lcX; rw [s_grd (by rw [List.length_map]; exact hl), mapX_map h]
theorem lfX_map {α : Type} {e : α → D} {F : D → Rs (Option D)} {f : α → Option D} {xs : List α} (hl : xs.length ≤ big) (h : ∀ a ∈ xs, F (e a) = .ok (f a)) : lfX F (xs.map e) = .ok (xs.filterMap f) := by
  unfold lfX; rw [s_grd (by rw [List.length_map]; exact hl), filX_map h]
theorem filterMap_if {α : Type} {p : α → Bool} {e : α → D} : ∀ {xs : List α}, (xs.filterMap fun a => cond (p a) (some (e a)) none) = (xs.filter p).map e
  | [] => rfl
  | a :: xs => by
    rw [List.filterMap_cons, List.filter_cons, filterMap_if]
    cases p a <;> rfl
/-- a comprehension with a test, over data of another type -/
theorem lfX_if {α : Type} {e g : α → D} {F : D → Rs (Option D)} {p : α → Bool} {xs : List α} (hl : xs.length ≤ big) (h : ∀ a ∈ xs, F (e a) = .ok (cond (p a) (some (g a)) none)) : lfX F (xs.map e) = .ok ((xs.filter p).map g) := by
  rw [lfX_map hl h, filterMap_if]
theorem forX_eq {S α : Type} {step : S → α → Rs S} {f : S → α → S} : ∀ {xs : List α} {s : S}, (∀ s, ∀ a ∈ xs, step s a = .ok (f s a)) → forX step s xs = .ok (xs.foldl f s)
  | [], s, _ => rfl
  | a :: xs, s, h => by
    unfold forX
    rw [h s a List.mem_cons_self]
    exact forX_eq fun s b hb => h s b (List.mem_cons_of_mem _ hb)
/-- a loop with an invariant, no draw -/
theorem forX_inv {S α : Type} {step : S → α → Rs S} (I : List α → S → Prop) : ∀ {xs pre : List α} {s : S}, I pre s → (∀ (pre' : List α) (a : α) (post : List α) (s : S), pre ++ xs = pre' ++ a :: post → pre.length ≤ pre'.length → I pre' s → ∃ s', step s a = .ok s' ∧ I (pre' ++ [a]) s') → ∃ s', forX step s xs = .ok s' ∧ I (pre ++ xs) s'
  | [], pre, s, h, _ => ⟨s, rfl, by rw [List.append_nil]; exact h⟩
  | a :: xs, pre, s, h, hs => by
    obtain ⟨s1, e1, h1⟩ := hs pre a xs s rfl (Nat.le_refl _) h
    obtain ⟨s2, e2, h2⟩ := forX_inv I (xs := xs) h1 fun pre' b post s e l hI => hs pre' b post s (by rw [← e, List.append_assoc]; rfl) (by rw [List.length_append] at l; omega) hI
    refine ⟨s2, ?_, by rw [List.append_assoc] at h2; exact h2⟩
    show (step s a).bd (fun s' => forX step s' xs) = _
    rw [e1]; exact e2
/-- a loop with an invariant, with draws -/
theorem all_forX {S α : Type} {step : S → α → Rs S} (I : List α → S → Prop) {Q : S → Prop} : ∀ {xs pre : List α} {s : S}, I pre s → (∀ (pre' : List α) (a : α) (post : List α) (s : S), pre ++ xs = pre' ++ a :: post → pre.length ≤ pre'.length → I pre' s → All (step s a) fun s' => I (pre' ++ [a]) s') → (∀ s, I (pre ++ xs) s → Q s) → All (forX step s xs) Q
  | [], pre, s, h, _, hq => hq s (by rw [List.append_nil]; exact h)
  | a :: xs, pre, s, h, hs, hq => by
    show All ((step s a).bd fun s' => forX step s' xs) Q
    refine all_bd.mpr ((hs pre a xs s rfl (Nat.le_refl _) h).mono fun s1 h1 => ?_)
    exact all_forX I (xs := xs) h1 (fun pre' b post s e l hI => hs pre' b post s (by rw [← e, List.append_assoc]; rfl) (by rw [List.length_append] at l; omega) hI) fun s hI => hq s (by rw [List.append_assoc] at hI; exact hI)
/-- a law's loop without a state -/
theorem forR_go {α : Type} {step : Unit → α → Rs (Lp Unit)} : ∀ {xs : List α}, (∀ a ∈ xs, step () a = .ok (.go ())) → forR step () xs = .ok (.go ())
  | [], _ => rfl
  | a :: xs, h => by
    unfold forR
    rw [h a List.mem_cons_self]
    exact forR_go fun b hb => h b (List.mem_cons_of_mem _ hb)
theorem all_forR {α : Type} {step : Unit → α → Rs (Lp Unit)} : ∀ {xs : List α}, (∀ a ∈ xs, All (step () a) fun r => r = .go ()) → All (forR step () xs) fun r => r = .go ()
  | [], _ => rfl
  | a :: xs, h => by
    show All ((step () a).bd _) _
    refine all_bd.mpr ((h a List.mem_cons_self).mono fun r e => ?_)
    subst e
    exact all_forR fun b hb => h b (List.mem_cons_of_mem _ hb)
theorem rngD_ints {lo hi : Int} : rngD lo hi = ((List.range (hi - lo).toNat).map fun (i : Nat) => lo + (i : Int)).map D.int := by
  unfold rngD; rw [List.map_map]; rfl
theorem bd_of {α β : Type} {x : Rs α} {f : α → Rs β} {b : β} (P : α → Prop) (h : ∃ a, x = .ok a ∧ P a) (k : ∀ a, P a → f a = .ok b) : x.bd f = .ok b := by
  obtain ⟨a, rfl, p⟩ := h
  exact k a p
/-- a loop that makes a list longer -/
theorem forX_grow {α : Type} {e : α → D} {g : α → List D} {step : D → D → Rs D} : ∀ {fs : List α} {acc : List D}, acc.length + (fs.flatMap g).length ≤ big → (∀ acc f, f ∈ fs → acc.length + (g f).length ≤ big → step (.lst acc) (e f) = .ok (.lst (acc ++ g f))) →
    forX step (.lst acc) (fs.map e) = .ok (.lst (acc ++ fs.flatMap g))
  | [], acc, _, _ => by rw [List.map_nil, List.flatMap_nil, List.append_nil]; rfl
  | f :: fs, acc, h, hs => by
    rw [List.flatMap_cons, List.length_append] at h
    rw [List.map_cons]
    unfold forX
    rw [hs acc f List.mem_cons_self (by omega)]
    show forX step (.lst (acc ++ g f)) (fs.map e) = _
    rw [forX_grow (by rw [List.length_append]; omega) fun acc f hf => hs acc f (List.mem_cons_of_mem _ hf), List.flatMap_cons, List.append_assoc]
/-- a loop over a range, the turn's number known -/
theorem forX_rng {S : Type} {step : S → D → Rs S} (I : Nat → S → Prop) {lo : Int} {n : Nat} {s : S} (h0 : I 0 s) (hs : ∀ k s, k < n → I k s → ∃ s', step s (.int (lo + k)) = .ok s' ∧ I (k + 1) s') {hi : Int} (hh : (hi - lo).toNat = n) : ∃ s', forX step s (rngD lo hi) = .ok s' ∧ I n s' := by
  have key : ∀ (m j : Nat) (s : S), j + m = n → I j s → ∃ s', forX step s ((List.range m).map fun (i : Nat) => D.int (lo + j + i)) = .ok s' ∧ I n s' := by
    intro m
    induction m with
    | zero => intro j s e h; exact ⟨s, rfl, by rw [← e]; exact h⟩
    | succ m ih =>
      intro j s e h
      obtain ⟨s1, e1, h1⟩ := hs j s (by omega) h
      obtain ⟨s2, e2, h2⟩ := ih (j + 1) s1 (by omega) h1
      refine ⟨s2, ?_, h2⟩
      rw [List.range_succ_eq_map, List.map_cons, List.map_map]
      show (step s (.int (lo + j + ((0 : Nat) : Int)))).bd _ = _
      rw [show lo + (j : Int) + ((0 : Nat) : Int) = lo + j by omega, e1]
      have : ((fun (i : Nat) => D.int (lo + j + i)) ∘ Nat.succ) = fun (i : Nat) => D.int (lo + ((j + 1 : Nat) : Int) + i) := by
        funext i
        show D.int (lo + j + ((i + 1 : Nat) : Int)) = _
        congr 1; omega
      show forX step s1 _ = _
      rw [this]; exact e2
  have := key n 0 s (by omega) h0
  unfold rngD
  rw [hh]
  simpa using this
theorem s_ct {α : Type} {a b : α} : cond true a b = a := of_eq_true (eq_true rfl)
theorem s_cf {α : Type} {a b : α} : cond false a b = b := of_eq_true (eq_true rfl)
theorem s_ie : ([] : List D).isEmpty = true := of_eq_true (eq_true rfl)
theorem s_ic {d : D} {ds : List D} : (d :: ds).isEmpty = false := of_eq_true (eq_true rfl)
theorem s_nt : (!true) = false := of_eq_true (eq_true rfl)
theorem s_nf : (!false) = true := of_eq_true (eq_true rfl)
/-- a loop that appends -/
theorem forX_apps {α : Type} {e g : α → D} {step : List D → D → Rs (List D)} : ∀ {xs : List α} {acc : List D}, acc.length + xs.length ≤ big → (∀ acc x, x ∈ xs → acc.length < big → step acc (e x) = .ok (acc ++ [g x])) → forX step acc (xs.map e) = .ok (acc ++ xs.map g)
  | [], acc, _, _ => by rw [List.map_nil, List.map_nil, List.append_nil]; rfl
  | x :: xs, acc, h, hs => by
    rw [List.length_cons] at h
    rw [List.map_cons, List.map_cons]
    unfold forX
    rw [hs acc x List.mem_cons_self (by omega)]
    show forX step (acc ++ [g x]) (xs.map e) = _
    rw [forX_apps (by rw [List.length_append]; show acc.length + 1 + xs.length ≤ _; omega) fun acc y hy => hs acc y (List.mem_cons_of_mem _ hy), List.append_assoc]; rfl
/-- a loop that appends some -/
theorem forX_appIf {α : Type} {e g : α → D} {p : α → Bool} {step : List D → D → Rs (List D)} : ∀ {xs : List α} {acc : List D}, acc.length + xs.length ≤ big → (∀ acc x, x ∈ xs → acc.length < big → step acc (e x) = .ok (cond (p x) (acc ++ [g x]) acc)) → forX step acc (xs.map e) = .ok (acc ++ (xs.filter p).map g)
  | [], acc, _, _ => by rw [List.map_nil, List.filter_nil, List.map_nil, List.append_nil]; rfl
  | x :: xs, acc, h, hs => by
    rw [List.length_cons] at h
    rw [List.map_cons, List.filter_cons]
    unfold forX
    rw [hs acc x List.mem_cons_self (by omega)]
    cases hp : p x with
    | true =>
      show forX step (acc ++ [g x]) (xs.map e) = _
      rw [forX_appIf (p := p) (by rw [List.length_append]; show acc.length + 1 + xs.length ≤ _; omega) fun acc y hy => hs acc y (List.mem_cons_of_mem _ hy), List.append_assoc]; rfl
    | false =>
      show forX step acc (xs.map e) = _
      rw [forX_appIf (p := p) (by omega) fun acc y hy => hs acc y (List.mem_cons_of_mem _ hy)]; rfl
/-! ### contracts with open answers -/
section
open Classical
def pickL (L : List D) : Rs D := .ask (L.length : Int) fun v => match L[v.toNat]? with
  | some d => .ok d
  | none => .no
structure Fin2 (o : OC) (a b : D) (L : List D) : Prop where
  ne : L ≠ []
  len : L.length < 2 ^ 200
  all : ∀ Q : D → Prop, (∀ d ∈ L, Q d) → o [a, b] Q
  any : ∀ Q : D → Prop, o [a, b] Q → ∀ d ∈ L, Q d
theorem all_pickL {L : List D} {Q : D → Prop} (h : All (pickL L) Q) : ∀ d ∈ L, Q d := fun d hd => by
  obtain ⟨i, hi, rfl⟩ := List.mem_iff_getElem.mp hd
  have := h.2 (i : Int) (by omega) (by omega)
  have e : (match L[((i : Int)).toNat]? with
    | some d => (Rs.ok d : Rs D)
    | none => .no) = .ok L[i] := by rw [Int.toNat_natCast, List.getElem?_eq_getElem hi]
  have h2 : All (match L[((i : Int)).toNat]? with
    | some d => (Rs.ok d : Rs D)
    | none => .no) Q := this
  rw [e] at h2
  exact h2
theorem pickL_all {L : List D} {Q : D → Prop} (h0 : L ≠ []) (h1 : L.length < 2 ^ 200) (h : ∀ d ∈ L, Q d) : All (pickL L) Q := by
  refine ⟨⟨by have := List.length_pos_iff.mpr h0; omega, small_of (by rw [Int.natAbs_natCast]; exact h1)⟩, fun v v0 v1 => ?_⟩
  have hv : v.toNat < L.length := by omega
  have e : (match L[v.toNat]? with
    | some d => (Rs.ok d : Rs D)
    | none => .no) = .ok L[v.toNat] := by rw [List.getElem?_eq_getElem hv]
  show All (match L[v.toNat]? with
    | some d => (Rs.ok d : Rs D)
    | none => .no) Q
  rw [e]
  exact h _ (List.getElem_mem hv)
noncomputable def z2 (o : OC) (a b : D) : Rs D := if h : ∃ L, Fin2 o a b L then pickL h.choose else .no
theorem z2_le {o : OC} : ∀ ds Q, x2O (z2 o) ds Q → o ds Q := fun ds Q q => by
  unfold x2O at q
  split at q
  · rename_i a b
    have h := q.h
    unfold z2 at h
    split at h
    · rename_i e; exact e.choose_spec.all Q (all_pickL h)
    · exact h.elim
  · exact q.elim
theorem as_z2 {o : OC} {a b : D} {Q : D → Prop} (h : ∃ L, Fin2 o a b L) (q : o [a, b] Q) : AS (z2 o a b) Q := by
  unfold z2
  rw [dif_pos h]
  exact ⟨pickL_all h.choose_spec.ne h.choose_spec.len (h.choose_spec.any Q q)⟩
end
/-! ### contracts with open answers, of four arguments; contracts as functions, of four -/
section
open Classical
structure Fin4 (o : OC) (a b c e : D) (L : List D) : Prop where
  ne : L ≠ []
  len : L.length < 2 ^ 200
  all : ∀ Q : D → Prop, (∀ d ∈ L, Q d) → o [a, b, c, e] Q
  any : ∀ Q : D → Prop, o [a, b, c, e] Q → ∀ d ∈ L, Q d
noncomputable def z4 (o : OC) (a b c e : D) : Rs D := if h : ∃ L, Fin4 o a b c e L then pickL h.choose else .no
theorem z4_le {o : OC} : ∀ ds Q, x4O (z4 o) ds Q → o ds Q := fun ds Q q => by
  unfold x4O at q
  split at q
  · rename_i a b c e
    have h := q.h
    unfold z4 at h
    split at h
    · rename_i e; exact e.choose_spec.all Q (all_pickL h)
    · exact h.elim
  · exact q.elim
theorem as_z4 {o : OC} {a b c e : D} {Q : D → Prop} (h : ∃ L, Fin4 o a b c e L) (q : o [a, b, c, e] Q) : AS (z4 o a b c e) Q := by
  unfold z4
  rw [dif_pos h]
  exact ⟨pickL_all h.choose_spec.ne h.choose_spec.len (h.choose_spec.any Q q)⟩
noncomputable def y4 (o : OC) (a b c e : D) : Rs D := if h : ∃ r, ∀ Q : D → Prop, Q r → o [a, b, c, e] Q then .ok h.choose else .no
theorem y4_le {o : OC} : ∀ ds Q, x4O (y4 o) ds Q → o ds Q := fun ds Q q => by
  unfold x4O at q
  split at q
  · rename_i a b c e
    have h := q.h
    unfold y4 at h
    split at h
    · rename_i e; exact e.choose_spec Q h
    · exact h.elim
  · exact q.elim
theorem y4_eq {o : OC} {a b c e r : D} (dt : Det o) (h : ∀ Q : D → Prop, Q r → o [a, b, c, e] Q) : y4 o a b c e = .ok r := by
  have hx : ∃ r, ∀ Q : D → Prop, Q r → o [a, b, c, e] Q := ⟨r, h⟩
  unfold y4
  rw [dif_pos hx]
  obtain ⟨d, h1, h2⟩ := dt _ _ _ (hx.choose_spec (fun d => d = hx.choose) rfl) (h (fun d => d = r) rfl)
  rw [← h1, h2]
end
end
end Z0
/-! ### the text (printed by gen.py) -/
namespace Tx0
open PySem PySem.Spec PyProof.Rows L2 Z0
def top (i : Nat) : Stmt := PySem.Challenge.pw_latticepoints_k76_whole_least_sums.main.body.getD i (.Pass ⟨0, 0, 0, 0⟩)
abbrev s_is_in : Stmt := top 6
theorem sc_is_in : FnScope ["value", "least", "most"] ["value", "least", "most"] (defScope s_is_in) := ⟨rfl, rfl, rfl, by decide +kernel, rfl, by decide +kernel, by decide +kernel⟩
abbrev s_gcd : Stmt := top 7
theorem sc_gcd : FnScope ["one", "other"] ["one", "other"] (defScope s_gcd) := ⟨rfl, rfl, rfl, by decide +kernel, rfl, by decide +kernel, by decide +kernel⟩
abbrev s_reduced : Stmt := top 8
theorem sc_reduced : FnScope ["numerator", "denominator", "common"] ["numerator", "denominator"] (defScope s_reduced) := ⟨rfl, rfl, rfl, by decide +kernel, rfl, by decide +kernel, by decide +kernel⟩
abbrev s_minus : Stmt := top 9
theorem sc_minus : FnScope ["one", "other"] ["one", "other"] (defScope s_minus) := ⟨rfl, rfl, rfl, by decide +kernel, rfl, by decide +kernel, by decide +kernel⟩
abbrev s_over : Stmt := top 10
theorem sc_over : FnScope ["one", "other"] ["one", "other"] (defScope s_over) := ⟨rfl, rfl, rfl, by decide +kernel, rfl, by decide +kernel, by decide +kernel⟩
abbrev s_is_vector : Stmt := top 12
theorem sc_is_vector : FnScope ["value", "size", "low", "high", "x"] ["value", "size", "low", "high"] (defScope s_is_vector) := ⟨rfl, rfl, rfl, by decide +kernel, rfl, by decide +kernel, by decide +kernel⟩
abbrev s_from_steps : Stmt := top 17
theorem sc_from_steps : FnScope ["row", "one", "found"] ["row"] (defScope s_from_steps) := ⟨rfl, rfl, rfl, by decide +kernel, rfl, by decide +kernel, by decide +kernel⟩
abbrev s_turn : Stmt := top 18
theorem sc_turn : FnScope ["one", "other"] ["one", "other"] (defScope s_turn) := ⟨rfl, rfl, rfl, by decide +kernel, rfl, by decide +kernel, by decide +kernel⟩
abbrev s_first_after : Stmt := top 19
theorem sc_first_after : FnScope ["one", "other", "side", "whole", "x", "y", "p", "q", "r", "s", "factor", "sign", "way", "behind"] ["one", "other"] (defScope s_first_after) := ⟨rfl, rfl, rfl, by decide +kernel, rfl, by decide +kernel, by decide +kernel⟩
abbrev s_sums_between : Stmt := top 20
theorem sc_sums_between : FnScope ["one", "other", "side", "found", "last", "before", "above", "here", "factor"] ["one", "other"] (defScope s_sums_between) := ⟨rfl, rfl, rfl, by decide +kernel, rfl, by decide +kernel, by decide +kernel⟩
abbrev s_least_sums : Stmt := top 21
theorem sc_least_sums : FnScope ["one", "other", "pair"] ["one", "other"] (defScope s_least_sums) := ⟨rfl, rfl, rfl, by decide +kernel, rfl, by decide +kernel, by decide +kernel⟩
abbrev s_sail : Stmt := top 22
theorem sc_sail : FnScope ["one", "other", "row", "found", "at", "inner", "both", "k"] ["one", "other"] (defScope s_sail) := ⟨rfl, rfl, rfl, by decide +kernel, rfl, by decide +kernel, by decide +kernel⟩
abbrev s_l_taken : Stmt := top 24
theorem sc_l_taken : FnScope ["_law_row", "_law_many", "_law_found", "_law_cell"] ["_law_row", "_law_many"] (defScope s_l_taken) := ⟨rfl, rfl, rfl, by decide +kernel, rfl, by decide +kernel, by decide +kernel⟩
abbrev s_l_pick : Stmt := top 25
theorem sc_l_pick : FnScope ["_law_row", "_law_things"] ["_law_row", "_law_things"] (defScope s_l_pick) := ⟨rfl, rfl, rfl, by decide +kernel, rfl, by decide +kernel, by decide +kernel⟩
abbrev s_l_signed : Stmt := top 26
theorem sc_l_signed : FnScope ["_law_row", "_law_most"] ["_law_row", "_law_most"] (defScope s_l_signed) := ⟨rfl, rfl, rfl, by decide +kernel, rfl, by decide +kernel, by decide +kernel⟩
abbrev s_l_gcd : Stmt := top 27
theorem sc_l_gcd : FnScope ["_law_one", "_law_other"] ["_law_one", "_law_other"] (defScope s_l_gcd) := ⟨rfl, rfl, rfl, by decide +kernel, rfl, by decide +kernel, by decide +kernel⟩
abbrev s_l_alike : Stmt := top 28
theorem sc_l_alike : FnScope ["_law_found", "_law_due", "_law_k"] ["_law_found", "_law_due"] (defScope s_l_alike) := ⟨rfl, rfl, rfl, by decide +kernel, rfl, by decide +kernel, by decide +kernel⟩
abbrev s_l_least_sums : Stmt := top 29
theorem sc_l_least_sums : FnScope ["_law_one", "_law_other", "_law_whole", "_law_side", "_law_points", "_law_low", "_law_k", "_law_high", "_law_x", "_law_y", "_law_first", "_law_second", "_law_found", "_law_p", "_law_parts", "_law_a", "_law_b", "_law_q"] ["_law_one", "_law_other"] (defScope s_l_least_sums) := ⟨rfl, rfl, rfl, by decide +kernel, rfl, by decide +kernel, by decide +kernel⟩
abbrev s_law : Stmt := top 30
theorem sc_law : FnScope ["_law_script", "_law_row", "_law_most", "_law_pairs", "_law_turn", "_law_x", "_law_y", "_law_common", "_law_one", "_law_other", "_law_whole", "_law_found", "_law_told", "_law_at", "_law_both", "_law_k", "_law_axis", "_law_factor", "_law_tips"] ["_law_script"] (defScope s_law) := ⟨rfl, rfl, rfl, by decide +kernel, rfl, by decide +kernel, by decide +kernel⟩
/-- where all things stand -/
structure Tx (K : Kf) (mg : Str → Option Value) where
  a_is_in : Addr
  d_is_in : FuncData
  f_is_in : FunD K "is_in" "is_in" (defArgs s_is_in) (defBody s_is_in) (defScope s_is_in) [] [] a_is_in d_is_in
  m_is_in : mg "is_in" = some (.ref a_is_in)
  b_is_in : Binds K d_is_in ["value", "least", "most"] []
  a_gcd : Addr
  d_gcd : FuncData
  f_gcd : FunD K "gcd" "gcd" (defArgs s_gcd) (defBody s_gcd) (defScope s_gcd) [] [] a_gcd d_gcd
  m_gcd : mg "gcd" = some (.ref a_gcd)
  b_gcd : Binds K d_gcd ["one", "other"] []
  a_reduced : Addr
  d_reduced : FuncData
  f_reduced : FunD K "reduced" "reduced" (defArgs s_reduced) (defBody s_reduced) (defScope s_reduced) [] [] a_reduced d_reduced
  m_reduced : mg "reduced" = some (.ref a_reduced)
  b_reduced : Binds K d_reduced ["numerator", "denominator"] []
  a_minus : Addr
  d_minus : FuncData
  f_minus : FunD K "minus" "minus" (defArgs s_minus) (defBody s_minus) (defScope s_minus) [] [] a_minus d_minus
  m_minus : mg "minus" = some (.ref a_minus)
  b_minus : Binds K d_minus ["one", "other"] []
  a_over : Addr
  d_over : FuncData
  f_over : FunD K "over" "over" (defArgs s_over) (defBody s_over) (defScope s_over) [] [] a_over d_over
  m_over : mg "over" = some (.ref a_over)
  b_over : Binds K d_over ["one", "other"] []
  a_is_vector : Addr
  d_is_vector : FuncData
  f_is_vector : FunD K "is_vector" "is_vector" (defArgs s_is_vector) (defBody s_is_vector) (defScope s_is_vector) [] [] a_is_vector d_is_vector
  m_is_vector : mg "is_vector" = some (.ref a_is_vector)
  b_is_vector : Binds K d_is_vector ["value", "size", "low", "high"] []
  a_from_steps : Addr
  d_from_steps : FuncData
  f_from_steps : FunD K "from_steps" "from_steps" (defArgs s_from_steps) (defBody s_from_steps) (defScope s_from_steps) [] [] a_from_steps d_from_steps
  m_from_steps : mg "from_steps" = some (.ref a_from_steps)
  b_from_steps : Binds K d_from_steps ["row"] []
  a_turn : Addr
  d_turn : FuncData
  f_turn : FunD K "turn" "turn" (defArgs s_turn) (defBody s_turn) (defScope s_turn) [] [] a_turn d_turn
  m_turn : mg "turn" = some (.ref a_turn)
  b_turn : Binds K d_turn ["one", "other"] []
  a_first_after : Addr
  d_first_after : FuncData
  f_first_after : FunD K "first_after" "first_after" (defArgs s_first_after) (defBody s_first_after) (defScope s_first_after) [] [] a_first_after d_first_after
  m_first_after : mg "first_after" = some (.ref a_first_after)
  b_first_after : Binds K d_first_after ["one", "other"] []
  a_sums_between : Addr
  d_sums_between : FuncData
  f_sums_between : FunD K "sums_between" "sums_between" (defArgs s_sums_between) (defBody s_sums_between) (defScope s_sums_between) [] [] a_sums_between d_sums_between
  m_sums_between : mg "sums_between" = some (.ref a_sums_between)
  b_sums_between : Binds K d_sums_between ["one", "other"] []
  a_least_sums : Addr
  d_least_sums : FuncData
  f_least_sums : FunD K "least_sums" "least_sums" (defArgs s_least_sums) (defBody s_least_sums) (defScope s_least_sums) [] [] a_least_sums d_least_sums
  m_least_sums : mg "least_sums" = some (.ref a_least_sums)
  b_least_sums : Binds K d_least_sums ["one", "other"] []
  a_sail : Addr
  d_sail : FuncData
  f_sail : FunD K "sail" "sail" (defArgs s_sail) (defBody s_sail) (defScope s_sail) [] [] a_sail d_sail
  m_sail : mg "sail" = some (.ref a_sail)
  b_sail : Binds K d_sail ["one", "other"] []
  a_l_taken : Addr
  d_l_taken : FuncData
  f_l_taken : FunD K "_law_taken" "_law_taken" (defArgs s_l_taken) (defBody s_l_taken) (defScope s_l_taken) [] [] a_l_taken d_l_taken
  m_l_taken : mg "_law_taken" = some (.ref a_l_taken)
  b_l_taken : Binds K d_l_taken ["_law_row", "_law_many"] []
  a_l_pick : Addr
  d_l_pick : FuncData
  f_l_pick : FunD K "_law_pick" "_law_pick" (defArgs s_l_pick) (defBody s_l_pick) (defScope s_l_pick) [] [] a_l_pick d_l_pick
  m_l_pick : mg "_law_pick" = some (.ref a_l_pick)
  b_l_pick : Binds K d_l_pick ["_law_row", "_law_things"] []
  a_l_signed : Addr
  d_l_signed : FuncData
  f_l_signed : FunD K "_law_signed" "_law_signed" (defArgs s_l_signed) (defBody s_l_signed) (defScope s_l_signed) [] [] a_l_signed d_l_signed
  m_l_signed : mg "_law_signed" = some (.ref a_l_signed)
  b_l_signed : Binds K d_l_signed ["_law_row", "_law_most"] []
  a_l_gcd : Addr
  d_l_gcd : FuncData
  f_l_gcd : FunD K "_law_gcd" "_law_gcd" (defArgs s_l_gcd) (defBody s_l_gcd) (defScope s_l_gcd) [] [] a_l_gcd d_l_gcd
  m_l_gcd : mg "_law_gcd" = some (.ref a_l_gcd)
  b_l_gcd : Binds K d_l_gcd ["_law_one", "_law_other"] []
  a_l_alike : Addr
  d_l_alike : FuncData
  f_l_alike : FunD K "_law_alike" "_law_alike" (defArgs s_l_alike) (defBody s_l_alike) (defScope s_l_alike) [] [] a_l_alike d_l_alike
  m_l_alike : mg "_law_alike" = some (.ref a_l_alike)
  b_l_alike : Binds K d_l_alike ["_law_found", "_law_due"] []
  a_l_least_sums : Addr
  d_l_least_sums : FuncData
  f_l_least_sums : FunD K "_law_least_sums" "_law_least_sums" (defArgs s_l_least_sums) (defBody s_l_least_sums) (defScope s_l_least_sums) [] [] a_l_least_sums d_l_least_sums
  m_l_least_sums : mg "_law_least_sums" = some (.ref a_l_least_sums)
  b_l_least_sums : Binds K d_l_least_sums ["_law_one", "_law_other"] []
  a_law : Addr
  d_law : FuncData
  f_law : FunD K "law" "law" (defArgs s_law) (defBody s_law) (defScope s_law) [] [] a_law d_law
  m_law : mg "law" = some (.ref a_law)
  b_law : Binds K d_law ["_law_script"] []
  z_abs : mg "abs" = none
  z_bool : mg "bool" = none
  z_int : mg "int" = none
  z_isinstance : mg "isinstance" = none
  z_len : mg "len" = none
  z_list : mg "list" = none
  z_max : mg "max" = none
  z_min : mg "min" = none
  z_range : mg "range" = none
  z_sorted : mg "sorted" = none
  z_str : mg "str" = none
  z_tuple : mg "tuple" = none
  c_FAR : ∃ t, mg "FAR" = some (.int (1000) t)
  c_MOST_STEPS : ∃ t, mg "MOST_STEPS" = some (.int (60) t)
  c_MOST_SUMS : ∃ t, mg "MOST_SUMS" = some (.int (2000) t)
section
variable {Pg : Program} {w : World} {K : Kf} {mg : Str → Option Value} {base : Heap} {k : Nat}
abbrev sem_is_in  : SS := (retS (vB (andT (tV (callE isiO (consA (varP 0) (consA (cE (.ty .int)) nilA)))) (andT (notT (tV (callE isiO (consA (varP 0) (consA (cE (.ty .bool)) nilA))))) (chT leO leO (varP 1) (varP 0) (varP 2))))))
theorem walk_is_in (tx : Tx K mg)  (cdv : Value) (Ar : Around) (outer : List PySem.Env) (s : Shared) (H : Hp) (Xk : XK) (hr : Room k (Ar.deeper (envOfC "is_in" (defScope s_is_in) s.heap.objs.size tx.a_is_in cdv))) :
    Ss (bodyX Pg w K mg base ["value", "least", "most"] "is_in" (defScope s_is_in) tx.a_is_in cdv Ar outer s H Xk) (defBody s_is_in) (sem_is_in ) :=
  (Ss.one (S.ret (B.val (B.and (B.of (E.callBN isi_s isiO_mono (Ap.cons (P.var 0 (pv 0)) (Ap.cons (E.p (E.tyv (t := .int) (by rfl) tx.z_int bt_int)) Ap.nil)) (fun h => pe_callB call_isiA (by rfl) tx.z_isinstance bt_isinstance h))) (B.and (B.not (B.of (E.callBN isi_s isiO_mono (Ap.cons (P.var 0 (pv 0)) (Ap.cons (E.p (E.tyv (t := .bool) (by rfl) tx.z_bool bt_bool)) Ap.nil)) (fun h => pe_callB call_isiA (by rfl) tx.z_isinstance bt_isinstance h)))) (B.one (B.ch op_le op_le le_s le_s int0_mono int0_mono (P.var 1 (pv 1)) (P.var 0 (pv 0)) (P.var 2 (pv 2)))))))))
abbrev wt1_gcd  : ST := (tV (sOp neO (varP 1) (cE (.int 0))))
abbrev ws2_gcd  : SS := (parS 0 1 (consA (varE 1) (consA (sOp modO (varP 0) (varP 1)) nilA)))
abbrev sem_gcd  : SS := (seqS (parS 0 1 (consA (callE (call1 absO) (consA (varP 0) nilA)) (consA (callE (call1 absO) (consA (varP 1) nilA)) nilA)))
    (seqS (whS (wt1_gcd) (ws2_gcd))
    (retS (varE 0))))
theorem walk_gcd (tx : Tx K mg)  (cdv : Value) (Ar : Around) (outer : List PySem.Env) (s : Shared) (H : Hp) (Xk : XK) (hr : Room k (Ar.deeper (envOfC "gcd" (defScope s_gcd) s.heap.objs.size tx.a_gcd cdv))) :
    Ss (bodyX Pg w K mg base ["one", "other"] "gcd" (defScope s_gcd) tx.a_gcd cdv Ar outer s H Xk) (defBody s_gcd) (sem_gcd ) :=
  (Ss.cons (S.parN (A.cons (E.callBN abs_s (call1_mono absO_mono) (Ap.cons (P.var 0 (pv 0)) Ap.nil) (fun h => pe_callB call_abs (by rfl) tx.z_abs bt_abs h)) (A.cons (E.callBN abs_s (call1_mono absO_mono) (Ap.cons (P.var 1 (pv 1)) Ap.nil) (fun h => pe_callB call_abs (by rfl) tx.z_abs bt_abs h)) A.nil)) (fun h => ps_par rfl sc_gcd.nd rfl rfl (by decide) rfl rfl h (by rfl)))
    (Ss.cons (S.whN (T.ne hr.units (P.var 1 (pv 1)) (E.p E.int)) (Ss.one (S.parN (A.cons (E.var 1 (pv 1)) (A.cons (E.mod (P.var 0 (pv 0)) (P.var 1 (pv 1))) A.nil)) (fun h => ps_par rfl sc_gcd.nd rfl rfl (by decide) rfl rfl h (by rfl)))) (fun h1 h2 => ps_while PassesOwn.never h1 h2))
    (Ss.one (S.ret (E.var 0 (pv 0))))))
abbrev sem_reduced (g_gcd : OC) : SS := (seqS (setS 2 (callE g_gcd (consA (varE 0) (consA (varE 1) nilA))))
    (seqS (ifS (tV (sOp ltO (varP 1) (cE (.int 0)))) (setS 2 (sUn negO (varP 2))) nextS)
    (retS (tupE (consA (sOp fdivO (varP 0) (varP 2)) (consA (sOp fdivO (varP 1) (varP 2)) nilA))))))
theorem walk_reduced (tx : Tx K mg) {g_gcd : OC} {k_gcd : Nat} (mo_gcd : MonoC g_gcd) (ok_gcd : FnOk Pg w K mg base CX0 k_gcd tx.a_gcd tx.d_gcd ["one", "other"] (spOf K 2 g_gcd)) (le_gcd : k_gcd ≤ k) (cdv : Value) (Ar : Around) (outer : List PySem.Env) (s : Shared) (H : Hp) (Xk : XK) (hr : Room k (Ar.deeper (envOfC "reduced" (defScope s_reduced) s.heap.objs.size tx.a_reduced cdv))) :
    Ss (bodyX Pg w K mg base ["numerator", "denominator", "common"] "reduced" (defScope s_reduced) tx.a_reduced cdv Ar outer s H Xk) (defBody s_reduced) (sem_reduced g_gcd) :=
  (Ss.cons (S.setN (E.call mo_gcd (A.cons (E.var 0 (pv 0)) (A.cons (E.var 1 (pv 1)) A.nil)) rfl (fun h => pe_call ok_gcd (hr.mono le_gcd) (by rfl) tx.m_gcd tx.f_gcd.kp tx.b_gcd .nil pass0 h)) (fun h => ps_asg h (pg_name (i := 2) sc_reduced.nd rfl (by first | exact Or.inl rfl | exact Or.inr rfl))))
    (Ss.cons (S.ifs (T.lt (P.var 1 (pv 1)) (E.p E.int)) (Ss.one (S.setN (E.neg (P.var 2 (pv 2))) (fun h => ps_asg h (pg_name (i := 2) sc_reduced.nd rfl (by first | exact Or.inl rfl | exact Or.inr rfl))))) Ss.nil)
    (Ss.one (S.ret (E.tup (A.cons (E.fdiv (P.var 0 (pv 0)) (P.var 2 (pv 2))) (A.cons (E.fdiv (P.var 1 (pv 1)) (P.var 2 (pv 2))) A.nil)))))))
abbrev sem_minus (g_reduced : OC) : SS := (retS (callE g_reduced (consA (sOp subO (sOp mulT (sOp ixO (varP 0) (cE (.int 0))) (sOp ixO (varP 1) (cE (.int 1)))) (sOp mulT (sOp ixO (varP 1) (cE (.int 0))) (sOp ixO (varP 0) (cE (.int 1))))) (consA (sOp mulT (sOp ixO (varP 0) (cE (.int 1))) (sOp ixO (varP 1) (cE (.int 1)))) nilA))))
theorem walk_minus (tx : Tx K mg) {g_reduced : OC} {k_reduced : Nat} (mo_reduced : MonoC g_reduced) (ok_reduced : FnOk Pg w K mg base CX0 k_reduced tx.a_reduced tx.d_reduced ["numerator", "denominator"] (spOf K 2 g_reduced)) (le_reduced : k_reduced ≤ k) (cdv : Value) (Ar : Around) (outer : List PySem.Env) (s : Shared) (H : Hp) (Xk : XK) (hr : Room k (Ar.deeper (envOfC "minus" (defScope s_minus) s.heap.objs.size tx.a_minus cdv))) :
    Ss (bodyX Pg w K mg base ["one", "other"] "minus" (defScope s_minus) tx.a_minus cdv Ar outer s H Xk) (defBody s_minus) (sem_minus g_reduced) :=
  (Ss.one (S.ret (E.call mo_reduced (A.cons (E.sub (E.p (E.mulT (E.p (E.ix (P.var 0 (pv 0)) (E.p E.int) (fun _ _ => rfl))) (E.p (E.ix (P.var 1 (pv 1)) (E.p E.int) (fun _ _ => rfl))))) (E.p (E.mulT (E.p (E.ix (P.var 1 (pv 1)) (E.p E.int) (fun _ _ => rfl))) (E.p (E.ix (P.var 0 (pv 0)) (E.p E.int) (fun _ _ => rfl)))))) (A.cons (E.mulT (E.p (E.ix (P.var 0 (pv 0)) (E.p E.int) (fun _ _ => rfl))) (E.p (E.ix (P.var 1 (pv 1)) (E.p E.int) (fun _ _ => rfl)))) A.nil)) rfl (fun h => pe_call ok_reduced (hr.mono le_reduced) (by rfl) tx.m_reduced tx.f_reduced.kp tx.b_reduced .nil pass0 h))))
abbrev sem_over (g_reduced : OC) : SS := (retS (callE g_reduced (consA (sOp mulT (sOp ixO (varP 0) (cE (.int 0))) (sOp ixO (varP 1) (cE (.int 1)))) (consA (sOp mulT (sOp ixO (varP 0) (cE (.int 1))) (sOp ixO (varP 1) (cE (.int 0)))) nilA))))
theorem walk_over (tx : Tx K mg) {g_reduced : OC} {k_reduced : Nat} (mo_reduced : MonoC g_reduced) (ok_reduced : FnOk Pg w K mg base CX0 k_reduced tx.a_reduced tx.d_reduced ["numerator", "denominator"] (spOf K 2 g_reduced)) (le_reduced : k_reduced ≤ k) (cdv : Value) (Ar : Around) (outer : List PySem.Env) (s : Shared) (H : Hp) (Xk : XK) (hr : Room k (Ar.deeper (envOfC "over" (defScope s_over) s.heap.objs.size tx.a_over cdv))) :
    Ss (bodyX Pg w K mg base ["one", "other"] "over" (defScope s_over) tx.a_over cdv Ar outer s H Xk) (defBody s_over) (sem_over g_reduced) :=
  (Ss.one (S.ret (E.call mo_reduced (A.cons (E.mulT (E.p (E.ix (P.var 0 (pv 0)) (E.p E.int) (fun _ _ => rfl))) (E.p (E.ix (P.var 1 (pv 1)) (E.p E.int) (fun _ _ => rfl)))) (A.cons (E.mulT (E.p (E.ix (P.var 0 (pv 0)) (E.p E.int) (fun _ _ => rfl))) (E.p (E.ix (P.var 1 (pv 1)) (E.p E.int) (fun _ _ => rfl)))) A.nil)) rfl (fun h => pe_call ok_reduced (hr.mono le_reduced) (by rfl) tx.m_reduced tx.f_reduced.kp tx.b_reduced .nil pass0 h))))
abbrev ct1_is_vector (g_is_in : OC) : ST := (notT (tV (callE g_is_in (consA (varE 4) (consA (varE 2) (consA (varE 3) nilA))))))
abbrev ce2_is_vector (g_is_in : OC) : SE := (varE 4)
abbrev sem_is_vector (g_is_in : OC) : SS := (seqS (ifS (orT (notT (tV (callE isiO (consA (varP 0) (consA (cE (.ty .tuple)) nilA))))) (tV (sOp neO (callE (call1 lenO) (consA (varP 0) nilA)) (varP 1)))) (retS (cE (.bl false))) nextS)
    (retS (sOp eqO (fun ρ Q => (lcA (seqI (varP 0)) (gVar 4) (ct1_is_vector g_is_in) (ce2_is_vector g_is_in) [4]) ρ fun ds => Q (.lst ds)) (fun ρ Q => (lstF nilA) ρ fun ds => Q (.lst ds)))))
theorem walk_is_vector (tx : Tx K mg) {g_is_in : OC} {k_is_in : Nat} (mo_is_in : MonoC g_is_in) (ok_is_in : FnOk Pg w K mg base CX0 k_is_in tx.a_is_in tx.d_is_in ["value", "least", "most"] (spOf K 3 g_is_in)) (le_is_in : k_is_in ≤ k) (cdv : Value) (Ar : Around) (outer : List PySem.Env) (s : Shared) (H : Hp) (Xk : XK) (hr : Room k (Ar.deeper (envOfC "is_vector" (defScope s_is_vector) s.heap.objs.size tx.a_is_vector cdv))) :
    Ss (bodyX Pg w K mg base ["value", "size", "low", "high", "x"] "is_vector" (defScope s_is_vector) tx.a_is_vector cdv Ar outer s H Xk) (defBody s_is_vector) (sem_is_vector g_is_in) :=
  (Ss.cons (S.ifs (Tw.t (Tw.or (T.not (T.val (E.callBN isi_s isiO_mono (Ap.cons (P.var 0 (pv 0)) (Ap.cons (E.p (E.tyv (t := .tuple) (by rfl) tx.z_tuple bt_tuple)) Ap.nil)) (fun h => pe_callB call_isiA (by rfl) tx.z_isinstance bt_isinstance h)))) (Tw.or1 (T.ne hr.units (E.p (E.callBN len_s (call1_mono lenO_mono) (Ap.cons (P.var 0 (pv 0)) Ap.nil) (fun h => pe_callB (CallR.or call_len_seq call_len_str) (by rfl) tx.z_len bt_len h))) (P.var 1 (pv 1)))))) (Ss.one (S.ret E.bl)) Ss.nil)
    (Ss.one (S.ret (E.eq hr.units (E.p (E.ofF (F.lc rfl sc_is_vector.nd (own := [("x", 4)]) (blkOk_by (by kernel_rfl)) (by decide) (Ig.seq (P.var 0 (pv 0))) (fun _ _ _ _ _ => (G.var (pg_name (i := 4) sc_is_vector.nd rfl (by first | exact Or.inl rfl | exact Or.inr rfl)))) (fun _ _ _ _ _ => (Tl.one (T.not (T.val (E.call mo_is_in (A.cons (E.var 4 (pv 4)) (A.cons (E.var 2 (pv 2)) (A.cons (E.var 3 (pv 3)) A.nil))) rfl (fun h => pe_call ok_is_in (hr.mono le_is_in) (by rfl) tx.m_is_in tx.f_is_in.kp tx.b_is_in .nil pass0 h)))))) (fun _ _ _ _ _ => (E.var 4 (pv 4)))))) (E.p (E.ofF (F.lst A.nil)))))))
abbrev ct1_from_steps (g_is_in : OC) (g_over : OC) (g_minus : OC) : ST := (notT (tV (callE g_is_in (consA (varE 1) (consA (cE (.int 2)) (consA (cE (.int 1000)) nilA))))))
abbrev ce2_from_steps (g_is_in : OC) (g_over : OC) (g_minus : OC) : SE := (varE 1)
abbrev fb3_from_steps (g_is_in : OC) (g_over : OC) (g_minus : OC) : SS := (setS 2 (callE g_minus (consA (tupE (consA (varE 1) (consA (cE (.int 1)) nilA))) (consA (callE g_over (consA (tupE (consA (cE (.int 1)) (consA (cE (.int 1)) nilA))) (consA (varE 2) nilA))) nilA))))
abbrev sem_from_steps (g_is_in : OC) (g_over : OC) (g_minus : OC) : SS := (seqS (ifS (orT (notT (tV (callE isiO (consA (varP 0) (consA (cE (.ty .tuple)) nilA))))) (notT (chT leO leO (cE (.int 1)) (callE (call1 lenO) (consA (varP 0) nilA)) (cE (.int 60))))) noS nextS)
    (seqS (ifS (tV (sOp neO (fun ρ Q => (lcA (seqI (varP 0)) (gVar 1) (ct1_from_steps g_is_in g_over g_minus) (ce2_from_steps g_is_in g_over g_minus) [1]) ρ fun ds => Q (.lst ds)) (fun ρ Q => (lstF nilA) ρ fun ds => Q (.lst ds)))) noS nextS)
    (seqS (setS 2 (tupE (consA (sOp ixO (varP 0) (sUn negO (cE (.int 1)))) (consA (cE (.int 1)) nilA))))
    (seqS (forS (seqI (backE (varP 0) (someO (sUn negO (cE (.int 2)))))) (gVar 1) (fb3_from_steps g_is_in g_over g_minus))
    (retS (varE 2))))))
theorem walk_from_steps (tx : Tx K mg) {g_is_in : OC} {k_is_in : Nat} (mo_is_in : MonoC g_is_in) (ok_is_in : FnOk Pg w K mg base CX0 k_is_in tx.a_is_in tx.d_is_in ["value", "least", "most"] (spOf K 3 g_is_in)) (le_is_in : k_is_in ≤ k) {g_over : OC} {k_over : Nat} (mo_over : MonoC g_over) (ok_over : FnOk Pg w K mg base CX0 k_over tx.a_over tx.d_over ["one", "other"] (spOf K 2 g_over)) (le_over : k_over ≤ k) {g_minus : OC} {k_minus : Nat} (mo_minus : MonoC g_minus) (ok_minus : FnOk Pg w K mg base CX0 k_minus tx.a_minus tx.d_minus ["one", "other"] (spOf K 2 g_minus)) (le_minus : k_minus ≤ k) (cdv : Value) (Ar : Around) (outer : List PySem.Env) (s : Shared) (H : Hp) (Xk : XK) (hr : Room k (Ar.deeper (envOfC "from_steps" (defScope s_from_steps) s.heap.objs.size tx.a_from_steps cdv))) :
    Ss (bodyX Pg w K mg base ["row", "one", "found"] "from_steps" (defScope s_from_steps) tx.a_from_steps cdv Ar outer s H Xk) (defBody s_from_steps) (sem_from_steps g_is_in g_over g_minus) :=
  (Ss.cons (S.ifs (Tw.t (Tw.or (T.not (T.val (E.callBN isi_s isiO_mono (Ap.cons (P.var 0 (pv 0)) (Ap.cons (E.p (E.tyv (t := .tuple) (by rfl) tx.z_tuple bt_tuple)) Ap.nil)) (fun h => pe_callB call_isiA (by rfl) tx.z_isinstance bt_isinstance h)))) (Tw.or1 (T.not (T.ch op_le op_le le_s le_s int0_mono int0_mono (E.p E.int) (E.p (E.callBN len_s (call1_mono lenO_mono) (Ap.cons (P.var 0 (pv 0)) Ap.nil) (fun h => pe_callB (CallR.or call_len_seq call_len_str) (by rfl) tx.z_len bt_len h))) (E.p (E.gint (by rfl) tx.c_MOST_STEPS))))))) (Ss.one S.nev) Ss.nil)
    (Ss.cons (S.ifs (T.ne hr.units (E.p (E.ofF (F.lc rfl sc_from_steps.nd (own := [("one", 1)]) (blkOk_by (by kernel_rfl)) (by decide) (Ig.seq (P.var 0 (pv 0))) (fun _ _ _ _ _ => (G.var (pg_name (i := 1) sc_from_steps.nd rfl (by first | exact Or.inl rfl | exact Or.inr rfl)))) (fun _ _ _ _ _ => (Tl.one (T.not (T.val (E.call mo_is_in (A.cons (E.var 1 (pv 1)) (A.cons E.int (A.cons (E.gint (by rfl) tx.c_FAR) A.nil))) rfl (fun h => pe_call ok_is_in (hr.mono le_is_in) (by rfl) tx.m_is_in tx.f_is_in.kp tx.b_is_in .nil pass0 h)))))) (fun _ _ _ _ _ => (E.var 1 (pv 1)))))) (E.p (E.ofF (F.lst A.nil)))) (Ss.one S.nev) Ss.nil)
    (Ss.cons (S.setN (E.tup (A.cons (E.ix (P.var 0 (pv 0)) (E.p (E.neg (E.p E.int))) (fun _ _ => rfl)) (A.cons E.int A.nil))) (fun h => ps_asg h (pg_name (i := 2) sc_from_steps.nd rfl (by first | exact Or.inl rfl | exact Or.inr rfl))))
    (Ss.cons (S.forN (I.seq (E.back (P.var 0 (pv 0)) (O.some (E.p (E.neg (E.p E.int)))))) (G.var (pg_name (i := 1) sc_from_steps.nd rfl (by first | exact Or.inl rfl | exact Or.inr rfl))) (Ss.one (S.setN (E.call mo_minus (A.cons (E.tup (A.cons (E.var 1 (pv 1)) (A.cons E.int A.nil))) (A.cons (E.call mo_over (A.cons (E.tup (A.cons E.int (A.cons E.int A.nil))) (A.cons (E.var 2 (pv 2)) A.nil)) rfl (fun h => pe_call ok_over (hr.mono le_over) (by rfl) tx.m_over tx.f_over.kp tx.b_over .nil pass0 h)) A.nil)) rfl (fun h => pe_call ok_minus (hr.mono le_minus) (by rfl) tx.m_minus tx.f_minus.kp tx.b_minus .nil pass0 h)) (fun h => ps_asg h (pg_name (i := 2) sc_from_steps.nd rfl (by first | exact Or.inl rfl | exact Or.inr rfl))))) (fun h1 h2 h3 => ps_for PassesOwn.never rfl h1 h2 h3))
    (Ss.one (S.ret (E.var 2 (pv 2))))))))
abbrev sem_turn  : SS := (retS (sOp subO (sOp mulT (sOp ixO (varP 0) (cE (.int 0))) (sOp ixO (varP 1) (cE (.int 1)))) (sOp mulT (sOp ixO (varP 0) (cE (.int 1))) (sOp ixO (varP 1) (cE (.int 0))))))
theorem walk_turn (tx : Tx K mg)  (cdv : Value) (Ar : Around) (outer : List PySem.Env) (s : Shared) (H : Hp) (Xk : XK) (hr : Room k (Ar.deeper (envOfC "turn" (defScope s_turn) s.heap.objs.size tx.a_turn cdv))) :
    Ss (bodyX Pg w K mg base ["one", "other"] "turn" (defScope s_turn) tx.a_turn cdv Ar outer s H Xk) (defBody s_turn) (sem_turn ) :=
  (Ss.one (S.ret (E.sub (E.p (E.mulT (E.p (E.ix (P.var 0 (pv 0)) (E.p E.int) (fun _ _ => rfl))) (E.p (E.ix (P.var 1 (pv 1)) (E.p E.int) (fun _ _ => rfl))))) (E.p (E.mulT (E.p (E.ix (P.var 0 (pv 0)) (E.p E.int) (fun _ _ => rfl))) (E.p (E.ix (P.var 1 (pv 1)) (E.p E.int) (fun _ _ => rfl))))))))
abbrev wt1_first_after (g_turn : OC) : ST := (tV (sOp neO (varP 5) (cE (.int 0))))
abbrev ws2_first_after (g_turn : OC) : SS := (seqS (setS 10 (sOp fdivO (varP 4) (varP 5)))
    (seqS (parS 4 5 (consA (varE 5) (consA (sOp subO (varP 4) (sOp mulT (varP 10) (varP 5))) nilA)))
    (asgS (tupE (consA (varE 8) (consA (varE 9) (consA (sOp subO (varP 6) (sOp mulT (varP 10) (varP 8))) (consA (sOp subO (varP 7) (sOp mulT (varP 10) (varP 9))) nilA))))) (gTupS (gConsS (gVar 6) (gConsS (gVar 7) (gConsS (gVar 8) (gConsS (gVar 9) gNilS))))))))
abbrev sem_first_after (g_turn : OC) : SS := (seqS (parS 2 3 (consA (ifE (tV (sOp gtO (callE g_turn (consA (varE 0) (consA (varE 1) nilA))) (cE (.int 0)))) (cE (.int 1)) (sUn negO (cE (.int 1)))) (consA (callE (call1 absO) (consA (callE g_turn (consA (varE 0) (consA (varE 1) nilA))) nilA)) nilA)))
    (seqS (asgS (varE 0) (gTupS (gConsS (gVar 4) (gConsS (gVar 5) gNilS))))
    (seqS (asgS (tupE (consA (cE (.int 1)) (consA (cE (.int 0)) (consA (cE (.int 0)) (consA (cE (.int 1)) nilA))))) (gTupS (gConsS (gVar 6) (gConsS (gVar 7) (gConsS (gVar 8) (gConsS (gVar 9) gNilS))))))
    (seqS (whS (wt1_first_after g_turn) (ws2_first_after g_turn))
    (seqS (setS 11 (ifE (tV (sOp gtO (varP 4) (cE (.int 0)))) (varE 2) (sUn negO (varP 2))))
    (seqS (setS 12 (tupE (consA (sOp mulT (sUn negO (varP 7)) (varP 11)) (consA (sOp mulT (varP 6) (varP 11)) nilA))))
    (seqS (setS 13 (sOp mulT (callE g_turn (consA (varE 12) (consA (varE 1) nilA))) (varP 2)))
    (seqS (setS 10 (sUn negO (sOp fdivO (varP 13) (varP 3))))
    (retS (tupE (consA (sOp addO (sOp ixO (varP 12) (cE (.int 0))) (sOp mulT (varP 10) (sOp ixO (varP 0) (cE (.int 0))))) (consA (sOp addO (sOp ixO (varP 12) (cE (.int 1))) (sOp mulT (varP 10) (sOp ixO (varP 0) (cE (.int 1))))) nilA))))))))))))
theorem walk_first_after (tx : Tx K mg) {g_turn : OC} {k_turn : Nat} (mo_turn : MonoC g_turn) (ok_turn : FnOk Pg w K mg base CX0 k_turn tx.a_turn tx.d_turn ["one", "other"] (spOf K 2 g_turn)) (le_turn : k_turn ≤ k) (cdv : Value) (Ar : Around) (outer : List PySem.Env) (s : Shared) (H : Hp) (Xk : XK) (hr : Room k (Ar.deeper (envOfC "first_after" (defScope s_first_after) s.heap.objs.size tx.a_first_after cdv))) :
    Ss (bodyX Pg w K mg base ["one", "other", "side", "whole", "x", "y", "p", "q", "r", "s", "factor", "sign", "way", "behind"] "first_after" (defScope s_first_after) tx.a_first_after cdv Ar outer s H Xk) (defBody s_first_after) (sem_first_after g_turn) :=
  (Ss.cons (S.parN (A.cons (E.ifx (T.gt (E.p (E.call mo_turn (A.cons (E.var 0 (pv 0)) (A.cons (E.var 1 (pv 1)) A.nil)) rfl (fun h => pe_call ok_turn (hr.mono le_turn) (by rfl) tx.m_turn tx.f_turn.kp tx.b_turn .nil pass0 h))) (E.p E.int)) E.int (E.neg (E.p E.int))) (A.cons (E.callBN abs_s (call1_mono absO_mono) (Ap.cons (E.p (E.call mo_turn (A.cons (E.var 0 (pv 0)) (A.cons (E.var 1 (pv 1)) A.nil)) rfl (fun h => pe_call ok_turn (hr.mono le_turn) (by rfl) tx.m_turn tx.f_turn.kp tx.b_turn .nil pass0 h))) Ap.nil) (fun h => pe_callB call_abs (by rfl) tx.z_abs bt_abs h)) A.nil)) (fun h => ps_par rfl sc_first_after.nd rfl rfl (by decide) rfl rfl h (by rfl)))
    (Ss.cons (S.asgN (E.var 0 (pv 0)) (G.t (gn_var (gn_var gn_nil)) (Gs.cn (G.var (pg_name (i := 4) sc_first_after.nd rfl (by first | exact Or.inl rfl | exact Or.inr rfl))) (Gs.cn (G.var (pg_name (i := 5) sc_first_after.nd rfl (by first | exact Or.inl rfl | exact Or.inr rfl))) Gs.nil (fun h1 h2 => pgs_cons h1 h2)) (fun h1 h2 => pgs_cons h1 h2)) (fun h => pg_tup rfl h)) (fun h1 h2 => ps_asg h1 h2))
    (Ss.cons (S.asgN (E.tup (A.cons E.int (A.cons E.int (A.cons E.int (A.cons E.int A.nil))))) (G.t (gn_var (gn_var (gn_var (gn_var gn_nil)))) (Gs.cn (G.var (pg_name (i := 6) sc_first_after.nd rfl (by first | exact Or.inl rfl | exact Or.inr rfl))) (Gs.cn (G.var (pg_name (i := 7) sc_first_after.nd rfl (by first | exact Or.inl rfl | exact Or.inr rfl))) (Gs.cn (G.var (pg_name (i := 8) sc_first_after.nd rfl (by first | exact Or.inl rfl | exact Or.inr rfl))) (Gs.cn (G.var (pg_name (i := 9) sc_first_after.nd rfl (by first | exact Or.inl rfl | exact Or.inr rfl))) Gs.nil (fun h1 h2 => pgs_cons h1 h2)) (fun h1 h2 => pgs_cons h1 h2)) (fun h1 h2 => pgs_cons h1 h2)) (fun h1 h2 => pgs_cons h1 h2)) (fun h => pg_tup rfl h)) (fun h1 h2 => ps_asg h1 h2))
    (Ss.cons (S.whN (T.ne hr.units (P.var 5 (pv 5)) (E.p E.int)) (Ss.cons (S.setN (E.fdiv (P.var 4 (pv 4)) (P.var 5 (pv 5))) (fun h => ps_asg h (pg_name (i := 10) sc_first_after.nd rfl (by first | exact Or.inl rfl | exact Or.inr rfl))))
    (Ss.cons (S.parN (A.cons (E.var 5 (pv 5)) (A.cons (E.sub (P.var 4 (pv 4)) (E.p (E.mulT (P.var 10 (pv 10)) (P.var 5 (pv 5))))) A.nil)) (fun h => ps_par rfl sc_first_after.nd rfl rfl (by decide) rfl rfl h (by rfl)))
    (Ss.one (S.asgN (E.tup (A.cons (E.var 8 (pv 8)) (A.cons (E.var 9 (pv 9)) (A.cons (E.sub (P.var 6 (pv 6)) (E.p (E.mulT (P.var 10 (pv 10)) (P.var 8 (pv 8))))) (A.cons (E.sub (P.var 7 (pv 7)) (E.p (E.mulT (P.var 10 (pv 10)) (P.var 9 (pv 9))))) A.nil))))) (G.t (gn_var (gn_var (gn_var (gn_var gn_nil)))) (Gs.cn (G.var (pg_name (i := 6) sc_first_after.nd rfl (by first | exact Or.inl rfl | exact Or.inr rfl))) (Gs.cn (G.var (pg_name (i := 7) sc_first_after.nd rfl (by first | exact Or.inl rfl | exact Or.inr rfl))) (Gs.cn (G.var (pg_name (i := 8) sc_first_after.nd rfl (by first | exact Or.inl rfl | exact Or.inr rfl))) (Gs.cn (G.var (pg_name (i := 9) sc_first_after.nd rfl (by first | exact Or.inl rfl | exact Or.inr rfl))) Gs.nil (fun h1 h2 => pgs_cons h1 h2)) (fun h1 h2 => pgs_cons h1 h2)) (fun h1 h2 => pgs_cons h1 h2)) (fun h1 h2 => pgs_cons h1 h2)) (fun h => pg_tup rfl h)) (fun h1 h2 => ps_asg h1 h2))))) (fun h1 h2 => ps_while PassesOwn.never h1 h2))
    (Ss.cons (S.setN (E.ifx (T.gt (P.var 4 (pv 4)) (E.p E.int)) (E.var 2 (pv 2)) (E.neg (P.var 2 (pv 2)))) (fun h => ps_asg h (pg_name (i := 11) sc_first_after.nd rfl (by first | exact Or.inl rfl | exact Or.inr rfl))))
    (Ss.cons (S.setN (E.tup (A.cons (E.mulT (E.p (E.neg (P.var 7 (pv 7)))) (P.var 11 (pv 11))) (A.cons (E.mulT (P.var 6 (pv 6)) (P.var 11 (pv 11))) A.nil))) (fun h => ps_asg h (pg_name (i := 12) sc_first_after.nd rfl (by first | exact Or.inl rfl | exact Or.inr rfl))))
    (Ss.cons (S.setN (E.mulT (E.p (E.call mo_turn (A.cons (E.var 12 (pv 12)) (A.cons (E.var 1 (pv 1)) A.nil)) rfl (fun h => pe_call ok_turn (hr.mono le_turn) (by rfl) tx.m_turn tx.f_turn.kp tx.b_turn .nil pass0 h))) (P.var 2 (pv 2))) (fun h => ps_asg h (pg_name (i := 13) sc_first_after.nd rfl (by first | exact Or.inl rfl | exact Or.inr rfl))))
    (Ss.cons (S.setN (E.neg (E.p (E.fdiv (P.var 13 (pv 13)) (P.var 3 (pv 3))))) (fun h => ps_asg h (pg_name (i := 10) sc_first_after.nd rfl (by first | exact Or.inl rfl | exact Or.inr rfl))))
    (Ss.one (S.ret (E.tup (A.cons (E.add (E.p (E.ix (P.var 12 (pv 12)) (E.p E.int) (fun _ _ => rfl))) (E.p (E.mulT (P.var 10 (pv 10)) (E.p (E.ix (P.var 0 (pv 0)) (E.p E.int) (fun _ _ => rfl)))))) (A.cons (E.add (E.p (E.ix (P.var 12 (pv 12)) (E.p E.int) (fun _ _ => rfl))) (E.p (E.mulT (P.var 10 (pv 10)) (E.p (E.ix (P.var 0 (pv 0)) (E.p E.int) (fun _ _ => rfl)))))) A.nil)))))))))))))
abbrev wt1_sums_between (g_turn : OC) (g_first_after : OC) : ST := (tV (sOp neO (sOp ixO (varP 3) (sUn negO (cE (.int 1)))) (varP 1)))
abbrev ws2_sums_between (g_turn : OC) (g_first_after : OC) : SS := (seqS (ifS (tV (sOp eqO (callE (call1 lenO) (consA (varP 3) nilA)) (cE (.int 2000)))) noS nextS)
    (seqS (parS 4 5 (consA (sOp ixO (varP 3) (sUn negO (cE (.int 1)))) (consA (sOp ixO (varP 3) (sUn negO (cE (.int 2)))) nilA)))
    (seqS (parS 6 7 (consA (sOp mulT (callE g_turn (consA (varE 5) (consA (varE 1) nilA))) (varP 2)) (consA (sOp mulT (callE g_turn (consA (varE 4) (consA (varE 1) nilA))) (varP 2)) nilA)))
    (seqS (setS 8 (sUn negO (sOp fdivO (sUn negO (varP 6)) (varP 7))))
    (appS 3 (tupE (consA (sOp subO (sOp mulT (varP 8) (sOp ixO (varP 4) (cE (.int 0)))) (sOp ixO (varP 5) (cE (.int 0)))) (consA (sOp subO (sOp mulT (varP 8) (sOp ixO (varP 4) (cE (.int 1)))) (sOp ixO (varP 5) (cE (.int 1)))) nilA))))))))
abbrev sem_sums_between (g_turn : OC) (g_first_after : OC) : SS := (seqS (parM [2, 3] (consM (shM (ifE (tV (sOp gtO (callE g_turn (consA (varE 0) (consA (varE 1) nilA))) (cE (.int 0)))) (cE (.int 1)) (sUn negO (cE (.int 1))))) (consM (ownM (lstF (consA (varE 0) nilA))) nilM)))
    (seqS (ifS (tV (sOp eqO (callE (call1 absO) (consA (callE g_turn (consA (varE 0) (consA (varE 1) nilA))) nilA)) (cE (.int 1)))) (retS (fun ρ Q => (lstF (consA (varE 0) (consA (varE 1) nilA))) ρ fun ds => Q (.lst ds))) nextS)
    (seqS (appS 3 (callE g_first_after (consA (varE 0) (consA (varE 1) nilA))))
    (seqS (whS (wt1_sums_between g_turn g_first_after) (ws2_sums_between g_turn g_first_after))
    (frzS 3 (retS (varE 3)))))))
theorem walk_sums_between (tx : Tx K mg) {g_turn : OC} {k_turn : Nat} (mo_turn : MonoC g_turn) (ok_turn : FnOk Pg w K mg base CX0 k_turn tx.a_turn tx.d_turn ["one", "other"] (spOf K 2 g_turn)) (le_turn : k_turn ≤ k) {g_first_after : OC} {k_first_after : Nat} (mo_first_after : MonoC g_first_after) (ok_first_after : FnOk Pg w K mg base CX0 k_first_after tx.a_first_after tx.d_first_after ["one", "other"] (spOf K 2 g_first_after)) (le_first_after : k_first_after ≤ k) (cdv : Value) (Ar : Around) (outer : List PySem.Env) (s : Shared) (H : Hp) (Xk : XK) (hr : Room k (Ar.deeper (envOfC "sums_between" (defScope s_sums_between) s.heap.objs.size tx.a_sums_between cdv))) :
    Ss (bodyX Pg w K mg base ["one", "other", "side", "found", "last", "before", "above", "here", "factor"] "sums_between" (defScope s_sums_between) tx.a_sums_between cdv Ar outer s H Xk) (defBody s_sums_between) (sem_sums_between g_turn g_first_after) :=
  (Ss.cons (S.pm2 (Ms.cons (M1.sh (E.ifx (T.gt (E.p (E.call mo_turn (A.cons (E.var 0 (pv 0)) (A.cons (E.var 1 (pv 1)) A.nil)) rfl (fun h => pe_call ok_turn (hr.mono le_turn) (by rfl) tx.m_turn tx.f_turn.kp tx.b_turn .nil pass0 h))) (E.p E.int)) E.int (E.neg (E.p E.int)))) (Ms.cons (M1.own (F.lst (A.cons (E.var 0 (pv 0)) A.nil))) Ms.nil)) (fun h => ps_par rfl sc_sums_between.nd rfl rfl (by decide) rfl rfl h (by rfl)))
    (Ss.cons (S.ifs (T.eq hr.units (E.p (E.callBN abs_s (call1_mono absO_mono) (Ap.cons (E.p (E.call mo_turn (A.cons (E.var 0 (pv 0)) (A.cons (E.var 1 (pv 1)) A.nil)) rfl (fun h => pe_call ok_turn (hr.mono le_turn) (by rfl) tx.m_turn tx.f_turn.kp tx.b_turn .nil pass0 h))) Ap.nil) (fun h => pe_callB call_abs (by rfl) tx.z_abs bt_abs h))) (E.p E.int)) (Ss.one (S.ret (E.ofF (F.lst (A.cons (E.var 0 (pv 0)) (A.cons (E.var 1 (pv 1)) A.nil)))))) Ss.nil)
    (Ss.cons (S.appN (E.call mo_first_after (A.cons (E.var 0 (pv 0)) (A.cons (E.var 1 (pv 1)) A.nil)) rfl (fun h => pe_call ok_first_after (hr.mono le_first_after) (by rfl) tx.m_first_after tx.f_first_after.kp tx.b_first_after .nil pass0 h)) (fun h => ps_expr (pe_bm PySem.F.plainAttrs_list PySem.F.slot_list_append PySem.F.type_list_append mt_append (pv 3) (pa_cons h pa_nil))))
    (Ss.cons (S.whN (T.ne hr.units (E.p (E.ix (P.var 3 (pv 3)) (E.p (E.neg (E.p E.int))) (fun _ _ => rfl))) (P.var 1 (pv 1))) (Ss.cons (S.ifs (T.eq hr.units (E.p (E.callBN len_s (call1_mono lenO_mono) (Ap.cons (P.var 3 (pv 3)) Ap.nil) (fun h => pe_callB (CallR.or call_len_seq call_len_str) (by rfl) tx.z_len bt_len h))) (E.p (E.gint (by rfl) tx.c_MOST_SUMS))) (Ss.one S.nev) Ss.nil)
    (Ss.cons (S.parN (A.cons (E.ix (P.var 3 (pv 3)) (E.p (E.neg (E.p E.int))) (fun _ _ => rfl)) (A.cons (E.ix (P.var 3 (pv 3)) (E.p (E.neg (E.p E.int))) (fun _ _ => rfl)) A.nil)) (fun h => ps_par rfl sc_sums_between.nd rfl rfl (by decide) rfl rfl h (by rfl)))
    (Ss.cons (S.parN (A.cons (E.mulT (E.p (E.call mo_turn (A.cons (E.var 5 (pv 5)) (A.cons (E.var 1 (pv 1)) A.nil)) rfl (fun h => pe_call ok_turn (hr.mono le_turn) (by rfl) tx.m_turn tx.f_turn.kp tx.b_turn .nil pass0 h))) (P.var 2 (pv 2))) (A.cons (E.mulT (E.p (E.call mo_turn (A.cons (E.var 4 (pv 4)) (A.cons (E.var 1 (pv 1)) A.nil)) rfl (fun h => pe_call ok_turn (hr.mono le_turn) (by rfl) tx.m_turn tx.f_turn.kp tx.b_turn .nil pass0 h))) (P.var 2 (pv 2))) A.nil)) (fun h => ps_par rfl sc_sums_between.nd rfl rfl (by decide) rfl rfl h (by rfl)))
    (Ss.cons (S.setN (E.neg (E.p (E.fdiv (E.p (E.neg (P.var 6 (pv 6)))) (P.var 7 (pv 7))))) (fun h => ps_asg h (pg_name (i := 8) sc_sums_between.nd rfl (by first | exact Or.inl rfl | exact Or.inr rfl))))
    (Ss.one (S.appN (E.tup (A.cons (E.sub (E.p (E.mulT (P.var 8 (pv 8)) (E.p (E.ix (P.var 4 (pv 4)) (E.p E.int) (fun _ _ => rfl))))) (E.p (E.ix (P.var 5 (pv 5)) (E.p E.int) (fun _ _ => rfl)))) (A.cons (E.sub (E.p (E.mulT (P.var 8 (pv 8)) (E.p (E.ix (P.var 4 (pv 4)) (E.p E.int) (fun _ _ => rfl))))) (E.p (E.ix (P.var 5 (pv 5)) (E.p E.int) (fun _ _ => rfl)))) A.nil))) (fun h => ps_expr (pe_bm PySem.F.plainAttrs_list PySem.F.slot_list_append PySem.F.type_list_append mt_append (pv 3) (pa_cons h pa_nil))))))))) (fun h1 h2 => ps_while PassesOwn.never h1 h2))
    (Ss.one (S.frz 3 (S.ret (E.var 3 (pv 3)))))))))
abbrev fb1_least_sums (g_is_vector : OC) (g_gcd : OC) (g_turn : OC) (g_sums_between : OC) : SS := (ifS (orT (notT (tV (callE g_is_vector (consA (varE 2) (consA (cE (.int 2)) (consA (sUn negO (cE (.int 1000))) (consA (cE (.int 1000)) nilA))))))) (tV (sOp neO (callE g_gcd (consA (sOp ixO (varP 2) (cE (.int 0))) (consA (sOp ixO (varP 2) (cE (.int 1))) nilA))) (cE (.int 1))))) noS nextS)
abbrev sem_least_sums (g_is_vector : OC) (g_gcd : OC) (g_turn : OC) (g_sums_between : OC) : SS := (seqS (forS (seqI (fun ρ Q => (lstF (consA (varE 0) (consA (varE 1) nilA))) ρ fun ds => Q (.lst ds))) (gVar 2) (fb1_least_sums g_is_vector g_gcd g_turn g_sums_between))
    (seqS (ifS (tV (sOp eqO (callE g_turn (consA (varE 0) (consA (varE 1) nilA))) (cE (.int 0)))) noS nextS)
    (retS (callE (call1 tupleO) (consA (callE g_sums_between (consA (varE 0) (consA (varE 1) nilA))) nilA)))))
theorem walk_least_sums (tx : Tx K mg) {g_is_vector : OC} {k_is_vector : Nat} (mo_is_vector : MonoC g_is_vector) (ok_is_vector : FnOk Pg w K mg base CX0 k_is_vector tx.a_is_vector tx.d_is_vector ["value", "size", "low", "high"] (spOf K 4 g_is_vector)) (le_is_vector : k_is_vector ≤ k) {g_gcd : OC} {k_gcd : Nat} (mo_gcd : MonoC g_gcd) (ok_gcd : FnOk Pg w K mg base CX0 k_gcd tx.a_gcd tx.d_gcd ["one", "other"] (spOf K 2 g_gcd)) (le_gcd : k_gcd ≤ k) {g_turn : OC} {k_turn : Nat} (mo_turn : MonoC g_turn) (ok_turn : FnOk Pg w K mg base CX0 k_turn tx.a_turn tx.d_turn ["one", "other"] (spOf K 2 g_turn)) (le_turn : k_turn ≤ k) {g_sums_between : OC} {k_sums_between : Nat} (mo_sums_between : MonoC g_sums_between) (ok_sums_between : FnOk Pg w K mg base CX0 k_sums_between tx.a_sums_between tx.d_sums_between ["one", "other"] (spOf K 2 g_sums_between)) (le_sums_between : k_sums_between ≤ k) (cdv : Value) (Ar : Around) (outer : List PySem.Env) (s : Shared) (H : Hp) (Xk : XK) (hr : Room k (Ar.deeper (envOfC "least_sums" (defScope s_least_sums) s.heap.objs.size tx.a_least_sums cdv))) :
    Ss (bodyX Pg w K mg base ["one", "other", "pair"] "least_sums" (defScope s_least_sums) tx.a_least_sums cdv Ar outer s H Xk) (defBody s_least_sums) (sem_least_sums g_is_vector g_gcd g_turn g_sums_between) :=
  (Ss.cons (S.forN (I.seq (E.ofF (F.lst (A.cons (E.var 0 (pv 0)) (A.cons (E.var 1 (pv 1)) A.nil))))) (G.var (pg_name (i := 2) sc_least_sums.nd rfl (by first | exact Or.inl rfl | exact Or.inr rfl))) (Ss.one (S.ifs (Tw.t (Tw.or (T.not (T.val (E.call mo_is_vector (A.cons (E.var 2 (pv 2)) (A.cons E.int (A.cons (E.neg (E.p (E.gint (by rfl) tx.c_FAR))) (A.cons (E.gint (by rfl) tx.c_FAR) A.nil)))) rfl (fun h => pe_call ok_is_vector (hr.mono le_is_vector) (by rfl) tx.m_is_vector tx.f_is_vector.kp tx.b_is_vector .nil pass0 h)))) (Tw.or1 (T.ne hr.units (E.p (E.call mo_gcd (A.cons (E.ix (P.var 2 (pv 2)) (E.p E.int) (fun _ _ => rfl)) (A.cons (E.ix (P.var 2 (pv 2)) (E.p E.int) (fun _ _ => rfl)) A.nil)) rfl (fun h => pe_call ok_gcd (hr.mono le_gcd) (by rfl) tx.m_gcd tx.f_gcd.kp tx.b_gcd .nil pass0 h))) (E.p E.int))))) (Ss.one S.nev) Ss.nil)) (fun h1 h2 h3 => ps_for PassesOwn.never rfl h1 h2 h3))
    (Ss.cons (S.ifs (T.eq hr.units (E.p (E.call mo_turn (A.cons (E.var 0 (pv 0)) (A.cons (E.var 1 (pv 1)) A.nil)) rfl (fun h => pe_call ok_turn (hr.mono le_turn) (by rfl) tx.m_turn tx.f_turn.kp tx.b_turn .nil pass0 h))) (E.p E.int)) (Ss.one S.nev) Ss.nil)
    (Ss.one (S.ret (E.callBN tuple_s (call1_mono tupleO_mono) (Ap.cons (E.p (E.call mo_sums_between (A.cons (E.var 0 (pv 0)) (A.cons (E.var 1 (pv 1)) A.nil)) rfl (fun h => pe_call ok_sums_between (hr.mono le_sums_between) (by rfl) tx.m_sums_between tx.f_sums_between.kp tx.b_sums_between .nil pass0 h))) Ap.nil) (fun h => pe_callTy call_tuple_of (by rfl) tx.z_tuple bt_tuple h))))))
abbrev ce1_sail (g_least_sums : OC) : SE := (sOp addO (sOp ixO (sOp ixO (varP 2) (sOp subO (varP 4) (cE (.int 1)))) (varP 7)) (sOp ixO (sOp ixO (varP 2) (sOp addO (varP 4) (cE (.int 1)))) (varP 7)))
abbrev fb2_sail (g_least_sums : OC) : SS := (seqS (setS 5 (vB (chT ltO ltO (cE (.int 0)) (varP 4) (sOp subO (callE (call1 lenO) (consA (varP 2) nilA)) (cE (.int 1))))))
    (seqS (setS 6 (ifE (tV (varE 5)) (fun ρ Q => (lcA (rng1A (consA (cE (.int 2)) nilA)) (gVar 7) yesT (ce1_sail g_least_sums) [7]) ρ fun ds => Q (.lst ds)) (fun ρ Q => (lstF nilA) ρ fun ds => Q (.lst ds))))
    (ifS (orT (notT (tV (varE 5))) (tV (sOp neO (varP 6) (fun ρ Q => (lstF (consA (sOp mulT (cE (.int 2)) (sOp ixO (sOp ixO (varP 2) (varP 4)) (cE (.int 0)))) (consA (sOp mulT (cE (.int 2)) (sOp ixO (sOp ixO (varP 2) (varP 4)) (cE (.int 1)))) nilA))) ρ fun ds => Q (.lst ds))))) (appS 3 (sOp ixO (varP 2) (varP 4))) nextS)))
abbrev sem_sail (g_least_sums : OC) : SS := (seqS (setS 2 (callE g_least_sums (consA (varE 0) (consA (varE 1) nilA))))
    (seqS (Z0.setO 3 (lstF nilA))
    (seqS (forS (rng1A (consA (callE (call1 lenO) (consA (varP 2) nilA)) nilA)) (gVar 4) (fb2_sail g_least_sums))
    (retS (callE (call1 tupleO) (consA (varP 3) nilA))))))
theorem walk_sail (tx : Tx K mg) {g_least_sums : OC} {k_least_sums : Nat} (mo_least_sums : MonoC g_least_sums) (ok_least_sums : FnOk Pg w K mg base CX0 k_least_sums tx.a_least_sums tx.d_least_sums ["one", "other"] (spOf K 2 g_least_sums)) (le_least_sums : k_least_sums ≤ k) (cdv : Value) (Ar : Around) (outer : List PySem.Env) (s : Shared) (H : Hp) (Xk : XK) (hr : Room k (Ar.deeper (envOfC "sail" (defScope s_sail) s.heap.objs.size tx.a_sail cdv))) :
    Ss (bodyX Pg w K mg base ["one", "other", "row", "found", "at", "inner", "both", "k"] "sail" (defScope s_sail) tx.a_sail cdv Ar outer s H Xk) (defBody s_sail) (sem_sail g_least_sums) :=
  (Ss.cons (S.setN (E.call mo_least_sums (A.cons (E.var 0 (pv 0)) (A.cons (E.var 1 (pv 1)) A.nil)) rfl (fun h => pe_call ok_least_sums (hr.mono le_least_sums) (by rfl) tx.m_least_sums tx.f_least_sums.kp tx.b_least_sums .nil pass0 h)) (fun h => ps_asg h (pg_name (i := 2) sc_sail.nd rfl (by first | exact Or.inl rfl | exact Or.inr rfl))))
    (Ss.cons (S.setON (F.lst A.nil) (fun h => ps_asg h (pg_name (i := 3) sc_sail.nd rfl (by first | exact Or.inl rfl | exact Or.inr rfl))))
    (Ss.cons (S.forN (I.r1 (Ap.cons (E.p (E.callBN len_s (call1_mono lenO_mono) (Ap.cons (P.var 2 (pv 2)) Ap.nil) (fun h => pe_callB (CallR.or call_len_seq call_len_str) (by rfl) tx.z_len bt_len h))) Ap.nil) (fun h => pi_range1 (by rfl) tx.z_range h)) (G.var (pg_name (i := 4) sc_sail.nd rfl (by first | exact Or.inl rfl | exact Or.inr rfl))) (Ss.cons (S.setN (B.val (B.ch op_lt op_lt lt_s lt_s int0_mono int0_mono (E.p E.int) (P.var 4 (pv 4)) (E.p (E.sub (E.p (E.callBN len_s (call1_mono lenO_mono) (Ap.cons (P.var 2 (pv 2)) Ap.nil) (fun h => pe_callB (CallR.or call_len_seq call_len_str) (by rfl) tx.z_len bt_len h))) (E.p E.int))))) (fun h => ps_asg h (pg_name (i := 5) sc_sail.nd rfl (by first | exact Or.inl rfl | exact Or.inr rfl))))
    (Ss.cons (S.setN (E.ifx (T.val (E.var 5 (pv 5))) (E.ofF (F.lc rfl sc_sail.nd (own := [("k", 7)]) (blkOk_by (by kernel_rfl)) (by decide) (I.toG (I.r1 (Ap.cons (E.p E.int) Ap.nil) (fun h => pi_range1 (by rfl) tx.z_range h))) (fun _ _ _ _ _ => (G.var (pg_name (i := 7) sc_sail.nd rfl (by first | exact Or.inl rfl | exact Or.inr rfl)))) (fun _ _ _ _ _ => Tl.nil) (fun _ _ _ _ _ => (E.add (E.p (E.ix (E.p (E.ix (P.var 2 (pv 2)) (E.p (E.sub (P.var 4 (pv 4)) (E.p E.int))) (fun _ _ => rfl))) (P.var 7 (pv 7)) (fun _ _ => rfl))) (E.p (E.ix (E.p (E.ix (P.var 2 (pv 2)) (E.p (E.add (P.var 4 (pv 4)) (E.p E.int))) (fun _ _ => rfl))) (P.var 7 (pv 7)) (fun _ _ => rfl))))))) (E.ofF (F.lst A.nil))) (fun h => ps_asg h (pg_name (i := 6) sc_sail.nd rfl (by first | exact Or.inl rfl | exact Or.inr rfl))))
    (Ss.one (S.ifs (Tw.t (Tw.or (T.not (T.val (E.var 5 (pv 5)))) (Tw.or1 (T.ne hr.units (P.var 6 (pv 6)) (E.p (E.ofF (F.lst (A.cons (E.mulT (E.p E.int) (E.p (E.ix (E.p (E.ix (P.var 2 (pv 2)) (P.var 4 (pv 4)) (fun _ _ => rfl))) (E.p E.int) (fun _ _ => rfl)))) (A.cons (E.mulT (E.p E.int) (E.p (E.ix (E.p (E.ix (P.var 2 (pv 2)) (P.var 4 (pv 4)) (fun _ _ => rfl))) (E.p E.int) (fun _ _ => rfl)))) A.nil))))))))) (Ss.one (S.appN (E.ix (P.var 2 (pv 2)) (P.var 4 (pv 4)) (fun _ _ => rfl)) (fun h => ps_expr (pe_bm PySem.F.plainAttrs_list PySem.F.slot_list_append PySem.F.type_list_append mt_append (pv 3) (pa_cons h pa_nil))))) Ss.nil)))) (fun h1 h2 h3 => ps_for PassesOwn.never rfl h1 h2 h3))
    (Ss.one (S.ret (E.callBN tuple_s (call1_mono tupleO_mono) (Ap.cons (P.var 3 (pv 3)) Ap.nil) (fun h => pe_callTy call_tuple_of (by rfl) tx.z_tuple bt_tuple h)))))))
abbrev sem_l_pick (g_l_taken : OC) : SS := (retS (sOp ixO (varP 1) (callE g_l_taken (consA (varE 0) (consA (callE (call1 lenO) (consA (varP 1) nilA)) nilA)))))
theorem walk_l_pick (tx : Tx K mg) {g_l_taken : OC} {k_l_taken : Nat} (mo_l_taken : MonoC g_l_taken) (ok_l_taken : FnOk Pg w K mg base CX0 k_l_taken tx.a_l_taken tx.d_l_taken ["_law_row", "_law_many"] (spOf K 2 g_l_taken)) (le_l_taken : k_l_taken ≤ k) (cdv : Value) (Ar : Around) (outer : List PySem.Env) (s : Shared) (H : Hp) (Xk : XK) (hr : Room k (Ar.deeper (envOfC "_law_pick" (defScope s_l_pick) s.heap.objs.size tx.a_l_pick cdv))) :
    Ss (bodyX Pg w K mg base ["_law_row", "_law_things"] "_law_pick" (defScope s_l_pick) tx.a_l_pick cdv Ar outer s H Xk) (defBody s_l_pick) (sem_l_pick g_l_taken) :=
  (Ss.one (S.ret (E.ix (P.var 1 (pv 1)) (E.p (E.call mo_l_taken (A.cons (E.var 0 (pv 0)) (A.cons (E.callBN len_s (call1_mono lenO_mono) (Ap.cons (P.var 1 (pv 1)) Ap.nil) (fun h => pe_callB (CallR.or call_len_seq call_len_str) (by rfl) tx.z_len bt_len h)) A.nil)) rfl (fun h => pe_call ok_l_taken (hr.mono le_l_taken) (by rfl) tx.m_l_taken tx.f_l_taken.kp tx.b_l_taken .nil pass0 h))) (fun _ _ => rfl))))
abbrev sem_l_signed (g_l_taken : OC) : SS := (retS (sOp subO (callE g_l_taken (consA (varE 0) (consA (sOp addO (sOp mulT (cE (.int 2)) (varP 1)) (cE (.int 1))) nilA))) (varP 1)))
theorem walk_l_signed (tx : Tx K mg) {g_l_taken : OC} {k_l_taken : Nat} (mo_l_taken : MonoC g_l_taken) (ok_l_taken : FnOk Pg w K mg base CX0 k_l_taken tx.a_l_taken tx.d_l_taken ["_law_row", "_law_many"] (spOf K 2 g_l_taken)) (le_l_taken : k_l_taken ≤ k) (cdv : Value) (Ar : Around) (outer : List PySem.Env) (s : Shared) (H : Hp) (Xk : XK) (hr : Room k (Ar.deeper (envOfC "_law_signed" (defScope s_l_signed) s.heap.objs.size tx.a_l_signed cdv))) :
    Ss (bodyX Pg w K mg base ["_law_row", "_law_most"] "_law_signed" (defScope s_l_signed) tx.a_l_signed cdv Ar outer s H Xk) (defBody s_l_signed) (sem_l_signed g_l_taken) :=
  (Ss.one (S.ret (E.sub (E.p (E.call mo_l_taken (A.cons (E.var 0 (pv 0)) (A.cons (E.add (E.p (E.mulT (E.p E.int) (P.var 1 (pv 1)))) (E.p E.int)) A.nil)) rfl (fun h => pe_call ok_l_taken (hr.mono le_l_taken) (by rfl) tx.m_l_taken tx.f_l_taken.kp tx.b_l_taken .nil pass0 h))) (P.var 1 (pv 1)))))
abbrev wt1_l_gcd  : ST := (tV (sOp neO (varP 1) (cE (.int 0))))
abbrev ws2_l_gcd  : SS := (parS 0 1 (consA (varE 1) (consA (sOp modO (callE (call1 toIntO) (consA (varP 0) nilA)) (varP 1)) nilA)))
abbrev sem_l_gcd  : SS := (seqS (parS 0 1 (consA (callE (call1 absO) (consA (varP 0) nilA)) (consA (callE (call1 absO) (consA (varP 1) nilA)) nilA)))
    (seqS (whS (wt1_l_gcd) (ws2_l_gcd))
    (retS (varE 0))))
theorem walk_l_gcd (tx : Tx K mg)  (cdv : Value) (Ar : Around) (outer : List PySem.Env) (s : Shared) (H : Hp) (Xk : XK) (hr : Room k (Ar.deeper (envOfC "_law_gcd" (defScope s_l_gcd) s.heap.objs.size tx.a_l_gcd cdv))) :
    Ss (bodyX Pg w K mg base ["_law_one", "_law_other"] "_law_gcd" (defScope s_l_gcd) tx.a_l_gcd cdv Ar outer s H Xk) (defBody s_l_gcd) (sem_l_gcd ) :=
  (Ss.cons (S.parN (A.cons (E.callBN abs_s (call1_mono absO_mono) (Ap.cons (P.var 0 (pv 0)) Ap.nil) (fun h => pe_callB call_abs (by rfl) tx.z_abs bt_abs h)) (A.cons (E.callBN abs_s (call1_mono absO_mono) (Ap.cons (P.var 1 (pv 1)) Ap.nil) (fun h => pe_callB call_abs (by rfl) tx.z_abs bt_abs h)) A.nil)) (fun h => ps_par rfl sc_l_gcd.nd rfl rfl (by decide) rfl rfl h (by rfl)))
    (Ss.cons (S.whN (T.ne hr.units (P.var 1 (pv 1)) (E.p E.int)) (Ss.one (S.parN (A.cons (E.var 1 (pv 1)) (A.cons (E.mod (E.p (E.callBN toInt_s (call1_mono toIntO_mono) (Ap.cons (P.var 0 (pv 0)) Ap.nil) (fun h => pe_callTy call_int1 (by rfl) tx.z_int bt_int h))) (P.var 1 (pv 1))) A.nil)) (fun h => ps_par rfl sc_l_gcd.nd rfl rfl (by decide) rfl rfl h (by rfl)))) (fun h1 h2 => ps_while PassesOwn.never h1 h2))
    (Ss.one (S.ret (E.var 0 (pv 0))))))
abbrev ct1_l_alike (g_l_alike : OC) : ST := (notT (tV (callE g_l_alike (consA (sOp ixO (varP 0) (varP 2)) (consA (sOp ixO (varP 1) (varP 2)) nilA)))))
abbrev ce2_l_alike (g_l_alike : OC) : SE := (varE 2)
abbrev sem_l_alike (g_l_alike : OC) : SS := (seqS (ifS (tV (callE isiO (consA (varP 1) (consA (tupE (consA (cE (.ty .tuple)) (consA (cE (.ty .list)) nilA))) nilA)))) (seqS (ifS (orT (notT (tV (callE isiO (consA (varP 0) (consA (tupE (consA (cE (.ty .tuple)) (consA (cE (.ty .list)) nilA))) nilA))))) (tV (sOp neO (callE isiO (consA (varP 0) (consA (cE (.ty .list)) nilA))) (callE isiO (consA (varP 1) (consA (cE (.ty .list)) nilA)))))) (retS (cE (.bl false))) nextS)
    (seqS (ifS (tV (sOp neO (callE (call1 lenO) (consA (varP 0) nilA)) (callE (call1 lenO) (consA (varP 1) nilA)))) (retS (cE (.bl false))) nextS)
    (retS (sOp eqO (fun ρ Q => (lcA (rng1A (consA (callE (call1 lenO) (consA (varP 1) nilA)) nilA)) (gVar 2) (ct1_l_alike g_l_alike) (ce2_l_alike g_l_alike) [2]) ρ fun ds => Q (.lst ds)) (fun ρ Q => (lstF nilA) ρ fun ds => Q (.lst ds)))))) nextS)
    (seqS (ifS (orT (tV (sOp isO (varP 1) (cE .non))) (tV (callE isiO (consA (varP 1) (consA (cE (.ty .str)) nilA))))) (retS (vB (andT (tV (sOp eqO (varP 0) (varP 1))) (tV (sOp eqO (callE isiO (consA (varP 0) (consA (cE (.ty .str)) nilA))) (callE isiO (consA (varP 1) (consA (cE (.ty .str)) nilA)))))))) nextS)
    (retS (vB (andT (tV (callE isiO (consA (varP 0) (consA (cE (.ty .int)) nilA)))) (andT (tV (sOp eqO (callE isiO (consA (varP 0) (consA (cE (.ty .bool)) nilA))) (callE isiO (consA (varP 1) (consA (cE (.ty .bool)) nilA))))) (tV (sOp eqO (varP 0) (varP 1)))))))))
theorem walk_l_alike (tx : Tx K mg) {g_l_alike : OC} {k_l_alike : Nat} (mo_l_alike : MonoC g_l_alike) (ok_l_alike : FnOk Pg w K mg base CX0 k_l_alike tx.a_l_alike tx.d_l_alike ["_law_found", "_law_due"] (spOf K 2 g_l_alike)) (le_l_alike : k_l_alike ≤ k) (cdv : Value) (Ar : Around) (outer : List PySem.Env) (s : Shared) (H : Hp) (Xk : XK) (hr : Room k (Ar.deeper (envOfC "_law_alike" (defScope s_l_alike) s.heap.objs.size tx.a_l_alike cdv))) :
    Ss (bodyX Pg w K mg base ["_law_found", "_law_due", "_law_k"] "_law_alike" (defScope s_l_alike) tx.a_l_alike cdv Ar outer s H Xk) (defBody s_l_alike) (sem_l_alike g_l_alike) :=
  (Ss.cons (S.ifs (T.val (E.callBN isi_s isiO_mono (Ap.cons (P.var 1 (pv 1)) (Ap.cons (E.p (E.tup (A.cons (E.tyv (t := .tuple) (by rfl) tx.z_tuple bt_tuple) (A.cons (E.tyv (t := .list) (by rfl) tx.z_list bt_list) A.nil)))) Ap.nil)) (fun h => pe_callB call_isiA (by rfl) tx.z_isinstance bt_isinstance h))) (Ss.cons (S.ifs (Tw.t (Tw.or (T.not (T.val (E.callBN isi_s isiO_mono (Ap.cons (P.var 0 (pv 0)) (Ap.cons (E.p (E.tup (A.cons (E.tyv (t := .tuple) (by rfl) tx.z_tuple bt_tuple) (A.cons (E.tyv (t := .list) (by rfl) tx.z_list bt_list) A.nil)))) Ap.nil)) (fun h => pe_callB call_isiA (by rfl) tx.z_isinstance bt_isinstance h)))) (Tw.or1 (T.ne hr.units (E.p (E.callBN isi_s isiO_mono (Ap.cons (P.var 0 (pv 0)) (Ap.cons (E.p (E.tyv (t := .list) (by rfl) tx.z_list bt_list)) Ap.nil)) (fun h => pe_callB call_isiA (by rfl) tx.z_isinstance bt_isinstance h))) (E.p (E.callBN isi_s isiO_mono (Ap.cons (P.var 1 (pv 1)) (Ap.cons (E.p (E.tyv (t := .list) (by rfl) tx.z_list bt_list)) Ap.nil)) (fun h => pe_callB call_isiA (by rfl) tx.z_isinstance bt_isinstance h))))))) (Ss.one (S.ret E.bl)) Ss.nil)
    (Ss.cons (S.ifs (T.ne hr.units (E.p (E.callBN len_s (call1_mono lenO_mono) (Ap.cons (P.var 0 (pv 0)) Ap.nil) (fun h => pe_callB (CallR.or call_len_seq call_len_str) (by rfl) tx.z_len bt_len h))) (E.p (E.callBN len_s (call1_mono lenO_mono) (Ap.cons (P.var 1 (pv 1)) Ap.nil) (fun h => pe_callB (CallR.or call_len_seq call_len_str) (by rfl) tx.z_len bt_len h)))) (Ss.one (S.ret E.bl)) Ss.nil)
    (Ss.one (S.ret (E.eq hr.units (E.p (E.ofF (F.lc rfl sc_l_alike.nd (own := [("_law_k", 2)]) (blkOk_by (by kernel_rfl)) (by decide) (I.toG (I.r1 (Ap.cons (E.p (E.callBN len_s (call1_mono lenO_mono) (Ap.cons (P.var 1 (pv 1)) Ap.nil) (fun h => pe_callB (CallR.or call_len_seq call_len_str) (by rfl) tx.z_len bt_len h))) Ap.nil) (fun h => pi_range1 (by rfl) tx.z_range h))) (fun _ _ _ _ _ => (G.var (pg_name (i := 2) sc_l_alike.nd rfl (by first | exact Or.inl rfl | exact Or.inr rfl)))) (fun _ _ _ _ _ => (Tl.one (T.not (T.val (E.call mo_l_alike (A.cons (E.ix (P.var 0 (pv 0)) (P.var 2 (pv 2)) (fun _ _ => rfl)) (A.cons (E.ix (P.var 1 (pv 1)) (P.var 2 (pv 2)) (fun _ _ => rfl)) A.nil)) rfl (fun h => pe_call ok_l_alike (hr.mono le_l_alike) (by rfl) tx.m_l_alike tx.f_l_alike.kp tx.b_l_alike .nil pass0 h)))))) (fun _ _ _ _ _ => (E.var 2 (pv 2)))))) (E.p (E.ofF (F.lst A.nil)))))))) Ss.nil)
    (Ss.cons (S.ifs (Tw.t (Tw.or (T.is (P.var 1 (pv 1)) (E.p E.non)) (Tw.or1 (T.val (E.callBN isi_s isiO_mono (Ap.cons (P.var 1 (pv 1)) (Ap.cons (E.p (E.tyv (t := .str) (by rfl) tx.z_str bt_str)) Ap.nil)) (fun h => pe_callB call_isiA (by rfl) tx.z_isinstance bt_isinstance h)))))) (Ss.one (S.ret (B.val (B.and (B.of (E.eq hr.units (P.var 0 (pv 0)) (P.var 1 (pv 1)))) (B.one (B.of (E.eq hr.units (E.p (E.callBN isi_s isiO_mono (Ap.cons (P.var 0 (pv 0)) (Ap.cons (E.p (E.tyv (t := .str) (by rfl) tx.z_str bt_str)) Ap.nil)) (fun h => pe_callB call_isiA (by rfl) tx.z_isinstance bt_isinstance h))) (E.p (E.callBN isi_s isiO_mono (Ap.cons (P.var 1 (pv 1)) (Ap.cons (E.p (E.tyv (t := .str) (by rfl) tx.z_str bt_str)) Ap.nil)) (fun h => pe_callB call_isiA (by rfl) tx.z_isinstance bt_isinstance h)))))))))) Ss.nil)
    (Ss.one (S.ret (B.val (B.and (B.of (E.callBN isi_s isiO_mono (Ap.cons (P.var 0 (pv 0)) (Ap.cons (E.p (E.tyv (t := .int) (by rfl) tx.z_int bt_int)) Ap.nil)) (fun h => pe_callB call_isiA (by rfl) tx.z_isinstance bt_isinstance h))) (B.and (B.of (E.eq hr.units (E.p (E.callBN isi_s isiO_mono (Ap.cons (P.var 0 (pv 0)) (Ap.cons (E.p (E.tyv (t := .bool) (by rfl) tx.z_bool bt_bool)) Ap.nil)) (fun h => pe_callB call_isiA (by rfl) tx.z_isinstance bt_isinstance h))) (E.p (E.callBN isi_s isiO_mono (Ap.cons (P.var 1 (pv 1)) (Ap.cons (E.p (E.tyv (t := .bool) (by rfl) tx.z_bool bt_bool)) Ap.nil)) (fun h => pe_callB call_isiA (by rfl) tx.z_isinstance bt_isinstance h))))) (B.one (B.of (E.eq hr.units (P.var 0 (pv 0)) (P.var 1 (pv 1))))))))))))
abbrev ce1_l_least_sums  : SE := (sOp addO (callE min2O (consA (cE (.int 0)) (consA (sOp ixO (varP 0) (varP 6)) nilA))) (callE min2O (consA (cE (.int 0)) (consA (sOp ixO (varP 1) (varP 6)) nilA))))
abbrev ce2_l_least_sums  : SE := (sOp addO (callE max2O (consA (cE (.int 0)) (consA (sOp ixO (varP 0) (varP 6)) nilA))) (callE max2O (consA (cE (.int 0)) (consA (sOp ixO (varP 1) (varP 6)) nilA))))
abbrev fb3_l_least_sums  : SS := (seqS (asgS (tupE (consA (sOp mulT (varP 3) (sOp subO (sOp mulT (varP 8) (sOp ixO (varP 1) (cE (.int 1)))) (sOp mulT (varP 9) (sOp ixO (varP 1) (cE (.int 0)))))) (consA (sOp mulT (varP 3) (sOp subO (sOp mulT (sOp ixO (varP 0) (cE (.int 0))) (varP 9)) (sOp mulT (sOp ixO (varP 0) (cE (.int 1))) (varP 8)))) nilA))) (gTupS (gConsS (gVar 10) (gConsS (gVar 11) gNilS))))
    (ifS (andT (chT leO leO (cE (.int 0)) (varP 10) (callE (call1 absO) (consA (varP 2) nilA))) (andT (chT leO leO (cE (.int 0)) (varP 11) (callE (call1 absO) (consA (varP 2) nilA))) (tV (sOp neO (tupE (consA (varE 8) (consA (varE 9) nilA))) (tupE (consA (cE (.int 0)) (consA (cE (.int 0)) nilA))))))) (appS 4 (tupE (consA (varE 10) (consA (varE 11) (consA (tupE (consA (varE 8) (consA (varE 9) nilA))) nilA))))) nextS))
abbrev fb4_l_least_sums  : SS := (forS (rng2A (consA (sOp ixO (varP 5) (cE (.int 1))) (consA (sOp addO (sOp ixO (varP 7) (cE (.int 1))) (cE (.int 1))) nilA))) (gVar 9) (fb3_l_least_sums))
abbrev ct5_l_least_sums  : ST := (andT (tV (sOp leO (varP 15) (varP 10))) (andT (tV (sOp leO (varP 16) (varP 11))) (tV (sOp neO (varP 17) (varP 13)))))
abbrev ce6_l_least_sums  : SE := (varE 17)
abbrev fb7_l_least_sums  : SS := (seqS (setS 14 (fun ρ Q => (lcA (seqI (varP 4)) (gTupS (gConsS (gVar 15) (gConsS (gVar 16) (gConsS (gVar 17) gNilS)))) (ct5_l_least_sums) (ce6_l_least_sums) [15, 16, 17]) ρ fun ds => Q (.lst ds)))
    (setS 12 (sOp addO (varP 12) (ifE (tV (sOp eqO (varP 14) (fun ρ Q => (lstF nilA) ρ fun ds => Q (.lst ds)))) (fun ρ Q => (lstF (consA (tupE (consA (varE 11) (consA (varE 13) nilA))) nilA)) ρ fun ds => Q (.lst ds)) (fun ρ Q => (lstF nilA) ρ fun ds => Q (.lst ds))))))
abbrev ce8_l_least_sums  : SE := (varE 13)
abbrev sem_l_least_sums  : SS := (seqS (setS 2 (sOp subO (sOp mulT (sOp ixO (varP 0) (cE (.int 0))) (sOp ixO (varP 1) (cE (.int 1)))) (sOp mulT (sOp ixO (varP 0) (cE (.int 1))) (sOp ixO (varP 1) (cE (.int 0))))))
    (seqS (parM [3, 4] (consM (shM (ifE (tV (sOp gtO (varP 2) (cE (.int 0)))) (cE (.int 1)) (sUn negO (cE (.int 1))))) (consM (ownM (lstF nilA)) nilM)))
    (seqS (setS 5 (fun ρ Q => (lcA (rng1A (consA (cE (.int 2)) nilA)) (gVar 6) yesT (ce1_l_least_sums) [6]) ρ fun ds => Q (.lst ds)))
    (seqS (setS 7 (fun ρ Q => (lcA (rng1A (consA (cE (.int 2)) nilA)) (gVar 6) yesT (ce2_l_least_sums) [6]) ρ fun ds => Q (.lst ds)))
    (seqS (forS (rng2A (consA (sOp ixO (varP 5) (cE (.int 0))) (consA (sOp addO (sOp ixO (varP 7) (cE (.int 0))) (cE (.int 1))) nilA))) (gVar 8) (fb4_l_least_sums))
    (seqS (setS 12 (fun ρ Q => (lstF nilA) ρ fun ds => Q (.lst ds)))
    (seqS (frzS 4 (forS (seqI (varE 4)) (gTupS (gConsS (gVar 10) (gConsS (gVar 11) (gConsS (gVar 13) gNilS)))) (fb7_l_least_sums)))
    (retS (fun ρ Q => (lcA (seqI (fun ρ Q => (callF sortXF (consA (varP 12) nilA)) ρ fun ds => Q (.lst ds))) (gTupS (gConsS (gVar 11) (gConsS (gVar 13) gNilS))) yesT (ce8_l_least_sums) [11, 13]) ρ fun ds => Q (.lst ds))))))))))
theorem walk_l_least_sums (tx : Tx K mg)  (cdv : Value) (Ar : Around) (outer : List PySem.Env) (s : Shared) (H : Hp) (Xk : XK) (hr : Room k (Ar.deeper (envOfC "_law_least_sums" (defScope s_l_least_sums) s.heap.objs.size tx.a_l_least_sums cdv))) :
    Ss (bodyX Pg w K mg base ["_law_one", "_law_other", "_law_whole", "_law_side", "_law_points", "_law_low", "_law_k", "_law_high", "_law_x", "_law_y", "_law_first", "_law_second", "_law_found", "_law_p", "_law_parts", "_law_a", "_law_b", "_law_q"] "_law_least_sums" (defScope s_l_least_sums) tx.a_l_least_sums cdv Ar outer s H Xk) (defBody s_l_least_sums) (sem_l_least_sums ) :=
  (Ss.cons (S.setN (E.sub (E.p (E.mulT (E.p (E.ix (P.var 0 (pv 0)) (E.p E.int) (fun _ _ => rfl))) (E.p (E.ix (P.var 1 (pv 1)) (E.p E.int) (fun _ _ => rfl))))) (E.p (E.mulT (E.p (E.ix (P.var 0 (pv 0)) (E.p E.int) (fun _ _ => rfl))) (E.p (E.ix (P.var 1 (pv 1)) (E.p E.int) (fun _ _ => rfl)))))) (fun h => ps_asg h (pg_name (i := 2) sc_l_least_sums.nd rfl (by first | exact Or.inl rfl | exact Or.inr rfl))))
    (Ss.cons (S.pm2 (Ms.cons (M1.sh (E.ifx (T.gt (P.var 2 (pv 2)) (E.p E.int)) E.int (E.neg (E.p E.int)))) (Ms.cons (M1.own (F.lst A.nil)) Ms.nil)) (fun h => ps_par rfl sc_l_least_sums.nd rfl rfl (by decide) rfl rfl h (by rfl)))
    (Ss.cons (S.lc (i := 5) (own := [("_law_k", 6)]) rfl sc_l_least_sums.nd rfl rfl (sw_true rfl rfl rfl (by decide +kernel)) (blkOk_by (by kernel_rfl)) (by decide) (I.toG (I.r1 (Ap.cons (E.p E.int) Ap.nil) (fun h => pi_range1 (by rfl) tx.z_range h))) (fun _ _ _ _ _ => (G.var (pg_name (i := 6) sc_l_least_sums.nd rfl (by first | exact Or.inl rfl | exact Or.inr rfl)))) (fun _ _ _ _ _ => Tl.nil) (fun _ _ _ _ _ => (E.add (E.p (E.callBN min2_s min2O_mono (Ap.cons (E.p E.int) (Ap.cons (E.p (E.ix (P.var 0 (pv 0)) (P.var 6 (pv 6)) (fun _ _ => rfl))) Ap.nil)) (fun h => pe_callB (call_min2 rfl) (by rfl) tx.z_min bt_min h))) (E.p (E.callBN min2_s min2O_mono (Ap.cons (E.p E.int) (Ap.cons (E.p (E.ix (P.var 1 (pv 1)) (P.var 6 (pv 6)) (fun _ _ => rfl))) Ap.nil)) (fun h => pe_callB (call_min2 rfl) (by rfl) tx.z_min bt_min h))))))
    (Ss.cons (S.lc (i := 7) (own := [("_law_k", 6)]) rfl sc_l_least_sums.nd rfl rfl (sw_true rfl rfl rfl (by decide +kernel)) (blkOk_by (by kernel_rfl)) (by decide) (I.toG (I.r1 (Ap.cons (E.p E.int) Ap.nil) (fun h => pi_range1 (by rfl) tx.z_range h))) (fun _ _ _ _ _ => (G.var (pg_name (i := 6) sc_l_least_sums.nd rfl (by first | exact Or.inl rfl | exact Or.inr rfl)))) (fun _ _ _ _ _ => Tl.nil) (fun _ _ _ _ _ => (E.add (E.p (E.callBN max2_s max2O_mono (Ap.cons (E.p E.int) (Ap.cons (E.p (E.ix (P.var 0 (pv 0)) (P.var 6 (pv 6)) (fun _ _ => rfl))) Ap.nil)) (fun h => pe_callB (call_max2 rfl) (by rfl) tx.z_max bt_max h))) (E.p (E.callBN max2_s max2O_mono (Ap.cons (E.p E.int) (Ap.cons (E.p (E.ix (P.var 1 (pv 1)) (P.var 6 (pv 6)) (fun _ _ => rfl))) Ap.nil)) (fun h => pe_callB (call_max2 rfl) (by rfl) tx.z_max bt_max h))))))
    (Ss.cons (S.forN (I.r2 (Ap.cons (E.p (E.ix (P.var 5 (pv 5)) (E.p E.int) (fun _ _ => rfl))) (Ap.cons (E.p (E.add (E.p (E.ix (P.var 7 (pv 7)) (E.p E.int) (fun _ _ => rfl))) (E.p E.int))) Ap.nil)) (fun h => pi_range2 (by rfl) tx.z_range h)) (G.var (pg_name (i := 8) sc_l_least_sums.nd rfl (by first | exact Or.inl rfl | exact Or.inr rfl))) (Ss.one (S.forN (I.r2 (Ap.cons (E.p (E.ix (P.var 5 (pv 5)) (E.p E.int) (fun _ _ => rfl))) (Ap.cons (E.p (E.add (E.p (E.ix (P.var 7 (pv 7)) (E.p E.int) (fun _ _ => rfl))) (E.p E.int))) Ap.nil)) (fun h => pi_range2 (by rfl) tx.z_range h)) (G.var (pg_name (i := 9) sc_l_least_sums.nd rfl (by first | exact Or.inl rfl | exact Or.inr rfl))) (Ss.cons (S.asgN (E.tup (A.cons (E.mulT (P.var 3 (pv 3)) (E.p (E.sub (E.p (E.mulT (P.var 8 (pv 8)) (E.p (E.ix (P.var 1 (pv 1)) (E.p E.int) (fun _ _ => rfl))))) (E.p (E.mulT (P.var 9 (pv 9)) (E.p (E.ix (P.var 1 (pv 1)) (E.p E.int) (fun _ _ => rfl)))))))) (A.cons (E.mulT (P.var 3 (pv 3)) (E.p (E.sub (E.p (E.mulT (E.p (E.ix (P.var 0 (pv 0)) (E.p E.int) (fun _ _ => rfl))) (P.var 9 (pv 9)))) (E.p (E.mulT (E.p (E.ix (P.var 0 (pv 0)) (E.p E.int) (fun _ _ => rfl))) (P.var 8 (pv 8))))))) A.nil))) (G.t (gn_var (gn_var gn_nil)) (Gs.cn (G.var (pg_name (i := 10) sc_l_least_sums.nd rfl (by first | exact Or.inl rfl | exact Or.inr rfl))) (Gs.cn (G.var (pg_name (i := 11) sc_l_least_sums.nd rfl (by first | exact Or.inl rfl | exact Or.inr rfl))) Gs.nil (fun h1 h2 => pgs_cons h1 h2)) (fun h1 h2 => pgs_cons h1 h2)) (fun h => pg_tup rfl h)) (fun h1 h2 => ps_asg h1 h2))
    (Ss.one (S.ifs (Tw.t (Tw.and (T.ch op_le op_le le_s le_s int0_mono int0_mono (E.p E.int) (P.var 10 (pv 10)) (E.p (E.callBN abs_s (call1_mono absO_mono) (Ap.cons (P.var 2 (pv 2)) Ap.nil) (fun h => pe_callB call_abs (by rfl) tx.z_abs bt_abs h)))) (Tw.and (T.ch op_le op_le le_s le_s int0_mono int0_mono (E.p E.int) (P.var 11 (pv 11)) (E.p (E.callBN abs_s (call1_mono absO_mono) (Ap.cons (P.var 2 (pv 2)) Ap.nil) (fun h => pe_callB call_abs (by rfl) tx.z_abs bt_abs h)))) (Tw.and1 (T.ne hr.units (E.p (E.tup (A.cons (E.var 8 (pv 8)) (A.cons (E.var 9 (pv 9)) A.nil)))) (E.p (E.tup (A.cons E.int (A.cons E.int A.nil))))))))) (Ss.one (S.appN (E.tup (A.cons (E.var 10 (pv 10)) (A.cons (E.var 11 (pv 11)) (A.cons (E.tup (A.cons (E.var 8 (pv 8)) (A.cons (E.var 9 (pv 9)) A.nil))) A.nil)))) (fun h => ps_expr (pe_bm PySem.F.plainAttrs_list PySem.F.slot_list_append PySem.F.type_list_append mt_append (pv 4) (pa_cons h pa_nil))))) Ss.nil))) (fun h1 h2 h3 => ps_for PassesOwn.never rfl h1 h2 h3))) (fun h1 h2 h3 => ps_for PassesOwn.never rfl h1 h2 h3))
    (Ss.cons (S.setN (E.ofF (F.lst A.nil)) (fun h => ps_asg h (pg_name (i := 12) sc_l_least_sums.nd rfl (by first | exact Or.inl rfl | exact Or.inr rfl))))
    (Ss.cons (S.frz 4 (S.forN (I.seq (E.var 4 (pv 4))) (G.t (gn_var (gn_var (gn_var gn_nil))) (Gs.cn (G.var (pg_name (i := 10) sc_l_least_sums.nd rfl (by first | exact Or.inl rfl | exact Or.inr rfl))) (Gs.cn (G.var (pg_name (i := 11) sc_l_least_sums.nd rfl (by first | exact Or.inl rfl | exact Or.inr rfl))) (Gs.cn (G.var (pg_name (i := 13) sc_l_least_sums.nd rfl (by first | exact Or.inl rfl | exact Or.inr rfl))) Gs.nil (fun h1 h2 => pgs_cons h1 h2)) (fun h1 h2 => pgs_cons h1 h2)) (fun h1 h2 => pgs_cons h1 h2)) (fun h => pg_tup rfl h)) (Ss.cons (S.lc (i := 14) (own := [("_law_a", 15), ("_law_b", 16), ("_law_q", 17)]) rfl sc_l_least_sums.nd rfl rfl (sw_true rfl rfl rfl (by decide +kernel)) (blkOk_by (by kernel_rfl)) (by decide) (Ig.seq (P.var 4 (pv 4))) (fun _ _ _ _ _ => (G.t (gn_var (gn_var (gn_var gn_nil))) (Gs.cn (G.var (pg_name (i := 15) sc_l_least_sums.nd rfl (by first | exact Or.inl rfl | exact Or.inr rfl))) (Gs.cn (G.var (pg_name (i := 16) sc_l_least_sums.nd rfl (by first | exact Or.inl rfl | exact Or.inr rfl))) (Gs.cn (G.var (pg_name (i := 17) sc_l_least_sums.nd rfl (by first | exact Or.inl rfl | exact Or.inr rfl))) Gs.nil (fun h1 h2 => pgs_cons h1 h2)) (fun h1 h2 => pgs_cons h1 h2)) (fun h1 h2 => pgs_cons h1 h2)) (fun h => pg_tup rfl h))) (fun _ _ _ _ _ => (Tl.one (Tw.t (Tw.and (T.le (P.var 15 (pv 15)) (P.var 10 (pv 10))) (Tw.and (T.le (P.var 16 (pv 16)) (P.var 11 (pv 11))) (Tw.and1 (T.ne hr.units (P.var 17 (pv 17)) (P.var 13 (pv 13))))))))) (fun _ _ _ _ _ => (E.var 17 (pv 17))))
    (Ss.one (S.setN (E.add (P.var 12 (pv 12)) (E.p (E.ifx (T.eq hr.units (P.var 14 (pv 14)) (E.p (E.ofF (F.lst A.nil)))) (E.ofF (F.lst (A.cons (E.tup (A.cons (E.var 11 (pv 11)) (A.cons (E.var 13 (pv 13)) A.nil))) A.nil))) (E.ofF (F.lst A.nil))))) (fun h => ps_asg h (pg_name (i := 12) sc_l_least_sums.nd rfl (by first | exact Or.inl rfl | exact Or.inr rfl)))))) (fun h1 h2 h3 => ps_for PassesOwn.never rfl h1 h2 h3)))
    (Ss.one (S.ret (E.ofF (F.lc rfl sc_l_least_sums.nd (own := [("_law_second", 11), ("_law_p", 13)]) (blkOk_by (by kernel_rfl)) (by decide) (Ig.seq (E.p (E.ofF (F.callBN sortX_s sortXF_mono (Ap.cons (P.var 12 (pv 12)) Ap.nil) (fun h => pe_callB (cr_sortX (u100 hr)) (by rfl) tx.z_sorted bt_sorted h))))) (fun _ _ _ _ _ => (G.t (gn_var (gn_var gn_nil)) (Gs.cn (G.var (pg_name (i := 11) sc_l_least_sums.nd rfl (by first | exact Or.inl rfl | exact Or.inr rfl))) (Gs.cn (G.var (pg_name (i := 13) sc_l_least_sums.nd rfl (by first | exact Or.inl rfl | exact Or.inr rfl))) Gs.nil (fun h1 h2 => pgs_cons h1 h2)) (fun h1 h2 => pgs_cons h1 h2)) (fun h => pg_tup rfl h))) (fun _ _ _ _ _ => Tl.nil) (fun _ _ _ _ _ => (E.var 13 (pv 13))))))))))))))
abbrev fb1_law (g_l_pick : OC) (g_l_signed : OC) (g_l_gcd : OC) (g_l_taken : OC) (g_least_sums : OC) (g_l_least_sums : OC) (g_l_alike : OC) (g_sail : OC) (g_from_steps : OC) : SS := (seqS (parS 5 6 (consA (callE g_l_signed (consA (varE 1) (consA (varE 2) nilA))) (consA (callE g_l_signed (consA (varE 1) (consA (varE 2) nilA))) nilA)))
    (seqS (setS 7 (callE g_l_gcd (consA (varE 5) (consA (varE 6) nilA))))
    (appS 3 (ifE (tV (sOp gtO (varP 7) (cE (.int 0)))) (tupE (consA (sOp fdivO (varP 5) (varP 7)) (consA (sOp fdivO (varP 6) (varP 7)) nilA))) (tupE (consA (cE (.int 1)) (consA (varE 4) nilA)))))))
abbrev ce2_law (g_l_pick : OC) (g_l_signed : OC) (g_l_gcd : OC) (g_l_taken : OC) (g_least_sums : OC) (g_l_least_sums : OC) (g_l_alike : OC) (g_sail : OC) (g_from_steps : OC) : SE := (sOp addO (sOp ixO (sOp ixO (varP 11) (sOp subO (varP 13) (cE (.int 1)))) (varP 15)) (sOp ixO (sOp ixO (varP 11) (sOp addO (varP 13) (cE (.int 1)))) (varP 15)))
abbrev ce3_law (g_l_pick : OC) (g_l_signed : OC) (g_l_gcd : OC) (g_l_taken : OC) (g_least_sums : OC) (g_l_least_sums : OC) (g_l_alike : OC) (g_sail : OC) (g_from_steps : OC) : SE := (sOp mulT (varP 17) (sOp ixO (sOp ixO (varP 11) (varP 13)) (varP 15)))
abbrev fb4_law (g_l_pick : OC) (g_l_signed : OC) (g_l_gcd : OC) (g_l_taken : OC) (g_least_sums : OC) (g_l_least_sums : OC) (g_l_alike : OC) (g_sail : OC) (g_from_steps : OC) : SS := (seqS (ifS (tV (sOp neO (callE (call1 absO) (consA (sOp subO (sOp mulT (sOp ixO (sOp ixO (varP 11) (sOp subO (varP 13) (cE (.int 1)))) (cE (.int 0))) (sOp ixO (sOp ixO (varP 11) (varP 13)) (cE (.int 1)))) (sOp mulT (sOp ixO (sOp ixO (varP 11) (sOp subO (varP 13) (cE (.int 1)))) (cE (.int 1))) (sOp ixO (sOp ixO (varP 11) (varP 13)) (cE (.int 0))))) nilA)) (cE (.int 1)))) (retS (cE (.bl false))) nextS)
    (ifS (tV (sOp ltO (sOp addO (varP 13) (cE (.int 1))) (callE (call1 lenO) (consA (varP 11) nilA)))) (seqS (setS 14 (fun ρ Q => (lcA (rng1A (consA (cE (.int 2)) nilA)) (gVar 15) yesT (ce2_law g_l_pick g_l_signed g_l_gcd g_l_taken g_least_sums g_l_least_sums g_l_alike g_sail g_from_steps) [15]) ρ fun ds => Q (.lst ds)))
    (seqS (setS 16 (ifE (tV (sOp neO (sOp ixO (sOp ixO (varP 11) (varP 13)) (cE (.int 0))) (cE (.int 0)))) (cE (.int 0)) (cE (.int 1))))
    (seqS (setS 17 (sOp fdivO (sOp ixO (varP 14) (varP 16)) (sOp ixO (sOp ixO (varP 11) (varP 13)) (varP 16))))
    (seqS (ifS (orT (tV (sOp ltO (varP 17) (cE (.int 2)))) (tV (sOp neO (varP 14) (fun ρ Q => (lcA (rng1A (consA (cE (.int 2)) nilA)) (gVar 15) yesT (ce3_law g_l_pick g_l_signed g_l_gcd g_l_taken g_least_sums g_l_least_sums g_l_alike g_sail g_from_steps) [15]) ρ fun ds => Q (.lst ds))))) (retS (cE (.bl false))) nextS)
    (appS 12 (varE 17)))))) nextS))
abbrev ct5_law (g_l_pick : OC) (g_l_signed : OC) (g_l_gcd : OC) (g_l_taken : OC) (g_least_sums : OC) (g_l_least_sums : OC) (g_l_alike : OC) (g_sail : OC) (g_from_steps : OC) : ST := (orT (tV (sOp inO (varP 13) (fun ρ Q => (lstF (consA (cE (.int 0)) (consA (sOp subO (callE (call1 lenO) (consA (varP 11) nilA)) (cE (.int 1))) nilA))) ρ fun ds => Q (.lst ds)))) (tV (sOp gtO (sOp ixO (varP 12) (sOp subO (varP 13) (cE (.int 1)))) (cE (.int 2)))))
abbrev ce6_law (g_l_pick : OC) (g_l_signed : OC) (g_l_gcd : OC) (g_l_taken : OC) (g_least_sums : OC) (g_l_least_sums : OC) (g_l_alike : OC) (g_sail : OC) (g_from_steps : OC) : SE := (sOp ixO (varP 11) (varP 13))
abbrev sem_law (g_l_pick : OC) (g_l_signed : OC) (g_l_gcd : OC) (g_l_taken : OC) (g_least_sums : OC) (g_l_least_sums : OC) (g_l_alike : OC) (g_sail : OC) (g_from_steps : OC) : SS := (seqS (setS 2 (callE g_l_pick (consA (varE 1) (consA (fun ρ Q => (lstF (consA (cE (.int 2)) (consA (cE (.int 4)) (consA (cE (.int 9)) nilA)))) ρ fun ds => Q (.lst ds)) nilA))))
    (seqS (Z0.setO 3 (lstF nilA))
    (seqS (forS (rng1A (consA (cE (.int 2)) nilA)) (gVar 4) (fb1_law g_l_pick g_l_signed g_l_gcd g_l_taken g_least_sums g_l_least_sums g_l_alike g_sail g_from_steps))
    (seqS (frzS 3 (asgS (varE 3) (gTupB (gConsS (gVar 8) (gConsS (gVar 9) gNilS)))))
    (seqS (setS 10 (sOp subO (sOp mulT (sOp ixO (varP 8) (cE (.int 0))) (sOp ixO (varP 9) (cE (.int 1)))) (sOp mulT (sOp ixO (varP 8) (cE (.int 1))) (sOp ixO (varP 9) (cE (.int 0))))))
    (seqS (ifS (tV (sOp eqO (varP 10) (cE (.int 0)))) (seqS (parS 8 9 (consA (tupE (consA (cE (.int 1)) (consA (cE (.int 0)) nilA))) (consA (tupE (consA (sOp addO (sOp mulT (callE g_l_taken (consA (varE 1) (consA (cE (.int 9)) nilA))) (cE (.int 2))) (cE (.int 1))) (consA (cE (.int 2)) nilA))) nilA)))
    (setS 10 (cE (.int 2)))) nextS)
    (seqS (setS 11 (callE g_least_sums (consA (varE 8) (consA (varE 9) nilA))))
    (seqS (ifS (orT (notT (tV (callE g_l_alike (consA (varE 11) (consA (callE (call1 tupleO) (consA (callE g_l_least_sums (consA (varE 8) (consA (varE 9) nilA))) nilA)) nilA))))) (orT (tV (sOp neO (sOp ixO (varP 11) (cE (.int 0))) (varP 8))) (tV (sOp neO (sOp ixO (varP 11) (sUn negO (cE (.int 1)))) (varP 9))))) (retS (cE (.bl false))) nextS)
    (seqS (Z0.setO 12 (lstF nilA))
    (seqS (forS (rng2A (consA (cE (.int 1)) (consA (callE (call1 lenO) (consA (varP 11) nilA)) nilA))) (gVar 13) (fb4_law g_l_pick g_l_signed g_l_gcd g_l_taken g_least_sums g_l_least_sums g_l_alike g_sail g_from_steps))
    (seqS (setS 18 (fun ρ Q => (lcA (rng1A (consA (callE (call1 lenO) (consA (varP 11) nilA)) nilA)) (gVar 13) (ct5_law g_l_pick g_l_signed g_l_gcd g_l_taken g_least_sums g_l_least_sums g_l_alike g_sail g_from_steps) (ce6_law g_l_pick g_l_signed g_l_gcd g_l_taken g_least_sums g_l_least_sums g_l_alike g_sail g_from_steps) [13]) ρ fun ds => Q (.lst ds)))
    (seqS (ifS (notT (tV (callE g_l_alike (consA (callE g_sail (consA (varE 8) (consA (varE 9) nilA))) (consA (callE (call1 tupleO) (consA (varP 18) nilA)) nilA))))) (retS (cE (.bl false))) nextS)
    (retS (vB (orT (tV (sOp eqO (varP 12) (fun ρ Q => (lstF nilA) ρ fun ds => Q (.lst ds)))) (tV (sOp eqO (sOp ixO (callE g_from_steps (consA (callE (call1 tupleO) (consA (varP 12) nilA)) nilA)) (cE (.int 0))) (callE (call1 absO) (consA (varP 10) nilA)))))))))))))))))))
theorem walk_law (tx : Tx K mg) {g_l_pick : OC} {k_l_pick : Nat} (mo_l_pick : MonoC g_l_pick) (ok_l_pick : FnOk Pg w K mg base CX0 k_l_pick tx.a_l_pick tx.d_l_pick ["_law_row", "_law_things"] (spOf K 2 g_l_pick)) (le_l_pick : k_l_pick ≤ k) {g_l_signed : OC} {k_l_signed : Nat} (mo_l_signed : MonoC g_l_signed) (ok_l_signed : FnOk Pg w K mg base CX0 k_l_signed tx.a_l_signed tx.d_l_signed ["_law_row", "_law_most"] (spOf K 2 g_l_signed)) (le_l_signed : k_l_signed ≤ k) {g_l_gcd : OC} {k_l_gcd : Nat} (mo_l_gcd : MonoC g_l_gcd) (ok_l_gcd : FnOk Pg w K mg base CX0 k_l_gcd tx.a_l_gcd tx.d_l_gcd ["_law_one", "_law_other"] (spOf K 2 g_l_gcd)) (le_l_gcd : k_l_gcd ≤ k) {g_l_taken : OC} {k_l_taken : Nat} (mo_l_taken : MonoC g_l_taken) (ok_l_taken : FnOk Pg w K mg base CX0 k_l_taken tx.a_l_taken tx.d_l_taken ["_law_row", "_law_many"] (spOf K 2 g_l_taken)) (le_l_taken : k_l_taken ≤ k) {g_least_sums : OC} {k_least_sums : Nat} (mo_least_sums : MonoC g_least_sums) (ok_least_sums : FnOk Pg w K mg base CX0 k_least_sums tx.a_least_sums tx.d_least_sums ["one", "other"] (spOf K 2 g_least_sums)) (le_least_sums : k_least_sums ≤ k) {g_l_least_sums : OC} {k_l_least_sums : Nat} (mo_l_least_sums : MonoC g_l_least_sums) (ok_l_least_sums : FnOk Pg w K mg base CX0 k_l_least_sums tx.a_l_least_sums tx.d_l_least_sums ["_law_one", "_law_other"] (spOf K 2 g_l_least_sums)) (le_l_least_sums : k_l_least_sums ≤ k) {g_l_alike : OC} {k_l_alike : Nat} (mo_l_alike : MonoC g_l_alike) (ok_l_alike : FnOk Pg w K mg base CX0 k_l_alike tx.a_l_alike tx.d_l_alike ["_law_found", "_law_due"] (spOf K 2 g_l_alike)) (le_l_alike : k_l_alike ≤ k) {g_sail : OC} {k_sail : Nat} (mo_sail : MonoC g_sail) (ok_sail : FnOk Pg w K mg base CX0 k_sail tx.a_sail tx.d_sail ["one", "other"] (spOf K 2 g_sail)) (le_sail : k_sail ≤ k) {g_from_steps : OC} {k_from_steps : Nat} (mo_from_steps : MonoC g_from_steps) (ok_from_steps : FnOk Pg w K mg base CX0 k_from_steps tx.a_from_steps tx.d_from_steps ["row"] (spOf K 1 g_from_steps)) (le_from_steps : k_from_steps ≤ k) (cdv : Value) (Ar : Around) (outer : List PySem.Env) (s : Shared) (H : Hp) (Xk : XK) (hr : Room k (Ar.deeper (envOfC "law" (defScope s_law) s.heap.objs.size tx.a_law cdv))) :
    Ss (bodyX Pg w K mg base ["_law_script", "_law_row", "_law_most", "_law_pairs", "_law_turn", "_law_x", "_law_y", "_law_common", "_law_one", "_law_other", "_law_whole", "_law_found", "_law_told", "_law_at", "_law_both", "_law_k", "_law_axis", "_law_factor", "_law_tips"] "law" (defScope s_law) tx.a_law cdv Ar outer s H Xk) (defBody s_law).tail (sem_law g_l_pick g_l_signed g_l_gcd g_l_taken g_least_sums g_l_least_sums g_l_alike g_sail g_from_steps) :=
  (Ss.cons (S.setN (E.call mo_l_pick (A.cons (E.var 1 (pv 1)) (A.cons (E.ofF (F.lst (A.cons E.int (A.cons E.int (A.cons E.int A.nil))))) A.nil)) rfl (fun h => pe_call ok_l_pick (hr.mono le_l_pick) (by rfl) tx.m_l_pick tx.f_l_pick.kp tx.b_l_pick .nil pass0 h)) (fun h => ps_asg h (pg_name (i := 2) sc_law.nd rfl (by first | exact Or.inl rfl | exact Or.inr rfl))))
    (Ss.cons (S.setON (F.lst A.nil) (fun h => ps_asg h (pg_name (i := 3) sc_law.nd rfl (by first | exact Or.inl rfl | exact Or.inr rfl))))
    (Ss.cons (S.forN (I.r1 (Ap.cons (E.p E.int) Ap.nil) (fun h => pi_range1 (by rfl) tx.z_range h)) (G.var (pg_name (i := 4) sc_law.nd rfl (by first | exact Or.inl rfl | exact Or.inr rfl))) (Ss.cons (S.parN (A.cons (E.call mo_l_signed (A.cons (E.var 1 (pv 1)) (A.cons (E.var 2 (pv 2)) A.nil)) rfl (fun h => pe_call ok_l_signed (hr.mono le_l_signed) (by rfl) tx.m_l_signed tx.f_l_signed.kp tx.b_l_signed .nil pass0 h)) (A.cons (E.call mo_l_signed (A.cons (E.var 1 (pv 1)) (A.cons (E.var 2 (pv 2)) A.nil)) rfl (fun h => pe_call ok_l_signed (hr.mono le_l_signed) (by rfl) tx.m_l_signed tx.f_l_signed.kp tx.b_l_signed .nil pass0 h)) A.nil)) (fun h => ps_par rfl sc_law.nd rfl rfl (by decide) rfl rfl h (by rfl)))
    (Ss.cons (S.setN (E.call mo_l_gcd (A.cons (E.var 5 (pv 5)) (A.cons (E.var 6 (pv 6)) A.nil)) rfl (fun h => pe_call ok_l_gcd (hr.mono le_l_gcd) (by rfl) tx.m_l_gcd tx.f_l_gcd.kp tx.b_l_gcd .nil pass0 h)) (fun h => ps_asg h (pg_name (i := 7) sc_law.nd rfl (by first | exact Or.inl rfl | exact Or.inr rfl))))
    (Ss.one (S.appN (E.ifx (T.gt (P.var 7 (pv 7)) (E.p E.int)) (E.tup (A.cons (E.fdiv (P.var 5 (pv 5)) (P.var 7 (pv 7))) (A.cons (E.fdiv (P.var 6 (pv 6)) (P.var 7 (pv 7))) A.nil))) (E.tup (A.cons E.int (A.cons (E.var 4 (pv 4)) A.nil)))) (fun h => ps_expr (pe_bm PySem.F.plainAttrs_list PySem.F.slot_list_append PySem.F.type_list_append mt_append (pv 3) (pa_cons h pa_nil))))))) (fun h1 h2 h3 => ps_for PassesOwn.never rfl h1 h2 h3))
    (Ss.cons (S.frz 3 (S.asgN (E.var 3 (pv 3)) (G.tA (gn_var (gn_var gn_nil)) (Gs.cn (G.var (pg_name (i := 8) sc_law.nd rfl (by first | exact Or.inl rfl | exact Or.inr rfl))) (Gs.cn (G.var (pg_name (i := 9) sc_law.nd rfl (by first | exact Or.inl rfl | exact Or.inr rfl))) Gs.nil (fun h1 h2 => pgs_cons h1 h2)) (fun h1 h2 => pgs_cons h1 h2)) (fun h => pg_tupA rfl h)) (fun h1 h2 => ps_asg h1 h2)))
    (Ss.cons (S.setN (E.sub (E.p (E.mulT (E.p (E.ix (P.var 8 (pv 8)) (E.p E.int) (fun _ _ => rfl))) (E.p (E.ix (P.var 9 (pv 9)) (E.p E.int) (fun _ _ => rfl))))) (E.p (E.mulT (E.p (E.ix (P.var 8 (pv 8)) (E.p E.int) (fun _ _ => rfl))) (E.p (E.ix (P.var 9 (pv 9)) (E.p E.int) (fun _ _ => rfl)))))) (fun h => ps_asg h (pg_name (i := 10) sc_law.nd rfl (by first | exact Or.inl rfl | exact Or.inr rfl))))
    (Ss.cons (S.ifs (T.eq hr.units (P.var 10 (pv 10)) (E.p E.int)) (Ss.cons (S.parN (A.cons (E.tup (A.cons E.int (A.cons E.int A.nil))) (A.cons (E.tup (A.cons (E.add (E.p (E.mulT (E.p (E.call mo_l_taken (A.cons (E.var 1 (pv 1)) (A.cons E.int A.nil)) rfl (fun h => pe_call ok_l_taken (hr.mono le_l_taken) (by rfl) tx.m_l_taken tx.f_l_taken.kp tx.b_l_taken .nil pass0 h))) (E.p E.int))) (E.p E.int)) (A.cons E.int A.nil))) A.nil)) (fun h => ps_par rfl sc_law.nd rfl rfl (by decide) rfl rfl h (by rfl)))
    (Ss.one (S.setN E.int (fun h => ps_asg h (pg_name (i := 10) sc_law.nd rfl (by first | exact Or.inl rfl | exact Or.inr rfl)))))) Ss.nil)
    (Ss.cons (S.setN (E.call mo_least_sums (A.cons (E.var 8 (pv 8)) (A.cons (E.var 9 (pv 9)) A.nil)) rfl (fun h => pe_call ok_least_sums (hr.mono le_least_sums) (by rfl) tx.m_least_sums tx.f_least_sums.kp tx.b_least_sums .nil pass0 h)) (fun h => ps_asg h (pg_name (i := 11) sc_law.nd rfl (by first | exact Or.inl rfl | exact Or.inr rfl))))
    (Ss.cons (S.ifs (Tw.t (Tw.or (T.not (T.val (E.call mo_l_alike (A.cons (E.var 11 (pv 11)) (A.cons (E.callBN tuple_s (call1_mono tupleO_mono) (Ap.cons (E.p (E.call mo_l_least_sums (A.cons (E.var 8 (pv 8)) (A.cons (E.var 9 (pv 9)) A.nil)) rfl (fun h => pe_call ok_l_least_sums (hr.mono le_l_least_sums) (by rfl) tx.m_l_least_sums tx.f_l_least_sums.kp tx.b_l_least_sums .nil pass0 h))) Ap.nil) (fun h => pe_callTy call_tuple_of (by rfl) tx.z_tuple bt_tuple h)) A.nil)) rfl (fun h => pe_call ok_l_alike (hr.mono le_l_alike) (by rfl) tx.m_l_alike tx.f_l_alike.kp tx.b_l_alike .nil pass0 h)))) (Tw.or (T.ne hr.units (E.p (E.ix (P.var 11 (pv 11)) (E.p E.int) (fun _ _ => rfl))) (P.var 8 (pv 8))) (Tw.or1 (T.ne hr.units (E.p (E.ix (P.var 11 (pv 11)) (E.p (E.neg (E.p E.int))) (fun _ _ => rfl))) (P.var 9 (pv 9))))))) (Ss.one (S.ret E.bl)) Ss.nil)
    (Ss.cons (S.setON (F.lst A.nil) (fun h => ps_asg h (pg_name (i := 12) sc_law.nd rfl (by first | exact Or.inl rfl | exact Or.inr rfl))))
    (Ss.cons (S.forN (I.r2 (Ap.cons (E.p E.int) (Ap.cons (E.p (E.callBN len_s (call1_mono lenO_mono) (Ap.cons (P.var 11 (pv 11)) Ap.nil) (fun h => pe_callB (CallR.or call_len_seq call_len_str) (by rfl) tx.z_len bt_len h))) Ap.nil)) (fun h => pi_range2 (by rfl) tx.z_range h)) (G.var (pg_name (i := 13) sc_law.nd rfl (by first | exact Or.inl rfl | exact Or.inr rfl))) (Ss.cons (S.ifs (T.ne hr.units (E.p (E.callBN abs_s (call1_mono absO_mono) (Ap.cons (E.p (E.sub (E.p (E.mulT (E.p (E.ix (E.p (E.ix (P.var 11 (pv 11)) (E.p (E.sub (P.var 13 (pv 13)) (E.p E.int))) (fun _ _ => rfl))) (E.p E.int) (fun _ _ => rfl))) (E.p (E.ix (E.p (E.ix (P.var 11 (pv 11)) (P.var 13 (pv 13)) (fun _ _ => rfl))) (E.p E.int) (fun _ _ => rfl))))) (E.p (E.mulT (E.p (E.ix (E.p (E.ix (P.var 11 (pv 11)) (E.p (E.sub (P.var 13 (pv 13)) (E.p E.int))) (fun _ _ => rfl))) (E.p E.int) (fun _ _ => rfl))) (E.p (E.ix (E.p (E.ix (P.var 11 (pv 11)) (P.var 13 (pv 13)) (fun _ _ => rfl))) (E.p E.int) (fun _ _ => rfl))))))) Ap.nil) (fun h => pe_callB call_abs (by rfl) tx.z_abs bt_abs h))) (E.p E.int)) (Ss.one (S.ret E.bl)) Ss.nil)
    (Ss.one (S.ifs (T.lt (E.p (E.add (P.var 13 (pv 13)) (E.p E.int))) (E.p (E.callBN len_s (call1_mono lenO_mono) (Ap.cons (P.var 11 (pv 11)) Ap.nil) (fun h => pe_callB (CallR.or call_len_seq call_len_str) (by rfl) tx.z_len bt_len h)))) (Ss.cons (S.lc (i := 14) (own := [("_law_k", 15)]) rfl sc_law.nd rfl rfl (sw_true rfl rfl rfl (by decide +kernel)) (blkOk_by (by kernel_rfl)) (by decide) (I.toG (I.r1 (Ap.cons (E.p E.int) Ap.nil) (fun h => pi_range1 (by rfl) tx.z_range h))) (fun _ _ _ _ _ => (G.var (pg_name (i := 15) sc_law.nd rfl (by first | exact Or.inl rfl | exact Or.inr rfl)))) (fun _ _ _ _ _ => Tl.nil) (fun _ _ _ _ _ => (E.add (E.p (E.ix (E.p (E.ix (P.var 11 (pv 11)) (E.p (E.sub (P.var 13 (pv 13)) (E.p E.int))) (fun _ _ => rfl))) (P.var 15 (pv 15)) (fun _ _ => rfl))) (E.p (E.ix (E.p (E.ix (P.var 11 (pv 11)) (E.p (E.add (P.var 13 (pv 13)) (E.p E.int))) (fun _ _ => rfl))) (P.var 15 (pv 15)) (fun _ _ => rfl))))))
    (Ss.cons (S.setN (E.ifx (T.ne hr.units (E.p (E.ix (E.p (E.ix (P.var 11 (pv 11)) (P.var 13 (pv 13)) (fun _ _ => rfl))) (E.p E.int) (fun _ _ => rfl))) (E.p E.int)) E.int E.int) (fun h => ps_asg h (pg_name (i := 16) sc_law.nd rfl (by first | exact Or.inl rfl | exact Or.inr rfl))))
    (Ss.cons (S.setN (E.fdiv (E.p (E.ix (P.var 14 (pv 14)) (P.var 16 (pv 16)) (fun _ _ => rfl))) (E.p (E.ix (E.p (E.ix (P.var 11 (pv 11)) (P.var 13 (pv 13)) (fun _ _ => rfl))) (P.var 16 (pv 16)) (fun _ _ => rfl)))) (fun h => ps_asg h (pg_name (i := 17) sc_law.nd rfl (by first | exact Or.inl rfl | exact Or.inr rfl))))
    (Ss.cons (S.ifs (Tw.t (Tw.or (T.lt (P.var 17 (pv 17)) (E.p E.int)) (Tw.or1 (T.ne hr.units (P.var 14 (pv 14)) (E.p (E.ofF (F.lc rfl sc_law.nd (own := [("_law_k", 15)]) (blkOk_by (by kernel_rfl)) (by decide) (I.toG (I.r1 (Ap.cons (E.p E.int) Ap.nil) (fun h => pi_range1 (by rfl) tx.z_range h))) (fun _ _ _ _ _ => (G.var (pg_name (i := 15) sc_law.nd rfl (by first | exact Or.inl rfl | exact Or.inr rfl)))) (fun _ _ _ _ _ => Tl.nil) (fun _ _ _ _ _ => (E.mulT (P.var 17 (pv 17)) (E.p (E.ix (E.p (E.ix (P.var 11 (pv 11)) (P.var 13 (pv 13)) (fun _ _ => rfl))) (P.var 15 (pv 15)) (fun _ _ => rfl)))))))))))) (Ss.one (S.ret E.bl)) Ss.nil)
    (Ss.one (S.appN (E.var 17 (pv 17)) (fun h => ps_expr (pe_bm PySem.F.plainAttrs_list PySem.F.slot_list_append PySem.F.type_list_append mt_append (pv 12) (pa_cons h pa_nil))))))))) Ss.nil))) (fun h1 h2 h3 => ps_for PassesOwn.never rfl h1 h2 h3))
    (Ss.cons (S.lc (i := 18) (own := [("_law_at", 13)]) rfl sc_law.nd rfl rfl (sw_true rfl rfl rfl (by decide +kernel)) (blkOk_by (by kernel_rfl)) (by decide) (I.toG (I.r1 (Ap.cons (E.p (E.callBN len_s (call1_mono lenO_mono) (Ap.cons (P.var 11 (pv 11)) Ap.nil) (fun h => pe_callB (CallR.or call_len_seq call_len_str) (by rfl) tx.z_len bt_len h))) Ap.nil) (fun h => pi_range1 (by rfl) tx.z_range h))) (fun _ _ _ _ _ => (G.var (pg_name (i := 13) sc_law.nd rfl (by first | exact Or.inl rfl | exact Or.inr rfl)))) (fun _ _ _ _ _ => (Tl.one (Tw.t (Tw.or (T.in (u65 hr) (P.var 13 (pv 13)) (E.p (E.ofF (F.lst (A.cons E.int (A.cons (E.sub (E.p (E.callBN len_s (call1_mono lenO_mono) (Ap.cons (P.var 11 (pv 11)) Ap.nil) (fun h => pe_callB (CallR.or call_len_seq call_len_str) (by rfl) tx.z_len bt_len h))) (E.p E.int)) A.nil)))))) (Tw.or1 (T.gt (E.p (E.ix (P.var 12 (pv 12)) (E.p (E.sub (P.var 13 (pv 13)) (E.p E.int))) (fun _ _ => rfl))) (E.p E.int))))))) (fun _ _ _ _ _ => (E.ix (P.var 11 (pv 11)) (P.var 13 (pv 13)) (fun _ _ => rfl))))
    (Ss.cons (S.ifs (T.not (T.val (E.call mo_l_alike (A.cons (E.call mo_sail (A.cons (E.var 8 (pv 8)) (A.cons (E.var 9 (pv 9)) A.nil)) rfl (fun h => pe_call ok_sail (hr.mono le_sail) (by rfl) tx.m_sail tx.f_sail.kp tx.b_sail .nil pass0 h)) (A.cons (E.callBN tuple_s (call1_mono tupleO_mono) (Ap.cons (P.var 18 (pv 18)) Ap.nil) (fun h => pe_callTy call_tuple_of (by rfl) tx.z_tuple bt_tuple h)) A.nil)) rfl (fun h => pe_call ok_l_alike (hr.mono le_l_alike) (by rfl) tx.m_l_alike tx.f_l_alike.kp tx.b_l_alike .nil pass0 h)))) (Ss.one (S.ret E.bl)) Ss.nil)
    (Ss.one (S.ret (B.val (B.or (B.of (E.eq hr.units (P.var 12 (pv 12)) (E.p (E.ofF (F.lst A.nil))))) (B.one (B.of (E.eq hr.units (E.p (E.ix (E.p (E.call mo_from_steps (A.cons (E.callBN tuple_s (call1_mono tupleO_mono) (Ap.cons (P.var 12 (pv 12)) Ap.nil) (fun h => pe_callTy call_tuple_of (by rfl) tx.z_tuple bt_tuple h)) A.nil) rfl (fun h => pe_call ok_from_steps (hr.mono le_from_steps) (by rfl) tx.m_from_steps tx.f_from_steps.kp tx.b_from_steps .nil pass0 h))) (E.p E.int) (fun _ _ => rfl))) (E.p (E.callBN abs_s (call1_mono absO_mono) (Ap.cons (P.var 10 (pv 10)) Ap.nil) (fun h => pe_callB call_abs (by rfl) tx.z_abs bt_abs h))))))))))))))))))))))
end
/-! ### the head -/
def dd_is_in : He.DefD := ⟨("is_in", none), "is_in", "is_in", defArgs s_is_in, defBody s_is_in, defScope s_is_in, [], []⟩
def dd_gcd : He.DefD := ⟨("gcd", none), "gcd", "gcd", defArgs s_gcd, defBody s_gcd, defScope s_gcd, [], []⟩
def dd_reduced : He.DefD := ⟨("reduced", none), "reduced", "reduced", defArgs s_reduced, defBody s_reduced, defScope s_reduced, [], []⟩
def dd_minus : He.DefD := ⟨("minus", none), "minus", "minus", defArgs s_minus, defBody s_minus, defScope s_minus, [], []⟩
def dd_over : He.DefD := ⟨("over", none), "over", "over", defArgs s_over, defBody s_over, defScope s_over, [], []⟩
def dd_is_vector : He.DefD := ⟨("is_vector", none), "is_vector", "is_vector", defArgs s_is_vector, defBody s_is_vector, defScope s_is_vector, [], []⟩
def dd_from_steps : He.DefD := ⟨("from_steps", none), "from_steps", "from_steps", defArgs s_from_steps, defBody s_from_steps, defScope s_from_steps, [], []⟩
def dd_turn : He.DefD := ⟨("turn", none), "turn", "turn", defArgs s_turn, defBody s_turn, defScope s_turn, [], []⟩
def dd_first_after : He.DefD := ⟨("first_after", none), "first_after", "first_after", defArgs s_first_after, defBody s_first_after, defScope s_first_after, [], []⟩
def dd_sums_between : He.DefD := ⟨("sums_between", none), "sums_between", "sums_between", defArgs s_sums_between, defBody s_sums_between, defScope s_sums_between, [], []⟩
def dd_least_sums : He.DefD := ⟨("least_sums", none), "least_sums", "least_sums", defArgs s_least_sums, defBody s_least_sums, defScope s_least_sums, [], []⟩
def dd_sail : He.DefD := ⟨("sail", none), "sail", "sail", defArgs s_sail, defBody s_sail, defScope s_sail, [], []⟩
def dd_l_taken : He.DefD := ⟨("_law_taken", none), "_law_taken", "_law_taken", defArgs s_l_taken, defBody s_l_taken, defScope s_l_taken, [], []⟩
def dd_l_pick : He.DefD := ⟨("_law_pick", none), "_law_pick", "_law_pick", defArgs s_l_pick, defBody s_l_pick, defScope s_l_pick, [], []⟩
def dd_l_signed : He.DefD := ⟨("_law_signed", none), "_law_signed", "_law_signed", defArgs s_l_signed, defBody s_l_signed, defScope s_l_signed, [], []⟩
def dd_l_gcd : He.DefD := ⟨("_law_gcd", none), "_law_gcd", "_law_gcd", defArgs s_l_gcd, defBody s_l_gcd, defScope s_l_gcd, [], []⟩
def dd_l_alike : He.DefD := ⟨("_law_alike", none), "_law_alike", "_law_alike", defArgs s_l_alike, defBody s_l_alike, defScope s_l_alike, [], []⟩
def dd_l_least_sums : He.DefD := ⟨("_law_least_sums", none), "_law_least_sums", "_law_least_sums", defArgs s_l_least_sums, defBody s_l_least_sums, defScope s_l_least_sums, [], []⟩
def dd_law : He.DefD := ⟨("law", none), "law", "law", defArgs s_law, defBody s_law, defScope s_law, [], []⟩
def fns : List He.DefD := [dd_is_in, dd_gcd, dd_reduced, dd_minus, dd_over, dd_is_vector, dd_from_steps, dd_turn, dd_first_after, dd_sums_between, dd_least_sums, dd_sail, dd_l_taken, dd_l_pick, dd_l_signed, dd_l_gcd, dd_l_alike, dd_l_least_sums, dd_law]
def fas : List He.Fa := [.glo "is_in", .glo "gcd", .glo "reduced", .glo "minus", .glo "over", .glo "is_vector", .glo "from_steps", .glo "turn", .glo "first_after", .glo "sums_between", .glo "least_sums", .glo "sail", .glo "_law_taken", .glo "_law_pick", .glo "_law_signed", .glo "_law_gcd", .glo "_law_alike", .glo "_law_least_sums", .glo "law", .free "abs", .free "bool", .free "int", .free "isinstance", .free "len", .free "list", .free "max", .free "min", .free "range", .free "sorted", .free "str", .free "tuple", .int "FAR" (1000), .int "MOST_STEPS" (60), .int "MOST_SUMS" (2000)]
def tbs : List (Str × List He.Dv) := []
theorem tx_of {K : Kf} {h : Heap} {mg : Str → Option Value} (X : K.In h) (G : h.Ns mainGlobals mg) (c : SaysZ fas fns tbs K) : ∃ T : Tx K mg, True := by
  obtain ⟨e_is_in, f_is_in⟩ := c.def_ 0 (d := dd_is_in) rfl
  obtain ⟨e_gcd, f_gcd⟩ := c.def_ 1 (d := dd_gcd) rfl
  obtain ⟨e_reduced, f_reduced⟩ := c.def_ 2 (d := dd_reduced) rfl
  obtain ⟨e_minus, f_minus⟩ := c.def_ 3 (d := dd_minus) rfl
  obtain ⟨e_over, f_over⟩ := c.def_ 4 (d := dd_over) rfl
  obtain ⟨e_is_vector, f_is_vector⟩ := c.def_ 5 (d := dd_is_vector) rfl
  obtain ⟨e_from_steps, f_from_steps⟩ := c.def_ 6 (d := dd_from_steps) rfl
  obtain ⟨e_turn, f_turn⟩ := c.def_ 7 (d := dd_turn) rfl
  obtain ⟨e_first_after, f_first_after⟩ := c.def_ 8 (d := dd_first_after) rfl
  obtain ⟨e_sums_between, f_sums_between⟩ := c.def_ 9 (d := dd_sums_between) rfl
  obtain ⟨e_least_sums, f_least_sums⟩ := c.def_ 10 (d := dd_least_sums) rfl
  obtain ⟨e_sail, f_sail⟩ := c.def_ 11 (d := dd_sail) rfl
  obtain ⟨e_l_taken, f_l_taken⟩ := c.def_ 12 (d := dd_l_taken) rfl
  obtain ⟨e_l_pick, f_l_pick⟩ := c.def_ 13 (d := dd_l_pick) rfl
  obtain ⟨e_l_signed, f_l_signed⟩ := c.def_ 14 (d := dd_l_signed) rfl
  obtain ⟨e_l_gcd, f_l_gcd⟩ := c.def_ 15 (d := dd_l_gcd) rfl
  obtain ⟨e_l_alike, f_l_alike⟩ := c.def_ 16 (d := dd_l_alike) rfl
  obtain ⟨e_l_least_sums, f_l_least_sums⟩ := c.def_ 17 (d := dd_l_least_sums) rfl
  obtain ⟨e_law, f_law⟩ := c.def_ 18 (d := dd_law) rfl
  exact ⟨{ a_is_in := _, d_is_in := e_is_in, f_is_in := f_is_in, m_is_in := He.glo_ok X G (c.fact 0 (f := .glo "is_in") rfl), b_is_in := (FunD.bindsN f_is_in fun _ _ _ _ _ _ us hl => match us, hl with | [_, _, _], _ => rfl), a_gcd := _, d_gcd := e_gcd, f_gcd := f_gcd, m_gcd := He.glo_ok X G (c.fact 1 (f := .glo "gcd") rfl), b_gcd := (FunD.bindsN f_gcd fun _ _ _ _ _ _ us hl => match us, hl with | [_, _], _ => rfl), a_reduced := _, d_reduced := e_reduced, f_reduced := f_reduced, m_reduced := He.glo_ok X G (c.fact 2 (f := .glo "reduced") rfl), b_reduced := (FunD.bindsN f_reduced fun _ _ _ _ _ _ us hl => match us, hl with | [_, _], _ => rfl), a_minus := _, d_minus := e_minus, f_minus := f_minus, m_minus := He.glo_ok X G (c.fact 3 (f := .glo "minus") rfl), b_minus := (FunD.bindsN f_minus fun _ _ _ _ _ _ us hl => match us, hl with | [_, _], _ => rfl), a_over := _, d_over := e_over, f_over := f_over, m_over := He.glo_ok X G (c.fact 4 (f := .glo "over") rfl), b_over := (FunD.bindsN f_over fun _ _ _ _ _ _ us hl => match us, hl with | [_, _], _ => rfl), a_is_vector := _, d_is_vector := e_is_vector, f_is_vector := f_is_vector, m_is_vector := He.glo_ok X G (c.fact 5 (f := .glo "is_vector") rfl), b_is_vector := (FunD.bindsN f_is_vector fun _ _ _ _ _ _ us hl => match us, hl with | [_, _, _, _], _ => rfl), a_from_steps := _, d_from_steps := e_from_steps, f_from_steps := f_from_steps, m_from_steps := He.glo_ok X G (c.fact 6 (f := .glo "from_steps") rfl), b_from_steps := (FunD.bindsN f_from_steps fun _ _ _ _ _ _ us hl => match us, hl with | [_], _ => rfl), a_turn := _, d_turn := e_turn, f_turn := f_turn, m_turn := He.glo_ok X G (c.fact 7 (f := .glo "turn") rfl), b_turn := (FunD.bindsN f_turn fun _ _ _ _ _ _ us hl => match us, hl with | [_, _], _ => rfl), a_first_after := _, d_first_after := e_first_after, f_first_after := f_first_after, m_first_after := He.glo_ok X G (c.fact 8 (f := .glo "first_after") rfl), b_first_after := (FunD.bindsN f_first_after fun _ _ _ _ _ _ us hl => match us, hl with | [_, _], _ => rfl), a_sums_between := _, d_sums_between := e_sums_between, f_sums_between := f_sums_between, m_sums_between := He.glo_ok X G (c.fact 9 (f := .glo "sums_between") rfl), b_sums_between := (FunD.bindsN f_sums_between fun _ _ _ _ _ _ us hl => match us, hl with | [_, _], _ => rfl), a_least_sums := _, d_least_sums := e_least_sums, f_least_sums := f_least_sums, m_least_sums := He.glo_ok X G (c.fact 10 (f := .glo "least_sums") rfl), b_least_sums := (FunD.bindsN f_least_sums fun _ _ _ _ _ _ us hl => match us, hl with | [_, _], _ => rfl), a_sail := _, d_sail := e_sail, f_sail := f_sail, m_sail := He.glo_ok X G (c.fact 11 (f := .glo "sail") rfl), b_sail := (FunD.bindsN f_sail fun _ _ _ _ _ _ us hl => match us, hl with | [_, _], _ => rfl), a_l_taken := _, d_l_taken := e_l_taken, f_l_taken := f_l_taken, m_l_taken := He.glo_ok X G (c.fact 12 (f := .glo "_law_taken") rfl), b_l_taken := (FunD.bindsN f_l_taken fun _ _ _ _ _ _ us hl => match us, hl with | [_, _], _ => rfl), a_l_pick := _, d_l_pick := e_l_pick, f_l_pick := f_l_pick, m_l_pick := He.glo_ok X G (c.fact 13 (f := .glo "_law_pick") rfl), b_l_pick := (FunD.bindsN f_l_pick fun _ _ _ _ _ _ us hl => match us, hl with | [_, _], _ => rfl), a_l_signed := _, d_l_signed := e_l_signed, f_l_signed := f_l_signed, m_l_signed := He.glo_ok X G (c.fact 14 (f := .glo "_law_signed") rfl), b_l_signed := (FunD.bindsN f_l_signed fun _ _ _ _ _ _ us hl => match us, hl with | [_, _], _ => rfl), a_l_gcd := _, d_l_gcd := e_l_gcd, f_l_gcd := f_l_gcd, m_l_gcd := He.glo_ok X G (c.fact 15 (f := .glo "_law_gcd") rfl), b_l_gcd := (FunD.bindsN f_l_gcd fun _ _ _ _ _ _ us hl => match us, hl with | [_, _], _ => rfl), a_l_alike := _, d_l_alike := e_l_alike, f_l_alike := f_l_alike, m_l_alike := He.glo_ok X G (c.fact 16 (f := .glo "_law_alike") rfl), b_l_alike := (FunD.bindsN f_l_alike fun _ _ _ _ _ _ us hl => match us, hl with | [_, _], _ => rfl), a_l_least_sums := _, d_l_least_sums := e_l_least_sums, f_l_least_sums := f_l_least_sums, m_l_least_sums := He.glo_ok X G (c.fact 17 (f := .glo "_law_least_sums") rfl), b_l_least_sums := (FunD.bindsN f_l_least_sums fun _ _ _ _ _ _ us hl => match us, hl with | [_, _], _ => rfl), a_law := _, d_law := e_law, f_law := f_law, m_law := He.glo_ok X G (c.fact 18 (f := .glo "law") rfl), b_law := (FunD.bindsN f_law fun _ _ _ _ _ _ us hl => match us, hl with | [_], _ => rfl), z_abs := He.free_ok X G (c.fact 19 (f := .free "abs") rfl), z_bool := He.free_ok X G (c.fact 20 (f := .free "bool") rfl), z_int := He.free_ok X G (c.fact 21 (f := .free "int") rfl), z_isinstance := He.free_ok X G (c.fact 22 (f := .free "isinstance") rfl), z_len := He.free_ok X G (c.fact 23 (f := .free "len") rfl), z_list := He.free_ok X G (c.fact 24 (f := .free "list") rfl), z_max := He.free_ok X G (c.fact 25 (f := .free "max") rfl), z_min := He.free_ok X G (c.fact 26 (f := .free "min") rfl), z_range := He.free_ok X G (c.fact 27 (f := .free "range") rfl), z_sorted := He.free_ok X G (c.fact 28 (f := .free "sorted") rfl), z_str := He.free_ok X G (c.fact 29 (f := .free "str") rfl), z_tuple := He.free_ok X G (c.fact 30 (f := .free "tuple") rfl), c_FAR := He.int_ok X G (c.fact 31 (f := .int "FAR" (1000)) rfl), c_MOST_STEPS := He.int_ok X G (c.fact 32 (f := .int "MOST_STEPS" (60)) rfl), c_MOST_SUMS := He.int_ok X G (c.fact 33 (f := .int "MOST_SUMS" (2000)) rfl) }, trivial⟩
abbrev Rw : PySem.W.OpenRow := PySem.W.OpenLaw.row PySem.Challenge.rw_latticepoints_k76_whole_least_sums
abbrev hk : PySem.W.Hook := hookZ 4 fas fns tbs
def ob (s : PySem.W.SharedT) : He.AlD := obsZG 4 fas fns tbs (HandSHeadRun.getT s)
theorem ob_eq (s : PySem.W.SharedT) : ob s = hk.obs s.abs := obsZG_eq (HandSHeadRun.getT_eq s)
def loose : List Str := (["LatticeError", "TooMany", "BadPair", "BadSteps", "is_in", "gcd", "reduced", "minus", "over", "is_vector", "FAR", "MOST_STEPS"] : List Str) ++ (["MOST_SUMS", "from_steps", "turn", "first_after", "sums_between", "least_sums", "sail", "_law_taken", "_law_pick", "_law_signed", "_law_gcd", "_law_alike"] : List Str) ++ (["_law_least_sums"] : List Str)
theorem run (w : World) : HandSHeadRun.RunEq Rw (PySem.W.view Rw.prog [30]) hk ob 4000 loose w := by
  intro os
  kernel_rfl
end Tx0

set_option Elab.async false
set_option linter.all false
set_option maxRecDepth 100000
set_option maxHeartbeats 4000000
set_option exponentiation.threshold 1000000
namespace Tx0
open PySem PySem.Spec PyProof.Rows L2 Z0
theorem small_nat {n : Int} (h : n.natAbs ≤ 1000000000000000000000) : small n := small_of (Nat.lt_of_le_of_lt h (by decide))
theorem lcL_nil {g : SG} {t : ST} {f : SE} {ρ : REnv} : ∀ (ds : List D) (Q : List D → Prop), (∀ d ∈ ds, ∀ S : REnv → Bool → Prop, (∀ ρ1, S ρ1 false) → g d ρ fun ρ1 => t ρ1 (S ρ1)) → Q [] → lcL g t f ρ ds Q
  | [], Q, _, q => q
  | d :: ds, Q, h, q => h d List.mem_cons_self _ fun ρ1 => lcL_nil ds Q (fun d hd => h d (List.mem_cons_of_mem _ hd)) q
theorem dec2 {lo x hi : Int} (h1 : lo ≤ x) (h2 : x ≤ hi) : (decide (lo ≤ x) && decide (x ≤ hi)) = true := by rw [decide_eq_true h1, decide_eq_true h2]; rfl
theorem br_nn {b : Bool} {p q : Prop} (h : b = true) (hq : q) : br (!b) p q := by subst h; exact hq
theorem mem_map_int {ns : List Int} {d : D} (h : d ∈ ns.map D.int) : ∃ n : Int, d = .int n ∧ n ∈ ns := by
  obtain ⟨n, hn, rfl⟩ := List.mem_map.mp h
  exact ⟨n, rfl, hn⟩
theorem mokl {i j : Int} (h : i.natAbs ≤ 1000000000000000000) : mulOk i j := .inl (Nat.lt_of_le_of_lt h (by decide))
def isinO : OC := fun ds Q => match ds with
  | [x, .int lo, .int hi] => (match x with
    | .row => False
    | .ty _ => False
    | .int i => Q (.bl (decide (lo ≤ i) && decide (i ≤ hi)))
    | _ => Q (.bl false))
  | _ => False
theorem isinO_mono : MonoC isinO := fun ds P Q h q => by
  unfold isinO at *
  split at q
  · split at q
    · exact q
    · exact q
    · exact h _ q
    · exact h _ q
  · exact q.elim
theorem mir_is_in : ∀ ds Q, ds.length = 3 → isinO ds Q → sem_is_in (startE ["value", "least", "most"] ds) (endK Q) := fun ds Q hl q => by
  unfold isinO at q
  split at q
  · rename_i x lo hi
    cases x with
    | int i =>
      have q : Q (.bl (decide (lo ≤ i) && decide (i ≤ hi))) := q
      show br (decide (lo ≤ i)) (Q (.bl (decide (i ≤ hi)))) (Q (.bl false))
      cases h : decide (lo ≤ i) with
      | true => rw [h] at q; exact q
      | false => rw [h] at q; exact q
    | row => exact q.elim
    | ty t => exact q.elim
    | bl b => exact q
    | non => exact q
    | str s => exact q
    | tup s => exact q
    | lst s => exact q
  · exact q.elim
section
variable {Pg : Program} {w : World} {K : Kf} {mg : Str → Option Value} {base : Heap}
theorem ok_is_in (tx : Tx K mg) : FnOk Pg w K mg base CX0 1 tx.a_is_in tx.d_is_in ["value", "least", "most"] (spOf K 3 isinO) :=
  Z0.fn_ok tx.f_is_in sc_is_in rfl (walk_is_in tx) mir_is_in
end
theorem gcd_step (a b : Int) (hb : b ≠ 0) : Int.gcd b (a.fmod b) = Int.gcd a b := by
  have e : a.fmod b = a - b * (a.fdiv b) := by have := Int.mul_fdiv_add_fmod a b; omega
  have h1 : (Int.gcd a b : Int) ∣ a := Int.gcd_dvd_left ..
  have h2 : (Int.gcd a b : Int) ∣ b := Int.gcd_dvd_right ..
  have h3 : (Int.gcd b (a.fmod b) : Int) ∣ b := Int.gcd_dvd_left ..
  have h4 : (Int.gcd b (a.fmod b) : Int) ∣ a.fmod b := Int.gcd_dvd_right ..
  have h5 : (Int.gcd b (a.fmod b) : Int) ∣ a := by
    have e2 : a.fmod b + b * (a.fdiv b) = a := by omega
    have h45 := Int.dvd_add h4 (Int.dvd_trans h3 (Int.dvd_mul_right b (a.fdiv b)))
    rwa [e2] at h45
  have h6 : (Int.gcd a b : Int) ∣ a.fmod b := by
    rw [e]
    exact Int.dvd_sub h1 (Int.dvd_trans h2 (Int.dvd_mul_right ..))
  have h7 : Int.gcd b (a.fmod b) ∣ Int.gcd a b := Int.dvd_gcd h5 h3 |> fun h => by exact_mod_cast h
  have h8 : Int.gcd a b ∣ Int.gcd b (a.fmod b) := Int.dvd_gcd h2 h6 |> fun h => by exact_mod_cast h
  exact Nat.dvd_antisymm h7 h8
def gcdO : OC := fun ds Q => match ds with
  | [.int a, .int b] => Q (.int (Int.gcd a b))
  | _ => False
theorem lgcd_loop {Q : D → Prop} : ∀ (N : Nat) (a b : Int), b.toNat < N → 0 ≤ a → 0 ≤ b → Q (.int (Int.gcd a b)) →
    whN wt1_l_gcd ws2_l_gcd N [some (.sh (.int a)), some (.sh (.int b))] { nx := fun ρ => retS (varE 0) ρ (endK Q), rt := Q, bk := fun _ => False, ct := fun _ => False } := fun N => by
  induction N with
  | zero =>
    intro a b hN
    omega
  | succ N ih =>
    intro a b hN ha hb q
    refine br_n (c := b = 0) (fun h => ?_) (fun h => ?_)
    · have hb0 : 0 < b := by omega
      have h1 := Int.fmod_nonneg_of_pos a hb0
      have h2 := Int.fmod_lt_of_pos a hb0
      refine ⟨h, ?_⟩
      exact ih b (a.fmod b) (by omega) hb h1 (by rw [gcd_step a b h]; exact q)
    · subst h
      have e : ((Int.gcd a 0 : Nat) : Int) = a := by rw [Int.gcd_zero_right]; omega
      rw [e] at q
      exact q
theorem mir_l_gcd : ∀ ds Q, ds.length = 2 → gcdO ds Q → sem_l_gcd (startE ["_law_one", "_law_other"] ds) (endK Q) := fun ds Q hl q => by
  unfold gcdO at q
  split at q
  · rename_i a b
    have e : ∀ x : Int, (if x < 0 then -x else x) = (x.natAbs : Int) := fun x => by split <;> omega
    refine ⟨_, lgcd_loop ((if b < 0 then -b else b).toNat + 1) (if a < 0 then -a else a) (if b < 0 then -b else b) (Nat.lt_succ_self _) ?_ ?_ ?_⟩
    · rw [e]; omega
    · rw [e]; omega
    · rw [e, e]
      exact q
  · exact q.elim
section
variable {Pg : Program} {w : World} {K : Kf} {mg : Str → Option Value} {base : Heap}
theorem ok_lgcd (tx : Tx K mg) : FnOk Pg w K mg base CX0 1 tx.a_l_gcd tx.d_l_gcd ["_law_one", "_law_other"] (spOf K 2 gcdO) :=
  Z0.fn_ok tx.f_l_gcd sc_l_gcd rfl (walk_l_gcd tx) mir_l_gcd
end
section
variable {Pg : Program} {w : World} {K : Kf} {mg : Str → Option Value} {base : Heap}
theorem atI_row0 {a b c d : V} : atI [a, b, c, d] 0 = some a := rfl
end
section
variable {Pg : Program} {w : World} {K : Kf} {mg : Str → Option Value} {base : Heap}
theorem atI_row1 {a b c d : V} : atI [a, b, c, d] 1 = some b := rfl
end
section
variable {Pg : Program} {w : World} {K : Kf} {mg : Str → Option Value} {base : Heap}
theorem atI_row2 {a b c d : V} : atI [a, b, c, d] 2 = some c := rfl
end
section
variable {Pg : Program} {w : World} {K : Kf} {mg : Str → Option Value} {base : Heap}
theorem atI_row3 {a b c d : V} : atI [a, b, c, d] 3 = some d := rfl
end
section
variable {Pg : Program} {w : World} {K : Kf} {mg : Str → Option Value} {base : Heap}
theorem ok_taken (tx : Tx K mg) : FnOk Pg w K mg base CX0 1 tx.a_l_taken tx.d_l_taken ["_law_row", "_law_many"] (spOf K 2 takenO) := by
  refine tx.f_l_taken.ok sc_l_taken (fun vs H Q E h => h.1) (fun cdv A outer s H vs Q E hr h => ?_)
  refine ⟨_, pss_cons (ps_if (pt_cmpR op_gt (pe_ix ix_list (L2.pv 0) pe_int (fun _ _ => rfl)) pe_int (nomark _))
        (pss_cons (ps_set (i := 2) sc_l_taken.nd rfl (Or.inl rfl) (pe_op op_modN (pe_callTy call_int1 (by rfl) tx.z_int bt_int (pa_cons (pe_ix ix_list (L2.pv 0) pe_int (fun _ _ => rfl)) pa_nil)) (L2.pv 1)))
        (pss_cons (ps_asg (pe_op op_fdivS (pe_ix ix_list (L2.pv 0) pe_int (fun _ _ => rfl)) (L2.pv 1)) (pg_sub (L2.pv 0) pe_int set_list))
        (pss_one (ps_ret (L2.pv 2))))) pss_nil)
      (pss_cons (ps_asg (pe_op op_add (pe_ix ix_list (L2.pv 0) pe_int (fun _ _ => rfl)) pe_int) (pg_sub (L2.pv 0) pe_int set_list))
      (pss_cons (ps_if (pt_cmpR op_gt (pe_ix ix_list (L2.pv 0) pe_int (fun _ _ => rfl)) (pe_callB call_len_seq (by rfl) tx.z_len bt_len (pa_cons (pe_ix ix_list (L2.pv 0) pe_int (fun _ _ => rfl)) pa_nil)) (nomark _))
        (pss_cons (ps_asg (pe_op op_modN (pe_callTy call_int1 (by rfl) tx.z_int bt_int (pa_cons (pe_op op_add (pe_op op_mul (pe_ix ix_list (L2.pv 0) pe_int (fun _ _ => rfl)) pe_int) pe_int) pa_nil)) pe_int) (pg_sub (L2.pv 0) pe_int set_list))
        (pss_one (ps_ret (pe_op op_modN (pe_callTy call_int1 (by rfl) tx.z_int bt_int (pa_cons (pe_op op_fdivS (pe_ix ix_list (L2.pv 0) pe_int (fun _ _ => rfl)) pe_int) pa_nil)) (L2.pv 1))))) pss_nil)
      (pss_cons (ps_set (i := 3) sc_l_taken.nd rfl (Or.inl rfl) (pe_ix ix_list (pe_ix ix_list (L2.pv 0) pe_int (fun _ _ => rfl)) (pe_op op_sub (pe_ix ix_list (L2.pv 0) pe_int (fun _ _ => rfl)) pe_int) (fun _ _ => rfl)))
      (pss_cons (ps_asg (pe_op op_modN (pe_callTy call_int1 (by rfl) tx.z_int bt_int (pa_cons (pe_op op_add (pe_op op_add (pe_op op_mul (pe_ix ix_list (L2.pv 0) pe_int (fun _ _ => rfl)) pe_int) (L2.pv 3)) pe_int) pa_nil)) pe_int) (pg_sub (L2.pv 0) pe_int set_list))
      (pss_cons (ps_if (pt_cmpR op_ge (L2.pv 3) (pe_op op_pow pe_int pe_int) (nomark _))
        (pss_one (ps_asg (pe_op op_fdivS (L2.pv 3) (L2.pv 1)) (pg_sub (L2.pv 0) pe_int set_list))) pss_nil)
      (pss_one (ps_ret (pe_op op_modN (pe_callTy call_int1 (by rfl) tx.z_int bt_int (pa_cons (L2.pv 3) pa_nil)) (L2.pv 1))))))))), ?_⟩
  · obtain ⟨hl, rw, F, ds, b, reps, q⟩ := h
    unfold takenO at q
    split at q
    · rename_i many
      obtain ⟨v0, r0, rfl, ⟨a, hrw, rfl⟩, v1, r1, rfl, rfl, rfl⟩ := (show ∃ v0 r0, vs = v0 :: r0 ∧ (∃ a, rw = some a ∧ v0 = V.ref a) ∧ ∃ v1 r1, r0 = v1 :: r1 ∧ v1 = V.int many ∧ r1 = [] from reps)
      obtain ⟨⟨hm, hs⟩, q⟩ := q
      have hne : many ≠ 0 := by omega
      obtain ⟨sc, ns, p, m, r, hH, hsc, hp⟩ := b.row a hrw
      have fin : ∀ (x : Int) (H' : Hp), Base K ⟨rw, H, F⟩ F H' → Q (.int (x.fmod many)) H' := fun x H' b' => q (x.fmod many) (Int.fmod_nonneg_of_pos _ hm) (Int.fmod_lt_of_pos _ hm) (.int (x.fmod many)) F H' b' rfl
      have S : ∀ {H' : Hp} {xs : List V}, H' a = some (.lst xs) → SqL K H' a xs := fun h => SqL.of h
      refine ⟨_, rfl, ?_⟩
      refine ⟨a, _, 3, .int r, rfl, rfl, S hH, atI_row3, r, 0, rfl, rfl, decide (0 < r), rfl, ite2 (fun _ => ?_) (fun _ => ?_)⟩
      · -- the digits of a great cell
        refine ⟨_, rfl, a, _, 3, .int r, rfl, rfl, S hH, atI_row3, .inl ⟨r, rfl, _, rfl, r, many, rfl, rfl, hne, ?_⟩⟩
        refine ⟨_, rfl, a, _, 3, .int r, rfl, rfl, S hH, atI_row3, _, rfl, r, many, rfl, rfl, ⟨hne, hs⟩, _, rfl, a, _, 3, 3, rfl, rfl, hH, rfl, _, rfl, ?_⟩
        exact fin r _ (base_row b hrw hH hsc hp).1
      · refine ⟨_, rfl, a, _, 1, .int p, rfl, rfl, S hH, atI_row1, p, 1, rfl, rfl, _, rfl, a, _, 1, 1, rfl, rfl, hH, rfl, ?_⟩
        obtain ⟨b1, s1⟩ := base_row (p' := p + 1) (m' := m) (r' := r) b hrw hH hsc (by omega)
        have h1 : (upd H a (.lst [.ref sc, .int (p + 1), .int m, .int r])) a = some (.lst [.ref sc, .int (p + 1), .int m, .int r]) := upd_same
        refine ⟨_, rfl, a, _, 1, .int (p + 1), rfl, rfl, S h1, atI_row1, _, rfl, a, _, 0, .ref sc, rfl, rfl, S h1, atI_row0, sc, _, rfl, .inl s1.sql, p + 1, _, rfl, rfl, _, rfl, ite2 (fun _ => ?_) (fun hle => ?_)⟩
        · refine ⟨_, rfl, a, _, 2, .int m, rfl, rfl, S h1, atI_row2, m, 48271, rfl, rfl, .inr ⟨by decide, by decide⟩, _, 11, rfl, rfl, .inl ⟨_, rfl, _, 2147483647, rfl, rfl, (show (2147483647 : Int) ≠ 0 by decide), _, rfl, a, _, 2, 2, rfl, rfl, h1, rfl, ?_⟩⟩
          obtain ⟨b2, s2⟩ := base_row (p' := p + 1) (m' := (m * 48271 + 11).fmod 2147483647) (r' := r) b1 hrw h1 s1 (by omega)
          have h2 : (upd (upd H a (.lst [.ref sc, .int (p + 1), .int m, .int r])) a (.lst [.ref sc, .int (p + 1), .int ((m * 48271 + 11).fmod 2147483647), .int r])) a = some (.lst [.ref sc, .int (p + 1), .int ((m * 48271 + 11).fmod 2147483647), .int r]) := upd_same
          refine ⟨_, rfl, a, _, 2, _, rfl, rfl, S h2, atI_row2, _, 7, rfl, rfl, ⟨by decide, small_of (by decide)⟩, .inl ⟨_, rfl, _, rfl, _, many, rfl, rfl, hne, ?_⟩⟩
          exact fin _ _ b2
        · -- a cell of the script
          have hlen : p + 1 ≤ (ns.length : Int) := by
            have := hle
            rw [decide_eq_true_eq, List.length_map] at this
            omega
          obtain ⟨j, hj⟩ : ∃ j : Nat, p = (j : Int) := ⟨p.toNat, by omega⟩
          have hjl : j < ns.length := by omega
          have hcell : atI (ns.map V.int) (p + 1 - 1) = some (.int ns[j]) := by
            rw [show p + 1 - 1 = (j : Int) by omega]
            exact atI_nat (by rw [List.getElem?_map, List.getElem?_eq_getElem hjl]; rfl)
          refine ⟨_, rfl, a, _, 0, .ref sc, rfl, rfl, S h1, atI_row0, _, rfl, a, _, 1, .int (p + 1), rfl, rfl, S h1, atI_row1, p + 1, 1, rfl, rfl, sc, _, p + 1 - 1, _, rfl, rfl, s1.sql, hcell, ?_⟩
          generalize ns[j] = cell
          refine ⟨_, rfl, a, _, 2, .int m, rfl, rfl, S h1, atI_row2, m, 48271, rfl, rfl, .inr ⟨by decide, by decide⟩, _, rfl, _, cell, rfl, rfl, _, 11, rfl, rfl, .inl ⟨_, rfl, _, 2147483647, rfl, rfl, (show (2147483647 : Int) ≠ 0 by decide), _, rfl, a, _, 2, 2, rfl, rfl, h1, rfl, ?_⟩⟩
          obtain ⟨b2, s2⟩ := base_row (p' := p + 1) (m' := (m * 48271 + cell + 11).fmod 2147483647) (r' := r) b1 hrw h1 s1 (by omega)
          have h2 : (upd (upd H a (.lst [.ref sc, .int (p + 1), .int m, .int r])) a (.lst [.ref sc, .int (p + 1), .int ((m * 48271 + cell + 11).fmod 2147483647), .int r])) a = some (.lst [.ref sc, .int (p + 1), .int ((m * 48271 + cell + 11).fmod 2147483647), .int r]) := upd_same
          refine ⟨_, rfl, 10, 18, rfl, rfl, ⟨by decide, by decide, by decide⟩, cell, _, rfl, rfl, _, rfl, ite2 (fun _ => ?_) (fun _ => ?_)⟩
          · refine ⟨_, rfl, _, rfl, cell, many, rfl, rfl, ⟨hne, hs⟩, _, rfl, a, _, 3, 3, rfl, rfl, h2, rfl, ?_⟩
            exact ⟨_, rfl, .inl ⟨cell, rfl, _, rfl, cell, many, rfl, rfl, hne, fin cell _ (base_row b2 hrw h2 s2 (by omega)).1⟩⟩
          · exact ⟨_, rfl, .inl ⟨cell, rfl, _, rfl, cell, many, rfl, rfl, hne, fin cell _ b2⟩⟩
    · exact q.elim
end
def inn : Nat → D → Bool
  | _, .int _ => true
  | n + 1, .tup ds => ds.all (inn n)
  | n + 1, .lst ds => ds.all (inn n)
  | _, _ => false
theorem inn_list {n : Nat} (ih : ∀ d, inn n d = true → d.pure = true ∧ d.py.canLay0 = true ∧ d.py.depth ≤ n) : ∀ ds : List D, ds.all (inn n) = true → D.purel ds = true ∧ PyData.canLayAll0 (D.pyl ds) = true ∧ PyData.depthAll (D.pyl ds) ≤ n
  | [], _ => ⟨rfl, rfl, Nat.zero_le _⟩
  | d :: ds, h => by
    rw [List.all_cons, Bool.and_eq_true] at h
    obtain ⟨a1, a2, a3⟩ := ih d h.1
    obtain ⟨b1, b2, b3⟩ := inn_list ih ds h.2
    refine ⟨?_, ?_, ?_⟩
    · show (d.pure && D.purel ds) = true
      rw [a1, b1]; rfl
    · show (d.py.canLay0 && PyData.canLayAll0 (D.pyl ds)) = true
      rw [a2, b2]; rfl
    · show max d.py.depth (PyData.depthAll (D.pyl ds)) ≤ n
      omega
theorem inn_ok : ∀ (n : Nat) (d : D), inn n d = true → d.pure = true ∧ d.py.canLay0 = true ∧ d.py.depth ≤ n
  | 0, d, h => by
    cases d with
    | int i => exact ⟨rfl, rfl, Nat.zero_le _⟩
    | _ => cases h
  | n + 1, d, h => by
    cases d with
    | int i => exact ⟨rfl, rfl, Nat.zero_le _⟩
    | tup ds =>
      obtain ⟨a1, a2, a3⟩ := inn_list (inn_ok n) ds h
      exact ⟨a1, a2, Nat.succ_le_succ a3⟩
    | lst ds =>
      obtain ⟨a1, a2, a3⟩ := inn_list (inn_ok n) ds h
      exact ⟨a1, a2, Nat.succ_le_succ a3⟩
    | _ => cases h
theorem okD_inn {n : Nat} {d : D} (h : inn n d = true) (hn : n ≤ 64) : okD d = true := by
  obtain ⟨a1, a2, a3⟩ := inn_ok n d h
  show (d.pure && (d.py.canLay0 && decide (d.py.depth ≤ 64))) = true
  rw [a1, a2, decide_eq_true (Nat.le_trans a3 hn)]; rfl
theorem eqv_list {n : Nat} (ih : ∀ x y m, inn n x = true → inn m y = true → (eqD x y = true ↔ x = y)) : ∀ (xs ys : List D) (m : Nat), xs.all (inn n) = true → ys.all (inn m) = true → (PyData.eqvAll (D.pyl xs) (D.pyl ys) = true ↔ xs = ys)
  | [], [], _, _, _ => ⟨fun _ => rfl, fun _ => rfl⟩
  | [], y :: ys, _, _, _ => ⟨fun h => (by cases h), fun h => (by cases h)⟩
  | x :: xs, [], _, _, _ => ⟨fun h => (by cases h), fun h => (by cases h)⟩
  | x :: xs, y :: ys, m, h1, h2 => by
    rw [List.all_cons, Bool.and_eq_true] at h1 h2
    have a := ih x y m h1.1 h2.1
    have b := eqv_list ih xs ys m h1.2 h2.2
    show (eqD x y && PyData.eqvAll (D.pyl xs) (D.pyl ys)) = true ↔ _
    rw [Bool.and_eq_true, a, b]
    exact ⟨fun ⟨e1, e2⟩ => by rw [e1, e2], fun e => by injection e with e1 e2; exact ⟨e1, e2⟩⟩
theorem eqD_inn : ∀ (n : Nat) (x y : D) (m : Nat), inn n x = true → inn m y = true → (eqD x y = true ↔ x = y)
  | 0, x, y, m, h1, h2 => by
    cases x with
    | int i =>
      cases y with
      | int j =>
        show (i == j) = true ↔ _
        rw [beq_iff_eq]
        exact ⟨fun e => by rw [e], fun e => by injection e⟩
      | tup ds => exact ⟨fun h => (by cases h), fun h => (by cases h)⟩
      | lst ds => exact ⟨fun h => (by cases h), fun h => (by cases h)⟩
      | _ => cases m <;> cases h2
    | _ => cases h1
  | n + 1, x, y, m, h1, h2 => by
    cases x with
    | int i =>
      cases y with
      | int j =>
        show (i == j) = true ↔ _
        rw [beq_iff_eq]
        exact ⟨fun e => by rw [e], fun e => by injection e⟩
      | tup ds => exact ⟨fun h => (by cases h), fun h => (by cases h)⟩
      | lst ds => exact ⟨fun h => (by cases h), fun h => (by cases h)⟩
      | _ => cases m <;> cases h2
    | tup ds =>
      cases y with
      | int j => exact ⟨fun h => (by cases h), fun h => (by cases h)⟩
      | tup es =>
        cases m with
        | zero => cases h2
        | succ m =>
          have := eqv_list (eqD_inn n) ds es m h1 h2
          show PyData.eqvAll (D.pyl ds) (D.pyl es) = true ↔ _
          rw [this]
          exact ⟨fun e => by rw [e], fun e => by injection e⟩
      | lst es => exact ⟨fun h => (by cases h), fun h => (by cases h)⟩
      | _ => cases m <;> cases h2
    | lst ds =>
      cases y with
      | int j => exact ⟨fun h => (by cases h), fun h => (by cases h)⟩
      | lst es =>
        cases m with
        | zero => cases h2
        | succ m =>
          have := eqv_list (eqD_inn n) ds es m h1 h2
          show PyData.eqvAll (D.pyl ds) (D.pyl es) = true ↔ _
          rw [this]
          exact ⟨fun e => by rw [e], fun e => by injection e⟩
      | tup es => exact ⟨fun h => (by cases h), fun h => (by cases h)⟩
      | _ => cases m <;> cases h2
    | _ => cases h1
theorem eqD_t {x : D} {n : Nat} (h : inn n x = true) : eqD x x = true := (eqD_inn n x x n h h).mpr rfl
theorem eqD_f {x y : D} {n m : Nat} (h1 : inn n x = true) (h2 : inn m y = true) (h : x ≠ y) : eqD x y = false := by
  cases e : eqD x y with
  | false => rfl
  | true => exact absurd ((eqD_inn n x y m h1 h2).mp e) h
theorem inn_map {α : Type} {n : Nat} {f : α → D} {l : List α} (h : ∀ x ∈ l, inn n (f x) = true) : (l.map f).all (inn n) = true := by
  rw [List.all_map]
  exact List.all_eq_true.mpr h
theorem gcd_step2 (a b : Int) : Int.gcd b (a.fmod b) = Int.gcd a b := by
  have e : a.fmod b = a - b * (a.fdiv b) := by have := Int.mul_fdiv_add_fmod a b; omega
  have h1 : (Int.gcd a b : Int) ∣ a := Int.gcd_dvd_left ..
  have h2 : (Int.gcd a b : Int) ∣ b := Int.gcd_dvd_right ..
  have h3 : (Int.gcd b (a.fmod b) : Int) ∣ b := Int.gcd_dvd_left ..
  have h4 : (Int.gcd b (a.fmod b) : Int) ∣ a.fmod b := Int.gcd_dvd_right ..
  have h5 : (Int.gcd b (a.fmod b) : Int) ∣ a := by
    have e2 : a.fmod b + b * (a.fdiv b) = a := by omega
    have h45 := Int.dvd_add h4 (Int.dvd_trans h3 (Int.dvd_mul_right b (a.fdiv b)))
    rwa [e2] at h45
  have h6 : (Int.gcd a b : Int) ∣ a.fmod b := by
    rw [e]
    exact Int.dvd_sub h1 (Int.dvd_trans h2 (Int.dvd_mul_right ..))
  have h7 : Int.gcd b (a.fmod b) ∣ Int.gcd a b := Int.dvd_gcd h5 h3 |> fun h => by exact_mod_cast h
  have h8 : Int.gcd a b ∣ Int.gcd b (a.fmod b) := Int.dvd_gcd h2 h6 |> fun h => by exact_mod_cast h
  exact Nat.dvd_antisymm h7 h8
def gcO : OC := fun ds Q => match ds with
  | [.int a, .int b] => Q (.int (Int.gcd a b))
  | _ => False
theorem gcO_mono : MonoC gcO := fun ds P Q h q => by
  unfold gcO at *
  split at q
  · exact h _ q
  · exact q.elim
theorem gcd_loop {Q : D → Prop} : ∀ (N : Nat) (a b : Int), b.toNat < N → 0 ≤ a → 0 ≤ b → Q (.int (Int.gcd a b)) →
    whN wt1_gcd ws2_gcd N [some (.sh (.int a)), some (.sh (.int b))] { nx := fun ρ => retS (varE 0) ρ (endK Q), rt := Q, bk := fun _ => False, ct := fun _ => False } := fun N => by
  induction N with
  | zero =>
    intro a b hN
    omega
  | succ N ih =>
    intro a b hN ha hb q
    refine br_n (c := b = 0) (fun h => ?_) (fun h => ?_)
    · have hb0 : 0 < b := by omega
      have h1 := Int.fmod_nonneg_of_pos a hb0
      have h2 := Int.fmod_lt_of_pos a hb0
      refine ⟨h, ?_⟩
      exact ih b (a.fmod b) (by omega) hb h1 (by rw [gcd_step2 a b]; exact q)
    · subst h
      have e : ((Int.gcd a 0 : Nat) : Int) = a := by rw [Int.gcd_zero_right]; omega
      rw [e] at q
      exact q
theorem mir_gcd : ∀ ds Q, ds.length = 2 → gcO ds Q → sem_gcd (startE ["one", "other"] ds) (endK Q) := fun ds Q hl q => by
  unfold gcO at q
  split at q
  · rename_i a b
    have e : ∀ x : Int, (if x < 0 then -x else x) = (x.natAbs : Int) := fun x => by split <;> omega
    refine ⟨_, gcd_loop ((if b < 0 then -b else b).toNat + 1) (if a < 0 then -a else a) (if b < 0 then -b else b) (Nat.lt_succ_self _) ?_ ?_ ?_⟩
    · rw [e]; omega
    · rw [e]; omega
    · rw [e, e]
      exact q
  · exact q.elim
section
variable {Pg : Program} {w : World} {K : Kf} {mg : Str → Option Value} {base : Heap}
theorem ok_gcd (tx : Tx K mg) : FnOk Pg w K mg base CX0 1 tx.a_gcd tx.d_gcd ["one", "other"] (spOf K 2 gcO) :=
  Z0.fn_ok tx.f_gcd sc_gcd rfl (walk_gcd tx) mir_gcd
end
def ratD (q : Rat) : D := .tup [.int q.num, .int (q.den : Int)]
def Bt (n : Nat) (q : Rat) : Prop := q.num.natAbs < 2 ^ n ∧ q.den < 2 ^ n
theorem Bt.mono {n m : Nat} {q : Rat} (h : Bt n q) (k : n ≤ m) : Bt m q := ⟨Nat.lt_of_lt_of_le h.1 (Nat.pow_le_pow_right (by decide) k), Nat.lt_of_lt_of_le h.2 (Nat.pow_le_pow_right (by decide) k)⟩
theorem Bt.int {n : Nat} {i : Int} (h : i.natAbs < 2 ^ n) (h1 : 1 ≤ n) : Bt n (i : Rat) := ⟨h, by
  rw [Rat.den_intCast]
  exact Nat.lt_of_lt_of_le (by decide : 1 < 2 ^ 1) (Nat.pow_le_pow_right (by decide) h1)⟩
theorem sign_abs {d : Int} (hd : d ≠ 0) : d.sign.natAbs = 1 := by
  rcases Int.lt_trichotomy d 0 with h | h | h
  · rw [Int.sign_eq_neg_one_of_neg h]; rfl
  · exact absurd h hd
  · rw [Int.sign_eq_one_of_pos h]; rfl
theorem Bt.divInt {k : Nat} {n d : Int} (hd : d ≠ 0) (h1 : n.natAbs < 2 ^ k) (h2 : d.natAbs < 2 ^ k) : Bt k (Rat.divInt n d) := by
  have hg : 0 < Int.gcd d n := Int.gcd_pos_of_ne_zero_left _ hd
  refine ⟨?_, ?_⟩
  · rw [Rat.num_divInt]
    refine Nat.lt_of_le_of_lt ?_ h1
    have : (d.sign * n / (Int.gcd d n : Int)).natAbs ≤ (d.sign * n).natAbs := Int.natAbs_ediv_le_natAbs _ _
    rw [Int.natAbs_mul, sign_abs hd, Nat.one_mul] at this
    exact this
  · rw [Rat.den_divInt, if_neg hd]
    exact Nat.lt_of_le_of_lt (Nat.div_le_self ..) h2
theorem lt_mul_pow {a b n m : Nat} (h1 : a < 2 ^ n) (h2 : b < 2 ^ m) : a * b < 2 ^ (n + m) := by
  rw [Nat.pow_add]
  exact Nat.mul_lt_mul'' h1 h2
theorem natAbs_add_lt {a b : Int} {n : Nat} (h1 : a.natAbs < 2 ^ n) (h2 : b.natAbs < 2 ^ n) : (a + b).natAbs < 2 ^ (n + 1) := by
  rw [Nat.pow_succ]
  omega
theorem abs_mul_lt {a b : Int} {n m : Nat} (h1 : a.natAbs < 2 ^ n) (h2 : b.natAbs < 2 ^ m) : (a * b).natAbs < 2 ^ (n + m) := by
  rw [Int.natAbs_mul]
  exact lt_mul_pow h1 h2
theorem den_ne (q : Rat) : (q.den : Int) ≠ 0 := by have := q.den_nz; omega
theorem add_divInt (p q : Rat) : p + q = Rat.divInt (p.num * q.den + q.num * p.den) ((p.den : Int) * q.den) := by
  have := Rat.divInt_add_divInt p.num q.num (den_ne p) (den_ne q)
  rw [Rat.num_divInt_den, Rat.num_divInt_den] at this
  rw [this]
theorem sub_divInt (p q : Rat) : p - q = Rat.divInt (p.num * q.den - q.num * p.den) ((p.den : Int) * q.den) := by
  have := Rat.divInt_sub_divInt p.num q.num (den_ne p) (den_ne q)
  rw [Rat.num_divInt_den, Rat.num_divInt_den] at this
  rw [this]
theorem mul_divInt (p q : Rat) : p * q = Rat.divInt (p.num * q.num) ((p.den : Int) * q.den) := by
  have := Rat.divInt_mul_divInt p.num q.num (d₁ := p.den) (d₂ := q.den)
  rw [Rat.num_divInt_den, Rat.num_divInt_den] at this
  rw [this]
theorem div_divInt (p q : Rat) : p / q = Rat.divInt (p.num * q.den) ((p.den : Int) * q.num) := by
  have h2 : q⁻¹ = Rat.divInt q.den q.num := by rw [← Rat.inv_divInt, Rat.num_divInt_den]
  have := Rat.divInt_mul_divInt p.num q.den (d₁ := p.den) (d₂ := q.num)
  rw [Rat.num_divInt_den, ← h2] at this
  rw [Rat.div_def, this]
theorem den_lt {n : Nat} {q : Rat} (h : Bt n q) : ((q.den : Int)).natAbs < 2 ^ n := h.2
theorem Bt.add {n m : Nat} {p q : Rat} (h1 : Bt n p) (h2 : Bt m q) : Bt (n + m + 1) (p + q) := by
  rw [add_divInt]
  refine Bt.divInt (Int.mul_ne_zero (den_ne p) (den_ne q)) (natAbs_add_lt (abs_mul_lt h1.1 (den_lt h2)) ?_) ?_
  · rw [Nat.add_comm]; exact abs_mul_lt h2.1 (den_lt h1)
  · exact Nat.lt_of_lt_of_le (abs_mul_lt (den_lt h1) (den_lt h2)) (Nat.pow_le_pow_right (by decide) (Nat.le_succ _))
theorem Bt.neg {n : Nat} {q : Rat} (h : Bt n q) : Bt n (-q) := ⟨by rw [Rat.neg_num, Int.natAbs_neg]; exact h.1, h.2⟩
theorem Bt.sub {n m : Nat} {p q : Rat} (h1 : Bt n p) (h2 : Bt m q) : Bt (n + m + 1) (p - q) := by rw [Rat.sub_eq_add_neg]; exact h1.add h2.neg
theorem Bt.mul {n m : Nat} {p q : Rat} (h1 : Bt n p) (h2 : Bt m q) : Bt (n + m) (p * q) := by
  rw [mul_divInt]
  exact Bt.divInt (Int.mul_ne_zero (den_ne p) (den_ne q)) (abs_mul_lt h1.1 h2.1) (abs_mul_lt (den_lt h1) (den_lt h2))
theorem num_ne {q : Rat} (h : q ≠ 0) : q.num ≠ 0 := fun z => h (Rat.num_eq_zero.mp z)
theorem Bt.div {n m : Nat} {p q : Rat} (h1 : Bt n p) (h2 : Bt m q) (hq : q ≠ 0) : Bt (n + m) (p / q) := by
  rw [div_divInt]
  exact Bt.divInt (Int.mul_ne_zero (den_ne p) (num_ne hq)) (abs_mul_lt h1.1 (den_lt h2)) (abs_mul_lt (den_lt h1) h2.1)
theorem pow_lt {a n m : Nat} (h : a < 2 ^ n) (k : n ≤ m) : a < 2 ^ m := Nat.lt_of_lt_of_le h (Nat.pow_le_pow_right (by decide) k)
theorem mok_bt {i j : Int} {n : Nat} (h1 : i.natAbs < 2 ^ n) (h2 : j.natAbs < 2 ^ n) (hn : n ≤ 400000) : mulOk i j := .inr (.inr ⟨pow_lt h1 hn, pow_lt h2 hn⟩)
theorem red_eq {n d : Int} (hd : d ≠ 0) : D.tup [.int (n.fdiv (if d < 0 then -(Int.gcd n d : Int) else Int.gcd n d)), .int (d.fdiv (if d < 0 then -(Int.gcd n d : Int) else Int.gcd n d))] = ratD (Rat.divInt n d) := by
  have hg : 0 < Int.gcd n d := Int.gcd_pos_of_ne_zero_right _ hd
  obtain ⟨x, hx⟩ : (Int.gcd n d : Int) ∣ n := Int.gcd_dvd_left ..
  obtain ⟨y, hy⟩ : (Int.gcd n d : Int) ∣ d := Int.gcd_dvd_right ..
  unfold ratD
  rw [Rat.num_divInt, Rat.den_divInt, if_neg hd, Int.gcd_comm d n]
  generalize Int.gcd n d = g at *
  have hg0 : (g : Int) ≠ 0 := by omega
  have e1 : ∀ z : Int, ((g : Int) * z) / (g : Int) = z := fun z => Int.mul_ediv_cancel_left _ hg0
  have e2 : ∀ z : Int, ((g : Int) * z).fdiv (g : Int) = z := fun z => by rw [Int.fdiv_eq_ediv_of_nonneg _ (by omega), e1]
  have e3 : ∀ z : Int, ((g : Int) * z).fdiv (-(g : Int)) = -z := fun z => by
    have : (g : Int) * z = (-(g : Int)) * (-z) := by rw [Int.neg_mul_neg]
    rw [this, Int.mul_fdiv_cancel_left _ (by omega)]
  by_cases h : d < 0
  · rw [if_pos h, Int.sign_eq_neg_one_of_neg h]
    have f1 : n.fdiv (-(g : Int)) = -1 * n / (g : Int) := by
      rw [hx, e3, show -1 * ((g : Int) * x) = (g : Int) * (-x) by rw [Int.mul_neg]; omega, e1]
    have f2 : d.fdiv (-(g : Int)) = ((d.natAbs / g : Nat) : Int) := by
      rw [Int.natCast_ediv, show ((d.natAbs : Nat) : Int) = (g : Int) * (-y) by rw [Int.mul_neg, ← hy]; omega, e1]
      conv => lhs; rw [hy]
      rw [e3]
    rw [f1, f2]
  · have hp : 0 < d := by omega
    rw [if_neg h, Int.sign_eq_one_of_pos hp, Int.one_mul]
    have f1 : n.fdiv (g : Int) = n / (g : Int) := Int.fdiv_eq_ediv_of_nonneg _ (by omega)
    have f2 : d.fdiv (g : Int) = ((d.natAbs / g : Nat) : Int) := by
      rw [Int.natCast_ediv, show ((d.natAbs : Nat) : Int) = d by omega, Int.fdiv_eq_ediv_of_nonneg _ (by omega)]
    rw [f1, f2]
def redO : OC := fun ds Q => match ds with
  | [.int n, .int d] => (d ≠ 0 ∧ n.natAbs < 2 ^ 7900 ∧ d.natAbs < 2 ^ 7900) ∧ Q (ratD (Rat.divInt n d))
  | _ => False
theorem redO_mono : MonoC redO := fun ds P Q h q => by
  unfold redO at *
  split at q
  · exact ⟨q.1, h _ q.2⟩
  · exact q.elim
theorem gcd_small {n d : Int} (hd : d ≠ 0) (h : d.natAbs < 2 ^ 7900) : small (if d < 0 then -(Int.gcd n d : Int) else Int.gcd n d) := by
  have h1 : Int.gcd n d ≤ d.natAbs := Nat.le_of_dvd (by omega) (Int.natAbs_dvd_natAbs.mpr (Int.gcd_dvd_right (a := n) (b := d)) |> fun h => by simpa using h)
  unfold small
  refine Nat.lt_of_le_of_lt ?_ (pow_lt h (by decide))
  split <;> omega
theorem gcd_nz {n d : Int} (hd : d ≠ 0) : (if d < 0 then -(Int.gcd n d : Int) else Int.gcd n d) ≠ 0 := by
  have hg : 0 < Int.gcd n d := Int.gcd_pos_of_ne_zero_right _ hd
  split <;> omega
def opO2 (C : Rat → Rat → Prop) (f : Rat → Rat → Rat) : OC := fun ds Q => match ds with
  | [.tup [.int a, .int b], .tup [.int c, .int d]] => ∃ p q : Rat, a = p.num ∧ b = (p.den : Int) ∧ c = q.num ∧ d = (q.den : Int) ∧ (C p q ∧ Bt 3900 p ∧ Bt 3900 q) ∧ Q (ratD (f p q))
  | _ => False
theorem opO2_mono {C : Rat → Rat → Prop} {f : Rat → Rat → Rat} : MonoC (opO2 C f) := fun ds P Q h q => by
  unfold opO2 at *
  split at q
  · obtain ⟨p, q', e1, e2, e3, e4, c, q⟩ := q
    exact ⟨p, q', e1, e2, e3, e4, c, h _ q⟩
  · exact q.elim
abbrev minusO : OC := opO2 (fun _ _ => True) fun p q => p - q
theorem minusO_mono : MonoC minusO := opO2_mono
abbrev overO : OC := opO2 (fun _ q => q ≠ 0) fun p q => p / q
theorem overO_mono : MonoC overO := opO2_mono
theorem minus_at {Q : D → Prop} {p q : Rat} (hp : Bt 3900 p) (hq : Bt 3900 q) (h : Q (ratD (p - q))) :
    mulOk p.num q.den ∧ mulOk q.num p.den ∧ mulOk p.den q.den ∧ redO [.int (p.num * q.den - q.num * p.den), .int ((p.den : Int) * q.den)] Q := by
  refine ⟨mok_bt hp.1 (den_lt hq) (by decide), mok_bt hq.1 (den_lt hp) (by decide), mok_bt (den_lt hp) (den_lt hq) (by decide), ⟨Int.mul_ne_zero (den_ne p) (den_ne q), ?_, ?_⟩, ?_⟩
  · rw [Int.sub_eq_add_neg]
    exact pow_lt (natAbs_add_lt (abs_mul_lt hp.1 (den_lt hq)) (by rw [Int.natAbs_neg]; exact abs_mul_lt hq.1 (den_lt hp))) (by decide)
  · exact pow_lt (abs_mul_lt (den_lt hp) (den_lt hq)) (by decide)
  · rw [← sub_divInt]; exact h
theorem over_at {Q : D → Prop} {p q : Rat} (hq0 : q ≠ 0) (hp : Bt 3900 p) (hq : Bt 3900 q) (h : Q (ratD (p / q))) :
    mulOk p.num q.den ∧ mulOk p.den q.num ∧ redO [.int (p.num * q.den), .int ((p.den : Int) * q.num)] Q := by
  refine ⟨mok_bt hp.1 (den_lt hq) (by decide), mok_bt (den_lt hp) hq.1 (by decide), ⟨Int.mul_ne_zero (den_ne p) (num_ne hq0), ?_, ?_⟩, ?_⟩
  · exact pow_lt (abs_mul_lt hp.1 (den_lt hq)) (by decide)
  · exact pow_lt (abs_mul_lt (den_lt hp) hq.1) (by decide)
  · rw [← div_divInt]; exact h
theorem mir_reduced : ∀ ds Q, ds.length = 2 → redO ds Q → sem_reduced gcO (startE ["numerator", "denominator", "common"] ds) (endK Q) := fun ds Q hl q => by
  unfold redO at q
  split at q
  · rename_i n d
    obtain ⟨⟨hd, h1, h2⟩, q⟩ := q
    rw [← red_eq hd] at q
    have hs := gcd_small (n := n) hd h2
    have hz := gcd_nz (n := n) hd
    refine br_d (c := d < 0) (fun h => ?_) (fun h => ?_)
    · rw [if_pos h] at q hs hz
      exact ⟨⟨hz, hs⟩, ⟨hz, hs⟩, (show 2 ≤ big by decide), q⟩
    · rw [if_neg h] at q hs hz
      exact ⟨⟨hz, hs⟩, ⟨hz, hs⟩, (show 2 ≤ big by decide), q⟩
  · exact q.elim
section
variable {Pg : Program} {w : World} {K : Kf} {mg : Str → Option Value} {base : Heap}
theorem ok_reduced (tx : Tx K mg) : FnOk Pg w K mg base CX0 2 tx.a_reduced tx.d_reduced ["numerator", "denominator"] (spOf K 2 redO) :=
  Z0.fn_ok tx.f_reduced sc_reduced rfl (walk_reduced tx gcO_mono (ok_gcd tx) (by decide)) mir_reduced
end
theorem mir_minus : ∀ ds Q, ds.length = 2 → minusO ds Q → sem_minus redO (startE ["one", "other"] ds) (endK Q) := fun ds Q hl q => by
  unfold minusO opO2 at q
  split at q
  · obtain ⟨p, q', rfl, rfl, rfl, rfl, ⟨hc, hp, hq⟩, q⟩ := q
    exact minus_at hp hq q
  · exact q.elim
section
variable {Pg : Program} {w : World} {K : Kf} {mg : Str → Option Value} {base : Heap}
theorem ok_minus (tx : Tx K mg) : FnOk Pg w K mg base CX0 3 tx.a_minus tx.d_minus ["one", "other"] (spOf K 2 minusO) :=
  Z0.fn_ok tx.f_minus sc_minus rfl (walk_minus tx redO_mono (ok_reduced tx) (by decide)) mir_minus
end
theorem mir_over : ∀ ds Q, ds.length = 2 → overO ds Q → sem_over redO (startE ["one", "other"] ds) (endK Q) := fun ds Q hl q => by
  unfold overO opO2 at q
  split at q
  · obtain ⟨p, q', rfl, rfl, rfl, rfl, ⟨hc, hp, hq⟩, q⟩ := q
    exact over_at hc hp hq q
  · exact q.elim
section
variable {Pg : Program} {w : World} {K : Kf} {mg : Str → Option Value} {base : Heap}
theorem ok_over (tx : Tx K mg) : FnOk Pg w K mg base CX0 3 tx.a_over tx.d_over ["one", "other"] (spOf K 2 overO) :=
  Z0.fn_ok tx.f_over sc_over rfl (walk_over tx redO_mono (ok_reduced tx) (by decide)) mir_over
end
def pv (ps : List Rat) (x : Rat) : Rat := ps.foldr (fun c t => t * x + c) 0
theorem d12 : ((1 : Rat) / 12).den = 12 := by decide +kernel
def up (n m : Int) : Int := -((-n).fdiv m)
theorem up_eq (n m : Int) : up n m * m - n = (-n).fmod m := by
  have := Int.mul_fdiv_add_fmod (-n) m
  unfold up
  rw [Int.neg_mul, Int.mul_comm]
  omega
theorem up_lo {n m : Int} (hm : 0 < m) : 0 ≤ up n m * m - n := by rw [up_eq]; exact Int.fmod_nonneg_of_pos _ hm
theorem up_hi {n m : Int} (hm : 0 < m) : up n m * m - n < m := by rw [up_eq]; exact Int.fmod_lt_of_pos _ hm
def hj (n m : Int) : List Int := if h : 0 < m then up n m :: hj m (up n m * m - n) else []
termination_by m.toNat
decreasing_by
  have := up_hi (n := n) h
  omega
theorem hj_pos {n m : Int} (h : 0 < m) : hj n m = up n m :: hj m (up n m * m - n) := by rw [hj, dif_pos h]
theorem hj_zero {n m : Int} (h : ¬ 0 < m) : hj n m = [] := by rw [hj, dif_neg h]
theorem up_ge {n m : Int} (hm : 0 < m) (h : m < n) : 2 ≤ up n m := by
  have h1 := up_lo (n := n) hm
  by_cases h2 : 2 ≤ up n m
  · exact h2
  · have : up n m * m ≤ 1 * m := Int.mul_le_mul_of_nonneg_right (by omega) (by omega)
    omega
theorem gcd_up {n m : Int} (b : Int) (h : Int.gcd n m = 1) : Int.gcd m (b * m - n) = 1 := by
  have h1 : (Int.gcd m (b * m - n) : Int) ∣ m := Int.gcd_dvd_left ..
  have h2 : (Int.gcd m (b * m - n) : Int) ∣ b * m - n := Int.gcd_dvd_right ..
  have h3 : (Int.gcd m (b * m - n) : Int) ∣ n := by
    have := Int.dvd_sub (Int.dvd_trans h1 (Int.dvd_mul_left b m)) h2
    rwa [show b * m - (b * m - n) = n by omega] at this
  have h4 : Int.gcd m (b * m - n) ∣ Int.gcd n m := Int.dvd_gcd h3 h1 |> fun h => by exact_mod_cast h
  rw [h] at h4
  exact Nat.dvd_one.mp h4
def fG (x : Rat) (rs : List Int) : Rat := rs.foldl (fun (x : Rat) (b : Int) => (b : Rat) - 1 / x) x
def fromO : OC := fun ds Q => match ds with
  | [.tup cs] => ∃ (l : List Int) (b : Int), cs = (l ++ [b]).map D.int ∧ (l.length ≤ 59 ∧ (∀ n ∈ l, 2 ≤ n ∧ n ≤ 1000) ∧ 2 ≤ b ∧ b ≤ 1000) ∧ Q (ratD (fG b l.reverse))
  | _ => False
theorem gt_one {x : Rat} {b : Int} (hx : 1 < x) (hb : 2 ≤ b) : 1 < (b : Rat) - 1 / x := by
  have h2 : (2 : Rat) ≤ b := by have := Rat.intCast_le_intCast.mpr hb; exact this
  have h3 : 1 / x < 1 := by
    rw [Rat.div_lt_iff (by grind)]
    grind
  grind
theorem from_loop {cs : D} {k : Kt} : ∀ (rs : List Int) (x : Rat) (y : Option Slot) (n : Nat), 1 < x → Bt (12 * n) x → n + rs.length ≤ 60 → (∀ b ∈ rs, 2 ≤ b ∧ b ≤ 1000) → (∀ y, k.nx [some (.sh cs), y, some (.sh (ratD (fG x rs)))]) →
    forL (gVar 1) (fb3_from_steps isinO overO minusO) (rs.map D.int) [some (.sh cs), y, some (.sh (ratD x))] k
  | [], x, y, n, _, _, _, _, q => q y
  | b :: rs, x, y, n, hx, hB, hn, hb, q => by
    obtain ⟨b0, b1⟩ := hb b List.mem_cons_self
    rw [List.length_cons] at hn
    have hx0 : x ≠ 0 := by grind
    have B1 : Bt 1 (1 : Rat) := ⟨by decide, by decide⟩
    have B2 : Bt (1 + 12 * n) (1 / x) := B1.div hB hx0
    have B3 : Bt 10 (b : Rat) := Bt.int (by show b.natAbs < 1024; omega) (by decide)
    refine ⟨(show 2 ≤ big by decide), (show 2 ≤ big by decide), 1, x, rfl, rfl, rfl, rfl, ⟨hx0, B1.mono (by decide), hB.mono (by omega)⟩, ?_⟩
    refine ⟨b, 1 / x, rfl, rfl, rfl, rfl, ⟨trivial, B3.mono (by decide), B2.mono (by omega)⟩, ?_⟩
    exact from_loop rs _ _ (n + 1) (gt_one hx b0) ((B3.sub B2).mono (by omega)) (by omega) (fun c hc => hb c (List.mem_cons_of_mem _ hc)) q
theorem mir_from_steps : ∀ ds Q, ds.length = 1 → fromO ds Q → sem_from_steps isinO overO minusO (startE ["row", "one", "found"] ds) (endK Q) := fun ds Q hl q => by
  unfold fromO at q
  split at q
  · rename_i cs
    obtain ⟨l, b, rfl, ⟨hlen, hb, b0, b1⟩, q⟩ := q
    have hlen1 : ((l ++ [b]).map D.int).length = l.length + 1 := by rw [List.length_map, List.length_append]; rfl
    refine br_t (b := decide ((1 : Int) ≤ (((l ++ [b]).map D.int).length : Nat))) (decide_eq_true (by rw [hlen1]; omega)) ?_
    refine br_nn (b := decide (((((l ++ [b]).map D.int).length : Nat) : Int) ≤ 60)) (decide_eq_true (by rw [hlen1]; omega)) ?_
    refine ⟨le_big (by rw [hlen1]; omega), lcL_nil _ _ (fun d hd S hS => ?_) ?_⟩
    · obtain ⟨n, rfl, hn⟩ := mem_map_int hd
      have : 2 ≤ n ∧ n ≤ 1000 := by
        rcases List.mem_append.mp hn with e | e
        · exact hb n e
        · have e' : n = b := by simpa using e
          rw [e']; exact ⟨b0, b1⟩
      show S _ (!(decide (2 ≤ n) && decide (n ≤ 1000)))
      rw [dec2 this.1 this.2]
      exact hS _
    · refine ⟨Nat.zero_le _, okD_nil, okD_nil, ?_⟩
      refine br_nn (eqD_refl okD_nil) ?_
      have hat : atI ((l ++ [b]).map D.int) (-1) = some (.int b) := by
        unfold atI ixN
        rw [hlen1, if_neg (by decide), if_pos (by omega)]
        show ((l ++ [b]).map D.int)[(-1 + ((l.length + 1 : Nat) : Int)).toNat]? = some (.int b)
        rw [show (-1 + ((l.length + 1 : Nat) : Int)).toNat = l.length by omega, List.map_append]
        rw [List.getElem?_append_right (by rw [List.length_map]; exact Nat.le_refl _), List.length_map, Nat.sub_self]
        rfl
      show (match atI ((l ++ [b]).map D.int) (-1) with
        | some d => 2 ≤ big ∧ forL (gVar 1) (fb3_from_steps isinO overO minusO) ((((l ++ [b]).map D.int).take (backN ((l ++ [b]).map D.int).length (some (-2)))).reverse) [some (.sh (.tup ((l ++ [b]).map D.int))), none, some (.sh (.tup [d, .int 1]))] { endK Q with nx := fun ρ' => retS (varE 2) ρ' (endK Q) }
        | none => False)
      rw [hat]
      refine ⟨(show 2 ≤ big by decide), ?_⟩
      have hback : (((l ++ [b]).map D.int).take (backN ((l ++ [b]).map D.int).length (some (-2)))).reverse = l.reverse.map D.int := by
        have : backN ((l ++ [b]).map D.int).length (some (-2)) = (l.map D.int).length := by
          rw [hlen1, List.length_map]
          show ((if (-2 : Int) < 0 then max (-2 + ((l.length + 1 : Nat) : Int)) (-1) else min (-2) (((l.length + 1 : Nat) : Int) - 1)) + 1).toNat = l.length
          rw [if_pos (by decide)]
          omega
        rw [this, List.map_append, List.take_left, List.map_reverse]
      rw [hback]
      have B3 : Bt 10 (b : Rat) := Bt.int (by show b.natAbs < 1024; omega) (by decide)
      have hb1 : (1 : Rat) < (b : Rat) := by
        have := Rat.intCast_lt_intCast.mpr (show (1 : Int) < b by omega)
        exact this
      exact from_loop l.reverse (b : Rat) none 1 hb1 (B3.mono (by decide)) (by rw [List.length_reverse]; omega) (fun c hc => hb c (List.mem_reverse.mp hc)) fun y => q
  · exact q.elim
section
variable {Pg : Program} {w : World} {K : Kf} {mg : Str → Option Value} {base : Heap}
theorem ok_from_steps (tx : Tx K mg) : FnOk Pg w K mg base CX0 4 tx.a_from_steps tx.d_from_steps ["row"] (spOf K 1 fromO) :=
  Z0.fn_ok tx.f_from_steps sc_from_steps rfl (walk_from_steps tx isinO_mono (ok_is_in tx) (by decide) overO_mono (ok_over tx) (by decide) minusO_mono (ok_minus tx) (by decide)) mir_from_steps
end
theorem turned {N M : Int} : ∀ (k : Nat) (r s p q : Int), s.toNat ≤ k → 0 ≤ s → s < r → Int.gcd r s = 1 → 0 < q → q ≤ p → p * r - q * s = N → N ∣ q * M - r → N ∣ p * M - s →
    ∃ q' : Int, fG ((p : Rat) / q) (hj r s) = (N : Rat) / q' ∧ 0 < q' ∧ N ∣ q' * M - 1 := fun k => by
  induction k with
  | zero =>
    intro r s p q hk s0 hs hg hq hp hN d1 d2
    have hs0 : s = 0 := by omega
    subst hs0
    have hr : r = 1 := by
      have := Int.gcd_zero_right (a := r)
      omega
    subst hr
    rw [hj_zero (by omega)]
    have : p = N := by omega
    exact ⟨q, by rw [this]; rfl, hq, d1⟩
  | succ k ih =>
    intro r s p q hk s0 hs hg hq hp hN d1 d2
    by_cases h : 0 < s
    · have h1 := up_lo (n := r) h
      have h2 := up_hi (n := r) h
      have h3 := up_ge h hs
      rw [hj_pos h]
      have hpos : 2 * p ≤ up r s * p := Int.mul_le_mul_of_nonneg_right h3 (by omega)
      obtain ⟨q', e1, e2, e3⟩ := ih s (up r s * s - r) (up r s * p - q) p (by omega) h1 h2 (gcd_up _ hg) (by omega) (by omega) (by rw [← hN]; grind) d2 (by
        have d3 := Int.dvd_sub (Int.dvd_trans d2 (Int.dvd_mul_left (up r s) (p * M - s))) d1
        have e : up r s * (p * M - s) - (q * M - r) = (up r s * p - q) * M - (up r s * s - r) := by grind
        rwa [e] at d3)
      refine ⟨q', ?_, e2, e3⟩
      rw [← e1]
      show fG ((up r s : Rat) - 1 / ((p : Rat) / q)) (hj s (up r s * s - r)) = _
      congr 1
      have hp0 : (p : Rat) ≠ 0 := by
        intro z
        have : p = 0 := Rat.intCast_eq_zero_iff.mp z
        omega
      have hq0 : (q : Rat) ≠ 0 := by
        intro z
        have : q = 0 := Rat.intCast_eq_zero_iff.mp z
        omega
      rw [Rat.intCast_sub, Rat.intCast_mul]
      grind
    · have hs0 : s = 0 := by omega
      subst hs0
      have hr : r = 1 := by
        have := Int.gcd_zero_right (a := r)
        omega
      subst hr
      rw [hj_zero (by omega)]
      have : p = N := by omega
      exact ⟨q, by rw [this]; rfl, hq, d1⟩
def sz : Nat → Nat
  | 0 => 0
  | n + 1 => sz ((n + 1) / 2) + 1
decreasing_by exact Nat.div_lt_self (Nat.succ_pos _) (by decide)
abbrev tpI (r : List Int) : D := .tup (r.map D.int)
theorem py_ints : ∀ r : List Int, D.pyl (r.map D.int) = r.map PyData.int
  | [] => rfl
  | x :: r => by rw [List.map_cons, List.map_cons]; show D.py (.int x) :: D.pyl (r.map D.int) = _; rw [py_ints r]; rfl
theorem flatPs_ints : ∀ r : List Int, flatPs (r.map PyData.int) = r
  | [] => by simp [flatPs]
  | x :: r => by rw [List.map_cons]; simp only [flatPs, flatP]; rw [flatPs_ints r]; rfl
theorem flat_tp (r : List Int) : flatD (tpI r) = r := by
  show flatP (PyData.tuple (D.pyl (r.map D.int))) = r
  rw [py_ints]; simp only [flatP]; exact flatPs_ints r
def rngL (lo hi : Int) : List Int := (List.range (hi + 1 - lo).toNat).map fun (i : Nat) => lo + (i : Int)
theorem rngD_ints {lo hi : Int} : rngD lo (hi + 1) = (rngL lo hi).map D.int := by
  unfold rngD rngL
  rw [List.map_map]; rfl
noncomputable def x_is_in (p_value p_least p_most : D) : Rs D :=
  (Rs.bd (Rs.bd (Rs.bd (Rs.bd (Rs.bd (.ok p_value) fun a3 => Rs.bd (.ok (.ty .int)) fun a4 => .ok [a3, a4]) isiX) boX) fun b15 => cond b15 (Rs.bd (Rs.bd (Rs.bd (Rs.bd (Rs.bd (.ok p_value) fun a7 => Rs.bd (.ok (.ty .bool)) fun a8 => .ok [a7, a8]) isiX) boX) fun b => .ok (!b)) fun b14 => cond b14 (Rs.bd (.ok p_least) fun a9 => Rs.bd (.ok p_value) fun a10 => Rs.bd (leX a9 a10) fun a11 => Rs.bd (boX a11) fun a12 => cond a12 (Rs.bd (.ok p_most) fun a13 => Rs.bd (leX a10 a13) boX) (.ok false)) (.ok false)) (.ok false)) fun b => .ok (.bl b))
theorem gx_is_in (p_value p_least p_most : D) : GT KF FoF (startE ["value", "least", "most"] [p_value, p_least, p_most]) (sem_is_in ) (x_is_in p_value p_least p_most) := by
  unfold x_is_in
  exact Z0.gt_one (gt_retF (qx_vB (qx_and (qx_tV (qx_b isiX_s (qx_a2 (qx_varP rfl) qx_c))) (qx_and (qx_not (qx_tV (qx_b isiX_s (qx_a2 (qx_varP rfl) qx_c)))) (qx_ch iiX_s iiX_s (qx_varP rfl) (qx_varP rfl) (qx_varP rfl))))))
section
variable {Pg : Program} {w : World} {K : Kf} {mg : Str → Option Value} {base : Heap}
theorem xk_is_in (tx : Tx K mg) : FnOk Pg w K mg base CX0 1 tx.a_is_in tx.d_is_in ["value", "least", "most"] (spOf K 3 (x3O x_is_in)) :=
  Z0.fn_ok tx.f_is_in sc_is_in rfl (walk_is_in tx ) (mir3 gx_is_in)
end
noncomputable def x_gcd : D → D → Rs D := y2 gcO
section
variable {Pg : Program} {w : World} {K : Kf} {mg : Str → Option Value} {base : Heap}
theorem xk_gcd (tx : Tx K mg) : FnOk Pg w K mg base CX0 1 tx.a_gcd tx.d_gcd ["one", "other"] (spOf K 2 (x2O x_gcd)) := ok_weak (ok_gcd tx) y2_le
end
noncomputable def x_is_vector (p_value p_size p_low p_high : D) : Rs D :=
  (Rs.bd (Rs.bd (Rs.bd (Rs.bd (Rs.bd (Rs.bd (.ok p_value) fun a1 => Rs.bd (.ok (.ty .tuple)) fun a2 => .ok [a1, a2]) isiX) boX) fun b => .ok (!b)) fun b6 => cond b6 (.ok true) (Rs.bd (Rs.bd (Rs.bd (.ok p_value) lenX) fun a4 => Rs.bd (.ok p_size) fun a5 => neX a4 a5) boX)) fun b7 => cond b7
  (.ok (.bl false))
  (Rs.bd (Rs.bd (Rs.bd (Rs.bd (.ok p_value) itemsX) fun l9 => lfX (fun d8 => (Rs.bd (Rs.bd (Rs.bd (Rs.bd (.ok d8) fun a10 => Rs.bd (.ok p_low) fun a11 => Rs.bd (.ok p_high) fun a12 => x_is_in a10 a11 a12) boX) fun b => .ok (!b)) fun b13 => cond b13 (Rs.bd (.ok d8) fun e => .ok (some e)) (.ok none))) l9) fun l => .ok (.lst l)) fun a14 => Rs.bd (Rs.bd (Rs.bd (.ok []) bigX) fun l => .ok (.lst l)) fun a15 => eqX a14 a15))
theorem gx_is_vector (p_value p_size p_low p_high : D) : GT KF FoF (startE ["value", "size", "low", "high", "x"] [p_value, p_size, p_low, p_high]) (sem_is_vector (x3O x_is_in)) (x_is_vector p_value p_size p_low p_high) := by
  unfold x_is_vector
  exact Z0.gt_one (gt_as (gt_ifD (qx_or (qx_not (qx_tV (qx_b isiX_s (qx_a2 (qx_varP rfl) qx_c)))) (qx_tV (qx_op neX_s (qx_b1 lenX_s (qx_varP rfl)) (qx_varP rfl))))
  (gt_retF qx_c)
  (gt_pass (gt_retF (qx_op eqX_s (qx_ofF (qx_lf (qx_seq (qx_varP rfl)) fun d8 => (gx_var (fil_j (qx_not (qx_tV (qx_call3 (qx_varE rfl) (qx_varE rfl) (qx_varE rfl) _))) (qx_varE rfl))))) (qx_ofF (qx_lst qx_nil)))))))
section
variable {Pg : Program} {w : World} {K : Kf} {mg : Str → Option Value} {base : Heap}
theorem xk_is_vector (tx : Tx K mg) : FnOk Pg w K mg base CX0 2 tx.a_is_vector tx.d_is_vector ["value", "size", "low", "high"] (spOf K 4 (x4O x_is_vector)) :=
  Z0.fn_ok tx.f_is_vector sc_is_vector rfl (walk_is_vector tx x3O_mono (xk_is_in tx) (by first | decide | omega)) (mir4 gx_is_vector)
end
noncomputable def x_from_steps : D → Rs D := y1 fromO
section
variable {Pg : Program} {w : World} {K : Kf} {mg : Str → Option Value} {base : Heap}
theorem xk_from_steps (tx : Tx K mg) : FnOk Pg w K mg base CX0 4 tx.a_from_steps tx.d_from_steps ["row"] (spOf K 1 (x1O x_from_steps)) := ok_weak (ok_from_steps tx) y1_le
end
noncomputable def x_turn (p_one p_other : D) : Rs D :=
  (Rs.bd (Rs.bd (Rs.bd (.ok p_one) fun a1 => Rs.bd (.ok (.int 0)) fun a2 => ixX a1 a2) fun a5 => Rs.bd (Rs.bd (.ok p_other) fun a3 => Rs.bd (.ok (.int 1)) fun a4 => ixX a3 a4) fun a6 => mulX a5 a6) fun a13 => Rs.bd (Rs.bd (Rs.bd (.ok p_one) fun a7 => Rs.bd (.ok (.int 1)) fun a8 => ixX a7 a8) fun a11 => Rs.bd (Rs.bd (.ok p_other) fun a9 => Rs.bd (.ok (.int 0)) fun a10 => ixX a9 a10) fun a12 => mulX a11 a12) fun a14 => subX a13 a14)
theorem gx_turn (p_one p_other : D) : GT KF FoF (startE ["one", "other"] [p_one, p_other]) (sem_turn ) (x_turn p_one p_other) := by
  unfold x_turn
  exact Z0.gt_one (gt_retF (qx_op iiX_s (qx_op mulX_s (qx_op ixX_s (qx_varP rfl) qx_c) (qx_op ixX_s (qx_varP rfl) qx_c)) (qx_op mulX_s (qx_op ixX_s (qx_varP rfl) qx_c) (qx_op ixX_s (qx_varP rfl) qx_c))))
section
variable {Pg : Program} {w : World} {K : Kf} {mg : Str → Option Value} {base : Heap}
theorem xk_turn (tx : Tx K mg) : FnOk Pg w K mg base CX0 1 tx.a_turn tx.d_turn ["one", "other"] (spOf K 2 (x2O x_turn)) :=
  Z0.fn_ok tx.f_turn sc_turn rfl (walk_turn tx ) (mir2 gx_turn)
end
noncomputable def x_first_after (p_one p_other : D) : Rs D :=
  (Rs.bd (Rs.bd (Rs.bd (Rs.bd (Rs.bd (.ok p_one) fun a1 => Rs.bd (.ok p_other) fun a2 => x_turn a1 a2) fun a3 => Rs.bd (.ok (.int 0)) fun a4 => gtX a3 a4) boX) fun b => cond b (.ok (.int 1)) (Rs.bd (.ok (.int 1)) negX)) fun side_10 => Rs.bd (Rs.bd (Rs.bd (.ok p_one) fun a8 => Rs.bd (.ok p_other) fun a9 => x_turn a8 a9) absX) fun whole_11 =>
  (Rs.bd (.ok p_one) fun d12 => (un2 d12 fun u13 u14 => (Rs.bd (Rs.bd (Rs.bd (.ok (.int 1)) fun a15 => Rs.bd (.ok (.int 0)) fun a16 => Rs.bd (.ok (.int 0)) fun a17 => Rs.bd (.ok (.int 1)) fun a18 => .ok [a15, a16, a17, a18]) fun l => grd (l.length ≤ big) (.ok (.tup l))) fun d19 => (un4 d19 fun u20 u21 u22 u23 => (Rs.bd (whX (fun (s26 : D × D × D × D × D × D) => (Rs.bd (Rs.bd (.ok s26.2.1) fun a29 => Rs.bd (.ok (.int 0)) fun a30 => neX a29 a30) boX)) (fun (s26 : D × D × D × D × D × D) => (Rs.bd (Rs.bd (.ok s26.1) fun a33 => Rs.bd (.ok s26.2.1) fun a34 => fdivX a33 a34) fun factor_32 =>
  (Rs.bd (.ok s26.2.1) fun x_39 => Rs.bd (Rs.bd (.ok s26.1) fun a37 => Rs.bd (Rs.bd (.ok factor_32) fun a35 => Rs.bd (.ok s26.2.1) fun a36 => mulX a35 a36) fun a38 => subX a37 a38) fun y_40 =>
  (Rs.bd (Rs.bd (Rs.bd (.ok s26.2.2.2.2.1) fun a49 => Rs.bd (.ok s26.2.2.2.2.2) fun a50 => Rs.bd (Rs.bd (.ok s26.2.2.1) fun a43 => Rs.bd (Rs.bd (.ok factor_32) fun a41 => Rs.bd (.ok s26.2.2.2.2.1) fun a42 => mulX a41 a42) fun a44 => subX a43 a44) fun a51 => Rs.bd (Rs.bd (.ok s26.2.2.2.1) fun a47 => Rs.bd (Rs.bd (.ok factor_32) fun a45 => Rs.bd (.ok s26.2.2.2.2.2) fun a46 => mulX a45 a46) fun a48 => subX a47 a48) fun a52 => .ok [a49, a50, a51, a52]) fun l => grd (l.length ≤ big) (.ok (.tup l))) fun d53 => (un4 d53 fun u54 u55 u56 u57 => (.ok (x_39, y_40, u54, u55, u56, u57))))))) FU (u13, u14, u20, u21, u22, u23)) fun s27 =>
  (Rs.bd (Rs.bd (Rs.bd (Rs.bd (.ok s27.1) fun a60 => Rs.bd (.ok (.int 0)) fun a61 => gtX a60 a61) boX) fun b => cond b (.ok side_10) (Rs.bd (.ok side_10) negX)) fun sign_59 =>
  (Rs.bd (Rs.bd (Rs.bd (Rs.bd (Rs.bd (.ok s27.2.2.2.1) negX) fun a63 => Rs.bd (.ok sign_59) fun a64 => mulX a63 a64) fun a67 => Rs.bd (Rs.bd (.ok s27.2.2.1) fun a65 => Rs.bd (.ok sign_59) fun a66 => mulX a65 a66) fun a68 => .ok [a67, a68]) fun l => grd (l.length ≤ big) (.ok (.tup l))) fun way_62 =>
  (Rs.bd (Rs.bd (Rs.bd (.ok way_62) fun a70 => Rs.bd (.ok p_other) fun a71 => x_turn a70 a71) fun a72 => Rs.bd (.ok side_10) fun a73 => mulX a72 a73) fun behind_69 =>
  (Rs.bd (Rs.bd (Rs.bd (.ok behind_69) fun a75 => Rs.bd (.ok whole_11) fun a76 => fdivX a75 a76) negX) fun factor_74 =>
  (Rs.bd (Rs.bd (Rs.bd (Rs.bd (.ok way_62) fun a77 => Rs.bd (.ok (.int 0)) fun a78 => ixX a77 a78) fun a83 => Rs.bd (Rs.bd (.ok factor_74) fun a81 => Rs.bd (Rs.bd (.ok p_one) fun a79 => Rs.bd (.ok (.int 0)) fun a80 => ixX a79 a80) fun a82 => mulX a81 a82) fun a84 => addX a83 a84) fun a93 => Rs.bd (Rs.bd (Rs.bd (.ok way_62) fun a85 => Rs.bd (.ok (.int 1)) fun a86 => ixX a85 a86) fun a91 => Rs.bd (Rs.bd (.ok factor_74) fun a89 => Rs.bd (Rs.bd (.ok p_one) fun a87 => Rs.bd (.ok (.int 1)) fun a88 => ixX a87 a88) fun a90 => mulX a89 a90) fun a92 => addX a91 a92) fun a94 => .ok [a93, a94]) fun l => grd (l.length ≤ big) (.ok (.tup l)))))))))))))
theorem gx_first_after (p_one p_other : D) : GT KF FoF (startE ["one", "other", "side", "whole", "x", "y", "p", "q", "r", "s", "factor", "sign", "way", "behind"] [p_one, p_other]) (sem_first_after (x2O x_turn)) (x_first_after p_one p_other) := by
  unfold x_first_after
  exact Z0.gt_one (gt_as (gt_par (qx_ifE (qx_tV (qx_op iiX_s (qx_call2 (qx_varE rfl) (qx_varE rfl) _) qx_c)) qx_c (qx_un negX_s qx_c)) (qx_b1 absX_s (qx_call2 (qx_varE rfl) (qx_varE rfl) _)) fun side_10 whole_11 =>
  (gt_as (gt_asg (qx_varE rfl) fun d12 => (gx_t2 fun u13 u14 => (gx_var (gx_var (gt_as (gt_asg (qx_tup (qx_a4 qx_c qx_c qx_c qx_c)) fun d19 => (gx_t4 fun u20 u21 u22 u23 => (gx_var (gx_var (gx_var (gx_var (gt_as (gt_wh (E := (fun (s25 : D × D × D × D × D × D) (ρ : REnv) => ∃ g24 : Option Slot, ρ = [some (.sh p_one), some (.sh p_other), some (.sh side_10), some (.sh whole_11), some (.sh s25.1), some (.sh s25.2.1), some (.sh s25.2.2.1), some (.sh s25.2.2.2.1), some (.sh s25.2.2.2.2.1), some (.sh s25.2.2.2.2.2), g24, none, none, none])) ⟨_, rfl⟩ (fun s26 ρ h => (by obtain ⟨g28, rfl⟩ := h; exact (qx_tV (qx_op neX_s (qx_varP rfl) qx_c)))) (fun s26 ρ h => (by obtain ⟨g31, rfl⟩ := h; exact (gt_as (gt_set (qx_op fdivX_s (qx_varP rfl) (qx_varP rfl)) fun factor_32 =>
  (gt_as (gt_par (qx_varE rfl) (qx_op iiX_s (qx_varP rfl) (qx_op mulX_s (qx_varP rfl) (qx_varP rfl))) fun x_39 y_40 =>
  (gt_asg (qx_tup (qx_a4 (qx_varE rfl) (qx_varE rfl) (qx_op iiX_s (qx_varP rfl) (qx_op mulX_s (qx_varP rfl) (qx_varP rfl))) (qx_op iiX_s (qx_varP rfl) (qx_op mulX_s (qx_varP rfl) (qx_varP rfl))))) fun d53 => (gx_t4 fun u54 u55 u56 u57 => (gx_var (gx_var (gx_var (gx_var (gt_endB ⟨_, rfl⟩))))))))))))) fun s27 ρ h =>
  (by obtain ⟨g58, rfl⟩ := h; exact (gt_as (gt_set (qx_ifE (qx_tV (qx_op iiX_s (qx_varP rfl) qx_c)) (qx_varE rfl) (qx_un negX_s (qx_varP rfl))) fun sign_59 =>
  (gt_as (gt_set (qx_tup (qx_a2 (qx_op mulX_s (qx_un negX_s (qx_varP rfl)) (qx_varP rfl)) (qx_op mulX_s (qx_varP rfl) (qx_varP rfl)))) fun way_62 =>
  (gt_as (gt_set (qx_op mulX_s (qx_call2 (qx_varE rfl) (qx_varE rfl) _) (qx_varP rfl)) fun behind_69 =>
  (gt_as (gt_set (qx_un negX_s (qx_op fdivX_s (qx_varP rfl) (qx_varP rfl))) fun factor_74 =>
  (gt_retF (qx_tup (qx_a2 (qx_op addX_s (qx_op ixX_s (qx_varP rfl) qx_c) (qx_op mulX_s (qx_varP rfl) (qx_op ixX_s (qx_varP rfl) qx_c))) (qx_op addX_s (qx_op ixX_s (qx_varP rfl) qx_c) (qx_op mulX_s (qx_varP rfl) (qx_op ixX_s (qx_varP rfl) qx_c)))))))))))))))))))))))))))))))
section
variable {Pg : Program} {w : World} {K : Kf} {mg : Str → Option Value} {base : Heap}
theorem xk_first_after (tx : Tx K mg) : FnOk Pg w K mg base CX0 2 tx.a_first_after tx.d_first_after ["one", "other"] (spOf K 2 (x2O x_first_after)) :=
  Z0.fn_ok tx.f_first_after sc_first_after rfl (walk_first_after tx x2O_mono (xk_turn tx) (by first | decide | omega)) (mir2 gx_first_after)
end
noncomputable def x_sums_between (p_one p_other : D) : Rs D :=
  (Rs.bd (Rs.bd (Rs.bd (Rs.bd (Rs.bd (.ok p_one) fun a2 => Rs.bd (.ok p_other) fun a3 => x_turn a2 a3) fun a4 => Rs.bd (.ok (.int 0)) fun a5 => gtX a4 a5) boX) fun b => cond b (.ok (.int 1)) (Rs.bd (.ok (.int 1)) negX)) fun side_1 => Rs.bd (Rs.bd (Rs.bd (.ok p_one) fun a7 => .ok [a7]) bigX) fun found_6 =>
  (Rs.bd (Rs.bd (Rs.bd (Rs.bd (Rs.bd (.ok p_one) fun a11 => Rs.bd (.ok p_other) fun a12 => x_turn a11 a12) absX) fun a13 => Rs.bd (.ok (.int 1)) fun a14 => eqX a13 a14) boX) fun b15 => cond b15
  (Rs.bd (Rs.bd (Rs.bd (.ok p_one) fun a16 => Rs.bd (.ok p_other) fun a17 => .ok [a16, a17]) bigX) fun l => .ok (.lst l))
  (Rs.bd (Rs.bd (.ok p_one) fun a18 => Rs.bd (.ok p_other) fun a19 => x_first_after a18 a19) fun a20 => Rs.bd (appX found_6 a20) fun found_21 =>
  (Rs.bd (whX (fun (s28 : List D) => (Rs.bd (Rs.bd (Rs.bd (.ok (.lst s28)) fun a35 => Rs.bd (Rs.bd (.ok (.int 1)) negX) fun a36 => ixX a35 a36) fun a37 => Rs.bd (.ok p_other) fun a38 => neX a37 a38) boX)) (fun (s28 : List D) => (Rs.bd (Rs.bd (Rs.bd (Rs.bd (.ok (.lst s28)) lenX) fun a45 => Rs.bd (.ok (.int 2000)) fun a46 => eqX a45 a46) boX) fun b47 => cond b47
  (Rs.bd (Rs.bd (.ok (.int 2000)) fun a48 => .ok [a48]) fun ds => .er "TooMany" ds)
  (Rs.bd (Rs.bd (.ok (.lst s28)) fun a49 => Rs.bd (Rs.bd (.ok (.int 1)) negX) fun a50 => ixX a49 a50) fun last_53 => Rs.bd (Rs.bd (.ok (.lst s28)) fun a51 => Rs.bd (Rs.bd (.ok (.int 2)) negX) fun a52 => ixX a51 a52) fun before_54 =>
  (Rs.bd (Rs.bd (Rs.bd (.ok before_54) fun a55 => Rs.bd (.ok p_other) fun a56 => x_turn a55 a56) fun a57 => Rs.bd (.ok side_1) fun a58 => mulX a57 a58) fun above_63 => Rs.bd (Rs.bd (Rs.bd (.ok last_53) fun a59 => Rs.bd (.ok p_other) fun a60 => x_turn a59 a60) fun a61 => Rs.bd (.ok side_1) fun a62 => mulX a61 a62) fun here_64 =>
  (Rs.bd (Rs.bd (Rs.bd (Rs.bd (.ok above_63) negX) fun a66 => Rs.bd (.ok here_64) fun a67 => fdivX a66 a67) negX) fun factor_65 =>
  (Rs.bd (Rs.bd (Rs.bd (Rs.bd (Rs.bd (.ok factor_65) fun a70 => Rs.bd (Rs.bd (.ok last_53) fun a68 => Rs.bd (.ok (.int 0)) fun a69 => ixX a68 a69) fun a71 => mulX a70 a71) fun a74 => Rs.bd (Rs.bd (.ok before_54) fun a72 => Rs.bd (.ok (.int 0)) fun a73 => ixX a72 a73) fun a75 => subX a74 a75) fun a84 => Rs.bd (Rs.bd (Rs.bd (.ok factor_65) fun a78 => Rs.bd (Rs.bd (.ok last_53) fun a76 => Rs.bd (.ok (.int 1)) fun a77 => ixX a76 a77) fun a79 => mulX a78 a79) fun a82 => Rs.bd (Rs.bd (.ok before_54) fun a80 => Rs.bd (.ok (.int 1)) fun a81 => ixX a80 a81) fun a83 => subX a82 a83) fun a85 => .ok [a84, a85]) fun l => grd (l.length ≤ big) (.ok (.tup l))) fun a86 => Rs.bd (appX s28 a86) fun found_87 =>
  (.ok found_87))))))) FU found_21) fun s29 =>
  (.ok (.lst s29))))))
theorem gx_sums_between (p_one p_other : D) : GT KF FoF (startE ["one", "other", "side", "found", "last", "before", "above", "here", "factor"] [p_one, p_other]) (sem_sums_between (x2O x_turn) (x2O x_first_after)) (x_sums_between p_one p_other) := by
  unfold x_sums_between
  exact Z0.gt_one (gt_as (gt_m2 (mx_sh (qx_ifE (qx_tV (qx_op iiX_s (qx_call2 (qx_varE rfl) (qx_varE rfl) _) qx_c)) qx_c (qx_un negX_s qx_c))) (mx_own (qx_lst (qx_a1 (qx_varE rfl)))) fun side_1 found_6 =>
  (gt_as (gt_ifD (qx_tV (qx_op eqX_s (qx_b1 absX_s (qx_call2 (qx_varE rfl) (qx_varE rfl) _)) qx_c))
  (gt_retF (qx_ofF (qx_lst (qx_a2 (qx_varE rfl) (qx_varE rfl)))))
  (gt_pass (gt_as (gt_app rfl (qx_call2 (qx_varE rfl) (qx_varE rfl) _) fun found_21 =>
  (gt_as (gt_wh (E := (fun (s27 : List D) (ρ : REnv) => ∃ g22 g23 g24 g25 g26 : Option Slot, ρ = [some (.sh p_one), some (.sh p_other), some (.sh side_1), some (.own s27), g22, g23, g24, g25, g26])) ⟨_, _, _, _, _, rfl⟩ (fun s28 ρ h => (by obtain ⟨g30, g31, g32, g33, g34, rfl⟩ := h; exact (qx_tV (qx_op neX_s (qx_op ixX_s (qx_varO rfl) (qx_un negX_s qx_c)) (qx_varP rfl))))) (fun s28 ρ h => (by obtain ⟨g39, g40, g41, g42, g43, rfl⟩ := h; exact (gt_as (gt_ifD (qx_tV (qx_op eqX_s (qx_b1 lenX_s (qx_varO rfl)) qx_c))
  gt_raise
  (gt_pass (gt_as (gt_par (qx_op ixX_s (qx_varO rfl) (qx_un negX_s qx_c)) (qx_op ixX_s (qx_varO rfl) (qx_un negX_s qx_c)) fun last_53 before_54 =>
  (gt_as (gt_par (qx_op mulX_s (qx_call2 (qx_varE rfl) (qx_varE rfl) _) (qx_varP rfl)) (qx_op mulX_s (qx_call2 (qx_varE rfl) (qx_varE rfl) _) (qx_varP rfl)) fun above_63 here_64 =>
  (gt_as (gt_set (qx_un negX_s (qx_op fdivX_s (qx_un negX_s (qx_varP rfl)) (qx_varP rfl))) fun factor_65 =>
  (gt_app rfl (qx_tup (qx_a2 (qx_op iiX_s (qx_op mulX_s (qx_varP rfl) (qx_op ixX_s (qx_varP rfl) qx_c)) (qx_op ixX_s (qx_varP rfl) qx_c)) (qx_op iiX_s (qx_op mulX_s (qx_varP rfl) (qx_op ixX_s (qx_varP rfl) qx_c)) (qx_op ixX_s (qx_varP rfl) qx_c)))) fun found_87 =>
  (gt_endB ⟨_, _, _, _, _, rfl⟩))))))))))))) fun s29 ρ h =>
  (by obtain ⟨g88, g89, g90, g91, g92, rfl⟩ := h; exact (gt_frz rfl (gt_retF (qx_varE rfl)))))))))))))
section
variable {Pg : Program} {w : World} {K : Kf} {mg : Str → Option Value} {base : Heap}
theorem xk_sums_between (tx : Tx K mg) : FnOk Pg w K mg base CX0 3 tx.a_sums_between tx.d_sums_between ["one", "other"] (spOf K 2 (x2O x_sums_between)) :=
  Z0.fn_ok tx.f_sums_between sc_sums_between rfl (walk_sums_between tx x2O_mono (xk_turn tx) (by first | decide | omega) x2O_mono (xk_first_after tx) (by first | decide | omega)) (mir2 gx_sums_between)
end
noncomputable def x_least_sums (p_one p_other : D) : Rs D :=
  (Rs.bd (Rs.bd (Rs.bd (Rs.bd (Rs.bd (.ok p_one) fun a1 => Rs.bd (.ok p_other) fun a2 => .ok [a1, a2]) bigX) fun l => .ok (.lst l)) itemsX) fun l34 => Rs.bd (forX (fun (s5 : Unit) d7 => (Rs.bd (Rs.bd (Rs.bd (Rs.bd (Rs.bd (.ok d7) fun a9 => Rs.bd (.ok (.int 2)) fun a10 => Rs.bd (Rs.bd (.ok (.int 1000)) negX) fun a11 => Rs.bd (.ok (.int 1000)) fun a12 => x_is_vector a9 a10 a11 a12) boX) fun b => .ok (!b)) fun b21 => cond b21 (.ok true) (Rs.bd (Rs.bd (Rs.bd (Rs.bd (.ok d7) fun a13 => Rs.bd (.ok (.int 0)) fun a14 => ixX a13 a14) fun a17 => Rs.bd (Rs.bd (.ok d7) fun a15 => Rs.bd (.ok (.int 1)) fun a16 => ixX a15 a16) fun a18 => x_gcd a17 a18) fun a19 => Rs.bd (.ok (.int 1)) fun a20 => neX a19 a20) boX)) fun b22 => cond b22
  (Rs.bd (.ok []) fun ds => .er "BadPair" ds)
  (.ok ()))) () l34) fun s6 =>
  (Rs.bd (Rs.bd (Rs.bd (Rs.bd (.ok p_one) fun a24 => Rs.bd (.ok p_other) fun a25 => x_turn a24 a25) fun a26 => Rs.bd (.ok (.int 0)) fun a27 => eqX a26 a27) boX) fun b28 => cond b28
  (Rs.bd (.ok []) fun ds => .er "BadPair" ds)
  (Rs.bd (Rs.bd (.ok p_one) fun a32 => Rs.bd (.ok p_other) fun a33 => x_sums_between a32 a33) tupleX)))
theorem gx_least_sums (p_one p_other : D) : GT KF FoF (startE ["one", "other", "pair"] [p_one, p_other]) (sem_least_sums (x4O x_is_vector) (x2O x_gcd) (x2O x_turn) (x2O x_sums_between)) (x_least_sums p_one p_other) := by
  unfold x_least_sums
  exact Z0.gt_one (gt_as (gt_for (E := (fun (s4 : Unit) (ρ : REnv) => ∃ g3 : Option Slot, ρ = [some (.sh p_one), some (.sh p_other), g3])) (qx_seq (qx_ofF (qx_lst (qx_a2 (qx_varE rfl) (qx_varE rfl))))) ⟨_, rfl⟩ (fun s5 d7 ρ h => (by obtain ⟨g8, rfl⟩ := h; exact (gx_var (gt_ifD (qx_or (qx_not (qx_tV (qx_call4 (qx_varE rfl) qx_c (qx_un negX_s qx_c) qx_c _))) (qx_tV (qx_op neX_s (qx_call2 (qx_op ixX_s (qx_varP rfl) qx_c) (qx_op ixX_s (qx_varP rfl) qx_c) _) qx_c)))
  gt_raise
  (gt_pass (gt_endB ⟨_, rfl⟩)))))) fun s6 ρ h =>
  (by obtain ⟨g23, rfl⟩ := h; exact (gt_as (gt_ifD (qx_tV (qx_op eqX_s (qx_call2 (qx_varE rfl) (qx_varE rfl) _) qx_c))
  gt_raise
  (gt_pass (gt_retF (qx_b1 tupleX_s (qx_call2 (qx_varE rfl) (qx_varE rfl) _)))))))))
section
variable {Pg : Program} {w : World} {K : Kf} {mg : Str → Option Value} {base : Heap}
theorem xk_least_sums (tx : Tx K mg) : FnOk Pg w K mg base CX0 4 tx.a_least_sums tx.d_least_sums ["one", "other"] (spOf K 2 (x2O x_least_sums)) :=
  Z0.fn_ok tx.f_least_sums sc_least_sums rfl (walk_least_sums tx x4O_mono (xk_is_vector tx) (by first | decide | omega) x2O_mono (xk_gcd tx) (by first | decide | omega) x2O_mono (xk_turn tx) (by first | decide | omega) x2O_mono (xk_sums_between tx) (by first | decide | omega)) (mir2 gx_least_sums)
end
noncomputable def x_sail (p_one p_other : D) : Rs D :=
  (Rs.bd (Rs.bd (.ok p_one) fun a2 => Rs.bd (.ok p_other) fun a3 => x_least_sums a2 a3) fun row_1 =>
  (Rs.bd (Rs.bd (.ok []) bigX) fun found_4 =>
  (Rs.bd (Rs.bd (Rs.bd (.ok row_1) lenX) rg1X) fun l70 => Rs.bd (forX (fun (s11 : List D) d13 => (Rs.bd (Rs.bd (Rs.bd (.ok (.int 0)) fun a21 => Rs.bd (.ok d13) fun a22 => Rs.bd (ltX a21 a22) fun a23 => Rs.bd (boX a23) fun a24 => cond a24 (Rs.bd (Rs.bd (Rs.bd (.ok row_1) lenX) fun a19 => Rs.bd (.ok (.int 1)) fun a20 => subX a19 a20) fun a25 => Rs.bd (ltX a22 a25) boX) (.ok false)) fun b => .ok (.bl b)) fun inner_17 =>
  (Rs.bd (Rs.bd (Rs.bd (.ok inner_17) boX) fun b => cond b (Rs.bd (Rs.bd (Rs.bd (.ok (.int 2)) rg1X) fun l29 => lcX (fun d28 => (Rs.bd (Rs.bd (Rs.bd (.ok row_1) fun a32 => Rs.bd (Rs.bd (.ok d13) fun a30 => Rs.bd (.ok (.int 1)) fun a31 => subX a30 a31) fun a33 => ixX a32 a33) fun a34 => Rs.bd (.ok d28) fun a35 => ixX a34 a35) fun a42 => Rs.bd (Rs.bd (Rs.bd (.ok row_1) fun a38 => Rs.bd (Rs.bd (.ok d13) fun a36 => Rs.bd (.ok (.int 1)) fun a37 => addX a36 a37) fun a39 => ixX a38 a39) fun a40 => Rs.bd (.ok d28) fun a41 => ixX a40 a41) fun a43 => addX a42 a43)) l29) fun l => .ok (.lst l)) (Rs.bd (Rs.bd (.ok []) bigX) fun l => .ok (.lst l))) fun both_26 =>
  (Rs.bd (Rs.bd (Rs.bd (Rs.bd (.ok inner_17) boX) fun b => .ok (!b)) fun b60 => cond b60 (.ok true) (Rs.bd (Rs.bd (.ok both_26) fun a58 => Rs.bd (Rs.bd (Rs.bd (Rs.bd (Rs.bd (.ok (.int 2)) fun a48 => Rs.bd (Rs.bd (Rs.bd (.ok row_1) fun a44 => Rs.bd (.ok d13) fun a45 => ixX a44 a45) fun a46 => Rs.bd (.ok (.int 0)) fun a47 => ixX a46 a47) fun a49 => mulX a48 a49) fun a56 => Rs.bd (Rs.bd (.ok (.int 2)) fun a54 => Rs.bd (Rs.bd (Rs.bd (.ok row_1) fun a50 => Rs.bd (.ok d13) fun a51 => ixX a50 a51) fun a52 => Rs.bd (.ok (.int 1)) fun a53 => ixX a52 a53) fun a55 => mulX a54 a55) fun a57 => .ok [a56, a57]) bigX) fun l => .ok (.lst l)) fun a59 => neX a58 a59) boX)) fun b61 => cond b61
  (Rs.bd (Rs.bd (.ok row_1) fun a62 => Rs.bd (.ok d13) fun a63 => ixX a62 a63) fun a64 => Rs.bd (appX s11 a64) fun found_65 =>
  (.ok found_65))
  (.ok s11))))) found_4 l70) fun s12 =>
  (Rs.bd (.ok (.lst s12)) tupleX))))
theorem gx_sail (p_one p_other : D) : GT KF FoF (startE ["one", "other", "row", "found", "at", "inner", "both", "k"] [p_one, p_other]) (sem_sail (x2O x_least_sums)) (x_sail p_one p_other) := by
  unfold x_sail
  exact Z0.gt_one (gt_as (gt_set (qx_call2 (qx_varE rfl) (qx_varE rfl) _) fun row_1 =>
  (gt_as (gt_setO (qx_lst qx_nil) fun found_4 =>
  (gt_as (gt_for (E := (fun (s10 : List D) (ρ : REnv) => ∃ g7 g8 g9 : Option Slot, ρ = [some (.sh p_one), some (.sh p_other), some (.sh row_1), some (.own s10), g7, g8, g9, none])) (qx_rng1 (qx_b1 lenX_s (qx_varP rfl))) ⟨_, _, _, rfl⟩ (fun s11 d13 ρ h => (by obtain ⟨g14, g15, g16, rfl⟩ := h; exact (gx_var (gt_as (gt_set (qx_vB (qx_ch iiX_s iiX_s qx_c (qx_varP rfl) (qx_op iiX_s (qx_b1 lenX_s (qx_varP rfl)) qx_c))) fun inner_17 =>
  (gt_as (gt_set (qx_ifE (qx_tV (qx_varE rfl)) (qx_ofF (qx_lc (qx_rng1 qx_c) fun d28 => (gx_var (qx_op addX_s (qx_op ixX_s (qx_op ixX_s (qx_varP rfl) (qx_op iiX_s (qx_varP rfl) qx_c)) (qx_varP rfl)) (qx_op ixX_s (qx_op ixX_s (qx_varP rfl) (qx_op addX_s (qx_varP rfl) qx_c)) (qx_varP rfl)))))) (qx_ofF (qx_lst qx_nil))) fun both_26 =>
  (gt_ifD (qx_or (qx_not (qx_tV (qx_varE rfl))) (qx_tV (qx_op neX_s (qx_varP rfl) (qx_ofF (qx_lst (qx_a2 (qx_op mulX_s qx_c (qx_op ixX_s (qx_op ixX_s (qx_varP rfl) (qx_varP rfl)) qx_c)) (qx_op mulX_s qx_c (qx_op ixX_s (qx_op ixX_s (qx_varP rfl) (qx_varP rfl)) qx_c))))))))
  (gt_app rfl (qx_op ixX_s (qx_varP rfl) (qx_varP rfl)) fun found_65 =>
  (gt_endB ⟨_, _, _, rfl⟩))
  (gt_pass (gt_endB ⟨_, _, _, rfl⟩)))))))))) fun s12 ρ h =>
  (by obtain ⟨g66, g67, g68, rfl⟩ := h; exact (gt_retF (qx_b1 tupleX_s (qx_varO rfl))))))))))
section
variable {Pg : Program} {w : World} {K : Kf} {mg : Str → Option Value} {base : Heap}
theorem xk_sail (tx : Tx K mg) : FnOk Pg w K mg base CX0 5 tx.a_sail tx.d_sail ["one", "other"] (spOf K 2 (x2O x_sail)) :=
  Z0.fn_ok tx.f_sail sc_sail rfl (walk_sail tx x2O_mono (xk_least_sums tx) (by first | decide | omega)) (mir2 gx_sail)
end
noncomputable def x_l_pick (p_row p_things : D) : Rs D :=
  (Rs.bd (.ok p_things) fun a4 => Rs.bd (Rs.bd (.ok p_row) fun a2 => Rs.bd (Rs.bd (.ok p_things) lenX) fun a3 => askX a2 a3) fun a5 => ixX a4 a5)
theorem gx_l_pick (p_row p_things : D) : GT KF FoF (startE ["_law_row", "_law_things"] [p_row, p_things]) (sem_l_pick takenO) (x_l_pick p_row p_things) := by
  unfold x_l_pick
  exact Z0.gt_one (gt_retF (qx_op ixX_s (qx_varP rfl) (qx_taken (qx_varE rfl) (qx_b1 lenX_s (qx_varP rfl)))))
section
variable {Pg : Program} {w : World} {K : Kf} {mg : Str → Option Value} {base : Heap}
theorem xk_l_pick (tx : Tx K mg) : FnOk Pg w K mg base CX0 2 tx.a_l_pick tx.d_l_pick ["_law_row", "_law_things"] (spOf K 2 (x2O x_l_pick)) :=
  Z0.fn_ok tx.f_l_pick sc_l_pick rfl (walk_l_pick tx takenO_mono (ok_taken tx) (by first | decide | omega)) (mir2 gx_l_pick)
end
noncomputable def x_l_signed (p_row p_most : D) : Rs D :=
  (Rs.bd (Rs.bd (.ok p_row) fun a5 => Rs.bd (Rs.bd (Rs.bd (.ok (.int 2)) fun a1 => Rs.bd (.ok p_most) fun a2 => mulX a1 a2) fun a3 => Rs.bd (.ok (.int 1)) fun a4 => addX a3 a4) fun a6 => askX a5 a6) fun a7 => Rs.bd (.ok p_most) fun a8 => subX a7 a8)
theorem gx_l_signed (p_row p_most : D) : GT KF FoF (startE ["_law_row", "_law_most"] [p_row, p_most]) (sem_l_signed takenO) (x_l_signed p_row p_most) := by
  unfold x_l_signed
  exact Z0.gt_one (gt_retF (qx_op iiX_s (qx_taken (qx_varE rfl) (qx_op addX_s (qx_op mulX_s qx_c (qx_varP rfl)) qx_c)) (qx_varP rfl)))
section
variable {Pg : Program} {w : World} {K : Kf} {mg : Str → Option Value} {base : Heap}
theorem xk_l_signed (tx : Tx K mg) : FnOk Pg w K mg base CX0 2 tx.a_l_signed tx.d_l_signed ["_law_row", "_law_most"] (spOf K 2 (x2O x_l_signed)) :=
  Z0.fn_ok tx.f_l_signed sc_l_signed rfl (walk_l_signed tx takenO_mono (ok_taken tx) (by first | decide | omega)) (mir2 gx_l_signed)
end
noncomputable def x_l_gcd : D → D → Rs D := y2 gcdO
section
variable {Pg : Program} {w : World} {K : Kf} {mg : Str → Option Value} {base : Heap}
theorem xk_l_gcd (tx : Tx K mg) : FnOk Pg w K mg base CX0 1 tx.a_l_gcd tx.d_l_gcd ["_law_one", "_law_other"] (spOf K 2 (x2O x_l_gcd)) := ok_weak (ok_lgcd tx) y2_le
end
noncomputable def x_l_alike : Nat → D → D → Rs D
  | 0, _, _ => .no
  | n + 1, p_found, p_due =>
  (Rs.bd (Rs.bd (Rs.bd (Rs.bd (.ok p_due) fun a3 => Rs.bd (Rs.bd (Rs.bd (.ok (.ty .tuple)) fun a1 => Rs.bd (.ok (.ty .list)) fun a2 => .ok [a1, a2]) fun l => grd (l.length ≤ big) (.ok (.tup l))) fun a4 => .ok [a3, a4]) isiX) boX) fun b5 => cond b5
  (Rs.bd (Rs.bd (Rs.bd (Rs.bd (Rs.bd (Rs.bd (.ok p_found) fun a8 => Rs.bd (Rs.bd (Rs.bd (.ok (.ty .tuple)) fun a6 => Rs.bd (.ok (.ty .list)) fun a7 => .ok [a6, a7]) fun l => grd (l.length ≤ big) (.ok (.tup l))) fun a9 => .ok [a8, a9]) isiX) boX) fun b => .ok (!b)) fun b16 => cond b16 (.ok true) (Rs.bd (Rs.bd (Rs.bd (Rs.bd (.ok p_found) fun a10 => Rs.bd (.ok (.ty .list)) fun a11 => .ok [a10, a11]) isiX) fun a14 => Rs.bd (Rs.bd (Rs.bd (.ok p_due) fun a12 => Rs.bd (.ok (.ty .list)) fun a13 => .ok [a12, a13]) isiX) fun a15 => neX a14 a15) boX)) fun b17 => cond b17
  (.ok (.bl false))
  (Rs.bd (Rs.bd (Rs.bd (Rs.bd (.ok p_found) lenX) fun a20 => Rs.bd (Rs.bd (.ok p_due) lenX) fun a21 => neX a20 a21) boX) fun b22 => cond b22
  (.ok (.bl false))
  (Rs.bd (Rs.bd (Rs.bd (Rs.bd (Rs.bd (.ok p_due) lenX) rg1X) fun l26 => lfX (fun d25 => (Rs.bd (Rs.bd (Rs.bd (Rs.bd (Rs.bd (.ok p_found) fun a27 => Rs.bd (.ok d25) fun a28 => ixX a27 a28) fun a31 => Rs.bd (Rs.bd (.ok p_due) fun a29 => Rs.bd (.ok d25) fun a30 => ixX a29 a30) fun a32 => (x_l_alike n) a31 a32) boX) fun b => .ok (!b)) fun b33 => cond b33 (Rs.bd (.ok d25) fun e => .ok (some e)) (.ok none))) l26) fun l => .ok (.lst l)) fun a34 => Rs.bd (Rs.bd (Rs.bd (.ok []) bigX) fun l => .ok (.lst l)) fun a35 => eqX a34 a35)))
  (Rs.bd (Rs.bd (Rs.bd (Rs.bd (.ok p_due) fun a36 => Rs.bd (.ok .non) fun a37 => isX a36 a37) boX) fun b40 => cond b40 (.ok true) (Rs.bd (Rs.bd (Rs.bd (.ok p_due) fun a38 => Rs.bd (.ok (.ty .str)) fun a39 => .ok [a38, a39]) isiX) boX)) fun b41 => cond b41
  (Rs.bd (Rs.bd (Rs.bd (Rs.bd (.ok p_found) fun a44 => Rs.bd (.ok p_due) fun a45 => eqX a44 a45) boX) fun b58 => cond b58 (Rs.bd (Rs.bd (Rs.bd (Rs.bd (.ok p_found) fun a52 => Rs.bd (.ok (.ty .str)) fun a53 => .ok [a52, a53]) isiX) fun a56 => Rs.bd (Rs.bd (Rs.bd (.ok p_due) fun a54 => Rs.bd (.ok (.ty .str)) fun a55 => .ok [a54, a55]) isiX) fun a57 => eqX a56 a57) boX) (.ok false)) fun b => .ok (.bl b))
  (Rs.bd (Rs.bd (Rs.bd (Rs.bd (Rs.bd (.ok p_found) fun a61 => Rs.bd (.ok (.ty .int)) fun a62 => .ok [a61, a62]) isiX) boX) fun b80 => cond b80 (Rs.bd (Rs.bd (Rs.bd (Rs.bd (Rs.bd (.ok p_found) fun a69 => Rs.bd (.ok (.ty .bool)) fun a70 => .ok [a69, a70]) isiX) fun a73 => Rs.bd (Rs.bd (Rs.bd (.ok p_due) fun a71 => Rs.bd (.ok (.ty .bool)) fun a72 => .ok [a71, a72]) isiX) fun a74 => eqX a73 a74) boX) fun b79 => cond b79 (Rs.bd (Rs.bd (.ok p_found) fun a77 => Rs.bd (.ok p_due) fun a78 => eqX a77 a78) boX) (.ok false)) (.ok false)) fun b => .ok (.bl b))))
theorem gx_l_alike (n : Nat) (p_found p_due : D) : GT KF FoF (startE ["_law_found", "_law_due", "_law_k"] [p_found, p_due]) (sem_l_alike (x2O (x_l_alike n))) (x_l_alike (n + 1) p_found p_due) := by
  unfold x_l_alike
  exact Z0.gt_one (gt_as (gt_ifD (qx_tV (qx_b isiX_s (qx_a2 (qx_varP rfl) (qx_tup (qx_a2 qx_c qx_c)))))
  (gt_as (gt_ifD (qx_or (qx_not (qx_tV (qx_b isiX_s (qx_a2 (qx_varP rfl) (qx_tup (qx_a2 qx_c qx_c)))))) (qx_tV (qx_op neX_s (qx_b isiX_s (qx_a2 (qx_varP rfl) qx_c)) (qx_b isiX_s (qx_a2 (qx_varP rfl) qx_c)))))
  (gt_retF qx_c)
  (gt_pass (gt_as (gt_ifD (qx_tV (qx_op neX_s (qx_b1 lenX_s (qx_varP rfl)) (qx_b1 lenX_s (qx_varP rfl))))
  (gt_retF qx_c)
  (gt_pass (gt_retF (qx_op eqX_s (qx_ofF (qx_lf (qx_rng1 (qx_b1 lenX_s (qx_varP rfl))) fun d25 => (gx_var (fil_j (qx_not (qx_tV (qx_call2 (qx_op ixX_s (qx_varP rfl) (qx_varP rfl)) (qx_op ixX_s (qx_varP rfl) (qx_varP rfl)) _))) (qx_varE rfl))))) (qx_ofF (qx_lst qx_nil))))))))))
  (gt_pass (gt_as (gt_ifD (qx_or (qx_tV (qx_op isX_s (qx_varP rfl) qx_c)) (qx_tV (qx_b isiX_s (qx_a2 (qx_varP rfl) qx_c))))
  (gt_retF (qx_vB (qx_and (qx_tV (qx_op eqX_s (qx_varP rfl) (qx_varP rfl))) (qx_tV (qx_op eqX_s (qx_b isiX_s (qx_a2 (qx_varP rfl) qx_c)) (qx_b isiX_s (qx_a2 (qx_varP rfl) qx_c)))))))
  (gt_pass (gt_retF (qx_vB (qx_and (qx_tV (qx_b isiX_s (qx_a2 (qx_varP rfl) qx_c))) (qx_and (qx_tV (qx_op eqX_s (qx_b isiX_s (qx_a2 (qx_varP rfl) qx_c)) (qx_b isiX_s (qx_a2 (qx_varP rfl) qx_c)))) (qx_tV (qx_op eqX_s (qx_varP rfl) (qx_varP rfl)))))))))))))
section
variable {Pg : Program} {w : World} {K : Kf} {mg : Str → Option Value} {base : Heap}
theorem xk_l_alike (tx : Tx K mg) : ∀ n, FnOk Pg w K mg base CX0 (n + 0) tx.a_l_alike tx.d_l_alike ["_law_found", "_law_due"] (spOf K 2 (x2O (x_l_alike n)))
  | 0 => ok_nev rfl (x2O_no fun _ _ => rfl)
  | n + 1 => Z0.fn_ok tx.f_l_alike sc_l_alike rfl (walk_l_alike tx x2O_mono (xk_l_alike tx n) (by first | decide | omega)) (mir2 (gx_l_alike n))
end
noncomputable def x_l_least_sums (p_one p_other : D) : Rs D :=
  (Rs.bd (Rs.bd (Rs.bd (Rs.bd (.ok p_one) fun a2 => Rs.bd (.ok (.int 0)) fun a3 => ixX a2 a3) fun a6 => Rs.bd (Rs.bd (.ok p_other) fun a4 => Rs.bd (.ok (.int 1)) fun a5 => ixX a4 a5) fun a7 => mulX a6 a7) fun a14 => Rs.bd (Rs.bd (Rs.bd (.ok p_one) fun a8 => Rs.bd (.ok (.int 1)) fun a9 => ixX a8 a9) fun a12 => Rs.bd (Rs.bd (.ok p_other) fun a10 => Rs.bd (.ok (.int 0)) fun a11 => ixX a10 a11) fun a13 => mulX a12 a13) fun a15 => subX a14 a15) fun l_whole_1 =>
  (Rs.bd (Rs.bd (Rs.bd (Rs.bd (.ok l_whole_1) fun a17 => Rs.bd (.ok (.int 0)) fun a18 => gtX a17 a18) boX) fun b => cond b (.ok (.int 1)) (Rs.bd (.ok (.int 1)) negX)) fun l_side_16 => Rs.bd (Rs.bd (.ok []) bigX) fun l_points_19 =>
  (Rs.bd (Rs.bd (Rs.bd (Rs.bd (.ok (.int 2)) rg1X) fun l23 => lcX (fun d22 => (Rs.bd (Rs.bd (Rs.bd (.ok (.int 0)) fun a26 => Rs.bd (Rs.bd (.ok p_one) fun a24 => Rs.bd (.ok d22) fun a25 => ixX a24 a25) fun a27 => .ok [a26, a27]) min2X) fun a32 => Rs.bd (Rs.bd (Rs.bd (.ok (.int 0)) fun a30 => Rs.bd (Rs.bd (.ok p_other) fun a28 => Rs.bd (.ok d22) fun a29 => ixX a28 a29) fun a31 => .ok [a30, a31]) min2X) fun a33 => addX a32 a33)) l23) fun l => .ok (.lst l)) fun l_low_20 =>
  (Rs.bd (Rs.bd (Rs.bd (Rs.bd (.ok (.int 2)) rg1X) fun l37 => lcX (fun d36 => (Rs.bd (Rs.bd (Rs.bd (.ok (.int 0)) fun a40 => Rs.bd (Rs.bd (.ok p_one) fun a38 => Rs.bd (.ok d36) fun a39 => ixX a38 a39) fun a41 => .ok [a40, a41]) max2X) fun a46 => Rs.bd (Rs.bd (Rs.bd (.ok (.int 0)) fun a44 => Rs.bd (Rs.bd (.ok p_other) fun a42 => Rs.bd (.ok d36) fun a43 => ixX a42 a43) fun a45 => .ok [a44, a45]) max2X) fun a47 => addX a46 a47)) l37) fun l => .ok (.lst l)) fun l_high_34 =>
  (Rs.bd (Rs.bd (Rs.bd (.ok l_low_20) fun a48 => Rs.bd (.ok (.int 0)) fun a49 => ixX a48 a49) fun a54 => Rs.bd (Rs.bd (Rs.bd (.ok l_high_34) fun a50 => Rs.bd (.ok (.int 0)) fun a51 => ixX a50 a51) fun a52 => Rs.bd (.ok (.int 1)) fun a53 => addX a52 a53) fun a55 => rg2X a54 a55) fun l202 => Rs.bd (forX (fun (s61 : List D) d63 => (Rs.bd (Rs.bd (Rs.bd (.ok l_low_20) fun a68 => Rs.bd (.ok (.int 1)) fun a69 => ixX a68 a69) fun a74 => Rs.bd (Rs.bd (Rs.bd (.ok l_high_34) fun a70 => Rs.bd (.ok (.int 1)) fun a71 => ixX a70 a71) fun a72 => Rs.bd (.ok (.int 1)) fun a73 => addX a72 a73) fun a75 => rg2X a74 a75) fun l146 => Rs.bd (forX (fun (s80 : List D) d82 => (Rs.bd (Rs.bd (Rs.bd (Rs.bd (.ok l_side_16) fun a96 => Rs.bd (Rs.bd (Rs.bd (.ok d63) fun a88 => Rs.bd (Rs.bd (.ok p_other) fun a86 => Rs.bd (.ok (.int 1)) fun a87 => ixX a86 a87) fun a89 => mulX a88 a89) fun a94 => Rs.bd (Rs.bd (.ok d82) fun a92 => Rs.bd (Rs.bd (.ok p_other) fun a90 => Rs.bd (.ok (.int 0)) fun a91 => ixX a90 a91) fun a93 => mulX a92 a93) fun a95 => subX a94 a95) fun a97 => mulX a96 a97) fun a110 => Rs.bd (Rs.bd (.ok l_side_16) fun a108 => Rs.bd (Rs.bd (Rs.bd (Rs.bd (.ok p_one) fun a98 => Rs.bd (.ok (.int 0)) fun a99 => ixX a98 a99) fun a100 => Rs.bd (.ok d82) fun a101 => mulX a100 a101) fun a106 => Rs.bd (Rs.bd (Rs.bd (.ok p_one) fun a102 => Rs.bd (.ok (.int 1)) fun a103 => ixX a102 a103) fun a104 => Rs.bd (.ok d63) fun a105 => mulX a104 a105) fun a107 => subX a106 a107) fun a109 => mulX a108 a109) fun a111 => .ok [a110, a111]) fun l => grd (l.length ≤ big) (.ok (.tup l))) fun d112 => (un2 d112 fun u113 u114 => (Rs.bd (Rs.bd (Rs.bd (.ok (.int 0)) fun a116 => Rs.bd (.ok u113) fun a117 => Rs.bd (leX a116 a117) fun a118 => Rs.bd (boX a118) fun a119 => cond a119 (Rs.bd (Rs.bd (.ok l_whole_1) absX) fun a120 => Rs.bd (leX a117 a120) boX) (.ok false)) fun b134 => cond b134 (Rs.bd (Rs.bd (.ok (.int 0)) fun a122 => Rs.bd (.ok u114) fun a123 => Rs.bd (leX a122 a123) fun a124 => Rs.bd (boX a124) fun a125 => cond a125 (Rs.bd (Rs.bd (.ok l_whole_1) absX) fun a126 => Rs.bd (leX a123 a126) boX) (.ok false)) fun b133 => cond b133 (Rs.bd (Rs.bd (Rs.bd (Rs.bd (.ok d63) fun a127 => Rs.bd (.ok d82) fun a128 => .ok [a127, a128]) fun l => grd (l.length ≤ big) (.ok (.tup l))) fun a131 => Rs.bd (Rs.bd (Rs.bd (.ok (.int 0)) fun a129 => Rs.bd (.ok (.int 0)) fun a130 => .ok [a129, a130]) fun l => grd (l.length ≤ big) (.ok (.tup l))) fun a132 => neX a131 a132) boX) (.ok false)) (.ok false)) fun b135 => cond b135
  (Rs.bd (Rs.bd (Rs.bd (.ok u113) fun a138 => Rs.bd (.ok u114) fun a139 => Rs.bd (Rs.bd (Rs.bd (.ok d63) fun a136 => Rs.bd (.ok d82) fun a137 => .ok [a136, a137]) fun l => grd (l.length ≤ big) (.ok (.tup l))) fun a140 => .ok [a138, a139, a140]) fun l => grd (l.length ≤ big) (.ok (.tup l))) fun a141 => Rs.bd (appX s80 a141) fun l_points_142 =>
  (.ok l_points_142))
  (.ok s80))))) s61 l146) fun s81 =>
  (.ok s81))) l_points_19 l202) fun s62 =>
  (Rs.bd (Rs.bd (Rs.bd (.ok []) bigX) fun l => .ok (.lst l)) fun l_found_152 =>
  (Rs.bd (Rs.bd (.ok (.lst s62)) itemsX) fun l200 => Rs.bd (forX (fun (s158 : D) d160 => (un3 d160 fun u165 u166 u167 => (Rs.bd (Rs.bd (Rs.bd (Rs.bd (.ok (.lst s62)) itemsX) fun l170 => lfX (fun d169 => (un3 d169 fun u171 u172 u173 => (Rs.bd (Rs.bd (Rs.bd (Rs.bd (.ok u171) fun a174 => Rs.bd (.ok u165) fun a175 => leX a174 a175) boX) fun b181 => cond b181 (Rs.bd (Rs.bd (Rs.bd (.ok u172) fun a176 => Rs.bd (.ok u166) fun a177 => leX a176 a177) boX) fun b180 => cond b180 (Rs.bd (Rs.bd (.ok u173) fun a178 => Rs.bd (.ok u167) fun a179 => neX a178 a179) boX) (.ok false)) (.ok false)) fun b182 => cond b182 (Rs.bd (.ok u173) fun e => .ok (some e)) (.ok none)))) l170) fun l => .ok (.lst l)) fun l_parts_168 =>
  (Rs.bd (Rs.bd (.ok s158) fun a189 => Rs.bd (Rs.bd (Rs.bd (Rs.bd (.ok l_parts_168) fun a184 => Rs.bd (Rs.bd (Rs.bd (.ok []) bigX) fun l => .ok (.lst l)) fun a185 => eqX a184 a185) boX) fun b => cond b (Rs.bd (Rs.bd (Rs.bd (Rs.bd (Rs.bd (.ok u166) fun a186 => Rs.bd (.ok u167) fun a187 => .ok [a186, a187]) fun l => grd (l.length ≤ big) (.ok (.tup l))) fun a188 => .ok [a188]) bigX) fun l => .ok (.lst l)) (Rs.bd (Rs.bd (.ok []) bigX) fun l => .ok (.lst l))) fun a190 => addX a189 a190) fun l_found_183 =>
  (.ok l_found_183))))) l_found_152 l200) fun s159 =>
  (Rs.bd (Rs.bd (Rs.bd (Rs.bd (Rs.bd (Rs.bd (.ok s159) fun a195 => .ok [a195]) sortX) fun l => .ok (.lst l)) itemsX) fun l197 => lcX (fun d196 => (un2 d196 fun u198 u199 => (.ok u199))) l197) fun l => .ok (.lst l)))))))))
theorem gx_l_least_sums (p_one p_other : D) : GT KF FoF (startE ["_law_one", "_law_other", "_law_whole", "_law_side", "_law_points", "_law_low", "_law_k", "_law_high", "_law_x", "_law_y", "_law_first", "_law_second", "_law_found", "_law_p", "_law_parts", "_law_a", "_law_b", "_law_q"] [p_one, p_other]) (sem_l_least_sums ) (x_l_least_sums p_one p_other) := by
  unfold x_l_least_sums
  exact Z0.gt_one (gt_as (gt_set (qx_op iiX_s (qx_op mulX_s (qx_op ixX_s (qx_varP rfl) qx_c) (qx_op ixX_s (qx_varP rfl) qx_c)) (qx_op mulX_s (qx_op ixX_s (qx_varP rfl) qx_c) (qx_op ixX_s (qx_varP rfl) qx_c))) fun l_whole_1 =>
  (gt_as (gt_m2 (mx_sh (qx_ifE (qx_tV (qx_op iiX_s (qx_varP rfl) qx_c)) qx_c (qx_un negX_s qx_c))) (mx_own (qx_lst qx_nil)) fun l_side_16 l_points_19 =>
  (gt_as (gt_set (qx_ofF (qx_lc (qx_rng1 qx_c) fun d22 => (gx_var (qx_op addX_s (qx_b min2X_s (qx_a2 qx_c (qx_op ixX_s (qx_varP rfl) (qx_varP rfl)))) (qx_b min2X_s (qx_a2 qx_c (qx_op ixX_s (qx_varP rfl) (qx_varP rfl)))))))) fun l_low_20 =>
  (gt_as (gt_set (qx_ofF (qx_lc (qx_rng1 qx_c) fun d36 => (gx_var (qx_op addX_s (qx_b max2X_s (qx_a2 qx_c (qx_op ixX_s (qx_varP rfl) (qx_varP rfl)))) (qx_b max2X_s (qx_a2 qx_c (qx_op ixX_s (qx_varP rfl) (qx_varP rfl)))))))) fun l_high_34 =>
  (gt_as (gt_for (E := (fun (s60 : List D) (ρ : REnv) => ∃ g56 g57 g58 g59 : Option Slot, ρ = [some (.sh p_one), some (.sh p_other), some (.sh l_whole_1), some (.sh l_side_16), some (.own s60), some (.sh l_low_20), none, some (.sh l_high_34), g56, g57, g58, g59, none, none, none, none, none, none])) (qx_rng2 (qx_op ixX_s (qx_varP rfl) qx_c) (qx_op addX_s (qx_op ixX_s (qx_varP rfl) qx_c) qx_c)) ⟨_, _, _, _, rfl⟩ (fun s61 d63 ρ h => (by obtain ⟨g64, g65, g66, g67, rfl⟩ := h; exact (gx_var (gt_for (E := (fun (s79 : List D) (ρ : REnv) => ∃ g76 g77 g78 : Option Slot, ρ = [some (.sh p_one), some (.sh p_other), some (.sh l_whole_1), some (.sh l_side_16), some (.own s79), some (.sh l_low_20), none, some (.sh l_high_34), some (.sh d63), g76, g77, g78, none, none, none, none, none, none])) (qx_rng2 (qx_op ixX_s (qx_varP rfl) qx_c) (qx_op addX_s (qx_op ixX_s (qx_varP rfl) qx_c) qx_c)) ⟨_, _, _, rfl⟩ (fun s80 d82 ρ h => (by obtain ⟨g83, g84, g85, rfl⟩ := h; exact (gx_var (gt_as (gt_asg (qx_tup (qx_a2 (qx_op mulX_s (qx_varP rfl) (qx_op iiX_s (qx_op mulX_s (qx_varP rfl) (qx_op ixX_s (qx_varP rfl) qx_c)) (qx_op mulX_s (qx_varP rfl) (qx_op ixX_s (qx_varP rfl) qx_c)))) (qx_op mulX_s (qx_varP rfl) (qx_op iiX_s (qx_op mulX_s (qx_op ixX_s (qx_varP rfl) qx_c) (qx_varP rfl)) (qx_op mulX_s (qx_op ixX_s (qx_varP rfl) qx_c) (qx_varP rfl)))))) fun d112 => (gx_t2 fun u113 u114 => (gx_var (gx_var (gt_ifD (qx_and (qx_ch iiX_s iiX_s qx_c (qx_varP rfl) (qx_b1 absX_s (qx_varP rfl))) (qx_and (qx_ch iiX_s iiX_s qx_c (qx_varP rfl) (qx_b1 absX_s (qx_varP rfl))) (qx_tV (qx_op neX_s (qx_tup (qx_a2 (qx_varE rfl) (qx_varE rfl))) (qx_tup (qx_a2 qx_c qx_c))))))
  (gt_app rfl (qx_tup (qx_a3 (qx_varE rfl) (qx_varE rfl) (qx_tup (qx_a2 (qx_varE rfl) (qx_varE rfl))))) fun l_points_142 =>
  (gt_endB ⟨_, _, _, rfl⟩))
  (gt_pass (gt_endB ⟨_, _, _, rfl⟩))))))))))) fun s81 ρ h =>
  (by obtain ⟨g143, g144, g145, rfl⟩ := h; exact (gt_endB ⟨_, _, _, _, rfl⟩)))))) fun s62 ρ h =>
  (by obtain ⟨g148, g149, g150, g151, rfl⟩ := h; exact (gt_as (gt_set (qx_ofF (qx_lst qx_nil)) fun l_found_152 =>
  (gt_as (gt_frz rfl (gt_for (E := (fun (s157 : D) (ρ : REnv) => ∃ g153 g154 g155 g156 : Option Slot, ρ = [some (.sh p_one), some (.sh p_other), some (.sh l_whole_1), some (.sh l_side_16), some (.sh (.lst s62)), some (.sh l_low_20), none, some (.sh l_high_34), g148, g149, g153, g154, some (.sh s157), g155, g156, none, none, none])) (qx_seq (qx_varE rfl)) ⟨_, _, _, _, rfl⟩ (fun s158 d160 ρ h => (by obtain ⟨g161, g162, g163, g164, rfl⟩ := h; exact (gx_t3 fun u165 u166 u167 => (gx_var (gx_var (gx_var (gt_as (gt_set (qx_ofF (qx_lf (qx_seq (qx_varP rfl)) fun d169 => (gx_t3 fun u171 u172 u173 => (gx_var (gx_var (gx_var (fil_j (qx_and (qx_tV (qx_op iiX_s (qx_varP rfl) (qx_varP rfl))) (qx_and (qx_tV (qx_op iiX_s (qx_varP rfl) (qx_varP rfl))) (qx_tV (qx_op neX_s (qx_varP rfl) (qx_varP rfl))))) (qx_varE rfl)))))))) fun l_parts_168 =>
  (gt_set (qx_op addX_s (qx_varP rfl) (qx_ifE (qx_tV (qx_op eqX_s (qx_varP rfl) (qx_ofF (qx_lst qx_nil)))) (qx_ofF (qx_lst (qx_a1 (qx_tup (qx_a2 (qx_varE rfl) (qx_varE rfl)))))) (qx_ofF (qx_lst qx_nil)))) fun l_found_183 =>
  (gt_endB ⟨_, _, _, _, rfl⟩)))))))))) fun s159 ρ h =>
  (by obtain ⟨g191, g192, g193, g194, rfl⟩ := h; exact (gt_retF (qx_ofF (qx_lc (qx_seq (qx_ofF (qx_bF sortX_x (qx_a1 (qx_varP rfl))))) fun d196 => (gx_t2 fun u198 u199 => (gx_var (gx_var (qx_varE rfl))))))))))))))))))))))))
section
variable {Pg : Program} {w : World} {K : Kf} {mg : Str → Option Value} {base : Heap}
theorem xk_l_least_sums (tx : Tx K mg) : FnOk Pg w K mg base CX0 1 tx.a_l_least_sums tx.d_l_least_sums ["_law_one", "_law_other"] (spOf K 2 (x2O x_l_least_sums)) :=
  Z0.fn_ok tx.f_l_least_sums sc_l_least_sums rfl (walk_l_least_sums tx ) (mir2 gx_l_least_sums)
end
noncomputable def x_lawC (F_l_pick : D → D → Rs D) (F_l_signed : D → D → Rs D) (F_l_gcd : D → D → Rs D) (F_least_sums : D → D → Rs D) (F_l_least_sums : D → D → Rs D) (F_l_alike : D → D → Rs D) (F_sail : D → D → Rs D) (F_from_steps : D → Rs D) : Rs D :=
  (Rs.bd (Rs.bd (.ok .row) fun a5 => Rs.bd (Rs.bd (Rs.bd (Rs.bd (.ok (.int 2)) fun a2 => Rs.bd (.ok (.int 4)) fun a3 => Rs.bd (.ok (.int 9)) fun a4 => .ok [a2, a3, a4]) bigX) fun l => .ok (.lst l)) fun a6 => F_l_pick a5 a6) fun l_most_1 =>
  (Rs.bd (Rs.bd (.ok []) bigX) fun l_pairs_7 =>
  (Rs.bd (Rs.bd (.ok (.int 2)) rg1X) fun l283 => Rs.bd (forX (fun (s14 : List D) d16 => (Rs.bd (Rs.bd (.ok .row) fun a21 => Rs.bd (.ok l_most_1) fun a22 => F_l_signed a21 a22) fun l_x_25 => Rs.bd (Rs.bd (.ok .row) fun a23 => Rs.bd (.ok l_most_1) fun a24 => F_l_signed a23 a24) fun l_y_26 =>
  (Rs.bd (Rs.bd (.ok l_x_25) fun a28 => Rs.bd (.ok l_y_26) fun a29 => F_l_gcd a28 a29) fun l_common_27 =>
  (Rs.bd (Rs.bd (Rs.bd (Rs.bd (.ok l_common_27) fun a30 => Rs.bd (.ok (.int 0)) fun a31 => gtX a30 a31) boX) fun b => cond b (Rs.bd (Rs.bd (Rs.bd (.ok l_x_25) fun a32 => Rs.bd (.ok l_common_27) fun a33 => fdivX a32 a33) fun a36 => Rs.bd (Rs.bd (.ok l_y_26) fun a34 => Rs.bd (.ok l_common_27) fun a35 => fdivX a34 a35) fun a37 => .ok [a36, a37]) fun l => grd (l.length ≤ big) (.ok (.tup l))) (Rs.bd (Rs.bd (.ok (.int 1)) fun a38 => Rs.bd (.ok d16) fun a39 => .ok [a38, a39]) fun l => grd (l.length ≤ big) (.ok (.tup l)))) fun a40 => Rs.bd (appX s14 a40) fun l_pairs_41 =>
  (.ok l_pairs_41))))) l_pairs_7 l283) fun s15 =>
  (Rs.bd (.ok (.lst s15)) fun d46 => (unB2 d46 fun u47 u48 => (Rs.bd (Rs.bd (Rs.bd (Rs.bd (.ok u47) fun a50 => Rs.bd (.ok (.int 0)) fun a51 => ixX a50 a51) fun a54 => Rs.bd (Rs.bd (.ok u48) fun a52 => Rs.bd (.ok (.int 1)) fun a53 => ixX a52 a53) fun a55 => mulX a54 a55) fun a62 => Rs.bd (Rs.bd (Rs.bd (.ok u47) fun a56 => Rs.bd (.ok (.int 1)) fun a57 => ixX a56 a57) fun a60 => Rs.bd (Rs.bd (.ok u48) fun a58 => Rs.bd (.ok (.int 0)) fun a59 => ixX a58 a59) fun a61 => mulX a60 a61) fun a63 => subX a62 a63) fun l_whole_49 =>
  (Rs.bd (Rs.bd (Rs.bd (Rs.bd (.ok l_whole_49) fun a64 => Rs.bd (.ok (.int 0)) fun a65 => eqX a64 a65) boX) fun b66 => cond b66 (Rs.bd (Rs.bd (Rs.bd (.ok (.int 1)) fun a68 => Rs.bd (.ok (.int 0)) fun a69 => .ok [a68, a69]) fun l => grd (l.length ≤ big) (.ok (.tup l))) fun l_one_78 => Rs.bd (Rs.bd (Rs.bd (Rs.bd (Rs.bd (Rs.bd (.ok .row) fun a70 => Rs.bd (.ok (.int 9)) fun a71 => askX a70 a71) fun a72 => Rs.bd (.ok (.int 2)) fun a73 => mulX a72 a73) fun a74 => Rs.bd (.ok (.int 1)) fun a75 => addX a74 a75) fun a76 => Rs.bd (.ok (.int 2)) fun a77 => .ok [a76, a77]) fun l => grd (l.length ≤ big) (.ok (.tup l))) fun l_other_79 =>
  (Rs.bd (.ok (.int 2)) fun l_whole_80 =>
  (.ok (l_one_78, l_other_79, l_whole_80)))) (.ok (u47, u48, l_whole_49))) fun s81 =>
  (Rs.bd (Rs.bd (.ok s81.1) fun a83 => Rs.bd (.ok s81.2.1) fun a84 => F_least_sums a83 a84) fun l_found_82 =>
  (Rs.bd (Rs.bd (Rs.bd (Rs.bd (Rs.bd (.ok l_found_82) fun a90 => Rs.bd (Rs.bd (Rs.bd (.ok s81.1) fun a88 => Rs.bd (.ok s81.2.1) fun a89 => F_l_least_sums a88 a89) tupleX) fun a91 => F_l_alike a90 a91) boX) fun b => .ok (!b)) fun b101 => cond b101 (.ok true) (Rs.bd (Rs.bd (Rs.bd (Rs.bd (.ok l_found_82) fun a92 => Rs.bd (.ok (.int 0)) fun a93 => ixX a92 a93) fun a94 => Rs.bd (.ok s81.1) fun a95 => neX a94 a95) boX) fun b100 => cond b100 (.ok true) (Rs.bd (Rs.bd (Rs.bd (.ok l_found_82) fun a96 => Rs.bd (Rs.bd (.ok (.int 1)) negX) fun a97 => ixX a96 a97) fun a98 => Rs.bd (.ok s81.2.1) fun a99 => neX a98 a99) boX))) fun b102 => cond b102
  (.ok (.bl false))
  (Rs.bd (Rs.bd (.ok []) bigX) fun l_told_103 =>
  (Rs.bd (Rs.bd (.ok (.int 1)) fun a105 => Rs.bd (Rs.bd (.ok l_found_82) lenX) fun a106 => rg2X a105 a106) fun l281 => Rs.bd (forR (fun (s112 : List D) d114 => (Rs.bd (Rs.bd (Rs.bd (Rs.bd (Rs.bd (Rs.bd (Rs.bd (Rs.bd (.ok l_found_82) fun a148 => Rs.bd (Rs.bd (.ok d114) fun a146 => Rs.bd (.ok (.int 1)) fun a147 => subX a146 a147) fun a149 => ixX a148 a149) fun a150 => Rs.bd (.ok (.int 0)) fun a151 => ixX a150 a151) fun a156 => Rs.bd (Rs.bd (Rs.bd (.ok l_found_82) fun a152 => Rs.bd (.ok d114) fun a153 => ixX a152 a153) fun a154 => Rs.bd (.ok (.int 1)) fun a155 => ixX a154 a155) fun a157 => mulX a156 a157) fun a170 => Rs.bd (Rs.bd (Rs.bd (Rs.bd (.ok l_found_82) fun a160 => Rs.bd (Rs.bd (.ok d114) fun a158 => Rs.bd (.ok (.int 1)) fun a159 => subX a158 a159) fun a161 => ixX a160 a161) fun a162 => Rs.bd (.ok (.int 1)) fun a163 => ixX a162 a163) fun a168 => Rs.bd (Rs.bd (Rs.bd (.ok l_found_82) fun a164 => Rs.bd (.ok d114) fun a165 => ixX a164 a165) fun a166 => Rs.bd (.ok (.int 0)) fun a167 => ixX a166 a167) fun a169 => mulX a168 a169) fun a171 => subX a170 a171) absX) fun a172 => Rs.bd (.ok (.int 1)) fun a173 => neX a172 a173) boX) fun b174 => cond b174
  (Rs.bd (.ok (.bl false)) fun d => .ok (.rt d))
  (Rs.bd (Rs.bd (Rs.bd (Rs.bd (.ok d114) fun a175 => Rs.bd (.ok (.int 1)) fun a176 => addX a175 a176) fun a178 => Rs.bd (Rs.bd (.ok l_found_82) lenX) fun a179 => ltX a178 a179) boX) fun b180 => cond b180
  (Rs.bd (Rs.bd (Rs.bd (Rs.bd (.ok (.int 2)) rg1X) fun l184 => lcX (fun d183 => (Rs.bd (Rs.bd (Rs.bd (.ok l_found_82) fun a187 => Rs.bd (Rs.bd (.ok d114) fun a185 => Rs.bd (.ok (.int 1)) fun a186 => subX a185 a186) fun a188 => ixX a187 a188) fun a189 => Rs.bd (.ok d183) fun a190 => ixX a189 a190) fun a197 => Rs.bd (Rs.bd (Rs.bd (.ok l_found_82) fun a193 => Rs.bd (Rs.bd (.ok d114) fun a191 => Rs.bd (.ok (.int 1)) fun a192 => addX a191 a192) fun a194 => ixX a193 a194) fun a195 => Rs.bd (.ok d183) fun a196 => ixX a195 a196) fun a198 => addX a197 a198)) l184) fun l => .ok (.lst l)) fun l_both_181 =>
  (Rs.bd (Rs.bd (Rs.bd (Rs.bd (Rs.bd (Rs.bd (.ok l_found_82) fun a200 => Rs.bd (.ok d114) fun a201 => ixX a200 a201) fun a202 => Rs.bd (.ok (.int 0)) fun a203 => ixX a202 a203) fun a204 => Rs.bd (.ok (.int 0)) fun a205 => neX a204 a205) boX) fun b => cond b (.ok (.int 0)) (.ok (.int 1))) fun l_axis_199 =>
  (Rs.bd (Rs.bd (Rs.bd (.ok l_both_181) fun a207 => Rs.bd (.ok l_axis_199) fun a208 => ixX a207 a208) fun a213 => Rs.bd (Rs.bd (Rs.bd (.ok l_found_82) fun a209 => Rs.bd (.ok d114) fun a210 => ixX a209 a210) fun a211 => Rs.bd (.ok l_axis_199) fun a212 => ixX a211 a212) fun a214 => fdivX a213 a214) fun l_factor_206 =>
  (Rs.bd (Rs.bd (Rs.bd (Rs.bd (.ok l_factor_206) fun a215 => Rs.bd (.ok (.int 2)) fun a216 => ltX a215 a216) boX) fun b228 => cond b228 (.ok true) (Rs.bd (Rs.bd (.ok l_both_181) fun a226 => Rs.bd (Rs.bd (Rs.bd (Rs.bd (.ok (.int 2)) rg1X) fun l219 => lcX (fun d218 => (Rs.bd (.ok l_factor_206) fun a224 => Rs.bd (Rs.bd (Rs.bd (.ok l_found_82) fun a220 => Rs.bd (.ok d114) fun a221 => ixX a220 a221) fun a222 => Rs.bd (.ok d218) fun a223 => ixX a222 a223) fun a225 => mulX a224 a225)) l219) fun l => .ok (.lst l)) fun a227 => neX a226 a227) boX)) fun b229 => cond b229
  (Rs.bd (.ok (.bl false)) fun d => .ok (.rt d))
  (Rs.bd (.ok l_factor_206) fun a230 => Rs.bd (appX s112 a230) fun l_told_231 =>
  (.ok (.go l_told_231)))))))
  (.ok (.go s112))))) l_told_103 l281) fun r282 => outX r282 (fun s113 =>
  (Rs.bd (Rs.bd (Rs.bd (Rs.bd (Rs.bd (.ok l_found_82) lenX) rg1X) fun l240 => lfX (fun d239 => (Rs.bd (Rs.bd (Rs.bd (Rs.bd (.ok d239) fun a246 => Rs.bd (Rs.bd (Rs.bd (Rs.bd (.ok (.int 0)) fun a244 => Rs.bd (Rs.bd (Rs.bd (.ok l_found_82) lenX) fun a242 => Rs.bd (.ok (.int 1)) fun a243 => subX a242 a243) fun a245 => .ok [a244, a245]) bigX) fun l => .ok (.lst l)) fun a247 => inX a246 a247) boX) fun b254 => cond b254 (.ok true) (Rs.bd (Rs.bd (Rs.bd (.ok (.lst s113)) fun a250 => Rs.bd (Rs.bd (.ok d239) fun a248 => Rs.bd (.ok (.int 1)) fun a249 => subX a248 a249) fun a251 => ixX a250 a251) fun a252 => Rs.bd (.ok (.int 2)) fun a253 => gtX a252 a253) boX)) fun b257 => cond b257 (Rs.bd (Rs.bd (.ok l_found_82) fun a255 => Rs.bd (.ok d239) fun a256 => ixX a255 a256) fun e => .ok (some e)) (.ok none))) l240) fun l => .ok (.lst l)) fun l_tips_236 =>
  (Rs.bd (Rs.bd (Rs.bd (Rs.bd (Rs.bd (.ok s81.1) fun a258 => Rs.bd (.ok s81.2.1) fun a259 => F_sail a258 a259) fun a261 => Rs.bd (Rs.bd (.ok l_tips_236) tupleX) fun a262 => F_l_alike a261 a262) boX) fun b => .ok (!b)) fun b263 => cond b263
  (.ok (.bl false))
  (Rs.bd (Rs.bd (Rs.bd (Rs.bd (.ok (.lst s113)) fun a266 => Rs.bd (Rs.bd (Rs.bd (.ok []) bigX) fun l => .ok (.lst l)) fun a267 => eqX a266 a267) boX) fun b280 => cond b280 (.ok true) (Rs.bd (Rs.bd (Rs.bd (Rs.bd (Rs.bd (.ok (.lst s113)) tupleX) F_from_steps) fun a275 => Rs.bd (.ok (.int 0)) fun a276 => ixX a275 a276) fun a278 => Rs.bd (Rs.bd (.ok s81.2.2) absX) fun a279 => eqX a278 a279) boX)) fun b => .ok (.bl b))))) fun d => .ok d)))))))))))
theorem gx_lawC (F_l_pick : D → D → Rs D) (F_l_signed : D → D → Rs D) (F_l_gcd : D → D → Rs D) (F_least_sums : D → D → Rs D) (F_l_least_sums : D → D → Rs D) (F_l_alike : D → D → Rs D) (F_sail : D → D → Rs D) (F_from_steps : D → Rs D) : GT KF FoF (lawE ["_law_script", "_law_row", "_law_most", "_law_pairs", "_law_turn", "_law_x", "_law_y", "_law_common", "_law_one", "_law_other", "_law_whole", "_law_found", "_law_told", "_law_at", "_law_both", "_law_k", "_law_axis", "_law_factor", "_law_tips"]) (sem_law (x2O F_l_pick) (x2O F_l_signed) (x2O F_l_gcd) takenO (x2O F_least_sums) (x2O F_l_least_sums) (x2O F_l_alike) (x2O F_sail) (x1O F_from_steps)) (x_lawC F_l_pick F_l_signed F_l_gcd F_least_sums F_l_least_sums F_l_alike F_sail F_from_steps) := by
  unfold x_lawC
  exact Z0.gt_one (gt_as (gt_set (qx_call2 (qx_varE rfl) (qx_ofF (qx_lst (qx_a3 qx_c qx_c qx_c))) _) fun l_most_1 =>
  (gt_as (gt_setO (qx_lst qx_nil) fun l_pairs_7 =>
  (gt_as (gt_for (E := (fun (s13 : List D) (ρ : REnv) => ∃ g9 g10 g11 g12 : Option Slot, ρ = [none, some (.sh .row), some (.sh l_most_1), some (.own s13), g9, g10, g11, g12, none, none, none, none, none, none, none, none, none, none, none])) (qx_rng1 qx_c) ⟨_, _, _, _, rfl⟩ (fun s14 d16 ρ h => (by obtain ⟨g17, g18, g19, g20, rfl⟩ := h; exact (gx_var (gt_as (gt_par (qx_call2 (qx_varE rfl) (qx_varE rfl) _) (qx_call2 (qx_varE rfl) (qx_varE rfl) _) fun l_x_25 l_y_26 =>
  (gt_as (gt_set (qx_call2 (qx_varE rfl) (qx_varE rfl) _) fun l_common_27 =>
  (gt_app rfl (qx_ifE (qx_tV (qx_op iiX_s (qx_varP rfl) qx_c)) (qx_tup (qx_a2 (qx_op fdivX_s (qx_varP rfl) (qx_varP rfl)) (qx_op fdivX_s (qx_varP rfl) (qx_varP rfl)))) (qx_tup (qx_a2 qx_c (qx_varE rfl)))) fun l_pairs_41 =>
  (gt_endB ⟨_, _, _, _, rfl⟩))))))))) fun s15 ρ h =>
  (by obtain ⟨g42, g43, g44, g45, rfl⟩ := h; exact (gt_as (gt_frz rfl (gt_asg (qx_varE rfl) fun d46 => (gx_b2 fun u47 u48 => (gx_var (gx_var (gt_as (gt_set (qx_op iiX_s (qx_op mulX_s (qx_op ixX_s (qx_varP rfl) qx_c) (qx_op ixX_s (qx_varP rfl) qx_c)) (qx_op mulX_s (qx_op ixX_s (qx_varP rfl) qx_c) (qx_op ixX_s (qx_varP rfl) qx_c))) fun l_whole_49 =>
  (gt_as (gt_ifJ (E := (fun (s67 : D × D × D) (ρ : REnv) => ρ = [none, some (.sh .row), some (.sh l_most_1), some (.sh (.lst s15)), g42, g43, g44, g45, some (.sh s67.1), some (.sh s67.2.1), some (.sh s67.2.2), none, none, none, none, none, none, none, none])) (qx_tV (qx_op eqX_s (qx_varP rfl) qx_c)) (gt_as (gt_par (qx_tup (qx_a2 qx_c qx_c)) (qx_tup (qx_a2 (qx_op addX_s (qx_op mulX_s (qx_taken (qx_varE rfl) qx_c) qx_c) qx_c) qx_c)) fun l_one_78 l_other_79 =>
  (gt_set qx_c fun l_whole_80 =>
  (gt_endB rfl)))) (gt_pass (gt_endB rfl)) fun s81 ρ h => (by obtain rfl := h; exact (gt_as (gt_set (qx_call2 (qx_varE rfl) (qx_varE rfl) _) fun l_found_82 =>
  (gt_as (gt_ifD (qx_or (qx_not (qx_tV (qx_call2 (qx_varE rfl) (qx_b1 tupleX_s (qx_call2 (qx_varE rfl) (qx_varE rfl) _)) _))) (qx_or (qx_tV (qx_op neX_s (qx_op ixX_s (qx_varP rfl) qx_c) (qx_varP rfl))) (qx_tV (qx_op neX_s (qx_op ixX_s (qx_varP rfl) (qx_un negX_s qx_c)) (qx_varP rfl)))))
  (gt_retF qx_c)
  (gt_pass (gt_as (gt_setO (qx_lst qx_nil) fun l_told_103 =>
  (gt_as (gt_forR (E := (fun (s111 : List D) (ρ : REnv) => ∃ g107 g108 g109 g110 : Option Slot, ρ = [none, some (.sh .row), some (.sh l_most_1), some (.sh (.lst s15)), g42, g43, g44, g45, some (.sh s81.1), some (.sh s81.2.1), some (.sh s81.2.2), some (.sh l_found_82), some (.own s111), g107, g108, none, g109, g110, none])) (w := fun d => d) kf_rt (qx_rng2 qx_c (qx_b1 lenX_s (qx_varP rfl))) ⟨_, _, _, _, rfl⟩ (fun s112 d114 ρ h => (by obtain ⟨g115, g116, g117, g118, rfl⟩ := h; exact (gx_var (gt_as (gt_ifD (qx_tV (qx_op neX_s (qx_b1 absX_s (qx_op iiX_s (qx_op mulX_s (qx_op ixX_s (qx_op ixX_s (qx_varP rfl) (qx_op iiX_s (qx_varP rfl) qx_c)) qx_c) (qx_op ixX_s (qx_op ixX_s (qx_varP rfl) (qx_varP rfl)) qx_c)) (qx_op mulX_s (qx_op ixX_s (qx_op ixX_s (qx_varP rfl) (qx_op iiX_s (qx_varP rfl) qx_c)) qx_c) (qx_op ixX_s (qx_op ixX_s (qx_varP rfl) (qx_varP rfl)) qx_c)))) qx_c))
  (gt_retL qx_c)
  (gt_pass (gt_ifD (qx_tV (qx_op iiX_s (qx_op addX_s (qx_varP rfl) qx_c) (qx_b1 lenX_s (qx_varP rfl))))
  (gt_as (gt_set (qx_ofF (qx_lc (qx_rng1 qx_c) fun d183 => (gx_var (qx_op addX_s (qx_op ixX_s (qx_op ixX_s (qx_varP rfl) (qx_op iiX_s (qx_varP rfl) qx_c)) (qx_varP rfl)) (qx_op ixX_s (qx_op ixX_s (qx_varP rfl) (qx_op addX_s (qx_varP rfl) qx_c)) (qx_varP rfl)))))) fun l_both_181 =>
  (gt_as (gt_set (qx_ifE (qx_tV (qx_op neX_s (qx_op ixX_s (qx_op ixX_s (qx_varP rfl) (qx_varP rfl)) qx_c) qx_c)) qx_c qx_c) fun l_axis_199 =>
  (gt_as (gt_set (qx_op fdivX_s (qx_op ixX_s (qx_varP rfl) (qx_varP rfl)) (qx_op ixX_s (qx_op ixX_s (qx_varP rfl) (qx_varP rfl)) (qx_varP rfl))) fun l_factor_206 =>
  (gt_as (gt_ifD (qx_or (qx_tV (qx_op iiX_s (qx_varP rfl) qx_c)) (qx_tV (qx_op neX_s (qx_varP rfl) (qx_ofF (qx_lc (qx_rng1 qx_c) fun d218 => (gx_var (qx_op mulX_s (qx_varP rfl) (qx_op ixX_s (qx_op ixX_s (qx_varP rfl) (qx_varP rfl)) (qx_varP rfl)))))))))
  (gt_retL qx_c)
  (gt_pass (gt_app rfl (qx_varE rfl) fun l_told_231 =>
  (gt_endL ⟨_, _, _, _, rfl⟩)))))))))))
  (gt_pass (gt_endL ⟨_, _, _, _, rfl⟩))))))))) fun s113 ρ h => (by obtain ⟨g232, g233, g234, g235, rfl⟩ := h; exact (gt_as (gt_set (qx_ofF (qx_lf (qx_rng1 (qx_b1 lenX_s (qx_varP rfl))) fun d239 => (gx_var (fil_j (qx_or (qx_tV (qx_op inX_s (qx_varP rfl) (qx_ofF (qx_lst (qx_a2 qx_c (qx_op iiX_s (qx_b1 lenX_s (qx_varP rfl)) qx_c)))))) (qx_tV (qx_op iiX_s (qx_op ixX_s (qx_varO rfl) (qx_op iiX_s (qx_varP rfl) qx_c)) qx_c))) (qx_op ixX_s (qx_varP rfl) (qx_varP rfl)))))) fun l_tips_236 =>
  (gt_as (gt_ifD (qx_not (qx_tV (qx_call2 (qx_call2 (qx_varE rfl) (qx_varE rfl) _) (qx_b1 tupleX_s (qx_varP rfl)) _)))
  (gt_retF qx_c)
  (gt_pass (gt_retF (qx_vB (qx_or (qx_tV (qx_op eqX_s (qx_varO rfl) (qx_ofF (qx_lst qx_nil)))) (qx_tV (qx_op eqX_s (qx_op ixX_s (qx_call1 (qx_b1 tupleX_s (qx_varO rfl)) _) qx_c) (qx_b1 absX_s (qx_varP rfl))))))))))))))))))))))))))))))))))))))))
noncomputable def x_law : Rs D := x_lawC x_l_pick x_l_signed x_l_gcd x_least_sums x_l_least_sums (x_l_alike 5) x_sail x_from_steps
theorem gx_law : GT KF FoF (lawE ["_law_script", "_law_row", "_law_most", "_law_pairs", "_law_turn", "_law_x", "_law_y", "_law_common", "_law_one", "_law_other", "_law_whole", "_law_found", "_law_told", "_law_at", "_law_both", "_law_k", "_law_axis", "_law_factor", "_law_tips"]) (sem_law (x2O x_l_pick) (x2O x_l_signed) (x2O x_l_gcd) takenO (x2O x_least_sums) (x2O x_l_least_sums) (x2O (x_l_alike 5)) (x2O x_sail) (x1O x_from_steps)) x_law := gx_lawC _ _ _ _ _ _ _ _
theorem gxS : ∃ sem : SS, sem = sem_law (x2O x_l_pick) (x2O x_l_signed) (x2O x_l_gcd) takenO (x2O x_least_sums) (x2O x_l_least_sums) (x2O (x_l_alike 5)) (x2O x_sail) (x1O x_from_steps) ∧ GT KF FoF (lawE ["_law_script", "_law_row", "_law_most", "_law_pairs", "_law_turn", "_law_x", "_law_y", "_law_common", "_law_one", "_law_other", "_law_whole", "_law_found", "_law_told", "_law_at", "_law_both", "_law_k", "_law_axis", "_law_factor", "_law_tips"]) sem x_law := ⟨_, rfl, gx_law⟩
theorem run_of (h : AS x_law fun d => d = .bl true) : sem_law (x2O x_l_pick) (x2O x_l_signed) (x2O x_l_gcd) takenO (x2O x_least_sums) (x2O x_l_least_sums) (x2O (x_l_alike 5)) (x2O x_sail) (x1O x_from_steps) (lawE ["_law_script", "_law_row", "_law_most", "_law_pairs", "_law_turn", "_law_x", "_law_y", "_law_common", "_law_one", "_law_other", "_law_whole", "_law_found", "_law_told", "_law_at", "_law_both", "_law_k", "_law_axis", "_law_factor", "_law_tips"]) { nx := fun _ => False, rt := fun d => d = .bl true, bk := fun _ => False, ct := fun _ => False } := by
  obtain ⟨sem, e, g⟩ := gxS
  rw [← e]
  exact run_key2 _ _ _ g h
/-! ### least sums of a plane cone (for k76) -/
def trn (u v : Int × Int) : Int := u.1 * v.2 - u.2 * v.1
/-- a chain of pairs: neighbours span the lattice, and no turn is flat or inward -/
structure HJ (v : Nat → Int × Int) (k : Nat) (e : Int) : Prop where
  k1 : 1 ≤ k
  e1 : e * e = 1
  one : ∀ i, i < k → e * trn (v i) (v (i + 1)) = 1
  two : ∀ i, i + 1 < k → ∃ b : Int, 2 ≤ b ∧ (v i).1 + (v (i + 2)).1 = b * (v (i + 1)).1 ∧ (v i).2 + (v (i + 2)).2 = b * (v (i + 1)).2
def be (v : Nat → Int × Int) (e : Int) (p : Int × Int) : Int := e * trn (v 0) p
def al (v : Nat → Int × Int) (k : Nat) (e : Int) (p : Int × Int) : Int := e * trn p (v k)
theorem be_up {v : Nat → Int × Int} {k : Nat} {e : Int} (h : HJ v k e) : ∀ i, i < k → be v e (v i) + 1 ≤ be v e (v (i + 1)) ∧ 0 ≤ be v e (v i)
  | 0, hk => by
    have := h.one 0 hk
    unfold be
    refine ⟨?_, ?_⟩
    · have z : trn (v 0) (v 0) = 0 := by unfold trn; grind
      rw [z]; omega
    · have z : trn (v 0) (v 0) = 0 := by unfold trn; grind
      rw [z]; omega
  | i + 1, hk => by
    obtain ⟨h1, h2⟩ := be_up h i (by omega)
    obtain ⟨b, hb, e1, e2⟩ := h.two i hk
    have e3 : be v e (v i) + be v e (v (i + 2)) = b * be v e (v (i + 1)) := by
      unfold be trn
      have : (v 0).1 * ((v i).2 + (v (i + 2)).2) - (v 0).2 * ((v i).1 + (v (i + 2)).1) = b * ((v 0).1 * (v (i + 1)).2 - (v 0).2 * (v (i + 1)).1) := by rw [e1, e2]; grind
      grind
    have h3 : 0 ≤ (b - 2) * be v e (v (i + 1)) := Int.mul_nonneg (by omega) (by omega)
    have h4 : (b - 2) * be v e (v (i + 1)) = b * be v e (v (i + 1)) - 2 * be v e (v (i + 1)) := by rw [Int.sub_mul]
    exact ⟨by show be v e (v (i + 1)) + 1 ≤ be v e (v (i + 2)); omega, by omega⟩
theorem al_down {v : Nat → Int × Int} {k : Nat} {e : Int} (h : HJ v k e) : ∀ j, j < k → al v k e (v (k - j)) + 1 ≤ al v k e (v (k - j - 1)) ∧ 0 ≤ al v k e (v (k - j))
  | 0, hk => by
    have := h.one (k - 1) (by omega)
    rw [show k - 1 + 1 = k by omega] at this
    have z : trn (v k) (v k) = 0 := by unfold trn; grind
    unfold al
    rw [Nat.sub_zero, z]
    omega
  | j + 1, hk => by
    obtain ⟨h1, h2⟩ := al_down h j (by omega)
    obtain ⟨b, hb, e1, e2⟩ := h.two (k - j - 2) (by omega)
    rw [show k - j - 2 + 2 = k - j by omega, show k - j - 2 + 1 = k - j - 1 by omega] at e1 e2
    rw [show k - (j + 1) = k - j - 1 by omega, show k - j - 1 - 1 = k - j - 2 by omega]
    have e3 : al v k e (v (k - j - 2)) + al v k e (v (k - j)) = b * al v k e (v (k - j - 1)) := by
      unfold al trn
      have : ((v (k - j - 2)).1 + (v (k - j)).1) * (v k).2 - ((v (k - j - 2)).2 + (v (k - j)).2) * (v k).1 = b * ((v (k - j - 1)).1 * (v k).2 - (v (k - j - 1)).2 * (v k).1) := by rw [e1, e2]; grind
      grind
    have h3 : 0 ≤ (b - 2) * al v k e (v (k - j - 1)) := Int.mul_nonneg (by omega) (by omega)
    have h4 : (b - 2) * al v k e (v (k - j - 1)) = b * al v k e (v (k - j - 1)) - 2 * al v k e (v (k - j - 1)) := by rw [Int.sub_mul]
    exact ⟨by omega, by omega⟩
theorem be_mono {v : Nat → Int × Int} {k : Nat} {e : Int} (h : HJ v k e) {i : Nat} : ∀ j, i + j ≤ k → be v e (v i) + j ≤ be v e (v (i + j))
  | 0, _ => by show _ + ((0 : Nat) : Int) ≤ _; rw [Nat.add_zero]; omega
  | j + 1, hj => by
    have h1 := be_mono h (i := i) j (by omega)
    have h2 := (be_up h (i + j) (by omega)).1
    rw [show i + j + 1 = i + (j + 1) by omega] at h2
    omega
theorem al_mono {v : Nat → Int × Int} {k : Nat} {e : Int} (h : HJ v k e) {i : Nat} : ∀ j, i + j ≤ k → al v k e (v (i + j)) + j ≤ al v k e (v i)
  | 0, _ => by show _ + ((0 : Nat) : Int) ≤ _; rw [Nat.add_zero]; omega
  | j + 1, hj => by
    have h1 := al_mono h (i := i) j (by omega)
    have h2 := (al_down h (k - (i + j) - 1) (by omega)).1
    rw [show k - (k - (i + j) - 1) = i + (j + 1) by omega, show i + (j + 1) - 1 = i + j by omega] at h2
    omega
/-- a point of the cone lies between two neighbours -/
theorem hj_cov {v : Nat → Int × Int} {k : Nat} {e : Int} (h : HJ v k e) {p : Int × Int} (h1 : 0 ≤ be v e p) (h2 : 0 ≤ al v k e p) : ∃ i, i < k ∧ ∃ s t : Int, 0 ≤ s ∧ 0 ≤ t ∧ p.1 = s * (v i).1 + t * (v (i + 1)).1 ∧ p.2 = s * (v i).2 + t * (v (i + 1)).2 := by
  have key : ∀ j, j ≤ k → (0 ≤ e * trn (v j) p) ∨ ∃ i, i < k ∧ 0 ≤ e * trn (v i) p ∧ e * trn (v (i + 1)) p ≤ 0 := by
    intro j
    induction j with
    | zero => intro _; exact .inl h1
    | succ j ih =>
      intro hj
      rcases ih (by omega) with z | z
      · rcases Int.lt_or_le (e * trn (v (j + 1)) p) 0 with y | y
        · exact .inr ⟨j, by omega, z, by omega⟩
        · exact .inl y
      · exact .inr z
  have fin : ∃ i, i < k ∧ 0 ≤ e * trn (v i) p ∧ e * trn (v (i + 1)) p ≤ 0 := by
    have hk := h.k1
    rcases key (k - 1) (by omega) with z | z
    · refine ⟨k - 1, by omega, z, ?_⟩
      rw [show k - 1 + 1 = k by omega]
      have : e * trn (v k) p = -(al v k e p) := by unfold al trn; grind
      omega
    · exact z
  obtain ⟨i, hi, c1, c2⟩ := fin
  refine ⟨i, hi, -(e * trn (v (i + 1)) p), e * trn (v i) p, by omega, c1, ?_, ?_⟩
  · have o := h.one i hi
    have : p.1 = (e * trn (v i) (v (i + 1))) * p.1 := by rw [o, Int.one_mul]
    rw [this]; unfold trn; grind
  · have o := h.one i hi
    have : p.2 = (e * trn (v i) (v (i + 1))) * p.2 := by rw [o, Int.one_mul]
    rw [this]; unfold trn; grind
theorem be_lin (v : Nat → Int × Int) (e : Int) {p a b : Int × Int} {s t : Int} (h1 : p.1 = s * a.1 + t * b.1) (h2 : p.2 = s * a.2 + t * b.2) : be v e p = s * be v e a + t * be v e b := by
  unfold be trn; rw [h1, h2]; grind
theorem al_lin (v : Nat → Int × Int) (k : Nat) (e : Int) {p a b : Int × Int} {s t : Int} (h1 : p.1 = s * a.1 + t * b.1) (h2 : p.2 = s * a.2 + t * b.2) : al v k e p = s * al v k e a + t * al v k e b := by
  unfold al trn; rw [h1, h2]; grind
theorem be_nn {v : Nat → Int × Int} {k : Nat} {e : Int} (h : HJ v k e) {i : Nat} (hi : i ≤ k) : (i : Int) ≤ be v e (v i) := by
  have := be_mono h (i := 0) i (by omega)
  rw [Nat.zero_add] at this
  have z : be v e (v 0) = 0 := by unfold be trn; grind
  omega
theorem al_nn {v : Nat → Int × Int} {k : Nat} {e : Int} (h : HJ v k e) {i : Nat} (hi : i ≤ k) : ((k - i : Nat) : Int) ≤ al v k e (v i) := by
  have := al_mono h (i := i) (k - i) (by omega)
  rw [show i + (k - i) = k by omega] at this
  have z : al v k e (v k) = 0 := by unfold al trn; grind
  omega
/-- no other point of the cone, but nought, is below a pair of the chain -/
theorem hj_irr {v : Nat → Int × Int} {k : Nat} {e : Int} (h : HJ v k e) {i : Nat} (hi : i ≤ k) {q : Int × Int} (h1 : 0 ≤ be v e q) (h2 : 0 ≤ al v k e q) (h0 : q ≠ (0, 0)) (c1 : be v e q ≤ be v e (v i)) (c2 : al v k e q ≤ al v k e (v i)) : q = v i := by
  obtain ⟨j, hj, s, t, s0, t0, e1, e2⟩ := hj_cov h h1 h2
  have eb := be_lin v e e1 e2
  have ea := al_lin v k e e1 e2
  have b0 := be_nn h (show j ≤ k by omega)
  have b1 := be_nn h (show j + 1 ≤ k by omega)
  have a0 := al_nn h (show j ≤ k by omega)
  have a1 := al_nn h (show j + 1 ≤ k by omega)
  have st : s ≠ 0 ∨ t ≠ 0 := by
    refine Classical.byContradiction fun z => h0 ?_
    have z1 : s = 0 := Classical.byContradiction fun y => z (.inl y)
    have z2 : t = 0 := Classical.byContradiction fun y => z (.inr y)
    subst z1; subst z2
    exact Prod.ext (by rw [e1]; simp) (by rw [e2]; simp)
  -- products
  have pb : 0 ≤ s * be v e (v j) := Int.mul_nonneg s0 (by omega)
  have pb1 : 0 ≤ t * be v e (v (j + 1)) := Int.mul_nonneg t0 (by omega)
  have pa : 0 ≤ s * al v k e (v j) := Int.mul_nonneg s0 (by omega)
  have pa1 : 0 ≤ t * al v k e (v (j + 1)) := Int.mul_nonneg t0 (by omega)
  have ge : ∀ {x y : Int}, 1 ≤ x → 0 ≤ y → y ≤ x * y := fun {x y} hx hy => by
    have := Int.mul_le_mul_of_nonneg_right hx hy
    omega
  have upb : ∀ {m : Nat}, i < m → m ≤ k → be v e (v i) < be v e (v m) := fun {m} l1 l2 => by
    have := be_mono h (i := i) (m - i) (by omega)
    rw [show i + (m - i) = m by omega] at this
    omega
  have dna : ∀ {m : Nat}, m < i → al v k e (v i) < al v k e (v m) := fun {m} l1 => by
    have := al_mono h (i := m) (i - m) (by omega)
    rw [show m + (i - m) = i by omega] at this
    omega
  have two : ∀ {x y : Int}, 2 ≤ x → 1 ≤ y → y < x * y := fun {x y} hx hy => by
    have := Int.mul_le_mul_of_nonneg_right hx (show 0 ≤ y by omega)
    omega
  have S : 1 ≤ s → j = i := fun hs => by
    rcases Nat.lt_trichotomy j i with z | z | z
    · have := dna z
      have := ge hs (show 0 ≤ al v k e (v j) by omega)
      omega
    · exact z
    · have := upb z (by omega)
      have := ge hs (show 0 ≤ be v e (v j) by omega)
      omega
  have T : 1 ≤ t → j + 1 = i := fun ht => by
    rcases Nat.lt_trichotomy (j + 1) i with z | z | z
    · have := dna z
      have := ge ht (show 0 ≤ al v k e (v (j + 1)) by omega)
      omega
    · exact z
    · have := upb z (by omega)
      have := ge ht (show 0 ≤ be v e (v (j + 1)) by omega)
      omega
  rcases Int.lt_or_le 0 s with hs | hs
  · have ej := S (by omega)
    have tz : t = 0 := by
      rcases Int.lt_or_le 0 t with ht | ht
      · have := T (by omega); omega
      · omega
    subst tz; subst ej
    have s1 : s = 1 := by
      rcases Int.lt_or_le 1 s with y | y
      · have := two (show 2 ≤ s by omega) (show 1 ≤ al v k e (v j) by omega)
        omega
      · omega
    subst s1
    exact Prod.ext (by rw [e1]; omega) (by rw [e2]; omega)
  · have sz : s = 0 := by omega
    have ht : 1 ≤ t := by
      rcases st with y | y
      · exact absurd sz y
      · omega
    have ej := T ht
    subst sz
    have t1 : t = 1 := by
      rcases Int.lt_or_le 1 t with y | y
      · have := two (show 2 ≤ t by omega) (show 1 ≤ be v e (v (j + 1)) by omega)
        rw [ej] at this
        rw [ej] at eb
        omega
      · omega
    subst t1
    rw [ej] at e1 e2
    exact Prod.ext (by rw [e1]; omega) (by rw [e2]; omega)
/-- every other point of the cone is above a pair of the chain -/
theorem hj_red {v : Nat → Int × Int} {k : Nat} {e : Int} (h : HJ v k e) {p : Int × Int} (h1 : 0 ≤ be v e p) (h2 : 0 ≤ al v k e p) (h0 : p ≠ (0, 0)) : ∃ i, i ≤ k ∧ be v e (v i) ≤ be v e p ∧ al v k e (v i) ≤ al v k e p := by
  obtain ⟨j, hj, s, t, s0, t0, e1, e2⟩ := hj_cov h h1 h2
  have eb := be_lin v e e1 e2
  have ea := al_lin v k e e1 e2
  have b0 := be_nn h (show j ≤ k by omega)
  have b1 := be_nn h (show j + 1 ≤ k by omega)
  have a0 := al_nn h (show j ≤ k by omega)
  have a1 := al_nn h (show j + 1 ≤ k by omega)
  have ge : ∀ {x y : Int}, 1 ≤ x → 0 ≤ y → y ≤ x * y := fun {x y} hx hy => by
    have := Int.mul_le_mul_of_nonneg_right hx hy
    omega
  have pb : 0 ≤ s * be v e (v j) := Int.mul_nonneg s0 (by omega)
  have pb1 : 0 ≤ t * be v e (v (j + 1)) := Int.mul_nonneg t0 (by omega)
  have pa : 0 ≤ s * al v k e (v j) := Int.mul_nonneg s0 (by omega)
  have pa1 : 0 ≤ t * al v k e (v (j + 1)) := Int.mul_nonneg t0 (by omega)
  rcases Int.lt_or_le 0 s with hs | hs
  · have g1 := ge (show 1 ≤ s by omega) (show 0 ≤ be v e (v j) by omega)
    have g2 := ge (show 1 ≤ s by omega) (show 0 ≤ al v k e (v j) by omega)
    exact ⟨j, by omega, by omega, by omega⟩
  · have sz : s = 0 := by omega
    have ht : 1 ≤ t := by
      rcases Int.lt_or_le 0 t with y | y
      · omega
      · have tz : t = 0 := by omega
        subst sz; subst tz
        exact absurd (Prod.ext (by rw [e1]; simp) (by rw [e2]; simp)) h0
    have g1 := ge ht (show 0 ≤ be v e (v (j + 1)) by omega)
    have g2 := ge ht (show 0 ≤ al v k e (v (j + 1)) by omega)
    exact ⟨j + 1, by omega, by omega, by omega⟩
/-! ### the chain by steps -/
structure Run (v : Nat → Int × Int) (n : Nat) (e : Int) (o : Int × Int) : Prop where
  n1 : 1 ≤ n
  e1 : e * e = 1
  one : ∀ i, i < n → e * trn (v i) (v (i + 1)) = 1
  two : ∀ i, i + 1 < n → ∃ b : Int, 2 ≤ b ∧ (v i).1 + (v (i + 2)).1 = b * (v (i + 1)).1 ∧ (v i).2 + (v (i + 2)).2 = b * (v (i + 1)).2
  lo : 0 ≤ e * trn (v n) o
  hi : e * trn (v n) o < e * trn (v (n - 1)) o
theorem par_mul {u o : Int × Int} (h : trn u o = 0) {p q : Int} (hb : p * o.1 + q * o.2 = 1) : u.1 = (p * u.1 + q * u.2) * o.1 ∧ u.2 = (p * u.1 + q * u.2) * o.2 := by
  unfold trn at h
  constructor
  · have : u.1 = u.1 * (p * o.1 + q * o.2) := by rw [hb, Int.mul_one]
    grind
  · have : u.2 = u.2 * (p * o.1 + q * o.2) := by rw [hb, Int.mul_one]
    grind
/-- at height nought the chain has come to its end -/
theorem run_zero {v : Nat → Int × Int} {n : Nat} {e : Int} {o : Int × Int} (h : Run v n e o) {p q : Int} (hb : p * o.1 + q * o.2 = 1) (hz : e * trn (v n) o = 0) : v n = o := by
  have he : e ≠ 0 := fun z => by have := h.e1; rw [z] at this; simp at this
  have z0 : trn (v n) o = 0 := by
    rcases Int.mul_eq_zero.mp hz with z | z
    · exact absurd z he
    · exact z
  obtain ⟨c1, c2⟩ := par_mul z0 hb
  generalize p * (v n).1 + q * (v n).2 = c at c1 c2
  have hn := h.n1
  have o1 := h.one (n - 1) (by omega)
  rw [show n - 1 + 1 = n by omega] at o1
  have hi := h.hi
  rw [hz] at hi
  have e3 : c * (e * trn (v (n - 1)) o) = 1 := by
    rw [← o1]; unfold trn; rw [c1, c2]; grind
  have c3 : c = 1 := by
    have hc : 0 < c := by
      rcases Int.lt_or_le 0 c with y | y
      · exact y
      · have := Int.mul_nonneg (show 0 ≤ -c by omega) (show 0 ≤ e * trn (v (n - 1)) o by omega)
        rw [Int.neg_mul, e3] at this
        omega
    rcases Int.lt_or_le 1 c with y | y
    · have := Int.mul_le_mul_of_nonneg_right (show 2 ≤ c by omega) (show 0 ≤ e * trn (v (n - 1)) o by omega)
      rw [e3] at this
      omega
    · omega
  rw [c3, Int.one_mul] at c1 c2
  exact Prod.ext c1 c2
theorem run_hj {v : Nat → Int × Int} {n : Nat} {e : Int} {o : Int × Int} (h : Run v n e o) : HJ v n e := ⟨h.n1, h.e1, h.one, h.two⟩
/-- one step more -/
theorem run_step {v : Nat → Int × Int} {n : Nat} {e : Int} {o : Int × Int} (h : Run v n e o) {f : Int} (hp : 0 < e * trn (v n) o) (hf : f = -((-(e * trn (v (n - 1)) o)) / (e * trn (v n) o))) :
    Run (fun i => if i = n + 1 then (f * (v n).1 - (v (n - 1)).1, f * (v n).2 - (v (n - 1)).2) else v i) (n + 1) e o := by
  have hn := h.n1
  have hi := h.hi
  have A := Int.emod_add_mul_ediv (-(e * trn (v (n - 1)) o)) (e * trn (v n) o)
  have B := Int.emod_nonneg (-(e * trn (v (n - 1)) o)) (show e * trn (v n) o ≠ 0 by omega)
  have C := Int.emod_lt_of_pos (-(e * trn (v (n - 1)) o)) hp
  have q1 : (-(e * trn (v (n - 1)) o)) / (e * trn (v n) o) = -f := by omega
  rw [q1] at A
  have hw : e * trn (f * (v n).1 - (v (n - 1)).1, f * (v n).2 - (v (n - 1)).2) o = f * (e * trn (v n) o) - e * trn (v (n - 1)) o := by unfold trn; grind
  have hm : e * trn (v n) o * -f = -(f * (e * trn (v n) o)) := by grind
  rw [hm] at A
  have f2 : 2 ≤ f := by
    rcases Int.lt_or_le f 2 with y | y
    · have := Int.mul_le_mul_of_nonneg_right (show f ≤ 1 by omega) (show 0 ≤ e * trn (v n) o by omega)
      omega
    · exact y
  refine ⟨by omega, h.e1, fun i hi => ?_, fun i hi => ?_, ?_, ?_⟩
  · skip
    rw [if_neg (by omega : ¬ i = n + 1)]
    by_cases c : i + 1 = n + 1
    · rw [if_pos c]
      have : i = n := by omega
      subst this
      have o1 := h.one (i - 1) (by omega)
      rw [show i - 1 + 1 = i by omega] at o1
      rw [← o1]; unfold trn; grind
    · rw [if_neg c]
      exact h.one i (by omega)
  · skip
    rw [if_neg (by omega : ¬ i = n + 1), if_neg (by omega : ¬ i + 1 = n + 1)]
    by_cases c : i + 2 = n + 1
    · rw [if_pos c]
      have : n = i + 1 := by omega
      subst this
      refine ⟨f, f2, ?_, ?_⟩
      · rw [show i + 1 - 1 = i by omega]; show (v i).1 + (f * (v (i + 1)).1 - (v i).1) = _; omega
      · rw [show i + 1 - 1 = i by omega]; show (v i).2 + (f * (v (i + 1)).2 - (v i).2) = _; omega
    · rw [if_neg c]
      exact h.two i (by omega)
  · skip
    rw [if_pos rfl, hw]; omega
  · skip
    rw [if_pos rfl, show n + 1 - 1 = n by omega, if_neg (by omega : ¬ n = n + 1), hw]; omega
/-! ### k76: the program's chain, walked -/
def pD (u : Int × Int) : D := .tup [.int u.1, .int u.2]
theorem mokL {i j : Int} (h : i.natAbs ≤ 1000000000000000000) : mulOk i j := .inl (Nat.lt_of_le_of_lt h (by decide))
theorem mokR {i j : Int} (h : j.natAbs ≤ 1000000000000000000) : mulOk i j := .inr (.inl (Nat.lt_of_le_of_lt h (by decide)))
def SmP (u : Int × Int) : Prop := u.1.natAbs ≤ 1000 ∧ u.2.natAbs ≤ 1000
theorem g_turn {u v : Int × Int} (h : SmP v) : x_turn (pD u) (pD v) = .ok (.int (trn u v)) := by
  obtain ⟨h1, h2⟩ := h
  unfold x_turn pD
  simp only [s_ok]
  rw [s_ix0, s_ok, s_ix1, s_ok, s_ix1, s_ok, s_ix0, s_ok, s_mul (mokR (by omega)), s_ok, s_mul (mokR (by omega)), s_ok, s_sub]; rfl
theorem fmod_ltX (a : Int) {b : Int} (h : b ≠ 0) : (a.fmod b).natAbs < b.natAbs := by
  rcases Int.lt_or_gt_of_ne h with hb | hb
  · have h1 := Int.fmod_nonneg_of_pos (-a) (show 0 < -b by omega)
    have h2 := Int.fmod_lt_of_pos (-a) (show 0 < -b by omega)
    rw [Int.neg_fmod_neg] at h1 h2
    omega
  · have h1 := Int.fmod_nonneg_of_pos a hb
    have h2 := Int.fmod_lt_of_pos a hb
    omega
theorem fmod_defX (a b : Int) : a - a.fdiv b * b = a.fmod b := by
  have := Int.mul_fdiv_add_fmod a b
  rw [Int.mul_comm] at this
  omega
theorem gcd_stepX (a b : Int) : Int.gcd b (a.fmod b) = Int.gcd a b := by
  have e : a.fmod b = a - b * (a.fdiv b) := by have := Int.mul_fdiv_add_fmod a b; omega
  have h1 : (Int.gcd a b : Int) ∣ a := Int.gcd_dvd_left ..
  have h2 : (Int.gcd a b : Int) ∣ b := Int.gcd_dvd_right ..
  have h3 : (Int.gcd b (a.fmod b) : Int) ∣ b := Int.gcd_dvd_left ..
  have h4 : (Int.gcd b (a.fmod b) : Int) ∣ a.fmod b := Int.gcd_dvd_right ..
  have h5 : (Int.gcd b (a.fmod b) : Int) ∣ a := by
    have e2 : a.fmod b + b * (a.fdiv b) = a := by omega
    have h45 := Int.dvd_add h4 (Int.dvd_trans h3 (Int.dvd_mul_right b (a.fdiv b)))
    rwa [e2] at h45
  have h6 : (Int.gcd a b : Int) ∣ a.fmod b := by
    rw [e]
    exact Int.dvd_sub h1 (Int.dvd_trans h2 (Int.dvd_mul_right ..))
  have h7 : Int.gcd b (a.fmod b) ∣ Int.gcd a b := Int.dvd_gcd h5 h3 |> fun h => by exact_mod_cast h
  have h8 : Int.gcd a b ∣ Int.gcd b (a.fmod b) := Int.dvd_gcd h2 h6 |> fun h => by exact_mod_cast h
  exact Nat.dvd_antisymm h7 h8
theorem whX_run {S : Type} {test : S → Rs Bool} {step : S → Rs S} (I : Nat → S → Prop) (N : Nat) (h : ∀ i s, I i s → i ≤ N ∧ (test s = .ok false ∨ (test s = .ok true ∧ i < N ∧ ∃ s', step s = .ok s' ∧ I (i + 1) s'))) : ∀ (n i : Nat) (s : S), I i s → N < n + i → ∃ j s', whX test step n s = .ok s' ∧ I j s' ∧ test s' = .ok false
  | 0, i, s, hI, hn => by
    have := (h i s hI).1
    omega
  | n + 1, i, s, hI, hn => by
    rcases (h i s hI).2 with e | ⟨e, hi, s', es, hI'⟩
    · exact ⟨i, s, by show (test s).bd _ = _; rw [e, s_ok, s_cf], hI, e⟩
    · obtain ⟨j, t, h1, h2, h3⟩ := whX_run I N h n (i + 1) s' hI' (by omega)
      exact ⟨j, t, by show (test s).bd _ = _; rw [e, s_ok, s_ct, es, s_ok, h1], h2, h3⟩
theorem fu_big : 1000000000000000000000 ≤ FU := by unfold FU; exact Nat.le_of_ble_eq_true rfl
theorem s_un4 {β : Type} {a b c d : D} {k : D → D → D → D → Rs β} : un4 (.tup [a, b, c, d]) k = k a b c d := of_eq_true (eq_true rfl)
theorem s_tup4 {a b c d : D} {x : Rs D} : grd (([a, b, c, d] : List D).length ≤ big) x = x := if_pos (by show 4 ≤ big; decide)
structure Ez (A B x y p q r s : Int) : Prop where
  l1 : p * A + q * B = x
  l2 : r * A + s * B = y
  b1 : x.natAbs ≤ 1000
  b2 : y.natAbs ≤ 1000
  g : Int.gcd x y = Int.gcd A B
theorem Ez.step {A B x y p q r s : Int} (h : Ez A B x y p q r s) (hy : y ≠ 0) : Ez A B y (x - x.fdiv y * y) r s (p - x.fdiv y * r) (q - x.fdiv y * s) := by
  obtain ⟨l1, l2, b1, b2, g⟩ := h
  refine ⟨l2, ?_, b2, ?_, ?_⟩
  · have : (p - x.fdiv y * r) * A + (q - x.fdiv y * s) * B = (p * A + q * B) - x.fdiv y * (r * A + s * B) := by grind
    rw [this, l1, l2]
  · rw [fmod_defX]; have := fmod_ltX x hy; omega
  · rw [fmod_defX, gcd_stepX, g]
theorem g_first {o t : Int × Int} (ho : SmP o) (ht : SmP t) (hg : Int.gcd o.1 o.2 = 1) (hD : trn o t ≠ 0) {e : Int} (he : e = if 0 < trn o t then 1 else -1) : ∃ w : Int × Int, x_first_after (pD o) (pD t) = .ok (pD w) ∧ e * trn o w = 1 ∧ 0 ≤ e * trn w t ∧ e * trn w t < e * trn o t := by
  obtain ⟨A, B⟩ := o
  obtain ⟨b1, b2⟩ := id ho
  simp only at b1 b2 hg
  have hW : e * trn (A, B) t = (trn (A, B) t).natAbs := by
    rw [he]; split <;> omega
  unfold x_first_after
  simp only [s_ok]
  rw [g_turn ht, s_ok, s_gt, s_ok, s_bo, s_ok]
  have eside : (bif decide (0 < trn (A, B) t) then Rs.ok (D.int 1) else negX (D.int 1)) = .ok (.int e) := by
    rw [he]
    by_cases h : 0 < trn (A, B) t
    · rw [decide_eq_true h, if_pos h]; rfl
    · rw [decide_eq_false h, if_neg h]; rfl
  rw [eside]
  simp only [s_ok, s_tup4, s_un4]
  rw [show absX (.int (trn (A, B) t)) = .ok (.int ((trn (A, B) t).natAbs : Int)) by show Rs.ok (D.int (if trn (A, B) t < 0 then -(trn (A, B) t) else trn (A, B) t)) = _; congr 2; split <;> omega]
  simp only [s_ok, s_tup4, s_un4]
  rw [show un2 (pD (A, B)) = fun k => k (.int A) (.int B) from rfl]
  simp only
  obtain ⟨j, st, ew, ⟨x, y, p, q, r, s, rfl, z, hj⟩, hz⟩ := whX_run (fun i (st : D × D × D × D × D × D) => ∃ x y p q r s : Int, st = (.int x, .int y, .int p, .int q, .int r, .int s) ∧ Ez A B x y p q r s ∧ y.natAbs + i ≤ B.natAbs) B.natAbs
    (test := fun s26 => (neX s26.snd.fst (D.int 0)).bd boX)
    (step := (fun s26 =>
                      (fdivX s26.fst s26.snd.fst).bd fun factor_32 =>
                        ((mulX factor_32 s26.snd.fst).bd fun a38 => subX s26.fst a38).bd fun y_40 =>
                          ((((mulX factor_32 s26.snd.snd.snd.snd.fst).bd fun a44 => subX s26.snd.snd.fst a44).bd
                                    fun a51 =>
                                    ((mulX factor_32 s26.snd.snd.snd.snd.snd).bd fun a48 =>
                                          subX s26.snd.snd.snd.fst a48).bd
                                      fun a52 => Rs.ok [s26.snd.snd.snd.snd.fst, s26.snd.snd.snd.snd.snd, a51, a52]).bd
                                fun l => grd (l.length ≤ big) (Rs.ok (D.tup l))).bd
                            fun d53 => un4 d53 fun u54 u55 u56 u57 => Rs.ok (s26.snd.fst, y_40, u54, u55, u56, u57)))
    (by
      rintro i st ⟨x, y, p, q, r, s, rfl, z, hj⟩
      refine ⟨by omega, ?_⟩
      by_cases h : y = 0
      · left
        subst h
        rfl
      · right
        have f1 : (x.fdiv y).natAbs ≤ 1000000000000000000 := Nat.le_trans (Int.natAbs_fdiv_le_natAbs x y) (by have := z.b1; omega)
        have y2 := z.b2
        refine ⟨by simp only [s_ne, s_ok, s_bo]; rw [decide_eq_false h]; rfl, by omega, _, ?_, y, x - x.fdiv y * y, r, s, p - x.fdiv y * r, q - x.fdiv y * s, rfl, z.step h, by rw [fmod_defX]; have := fmod_ltX x h; omega⟩
        simp only
        rw [s_fdiv ⟨h, small_nat (by omega)⟩]
        simp only [s_ok]
        rw [s_mul (mokL f1), s_mul (mokL f1), s_mul (mokL f1)]
        simp only [s_ok, s_sub, s_tup4, s_un4]) FU 0 (.int A, .int B, .int 1, .int 0, .int 0, .int 1) ⟨A, B, 1, 0, 0, 1, rfl, ⟨by omega, by omega, b1, b2, rfl⟩, by omega⟩ (by have := fu_big; omega)
  rw [ew]
  have y0 : y = 0 := by
    rcases Classical.em (y = 0) with h | h
    · exact h
    · simp only [s_ne, s_ok, s_bo] at hz
      rw [decide_eq_false h] at hz
      cases hz
  subst y0
  have hx : x.natAbs = 1 := by have := z.g; rw [Int.gcd_zero_right, hg] at this; exact this
  have l1 := z.l1
  simp only [s_ok, s_gt, s_bo]
  have esg : (bif decide (0 < x) then Rs.ok (D.int e) else negX (D.int e)) = .ok (.int (x * e)) := by
    by_cases h : 0 < x
    · rw [decide_eq_true h, show x = 1 by omega, Int.one_mul]; rfl
    · rw [decide_eq_false h, show x = -1 by omega, Int.neg_mul, Int.one_mul]; rfl
  rw [esg]
  have e1 : e * e = 1 := by rw [he]; split <;> rfl
  have xe : (x * e).natAbs ≤ 1000000000000000000 := by rw [Int.natAbs_mul, hx]; rw [he]; split <;> decide
  have ee : e.natAbs ≤ 1000000000000000000 := by rw [he]; split <;> decide
  simp only [s_ok, s_neg]
  rw [s_mul (mokR xe), s_ok, s_mul (mokR xe)]
  simp only [s_ok, s_tup2]
  rw [show x_turn (.tup [.int (-q * (x * e)), .int (p * (x * e))]) (pD t) = _ from g_turn (u := (-q * (x * e), p * (x * e))) ht, s_ok, s_mul (mokR ee), s_ok]
  have hD2 : (trn (A, B) t).natAbs ≤ 2000000 := by
    obtain ⟨t1, t2⟩ := ht
    have p1 := Nat.mul_le_mul b1 t2
    have p2 := Nat.mul_le_mul b2 t1
    rw [← Int.natAbs_mul] at p1 p2
    unfold trn
    simp only
    omega
  rw [s_fdiv ⟨by omega, small_nat (by omega)⟩, s_ok, s_neg, s_ok]
  rw [Int.fdiv_eq_ediv_of_nonneg _ (by omega)]
  generalize hf : -(trn (-q * (x * e), p * (x * e)) t * e / ((trn (A, B) t).natAbs : Int)) = f
  rw [show ixX (pD (A, B)) (.int 0) = .ok (.int A) from s_ix0, show ixX (pD (A, B)) (.int 1) = .ok (.int B) from s_ix1, s_ix0, s_ix1]
  simp only [s_ok]
  rw [s_mul (mokR (by omega)), s_ok, s_mul (mokR (by omega))]
  simp only [s_ok, s_add, s_tup2]
  have A1 := Int.emod_add_mul_ediv (trn (-q * (x * e), p * (x * e)) t * e) ((trn (A, B) t).natAbs : Int)
  have B1 := Int.emod_nonneg (trn (-q * (x * e), p * (x * e)) t * e) (show ((trn (A, B) t).natAbs : Int) ≠ 0 by omega)
  have C1 := Int.emod_lt_of_pos (trn (-q * (x * e), p * (x * e)) t * e) (show 0 < ((trn (A, B) t).natAbs : Int) by omega)
  have q1 : trn (-q * (x * e), p * (x * e)) t * e / ((trn (A, B) t).natAbs : Int) = -f := by omega
  rw [q1] at A1
  have hw : e * trn (-q * (x * e) + f * A, p * (x * e) + f * B) t = trn (-q * (x * e), p * (x * e)) t * e + f * (e * trn (A, B) t) := by unfold trn; grind
  rw [hW] at hw
  have hm : ((trn (A, B) t).natAbs : Int) * -f = -(f * ((trn (A, B) t).natAbs : Int)) := by grind
  rw [hm] at A1
  refine ⟨(-q * (x * e) + f * A, p * (x * e) + f * B), rfl, ?_, ?_, ?_⟩
  · have xx : x * x = 1 := by have : x = 1 ∨ x = -1 := by omega
                              rcases this with rfl | rfl <;> rfl
    have : e * trn (A, B) (-q * (x * e) + f * A, p * (x * e) + f * B) = e * e * x * (p * A + q * B) := by unfold trn; grind
    rw [this, l1, e1, Int.one_mul, xx]
  · rw [hw]; omega
  · rw [hw, hW]; omega
/-! ### points: equal, among others, sorted -/
theorem tpI_inj {r t : List Int} (h : tpI r = tpI t) : r = t := by
  have := congrArg flatD h
  rwa [flat_tp, flat_tp] at this
theorem inn_tp' (p : List Int) : inn 1 (tpI p) = true := inn_map (n := 0) fun x _ => rfl
theorem eqD_tp (p q : List Int) : eqD (tpI p) (tpI q) = decide (p = q) := by
  by_cases h : p = q
  · subst h; rw [decide_eq_true rfl]; exact eqD_t (inn_tp' p)
  · rw [decide_eq_false h]
    exact eqD_f (inn_tp' p) (inn_tp' q) fun z => h (tpI_inj z)
theorem ne_tp (p q : List Int) : neX (tpI p) (tpI q) = .ok (.bl (decide (p ≠ q))) := by
  show grd (okD (tpI p) = true ∧ okD (tpI q) = true) (.ok (D.bl (!eqD (tpI p) (tpI q)))) = _
  rw [s_grd ⟨okD_inn (inn_tp' p) (by decide), okD_inn (inn_tp' q) (by decide)⟩, eqD_tp, decide_not]
/-! ### k76: the chain, walked -/
theorem s_ixL1 (l : List D) (d : D) : ixX (.lst (l ++ [d])) (.int (-1)) = .ok d := by
  show ofO (atI (l ++ [d]) (-1)) = _
  unfold atI ixN
  rw [if_neg (by decide), if_pos (by rw [List.length_append, List.length_singleton]; omega)]
  simp only [List.length_append, List.length_singleton]
  show ofO ((l ++ [d])[(-1 + ((l.length + 1 : Nat) : Int)).toNat]?) = _
  rw [show (-1 + ((l.length + 1 : Nat) : Int)).toNat = l.length by omega, List.getElem?_append_right (Nat.le_refl _), Nat.sub_self]; rfl
theorem s_ixL2 (l : List D) (c d : D) : ixX (.lst (l ++ [c] ++ [d])) (.int (-2)) = .ok c := by
  show ofO (atI (l ++ [c] ++ [d]) (-2)) = _
  unfold atI ixN
  rw [if_neg (by decide), if_pos (by rw [List.length_append, List.length_append, List.length_singleton, List.length_singleton]; omega)]
  simp only [List.length_append, List.length_singleton]
  show ofO ((l ++ [c] ++ [d])[(-2 + ((l.length + 1 + 1 : Nat) : Int)).toNat]?) = _
  rw [show (-2 + ((l.length + 1 + 1 : Nat) : Int)).toNat = l.length by omega, List.append_assoc, List.getElem?_append_right (Nat.le_refl _), Nat.sub_self]; rfl
def chL (v : Nat → Int × Int) (n : Nat) : List D := (List.range (n + 1)).map fun i => pD (v i)
theorem chL_len (v : Nat → Int × Int) (n : Nat) : (chL v n).length = n + 1 := by unfold chL; rw [List.length_map, List.length_range]
theorem chL_succ (v : Nat → Int × Int) (n : Nat) : chL v (n + 1) = chL v n ++ [pD (v (n + 1))] := by
  unfold chL; rw [List.range_succ, List.map_append]; rfl
theorem chL_last (v : Nat → Int × Int) : ∀ n, ∃ l, chL v n = l ++ [pD (v n)]
  | 0 => ⟨[], rfl⟩
  | n + 1 => ⟨chL v n, chL_succ v n⟩
theorem chL_two (v : Nat → Int × Int) {n : Nat} (h : 1 ≤ n) : ∃ l, chL v n = l ++ [pD (v (n - 1))] ++ [pD (v n)] := by
  obtain ⟨m, rfl⟩ : ∃ m, n = m + 1 := ⟨n - 1, by omega⟩
  obtain ⟨l, e⟩ := chL_last v m
  exact ⟨l, by rw [chL_succ, e]; rfl⟩
theorem s_nePD {u v : Int × Int} : neX (pD u) (pD v) = .ok (D.bl (decide (u ≠ v))) := by
  show neX (tpI [u.1, u.2]) (tpI [v.1, v.2]) = _
  rw [ne_tp]
  congr 2
  refine decide_eq_decide.mpr (not_congr ⟨fun z => ?_, fun z => by rw [z]⟩)
  injection z with z1 z2
  injection z2 with z2 _
  exact Prod.ext z1 z2
/-- the program's loop over the chain -/
theorem g_chain {t : Int × Int} (ht : SmP t) {e : Int} (he : e.natAbs ≤ 1000) {p q : Int} (hb : p * t.1 + q * t.2 = 1) {v : Nat → Int × Int} {D0 : Int} (hD : D0 ≤ 1900) (h : Run v 1 e t) (h0 : e * trn (v 0) t = D0) (step : List D → Rs (List D)) (hstep : ∀ (v : Nat → Int × Int) (n : Nat), Run v n e t → n < 1990 → 0 < e * trn (v n) t → e * trn (v n) t ≤ 2000 → e * trn (v (n - 1)) t ≤ 2000 →
      step (chL v n) = .ok (chL v n ++ [pD (-((-(e * trn (v (n - 1)) t)) / (e * trn (v n) t)) * (v n).1 - (v (n - 1)).1, -((-(e * trn (v (n - 1)) t)) / (e * trn (v n) t)) * (v n).2 - (v (n - 1)).2)])) :
    ∃ (w : Nat → Int × Int) (k : Nat), HJ w k e ∧ w 0 = v 0 ∧ w k = t ∧ k ≤ 1900 ∧ whX (fun s28 => (((negX (D.int 1)).bd fun a36 => ixX (D.lst s28) a36).bd fun a37 => neX a37 (pD t)).bd boX) step FU (chL v 1) = .ok (chL w k) := by
  have hi0 : e * trn (v 1) t < D0 := by have := h.hi; rw [show 1 - 1 = 0 from rfl, h0] at this; exact this
  have hD0 : 0 ≤ D0 := by have := h.lo; omega
  obtain ⟨j, st, ew, ⟨w, n, hn, est, hr, hw0, hal⟩, hz⟩ := whX_run (fun i (st : List D) => ∃ (w : Nat → Int × Int) (n : Nat), n = i + 1 ∧ st = chL w n ∧ Run w n e t ∧ w 0 = v 0 ∧ e * trn (w n) t + n ≤ D0 ∧ e * trn (w (n - 1)) t ≤ D0) D0.toNat
    (test := fun s28 => (((negX (D.int 1)).bd fun a36 => ixX (D.lst s28) a36).bd fun a37 => neX a37 (pD t)).bd boX) (step := step)
    (by
      rintro i st ⟨w, n, hn, rfl, hr, hw0, h1, h2⟩
      have lo := hr.lo
      refine ⟨by omega, ?_⟩
      obtain ⟨l, el⟩ := chL_last w n
      have et : ((((negX (D.int 1)).bd fun a36 => ixX (D.lst (chL w n)) a36).bd fun a37 => neX a37 (pD t)).bd boX) = .ok (decide (w n ≠ t)) := by
        rw [s_neg, s_ok, el, s_ixL1, s_ok, s_nePD, s_ok, s_bo]
      rw [et]
      by_cases c : w n = t
      · left; rw [decide_eq_false (fun z => z c)]
      · right
        have hp : 0 < e * trn (w n) t := by
          rcases Int.lt_or_le 0 (e * trn (w n) t) with y | y
          · exact y
          · exact absurd (run_zero hr hb (by omega)) c
        rw [decide_eq_true c]
        refine ⟨rfl, by omega, _, hstep w n hr (by omega) hp (by omega) (by omega), ?_⟩
        have r2 := run_step hr hp (f := -((-(e * trn (w (n - 1)) t)) / (e * trn (w n) t))) rfl
        refine ⟨_, n + 1, by omega, ?_, r2, ?_, ?_, ?_⟩
        · rw [chL_succ, if_pos rfl]
          congr 1
          unfold chL
          exact List.map_congr_left fun i hi => by
            have := List.mem_range.mp hi
            show pD (w i) = pD (if i = n + 1 then _ else w i)
            rw [if_neg (by omega)]
        · show (if 0 = n + 1 then _ else w 0) = v 0
          rw [if_neg (by omega)]; exact hw0
        · have := r2.hi
          rw [show n + 1 - 1 = n by omega, if_neg (by omega : ¬ n = n + 1)] at this
          omega
        · rw [show n + 1 - 1 = n by omega, if_neg (by omega)]; omega) FU 0 (chL v 1) ⟨v, 1, rfl, rfl, h, rfl, by omega, by show e * trn (v 0) t ≤ D0; omega⟩ (by have := fu_big; omega)
  subst est
  obtain ⟨l, el⟩ := chL_last w n
  rw [s_neg, s_ok, el, s_ixL1, s_ok, s_nePD, s_ok, s_bo] at hz
  have c : w n = t := by
    rcases Classical.em (w n = t) with y | y
    · exact y
    · rw [decide_eq_true y] at hz; cases hz
  have lo := hr.lo
  exact ⟨w, n, run_hj hr, hw0, c, by omega, ew⟩
/-! ### k76: sums_between -/
noncomputable def hjS (t : Int × Int) (e : Int) : List D → Rs (List D) := (fun s28 =>
                                (((lenX (D.lst s28)).bd fun a45 => eqX a45 (D.int 2000)).bd boX).bd fun b47 =>
                                  bif b47 then Rs.er (Str.ofString "TooMany") [D.int 2000]
                                  else
                                    ((negX (D.int 1)).bd fun a36 => ixX (D.lst s28) a36).bd fun last_53 =>
                                      ((negX (D.int 2)).bd fun a36 => ixX (D.lst s28) a36).bd fun before_54 =>
                                        ((x_turn before_54 (pD t)).bd fun a57 => mulX a57 (D.int e)).bd fun above_63 =>
                                          ((x_turn last_53 (pD t)).bd fun a57 => mulX a57 (D.int e)).bd fun here_64 =>
                                            (((negX above_63).bd fun a66 => fdivX a66 here_64).bd negX).bd
                                              fun factor_65 =>
                                              (((((ixX last_53 (D.int 0)).bd fun a71 => mulX factor_65 a71).bd
                                                            fun a74 =>
                                                            (ixX before_54 (D.int 0)).bd fun a75 => subX a74 a75).bd
                                                        fun a84 =>
                                                        (((ixX last_53 (D.int 1)).bd fun a71 => mulX factor_65 a71).bd
                                                              fun a82 =>
                                                              (ixX before_54 (D.int 1)).bd fun a83 => subX a82 a83).bd
                                                          fun a85 => Rs.ok [a84, a85]).bd
                                                    fun l => grd (l.length ≤ big) (Rs.ok (D.tup l))).bd
                                                fun a86 => (appX s28 a86).bd fun found_87 => Rs.ok found_87)
theorem s_hjstep {t : Int × Int} (ht : SmP t) {e : Int} (ea : e.natAbs ≤ 1000) (v : Nat → Int × Int) (n : Nat) (hr : Run v n e t) (hn : n < 1990) (hp : 0 < e * trn (v n) t) (hp2 : e * trn (v n) t ≤ 2000) (hq2 : e * trn (v (n - 1)) t ≤ 2000) : hjS t e (chL v n) = .ok (chL v n ++ [pD (-((-(e * trn (v (n - 1)) t)) / (e * trn (v n) t)) * (v n).1 - (v (n - 1)).1, -((-(e * trn (v (n - 1)) t)) / (e * trn (v n) t)) * (v n).2 - (v (n - 1)).2)]) := by
  unfold hjS
  obtain ⟨l, el⟩ := chL_two v hr.n1
  have hlen := chL_len v n
  rw [s_lenL, s_ok, hlen, s_eq, s_ok, s_bo, s_ok, decide_eq_false (by omega)]
  simp only [s_cf, s_neg, s_ok]
  rw [el, s_ixL1, s_ixL2]
  simp only [s_ok]
  rw [g_turn ht, s_ok, s_mul (mokR (by omega)), s_ok, g_turn ht, s_ok, s_mul (mokR (by omega)), s_ok]
  have x1 : trn (v (n - 1)) t * e = e * trn (v (n - 1)) t := Int.mul_comm _ _
  have x2 : trn (v n) t * e = e * trn (v n) t := Int.mul_comm _ _
  rw [x1, x2, s_neg, s_ok, s_fdiv ⟨by omega, small_nat (by omega)⟩, s_ok, s_neg, s_ok, Int.fdiv_eq_ediv_of_nonneg _ (by omega)]
  have hf : (-(-(e * trn (v (n - 1)) t) / (e * trn (v n) t))).natAbs ≤ 1000000000000000000 := by
    rw [Int.natAbs_neg]
    have := Int.natAbs_ediv_le_natAbs (-(e * trn (v (n - 1)) t)) (e * trn (v n) t)
    have hi := hr.hi
    omega
  generalize -(-(e * trn (v (n - 1)) t) / (e * trn (v n) t)) = f at hf ⊢
  rw [show ixX (pD (v n)) (.int 0) = .ok (.int (v n).1) from s_ix0, show ixX (pD (v n)) (.int 1) = .ok (.int (v n).2) from s_ix1, show ixX (pD (v (n - 1))) (.int 0) = .ok (.int (v (n - 1)).1) from s_ix0, show ixX (pD (v (n - 1))) (.int 1) = .ok (.int (v (n - 1)).2) from s_ix1]
  simp only [s_ok]
  rw [s_mul (mokL hf), s_ok, s_sub, s_ok, s_mul (mokL hf), s_ok, s_sub, s_ok, s_ok, s_tup2, s_ok]
  rw [el] at hlen
  unfold appX
  rw [s_grd (by rw [hlen]; exact Nat.lt_of_le_of_lt (show n + 1 ≤ 2000 by omega) (by decide)), s_ok]
  rfl
theorem g_sums {o t : Int × Int} (ho : SmP o) (ht : SmP t) (hg : Int.gcd o.1 o.2 = 1) {p q : Int} (hb : p * t.1 + q * t.2 = 1) (hD : trn o t ≠ 0) (hS : (trn o t).natAbs ≤ 1900) {e : Int} (he : e = if 0 < trn o t then 1 else -1) : ∃ (w : Nat → Int × Int) (k : Nat), HJ w k e ∧ w 0 = o ∧ w k = t ∧ k ≤ 1900 ∧ x_sums_between (pD o) (pD t) = .ok (.lst (chL w k)) := by
  have ea : e.natAbs ≤ 1000 := by rw [he]; split <;> decide
  have e1 : e * e = 1 := by rw [he]; split <;> rfl
  have hW : e * trn o t = (trn o t).natAbs := by rw [he]; split <;> omega
  unfold x_sums_between
  simp only [s_ok]
  rw [g_turn ht, s_ok, s_gt, s_ok, s_bo, s_ok]
  have eside : (bif decide (0 < trn o t) then Rs.ok (D.int 1) else negX (D.int 1)) = .ok (.int e) := by
    rw [he]
    by_cases h : 0 < trn o t
    · rw [decide_eq_true h, if_pos h]; rfl
    · rw [decide_eq_false h, if_neg h]; rfl
  rw [eside]
  simp only [s_ok]
  rw [show bigX [pD o] = .ok [pD o] by unfold bigX; exact if_pos (by show 1 ≤ big; decide)]
  simp only [s_ok]
  rw [show absX (.int (trn o t)) = .ok (.int ((trn o t).natAbs : Int)) by show Rs.ok (D.int (if trn o t < 0 then -(trn o t) else trn o t)) = _; congr 2; split <;> omega]
  rw [s_ok, s_eq, s_ok, s_bo, s_ok]
  by_cases h1 : ((trn o t).natAbs : Int) = 1
  · rw [decide_eq_true h1]
    simp only [s_ct]
    rw [show bigX [pD o, pD t] = .ok [pD o, pD t] by unfold bigX; exact if_pos (by show 2 ≤ big; decide), s_ok]
    refine ⟨fun i => if i = 0 then o else t, 1, ⟨by decide, e1, fun i hi => ?_, fun i hi => by omega⟩, rfl, rfl, by decide, rfl⟩
    have : i = 0 := by omega
    subst this
    show e * trn o t = 1
    omega
  · rw [decide_eq_false h1]
    simp only [s_cf]
    obtain ⟨w1, ew, c1, c2, c3⟩ := g_first ho ht hg hD he
    rw [ew, s_ok, show appX [pD o] (pD w1) = .ok ([pD o] ++ [pD w1]) by unfold appX; exact if_pos (by show 1 < big; decide), s_ok]
    have hr : Run (fun i => if i = 0 then o else w1) 1 e t := ⟨by decide, e1, fun i hi => by
      have : i = 0 := by omega
      subst this
      exact c1, fun i hi => by omega, c2, c3⟩
    obtain ⟨w, k, hw, w0, wk, hk, er⟩ := g_chain ht ea hb (D0 := ((trn o t).natAbs : Int)) (by omega) hr (show e * trn o t = _ from hW) (hjS t e) (s_hjstep ht ea)
    unfold hjS at er
    exact ⟨w, k, hw, w0, wk, hk, by rw [show ([pD o] ++ [pD w1] : List D) = chL (fun i => if i = 0 then o else w1) 1 from rfl, er, s_ok]⟩
/-! ### small questions -/
theorem s_isT {l : List D} : isiX [.tup l, .ty .tuple] = .ok (.bl true) := of_eq_true (eq_true rfl)
theorem s_isI {i : Int} : isiX [.int i, .ty .int] = .ok (.bl true) := of_eq_true (eq_true rfl)
theorem s_isIb {i : Int} : isiX [.int i, .ty .bool] = .ok (.bl false) := of_eq_true (eq_true rfl)
theorem s_isTl {l : List D} : isiX [.tup l, .ty .list] = .ok (.bl false) := of_eq_true (eq_true rfl)
theorem s_ne0 : neX (.lst []) (.lst []) = .ok (.bl false) := of_eq_true (eq_true rfl)
theorem s_eq0 : eqX (.lst []) (.lst []) = .ok (.bl true) := of_eq_true (eq_true rfl)
theorem eqLst0 {ds : List D} (h : okD (.lst ds) = true) : eqX (.lst ds) (.lst []) = .ok (D.bl ds.isEmpty) := by
  cases ds with
  | nil => exact s_eq0
  | cons d ds =>
    show grd (okD (.lst (d :: ds)) = true ∧ okD (.lst []) = true) (.ok (D.bl (eqD (.lst (d :: ds)) (.lst [])))) = _
    rw [s_grd ⟨h, rfl⟩]; rfl
theorem eqX_self {n : Nat} {d : D} (h : inn n d = true) (hn : n ≤ 64) (hi : ∀ i, d ≠ .int i) : eqX d d = .ok (.bl true) := by
  have : ∀ e : D, (∀ i, e ≠ .int i) → eqX e e = grd (okD e = true ∧ okD e = true) (.ok (.bl (eqD e e))) := fun e he => by
    cases e <;> first | rfl | exact absurd rfl (he _)
  rw [this d hi, s_grd ⟨okD_inn h hn, okD_inn h hn⟩, eqD_t h]
theorem lfX_none {α : Type} {e : α → D} {F : D → Rs (Option D)} {xs : List α} (hl : xs.length ≤ big) (h : ∀ a ∈ xs, F (e a) = .ok none) : lfX F (xs.map e) = .ok [] := by
  rw [lfX_if (g := e) (p := fun _ => false) hl fun a ha => by rw [h a ha]; rfl]
  simp
theorem x_is_in_eq {v lo hi : Int} : x_is_in (.int v) (.int lo) (.int hi) = .ok (.bl (decide (lo ≤ v) && decide (v ≤ hi))) := by
  unfold x_is_in
  simp only [s_ok, s_isI, s_isIb, s_bo, s_ct, s_nf, s_le]
  cases decide (lo ≤ v) with
  | true => simp only [s_ct, s_ok, s_bo, Bool.true_and]
  | false => simp only [s_cf, s_ok, s_bo, Bool.false_and]
/-! ### k76: least_sums -/
theorem g_isv (u : Int × Int) (h : SmP u) : x_is_vector (pD u) (.int 2) (.int (-1000)) (.int 1000) = .ok (.bl true) := by
  obtain ⟨h1, h2⟩ := h
  unfold x_is_vector pD
  simp only [s_ok]
  rw [s_isT, s_ok, s_bo, s_ok, s_ok]
  simp only [s_nt, s_cf]
  rw [s_lenT, s_ok, show neX (.int (([.int u.1, .int u.2] : List D).length : Int)) (.int 2) = .ok (.bl false) from rfl]
  simp only [s_ok, s_bo, s_cf, s_itT]
  rw [show ([.int u.1, .int u.2] : List D) = [u.1, u.2].map D.int from rfl, lfX_none (by show 2 ≤ big; decide) (fun a ha => by
    have : a = u.1 ∨ a = u.2 := by simpa using ha
    have hb : (-1000 : Int) ≤ a ∧ a ≤ 1000 := by rcases this with rfl | rfl <;> omega
    rw [x_is_in_eq, decide_eq_true hb.1, decide_eq_true hb.2]
    simp only [s_ok, Bool.and_true, s_bo, s_nt, s_cf]), s_ok, show bigX [] = .ok [] from rfl]
  simp only [s_ok]
  exact s_eq0
theorem det_gcX : Det gcO := fun ds P Q h k => by
  unfold gcO at h k
  split at h
  · exact ⟨_, h, k⟩
  · exact h.elim
theorem g_gcX (a b : Int) : x_gcd (.int a) (.int b) = .ok (.int (Int.gcd a b)) := y2_eq det_gcX fun Q q => q
theorem g_lsums {o t : Int × Int} (ho : SmP o) (ht : SmP t) (hg : Int.gcd o.1 o.2 = 1) (hg2 : Int.gcd t.1 t.2 = 1) {p q : Int} (hb : p * t.1 + q * t.2 = 1) (hD : trn o t ≠ 0) (hS : (trn o t).natAbs ≤ 1900) {e : Int} (he : e = if 0 < trn o t then 1 else -1) : ∃ (w : Nat → Int × Int) (k : Nat), HJ w k e ∧ w 0 = o ∧ w k = t ∧ k ≤ 1900 ∧ x_least_sums (pD o) (pD t) = .ok (.tup (chL w k)) := by
  obtain ⟨w, k, h1, h2, h3, h4, h5⟩ := g_sums ho ht hg hb hD hS he
  refine ⟨w, k, h1, h2, h3, h4, ?_⟩
  have one : ∀ u : Int × Int, SmP u → Int.gcd u.1 u.2 = 1 → (((((negX (D.int 1000)).bd fun a11 => x_is_vector (pD u) (D.int 2) a11 (D.int 1000)).bd boX).bd fun b =>
                        Rs.ok !b).bd
                    fun b21 =>
                    bif b21 then Rs.ok true
                    else
                      (((ixX (pD u) (D.int 0)).bd fun a17 => (ixX (pD u) (D.int 1)).bd fun a18 => x_gcd a17 a18).bd fun a19 =>
                            neX a19 (D.int 1)).bd
                        boX) = .ok false := fun u hu hg => by
    rw [s_neg, s_ok, g_isv u hu]
    simp only [s_ok, s_bo, s_nt, s_cf]
    rw [show ixX (pD u) (.int 0) = .ok (.int u.1) from s_ix0, s_ok, show ixX (pD u) (.int 1) = .ok (.int u.2) from s_ix1, s_ok, g_gcX, s_ok, hg, show neX (.int ((1 : Nat) : Int)) (.int 1) = .ok (.bl false) from rfl, s_ok, s_bo]
  unfold x_least_sums
  simp only [s_ok]
  rw [show bigX [pD o, pD t] = .ok [pD o, pD t] by unfold bigX; exact if_pos (by show 2 ≤ big; decide)]
  simp only [s_ok, s_itL]
  have ef : ∀ {S α : Type} {step : S → α → Rs S} {s : S} {a : α} {xs : List α}, forX step s (a :: xs) = (step s a).bd fun t => forX step t xs := fun {_ _ _ _ _ _} => rfl
  have en : ∀ {S α : Type} {step : S → α → Rs S} {s : S}, forX step s ([] : List α) = .ok s := fun {_ _ _ _} => rfl
  rw [ef, one o ho hg]
  simp only [s_ok, s_cf]
  rw [ef, one t ht hg2]
  simp only [s_ok, s_cf]
  rw [en, s_ok, g_turn ht, s_ok, s_eq, s_ok, s_bo, s_ok, decide_eq_false hD]
  simp only [s_cf]
  rw [h5, s_ok, s_tupL]
/-! ### least sums: box, bounds, number, the fraction -/
theorem hj_cr1 {v : Nat → Int × Int} {k : Nat} {e : Int} (p : Int × Int) : e * trn (v 0) (v k) * p.1 = al v k e p * (v 0).1 + be v e p * (v k).1 := by unfold al be trn; grind
theorem hj_cr2 {v : Nat → Int × Int} {k : Nat} {e : Int} (p : Int × Int) : e * trn (v 0) (v k) * p.2 = al v k e p * (v 0).2 + be v e p * (v k).2 := by unfold al be trn; grind
theorem box_lo {D a b o t x : Int} (hD : 0 < D) (h : D * x = a * o + b * t) (a0 : 0 ≤ a) (a1 : a ≤ D) (b0 : 0 ≤ b) (b1 : b ≤ D) : (if o < 0 then o else 0) + (if t < 0 then t else 0) ≤ x := by
  have k1 : D * (if o < 0 then o else 0) ≤ a * o := by
    split
    · have := Int.mul_le_mul_of_nonneg_right a1 (show 0 ≤ -o by omega)
      grind
    · have := Int.mul_nonneg a0 (show 0 ≤ o by omega)
      omega
  have k2 : D * (if t < 0 then t else 0) ≤ b * t := by
    split
    · have := Int.mul_le_mul_of_nonneg_right b1 (show 0 ≤ -t by omega)
      grind
    · have := Int.mul_nonneg b0 (show 0 ≤ t by omega)
      omega
  refine Int.le_of_mul_le_mul_left (a := D) ?_ hD
  rw [h, Int.mul_add]; omega
theorem box_hi {D a b o t x : Int} (hD : 0 < D) (h : D * x = a * o + b * t) (a0 : 0 ≤ a) (a1 : a ≤ D) (b0 : 0 ≤ b) (b1 : b ≤ D) : x ≤ (if o > 0 then o else 0) + (if t > 0 then t else 0) := by
  have := box_lo (o := -o) (t := -t) (x := -x) hD (by rw [Int.mul_neg, h]; grind) a0 a1 b0 b1
  split at this <;> split at this <;> split <;> split <;> omega
/-- a sequence that never turns down lies below its ends -/
theorem conv_le {c : Nat → Int} {M : Int} {k : Nat} (h0 : c 0 ≤ M) (hk : c k ≤ M) (h : ∀ i, i + 1 < k → 2 * c (i + 1) ≤ c i + c (i + 2)) {i : Nat} (hi : i ≤ k) : c i ≤ M := by
  have A : ∀ j, c j ≤ M ∨ ∃ l, l < j ∧ c l < c (l + 1) := fun j => by
    induction j with
    | zero => exact .inl h0
    | succ j ih =>
      rcases Int.lt_or_le M (c (j + 1)) with y | y
      · rcases ih with z | ⟨l, z1, z2⟩
        · exact .inr ⟨j, by omega, by omega⟩
        · exact .inr ⟨l, by omega, z2⟩
      · exact .inl y
  rcases A i with z | ⟨l, l1, l2⟩
  · exact z
  · have B : ∀ m, l + m + 1 ≤ k → c (l + m) < c (l + m + 1) := fun m => by
      induction m with
      | zero => intro _; exact l2
      | succ m ih =>
        intro hm
        have := ih (by omega)
        have := h (l + m) (by omega)
        rw [show l + (m + 1) = l + m + 1 by omega, show l + m + 1 + 1 = l + m + 2 by omega]
        omega
    have C : ∀ m, i + m ≤ k → c i ≤ c (i + m) := fun m => by
      induction m with
      | zero => intro _; exact Int.le_refl _
      | succ m ih =>
        intro hm
        have := ih (by omega)
        have := B (i + m - l) (by omega)
        rw [show l + (i + m - l) = i + m by omega] at this
        rw [show i + (m + 1) = i + m + 1 by omega]
        omega
    have := C (k - i) (by omega)
    rw [show i + (k - i) = k by omega] at this
    omega
theorem hj_ends {v : Nat → Int × Int} {k : Nat} {e : Int} (h : HJ v k e) : be v e (v 0) = 0 ∧ al v k e (v k) = 0 ∧ be v e (v k) = e * trn (v 0) (v k) ∧ al v k e (v 0) = e * trn (v 0) (v k) := by
  refine ⟨?_, ?_, rfl, rfl⟩
  · unfold be trn; grind
  · unfold al trn; grind
theorem hjd_pos {v : Nat → Int × Int} {k : Nat} {e : Int} (h : HJ v k e) : 1 ≤ e * trn (v 0) (v k) := by
  have := be_nn h (Nat.le_refl k)
  have := h.k1
  have := (hj_ends h).2.2.1
  omega
theorem hj_le {v : Nat → Int × Int} {k : Nat} {e : Int} (h : HJ v k e) {i : Nat} (hi : i ≤ k) : al v k e (v i) ≤ e * trn (v 0) (v k) ∧ be v e (v i) ≤ e * trn (v 0) (v k) := by
  obtain ⟨e1, e2, e3, e4⟩ := hj_ends h
  constructor
  · have := al_mono h (i := 0) i (by omega)
    rw [Nat.zero_add, e4] at this
    omega
  · have := be_mono h (i := i) (k - i) (by omega)
    rw [show i + (k - i) = k by omega, e3] at this
    omega
/-- the chain lies below the segment of both ends -/
theorem hj_tri {v : Nat → Int × Int} {k : Nat} {e : Int} (h : HJ v k e) {i : Nat} (hi : i ≤ k) : al v k e (v i) + be v e (v i) ≤ e * trn (v 0) (v k) := by
  obtain ⟨e1, e2, e3, e4⟩ := hj_ends h
  refine conv_le (c := fun i => al v k e (v i) + be v e (v i)) (k := k) (by show _ + _ ≤ _; rw [e1, e4]; omega) (by show _ + _ ≤ _; rw [e2, e3]; omega) (fun i hi => ?_) hi
  obtain ⟨b, hb, b1, b2⟩ := h.two i hi
  have n1 := al_nn h (show i + 1 ≤ k by omega)
  have n2 := be_nn h (show i + 1 ≤ k by omega)
  have q1 : al v k e (v i) + al v k e (v (i + 2)) = b * al v k e (v (i + 1)) := by unfold al trn; grind
  have q2 : be v e (v i) + be v e (v (i + 2)) = b * be v e (v (i + 1)) := by unfold be trn; grind
  have q3 := Int.mul_le_mul_of_nonneg_right hb (show 0 ≤ al v k e (v (i + 1)) + be v e (v (i + 1)) by omega)
  rw [Int.mul_add b, ← q1, ← q2] at q3
  show 2 * (al v k e (v (i + 1)) + be v e (v (i + 1))) ≤ al v k e (v i) + be v e (v i) + (al v k e (v (i + 2)) + be v e (v (i + 2)))
  omega
theorem small_of_mul {D a b o t x : Int} {M : Nat} (hD : 0 < D) (h : D * x = a * o + b * t) (a0 : 0 ≤ a) (b0 : 0 ≤ b) (hs : a + b ≤ D) (ho : o.natAbs ≤ M) (ht : t.natAbs ≤ M) : x.natAbs ≤ M := by
  have p1 := Int.mul_le_mul_of_nonneg_left (show o ≤ M by omega) a0
  have p2 := Int.mul_le_mul_of_nonneg_left (show t ≤ M by omega) b0
  have p3 := Int.mul_le_mul_of_nonneg_left (show -(M : Int) ≤ o by omega) a0
  have p4 := Int.mul_le_mul_of_nonneg_left (show -(M : Int) ≤ t by omega) b0
  have p5 := Int.mul_le_mul_of_nonneg_right hs (show (0 : Int) ≤ M by omega)
  rw [Int.add_mul] at p5
  rw [Int.mul_neg] at p3 p4
  have u1 : x ≤ M := Int.le_of_mul_le_mul_left (a := D) (by rw [h]; omega) hD
  have u2 : -(M : Int) ≤ x := Int.le_of_mul_le_mul_left (a := D) (by rw [h, Int.mul_neg]; omega) hD
  omega
theorem hj_small {v : Nat → Int × Int} {k : Nat} {e : Int} (h : HJ v k e) {M : Nat} (h1 : (v 0).1.natAbs ≤ M ∧ (v 0).2.natAbs ≤ M) (h2 : (v k).1.natAbs ≤ M ∧ (v k).2.natAbs ≤ M) {i : Nat} (hi : i ≤ k) : (v i).1.natAbs ≤ M ∧ (v i).2.natAbs ≤ M := by
  have p := hjd_pos h
  have n1 := al_nn h hi
  have n2 := be_nn h hi
  exact ⟨small_of_mul (by omega) (hj_cr1 (v := v) (k := k) (e := e) (v i)) (by omega) (by omega) (hj_tri h hi) h1.1 h2.1, small_of_mul (by omega) (hj_cr2 (v := v) (k := k) (e := e) (v i)) (by omega) (by omega) (hj_tri h hi) h1.2 h2.2⟩
/-- a way that lies in the cone, turned or not: every line along it is met once -/
theorem hj_inj {v : Nat → Int × Int} {k : Nat} {e : Int} (h : HJ v k e) {d : Int × Int} (hd : 0 ≤ al v k e d * be v e d) (hp : ∀ x : Int × Int, trn d x = 0 → ∃ m : Int, x = (m * d.1, m * d.2)) {i j : Nat} (hi : i ≤ k) (hj : j ≤ k) (he : trn d (v i) = trn d (v j)) : i = j := by
  have key : ∀ i j : Nat, i < j → j ≤ k → trn d (v i) = trn d (v j) → False := fun i j hij hj he => by
    obtain ⟨m, hm⟩ := hp ((v j).1 - (v i).1, (v j).2 - (v i).2) (by unfold trn at he ⊢; simp only; grind)
    injection hm with m1 m2
    have a1 := al_mono h (i := i) (j - i) (by omega)
    have b1 := be_mono h (i := i) (j - i) (by omega)
    rw [show i + (j - i) = j by omega] at a1 b1
    have qa : al v k e (v j) - al v k e (v i) = m * al v k e d := by unfold al trn; grind
    have qb : be v e (v j) - be v e (v i) = m * be v e d := by unfold be trn; grind
    have s1 : m * al v k e d < 0 := by omega
    have s2 : 0 < m * be v e d := by omega
    have s3 : m * al v k e d * (m * be v e d) < 0 := Int.mul_neg_of_neg_of_pos s1 s2
    have s4 : m * al v k e d * (m * be v e d) = m * m * (al v k e d * be v e d) := by grind
    have s5 : 0 ≤ m * m := by
      rcases Int.lt_or_le m 0 with y | y
      · have := Int.mul_nonneg (show 0 ≤ -m by omega) (show 0 ≤ -m by omega)
        rwa [Int.neg_mul_neg] at this
      · exact Int.mul_nonneg y y
    have := Int.mul_nonneg s5 hd
    omega
  rcases Nat.lt_trichotomy i j with y | y | y
  · exact (key i j y hj he).elim
  · exact y
  · exact (key j i y hi he.symm).elim
/-- a way that does not lie in the cone: the chain is on one side of it -/
theorem hj_sign {v : Nat → Int × Int} {k : Nat} {e : Int} (h : HJ v k e) {d : Int × Int} (hd : al v k e d * be v e d < 0) : (∀ i, i ≤ k → 0 < trn d (v i)) ∨ (∀ i, i ≤ k → trn d (v i) < 0) := by
  have p := hjd_pos h
  have k1 := h.k1
  have c : ∀ i, e * trn (v 0) (v k) * (e * trn d (v i)) = al v k e d * be v e (v i) - be v e d * al v k e (v i) := fun i => by
    have := h.e1
    unfold al be trn; grind
  have fin : ∀ i, (0 < e * trn d (v i) → 0 < e → 0 < trn d (v i)) := fun i x y => by
    rcases Int.lt_or_le 0 (trn d (v i)) with z | z
    · exact z
    · have := Int.mul_nonneg (show 0 ≤ e by omega) (show 0 ≤ - trn d (v i) by omega)
      rw [Int.mul_neg] at this
      omega
  have e0 : e = 1 ∨ e = -1 := by
    have := h.e1
    have : (e - 1) * (e + 1) = 0 := by grind
    rcases Int.mul_eq_zero.mp this with y | y <;> omega
  have A : (∀ i, i ≤ k → 0 < e * trn d (v i)) ∨ (∀ i, i ≤ k → e * trn d (v i) < 0) := by
    rcases Int.lt_trichotomy (al v k e d) 0 with y | y | y
    · have y2 : 0 < be v e d := by
        rcases Int.lt_or_le 0 (be v e d) with z | z
        · exact z
        · have := Int.mul_nonneg (show 0 ≤ -al v k e d by omega) (show 0 ≤ -be v e d by omega)
          rw [Int.neg_mul_neg] at this
          omega
      right
      intro i hi
      have n1 := al_nn h hi
      have n2 := be_nn h hi
      have s1 := Int.mul_nonneg (show 0 ≤ -al v k e d by omega) (show 0 ≤ be v e (v i) by omega)
      have s2 := Int.mul_nonneg (show 0 ≤ be v e d by omega) (show 0 ≤ al v k e (v i) by omega)
      rw [Int.neg_mul] at s1
      have s3 : al v k e d * be v e (v i) - be v e d * al v k e (v i) < 0 := by
        rcases Nat.lt_or_ge i k with z | z
        · have := Int.mul_pos y2 (show 0 < al v k e (v i) by omega)
          omega
        · have := Int.mul_pos (show 0 < -al v k e d by omega) (show 0 < be v e (v i) by omega)
          rw [Int.neg_mul] at this
          omega
      rw [← c i] at s3
      rcases Int.lt_or_le (e * trn d (v i)) 0 with z | z
      · exact z
      · have := Int.mul_nonneg (show 0 ≤ e * trn (v 0) (v k) by omega) z
        omega
    · rw [y] at hd; omega
    · have y2 : be v e d < 0 := by
        rcases Int.lt_or_le (be v e d) 0 with z | z
        · exact z
        · have := Int.mul_nonneg (show 0 ≤ al v k e d by omega) z
          omega
      left
      intro i hi
      have n1 := al_nn h hi
      have n2 := be_nn h hi
      have s1 := Int.mul_nonneg (show 0 ≤ al v k e d by omega) (show 0 ≤ be v e (v i) by omega)
      have s2 := Int.mul_nonneg (show 0 ≤ -be v e d by omega) (show 0 ≤ al v k e (v i) by omega)
      rw [Int.neg_mul] at s2
      have s3 : 0 < al v k e d * be v e (v i) - be v e d * al v k e (v i) := by
        rcases Nat.lt_or_ge i k with z | z
        · have := Int.mul_pos (show 0 < -be v e d by omega) (show 0 < al v k e (v i) by omega)
          rw [Int.neg_mul] at this
          omega
        · have := Int.mul_pos y (show 0 < be v e (v i) by omega)
          omega
      rw [← c i] at s3
      rcases Int.lt_or_le 0 (e * trn d (v i)) with z | z
      · exact z
      · have := Int.mul_nonneg (show 0 ≤ e * trn (v 0) (v k) by omega) (show 0 ≤ -(e * trn d (v i)) by omega)
        rw [Int.mul_neg] at this
        omega
  rcases e0 with rfl | rfl
  · simp only [Int.one_mul] at A; exact A
  · rcases A with A | A
    · right; intro i hi; have := A i hi; omega
    · left; intro i hi; have := A i hi; omega
theorem nodup_leH {α : Type} [DecidableEq α] {l : List α} : ∀ {l' : List α}, l.Nodup → (∀ x ∈ l, x ∈ l') → l.length ≤ l'.length := by
  induction l with
  | nil => intro l' _ _; exact Nat.zero_le _
  | cons x l ih =>
    intro l' hn h
    obtain ⟨h1, h2⟩ := List.nodup_cons.mp hn
    have := ih (l' := l'.erase x) h2 fun y hy => (List.mem_erase_of_ne (fun e => h1 (by rw [← e]; exact hy))).mpr (h y (List.mem_cons_of_mem _ hy))
    rw [List.length_erase_of_mem (h x List.mem_cons_self)] at this
    have hp := List.length_pos_of_mem (h x List.mem_cons_self)
    rw [List.length_cons]; omega
theorem inj_lenH {α β : Type} [DecidableEq β] {l : List α} {l' : List β} (f : α → β) (hn : l.Nodup) (hm : ∀ x ∈ l, f x ∈ l') (hi : ∀ x ∈ l, ∀ y ∈ l, f x = f y → x = y) : l.length ≤ l'.length := by
  have h1 : (l.map f).Nodup := List.pairwise_map.mpr (List.Pairwise.imp_of_mem (fun {a b} ha hb hab e => hab (hi a ha b hb e)) hn)
  have := nodup_leH h1 fun y hy => by
    obtain ⟨x, hx, rfl⟩ := List.mem_map.mp hy
    exact hm x hx
  rwa [List.length_map] at this
theorem inj_rng {f : Nat → Int} {k M : Nat} (hi : ∀ i j, i ≤ k → j ≤ k → f i = f j → i = j) (hb : ∀ i, i ≤ k → (f i).natAbs ≤ M) : k ≤ 2 * M := by
  have := inj_lenH (l := List.range (k + 1)) (l' := (List.range (2 * M + 1)).map fun (i : Nat) => (i : Int) - M) f List.nodup_range (fun i hi => by
    have := hb i (by have := List.mem_range.mp hi; omega)
    exact List.mem_map.mpr ⟨(f i + M).toNat, List.mem_range.mpr (by omega), by omega⟩) (fun i h1 j h2 e => hi i j (by have := List.mem_range.mp h1; omega) (by have := List.mem_range.mp h2; omega) e)
  rw [List.length_range, List.length_map, List.length_range] at this
  omega
/-- points in one of the open parts that four lines leave -/
def secL (s1 s2 s3 s4 : Int) : List (Int × Int) := (((List.range 19).map fun (i : Nat) => (i : Int) - 9).flatMap fun x => ((List.range 19).map fun (i : Nat) => (i : Int) - 9).map fun y => (x, y)).filter fun p => decide (0 < s1 * p.1) && decide (0 < s2 * p.2) && decide (0 < s3 * (p.2 - p.1)) && decide (0 < s4 * (p.2 + p.1))
theorem secL_len : ∀ s1 ∈ [(1 : Int), -1], ∀ s2 ∈ [(1 : Int), -1], ∀ s3 ∈ [(1 : Int), -1], ∀ s4 ∈ [(1 : Int), -1], (secL s1 s2 s3 s4).length ≤ 36 := by decide
theorem sg_of {f : Nat → Int} {k : Nat} (h : (∀ i, i ≤ k → 0 < f i) ∨ (∀ i, i ≤ k → f i < 0)) : ∃ s ∈ [(1 : Int), -1], ∀ i, i ≤ k → 0 < s * f i := by
  rcases h with h | h
  · exact ⟨1, by simp, fun i hi => by have := h i hi; omega⟩
  · exact ⟨-1, by simp, fun i hi => by have := h i hi; omega⟩
theorem hj_many {v : Nat → Int × Int} {k : Nat} {e : Int} (h : HJ v k e) (h1 : (v 0).1.natAbs ≤ 9 ∧ (v 0).2.natAbs ≤ 9) (h2 : (v k).1.natAbs ≤ 9 ∧ (v k).2.natAbs ≤ 9) : k ≤ 36 := by
  have hs : ∀ i, i ≤ k → (v i).1.natAbs ≤ 9 ∧ (v i).2.natAbs ≤ 9 := fun i hi => hj_small h h1 h2 hi
  have cs : ∀ d : Int × Int, 0 ≤ al v k e d * be v e d ∨ al v k e d * be v e d < 0 := fun d => by omega
  have inj : ∀ d : Int × Int, (∀ x : Int × Int, trn d x = 0 → ∃ m : Int, x = (m * d.1, m * d.2)) → (∀ i, i ≤ k → (trn d (v i)).natAbs ≤ 18) → 0 ≤ al v k e d * be v e d → k ≤ 36 := fun d hp hb hd => inj_rng (f := fun i => trn d (v i)) (M := 18) (fun i j hi hj e => hj_inj h hd hp hi hj e) hb
  rcases cs (0, 1) with c1 | c1
  · exact inj (0, 1) (fun x hx => ⟨x.2, Prod.ext (by unfold trn at hx; simp only at hx ⊢; omega) (by simp)⟩) (fun i hi => by have := hs i hi; unfold trn; simp only; omega) c1
  rcases cs (1, 0) with c2 | c2
  · exact inj (1, 0) (fun x hx => ⟨x.1, Prod.ext (by simp) (by unfold trn at hx; simp only at hx ⊢; omega)⟩) (fun i hi => by have := hs i hi; unfold trn; simp only; omega) c2
  rcases cs (1, 1) with c3 | c3
  · exact inj (1, 1) (fun x hx => ⟨x.1, Prod.ext (by simp) (by unfold trn at hx; simp only at hx ⊢; omega)⟩) (fun i hi => by have := hs i hi; unfold trn; simp only; omega) c3
  rcases cs (1, -1) with c4 | c4
  · exact inj (1, -1) (fun x hx => ⟨x.1, Prod.ext (by simp) (by unfold trn at hx; simp only at hx ⊢; omega)⟩) (fun i hi => by have := hs i hi; unfold trn; simp only; omega) c4
  obtain ⟨s1, m1, g1⟩ := sg_of (f := fun i => trn (0, 1) (v i)) (hj_sign h c1)
  obtain ⟨s2, m2, g2⟩ := sg_of (f := fun i => trn (1, 0) (v i)) (hj_sign h c2)
  obtain ⟨s3, m3, g3⟩ := sg_of (f := fun i => trn (1, 1) (v i)) (hj_sign h c3)
  obtain ⟨s4, m4, g4⟩ := sg_of (f := fun i => trn (1, -1) (v i)) (hj_sign h c4)
  have m1' : -s1 ∈ [(1 : Int), -1] := by
    rcases List.mem_cons.mp m1 with rfl | z
    · simp
    · rw [List.mem_singleton.mp z]; simp
  have := secL_len (-s1) m1' s2 m2 s3 m3 s4 m4
  have := inj_lenH (l := List.range (k + 1)) (l' := secL (-s1) s2 s3 s4) v List.nodup_range (fun i hi => ?_) (fun i a j b e => ?_)
  · rw [List.length_range] at this; omega
  · have hi : i ≤ k := by have := List.mem_range.mp hi; omega
    obtain ⟨b1, b2⟩ := hs i hi
    have q1 := g1 i hi
    have q2 := g2 i hi
    have q3 := g3 i hi
    have q4 := g4 i hi
    refine List.mem_filter.mpr ⟨List.mem_flatMap.mpr ⟨(v i).1, List.mem_map.mpr ⟨((v i).1 + 9).toNat, List.mem_range.mpr (by omega), by omega⟩, List.mem_map.mpr ⟨(v i).2, List.mem_map.mpr ⟨((v i).2 + 9).toNat, List.mem_range.mpr (by omega), by omega⟩, rfl⟩⟩, ?_⟩
    simp only [Bool.and_eq_true, decide_eq_true_eq]
    unfold trn at q1 q2 q3 q4
    simp only at q1 q2 q3 q4
    refine ⟨⟨⟨?_, ?_⟩, ?_⟩, ?_⟩
    · grind
    · grind
    · grind
    · grind
  · have ha : i ≤ k := by have := List.mem_range.mp a; omega
    have hb : j ≤ k := by have := List.mem_range.mp b; omega
    rcases Nat.lt_trichotomy i j with y | y | y
    · have := be_mono h (i := i) (j - i) (by omega)
      rw [show i + (j - i) = j by omega, e] at this
      omega
    · exact y
    · have := be_mono h (i := j) (i - j) (by omega)
      rw [show j + (i - j) = i by omega, e] at this
      omega
/-! ### the numbers between -/
theorem hj_fac {v : Nat → Int × Int} {k : Nat} {e : Int} (h : HJ v k e) : ∃ b : Nat → Int, ∀ i, i + 1 < k → 2 ≤ b i ∧ (v i).1 + (v (i + 2)).1 = b i * (v (i + 1)).1 ∧ (v i).2 + (v (i + 2)).2 = b i * (v (i + 1)).2 :=
  Classical.axiomOfChoice (r := fun (i : Nat) (b : Int) => i + 1 < k → 2 ≤ b ∧ (v i).1 + (v (i + 2)).1 = b * (v (i + 1)).1 ∧ (v i).2 + (v (i + 2)).2 = b * (v (i + 1)).2) fun i => by
    by_cases c : i + 1 < k
    · obtain ⟨b, hb⟩ := h.two i c
      exact ⟨b, fun _ => hb⟩
    · exact ⟨0, fun z => absurd z c⟩
theorem hj_facA {v : Nat → Int × Int} {k : Nat} {e : Int} {b : Nat → Int} (hb : ∀ i, i + 1 < k → 2 ≤ b i ∧ (v i).1 + (v (i + 2)).1 = b i * (v (i + 1)).1 ∧ (v i).2 + (v (i + 2)).2 = b i * (v (i + 1)).2) {i : Nat} (hi : i + 1 < k) : al v k e (v i) + al v k e (v (i + 2)) = b i * al v k e (v (i + 1)) := by
  obtain ⟨_, h1, h2⟩ := hb i hi
  unfold al trn; grind
theorem hj_facM {v : Nat → Int × Int} {k : Nat} {e : Int} (h : HJ v k e) {b : Nat → Int} (hb : ∀ i, i + 1 < k → 2 ≤ b i ∧ (v i).1 + (v (i + 2)).1 = b i * (v (i + 1)).1 ∧ (v i).2 + (v (i + 2)).2 = b i * (v (i + 1)).2) {i : Nat} (hi : i + 1 < k) : b i ≤ 2 * (e * trn (v 0) (v k)) := by
  have f := hj_facA (e := e) hb hi
  have a1 := (hj_le h (show i ≤ k by omega)).1
  have a2 := (hj_le h (show i + 2 ≤ k by omega)).1
  have a3 := al_nn h (show i + 1 ≤ k by omega)
  have := Int.mul_le_mul_of_nonneg_left (show 1 ≤ al v k e (v (i + 1)) by omega) (show 0 ≤ b i by have := (hb i hi).1; omega)
  omega
/-- two heights that follow each other have no common divisor -/
theorem hj_cop {v : Nat → Int × Int} {k : Nat} {e : Int} (h : HJ v k e) {b : Nat → Int} (hb : ∀ i, i + 1 < k → 2 ≤ b i ∧ (v i).1 + (v (i + 2)).1 = b i * (v (i + 1)).1 ∧ (v i).2 + (v (i + 2)).2 = b i * (v (i + 1)).2) : ∀ j, j < k → ∃ p q : Int, p * al v k e (v (k - 1 - j)) + q * al v k e (v (k - j)) = 1
  | 0, hk => ⟨1, 0, by
      have := h.one (k - 1) (by omega)
      rw [show k - 1 + 1 = k by omega] at this
      rw [Int.zero_mul, Int.one_mul]
      show e * trn (v (k - 1)) (v k) + 0 = 1
      omega⟩
  | j + 1, hk => by
    obtain ⟨p, q, hpq⟩ := hj_cop h hb j (by omega)
    have f := hj_facA (e := e) hb (i := k - 1 - (j + 1)) (by omega)
    rw [show k - 1 - (j + 1) + 2 = k - j by omega, show k - 1 - (j + 1) + 1 = k - (j + 1) by omega] at f
    rw [show k - 1 - j = k - (j + 1) by omega] at hpq
    generalize al v k e (v (k - 1 - (j + 1))) = x at f ⊢
    generalize al v k e (v (k - (j + 1))) = y at f hpq ⊢
    generalize al v k e (v (k - j)) = z at f hpq
    exact ⟨-q, p + q * b (k - 1 - (j + 1)), by grind⟩
theorem gcd_bz {a b p q : Int} (h : p * a + q * b = 1) : Nat.Coprime a.natAbs b.natAbs := by
  have h1 : (Int.gcd a b : Int) ∣ a := Int.gcd_dvd_left ..
  have h2 : (Int.gcd a b : Int) ∣ b := Int.gcd_dvd_right ..
  have h3 : (Int.gcd a b : Int) ∣ 1 := by rw [← h]; exact Int.dvd_add (Int.dvd_mul_of_dvd_right h1) (Int.dvd_mul_of_dvd_right h2)
  have h4 : Int.gcd a b ∣ 1 := by exact_mod_cast h3
  exact Nat.dvd_one.mp h4
/-- the numbers in a row tell the heights -/
theorem hj_rat {v : Nat → Int × Int} {k : Nat} {e : Int} (h : HJ v k e) {b : Nat → Int} (hb : ∀ i, i + 1 < k → 2 ≤ b i ∧ (v i).1 + (v (i + 2)).1 = b i * (v (i + 1)).1 ∧ (v i).2 + (v (i + 2)).2 = b i * (v (i + 1)).2) : ∀ j, j + 2 ≤ k → fG (b (k - 2)) (((List.range j).map fun t => b (k - 3 - t))) = (al v k e (v (k - 2 - j)) : Rat) / (al v k e (v (k - 1 - j)) : Rat)
  | 0, hk => by
    have o := h.one (k - 1) (by omega)
    rw [show k - 1 + 1 = k by omega] at o
    have f := hj_facA (e := e) hb (i := k - 2) (by omega)
    rw [show k - 2 + 1 = k - 1 by omega, show k - 2 + 2 = k by omega, (hj_ends h).2.1, show al v k e (v (k - 1)) = 1 from o] at f
    show ((b (k - 2) : Int) : Rat) = (al v k e (v (k - 2)) : Rat) / (al v k e (v (k - 1)) : Rat)
    rw [show al v k e (v (k - 1)) = 1 from o, show b (k - 2) = al v k e (v (k - 2)) by omega]
    grind
  | j + 1, hk => by
    have ih := hj_rat h hb j (by omega)
    have f := hj_facA (e := e) hb (i := k - 2 - (j + 1)) (by omega)
    rw [show k - 2 - (j + 1) + 1 = k - 2 - j by omega, show k - 2 - (j + 1) + 2 = k - 1 - j by omega] at f
    have n1 := al_nn h (show k - 2 - j ≤ k by omega)
    have n2 := al_nn h (show k - 1 - j ≤ k by omega)
    rw [List.range_succ, List.map_append]
    show List.foldl _ _ _ = _
    rw [List.foldl_append]
    show (b (k - 3 - j) : Rat) - 1 / (fG (b (k - 2)) ((List.range j).map fun t => b (k - 3 - t))) = _
    rw [ih, show k - 3 - j = k - 2 - (j + 1) by omega, show k - 1 - (j + 1) = k - 2 - j by omega]
    generalize al v k e (v (k - 2 - (j + 1))) = x at f ⊢
    generalize al v k e (v (k - 2 - j)) = y at f n1 ⊢
    generalize al v k e (v (k - 1 - j)) = z at f n2 ⊢
    generalize b (k - 2 - (j + 1)) = c at f ⊢
    have y0 : (y : Rat) ≠ 0 := by
      have : y ≠ 0 := by omega
      exact_mod_cast this
    have z0 : (z : Rat) ≠ 0 := by
      have : z ≠ 0 := by omega
      exact_mod_cast this
    have f' : (x : Rat) + z = c * y := by exact_mod_cast f
    grind
/-! ### membership of integers -/
theorem inB_i (k : Int) (pl : List Int) : inB (.int k) (pl.map D.int) = decide (k ∈ pl) := by
  unfold inB
  induction pl with
  | nil => rfl
  | cons a pl ih =>
    rw [List.map_cons, List.any_cons, ih]
    have e2 : eqD (.int a) (.int k) = decide (a = k) := by
      by_cases c : a = k
      · subst c; rw [decide_eq_true rfl]; exact eqD_t (n := 0) rfl
      · rw [decide_eq_false c]
        exact eqD_f (n := 0) (m := 0) rfl rfl fun z => c (by injection z)
    rw [e2]
    by_cases c : a = k
    · subst c; simp
    · have c2 : ¬ k = a := fun z => c z.symm
      simp [c, c2]
theorem ok_int (i : Int) : okD (.int i) = true := rfl
theorem ok_ints (ns : List Int) : okD (.lst (ns.map D.int)) = true := okD_inn (n := 1) (inn_map (n := 0) fun x _ => rfl) (by decide)
theorem ok_intsT (ns : List Int) : okD (.tup (ns.map D.int)) = true := okD_inn (n := 1) (inn_map (n := 0) fun x _ => rfl) (by decide)
theorem nin_ints {k : Int} {ns : List Int} : ninX (.int k) (.lst (ns.map D.int)) = .ok (.bl (!decide (k ∈ ns))) := by
  show grd (okD (.int k) = true ∧ okD (.lst (ns.map D.int)) = true) (.ok (D.bl (!inB (.int k) (ns.map D.int)))) = _
  rw [s_grd ⟨ok_int k, ok_ints ns⟩, inB_i]
theorem in_ints {k : Int} {ns : List Int} : inX (.int k) (.lst (ns.map D.int)) = .ok (.bl (decide (k ∈ ns))) := by
  show grd (okD (.int k) = true ∧ okD (.lst (ns.map D.int)) = true) (.ok (D.bl (inB (.int k) (ns.map D.int)))) = _
  rw [s_grd ⟨ok_int k, ok_ints ns⟩, inB_i]
theorem eqLst0' {α : Type} {e : α → D} {l : List α} (h : okD (.lst (l.map e)) = true) : eqX (.lst (l.map e)) (.lst []) = .ok (D.bl l.isEmpty) := by
  rw [eqLst0 h]; cases l <;> rfl
theorem neLst0' {α : Type} {e : α → D} {l : List α} (h : okD (.lst (l.map e)) = true) : neX (.lst (l.map e)) (.lst []) = .ok (D.bl (!l.isEmpty)) := by
  cases l with
  | nil => exact s_ne0
  | cons d ds =>
    rw [List.map_cons] at h ⊢
    show grd (okD (.lst (e d :: ds.map e)) = true ∧ okD (.lst []) = true) (.ok (D.bl (!eqD (.lst (e d :: ds.map e)) (.lst [])))) = _
    rw [s_grd ⟨h, rfl⟩]; rfl
theorem forR_rng {S : Type} {step : S → D → Rs (Lp S)} (I : Nat → S → Prop) {lo : Int} {n : Nat} {s : S} (h0 : I 0 s) (hs : ∀ k s, k < n → I k s → ∃ s', step s (.int (lo + k)) = .ok (.go s') ∧ I (k + 1) s') {hi : Int} (hh : (hi - lo).toNat = n) : ∃ s', forR step s (rngD lo hi) = .ok (.go s') ∧ I n s' := by
  have key : ∀ (m j : Nat) (s : S), j + m = n → I j s → ∃ s', forR step s ((List.range m).map fun (i : Nat) => D.int (lo + j + i)) = .ok (.go s') ∧ I n s' := by
    intro m
    induction m with
    | zero => intro j s e h; exact ⟨s, rfl, by rw [← e]; exact h⟩
    | succ m ih =>
      intro j s e h
      obtain ⟨s1, e1, h1⟩ := hs j s (by omega) h
      obtain ⟨s2, e2, h2⟩ := ih (j + 1) s1 (by omega) h1
      refine ⟨s2, ?_, h2⟩
      rw [List.range_succ_eq_map, List.map_cons, List.map_map]
      show (step s (.int (lo + j + ((0 : Nat) : Int)))).bd _ = _
      rw [show lo + (j : Int) + ((0 : Nat) : Int) = lo + j by omega, e1]
      have : ((fun (i : Nat) => D.int (lo + j + i)) ∘ Nat.succ) = fun (i : Nat) => D.int (lo + ((j + 1 : Nat) : Int) + i) := by
        funext i
        show D.int (lo + j + ((i + 1 : Nat) : Int)) = _
        congr 1; omega
      show forR step s1 _ = _
      rw [this]; exact e2
  have := key n 0 s (by omega) h0
  unfold rngD
  rw [hh]
  simpa using this
def nI (a : Nat) : D := .int (a : Int)
theorem rng_nI {n : Nat} : rngD 0 (n : Int) = (List.range n).map nI := by
  unfold rngD nI
  rw [show ((n : Int) - 0).toNat = n by omega]
  refine List.map_congr_left fun t _ => ?_
  show D.int (0 + (t : Int)) = _
  rw [Int.zero_add]
theorem okN (l : List Nat) : okD (.lst (l.map nI)) = true := okD_inn (n := 1) (inn_map (n := 0) fun x _ => rfl) (by decide)
theorem map_nI (l : List Nat) : l.map nI = (l.map fun (a : Nat) => (a : Int)).map D.int := by rw [List.map_map]; rfl
theorem nin_nats {k : Nat} {ns : List Nat} : ninX (nI k) (.lst (ns.map nI)) = .ok (.bl (!decide (k ∈ ns))) := by
  rw [map_nI, nI, nin_ints]
  congr 3
  simp only [List.mem_map, decide_eq_decide]
  exact ⟨fun ⟨a, h, e⟩ => by rw [← Int.ofNat.inj e]; exact h, fun h => ⟨k, h, rfl⟩⟩
theorem nodup_le {l : List Nat} : ∀ {l' : List Nat}, l.Nodup → (∀ x ∈ l, x ∈ l') → l.length ≤ l'.length := by
  induction l with
  | nil => intro l' _ _; exact Nat.zero_le _
  | cons x l ih =>
    intro l' hn h
    obtain ⟨h1, h2⟩ := List.nodup_cons.mp hn
    have := ih (l' := l'.erase x) h2 fun y hy => (List.mem_erase_of_ne (fun e => h1 (by rw [← e]; exact hy))).mpr (h y (List.mem_cons_of_mem _ hy))
    rw [List.length_erase_of_mem (h x List.mem_cons_self)] at this
    have hp := List.length_pos_of_mem (h x List.mem_cons_self)
    rw [List.length_cons]; omega
theorem ex_bd {α β γ : Type} {x : Rs α} {f : α → Rs β} {P : α → Prop} {g : γ → β} {Q : γ → Prop} (h : ∃ a, x = .ok a ∧ P a) (k : ∀ a, P a → ∃ r, f a = .ok (g r) ∧ Q r) : ∃ r, x.bd f = .ok (g r) ∧ Q r := by
  obtain ⟨a, rfl, p⟩ := h
  exact k a p
theorem ex_bdR {S β γ : Type} {x : Rs (Lp S)} {f : Lp S → Rs β} {P : S → Prop} {g : γ → β} {Q : γ → Prop} (h : ∃ s, x = .ok (.go s) ∧ P s) (k : ∀ s, P s → ∃ r, f (.go s) = .ok (g r) ∧ Q r) : ∃ r, x.bd f = .ok (g r) ∧ Q r := by
  obtain ⟨a, rfl, p⟩ := h
  exact k a p
theorem forX_minv {S α : Type} {e : α → D} {step : S → D → Rs S} (I : List α → S → Prop) : ∀ {xs pre : List α} {s : S}, I pre s → (∀ (pre' : List α) (a : α) (post : List α) (s : S), pre ++ xs = pre' ++ a :: post → I pre' s → ∃ s', step s (e a) = .ok s' ∧ I (pre' ++ [a]) s') → ∃ s', forX step s (xs.map e) = .ok s' ∧ I (pre ++ xs) s'
  | [], pre, s, h, _ => ⟨s, rfl, by rw [List.append_nil]; exact h⟩
  | a :: xs, pre, s, h, hs => by
    obtain ⟨s1, e1, h1⟩ := hs pre a xs s rfl h
    obtain ⟨s2, e2, h2⟩ := forX_minv I (xs := xs) h1 fun pre' b post s e hI => hs pre' b post s (by rw [← e, List.append_assoc]; rfl) hI
    refine ⟨s2, ?_, by rw [List.append_assoc] at h2; exact h2⟩
    rw [List.map_cons]
    show (step s (e a)).bd (fun s' => forX step s' (xs.map e)) = _
    rw [e1]; exact e2
/-- a loop that makes a list of one's own longer -/
theorem forX_growL {α : Type} {e : α → D} {g : α → List D} {step : List D → D → Rs (List D)} (N : Nat) : ∀ {fs : List α} {acc : List D}, acc.length + (fs.flatMap g).length ≤ N → (∀ acc f, f ∈ fs → acc.length + (g f).length ≤ N → step acc (e f) = .ok (acc ++ g f)) →
    forX step acc (fs.map e) = .ok (acc ++ fs.flatMap g)
  | [], acc, _, _ => by rw [List.map_nil, List.flatMap_nil, List.append_nil]; rfl
  | f :: fs, acc, h, hs => by
    rw [List.flatMap_cons, List.length_append] at h
    rw [List.map_cons]
    unfold forX
    rw [hs acc f List.mem_cons_self (by omega)]
    show forX step (acc ++ g f) (fs.map e) = _
    rw [forX_growL N (by rw [List.length_append]; omega) fun acc f hf => hs acc f (List.mem_cons_of_mem _ hf), List.flatMap_cons, List.append_assoc]
theorem bd_ofR {α β : Type} {x : Rs α} {f : α → Rs β} {r : Rs β} (P : α → Prop) (h : ∃ a, x = .ok a ∧ P a) (k : ∀ a, P a → f a = r) : x.bd f = r := by
  obtain ⟨a, rfl, p⟩ := h
  exact k a p
/-! ### k76: the law's listing -/
def hqD (p : Int × (Int × Int)) : D := .tup [.int p.1, pD p.2]
def hrD (p : Int × Int × (Int × Int)) : D := .tup [.int p.1, .int p.2.1, pD p.2.2]
theorem s_andB {a b : Bool} : (bif a then Rs.ok b else Rs.ok false) = Rs.ok (a && b) := by cases a <;> rfl
theorem lc_two {F : D → Rs D} {x y : D} (h0 : F (.int 0) = .ok x) (h1 : F (.int 1) = .ok y) : lcX F (rngD 0 2) = .ok [x, y] := by
  rw [show rngD 0 2 = [D.int 0, D.int 1] from rfl]
  unfold lcX
  rw [s_grd (show ([D.int 0, D.int 1] : List D).length ≤ big by show 2 ≤ big; decide)]
  show ((F (.int 0)).bd fun d => ((F (.int 1)).bd fun d2 => (Rs.ok []).bd fun r => .ok (d2 :: r)).bd fun r => .ok (d :: r)) = _
  rw [h0, s_ok, h1]; rfl
def hE (W : Int) (o t : Int × Int) (e : Int) (p : Int × Int) : Bool := decide (0 ≤ e * trn p t) && decide (e * trn p t ≤ W) && (decide (0 ≤ e * trn o p) && decide (e * trn o p ≤ W) && decide (p ≠ (0, 0)))
def hrO (o t : Int × Int) (e : Int) (p : Int × Int) : Int × Int × (Int × Int) := (e * trn p t, e * trn o p, p)
def rgI (lo hi : Int) : List Int := (List.range (hi - lo).toNat).map fun (i : Nat) => lo + (i : Int)
theorem flat_condH {α β : Type} {p : α → Bool} {e : α → β} : ∀ l : List α, (l.flatMap fun a => cond (p a) [e a] []) = (l.filter p).map e
  | [] => rfl
  | a :: l => by
    rw [List.flatMap_cons, List.filter_cons, flat_condH l]
    cases p a <;> rfl
def ptsH (x0 x1 y0 y1 W : Int) (o t : Int × Int) (e : Int) : List (Int × Int) := (rgI x0 (x1 + 1)).flatMap fun x => ((rgI y0 (y1 + 1)).map fun y => (x, y)).filter (hE W o t e)
theorem rgI_len (lo hi : Int) : (rgI lo hi).length = (hi - lo).toNat := by unfold rgI; rw [List.length_map, List.length_range]
theorem mem_rgI {lo hi x : Int} : x ∈ rgI lo hi ↔ lo ≤ x ∧ x < hi := by
  unfold rgI
  constructor
  · intro h
    obtain ⟨i, hi, rfl⟩ := List.mem_map.mp h
    have := List.mem_range.mp hi
    omega
  · intro h
    exact List.mem_map.mpr ⟨(x - lo).toNat, List.mem_range.mpr (by omega), by omega⟩
theorem flat_len {α β : Type} {F : α → List β} {M : Nat} : ∀ {l : List α}, (∀ x ∈ l, (F x).length ≤ M) → (l.flatMap F).length ≤ l.length * M
  | [], _ => by simp
  | a :: l, h => by
    rw [List.flatMap_cons, List.length_append, List.length_cons, Nat.add_mul, Nat.one_mul]
    have := flat_len (l := l) fun x hx => h x (List.mem_cons_of_mem _ hx)
    have := h a List.mem_cons_self
    omega
theorem ptsH_len {x0 x1 y0 y1 W : Int} {o t : Int × Int} {e : Int} (h1 : x1 - x0 ≤ 36) (h2 : y1 - y0 ≤ 36) : (ptsH x0 x1 y0 y1 W o t e).length ≤ 1369 := by
  have k1 := flat_len (l := rgI x0 (x1 + 1)) (F := fun x => ((rgI y0 (y1 + 1)).map fun y => (x, y)).filter (hE W o t e)) (M := 37) fun x _ => Nat.le_trans (List.length_filter_le _ _) (by rw [List.length_map, rgI_len]; omega)
  rw [rgI_len] at k1
  have := Nat.mul_le_mul_right 37 (show (x1 + 1 - x0).toNat ≤ 37 by omega)
  unfold ptsH
  omega
theorem hE_iff {W : Int} {o t : Int × Int} {e : Int} {p : Int × Int} : hE W o t e p = true ↔ (0 ≤ e * trn p t ∧ e * trn p t ≤ W) ∧ (0 ≤ e * trn o p ∧ e * trn o p ≤ W) ∧ p ≠ (0, 0) := by
  unfold hE; simp [Bool.and_eq_true, and_assoc]
theorem mem_ptsH {x0 x1 y0 y1 W : Int} {o t : Int × Int} {e : Int} {p : Int × Int} : p ∈ ptsH x0 x1 y0 y1 W o t e ↔ (x0 ≤ p.1 ∧ p.1 ≤ x1) ∧ (y0 ≤ p.2 ∧ p.2 ≤ y1) ∧ hE W o t e p = true := by
  unfold ptsH
  rw [List.mem_flatMap]
  constructor
  · rintro ⟨x, hx, hp⟩
    obtain ⟨hp, he⟩ := List.mem_filter.mp hp
    obtain ⟨y, hy, rfl⟩ := List.mem_map.mp hp
    have := mem_rgI.mp hx
    have := mem_rgI.mp hy
    exact ⟨⟨this.1 |> fun _ => by omega, by omega⟩, ⟨by omega, by omega⟩, he⟩
  · rintro ⟨h1, h2, he⟩
    exact ⟨p.1, mem_rgI.mpr (by omega), List.mem_filter.mpr ⟨List.mem_map.mpr ⟨p.2, mem_rgI.mpr (by omega), rfl⟩, he⟩⟩
theorem nodup_flatH {α β : Type} {F : α → List β} (k : β → α) (hk : ∀ x y, y ∈ F x → k y = x) (hF : ∀ x, (F x).Nodup) : ∀ {l : List α}, l.Nodup → (l.flatMap F).Nodup
  | [], _ => List.nodup_nil
  | a :: l, h => by
    rw [List.flatMap_cons, List.nodup_append]
    rw [List.nodup_cons] at h
    refine ⟨hF a, nodup_flatH k hk hF h.2, fun x hx y hy e => ?_⟩
    subst e
    obtain ⟨b, hb, e⟩ := List.mem_flatMap.mp hy
    have := (hk a x hx).symm.trans (hk b x e)
    subst this
    exact h.1 hb
theorem ptsH_nd {x0 x1 y0 y1 W : Int} {o t : Int × Int} {e : Int} : (ptsH x0 x1 y0 y1 W o t e).Nodup := by
  have rn : ∀ lo hi : Int, (rgI lo hi).Nodup := fun lo hi => List.pairwise_map.mpr (List.Pairwise.imp (fun {a b} h z => h (by omega)) List.nodup_range)
  refine nodup_flatH (fun p => p.1) (fun x p hp => ?_) (fun x => List.Pairwise.sublist List.filter_sublist (List.pairwise_map.mpr (List.Pairwise.imp (fun {a b} h z => h (by injection z)) (rn _ _)))) (rn x0 (x1 + 1))
  obtain ⟨y, _, rfl⟩ := List.mem_map.mp (List.mem_filter.mp hp).1
  rfl
theorem irrH {v : Nat → Int × Int} {k : Nat} {e : Int} (h : HJ v k e) {L : List (Int × Int)} (hL : ∀ p, p ∈ L ↔ ((0 ≤ al v k e p ∧ al v k e p ≤ e * trn (v 0) (v k)) ∧ (0 ≤ be v e p ∧ be v e p ≤ e * trn (v 0) (v k)) ∧ p ≠ (0, 0))) {p : Int × Int} (hp : p ∈ L) : (L.filter fun q => decide (al v k e q ≤ al v k e p) && (decide (be v e q ≤ be v e p) && decide (q ≠ p))).isEmpty = true ↔ ∃ i, i ≤ k ∧ p = v i := by
  have inn : ∀ i, i ≤ k → v i ∈ L := fun i hi => by
    have a1 := hj_le h hi
    have a2 := al_nn h hi
    have a3 := be_nn h hi
    have k1 := h.k1
    refine (hL _).mpr ⟨⟨by omega, a1.1⟩, ⟨by omega, a1.2⟩, fun z => ?_⟩
    have z1 : al v k e (v i) = 0 := by rw [z]; unfold al trn; simp
    have z2 : be v e (v i) = 0 := by rw [z]; unfold be trn; simp
    omega
  rw [List.isEmpty_iff, List.filter_eq_nil_iff]
  obtain ⟨p1, p2, p3⟩ := (hL p).mp hp
  constructor
  · intro hq
    obtain ⟨i, hi, c1, c2⟩ := hj_red h p2.1 p1.1 p3
    refine ⟨i, hi, ?_⟩
    have := hq (v i) (inn i hi)
    simp only [Bool.and_eq_true, decide_eq_true_eq, not_and] at this
    exact Classical.not_not.mp fun z => this c2 c1 fun y => z y.symm
  · rintro ⟨i, hi, rfl⟩ q hq hc
    simp only [Bool.and_eq_true, decide_eq_true_eq] at hc
    obtain ⟨q1, q2, q3⟩ := (hL q).mp hq
    exact hc.2.2 (hj_irr h hi q2.1 q1.1 q3 hc.2.1 hc.1)
/-- what is kept, in order of the second height, is the chain -/
theorem sortH {v : Nat → Int × Int} {k : Nat} {e : Int} (h : HJ v k e) (hk : k ≤ 1000) {L : List (Int × Int)} (hn : L.Nodup) (hL : ∀ p, p ∈ L ↔ ∃ i, i ≤ k ∧ p = v i) : sortX [.lst (L.map fun p => hqD (be v e p, p))] = .ok ((List.range (k + 1)).map fun i => hqD (be v e (v i), v i)) := by
  have hsh : ∀ d ∈ (L.map fun p => hqD (be v e p, p)), shD (.tup [.num, .tup [.num, .num]]) d = true := fun d hd => by
    obtain ⟨p, _, rfl⟩ := List.mem_map.mp hd; rfl
  have ok : sortOkB (L.map fun p => hqD (be v e p, p)) = true := by
    match L, hsh with
    | [], _ => rfl
    | [_], _ => rfl
    | a :: b :: L, hsh =>
      show (match shOf (hqD (be v e a, a)) with
        | some s => s.full && decide (shDep s ≤ 50) && shD s (hqD (be v e a, a)) && ((b :: L).map fun p => hqD (be v e p, p)).all (shD s)
        | none => false) = true
      rw [show shOf (hqD (be v e a, a)) = some (.tup [.num, .tup [.num, .num]]) from rfl]
      show (true && ((b :: L).map fun p => hqD (be v e p, p)).all (shD (.tup [.num, .tup [.num, .num]]))) = true
      rw [Bool.true_and]
      exact List.all_eq_true.mpr fun d hd => hsh d (List.mem_cons_of_mem _ hd)
  rw [show sortX [.lst (L.map fun p => hqD (be v e p, p))] = .ok (sortD (L.map fun p => hqD (be v e p, p))) from if_pos ok]
  congr 1
  have inj : ∀ i j, i ≤ k → j ≤ k → v i = v j → i = j := fun i j a b e => by
    rcases Nat.lt_trichotomy i j with y | y | y
    · have := be_mono h (i := i) (j - i) (by omega)
      rw [show i + (j - i) = j by omega, e] at this
      omega
    · exact y
    · have := be_mono h (i := j) (i - j) (by omega)
      rw [show j + (i - j) = i by omega, e] at this
      omega
  have pm : L.Perm ((List.range (k + 1)).map v) := by
    refine (List.perm_ext_iff_of_nodup hn (List.pairwise_map.mpr (List.Pairwise.imp_of_mem (fun {a b} ha hb h z => h (inj a b (by have := List.mem_range.mp ha; omega) (by have := List.mem_range.mp hb; omega) z)) List.nodup_range))).mpr fun p => ?_
    rw [hL]
    constructor
    · rintro ⟨i, hi, rfl⟩
      exact List.mem_map.mpr ⟨i, List.mem_range.mpr (by omega), rfl⟩
    · intro hp
      obtain ⟨i, hi, rfl⟩ := List.mem_map.mp hp
      exact ⟨i, by have := List.mem_range.mp hi; omega, rfl⟩
  refine sortD_uniq (sh := .tup [.num, .tup [.num, .num]]) (fun d hd => hsh d ((sortD_perm _).mem_iff.mp hd)) ((sortD_perm _).trans ?_) (sortD_sorted _) ?_
  · have := pm.map fun p => hqD (be v e p, p)
    rwa [List.map_map] at this
  · refine List.pairwise_map.mpr (List.Pairwise.imp_of_mem (fun {a b} ha hb hab => ?_) List.pairwise_lt_range)
    have hb := List.mem_range.mp hb
    have m := be_mono h (i := a) (b - a) (by omega)
    rw [show a + (b - a) = b by omega] at m
    show Z0.lexLt [be v e (v b), (v b).1, (v b).2] [be v e (v a), (v a).1, (v a).2] = false
    unfold Z0.lexLt
    rw [if_neg (by omega)]
    exact decide_eq_false (by omega)
theorem g_llsums {v : Nat → Int × Int} {k : Nat} {e : Int} (h : HJ v k e) (h1 : (v 0).1.natAbs + (v k).1.natAbs ≤ 18) (h2 : (v 0).2.natAbs + (v k).2.natAbs ≤ 18) (hk36 : k ≤ 36) (he : e = if 0 < trn (v 0) (v k) then 1 else -1) : x_l_least_sums (pD (v 0)) (pD (v k)) = .ok (.lst (chL v k)) := by
  unfold x_l_least_sums
  simp only [s_ok]
  have i0 : ∀ u : Int × Int, ixX (pD u) (.int 0) = .ok (.int u.1) := fun u => s_ix0
  have i1 : ∀ u : Int × Int, ixX (pD u) (.int 1) = .ok (.int u.2) := fun u => s_ix1
  have hpos := hjd_pos h
  have hD1 : e * trn (v 0) (v k) = (trn (v 0) (v k)).natAbs := by
    rw [he]; split <;> omega
  simp only [i0, i1, s_ok]
  rw [s_mul (mokR (by omega)), s_ok, s_mul (mokR (by omega)), s_ok, s_sub, s_ok, s_gt, s_ok, s_bo, s_ok, show (v 0).1 * (v k).2 - (v 0).2 * (v k).1 = trn (v 0) (v k) from rfl]
  have eside : (bif decide (0 < trn (v 0) (v k)) then Rs.ok (D.int 1) else negX (D.int 1)) = .ok (.int e) := by
    rw [he]
    by_cases h : 0 < trn (v 0) (v k)
    · rw [decide_eq_true h, if_pos h]; rfl
    · rw [decide_eq_false h, if_neg h]; rfl
  rw [eside]
  simp only [s_ok, s_big0]
  rw [s_rg1 (by decide), s_ok, lc_two (x := .int ((if (v 0).1 < 0 then (v 0).1 else 0) + (if (v k).1 < 0 then (v k).1 else 0))) (y := .int ((if (v 0).2 < 0 then (v 0).2 else 0) + (if (v k).2 < 0 then (v k).2 else 0))) (by rw [i0, i0]; simp only [s_ok, s_min2, s_add]) (by rw [i1, i1]; simp only [s_ok, s_min2, s_add]), s_ok, s_ok]
  rw [s_ok, lc_two (x := .int ((if (v 0).1 > 0 then (v 0).1 else 0) + (if (v k).1 > 0 then (v k).1 else 0))) (y := .int ((if (v 0).2 > 0 then (v 0).2 else 0) + (if (v k).2 > 0 then (v k).2 else 0))) (by rw [i0, i0]; simp only [s_ok, s_max2, s_add]) (by rw [i1, i1]; simp only [s_ok, s_max2, s_add]), s_ok, s_ok]
  have hmem : ∀ p : Int × Int, hE (e * trn (v 0) (v k)) (v 0) (v k) e p = true → ((if (v 0).1 < 0 then (v 0).1 else 0) + (if (v k).1 < 0 then (v k).1 else 0) ≤ p.1 ∧ p.1 ≤ (if (v 0).1 > 0 then (v 0).1 else 0) + (if (v k).1 > 0 then (v k).1 else 0)) ∧ ((if (v 0).2 < 0 then (v 0).2 else 0) + (if (v k).2 < 0 then (v k).2 else 0) ≤ p.2 ∧ p.2 ≤ (if (v 0).2 > 0 then (v 0).2 else 0) + (if (v k).2 > 0 then (v k).2 else 0)) := fun p hp => by
    obtain ⟨a, b, c⟩ := hE_iff.mp hp
    exact ⟨⟨box_lo (by omega) (hj_cr1 (v := v) (k := k) (e := e) p) a.1 a.2 b.1 b.2, box_hi (by omega) (hj_cr1 (v := v) (k := k) (e := e) p) a.1 a.2 b.1 b.2⟩, ⟨box_lo (by omega) (hj_cr2 (v := v) (k := k) (e := e) p) a.1 a.2 b.1 b.2, box_hi (by omega) (hj_cr2 (v := v) (k := k) (e := e) p) a.1 a.2 b.1 b.2⟩⟩
  have bx0 : -18 ≤ (if (v 0).1 < 0 then (v 0).1 else 0) + (if (v k).1 < 0 then (v k).1 else 0) := by split <;> split <;> omega
  have bx1 : (if (v 0).1 > 0 then (v 0).1 else 0) + (if (v k).1 > 0 then (v k).1 else 0) ≤ 18 := by split <;> split <;> omega
  have by0 : -18 ≤ (if (v 0).2 < 0 then (v 0).2 else 0) + (if (v k).2 < 0 then (v k).2 else 0) := by split <;> split <;> omega
  have by1 : (if (v 0).2 > 0 then (v 0).2 else 0) + (if (v k).2 > 0 then (v k).2 else 0) ≤ 18 := by split <;> split <;> omega
  have cx0 : (if (v 0).1 < 0 then (v 0).1 else 0) + (if (v k).1 < 0 then (v k).1 else 0) ≤ 0 := by split <;> split <;> omega
  have cx1 : 0 ≤ (if (v 0).1 > 0 then (v 0).1 else 0) + (if (v k).1 > 0 then (v k).1 else 0) := by split <;> split <;> omega
  have cy0 : (if (v 0).2 < 0 then (v 0).2 else 0) + (if (v k).2 < 0 then (v k).2 else 0) ≤ 0 := by split <;> split <;> omega
  have cy1 : 0 ≤ (if (v 0).2 > 0 then (v 0).2 else 0) + (if (v k).2 > 0 then (v k).2 else 0) := by split <;> split <;> omega
  generalize (if (v 0).1 < 0 then (v 0).1 else 0) + (if (v k).1 < 0 then (v k).1 else 0) = x0 at *
  generalize (if (v 0).1 > 0 then (v 0).1 else 0) + (if (v k).1 > 0 then (v k).1 else 0) = x1 at *
  generalize (if (v 0).2 < 0 then (v 0).2 else 0) + (if (v k).2 < 0 then (v k).2 else 0) = y0 at *
  generalize (if (v 0).2 > 0 then (v 0).2 else 0) + (if (v k).2 > 0 then (v k).2 else 0) = y1 at *
  have j0 : ∀ a b : D, ixX (.lst [a, b]) (.int 0) = .ok a := fun a b => s_ixLN (n := 0) rfl
  have j1 : ∀ a b : D, ixX (.lst [a, b]) (.int 1) = .ok b := fun a b => s_ixLN (n := 1) rfl
  simp only [j0, j1, s_ok, s_add]
  rw [s_rg2 (by omega), s_rg2 (by omega)]
  simp only [s_ok]
  rw [rngD_ints, rngD_ints]
  have e1 := h.e1
  have eb : e.natAbs ≤ 1000000000000000000 := by rw [he]; split <;> decide
  rw [show rngL x0 x1 = rgI x0 (x1 + 1) from rfl, show rngL y0 y1 = rgI y0 (y1 + 1) from rfl]
  have hpl := ptsH_len (x0 := x0) (x1 := x1) (y0 := y0) (y1 := y1) (W := e * trn (v 0) (v k)) (o := v 0) (t := v k) (e := e) (by omega) (by omega)
  have hb2 : 2000 ≤ big := by show 2000 ≤ _; decide
  rw [forX_growL 1369 (g := fun x => (((rgI y0 (y1 + 1)).map fun y => (x, y)).filter (hE (e * trn (v 0) (v k)) (v 0) (v k) e)).map fun p => hrD (hrO (v 0) (v k) e p)) (by rw [← List.map_flatMap, List.length_map, List.length_nil]; unfold ptsH at hpl; omega) fun acc x hx ha => by
    have hx := mem_rgI.mp hx
    rw [forX_growL 1369 (g := fun y => cond (hE (e * trn (v 0) (v k)) (v 0) (v k) e (x, y)) [hrD (hrO (v 0) (v k) e (x, y))] []) (by
      rw [List.length_map] at ha
      rw [flat_condH, List.length_map]
      rw [List.filter_map, List.length_map] at ha
      exact ha) fun acc y hy hacc => by
      have hy := mem_rgI.mp hy
      rw [s_mul (mokR (by omega)), s_ok, s_mul (mokR (by omega)), s_ok, s_sub, s_ok, s_mul (mokL eb), s_ok, s_mul (mokR (by omega)), s_ok, s_mul (mokR (by omega)), s_ok, s_sub, s_ok, s_mul (mokL eb)]
      simp only [s_ok, s_tup2, s_un2, s_le, s_bo]
      rw [show x * (v k).2 - y * (v k).1 = trn (x, y) (v k) from rfl, show (v 0).1 * y - (v 0).2 * x = trn (v 0) (x, y) from rfl]
      rw [show absX (.int (trn (v 0) (v k))) = .ok (.int (e * trn (v 0) (v k))) by rw [hD1]; show Rs.ok (D.int (if trn (v 0) (v k) < 0 then -(trn (v 0) (v k)) else trn (v 0) (v k))) = _; congr 2; split <;> omega]
      simp only [s_ok, s_le, s_bo, s_andB]
      rw [show neX (.tup [.int x, .int y]) (.tup [.int 0, .int 0]) = .ok (.bl (decide ((x, y) ≠ ((0 : Int), (0 : Int))))) from s_nePD (u := (x, y)) (v := (0, 0))]
      simp only [s_ok, s_bo, s_andB, s_tup3]
      rw [show (decide (0 ≤ e * trn (x, y) (v k)) && decide (e * trn (x, y) (v k) ≤ e * trn (v 0) (v k)) && (decide (0 ≤ e * trn (v 0) (x, y)) && decide (e * trn (v 0) (x, y) ≤ e * trn (v 0) (v k)) && decide ((x, y) ≠ ((0 : Int), (0 : Int))))) = hE (e * trn (v 0) (v k)) (v 0) (v k) e (x, y) from rfl]
      cases hE (e * trn (v 0) (v k)) (v 0) (v k) e (x, y) with
      | false => simp only [s_cf, List.append_nil]
      | true =>
        simp only [s_ct]
        rw [s_app (by omega), s_ok]; rfl]
    simp only [s_ok]
    congr 2
    rw [flat_condH, List.filter_map, List.map_map]; rfl]
  rw [List.nil_append, ← List.map_flatMap, s_ok, show ((rgI x0 (x1 + 1)).flatMap fun x => ((rgI y0 (y1 + 1)).map fun y => (x, y)).filter (hE (e * trn (v 0) (v k)) (v 0) (v k) e)) = ptsH x0 x1 y0 y1 (e * trn (v 0) (v k)) (v 0) (v k) e from rfl]
  have hL : ∀ p, p ∈ ptsH x0 x1 y0 y1 (e * trn (v 0) (v k)) (v 0) (v k) e ↔ ((0 ≤ al v k e p ∧ al v k e p ≤ e * trn (v 0) (v k)) ∧ (0 ≤ be v e p ∧ be v e p ≤ e * trn (v 0) (v k)) ∧ p ≠ (0, 0)) := fun p => by
    rw [mem_ptsH, show ((0 ≤ al v k e p ∧ al v k e p ≤ e * trn (v 0) (v k)) ∧ (0 ≤ be v e p ∧ be v e p ≤ e * trn (v 0) (v k)) ∧ p ≠ (0, 0)) ↔ hE (e * trn (v 0) (v k)) (v 0) (v k) e p = true from hE_iff.symm]
    exact ⟨fun z => z.2.2, fun z => ⟨(hmem p z).1, (hmem p z).2, z⟩⟩
  have hnd := ptsH_nd (x0 := x0) (x1 := x1) (y0 := y0) (y1 := y1) (W := e * trn (v 0) (v k)) (o := v 0) (t := v k) (e := e)
  generalize ptsH x0 x1 y0 y1 (e * trn (v 0) (v k)) (v 0) (v k) e = L at hpl hL hnd ⊢
  simp only [s_itL, s_ok]
  rw [forX_grow (g := fun p => cond ((L.filter fun q => decide (al v k e q ≤ al v k e p) && (decide (be v e q ≤ be v e p) && decide (q ≠ p))).isEmpty) [hqD (be v e p, p)] []) (by
    rw [flat_condH, List.length_map, List.length_nil]
    have := List.length_filter_le (fun p => (L.filter fun q => decide (al v k e q ≤ al v k e p) && (decide (be v e q ≤ be v e p) && decide (q ≠ p))).isEmpty) L
    omega) fun acc p hp hacc => by
    show (un3 (.tup [.int (al v k e p), .int (be v e p), pD p]) _) = _
    rw [s_un3, lfX_if (g := pD) (p := fun q => decide (al v k e q ≤ al v k e p) && (decide (be v e q ≤ be v e p) && decide (q ≠ p))) (by omega) fun q hq => by
      show (un3 (.tup [.int (al v k e q), .int (be v e q), pD q]) _) = _
      rw [s_un3, s_le, s_ok, s_bo, s_ok, s_le, s_ok, s_bo, s_ok, s_nePD, s_ok, s_bo, s_andB, s_andB, s_ok]
      cases (decide (al v k e q ≤ al v k e p) && (decide (be v e q ≤ be v e p) && decide (q ≠ p))) <;> rfl]
    simp only [s_ok]
    rw [eqLst0' (okD_inn (n := 2) (inn_map fun x _ => (by rfl : inn 1 (pD x) = true)) (by decide)), s_ok, s_bo, s_ok]
    generalize (L.filter fun q => decide (al v k e q ≤ al v k e p) && (decide (be v e q ≤ be v e p) && decide (q ≠ p))).isEmpty = c at hacc ⊢
    cases c with
    | true =>
      simp only [s_ct, s_tup2, s_ok, s_big1]
      rw [s_ct, List.length_singleton] at hacc
      rw [s_addL (by rw [List.length_singleton]; exact hacc), s_ok]; rfl
    | false =>
      simp only [s_cf, s_ok]
      rw [s_addL (by rw [s_cf] at hacc; exact hacc), s_ok]]
  rw [List.nil_append, flat_condH, s_ok]
  rw [sortH h (by omega) (List.Pairwise.sublist List.filter_sublist hnd) fun p => by
    rw [List.mem_filter]
    constructor
    · rintro ⟨hp, hc⟩
      exact (irrH h hL hp).mp hc
    · intro hc
      have hp : p ∈ L := by
        obtain ⟨i, hi, rfl⟩ := hc
        have a1 := hj_le h hi
        have a2 := al_nn h hi
        have a3 := be_nn h hi
        have k1 := h.k1
        refine (hL _).mpr ⟨⟨by omega, a1.1⟩, ⟨by omega, a1.2⟩, fun z => ?_⟩
        have z1 : al v k e (v i) = 0 := by rw [z]; unfold al trn; simp
        have z2 : be v e (v i) = 0 := by rw [z]; unfold be trn; simp
        omega
      exact ⟨hp, (irrH h hL hp).mpr hc⟩]
  simp only [s_ok, s_itL]
  rw [lcX_map (f := fun i => pD (v i)) (by rw [List.length_range]; omega) fun i _ => by
    show un2 (.tup [.int (be v e (v i)), pD (v i)]) _ = _
    rw [s_un2], s_ok]
  rfl
/-! ### k76: sail -/
theorem chL_at (v : Nat → Int × Int) {n i : Nat} (h : i ≤ n) : (chL v n)[i]? = some (pD (v i)) := by
  unfold chL
  rw [List.getElem?_map, List.getElem?_range (by omega)]; rfl
theorem ch_ix (v : Nat → Int × Int) {n i : Nat} {j : Int} (h : i ≤ n) (hj : j = i) : ixX (.tup (chL v n)) (.int j) = .ok (pD (v i)) := by subst hj; exact s_ixN (chL_at v h)
theorem s_neL2 {a b c d : Int} : neX (.lst [.int a, .int b]) (.lst [.int c, .int d]) = .ok (.bl (decide ((a, b) ≠ (c, d)))) := by
  have n1 : ∀ x y : Int, inn 1 (D.lst [.int x, .int y]) = true := fun x y => rfl
  show grd (okD (D.lst [.int a, .int b]) = true ∧ okD (D.lst [.int c, .int d]) = true) (.ok (D.bl (!eqD (D.lst [.int a, .int b]) (D.lst [.int c, .int d])))) = _
  rw [s_grd ⟨okD_inn (n1 a b) (by decide), okD_inn (n1 c d) (by decide)⟩, decide_not]
  congr 3
  by_cases h : (a, b) = (c, d)
  · injection h with h1 h2
    subst h1; subst h2
    rw [decide_eq_true rfl]; exact eqD_t (n1 a b)
  · rw [decide_eq_false h]
    refine eqD_f (n1 a b) (n1 c d) fun z => h ?_
    injection z with z
    injection z with z1 z
    injection z with z2 _
    injection z1 with z1
    injection z2 with z2
    rw [z1, z2]
def tipB (b : Nat → Int) (k at' : Nat) : Bool := decide (at' = 0) || decide (at' = k) || decide (2 < b (at' - 1))
theorem g_sail {v : Nat → Int × Int} {k : Nat} {e : Int} (h : HJ v k e) (hk : k ≤ 1000) {b : Nat → Int} (hb : ∀ i, i + 1 < k → 2 ≤ b i ∧ (v i).1 + (v (i + 2)).1 = b i * (v (i + 1)).1 ∧ (v i).2 + (v (i + 2)).2 = b i * (v (i + 1)).2) (hl : x_least_sums (pD (v 0)) (pD (v k)) = .ok (.tup (chL v k))) : x_sail (pD (v 0)) (pD (v k)) = .ok (.tup (((List.range (k + 1)).filter (tipB b k)).map fun i => pD (v i))) := by
  have hb2 : 2000 ≤ big := by show 2000 ≤ _; decide
  unfold x_sail
  simp only [s_ok]
  rw [hl, s_ok, s_big0, s_ok, s_lenT, s_ok, chL_len, s_rg1 (by omega), s_ok, rng_nI]
  rw [forX_appIf (g := fun i => pD (v i)) (p := tipB b k) (by rw [List.length_range, List.length_nil]; omega) fun acc i hi hacc => by
    have hi := List.mem_range.mp hi
    simp only [s_lenT, s_ok, chL_len, s_sub]
    have hix : ∀ j : Nat, j ≤ k → ixX (.tup (chL v k)) (nI j) = .ok (pD (v j)) := fun j hj => ch_ix v hj rfl
    have i0 : ∀ u : Int × Int, ixX (pD u) (.int 0) = .ok (.int u.1) := fun u => s_ix0
    have i1 : ∀ u : Int × Int, ixX (pD u) (.int 1) = .ok (.int u.2) := fun u => s_ix1
    have ef : ((((ltX (D.int 0) (nI i)).bd fun a23 =>
              (boX a23).bd fun a24 => bif a24 then (ltX (nI i) (D.int (((k + 1 : Nat) : Int) - 1))).bd boX else Rs.ok false).bd
          fun b => Rs.ok (D.bl b))) = .ok (.bl (decide (0 < i) && decide (i < k))) := by
      rw [show ltX (.int 0) (nI i) = .ok (.bl (decide ((0 : Int) < (i : Int)))) from s_lt, show ltX (nI i) (.int (((k + 1 : Nat) : Int) - 1)) = .ok (.bl (decide ((i : Int) < ((k + 1 : Nat) : Int) - 1))) from s_lt]
      simp only [s_ok, s_bo, s_andB]
      congr 3
      · exact decide_eq_decide.mpr (by omega)
      · exact decide_eq_decide.mpr (by omega)
    rw [ef]
    simp only [s_ok, s_bo]
    by_cases c : 0 < i ∧ i < k
    · obtain ⟨j, rfl⟩ : ∃ j, i = j + 1 := ⟨i - 1, by omega⟩
      obtain ⟨b2, f1, f2⟩ := hb j (by omega)
      rw [decide_eq_true c.1, decide_eq_true c.2]
      simp only [Bool.and_self, s_ct, s_nt, s_cf]
      rw [show subX (nI (j + 1)) (.int 1) = .ok (.int (((j + 1 : Nat) : Int) - 1)) from s_sub, show addX (nI (j + 1)) (.int 1) = .ok (.int (((j + 1 : Nat) : Int) + 1)) from s_add]
      simp only [s_ok]
      rw [ch_ix v (n := k) (i := j) (by omega) (by omega), ch_ix v (n := k) (i := j + 2) (by omega) (by omega), hix (j + 1) (by omega)]
      simp only [s_ok]
      rw [s_rg1 (by decide), s_ok, lc_two (x := .int ((v j).1 + (v (j + 2)).1)) (y := .int ((v j).2 + (v (j + 2)).2)) (by rw [i0, i0, s_ok, s_ok, s_add]) (by rw [i1, i1, s_ok, s_ok, s_add]), s_ok, s_ok, i0, i1, s_ok, s_ok, s_mul (mokL (by decide)), s_mul (mokL (by decide)), s_ok, s_ok, s_ok, s_big2, s_ok, s_ok, s_neL2, s_ok, s_bo, s_ok]
      have hz : ¬ ((v (j + 1)).1 = 0 ∧ (v (j + 1)).2 = 0) := fun z => by
        have o := h.one j (by omega)
        unfold trn at o
        rw [z.1, z.2] at o
        simp at o
      have et : decide (((v j).1 + (v (j + 2)).1, (v j).2 + (v (j + 2)).2) ≠ (2 * (v (j + 1)).1, 2 * (v (j + 1)).2)) = tipB b k (j + 1) := by
        unfold tipB
        rw [decide_eq_false (by omega : ¬ j + 1 = 0), decide_eq_false (by omega : ¬ j + 1 = k), Bool.false_or, Bool.false_or]
        refine decide_eq_decide.mpr ?_
        rw [f1, f2]
        show _ ↔ 2 < b j
        constructor
        · intro z
          rcases Int.lt_or_le 2 (b j) with y | y
          · exact y
          · have : b j = 2 := by omega
            rw [this] at z
            exact absurd rfl z
        · intro z1 z2
          injection z2 with z3 z4
          have g1 : (b j - 2) * (v (j + 1)).1 = 0 := by rw [Int.sub_mul]; omega
          have g2 : (b j - 2) * (v (j + 1)).2 = 0 := by rw [Int.sub_mul]; omega
          rcases Int.mul_eq_zero.mp g1 with y | y
          · omega
          · rcases Int.mul_eq_zero.mp g2 with y' | y'
            · omega
            · exact hz ⟨y, y'⟩
      rw [et]
      cases tipB b k (j + 1) with
      | true =>
        simp only [s_ct]
        rw [s_app hacc, s_ok]
      | false => simp only [s_cf]
    · have ec : (decide (0 < i) && decide (i < k)) = false := by
        rw [← Bool.decide_and]; exact decide_eq_false c
      have et : tipB b k i = true := by
        unfold tipB
        by_cases z : i = 0
        · rw [decide_eq_true z]; rfl
        · rw [decide_eq_true (show i = k by omega), Bool.or_true, Bool.true_or]
      rw [ec, et]
      simp only [s_cf, s_nf, s_ok, s_ct]
      rw [hix i (by omega), s_ok, s_app hacc, s_ok]]
  rw [s_ok, s_tupL]; rfl
/-! ### draws -/
theorem as_ask' {m : Int} {Q : D → Prop} (h0 : 0 < m) (h1 : m.natAbs < 2 ^ 200) (h : ∀ v : Int, 0 ≤ v → v < m → Q (.int v)) : AS (askX .row (.int m)) Q :=
  as_askX ⟨h0, small_of h1⟩ h
theorem _root_.Z0.AS.mono {α : Type} {x : Rs α} {P Q : α → Prop} (h : AS x P) (k : ∀ a, P a → Q a) : AS x Q := ⟨h.h.mono k⟩
theorem as_ok {α : Type} {a : α} {Q : α → Prop} (h : Q a) : AS (.ok a) Q := ⟨h⟩
theorem as_filX {α : Type} {e g : α → D} {F : D → Rs (Option D)} {Q : List D → Prop} : ∀ {xs : List α}, (∀ a ∈ xs, AS (F (e a)) fun o => o = none ∨ o = some (g a)) → (∀ ys : List α, ys.Sublist xs → Q (ys.map g)) → AS (filX F (xs.map e)) Q
  | [], _, q => as_ok (q [] (List.Sublist.refl _))
  | a :: xs, h, q => by
    rw [List.map_cons]
    unfold filX
    refine as_bd ((h a List.mem_cons_self).mono fun o ho => as_bd ?_)
    rcases ho with rfl | rfl
    · exact as_filX (e := e) (g := g) (fun b hb => h b (List.mem_cons_of_mem _ hb)) fun ys hs => as_ok (q ys (hs.cons a))
    · exact as_filX (e := e) (g := g) (fun b hb => h b (List.mem_cons_of_mem _ hb)) fun ys hs => as_ok (q (a :: ys) (hs.cons₂ a))
theorem s_big4 {a b c d : D} : bigX [a, b, c, d] = .ok [a, b, c, d] := by unfold bigX; exact if_pos (by show 4 ≤ big; decide)
theorem as_lfX {α : Type} {e g : α → D} {F : D → Rs (Option D)} {Q : List D → Prop} {xs : List α} (hl : xs.length ≤ big) (h : ∀ a ∈ xs, AS (F (e a)) fun o => o = none ∨ o = some (g a)) (q : ∀ ys : List α, ys.Sublist xs → Q (ys.map g)) : AS (lfX F (xs.map e)) Q := by
  unfold lfX
  rw [s_grd (by rw [List.length_map]; exact hl)]
  exact as_filX h q
theorem as_mapX {α : Type} {e : α → D} {F : D → Rs D} {P : α → D → Prop} {Q : List D → Prop} : ∀ {xs : List α}, (∀ a ∈ xs, AS (F (e a)) (P a)) → (∀ ys : List D, ys.length = xs.length → (∀ i (h : i < xs.length) (h' : i < ys.length), P xs[i] ys[i]) → Q ys) → AS (mapX F (xs.map e)) Q
  | [], _, q => as_ok (q [] rfl fun i h => absurd h (Nat.not_lt_zero _))
  | a :: xs, h, q => by
    rw [List.map_cons]
    unfold mapX
    refine as_bd ((h a List.mem_cons_self).mono fun y hy => as_bd ?_)
    refine as_mapX (e := e) (P := P) (fun b hb => h b (List.mem_cons_of_mem _ hb)) fun ys hl hs => as_ok (q (y :: ys) (by rw [List.length_cons, List.length_cons, hl]) fun i h h' => ?_)
    cases i with
    | zero => exact hy
    | succ i => exact hs i (by simpa using h) (by simpa using h')
theorem as_lcX {α : Type} {e : α → D} {F : D → Rs D} {P : α → D → Prop} {Q : List D → Prop} {xs : List α} (hl : xs.length ≤ big) (h : ∀ a ∈ xs, AS (F (e a)) (P a)) (q : ∀ ys : List D, ys.length = xs.length → (∀ i (h : i < xs.length) (h' : i < ys.length), P xs[i] ys[i]) → Q ys) : AS (lcX F (xs.map e)) Q := by
  unfold lcX
  rw [s_grd (by rw [List.length_map]; exact hl)]
  exact as_mapX h q
theorem as_forX {S α : Type} {step : S → α → Rs S} (I : List α → S → Prop) {Q : S → Prop} : ∀ {xs pre : List α} {s : S}, I pre s → (∀ (pre' : List α) (a : α) (post : List α) (s : S), pre ++ xs = pre' ++ a :: post → pre.length ≤ pre'.length → I pre' s → AS (step s a) fun s' => I (pre' ++ [a]) s') → (∀ s, I (pre ++ xs) s → Q s) → AS (forX step s xs) Q
  | [], pre, s, h, _, hq => as_ok (hq s (by rw [List.append_nil]; exact h))
  | a :: xs, pre, s, h, hs, hq => by
    show AS ((step s a).bd fun s' => forX step s' xs) Q
    refine as_bd ((hs pre a xs s rfl (Nat.le_refl _) h).mono fun s1 h1 => ?_)
    exact as_forX I (xs := xs) h1 (fun pre' b post s e l hI => hs pre' b post s (by rw [← e, List.append_assoc]; rfl) (by rw [List.length_append] at l; omega) hI) fun s hI => hq s (by rw [List.append_assoc] at hI; exact hI)
theorem as_forR {α : Type} {step : Unit → α → Rs (Lp Unit)} : ∀ {xs : List α}, (∀ a ∈ xs, AS (step () a) fun r => r = .go ()) → AS (forR step () xs) fun r => r = .go ()
  | [], _ => as_ok rfl
  | a :: xs, h => by
    show AS ((step () a).bd _) _
    refine as_bd ((h a List.mem_cons_self).mono fun r e => ?_)
    subst e
    exact as_forR fun b hb => h b (List.mem_cons_of_mem _ hb)
theorem as_rng {S : Type} {step : S → D → Rs S} {Q : S → Prop} (I : Nat → S → Prop) {lo hi : Int} {n : Nat} {s : S} (hh : (hi - lo).toNat = n) (h0 : I 0 s) (hs : ∀ (k : Nat) s, k < n → I k s → AS (step s (.int (lo + k))) (I (k + 1))) (hq : ∀ s, I n s → Q s) : AS (forX step s (rngD lo hi)) Q := by
  have key : ∀ (m j : Nat) (s : S), j + m = n → I j s → AS (forX step s ((List.range m).map fun (i : Nat) => D.int (lo + j + i))) Q := by
    intro m
    induction m with
    | zero => intro j s e h; exact as_ok (hq s (by rw [← e]; exact h))
    | succ m ih =>
      intro j s e h
      rw [List.range_succ_eq_map, List.map_cons, List.map_map]
      show AS ((step s (.int (lo + j + ((0 : Nat) : Int)))).bd _) Q
      rw [show lo + (j : Int) + ((0 : Nat) : Int) = lo + j by omega]
      refine as_bd ((hs j s (by omega) h).mono fun s1 h1 => ?_)
      have : ((fun (i : Nat) => D.int (lo + j + i)) ∘ Nat.succ) = fun (i : Nat) => D.int (lo + ((j + 1 : Nat) : Int) + i) := by
        funext i
        show D.int (lo + j + ((i + 1 : Nat) : Int)) = _
        congr 1; omega
      rw [this]; exact ih (j + 1) s1 (by omega) h1
  have := key n 0 s (by omega) h0
  unfold rngD
  rw [hh]
  simpa using this
theorem s_neb (a b : Bool) : neX (.bl a) (.bl b) = .ok (.bl (!decide (a = b))) := by cases a <;> cases b <;> exact of_eq_true (eq_true rfl)
theorem as_pickG {X : D} {ds : List D} (hX : X = .lst ds ∨ X = .tup ds) {Q : D → Prop} (h0 : ds ≠ []) (h1 : ds.length < 2 ^ 100) (h : ∀ d ∈ ds, Q d) : AS (x_l_pick .row X) Q := by
  have hl : 0 < ds.length := List.length_pos_iff.mpr h0
  have e1 : lenX X = .ok (.int (ds.length : Int)) := by rcases hX with rfl | rfl <;> rfl
  unfold x_l_pick
  simp only [s_ok]
  rw [e1]
  simp only [s_ok]
  refine as_bd (as_ask' (by omega) (by rw [Int.natAbs_natCast]; exact Nat.lt_trans h1 (by decide)) fun v v0 v1 => ?_)
  obtain ⟨k, rfl⟩ : ∃ k : Nat, v = k := ⟨v.toNat, by omega⟩
  have hk : k < ds.length := by omega
  have e2 : ixX X (.int (k : Int)) = .ok ds[k] := by
    rcases hX with rfl | rfl
    · exact s_ixLN (List.getElem?_eq_getElem hk)
    · exact s_ixN (List.getElem?_eq_getElem hk)
  exact as_eq e2 (h _ (List.getElem_mem hk))
theorem as_signedG {f : Nat} (hf : f ≤ 1000) {Q : D → Prop} (h : ∀ n : Int, n.natAbs ≤ f → Q (.int n)) : AS (x_l_signed .row (.int f)) Q := by
  unfold x_l_signed
  simp only [s_ok]
  rw [s_mul (mokl (by decide))]
  simp only [s_ok, s_add]
  refine as_bd (as_ask' (by omega) (Nat.lt_of_le_of_lt (show _ ≤ 2001 by omega) (by decide)) fun v v0 v1 => ?_)
  rw [s_sub]
  exact as_ok (h _ (by omega))
theorem as_tupG {s f : Nat} (hs : s ≤ 3) {F : D → Rs D} (hF : ∀ k, AS (F (nI k)) fun d => ∃ n : Int, d = .int n ∧ n.natAbs ≤ f) {Q : List D → Prop} (q : ∀ w : List Int, w.length = s → (∀ x ∈ w, x.natAbs ≤ f) → Q (w.map D.int)) : AS (lcX F (rngD 0 (s : Int))) Q := by
  rw [rng_nI]
  refine as_lcX (P := fun _ d => ∃ n : Int, d = .int n ∧ n.natAbs ≤ f) (by rw [List.length_range]; exact Nat.le_trans hs (by decide)) (fun a _ => hF a) fun ys hl hy => ?_
  rw [List.length_range] at hl
  have key : ∀ ys : List D, (∀ i (h : i < ys.length), ∃ n : Int, ys[i] = .int n ∧ n.natAbs ≤ f) → ∃ w : List Int, ys = w.map D.int ∧ ∀ x ∈ w, x.natAbs ≤ f := fun ys => by
    induction ys with
    | nil => intro _; exact ⟨[], rfl, fun x hx => nomatch hx⟩
    | cons y ys ih =>
      intro hh
      obtain ⟨n, e, h1⟩ := hh 0 (by simp)
      obtain ⟨w, e2, hw⟩ := ih fun i hi => by
        have := hh (i + 1) (by simp; omega)
        simpa using this
      refine ⟨n :: w, by rw [List.map_cons, ← e2]; congr 1, fun x hx => ?_⟩
      rcases List.mem_cons.mp hx with rfl | hx
      · exact h1
      · exact hw x hx
  obtain ⟨w, rfl, hw⟩ := key ys fun i hi => hy i (by rw [List.length_range]; omega) hi
  rw [List.length_map] at hl
  exact q w hl hw
/-! ### the law's alike, of a value and itself -/
theorem s_isTL {d : D} (h1 : d ≠ .row) (h2 : ∀ t, d ≠ .ty t) : isiX [d, .tup [.ty .tuple, .ty .list]] = .ok (.bl (isB d .tuple || isB d .list)) := by
  cases d <;> first | rfl | exact absurd rfl h1 | exact absurd rfl (h2 _)
def aln : Nat → D → Bool
  | _, .int _ => true
  | n + 1, .tup ds => ds.all (aln n)
  | n + 1, .lst ds => ds.all (aln n)
  | _, _ => false
theorem alike_int (n : Nat) (i : Int) : x_l_alike (n + 1) (.int i) (.int i) = .ok (.bl true) := by
  unfold x_l_alike
  simp only [s_ok, s_tup2]
  rw [show isiX [.int i, .tup [.ty .tuple, .ty .list]] = .ok (.bl false) from rfl, show isX (.int i) .non = .ok (.bl false) from rfl, show isiX [.int i, .ty .str] = .ok (.bl false) from rfl]
  simp only [s_ok, s_bo, s_cf, s_isI, s_isIb, s_ct]
  rw [show eqX (.bl false) (.bl false) = .ok (.bl true) from rfl]
  simp only [s_ok, s_bo, s_cf, s_ct, s_eq, decide_true]
theorem alike_seq (n : Nat) (ds : List D) (hl : ds.length ≤ 1000000) (h : ∀ d ∈ ds, x_l_alike n d d = .ok (.bl true)) (W : List D → D) (hW : W = D.tup ∨ W = D.lst) : x_l_alike (n + 1) (W ds) (W ds) = .ok (.bl true) := by
  have e1 : isiX [W ds, .tup [.ty .tuple, .ty .list]] = .ok (.bl true) := by rcases hW with rfl | rfl <;> rfl
  have e2 : ∃ b, isiX [W ds, .ty .list] = .ok (.bl b) := by
    rcases hW with rfl | rfl
    · exact ⟨false, rfl⟩
    · exact ⟨true, rfl⟩
  obtain ⟨b, e2⟩ := e2
  have e3 : lenX (W ds) = .ok (.int ds.length) := by rcases hW with rfl | rfl <;> rfl
  have e4 : ∀ k : Nat, k < ds.length → ∃ d ∈ ds, ixX (W ds) (.int (k : Int)) = .ok d := fun k hk => by
    refine ⟨ds[k], List.getElem_mem hk, ?_⟩
    rcases hW with rfl | rfl
    · exact s_ixN (List.getElem?_eq_getElem hk)
    · exact s_ixLN (List.getElem?_eq_getElem hk)
  unfold x_l_alike
  simp only [s_ok, s_tup2]
  rw [e1, e2, e3]
  simp only [s_ok, s_bo, s_ct, s_nt, s_cf, s_ne, s_big0]
  rw [show neX (.bl b) (.bl b) = .ok (.bl false) by cases b <;> rfl]
  simp only [s_ok, s_bo, s_cf, decide_true, s_nt]
  rw [s_rg1 (by omega), s_ok, rng_nI, lfX_none (by rw [List.length_range]; exact Nat.le_trans hl (by decide))]
  · simp only [s_ok]; exact s_eq0
  · intro k hk
    obtain ⟨d, hd, e5⟩ := e4 k (List.mem_range.mp hk)
    rw [show nI k = .int (k : Int) from rfl, e5]
    simp only [s_ok]
    rw [h d hd]
    simp only [s_ok, s_bo, s_nt, s_cf]
/-! ### k76: the law -/
structure Cop76 (o : Int × Int) : Prop where
  b1 : o.1.natAbs ≤ 9
  b2 : o.2.natAbs ≤ 9
  g : Int.gcd o.1 o.2 = 1
theorem det_lgc : Det gcdO := fun ds P Q h k => by
  unfold gcdO at h k
  split at h
  · exact ⟨_, h, k⟩
  · exact h.elim
theorem g_lgc (a b : Int) : x_l_gcd (.int a) (.int b) = .ok (.int (Int.gcd a b)) := y2_eq det_lgc fun Q q => q
structure T76 (o t : Int × Int) : Prop where
  so : SmP o
  st : SmP t
  go : Int.gcd o.1 o.2 = 1
  gt : Int.gcd t.1 t.2 = 1
  ne : trn o t ≠ 0
  s1 : o.1.natAbs + t.1.natAbs ≤ 18
  s2 : o.2.natAbs + t.2.natAbs ≤ 18
  br : (Cop76 o ∧ Cop76 t) ∨ (trn o t).natAbs ≤ 36
theorem bez76 : ∀ a b : Nat, ∃ x y : Int, x * a + y * b = (Nat.gcd a b : Nat) := fun a b => by
  induction a, b using Nat.gcd.induction with
  | H0 n => exact ⟨0, 1, by rw [Nat.gcd_zero_left]; simp⟩
  | H1 m n hm ih =>
    obtain ⟨x, y, h⟩ := ih
    rw [Nat.gcd_rec]
    refine ⟨y - (n / m : Nat) * x, x, ?_⟩
    have e : (n : Int) = m * (n / m : Nat) + (n % m : Nat) := by
      have := Nat.div_add_mod n m
      exact_mod_cast this.symm
    rw [← h]
    conv => lhs; rw [e]
    grind
theorem bez76i (a b : Int) (h : Int.gcd a b = 1) : ∃ p q : Int, p * a + q * b = 1 := by
  obtain ⟨x, y, e⟩ := bez76 a.natAbs b.natAbs
  rw [show Nat.gcd a.natAbs b.natAbs = 1 from h] at e
  have s1 : ∃ s : Int, (a.natAbs : Int) = s * a := by
    rcases Int.natAbs_eq a with z | z
    · exact ⟨1, by omega⟩
    · exact ⟨-1, by omega⟩
  have s2 : ∃ s : Int, (b.natAbs : Int) = s * b := by
    rcases Int.natAbs_eq b with z | z
    · exact ⟨1, by omega⟩
    · exact ⟨-1, by omega⟩
  obtain ⟨s, es⟩ := s1
  obtain ⟨r, er⟩ := s2
  rw [es, er] at e
  exact ⟨x * s, y * r, by rw [Int.mul_assoc, Int.mul_assoc]; exact e⟩
theorem det_from : Det fromO := fun ds P Q h k => by
  unfold fromO at h k
  split at h
  · obtain ⟨l, b, e, _, h⟩ := h
    obtain ⟨l', b', e', _, k⟩ := k
    have e2 : l ++ [b] = l' ++ [b'] := by
      have := e.symm.trans e'
      exact (List.map_inj_right (fun x y z => by injection z)).mp this
    obtain ⟨e3, e4⟩ := List.append_inj' e2 rfl
    subst e3
    injection e4 with e4
    subst e4
    exact ⟨_, h, k⟩
  · exact h.elim
theorem g_fromX {l : List Int} {b : Int} (h1 : l.length ≤ 59) (h2 : ∀ n ∈ l, 2 ≤ n ∧ n ≤ 1000) (h3 : 2 ≤ b ∧ b ≤ 1000) : x_from_steps (.tup ((l ++ [b]).map D.int)) = .ok (ratD (fG b l.reverse)) :=
  y1_eq det_from fun Q q => ⟨l, b, rfl, ⟨h1, h2, h3⟩, q⟩
theorem al_chain (l : List (Int × Int)) (hl : l.length ≤ 1000000) : x_l_alike 5 (.tup (l.map pD)) (.tup (l.map pD)) = .ok (.bl true) := alike_seq 4 _ (by rw [List.length_map]; exact hl) (fun d hd => by
  obtain ⟨u, _, rfl⟩ := List.mem_map.mp hd
  exact alike_seq 3 [.int u.1, .int u.2] (by decide : 2 ≤ 1000000) (fun d hd => by
    simp only [List.mem_cons, List.not_mem_nil, or_false] at hd
    rcases hd with rfl | rfl
    · exact alike_int 2 _
    · exact alike_int 2 _) D.tup (.inl rfl)) D.tup (.inl rfl)
theorem chL_map (v : Nat → Int × Int) (n : Nat) : chL v n = ((List.range (n + 1)).map v).map pD := by unfold chL; rw [List.map_map]; rfl
theorem s_ixT1 (v : Nat → Int × Int) (n : Nat) : ixX (.tup (chL v n)) (.int (-1)) = .ok (pD (v n)) := by
  obtain ⟨l, e⟩ := chL_last v n
  rw [e]
  exact s_ixL1 l (pD (v n))
def toldL (b : Nat → Int) (m : Nat) : List D := (List.range m).map fun i => D.int (b i)
theorem in_two (i k : Nat) : inX (nI i) (.lst [.int 0, .int (k : Int)]) = .ok (.bl (decide (i = 0) || decide (i = k))) := by
  show grd (okD (nI i) = true ∧ okD (.lst [.int 0, .int (k : Int)]) = true) (.ok (D.bl (inB (nI i) [.int 0, .int (k : Int)]))) = _
  rw [s_grd ⟨by rfl, by rfl⟩]
  have e : ∀ a b : Int, eqD (.int a) (.int b) = decide (a = b) := fun a b => by
    by_cases h : a = b
    · subst h; rw [decide_eq_true rfl]; exact eqD_t (n := 0) (by rfl)
    · rw [decide_eq_false h]
      exact eqD_f (n := 0) (m := 0) (by rfl) (by rfl) fun z => h (by injection z)
  congr 2
  unfold inB nI
  rw [List.any_cons, List.any_cons, List.any_nil, e, e, Bool.or_false]
  congr 1
  · exact decide_eq_decide.mpr (by omega)
  · exact decide_eq_decide.mpr (by omega)
theorem pick_q {u x : Int} (h : x ≠ 0) : (u * x).fdiv x = u := Int.mul_fdiv_cancel u h
theorem rat_num76 {p q : Int} (hq : 0 < q) (hg : Int.gcd p q = 1) : ((p : Rat) / q).num = p := by
  rw [← Rat.divInt_eq_div, Rat.num_divInt, Int.gcd_comm, hg, Int.sign_eq_one_of_pos hq, Int.one_mul]
  exact Int.ediv_one p
theorem lawC_as : AS x_law fun d => d = .bl true := by
  unfold x_law x_lawC
  simp only [s_ok, s_big0, s_big3]
  refine as_bd (as_pickG (.inl rfl) (by simp) (show 3 < 2 ^ 100 by decide) fun d hd => ?_)
  have : ∃ m : Nat, d = .int m ∧ m ≤ 9 := by
    simp only [List.mem_cons, List.not_mem_nil, or_false] at hd
    rcases hd with rfl | rfl | rfl
    · exact ⟨2, rfl, by decide⟩
    · exact ⟨4, rfl, by decide⟩
    · exact ⟨9, rfl, by decide⟩
  obtain ⟨m, rfl, hm⟩ := this
  rw [s_rg1 (by decide), s_ok]
  refine as_bd (as_rng (fun (i : Nat) (s : List D) => ∃ us : List (Int × Int), s = us.map pD ∧ us.length = i ∧ ∀ u ∈ us, Cop76 u) (n := 2) rfl ⟨[], rfl, rfl, fun _ h => nomatch h⟩ (fun i s hi ⟨us, es, hl, hu⟩ => ?_) fun s ⟨us, es, hl, hu⟩ => ?_)
  · subst es
    refine as_bd (as_signedG (by omega) fun x hx => ?_)
    refine as_bd (as_signedG (by omega) fun y hy => ?_)
    rw [g_lgc, s_ok, s_gt, s_ok, s_bo, s_ok]
    have : ∃ u, Cop76 u ∧ (bif decide (0 < ((Int.gcd x y : Nat) : Int)) then
                    ((fdivX (D.int x) (D.int ((Int.gcd x y : Nat) : Int))).bd fun a36 =>
                          (fdivX (D.int y) (D.int ((Int.gcd x y : Nat) : Int))).bd fun a37 => Rs.ok [a36, a37]).bd
                      fun l => grd (l.length ≤ big) (Rs.ok (D.tup l))
                  else
                    grd (([D.int 1, D.int (0 + (i : Int))] : List D).length ≤ big) (Rs.ok (D.tup [D.int 1, D.int (0 + (i : Int))]))) = .ok (pD u) := by
      by_cases c : 0 < ((Int.gcd x y : Nat) : Int)
      · rw [decide_eq_true c]
        have d1 : ((Int.gcd x y : Nat) : Int) ∣ x := Int.gcd_dvd_left ..
        have d2 : ((Int.gcd x y : Nat) : Int) ∣ y := Int.gcd_dvd_right ..
        have hg9 : (Int.gcd x y) ≤ 9 := by
          rcases Classical.em (x = 0) with z | z
          · subst z; rw [Int.gcd_zero_left]; omega
          · have := Nat.le_of_dvd (by omega) (Int.natAbs_dvd_natAbs.mpr d1)
            rw [Int.natAbs_natCast] at this
            omega
        refine ⟨(x / (Int.gcd x y : Nat), y / (Int.gcd x y : Nat)), ⟨?_, ?_, ?_⟩, ?_⟩
        · exact Nat.le_trans (Int.natAbs_ediv_le_natAbs _ _) (by omega)
        · exact Nat.le_trans (Int.natAbs_ediv_le_natAbs _ _) (by omega)
        · exact Int.gcd_ediv_gcd_ediv_gcd (by omega)
        · rw [s_ct, s_fdiv ⟨by omega, small_nat (by omega)⟩, s_ok, s_fdiv ⟨by omega, small_nat (by omega)⟩, s_ok, s_ok, s_tup2, Int.fdiv_eq_ediv_of_nonneg _ (by omega), Int.fdiv_eq_ediv_of_nonneg _ (by omega)]; rfl
      · rw [decide_eq_false c]
        refine ⟨(1, 0 + (i : Int)), ⟨by show (1 : Int).natAbs ≤ 9; decide, by show (0 + (i : Int)).natAbs ≤ 9; omega, Int.one_gcd⟩, ?_⟩
        rw [s_cf, s_tup2]; rfl
    obtain ⟨u, hcu, eu⟩ := this
    rw [eu, s_ok, s_app (by rw [List.length_map, hl]; exact Nat.lt_of_lt_of_le hi (by decide)), s_ok]
    refine as_ok ⟨us ++ [u], by rw [List.map_append]; rfl, by rw [List.length_append, hl]; rfl, fun w hw => ?_⟩
    rcases List.mem_append.mp hw with z | z
    · exact hu w z
    · rw [List.mem_singleton.mp z]; exact hcu
  · subst es
    match us, hl, hu with
    | [o, t], _, hu =>
    have ho := hu o (by simp)
    have ht := hu t (by simp)
    have i0 : ∀ u : Int × Int, ixX (pD u) (.int 0) = .ok (.int u.1) := fun u => s_ix0
    have i1 : ∀ u : Int × Int, ixX (pD u) (.int 1) = .ok (.int u.2) := fun u => s_ix1
    obtain ⟨o1, o2, og⟩ := id ho
    obtain ⟨t1, t2, tg⟩ := id ht
    rw [show D.lst (List.map pD [o, t]) = .lst [pD o, pD t] from rfl, s_unB2L, i0, i1, i0, i1, s_ok, s_ok, s_mul (mokR (by omega)), s_ok, s_ok, s_ok, s_mul (mokR (by omega)), s_ok, s_sub, s_ok, s_eq, s_ok, s_bo, s_ok, show o.1 * t.2 - o.2 * t.1 = trn o t from rfl]
    have st : AS (bif decide (trn o t = 0) then
                (grd (([D.int 1, D.int 0] : List D).length ≤ big) (Rs.ok (D.tup [D.int 1, D.int 0]))).bd fun l_one_78 =>
                  (((((askX D.row (D.int 9)).bd fun a72 => mulX a72 (D.int 2)).bd fun a74 => addX a74 (D.int 1)).bd
                            fun a76 => Rs.ok [a76, D.int 2]).bd
                        fun l => grd (l.length ≤ big) (Rs.ok (D.tup l))).bd
                    fun l_other_79 => Rs.ok (l_one_78, l_other_79, D.int 2)
              else Rs.ok (pD o, pD t, D.int (trn o t))) fun s => ∃ o t : Int × Int, T76 o t ∧ s = (pD o, pD t, D.int (trn o t)) := by
      by_cases c : trn o t = 0
      · rw [decide_eq_true c, s_ct, s_tup2, s_ok]
        refine as_bd (as_bd (as_bd (as_bd (as_bd (as_ask' (by decide) (by decide) fun n n0 n1 => ?_)))))
        rw [s_mul (mokR (by decide))]
        refine as_ok ?_
        rw [s_add]
        refine as_ok (as_ok ?_)
        rw [s_tup2]
        refine as_ok (as_ok ⟨(1, 0), (n * 2 + 1, 2), ⟨⟨by decide, by decide⟩, ⟨by show (n * 2 + 1).natAbs ≤ 1000; omega, by show (2 : Int).natAbs ≤ 1000; decide⟩, by decide, ?_, ?_, ?_, by show (0 : Int).natAbs + (2 : Int).natAbs ≤ 18; decide, .inr ?_⟩, ?_⟩)
        · show Int.gcd (n * 2 + 1) 2 = 1
          rw [Int.gcd_comm]
          have : (Int.gcd 2 (n * 2 + 1) : Nat) ∣ 1 := by
            have h1 : ((Int.gcd 2 (n * 2 + 1) : Nat) : Int) ∣ 2 := Int.gcd_dvd_left ..
            have h2 : ((Int.gcd 2 (n * 2 + 1) : Nat) : Int) ∣ n * 2 + 1 := Int.gcd_dvd_right ..
            have h3 := Int.dvd_sub h2 (Int.dvd_mul_of_dvd_right h1 : _ ∣ n * 2)
            rw [show n * 2 + 1 - n * 2 = 1 by omega] at h3
            exact_mod_cast h3
          exact Nat.dvd_one.mp this
        · unfold trn; simp
        · show (1 : Int).natAbs + (n * 2 + 1).natAbs ≤ 18
          omega
        · unfold trn; simp
        · rw [show trn ((1 : Int), (0 : Int)) (n * 2 + 1, 2) = 2 by unfold trn; simp]; rfl
      · rw [decide_eq_false c, s_cf]
        exact as_ok ⟨o, t, ⟨⟨by omega, by omega⟩, ⟨by omega, by omega⟩, og, tg, c, by omega, by omega, .inl ⟨ho, ht⟩⟩, rfl⟩
    refine as_bd (st.mono ?_)
    rintro _ ⟨o, t, hT, rfl⟩
    simp only
    obtain ⟨p, q, hpq⟩ := bez76i _ _ hT.gt
    have hD : (trn o t).natAbs ≤ 1900 := by
      have p1 := Nat.mul_le_mul (show o.1.natAbs ≤ 18 by have := hT.s1; omega) (show t.2.natAbs ≤ 18 by have := hT.s2; omega)
      have p2 := Nat.mul_le_mul (show o.2.natAbs ≤ 18 by have := hT.s2; omega) (show t.1.natAbs ≤ 18 by have := hT.s1; omega)
      rw [← Int.natAbs_mul] at p1 p2
      unfold trn
      omega
    obtain ⟨w, k, hj, e0, ek, hk, hl⟩ := g_lsums hT.so hT.st hT.go hT.gt hpq hT.ne hD rfl
    generalize hE : (if 0 < trn o t then (1 : Int) else -1) = e at hj
    subst e0
    subst ek
    have hpos := hjd_pos hj
    have hDe : e * trn (w 0) (w k) = (trn (w 0) (w k)).natAbs := by
      rw [← hE]; split <;> omega
    have hk36 : k ≤ 36 := by
      rcases hT.br with ⟨c1, c2⟩ | c
      · exact hj_many hj ⟨c1.b1, c1.b2⟩ ⟨c2.b1, c2.b2⟩
      · have := be_nn hj (Nat.le_refl k)
        rw [(hj_ends hj).2.2.1] at this
        omega
    have k1 := hj.k1
    obtain ⟨b, hb⟩ := hj_fac hj
    rw [hl, s_ok, g_llsums hj hT.s1 hT.s2 hk36 hE.symm, s_ok, s_tupL, s_ok, chL_map, al_chain _ (by rw [List.length_map, List.length_range]; omega), ← chL_map, s_ok, s_bo, s_ok, s_nt, s_ok, s_cf]
    rw [show ixX (.tup (chL w k)) (.int 0) = .ok (pD (w 0)) from ch_ix w (Nat.zero_le _) rfl, s_ok, s_nePD, s_ok, s_bo, s_ok, decide_eq_false (fun z => z rfl), s_cf, s_neg, s_ok, s_ixT1, s_ok, s_nePD, s_ok, s_bo, decide_eq_false (fun z => z rfl), s_ok, s_cf]
    simp only [s_lenT, s_ok, chL_len]
    rw [s_rg2 (by omega), s_ok]
    have hsm : ∀ i, i ≤ k → (w i).1.natAbs ≤ 18 ∧ (w i).2.natAbs ≤ 18 := fun i hi => hj_small hj (M := 18) ⟨by have := hT.s1; omega, by have := hT.s2; omega⟩ ⟨by have := hT.s1; omega, by have := hT.s2; omega⟩ hi
    have hbM : ∀ i, i + 1 < k → (b i).natAbs ≤ 1000 ∧ b i ≤ 1000 := fun i hi => by
      have f := hj_facA (e := e) hb hi
      have a2 := al_nn hj (show i + 1 ≤ k by omega)
      obtain ⟨b2, f1, f2⟩ := hb i hi
      have s0 := hsm i (by omega)
      have s2 := hsm (i + 2) (by omega)
      have hz : ¬ ((w (i + 1)).1 = 0 ∧ (w (i + 1)).2 = 0) := fun z => by
        have o := hj.one i (by omega)
        unfold trn at o
        rw [z.1, z.2] at o
        simp at o
      have key : ∀ x y : Int, y ≠ 0 → x = b i * y → x.natAbs ≤ 36 → (b i).natAbs ≤ 36 := fun x y hy he hx => by
        have : x.natAbs = (b i).natAbs * y.natAbs := by rw [he, Int.natAbs_mul]
        have := Nat.le_mul_of_pos_right (b i).natAbs (show 0 < y.natAbs by omega)
        omega
      have : (b i).natAbs ≤ 36 := by
        by_cases z : (w (i + 1)).1 = 0
        · exact key _ _ (fun y => hz ⟨z, y⟩) f2 (by omega)
        · exact key _ _ z f1 (by omega)
      omega
    have hix : ∀ (i : Nat) (j : Int), i ≤ k → j = i → ixX (.tup (chL w k)) (.int j) = .ok (pD (w i)) := fun i j h1 h2 => ch_ix w h1 h2
    obtain ⟨sT, eT, hsT⟩ := forR_rng (lo := 1) (hi := ((k + 1 : Nat) : Int)) (n := k) (s := ([] : List D)) (fun j s => s = toldL b (min j (k - 1))) (step := (fun s112 d114 =>
            ((((((((subX d114 (D.int 1)).bd fun a97 => ixX (D.tup (chL w k)) a97).bd fun a50 => ixX a50 (D.int 0)).bd
                                  fun a156 =>
                                  ((ixX (D.tup (chL w k)) d114).bd fun a52 => ixX a52 (D.int 1)).bd fun a157 =>
                                    mulX a156 a157).bd
                              fun a170 =>
                              ((((subX d114 (D.int 1)).bd fun a97 => ixX (D.tup (chL w k)) a97).bd fun a52 =>
                                        ixX a52 (D.int 1)).bd
                                    fun a168 =>
                                    ((ixX (D.tup (chL w k)) d114).bd fun a50 => ixX a50 (D.int 0)).bd fun a169 =>
                                      mulX a168 a169).bd
                                fun a171 => subX a170 a171).bd
                          absX).bd
                      fun a172 => neX a172 (D.int 1)).bd
                  boX).bd
              fun b174 =>
              bif b174 then Rs.ok (Lp.rt (D.bl false))
              else
                (((addX d114 (D.int 1)).bd fun a178 => ltX a178 (D.int ((k + 1 : Nat) : Int))).bd boX).bd fun b180 =>
                  bif b180 then
                    ((lcX
                              (fun d183 =>
                                (((subX d114 (D.int 1)).bd fun a97 => ixX (D.tup (chL w k)) a97).bd fun a189 =>
                                      ixX a189 d183).bd
                                  fun a197 =>
                                  (((addX d114 (D.int 1)).bd fun a97 => ixX (D.tup (chL w k)) a97).bd fun a189 =>
                                        ixX a189 d183).bd
                                    fun a198 => addX a197 a198)
                              (rngD 0 2)).bd
                          fun l => Rs.ok (D.lst l)).bd
                      fun l_both_181 =>
                      (((((ixX (D.tup (chL w k)) d114).bd fun a50 => ixX a50 (D.int 0)).bd fun a204 =>
                                    neX a204 (D.int 0)).bd
                                boX).bd
                            fun b => bif b then Rs.ok (D.int 0) else Rs.ok (D.int 1)).bd
                        fun l_axis_199 =>
                        ((ixX l_both_181 l_axis_199).bd fun a213 =>
                              ((ixX (D.tup (chL w k)) d114).bd fun a207 => ixX a207 l_axis_199).bd fun a214 =>
                                fdivX a213 a214).bd
                          fun l_factor_206 =>
                          (((ltX l_factor_206 (D.int 2)).bd boX).bd fun b228 =>
                                bif b228 then Rs.ok true
                                else
                                  (((lcX
                                                (fun d218 =>
                                                  ((ixX (D.tup (chL w k)) d114).bd fun a222 => ixX a222 d218).bd
                                                    fun a225 => mulX l_factor_206 a225)
                                                (rngD 0 2)).bd
                                            fun l => Rs.ok (D.lst l)).bd
                                        fun a227 => neX l_both_181 a227).bd
                                    boX).bd
                            fun b229 =>
                            bif b229 then Rs.ok (Lp.rt (D.bl false))
                            else (appX s112 l_factor_206).bd fun l_told_231 => Rs.ok (Lp.go l_told_231)
                  else Rs.ok (Lp.go s112))) (by rw [Nat.zero_min]; rfl) (fun j s hjk es => by
      subst es
      have sj := hsm j (by omega)
      have sj1 := hsm (j + 1) (by omega)
      rw [s_sub, s_ok, hix j _ (by omega) (by omega), hix (j + 1) _ (by omega) (by omega)]
      simp only [s_ok, i0, i1]
      rw [s_mul (mokR (by omega)), s_ok, s_mul (mokR (by omega)), s_ok, s_sub, s_ok, show (w j).1 * (w (j + 1)).2 - (w j).2 * (w (j + 1)).1 = trn (w j) (w (j + 1)) from rfl]
      have o1 := hj.one j (by omega)
      have a1 : absX (.int (trn (w j) (w (j + 1)))) = .ok (.int 1) := by
        show Rs.ok (D.int (if trn (w j) (w (j + 1)) < 0 then -(trn (w j) (w (j + 1))) else trn (w j) (w (j + 1)))) = _
        congr 2
        rw [← hE] at o1
        split at o1 <;> split <;> omega
      rw [a1, s_ok, show neX (.int 1) (.int 1) = .ok (.bl false) from rfl, s_ok, s_bo, s_ok, s_cf, s_add, s_ok, s_lt, s_ok, s_bo, s_ok]
      by_cases c : j + 1 < k
      · rw [decide_eq_true (show 1 + (j : Int) + 1 < ((k + 1 : Nat) : Int) by omega), s_ct]
        obtain ⟨b2, f1, f2⟩ := hb j c
        obtain ⟨bm, _⟩ := hbM j c
        have hz : ¬ ((w (j + 1)).1 = 0 ∧ (w (j + 1)).2 = 0) := fun z => by
          unfold trn at o1
          rw [z.1, z.2] at o1
          simp at o1
        simp only [s_ok]
        rw [hix (j + 2) _ (by omega) (by omega)]
        simp only [s_ok]
        rw [lc_two (x := .int (b j * (w (j + 1)).1)) (y := .int (b j * (w (j + 1)).2)) (by rw [i0, i0, s_ok, s_ok, s_add, f1]) (by rw [i1, i1, s_ok, s_ok, s_add, f2]), s_ok, s_ok, s_ne, s_ok, s_bo, s_ok]
        have ax : ∃ x, x ≠ 0 ∧ x.natAbs ≤ 18 ∧ ∃ ax : D, (bif !decide ((w (j + 1)).1 = 0) then Rs.ok (D.int 0) else Rs.ok (D.int 1)) = .ok ax ∧ ixX (.lst [.int (b j * (w (j + 1)).1), .int (b j * (w (j + 1)).2)]) ax = .ok (.int (b j * x)) ∧ ixX (pD (w (j + 1))) ax = .ok (.int x) := by
          by_cases z : (w (j + 1)).1 = 0
          · exact ⟨(w (j + 1)).2, fun y => hz ⟨z, y⟩, sj1.2, .int 1, by rw [decide_eq_true z]; rfl, s_ixLN (n := 1) rfl, i1 _⟩
          · exact ⟨(w (j + 1)).1, z, sj1.1, .int 0, by rw [decide_eq_false z]; rfl, s_ixLN (n := 0) rfl, i0 _⟩
        obtain ⟨x, x0, xs, ax, e1, e2, e3⟩ := ax
        rw [e1, s_ok, e2, e3, s_ok, s_ok, s_fdiv ⟨x0, small_nat (by omega)⟩, s_ok, pick_q x0, s_lt, s_ok, s_bo, s_ok, decide_eq_false (by omega), s_cf]
        rw [lc_two (x := .int (b j * (w (j + 1)).1)) (y := .int (b j * (w (j + 1)).2)) (by rw [i0, s_ok, s_mul (mokR (by omega))]) (by rw [i1, s_ok, s_mul (mokR (by omega))]), s_ok, s_ok, s_neL2, s_ok, s_bo, s_ok, decide_eq_false (fun z => z rfl), s_cf]
        rw [s_app (by unfold toldL; rw [List.length_map, List.length_range]; exact Nat.lt_of_le_of_lt (show _ ≤ 36 by omega) (by decide)), s_ok]
        refine ⟨_, rfl, ?_⟩
        rw [show min (j + 1) (k - 1) = min j (k - 1) + 1 by omega]
        unfold toldL
        rw [List.range_succ, List.map_append, show min j (k - 1) = j by omega]; rfl
      · rw [decide_eq_false (show ¬ 1 + (j : Int) + 1 < ((k + 1 : Nat) : Int) by omega), s_cf]
        exact ⟨_, rfl, by rw [show min (j + 1) (k - 1) = min j (k - 1) by omega]⟩) (by omega)
    rw [eT, s_ok, s_outg, hsT, show min k (k - 1) = k - 1 by omega]
    rw [s_rg1 (by omega), s_ok, rng_nI]
    rw [lfX_if (g := fun i => pD (w i)) (p := tipB b k) (by rw [List.length_range]; exact Nat.le_trans (show k + 1 ≤ 37 by omega) (by decide)) fun i hi => by
      have hi := List.mem_range.mp hi
      rw [s_sub, s_ok, s_ok, s_big2, s_ok, s_ok, show (((k + 1 : Nat) : Int) - 1) = (k : Int) by omega, in_two, s_ok, s_bo, s_ok]
      have : tipB b k i = (decide (i = 0) || decide (i = k) || decide (2 < b (i - 1))) := rfl
      rw [this]
      cases c : (decide (i = 0) || decide (i = k)) with
      | true =>
        rw [s_ct, s_ok, Bool.true_or, s_ct, s_ct, show nI i = .int (i : Int) from rfl, hix i _ (by omega) rfl, s_ok]
      | false =>
        simp only [Bool.or_eq_false_iff, decide_eq_false_iff_not] at c
        obtain ⟨j, rfl⟩ : ∃ j, i = j + 1 := ⟨i - 1, by omega⟩
        rw [s_cf, show subX (nI (j + 1)) (.int 1) = .ok (.int (((j + 1 : Nat) : Int) - 1)) from s_sub, s_ok, show ((j + 1 : Nat) : Int) - 1 = (j : Int) by omega, s_ixLN (d := .int (b j)) (by unfold toldL; rw [List.getElem?_map, List.getElem?_range (by omega)]; rfl), s_ok, s_gt, s_ok, s_bo, s_ok, Bool.false_or, show j + 1 - 1 = j by omega]
        cases decide (2 < b j) with
        | true => rw [s_ct, s_ct, show nI (j + 1) = .int ((j + 1 : Nat) : Int) from rfl, hix (j + 1) _ (by omega) rfl, s_ok]
        | false => rw [s_cf, s_cf]]
    rw [s_ok, s_ok, g_sail hj (by omega) hb hl, s_ok, s_tupL, s_ok]
    rw [show (((List.range (k + 1)).filter (tipB b k)).map fun i => pD (w i)) = (((List.range (k + 1)).filter (tipB b k)).map w).map pD by rw [List.map_map]; rfl, al_chain _ (by
      rw [List.length_map]
      have := List.length_filter_le (tipB b k) (List.range (k + 1))
      rw [List.length_range] at this
      omega), s_ok, s_bo, s_ok, s_nt, s_ok, s_cf]
    rw [show toldL b (k - 1) = (List.range (k - 1)).map fun i => D.int (b i) from rfl, eqLst0' (okD_inn (n := 1) (inn_map fun x _ => (by rfl : inn 0 (D.int (b x)) = true)) (by decide)), s_ok, s_bo, s_ok]
    by_cases c : k = 1
    · subst c
      rw [show ((List.range (1 - 1)).isEmpty) = true from rfl, s_ct, s_ok]
      exact as_ok rfl
    · have hne : (List.range (k - 1)).isEmpty = false := by
        cases h : (List.range (k - 1)).isEmpty with
        | false => rfl
        | true =>
          have := List.isEmpty_iff.mp h
          have := congrArg List.length this
          rw [List.length_range, List.length_nil] at this
          omega
      rw [hne, s_cf, s_tupL, s_ok]
      have er : ((List.range (k - 1)).map fun i => D.int (b i)) = (((List.range (k - 2)).map b) ++ [b (k - 2)]).map D.int := by
        rw [show k - 1 = (k - 2) + 1 by omega, List.range_succ, List.map_append, List.map_append, List.map_map]; rfl
      have b2 := hb (k - 2) (by omega)
      have bm := hbM (k - 2) (by omega)
      rw [er, g_fromX (by rw [List.length_map, List.length_range]; omega) (fun n hn => by
        obtain ⟨i, hi, rfl⟩ := List.mem_map.mp hn
        have := List.mem_range.mp hi
        exact ⟨(hb i (by omega)).1, (hbM i (by omega)).2⟩) ⟨b2.1, bm.2⟩, s_ok]
      have hr := hj_rat hj hb (k - 2) (by omega)
      have el : ((List.range (k - 2)).map b).reverse = (List.range (k - 2)).map fun t => b (k - 3 - t) := by
        apply List.ext_getElem
        · simp
        · intro i h1 h2
          simp only [List.length_reverse, List.length_map, List.length_range] at h1
          rw [List.getElem_reverse, List.getElem_map, List.getElem_map, List.getElem_range, List.getElem_range]
          congr 1
          rw [List.length_map, List.length_range]; omega
      rw [el, hr, show k - 2 - (k - 2) = 0 by omega, show k - 1 - (k - 2) = 1 by omega]
      have cp := hj_cop hj hb (k - 1) (by omega)
      rw [show k - 1 - (k - 1) = 0 by omega, show k - (k - 1) = 1 by omega] at cp
      obtain ⟨x, y, hxy⟩ := cp
      have a1 := al_nn hj (show 1 ≤ k by omega)
      unfold ratD
      rw [rat_num76 (by omega) (gcd_bz hxy), s_ix0, s_ok, (hj_ends hj).2.2.2, hDe]
      rw [show absX (.int (trn (w 0) (w k))) = .ok (.int ((trn (w 0) (w k)).natAbs : Int)) by show Rs.ok (D.int (if trn (w 0) (w k) < 0 then -(trn (w 0) (w k)) else trn (w 0) (w k))) = _; congr 2; split <;> omega]
      rw [s_ok, s_eq, s_ok, s_bo, decide_eq_true rfl, s_ok]
      exact as_ok rfl
def law_run := run_of lawC_as
end Tx0
namespace Tx0
open PySem PySem.Spec PyProof.Rows L2 Z0
section
variable {Pg : Program} {w : World} {K : Kf} {mg : Str → Option Value} {base : Heap}
theorem ok_law (tx : Tx K mg) : FnOk Pg w K mg base CX0 6 tx.a_law tx.d_law ["_law_script"] (spLaw K) :=
  Z0.law_ok (first := (defBody s_law).headD (.Pass ⟨0, 0, 0, 0⟩)) (rest := (defBody s_law).tail) (seed := 3376) tx.f_law sc_law rfl (by decide)
    (fun cdv A outer s H E hr => ps_set (i := 1) sc_law.nd rfl (by first | exact Or.inl rfl | exact Or.inr rfl) (pe_lst (pa_cons (L2.pv 0) (pa_cons pe_int (pa_cons pe_int (pa_cons pe_int pa_nil))))))
    (walk_law tx x2O_mono (xk_l_pick tx) (by first | decide | omega) x2O_mono (xk_l_signed tx) (by first | decide | omega) x2O_mono (xk_l_gcd tx) (by first | decide | omega) takenO_mono (ok_taken tx) (by first | decide | omega) x2O_mono (xk_least_sums tx) (by first | decide | omega) x2O_mono (xk_l_least_sums tx) (by first | decide | omega) x2O_mono (xk_l_alike tx 5) (by first | decide | omega) x2O_mono (xk_sail tx) (by first | decide | omega) x1O_mono (xk_from_steps tx) (by first | decide | omega)) law_run
end
theorem end_of {P : Program} {w : World} {K : Kf} {h : Heap} {mg : Str → Option Value} {f : Addr} (X : K.In h) (G : h.Ns mainGlobals mg) (hfa : mg ("law" : Str) = some (.ref f)) (c : SaysZ fas fns tbs K) :
    ∃ fd : FuncData, (∀ (s : Shared) (v : Value), BindsTo s fd ⟨[v], []⟩ [("_law_script", v)]) ∧ ∀ base : Heap, K.In base → base.Ns mainGlobals mg → FnOk P w K mg base CX0 6 f fd ["_law_script"] (spLaw K) := by
  obtain ⟨tx, _⟩ := tx_of X G c
  have e := hfa.symm.trans tx.m_law
  cases e
  have b := FunD.bindsA (ps := ["_law_script"]) tx.f_law fun _ _ _ _ _ _ us hl => match us, hl with | [_], _ => rfl
  exact ⟨tx.d_law, fun s v => b s [v] rfl, fun base _ _ => ok_law tx⟩
end Tx0
open PySem PySem.W PySem.Calls PyProof.Rows
theorem PySem.Challenge.cw_latticepoints_k76_whole_least_sums_holds : PySem.Challenge.rw_latticepoints_k76_whole_least_sums.Holds := by
  w_on; o_law
  refine HandSHeadRun.head_any (r := OpenLaw.row PySem.Challenge.rw_latticepoints_k76_whole_least_sums) (q := view (OpenLaw.row PySem.Challenge.rw_latticepoints_k76_whole_least_sums).prog [30]) (H := Tx0.hk) (ob := Tx0.ob) (M := 4000) (loose := Tx0.loose) (d := HandSHeadRun.topDef (OpenLaw.row PySem.Challenge.rw_latticepoints_k76_whole_least_sums).prog 30) (kwd := []) Tx0.ob_eq
    (by kernel_rfl) (fun s => by kernel_rfl) Tx0.run (by kernel_rfl) (by kernel_rfl) (by kernel_rfl) (by rfl) (by first | assumption | decide +kernel) (by decide +kernel) ⟨rfl, rfl, rfl, rfl, rfl, by decide +kernel⟩ ?hw ?hc
  case hw => w_witness2
  case hc =>
    refine L2.walk_ofE (l := PySem.Challenge.rw_latticepoints_k76_whole_least_sums) (n := 63) (k := 6) (x := "_law_script") (CX := L2.CX0) rfl (by decide) (by kernel_rfl) ⟨rfl, by decide, by decide⟩ ?F (fun _ _ _ _ z => z)
    intro w mg fa h Y G hmg0
    obtain ⟨K, KX, c⟩ := Y
    have hmg : mg ("law" : PySem.Str) = some (.ref fa) := by
      have e : (HandSHeadRun.topDef (OpenLaw.row PySem.Challenge.rw_latticepoints_k76_whole_least_sums).prog 30).name = ("law" : PySem.Str) := by kernel_rfl
      rw [← e]
      exact hmg0
    obtain ⟨fd, hb, hF⟩ := Tx0.end_of (P := (PySem.Challenge.rw_latticepoints_k76_whole_least_sums).prog) (w := w) KX G hmg c
    exact ⟨K, fd, Z0.spLaw K, KX, hb, fun H a ns hl hO hS => ⟨a, ns, rfl, hS, hO, fun v H' e => e⟩, hF⟩
#print axioms PySem.Challenge.cw_latticepoints_k76_whole_least_sums_holds
