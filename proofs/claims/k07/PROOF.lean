import PyProof.Rows.All
import Wide.All
import OpenK.AllK
import Wide.FinOn
import HandS.ForMost
import HandS.Exc
import HandS.ExcOwn
import HandS.CallSlots
import HandS.TryOnly
import HandS.WordsExc
import HandS.TupAny
import HandS.Style
import HandS.IsInst
import HandS.Zip
import KE.KIndexOf
import HandS.Deep
import KE.GoesMore
import KE.GoesEnum
import KE.GoesZip
import HandS.Head0
import HandS.Head1
import HandS.Head2
import HandS.HeadEnd
import HandS.HeadHook1
import HandS.HeadHook2
import HandS.Defaults
import HandS.ReCall
import HandS.SetFor
import HandS.Conv
import KE.Datum
import PySem.Challenge.RW_nextalive_k07_long_histories
set_option Elab.async false
set_option linter.all false
set_option maxRecDepth 100000
set_option maxHeartbeats 2000000
/-! The data layer: values as trees, an own store of cells, plain Lean combinators for the constructs, and how they stand to the hand layer's judgements. -/
namespace Dl
open PySem PySem.Spec PyProof.Rows L2

/-- a value: tuples are trees (wtup: a pair that an iterator gave; frz: a list that is never written); lists, dicts and instances are cells of the store; gl: a global thing (a def, a class) by number -/
inductive D where
  | non | bl (b : Bool) | int (i : Int) | str (x : Str) | tup (ds : List D) | wtup (ds : List D) | frz (ds : List D) | ref (c : Nat) | gl (k : Nat)

inductive Cell where
  | lst (ds : List D)
  | ins (c : Nat) (ds : List D)
abbrev Store := List Cell
/-- an exception: the number of its class, its attributes -/
structure Exn where
  cls : Nat
  ds : List D
abbrev Rs (α : Type) := Option (Except Exn α × Store)
abbrev Loc := List (Option D)
abbrev Ev := Loc → Store → Rs D
abbrev Tv := Loc → Store → Rs Bool
abbrev Av := Loc → Store → Rs (List D)
inductive Fl where
  | nx (ρ : Loc) | rt (d : D) | bk (ρ : Loc) | ct (ρ : Loc) | ex (x : Exn) (ρ : Loc)
abbrev Sv := Loc → Store → Option (Fl × Store)

def bnd {α β : Type} (m : Rs α) (k : α → Store → Rs β) : Rs β :=
  match m with
  | none => none
  | some (.error x, S) => some (.error x, S)
  | some (.ok a, S) => k a S
def ok {α : Type} (a : α) (S : Store) : Rs α := some (.ok a, S)

/-- the names of this program's classes and defs that stand as values; T says how the text names them -/
structure Tab where
  cls : Nat → Str
  fld : Nat → List Str
  glo : Nat → Str
  exc : Nat → Str
  exf : Nat → List Str

/-- a list that is never written -/
def FrzL (K : PySem.W.Frag) (H : Hp) (a : Addr) (vs : List V) : Prop :=
  (∃ o, H a = some (.frz o (.lst vs))) ∨
    ∃ (o : Obj) (its : Array Value) (n : Nat), K.lookup a = some o ∧ o.cls = .type "list" ∧ o.dict = none ∧ o.data = .seq its n ∧ its.size ≤ sizeLine ∧ Vals vs its.toList
theorem FrzL.seq {K : PySem.W.Frag} {H : Hp} {a : Addr} {vs : List V} (h : FrzL K H a vs) : SqL K H a vs := by
  rcases h with ⟨o, h⟩ | h
  · exact .inl (.inr ⟨o, h⟩)
  · exact .inr h

/-- a tuple, known to the object: it has no dict -/
def TupF (K : PySem.W.Frag) (H : Hp) (a : Addr) (vs : List V) : Prop :=
  (∃ o, H a = some (.frz o (.tup vs)) ∧ o.dict = none) ∨
    ∃ (o : Obj) (its : Array Value) (n : Nat), K.lookup a = some o ∧ o.cls = .type "tuple" ∧ o.dict = none ∧ o.data = .seq its n ∧ its.size ≤ sizeLine ∧ Vals vs its.toList
theorem TupF.seq {K : PySem.W.Frag} {H : Hp} {a : Addr} {vs : List V} (h : TupF K H a vs) : SqT K H a vs := by
  rcases h with ⟨o, h, _⟩ | ⟨o, its, n, h1, h2, _, h3⟩
  · exact .inl (.inr ⟨o, h⟩)
  · exact .inr ⟨o, its, n, h1, h2, h3⟩

section
variable (T : Tab) (K : PySem.W.Frag) (mg : Str → Option Value)
mutual
/-- d stands as v -/
def VR (ι : List Addr) (H : Hp) : D → V → Prop
  | .non, v => v = .non
  | .bl b, v => v = .bl b
  | .int i, v => v = .int i
  | .str x, v => v = .str x
  | .tup ds, v => ∃ a vs, v = .ref a ∧ TupF K H a vs ∧ VsR ι H ds vs
  | .wtup ds, v => ∃ a vs, v = .ref a ∧ SqT K H a vs ∧ VsR ι H ds vs
  | .frz ds, v => ∃ a vs, v = .ref a ∧ FrzL K H a vs ∧ VsR ι H ds vs
  | .ref c, v => ∃ a, ι[c]? = some a ∧ v = .ref a
  | .gl k, v => ∃ a, mg (T.glo k) = some (.ref a) ∧ v = .ref a
def VsR (ι : List Addr) (H : Hp) : List D → List V → Prop
  | [], vs => vs = []
  | d :: ds, vs => ∃ v r, vs = v :: r ∧ VR ι H d v ∧ VsR ι H ds r
end
def CellR (ι : List Addr) (H : Hp) (a : Addr) : Cell → Prop
  | .lst ds => ∃ vs, H a = some (.lst vs) ∧ VsR T K mg ι H ds vs
  | .ins c ds => ∃ C dx vs, mg (T.cls c) = some (.ref C) ∧ H a = some (.ins C dx ((T.fld c).zip vs)) ∧ vs.length ≤ (T.fld c).length ∧ VsR T K mg ι H ds vs
/-- the store stands in the heap -/
structure Sim (ι : List Addr) (S : Store) (H : Hp) : Prop where
  len : ι.length = S.length
  nd : ι.Nodup
  cell : ∀ (c : Nat) (x : Cell) (a : Addr), S[c]? = some x → ι[c]? = some a → CellR T K mg ι H a x
end
/-- what a run leaves: the cells are kept, what is no cell stands as it stood -/
structure Grow (ι : List Addr) (H : Hp) (ι' : List Addr) (H' : Hp) : Prop where
  pre : ι <+: ι'
  new : ∀ a ∈ ι', a ∉ ι → H a = none
  oth : ∀ a o, H a = some o → a ∉ ι → H' a = some o
  fz : ∀ a o u, H a = some (.frz o u) → H' a = some (.frz o u)
theorem Grow.refl (ι : List Addr) (H : Hp) : Grow ι H ι H := ⟨List.prefix_refl _, fun _ h n => absurd h n, fun _ _ h _ => h, fun _ _ _ h => h⟩
theorem Grow.trans {ι ι1 ι2 : List Addr} {H H1 H2 : Hp} (a : Grow ι H ι1 H1) (b : Grow ι1 H1 ι2 H2) : Grow ι H ι2 H2 where
  pre := a.pre.trans b.pre
  new := fun x hx hn => by
    by_cases h1 : x ∈ ι1
    · exact a.new x h1 hn
    · have h2 := b.new x hx h1
      cases e : H x with
      | none => rfl
      | some o => rw [a.oth x o e hn] at h2; cases h2
  oth := fun x o e hn => by
    refine b.oth x o (a.oth x o e hn) fun h1 => ?_
    have := a.new x h1 hn
    rw [e] at this; cases this
  fz := fun x o u e => b.fz x o u (a.fz x o u e)
theorem getP {α : Type} {l l' : List α} (h : l <+: l') {i : Nat} {a : α} (e : l[i]? = some a) : l'[i]? = some a := by
  obtain ⟨t, rfl⟩ := h
  obtain ⟨hi, _⟩ := List.getElem?_eq_some_iff.mp e
  rw [List.getElem?_append_left hi]
  exact e

section
variable {T : Tab} {K : PySem.W.Frag} {mg : Str → Option Value} {ι ι' : List Addr} {H H' : Hp}
/-- tuples stay -/
theorem SqT.to {a : Addr} {xs : List V} (h : SqT K H a xs) (t : ∀ b ys, H b = some (.tup ys) → H' b = some (.tup ys)) (z : ∀ b o u, H b = some (.frz o u) → H' b = some (.frz o u)) : SqT K H' a xs := by
  rcases h with (h | ⟨o, h⟩) | h
  · exact .inl (.inl (t _ _ h))
  · exact .inl (.inr ⟨o, z _ _ _ h⟩)
  · exact .inr h
mutual
theorem VR.to (p : ι <+: ι') (t : ∀ b ys, H b = some (.tup ys) → H' b = some (.tup ys)) (z : ∀ b o u, H b = some (.frz o u) → H' b = some (.frz o u)) :
    ∀ (d : D) (v : V), VR T K mg ι H d v → VR T K mg ι' H' d v
  | .non, v, h => by simpa only [VR] using h
  | .bl b, v, h => by simpa only [VR] using h
  | .int i, v, h => by simpa only [VR] using h
  | .str x, v, h => by simpa only [VR] using h
  | .tup ds, v, h => by
    simp only [VR] at h ⊢
    obtain ⟨a, vs, e, q, r⟩ := h
    refine ⟨a, vs, e, ?_, VsR.to p t z ds vs r⟩
    rcases q with ⟨o, q, n⟩ | q
    · exact .inl ⟨o, z _ _ _ q, n⟩
    · exact .inr q
  | .wtup ds, v, h => by
    simp only [VR] at h ⊢
    obtain ⟨a, vs, e, q, r⟩ := h
    exact ⟨a, vs, e, SqT.to q t z, VsR.to p t z ds vs r⟩
  | .frz ds, v, h => by
    simp only [VR] at h ⊢
    obtain ⟨a, vs, e, q, r⟩ := h
    refine ⟨a, vs, e, ?_, VsR.to p t z ds vs r⟩
    rcases q with ⟨o, q⟩ | q
    · exact .inl ⟨o, z _ _ _ q⟩
    · exact .inr q
  | .ref c, v, h => by
    simp only [VR] at h ⊢
    obtain ⟨a, q, e⟩ := h
    exact ⟨a, getP p q, e⟩
  | .gl k, v, h => by simpa only [VR] using h
theorem VsR.to (p : ι <+: ι') (t : ∀ b ys, H b = some (.tup ys) → H' b = some (.tup ys)) (z : ∀ b o u, H b = some (.frz o u) → H' b = some (.frz o u)) :
    ∀ (ds : List D) (vs : List V), VsR T K mg ι H ds vs → VsR T K mg ι' H' ds vs
  | [], vs, h => by simpa only [VsR] using h
  | d :: ds, vs, h => by
    simp only [VsR] at h ⊢
    obtain ⟨v, r, e, q, q2⟩ := h
    exact ⟨v, r, e, VR.to p t z d v q, VsR.to p t z ds r q2⟩
end
theorem VsR.nil : VsR T K mg ι H [] [] := by simp only [VsR]
theorem VsR.cons {d : D} {ds : List D} {v : V} {vs : List V} (h : VR T K mg ι H d v) (t : VsR T K mg ι H ds vs) : VsR T K mg ι H (d :: ds) (v :: vs) := by
  simp only [VsR]
  exact ⟨v, vs, rfl, h, t⟩
theorem VsR.length : ∀ {ds : List D} {vs : List V}, VsR T K mg ι H ds vs → vs.length = ds.length
  | [], vs, h => by simp only [VsR] at h; subst h; rfl
  | d :: ds, vs, h => by
    simp only [VsR] at h
    obtain ⟨v, r, rfl, _, q⟩ := h
    simp [q.length]
theorem VsR.append : ∀ {ds es : List D} {vs us : List V}, VsR T K mg ι H ds vs → VsR T K mg ι H es us → VsR T K mg ι H (ds ++ es) (vs ++ us)
  | [], es, vs, us, h, k => by simp only [VsR] at h; subst h; exact k
  | d :: ds, es, vs, us, h, k => by
    simp only [VsR] at h
    obtain ⟨v, r, rfl, q, q2⟩ := h
    exact VsR.cons q (q2.append k)
theorem VsR.get : ∀ {ds : List D} {vs : List V} {i : Nat} {d : D}, VsR T K mg ι H ds vs → ds[i]? = some d → ∃ v, vs[i]? = some v ∧ VR T K mg ι H d v
  | [], _, _, _, _, e => by simp at e
  | d :: ds, vs, 0, _, h, e => by
    simp only [VsR] at h
    obtain ⟨v, r, rfl, q, _⟩ := h
    simp at e; subst e
    exact ⟨v, by simp, q⟩
  | d :: ds, vs, i + 1, _, h, e => by
    simp only [VsR] at h
    obtain ⟨v, r, rfl, _, q⟩ := h
    obtain ⟨u, e1, e2⟩ := q.get (i := i) (by simpa using e)
    exact ⟨u, by simpa using e1, e2⟩
theorem VsR.none_of {ds : List D} {vs : List V} {i : Nat} (h : VsR T K mg ι H ds vs) (e : ds[i]? = none) : vs[i]? = none := by
  rw [List.getElem?_eq_none_iff] at *
  rw [h.length]; exact e
theorem VsR.set {d : D} {v : V} (q : VR T K mg ι H d v) : ∀ {ds : List D} {vs : List V} (i : Nat), VsR T K mg ι H ds vs → VsR T K mg ι H (ds.set i d) (vs.set i v)
  | [], vs, _, h => by simp only [VsR] at h; subst h; simp only [List.set_nil, VsR]
  | e :: ds, vs, 0, h => by
    simp only [VsR] at h
    obtain ⟨u, r, rfl, _, k⟩ := h
    exact VsR.cons q k
  | e :: ds, vs, i + 1, h => by
    simp only [VsR] at h
    obtain ⟨u, r, rfl, k1, k⟩ := h
    exact VsR.cons k1 (k.set q i)
theorem VsR.take : ∀ {ds : List D} {vs : List V} (n : Nat), VsR T K mg ι H ds vs → VsR T K mg ι H (ds.take n) (vs.take n)
  | _, _, 0, _ => by simp only [List.take_zero, VsR]
  | [], vs, n + 1, h => by simp only [VsR] at h; subst h; simp only [List.take_nil, VsR]
  | e :: ds, vs, n + 1, h => by
    simp only [VsR] at h
    obtain ⟨u, r, rfl, k1, k⟩ := h
    exact VsR.cons k1 (k.take n)
theorem VsR.drop : ∀ {ds : List D} {vs : List V} (n : Nat), VsR T K mg ι H ds vs → VsR T K mg ι H (ds.drop n) (vs.drop n)
  | _, _, 0, h => h
  | [], vs, n + 1, h => by simp only [VsR] at h; subst h; simp only [List.drop_nil, VsR]
  | e :: ds, vs, n + 1, h => by
    simp only [VsR] at h
    obtain ⟨u, r, rfl, k1, k⟩ := h
    exact k.drop n
theorem VsR.eraseIdx : ∀ {ds : List D} {vs : List V} (i : Nat), VsR T K mg ι H ds vs → VsR T K mg ι H (ds.eraseIdx i) (vs.eraseIdx i)
  | [], vs, _, h => by simp only [VsR] at h; subst h; simp only [List.eraseIdx_nil, VsR]
  | e :: ds, vs, 0, h => by
    simp only [VsR] at h
    obtain ⟨u, r, rfl, _, k⟩ := h
    exact k
  | e :: ds, vs, i + 1, h => by
    simp only [VsR] at h
    obtain ⟨u, r, rfl, k1, k⟩ := h
    exact VsR.cons k1 (k.eraseIdx i)
theorem VsR.reverse : ∀ {ds : List D} {vs : List V}, VsR T K mg ι H ds vs → VsR T K mg ι H ds.reverse vs.reverse
  | [], vs, h => by simp only [VsR] at h; subst h; exact VsR.nil
  | e :: ds, vs, h => by
    simp only [VsR] at h
    obtain ⟨u, r, rfl, k1, k⟩ := h
    rw [List.reverse_cons, List.reverse_cons]
    exact k.reverse.append (VsR.cons k1 VsR.nil)
theorem VsR.rep {ds : List D} {vs : List V} (h : VsR T K mg ι H ds vs) : ∀ k : Nat, VsR T K mg ι H (List.replicate k ds).flatten (List.replicate k vs).flatten
  | 0 => VsR.nil
  | k + 1 => by
    rw [List.replicate_succ, List.replicate_succ, List.flatten_cons, List.flatten_cons]
    exact h.append (h.rep k)
theorem VsR.ints : ∀ {ns : List Int} {vs : List V}, VsR T K mg ι H (ns.map D.int) vs → vs = ns.map V.int
  | [], vs, h => by simpa only [List.map_nil, VsR] using h
  | n :: ns, vs, h => by
    simp only [List.map_cons, VsR, VR] at h
    obtain ⟨v, r, rfl, rfl, q⟩ := h
    rw [q.ints]; rfl
theorem VsR.of_ints : ∀ (ns : List Int), VsR T K mg ι H (ns.map D.int) (ns.map V.int)
  | [] => VsR.nil
  | n :: ns => VsR.cons (by simp only [VR]) (VsR.of_ints ns)
theorem VsR.bls : ∀ {ns : List Bool} {vs : List V}, VsR T K mg ι H (ns.map D.bl) vs → vs = ns.map V.bl
  | [], vs, h => by simpa only [List.map_nil, VsR] using h
  | n :: ns, vs, h => by
    simp only [List.map_cons, VsR, VR] at h
    obtain ⟨v, r, rfl, rfl, q⟩ := h
    rw [q.bls]; rfl

theorem Sim.at {S : Store} {c : Nat} {x : Cell} (s : Sim T K mg ι S H) (e : S[c]? = some x) : ∃ a, ι[c]? = some a ∧ CellR T K mg ι H a x := by
  have hc : c < ι.length := by rw [s.len]; exact (List.getElem?_eq_some_iff.mp e).1
  exact ⟨ι[c], List.getElem?_eq_getElem hc, s.cell c x _ e (List.getElem?_eq_getElem hc)⟩
theorem Sim.no_tup {S : Store} {a : Addr} {xs : List V} (s : Sim T K mg ι S H) (h : H a = some (.tup xs)) : a ∉ ι := fun m => by
  obtain ⟨c, hc, e⟩ := List.mem_iff_getElem.mp m
  have hS : c < S.length := by rw [← s.len]; exact hc
  have q := s.cell c S[c] a (List.getElem?_eq_getElem hS) (by rw [List.getElem?_eq_getElem hc, e])
  cases z : S[c] with
  | lst ds => rw [z] at q; obtain ⟨vs, q, _⟩ := q; rw [h] at q; cases q
  | ins C ds => rw [z] at q; obtain ⟨C, dx, vs, _, q, _⟩ := q; rw [h] at q; cases q
theorem Sim.no_frz {S : Store} {a : Addr} {o : Obj} {u : HO} (s : Sim T K mg ι S H) (h : H a = some (.frz o u)) : a ∉ ι := fun m => by
  obtain ⟨c, hc, e⟩ := List.mem_iff_getElem.mp m
  have hS : c < S.length := by rw [← s.len]; exact hc
  have q := s.cell c S[c] a (List.getElem?_eq_getElem hS) (by rw [List.getElem?_eq_getElem hc, e])
  cases z : S[c] with
  | lst ds => rw [z] at q; obtain ⟨vs, q, _⟩ := q; rw [h] at q; cases q
  | ins C ds => rw [z] at q; obtain ⟨C, dx, vs, _, q, _⟩ := q; rw [h] at q; cases q
theorem Sim.some {S : Store} {a : Addr} (s : Sim T K mg ι S H) (m : a ∈ ι) : H a ≠ none := fun h => by
  obtain ⟨c, hc, e⟩ := List.mem_iff_getElem.mp m
  have hS : c < S.length := by rw [← s.len]; exact hc
  have q := s.cell c S[c] a (List.getElem?_eq_getElem hS) (by rw [List.getElem?_eq_getElem hc, e])
  cases z : S[c] with
  | lst ds => rw [z] at q; obtain ⟨vs, q, _⟩ := q; rw [h] at q; cases q
  | ins C ds => rw [z] at q; obtain ⟨C, dx, vs, _, q, _⟩ := q; rw [h] at q; cases q
/-- what grows keeps what stands for what -/
theorem VR.grow {S : Store} {d : D} {v : V} (s : Sim T K mg ι S H) (g : Grow ι H ι' H') (h : VR T K mg ι H d v) : VR T K mg ι' H' d v :=
  VR.to g.pre (fun b ys e => g.oth b _ e (s.no_tup e)) g.fz d v h
theorem VsR.grow {S : Store} {d : List D} {v : List V} (s : Sim T K mg ι S H) (g : Grow ι H ι' H') (h : VsR T K mg ι H d v) : VsR T K mg ι' H' d v :=
  VsR.to g.pre (fun b ys e => g.oth b _ e (s.no_tup e)) g.fz d v h
/-- a new object that is no cell -/
theorem Grow.laid {p : Addr} {o : HO} (hp : H p = none) : Grow ι H ι (upd H p o) where
  pre := List.prefix_refl _
  new := fun _ h n => absurd h n
  oth := fun a u e _ => by rw [upd_ne (ne_of_none e hp)]; exact e
  fz := fun a u z e => by rw [upd_ne (ne_of_none e hp)]; exact e
theorem CellR.to {a : Addr} {x : Cell} (h : CellR T K mg ι H a x) (p : ι <+: ι') (t : ∀ b ys, H b = Option.some (HO.tup ys) → H' b = Option.some (HO.tup ys)) (z : ∀ b o u, H b = Option.some (HO.frz o u) → H' b = Option.some (HO.frz o u)) (e : H' a = H a) : CellR T K mg ι' H' a x := by
  cases x with
  | lst ds => obtain ⟨vs, q, r⟩ := h; exact ⟨vs, e.trans q, VsR.to p t z _ _ r⟩
  | ins c ds => obtain ⟨C, dx, vs, q1, q, l, r⟩ := h; exact ⟨C, dx, vs, q1, e.trans q, l, VsR.to p t z _ _ r⟩
/-- .. stands beside the store -/
theorem Sim.laid {S : Store} {p : Addr} {o : HO} (s : Sim T K mg ι S H) (hp : H p = none) : Sim T K mg ι S (upd H p o) where
  len := s.len
  nd := s.nd
  cell := fun c x a e i => by
    have m : a ∈ ι := List.mem_of_getElem? i
    have ne : a ≠ p := fun z => s.some m (by rw [z]; exact hp)
    exact (s.cell c x a e i).to (List.prefix_refl _) (fun b ys e => by rw [upd_ne (ne_of_none e hp)]; exact e) (fun b u ys e => by rw [upd_ne (ne_of_none e hp)]; exact e) (upd_ne ne)
/-- a new object that becomes a cell -/
theorem Grow.made {p : Addr} (hp : H p = none) : Grow ι H (ι ++ [p]) H where
  pre := List.prefix_append _ _
  new := fun a h n => by
    rcases List.mem_append.mp h with h | h
    · exact absurd h n
    · rw [List.mem_singleton.mp h]; exact hp
  oth := fun a u e _ => e
  fz := fun a u z e => e
theorem Sim.add {S : Store} {p : Addr} {x : Cell} (s : Sim T K mg ι S H) (n : p ∉ ι) (h : CellR T K mg (ι ++ [p]) H p x) : Sim T K mg (ι ++ [p]) (S ++ [x]) H where
  len := by simp [s.len]
  nd := List.nodup_append.mpr ⟨s.nd, by simp, fun a ha b hb => by rw [List.mem_singleton.mp hb]; exact fun z => n (z ▸ ha)⟩
  cell := fun c y a e i => by
    by_cases hc : c < S.length
    · rw [List.getElem?_append_left hc] at e
      rw [List.getElem?_append_left (by rw [s.len]; exact hc)] at i
      exact (s.cell c y a e i).to (List.prefix_append _ _) (fun _ _ e => e) (fun _ _ _ e => e) rfl
    · have e1 : c = S.length := by
        have := (List.getElem?_eq_some_iff.mp e).1
        simp at this; omega
      subst e1
      rw [List.getElem?_append_right (Nat.le_refl _)] at e
      rw [List.getElem?_append_right (by rw [s.len]; exact Nat.le_refl _)] at i
      simp at e; simp [s.len] at i
      subst e; subst i
      exact h
/-- a new list -/
theorem Grow.lst {p : Addr} {o : HO} (hp : H p = none) : Grow ι H (ι ++ [p]) (upd H p o) where
  pre := List.prefix_append _ _
  new := fun a h n => by
    rcases List.mem_append.mp h with h | h
    · exact absurd h n
    · rw [List.mem_singleton.mp h]; exact hp
  oth := fun a u e _ => by rw [upd_ne (ne_of_none e hp)]; exact e
  fz := fun a u z e => by rw [upd_ne (ne_of_none e hp)]; exact e
theorem Sim.lst {S : Store} {p : Addr} {ds : List D} {vs : List V} (s : Sim T K mg ι S H) (hp : H p = none) (r : VsR T K mg ι H ds vs) : Sim T K mg (ι ++ [p]) (S ++ [.lst ds]) (upd H p (.lst vs)) := by
  refine (s.laid (o := .lst vs) hp).add (fun m => s.some m hp) ⟨vs, upd_same, ?_⟩
  exact VsR.to (List.prefix_append _ _) (fun b ys e => by rw [upd_ne (ne_of_none e hp)]; exact e) (fun b u ys e => by rw [upd_ne (ne_of_none e hp)]; exact e) _ _ r
/-- a cell is written -/
theorem Sim.set {S : Store} {c : Nat} {a : Addr} {x : Cell} {o : HO} (s : Sim T K mg ι S H) (i : ι[c]? = Option.some a) (h : CellR T K mg ι (upd H a o) a x) : Sim T K mg ι (S.set c x) (upd H a o) where
  len := by simp [s.len]
  nd := s.nd
  cell := fun c' y b e j => by
    have m : a ∈ ι := List.mem_of_getElem? i
    by_cases hc : c' = c
    · subst hc
      rw [i] at j; cases j
      have hl : c' < S.length := by rw [← s.len]; exact (List.getElem?_eq_some_iff.mp i).1
      rw [List.getElem?_set_self hl] at e
      cases e
      exact h
    · rw [List.getElem?_set_ne (Ne.symm hc)] at e
      have ne : b ≠ a := fun z => by
        subst z
        obtain ⟨h1, e1⟩ := List.getElem?_eq_some_iff.mp i
        obtain ⟨h2, e2⟩ := List.getElem?_eq_some_iff.mp j
        exact hc ((List.getElem_inj s.nd).mp (e2.trans e1.symm))
      refine (s.cell c' y b e j).to (List.prefix_refl _) (fun b ys e => ?_) (fun b u ys e => ?_) (upd_ne ne)
      · rw [upd_ne (fun z : b = a => s.no_tup e (by rw [z]; exact m))]; exact e
      · rw [upd_ne (fun z : b = a => s.no_frz e (by rw [z]; exact m))]; exact e
theorem Grow.set {S : Store} {c : Nat} {a : Addr} {o : HO} (s : Sim T K mg ι S H) (i : ι[c]? = Option.some a) : Grow ι H ι (upd H a o) where
  pre := List.prefix_refl _
  new := fun _ h n => absurd h n
  oth := fun b u e n => by rw [upd_ne (fun z : b = a => n (by rw [z]; exact List.mem_of_getElem? i))]; exact e
  fz := fun b u z e => by rw [upd_ne (fun y : b = a => s.no_frz e (by rw [y]; exact List.mem_of_getElem? i))]; exact e
/-- the frame -/
def LocR (T : Tab) (K : PySem.W.Frag) (mg : Str → Option Value) (ι : List Addr) (H : Hp) (ρ : Loc) (σ : L2.St) : Prop := ρ.length = σ.length ∧ ∀ (i : Nat) (d : D), ρ[i]? = Option.some (Option.some d) → ∃ v, σ[i]? = Option.some (Option.some v) ∧ VR T K mg ι H d v
theorem LocR.grow {S : Store} {ρ : Loc} {σ : L2.St} (h : LocR T K mg ι H ρ σ) (s : Sim T K mg ι S H) (g : Grow ι H ι' H') : LocR T K mg ι' H' ρ σ :=
  ⟨h.1, fun i d e => let ⟨v, e1, r⟩ := h.2 i d e; ⟨v, e1, r.grow s g⟩⟩
theorem LocR.set {ρ : Loc} {σ : L2.St} {d : D} {v : V} (h : LocR T K mg ι H ρ σ) (r : VR T K mg ι H d v) (i : Nat) : LocR T K mg ι H (ρ.set i (Option.some d)) (σ.set i (Option.some v)) := by
  refine ⟨by simp [h.1], fun j e q => ?_⟩
  by_cases hj : j = i
  · subst hj
    by_cases hl : j < ρ.length
    · rw [List.getElem?_set_self hl] at q
      cases q
      exact ⟨v, List.getElem?_set_self (h.1 ▸ hl), r⟩
    · rw [List.set_eq_of_length_le (by omega)] at q
      rw [List.set_eq_of_length_le (by have := h.1; omega)]
      exact h.2 j e q
  · rw [List.getElem?_set_ne (Ne.symm hj)] at q ⊢
    exact h.2 j e q
end

/-! ### readings -/
section
variable (T : Tab) (K : PySem.W.Frag) (mg : Str → Option Value)
/-- an exception stands -/
def ExR (ι : List Addr) (H : Hp) (x : Exn) (cls : Value) (dx : Option Addr) : Prop :=
  ∃ C, mg (T.exc x.cls) = some (.ref C) ∧ cls = .ref C ∧ ((x.ds = [] ∧ T.exf x.cls = []) ∨ ∃ d vs, dx = some d ∧ H d = some (.xd ((T.exf x.cls).zip vs)) ∧ VsR T K mg ι H x.ds vs ∧ vs.length = (T.exf x.cls).length)
/-- what follows a run -/
def Post {α β : Type} (E : XK) (rep : List Addr → Hp → α → β → Prop) (ι : List Addr) (H : Hp) (r : Rs α) (Q : β → Hp → Prop) : Prop :=
  match r with
  | none => False
  | some (.ok d, S') => ∀ ι' v H', Grow ι H ι' H' → Sim T K mg ι' S' H' → rep ι' H' d v → Q v H'
  | some (.error x, S') => ∀ ι' cls dx H', Grow ι H ι' H' → Sim T K mg ι' S' H' → ExR T K mg ι' H' x cls dx → E cls dx H'
structure Cfg (ι : List Addr) (S : Store) (ρ : Loc) (σ : L2.St) (H : Hp) : Prop where
  sim : Sim T K mg ι S H
  loc : LocR T K mg ι H ρ σ
abbrev repE : List Addr → Hp → D → V → Prop := fun ι H => VR T K mg ι H
abbrev repA : List Addr → Hp → List D → List V → Prop := fun ι H => VsR T K mg ι H
end
abbrev repB : List Addr → Hp → Bool → Bool → Prop := fun _ _ a b => a = b
section
variable (T : Tab) (X : Cx) (W : WX)
def tG {α β : Type} (rep : List Addr → Hp → α → β → Prop) (f : Loc → Store → Rs α) (σ : L2.St) (H : Hp) (Q : β → Hp → Prop) : Prop :=
  ∃ ι S ρ, Cfg T X.K X.mg ι S ρ σ H ∧ Post T X.K X.mg (fun c d H' => W c d σ H') rep ι H (f ρ S) Q
abbrev tE (f : Ev) : TE := tG T X W (repE T X.K X.mg) f
abbrev tT (f : Tv) : TT := tG T X W repB f
abbrev tA (f : Av) : TA := tG T X W (repA T X.K X.mg) f
def PostS (ι : List Addr) (H : Hp) (r : Option (Fl × Store)) (Dn : Ends) : Prop :=
  match r with
  | none => False
  | some (.nx ρ', S') => ∀ ι' σ' H', Grow ι H ι' H' → Cfg T X.K X.mg ι' S' ρ' σ' H' → Dn.nx σ' H'
  | some (.bk ρ', S') => ∀ ι' σ' H', Grow ι H ι' H' → Cfg T X.K X.mg ι' S' ρ' σ' H' → Dn.bk σ' H'
  | some (.ct ρ', S') => ∀ ι' σ' H', Grow ι H ι' H' → Cfg T X.K X.mg ι' S' ρ' σ' H' → Dn.ct σ' H'
  | some (.rt d, S') => ∀ ι' v H', Grow ι H ι' H' → Sim T X.K X.mg ι' S' H' → VR T X.K X.mg ι' H' d v → Dn.rt v H'
  | some (.ex x ρ', S') => ∀ ι' cls dx σ' H', Grow ι H ι' H' → Cfg T X.K X.mg ι' S' ρ' σ' H' → ExR T X.K X.mg ι' H' x cls dx → W cls dx σ' H'
def tS (f : Sv) : TS := fun Dn σ H => ∃ ι S ρ, Cfg T X.K X.mg ι S ρ σ H ∧ PostS T X W ι H (f ρ S) Dn
end
section
variable {T : Tab} {K : PySem.W.Frag} {mg : Str → Option Value} {E : XK} {α β γ δ : Type} {rep : List Addr → Hp → α → β → Prop} {rep2 : List Addr → Hp → γ → δ → Prop} {σ : L2.St} {ι ι1 : List Addr} {H H1 : Hp} {S : Store} {ρ : Loc}
theorem Cfg.grow {S1 : Store} (c : Cfg T K mg ι S ρ σ H) (g : Grow ι H ι1 H1) (s : Sim T K mg ι1 S1 H1) : Cfg T K mg ι1 S1 ρ σ H1 := ⟨s, c.loc.grow c.sim g⟩
theorem Post.mono {E' : XK} {r : Rs α} {Q Q' : β → Hp → Prop} (h : Post T K mg E rep ι H r Q) (k : ∀ v H', Q v H' → Q' v H') (e : ∀ c d H', E c d H' → E' c d H') : Post T K mg E' rep ι H r Q' := by
  match r, h with
  | none, h => exact h
  | some (.ok d, S'), h => exact fun ι' v H' g s q => k _ _ (h ι' v H' g s q)
  | some (.error x, S'), h => exact fun ι' c d H' g s q => e _ _ _ (h ι' c d H' g s q)
/-- further on -/
theorem Post.on {r : Rs α} {Q : β → Hp → Prop} (h : Post T K mg E rep ι H r Q) (g : Grow ι H ι1 H1) : Post T K mg E rep ι1 H1 r Q := by
  match r, h with
  | none, h => exact h
  | some (.ok d, S'), h => exact fun ι' v H' g' s q => h ι' v H' (g.trans g') s q
  | some (.error x, S'), h => exact fun ι' c d H' g' s q => h ι' c d H' (g.trans g') s q
/-- the first run of two -/
theorem Post.bnd {m : Rs α} {k : α → Store → Rs γ} {Q : δ → Hp → Prop} (h : Post T K mg E rep2 ι H (bnd m k) Q) :
    Post T K mg E rep ι H m fun v H1 => ∃ ι1 S1 d, Grow ι H ι1 H1 ∧ Sim T K mg ι1 S1 H1 ∧ rep ι1 H1 d v ∧ Post T K mg E rep2 ι1 H1 (k d S1) Q := by
  match m, h with
  | none, h => exact h
  | some (.ok d, S'), h =>
    intro ι' v H' g s q
    exact ⟨ι', S', d, g, s, q, Post.on (show Post T K mg E rep2 ι H (k d S') Q from h) g⟩
  | some (.error x, S'), h => exact h
end
section
variable {X : Cx}
theorem PE.imp {e : Expr} {t t' : TE} (h : PE X e t) (k : ∀ σ H Q, t' σ H Q → t σ H Q) : PE X e t' := ⟨fun pins s σ H Q I q => h.run pins s σ H Q I (k σ H Q q)⟩
theorem PT.imp {e : Expr} {t t' : TT} (h : PT X e t) (k : ∀ σ H Q, t' σ H Q → t σ H Q) : PT X e t' := ⟨fun pins s σ H Q I q => h.run pins s σ H Q I (k σ H Q q)⟩
theorem PW.imp {e : Expr} {t t' : TT} (h : PW X e t) (k : ∀ σ H Q, t' σ H Q → t σ H Q) : PW X e t' := ⟨fun w pins s σ H Q I q => h.run w pins s σ H Q I (k σ H Q q)⟩
theorem PA.imp {e : List Expr} {t t' : TA} (h : PA X e t) (k : ∀ σ H Q, t' σ H Q → t σ H Q) : PA X e t' := ⟨fun pos pins s σ H Q I q => h.run pos pins s σ H Q I (k σ H Q q)⟩
theorem PS.imp {e : Stmt} {t t' : TS} (h : PS X e t) (k : ∀ D σ H, t' D σ H → t D σ H) : PS X e t' := ⟨fun pins s σ H D I q => h.run pins s σ H D I (k D σ H q)⟩
theorem PSs.imp {e : List Stmt} {t t' : TS} (h : PSs X e t) (k : ∀ D σ H, t' D σ H → t D σ H) : PSs X e t' := ⟨fun pins s σ H D I q => h.run pins s σ H D I (k D σ H q)⟩
end
end Dl
set_option Elab.async false
set_option linter.all false
set_option maxRecDepth 100000
set_option maxHeartbeats 2000000
namespace Dl
open PySem PySem.Spec PyProof.Rows L2

/-! ### combinators -/
def eV (i : Nat) : Ev := fun ρ S => match ρ[i]? with
  | some (some d) => ok d S
  | _ => none
def eC (d : D) : Ev := fun _ S => ok d S
def lift {α : Type} (r : Option (α × Store)) : Rs α := match r with
  | none => none
  | some p => some (.ok p.1, p.2)
abbrev Op2 := D → D → Store → Option (D × Store)
abbrev Op1 := D → Store → Option (D × Store)
abbrev OpA := List D → Store → Option (D × Store)
def eBin (g : Op2) (a b : Ev) : Ev := fun ρ S => bnd (a ρ S) fun x S1 => bnd (b ρ S1) fun y S2 => lift (g x y S2)
def eUn (g : Op1) (a : Ev) : Ev := fun ρ S => bnd (a ρ S) fun x S1 => lift (g x S1)
def asB (d : D) (S : Store) : Rs Bool := match d with
  | .bl b => ok b S
  | _ => none
def tV (e : Ev) : Tv := fun ρ S => bnd (e ρ S) asB
def tN (t : Tv) : Tv := fun ρ S => bnd (t ρ S) fun b S1 => ok (!b) S1
def tAn (t u : Tv) : Tv := fun ρ S => bnd (t ρ S) fun b S1 => if b = true then u ρ S1 else ok false S1
def tO (t u : Tv) : Tv := fun ρ S => bnd (t ρ S) fun b S1 => if b = true then ok true S1 else u ρ S1
def eAn (t u : Ev) : Ev := fun ρ S => bnd (t ρ S) fun d S1 => bnd (asB d S1) fun b S2 => if b = true then u ρ S2 else ok (.bl false) S2
def eOr (t u : Ev) : Ev := fun ρ S => bnd (t ρ S) fun d S1 => bnd (asB d S1) fun b S2 => if b = true then ok (.bl true) S2 else u ρ S2
def eNot (t : Ev) : Ev := fun ρ S => bnd (t ρ S) fun d S1 => bnd (asB d S1) fun b S2 => ok (.bl (!b)) S2
def eIf (c : Tv) (a b : Ev) : Ev := fun ρ S => bnd (c ρ S) fun k S1 => if k = true then a ρ S1 else b ρ S1
def aNil : Av := fun _ S => ok [] S
def aCons (e : Ev) (t : Av) : Av := fun ρ S => bnd (e ρ S) fun d S1 => bnd (t ρ S1) fun ds S2 => ok (d :: ds) S2
/-- a built-in's call -/
def eB (g : OpA) (t : Av) : Ev := fun ρ S => bnd (t ρ S) fun ds S1 => lift (g ds S1)
/-- a def's call -/
abbrev Df := List D → Store → Rs D
def eCall (m : Df) (t : Av) : Ev := fun ρ S => bnd (t ρ S) fun ds S1 => m ds S1
def eTup (t : Av) : Ev := fun ρ S => bnd (t ρ S) fun ds S1 => ok (.tup ds) S1
def newL (ds : List D) (S : Store) : Option (D × Store) := some (.ref S.length, S ++ [.lst ds])
def eLst (t : Av) : Ev := fun ρ S => bnd (t ρ S) fun ds S1 => lift (newL ds S1)
/-- a < b < c -/
def eChain (g g' : Op2) (a b c : Ev) : Ev := fun ρ S => bnd (a ρ S) fun x S1 => bnd (b ρ S1) fun y S2 => bnd (lift (g x y S2)) fun z S3 => bnd (asB z S3) fun k S4 => if k = true then bnd (c ρ S4) fun u S5 => lift (g' y u S5) else ok (.bl false) S4

/-! ### values -/
section
variable (T : Tab) (K : PySem.W.Frag) (mg : Str → Option Value)
def PV (ι : List Addr) (H : Hp) (r : Option (D × Store)) (Q : VK) : Prop := match r with
  | none => False
  | some p => ∀ ι' v H', Grow ι H ι' H' → Sim T K mg ι' p.2 H' → VR T K mg ι' H' p.1 v → Q v H'
def rD2 (g : Op2) : R2 := fun x y H Q => ∃ ι S dx dy, Sim T K mg ι S H ∧ VR T K mg ι H dx x ∧ VR T K mg ι H dy y ∧ PV T K mg ι H (g dx dy S) Q
def rD1 (g : Op1) : V → Hp → VK → Prop := fun x H Q => ∃ ι S dx, Sim T K mg ι S H ∧ VR T K mg ι H dx x ∧ PV T K mg ι H (g dx S) Q
def rDA (g : OpA) : List V → Hp → VK → Prop := fun xs H Q => ∃ ι S ds, Sim T K mg ι S H ∧ VsR T K mg ι H ds xs ∧ PV T K mg ι H (g ds S) Q
/-- a method of a list: the receiver, the arguments -/
def rDM (g : D → OpA) : V → List V → Hp → VK → Prop := fun x xs H Q => ∃ ι S dx ds, Sim T K mg ι S H ∧ VR T K mg ι H dx x ∧ VsR T K mg ι H ds xs ∧ PV T K mg ι H (g dx ds S) Q
end
section
variable {T : Tab} {K : PySem.W.Frag} {mg : Str → Option Value} {E : XK} {ι : List Addr} {H : Hp} {S : Store}
theorem Post.pv {r : Option (D × Store)} {Q : VK} (h : Post T K mg E (repE T K mg) ι H (lift r) Q) : PV T K mg ι H r Q := by
  match r, h with
  | none, h => exact h
  | some p, h => exact h
theorem PV.here {d : D} {v : V} {Q : VK} (h : PV T K mg ι H (some (d, S)) Q) (s : Sim T K mg ι S H) (r : VR T K mg ι H d v) : Q v H := h ι v H (Grow.refl _ _) s r
theorem PV.int {i : Int} {Q : VK} (h : PV T K mg ι H (some (.int i, S)) Q) (s : Sim T K mg ι S H) : Q (.int i) H := h.here s (by simp only [VR])
theorem PV.bl {i : Bool} {Q : VK} (h : PV T K mg ι H (some (.bl i, S)) Q) (s : Sim T K mg ι S H) : Q (.bl i) H := h.here s (by simp only [VR])
theorem PV.str {i : Str} {Q : VK} (h : PV T K mg ι H (some (.str i, S)) Q) (s : Sim T K mg ι S H) : Q (.str i) H := h.here s (by simp only [VR])
theorem PV.non {Q : VK} (h : PV T K mg ι H (some (.non, S)) Q) (s : Sim T K mg ι S H) : Q .non H := h.here s (by simp only [VR])
/-- a new tuple -/
theorem PV.tup {ds : List D} {vs : List V} {Q : VK} (h : PV T K mg ι H (some (.tup ds, S)) Q) (s : Sim T K mg ι S H) (r : VsR T K mg ι H ds vs) {p : Addr} {o : Obj} (hp : H p = none) (hd : o.dict = none) : Q (.ref p) (upd H p (.frz o (.tup vs))) := by
  refine h ι _ _ (Grow.laid hp) (s.laid hp) ?_
  simp only [VR]
  exact ⟨p, vs, rfl, .inl ⟨o, upd_same, hd⟩, r.grow s (Grow.laid hp)⟩
/-- a new list -/
theorem PV.lst {ds : List D} {vs : List V} {Q : VK} (h : PV T K mg ι H (newL ds S) Q) (s : Sim T K mg ι S H) (r : VsR T K mg ι H ds vs) {p : Addr} (hp : H p = none) : Q (.ref p) (upd H p (.lst vs)) := by
  refine h (ι ++ [p]) _ _ (Grow.lst hp) (s.lst hp r) ?_
  simp only [VR]
  exact ⟨p, by rw [← s.len]; simp, rfl⟩
/-- an integer stands for an integer -/
theorem VR.int_ {d : D} {i : Int} (h : VR T K mg ι H d (.int i)) : d = .int i := by
  cases d <;> simp only [VR] at h <;> first | (injection h with h; rw [h]) | (cases h; done) | (obtain ⟨_, _, h, _⟩ := h; cases h) | (obtain ⟨_, _, h⟩ := h; cases h)
end

/-! ### the rules -/
section
variable {T : Tab} {X : Cx} {W : WX} {a b c : Expr} {pos : Pos}
theorem de_v {i : Nat} {x : Str} (hN : X.N[i]? = some x) (hv : Vis X.env.scope x) (hd : (x == ("__debug__" : Str)) = false := by decide) (hcd : (x == ("__classdict__" : Str)) = false := by decide) : PE X (.Name x pos) (tE T X W (eV i)) :=
  PE.imp (pe_var hN hv hd hcd) fun σ H Q h => by
    obtain ⟨ι, S, ρ, cf, p⟩ := h
    unfold eV at p
    cases e : ρ[i]? with
    | none => rw [e] at p; exact p.elim
    | some o =>
      cases o with
      | none => rw [e] at p; exact p.elim
      | some d =>
        rw [e] at p
        obtain ⟨v, e1, r⟩ := cf.loc.2 i d e
        exact ⟨v, e1, p ι v H (Grow.refl _ _) cf.sim r⟩
theorem de_c {d : D} {v : V} (h : PE X a (tC v)) (r : ∀ ι H, VR T X.K X.mg ι H d v) : PE X a (tE T X W (eC d)) :=
  PE.imp h fun σ H Q h => by
    obtain ⟨ι, S, ρ, cf, p⟩ := h
    exact p ι v H (Grow.refl _ _) cf.sim (r ι H)
theorem de_int {i : Int} {j : Nat} : PE X (.Constant (.int i) j pos) (tE T X W (eC (.int i))) := de_c pe_int fun _ _ => by simp only [VR]
theorem de_bl {i : Bool} {j : Nat} : PE X (.Constant (.bool i) j pos) (tE T X W (eC (.bl i))) := de_c pe_bl fun _ _ => by simp only [VR]
theorem de_str {i : Str} {j : Nat} : PE X (.Constant (.str i) j pos) (tE T X W (eC (.str i))) := de_c pe_str fun _ _ => by simp only [VR]
theorem de_non {j : Nat} : PE X (.Constant .none j pos) (tE T X W (eC .non)) := de_c pe_non fun _ _ => by simp only [VR]
/-- a module's constant int -/
theorem de_gint {x : Str} {i : Int} {t : Tok} (hg : Gl X x) (hm : X.mg x = some (.int i t)) (hd : (x == ("__debug__" : Str)) = false := by decide) : PE X (.Name x pos) (tE T X W (eC (.int i))) := de_c (pe_glob hg hm (v := .int i) ⟨t, rfl⟩ hd) fun _ _ => by simp only [VR]
/-- a def as a value -/
theorem de_gl {x : Str} {k : Nat} {f : Addr} (hg : Gl X x) (hm : X.mg x = some (.ref f)) (hk : T.glo k = x) (hd : (x == ("__debug__" : Str)) = false := by decide) : PE X (.Name x pos) (tE T X W (eC (.gl k))) :=
  de_c (pe_glob hg hm (v := .ref f) rfl hd) fun _ _ => by simp only [VR]; exact ⟨f, by rw [hk]; exact hm, rfl⟩
/-- two in a row -/
theorem two {g : Op2} {r : R2} {fa fb : Ev} (hr : ∀ x y H Q, rD2 T X.K X.mg g x y H Q → r x y H Q) (σ : L2.St) (H : Hp) (Q : VK) (h : tE T X W (eBin g fa fb) σ H Q) : tOp r (tE T X W fa) (tE T X W fb) σ H Q := by
  obtain ⟨ι, S, ρ, cf, p⟩ := h
  refine ⟨ι, S, ρ, cf, (Post.bnd p).mono (fun x H1 q => ?_) fun _ _ _ e => e⟩
  obtain ⟨ι1, S1, d, g1, s1, r1, p1⟩ := q
  refine ⟨ι1, S1, ρ, cf.grow g1 s1, (Post.bnd p1).mono (fun y H2 q => ?_) fun _ _ _ e => e⟩
  obtain ⟨ι2, S2, d2, g2, s2, r2, p2⟩ := q
  exact hr x y H2 Q ⟨ι2, S2, d, d2, s2, VR.grow s1 g2 r1, r2, p2.pv⟩
theorem de_bin {op : Operator} {g : Op2} {fa fb : Ev} (ho : OpR X (binaryOp op) (rD2 T X.K X.mg g)) (ha : PE X a (tE T X W fa)) (hb : PE X b (tE T X W fb)) : PE X (.BinOp a op b pos) (tE T X W (eBin g fa fb)) :=
  PE.imp (pe_op ho ha hb) (two fun _ _ _ _ h => h)
theorem de_cmp {op : CmpOp} {g : Op2} {fa fb : Ev} (ho : OpR X (compareOp op) (rD2 T X.K X.mg g)) (ha : PE X a (tE T X W fa)) (hb : PE X b (tE T X W fb)) (hm : behindInMarks op b = false := by first | exact nomark _ | rfl) : PE X (.Compare a [op] [b] pos) (tE T X W (eBin g fa fb)) :=
  PE.imp (pe_cmpR ho ha hb hm) (two fun _ _ _ _ h => h)
theorem tV_test {f : Ev} {t : TE} (k : ∀ σ H Q, tE T X W f σ H Q → t σ H Q) (σ : L2.St) (H : Hp) (Q : Bool → Hp → Prop) (h : tT T X W (tV f) σ H Q) : tTest t σ H Q := by
  obtain ⟨ι, S, ρ, cf, p⟩ := h
  refine k σ H _ ⟨ι, S, ρ, cf, (Post.bnd p).mono (fun x H1 q => ?_) fun _ _ _ e => e⟩
  obtain ⟨ι1, S1, d, g1, s1, r1, p1⟩ := q
  cases d <;> first | exact p1.elim | skip
  case bl b =>
    simp only [repE, VR] at r1
    exact ⟨b, r1, p1 ι1 b H1 (Grow.refl _ _) s1 rfl⟩
theorem dt_cmp {op : CmpOp} {g : Op2} {fa fb : Ev} (ho : OpR X (compareOp op) (rD2 T X.K X.mg g)) (ha : PE X a (tE T X W fa)) (hb : PE X b (tE T X W fb)) (hm : behindInMarks op b = false := by first | exact nomark _ | rfl) : PT X (.Compare a [op] [b] pos) (tT T X W (tV (eBin g fa fb))) :=
  PT.imp (pt_cmpR ho ha hb hm) (tV_test (two fun _ _ _ _ h => h))
theorem dt_v {f : Ev} {e : Expr} (h : PE X e (tE T X W f)) (he : ∀ whole, isTrue e X.env whole = (do let v ← whole; standAt e.pos; holding [v] (truthy v)) := by intro _; rfl) : PT X e (tT T X W (tV f)) :=
  PT.imp (pt_val h he) fun σ H Q q => tV_test (t := tE T X W f) (fun _ _ _ z => z) σ H Q q
theorem de_un {op : UnaryOp} {g : Op1} {fa : Ev} (ho : UnR X (unaryOp op) (rD1 T X.K X.mg g)) (ha : PE X a (tE T X W fa)) : PE X (.UnaryOp op a pos) (tE T X W (eUn g fa)) :=
  PE.imp (pe_un ho ha) fun σ H Q h => by
    obtain ⟨ι, S, ρ, cf, p⟩ := h
    refine ⟨ι, S, ρ, cf, (Post.bnd p).mono (fun x H1 q => ?_) fun _ _ _ e => e⟩
    obtain ⟨ι1, S1, d, g1, s1, r1, p1⟩ := q
    exact ⟨ι1, S1, d, s1, r1, p1.pv⟩
/-! tests -/
theorem dt_not {t : Tv} (h : PT X a (tT T X W t)) : PT X (.UnaryOp .Not a pos) (tT T X W (tN t)) :=
  PT.imp (pt_not h) fun σ H Q q => by
    obtain ⟨ι, S, ρ, cf, p⟩ := q
    refine ⟨ι, S, ρ, cf, (Post.bnd p).mono (fun x H1 q => ?_) fun _ _ _ e => e⟩
    obtain ⟨ι1, S1, d, g1, s1, r1, p1⟩ := q
    have e : d = x := r1
    subst e
    exact p1 ι1 _ H1 (Grow.refl _ _) s1 rfl
variable {rest : List Expr}
theorem dw_and1 {t : Tv} (h : PT X a (tT T X W t)) : PW X (.BoolOp .And [a] pos) (tT T X W t) := pw_and1 h
theorem dw_or1 {t : Tv} (h : PT X a (tT T X W t)) : PW X (.BoolOp .Or [a] pos) (tT T X W t) := pw_or1 h
theorem dw_and {t u : Tv} (h : PT X a (tT T X W t)) (k : PW X (.BoolOp .And (b :: rest) pos) (tT T X W u)) : PW X (.BoolOp .And (a :: b :: rest) pos) (tT T X W (tAn t u)) :=
  PW.imp (pw_and h k) fun σ H Q q => by
    obtain ⟨ι, S, ρ, cf, p⟩ := q
    refine ⟨ι, S, ρ, cf, (Post.bnd p).mono (fun x H1 q => ?_) fun _ _ _ e => e⟩
    obtain ⟨ι1, S1, d, g1, s1, r1, p1⟩ := q
    have e : d = x := r1
    subst e
    cases d with
    | true => rw [if_pos rfl] at p1 ⊢; exact ⟨ι1, S1, ρ, cf.grow g1 s1, p1⟩
    | false => rw [if_neg (by decide)] at p1 ⊢; exact p1 ι1 _ H1 (Grow.refl _ _) s1 rfl
theorem dw_or {t u : Tv} (h : PT X a (tT T X W t)) (k : PW X (.BoolOp .Or (b :: rest) pos) (tT T X W u)) : PW X (.BoolOp .Or (a :: b :: rest) pos) (tT T X W (tO t u)) :=
  PW.imp (pw_or h k) fun σ H Q q => by
    obtain ⟨ι, S, ρ, cf, p⟩ := q
    refine ⟨ι, S, ρ, cf, (Post.bnd p).mono (fun x H1 q => ?_) fun _ _ _ e => e⟩
    obtain ⟨ι1, S1, d, g1, s1, r1, p1⟩ := q
    have e : d = x := r1
    subst e
    cases d with
    | true => rw [if_pos rfl] at p1 ⊢; exact p1 ι1 _ H1 (Grow.refl _ _) s1 rfl
    | false => rw [if_neg (by decide)] at p1 ⊢; exact ⟨ι1, S1, ρ, cf.grow g1 s1, p1⟩
theorem dt_w {t : Tv} {e : Expr} (h : PW X e (tT T X W t)) : PT X e (tT T X W t) := h.pt
theorem de_if {t : Tv} {fa fb : Ev} (h : PT X c (tT T X W t)) (ha : PE X a (tE T X W fa)) (hb : PE X b (tE T X W fb)) : PE X (.IfExp c a b pos) (tE T X W (eIf t fa fb)) :=
  PE.imp (pe_ifExp h ha hb) fun σ H Q q => by
    obtain ⟨ι, S, ρ, cf, p⟩ := q
    refine ⟨ι, S, ρ, cf, (Post.bnd p).mono (fun x H1 q => ?_) fun _ _ _ e => e⟩
    obtain ⟨ι1, S1, d, g1, s1, r1, p1⟩ := q
    have e : d = x := r1
    subst e
    cases d with
    | true => rw [if_pos rfl] at p1 ⊢; exact ⟨ι1, S1, ρ, cf.grow g1 s1, p1⟩
    | false => rw [if_neg (by decide)] at p1 ⊢; exact ⟨ι1, S1, ρ, cf.grow g1 s1, p1⟩
/-! arguments, calls -/
theorem da_nil : PA X [] (tA T X W aNil) := PA.imp pa_nil fun σ H Q q => by
  obtain ⟨ι, S, ρ, cf, p⟩ := q
  exact p ι [] H (Grow.refl _ _) cf.sim VsR.nil
theorem da_cons {e : Expr} {es : List Expr} {f : Ev} {t : Av} (h : PE X e (tE T X W f)) (k : PA X es (tA T X W t)) (hs : starEach (e :: es) X.env = (false, eval e X.env) :: starEach es X.env := by rfl) : PA X (e :: es) (tA T X W (aCons f t)) :=
  PA.imp (pa_cons h k hs) fun σ H Q q => by
    obtain ⟨ι, S, ρ, cf, p⟩ := q
    refine ⟨ι, S, ρ, cf, (Post.bnd p).mono (fun x H1 q => ?_) fun _ _ _ e => e⟩
    obtain ⟨ι1, S1, d, g1, s1, r1, p1⟩ := q
    refine ⟨ι1, S1, ρ, cf.grow g1 s1, (Post.bnd p1).mono (fun y H2 q => ?_) fun _ _ _ e => e⟩
    obtain ⟨ι2, S2, ds, g2, s2, r2, p2⟩ := q
    exact p2 ι2 _ H2 (Grow.refl _ _) s2 (VsR.cons (VR.grow s1 g2 r1) r2)
theorem ar1 {g : OpA} {t : Av} {r : List V → Hp → VK → Prop} (hr : ∀ xs H Q, rDA T X.K X.mg g xs H Q → r xs H Q) (σ : L2.St) (H : Hp) (Q : VK) (h : tE T X W (eB g t) σ H Q) : tCB r (tA T X W t) σ H Q := by
  obtain ⟨ι, S, ρ, cf, p⟩ := h
  refine ⟨ι, S, ρ, cf, (Post.bnd p).mono (fun x H1 q => ?_) fun _ _ _ e => e⟩
  obtain ⟨ι1, S1, d, g1, s1, r1, p1⟩ := q
  exact hr x H1 Q ⟨ι1, S1, d, s1, r1, p1.pv⟩
/-- a built-in by its name; a built-in class -/
theorem de_b {id : String} {x : Str} {g : OpA} {e : Expr} {es : List Expr} {t : Av} {p : Pos} (hc : CallR X (.builtin id) (rDA T X.K X.mg g)) (hg : Gl X x) (hm : X.mg x = none) (hv : bootBuiltins x = some (.builtin id)) (ha : PA X (e :: es) (tA T X W t)) (hn : x ≠ "__name__" := by decide) (hdb : (x == ("__debug__" : Str)) = false := by decide)
    (h1 : starEach (e :: es) X.env = (false, eval e X.env) :: starEach es X.env := by rfl) (h2 : (backTo pos (starEach es X.env)).any (·.1) = false := by rfl) : PE X (.Call (.Name x p) (e :: es) [] pos) (tE T X W (eB g t)) :=
  PE.imp (pe_callB hc hg hm hv ha hn hdb h1 h2) (ar1 fun _ _ _ h => h)
theorem de_ty {id : String} {x : Str} {g : OpA} {e : Expr} {es : List Expr} {t : Av} {p : Pos} (hc : CallR X (.type id) (rDA T X.K X.mg g)) (hg : Gl X x) (hm : X.mg x = none) (hv : bootBuiltins x = some (.type id)) (ha : PA X (e :: es) (tA T X W t)) (hn : x ≠ "__name__" := by decide) (hdb : (x == ("__debug__" : Str)) = false := by decide)
    (h1 : starEach (e :: es) X.env = (false, eval e X.env) :: starEach es X.env := by rfl) (h2 : (backTo pos (starEach es X.env)).any (·.1) = false := by rfl) : PE X (.Call (.Name x p) (e :: es) [] pos) (tE T X W (eB g t)) :=
  PE.imp (pe_callTy hc hg hm hv ha hn hdb h1 h2) (ar1 fun _ _ _ h => h)
theorem sz_ (n : Nat) (h : n ≤ 100 := by decide) : n ≤ sizeLine := by rw [sizeLine_eq]; omega
/-- a new tuple, known to the object -/
def tTupF (t : TA) : TE := fun σ H Q => t σ H fun xs H1 => xs.length ≤ sizeLine ∧ ∀ p o, H1 p = none → o.dict = none → Q (.ref p) (upd H1 p (.frz o (.tup xs)))
theorem tup_laid {pins : List (Addr × Obj)} {σ : L2.St} {H : Hp} {s : Shared} {vs : List V} {us : List Value} {Q : VK} {h' : Heap} {p : Addr} {o : Obj} {tk : Nat} (I : Inv X pins σ H s) (r : Vals vs us) (hz : vs.length ≤ sizeLine)
    (k : ∀ b u, s.heap.get? b = some u → h'.get? b = some u) (hp : s.heap.objs.size ≤ p) (e : h'.get? p = some o) (hc : o.cls = .type "tuple") (hd : o.dict = none) (n : Nat) (hs : o.data = .seq us.toArray n)
    (q : ∀ o : Obj, H p = none → o.dict = none → Q (.ref p) (upd H p (.frz o (.tup vs)))) : EP X pins σ Q (.ref p) { s with heap := h', toks := tk } :=
  ⟨.ref p, upd H p (.frz o (.tup vs)), I.laid k hp ⟨e, hz, us, r, o, e, hc, n, hs⟩, rfl, q o (I.hok.fresh hp) hd⟩
theorem pe_tupF {es : List Expr} {t : TA} {x1 : Nat} (h : PA X es t) : PE X (.Tuple es x1 pos) (tTupF t) := by
  refine ⟨fun pins s σ H Q I hw => ?_⟩
  exact wpAny_Tuple_spliced (thn (h.run pos pins s σ H _ I hw) fun us s1 ⟨xs, H1, I1, r, z, q⟩ => ⟨by rw [← r.length]; exact z, tup_laid (tk := s1.toks) I1 r z (fun b u e => Heap.get?_push_of_some _ e) (Nat.le_refl _) (Heap.get?_push_size _ rfl) rfl rfl _ rfl (q _)⟩)
/-- displays -/
theorem de_tup {es : List Expr} {t : Av} {x1 : Nat} (h : PA X es (tA T X W t)) (hl : es.length ≤ 100) (hlen : ∀ ρ S ds S', t ρ S = some (.ok ds, S') → ds.length = es.length) : PE X (.Tuple es x1 pos) (tE T X W (eTup t)) :=
  PE.imp (pe_tupF h) fun σ H Q q => by
    obtain ⟨ι, S, ρ, cf, p⟩ := q
    refine ⟨ι, S, ρ, cf, ?_⟩
    unfold eTup at p
    match e : t ρ S, p with
    | none, p => exact p
    | some (.error x, S'), p => exact p
    | some (.ok d, S'), p =>
      intro ι1 vs H1 g1 s1 r1
      have p1 : Post T X.K X.mg (fun c d H' => W c d σ H') (repE T X.K X.mg) ι1 H1 (lift (some (D.tup d, S'))) Q := Post.on p g1
      refine ⟨?_, fun a o ha hd => p1.pv.tup s1 r1 ha hd⟩
      have := hlen ρ S d S' e
      have l : vs.length = d.length := VsR.length r1
      rw [sizeLine_eq]; omega
theorem de_lst {es : List Expr} {t : Av} (h : PA X es (tA T X W t)) (hl : es.length ≤ 100) (hlen : ∀ ρ S ds S', t ρ S = some (.ok ds, S') → ds.length = es.length) : PE X (.List es pos) (tE T X W (eLst t)) :=
  PE.imp (pe_lst h) fun σ H Q q => by
    obtain ⟨ι, S, ρ, cf, p⟩ := q
    refine ⟨ι, S, ρ, cf, ?_⟩
    unfold eLst at p
    match e : t ρ S, p with
    | none, p => exact p
    | some (.error x, S'), p => exact p
    | some (.ok d, S'), p =>
      intro ι1 vs H1 g1 s1 r1
      have p1 : Post T X.K X.mg (fun c d H' => W c d σ H') (repE T X.K X.mg) ι1 H1 (lift (newL d S')) Q := Post.on p g1
      refine ⟨?_, fun a ha => p1.pv.lst s1 r1 ha⟩
      have := hlen ρ S d S' e
      have l : vs.length = d.length := VsR.length r1
      rw [sizeLine_eq]; omega
/-- how many there are -/
inductive Ln : Av → Nat → Prop
  | nil : Ln aNil 0
  | cons {f : Ev} {t : Av} {n : Nat} : Ln t n → Ln (aCons f t) (n + 1)
theorem Ln.ok {t : Av} {n : Nat} (h : Ln t n) : ∀ ρ S ds S', t ρ S = some (.ok ds, S') → ds.length = n := by
  induction h with
  | nil => intro ρ S ds S' e; cases e; rfl
  | @cons f t n _ ih =>
    intro ρ S ds S' e
    unfold aCons at e
    match e1 : f ρ S, e with
    | some (.ok d, S1), e =>
      have e' : bnd (t ρ S1) (fun ds S2 => Dl.ok (d :: ds) S2) = some (.ok ds, S') := e
      match e2 : t ρ S1, e' with
      | some (.ok ds2, S2), e' =>
        have := ih ρ S1 ds2 S2 e2
        cases e'
        simp [this]
/-! ### calls of defs, methods, classes -/
/-- a def's promise: it does what the Lean function does -/
def spD (T : Tab) (K : PySem.W.Frag) (mg : Str → Option Value) (n : Nat) (m : Df) : Sp := fun vs H Q E => vs.length = n ∧ ∃ ι S ds, Sim T K mg ι S H ∧ VsR T K mg ι H ds vs ∧ Post T K mg E (repE T K mg) ι H (m ds S) Q
theorem de_call {k n : Nat} {f : Addr} {fd : FuncData} {ps : List Str} {m : Df} {x : Str} {p : Pos} {e : Expr} {es : List Expr} {t : Av} (F : FnOk X.prog X.w X.K X.mg X.base (CX X.prog X.w) k f fd ps (spD T X.K X.mg n m)) (hr : Room k X.A) (hg : Gl X x) (hm : X.mg x = some (.ref f))
    (hk : PySem.W.keepIn X.K (.ref f) = true) (hb : Binds X.K fd ps []) (tk : Takes X W) (ha : PA X (e :: es) (tA T X W t)) (hl : Ln t n) (hdb : (x == ("__debug__" : Str)) = false := by decide)
    (he : starEach (e :: es) X.env = (false, eval e X.env) :: starEach es X.env := by rfl) (hpl : (backTo pos (starEach es X.env)).any (·.1) = false := by rfl) : PE X (.Call (.Name x p) (e :: es) [] pos) (tE T X W (eCall m t)) :=
  PE.imp (pe_callS F hr hg hm hk hb (fun σ => passAt tk σ) ha hdb he hpl) fun σ H Q q => by
    obtain ⟨ι, S, ρ, cf, p⟩ := q
    refine ⟨ι, S, ρ, cf, ?_⟩
    unfold eCall at p
    match e : t ρ S, p with
    | none, p => exact p
    | some (.error x, S'), p => exact p
    | some (.ok d, S'), p =>
      intro ι1 vs H1 g1 s1 r1
      exact ⟨(VsR.length r1).trans (hl.ok _ _ _ _ e), ι1, S', d, s1, r1, Post.on (show Post T X.K X.mg _ (repE T X.K X.mg) ι H (m d S') Q from p) g1⟩
/-! ### statements -/
def sSeq (a b : Sv) : Sv := fun ρ S => match a ρ S with
  | some (.nx ρ', S') => b ρ' S'
  | r => r
def sNil : Sv := fun ρ S => some (.nx ρ, S)
/-- from an expression -/
def run {α : Type} (m : Rs α) (ρ : Loc) (k : α → Store → Option (Fl × Store)) : Option (Fl × Store) := match m with
  | none => none
  | some (.error x, S) => some (.ex x ρ, S)
  | some (.ok a, S) => k a S
/-- a target takes a value -/
abbrev Tg := D → Loc → Store → Option Loc
def gN (i : Nat) : Tg := fun d ρ _ => some (ρ.set i (some d))
def sSet (g : Tg) (e : Ev) : Sv := fun ρ S => run (e ρ S) ρ fun d S1 => match g d ρ S1 with
  | some ρ' => some (.nx ρ', S1)
  | none => none
def sEx (e : Ev) : Sv := fun ρ S => run (e ρ S) ρ fun _ S1 => some (.nx ρ, S1)
def sRet (e : Ev) : Sv := fun ρ S => run (e ρ S) ρ fun d S1 => some (.rt d, S1)
def sIf (c : Tv) (a b : Sv) : Sv := fun ρ S => run (c ρ S) ρ fun k S1 => if k = true then a ρ S1 else b ρ S1
def sNever : Sv := fun _ _ => none
variable {st : Stmt} {sts : List Stmt} {u v : Sv}
theorem PostS.on {ι ι1 : List Addr} {H H1 : Hp} {r : Option (Fl × Store)} {Dn : Ends} (h : PostS T X W ι H r Dn) (g : Grow ι H ι1 H1) : PostS T X W ι1 H1 r Dn := by
  match r, h with
  | none, h => exact h
  | some (.nx ρ, S), h => exact fun ι' σ' H' g' c => h ι' σ' H' (g.trans g') c
  | some (.bk ρ, S), h => exact fun ι' σ' H' g' c => h ι' σ' H' (g.trans g') c
  | some (.ct ρ, S), h => exact fun ι' σ' H' g' c => h ι' σ' H' (g.trans g') c
  | some (.rt d, S), h => exact fun ι' v H' g' s r => h ι' v H' (g.trans g') s r
  | some (.ex x ρ, S), h => exact fun ι' c dx σ' H' g' cf q => h ι' c dx σ' H' (g.trans g') cf q
theorem PostS.run {α β : Type} {rep : List Addr → Hp → α → β → Prop} {ι : List Addr} {H : Hp} {S : Store} {ρ : Loc} {σ : L2.St} {m : Rs α} {k : α → Store → Option (Fl × Store)} {Dn : Ends} (cf : Cfg T X.K X.mg ι S ρ σ H) (h : PostS T X W ι H (Dl.run m ρ k) Dn) :
    Post T X.K X.mg (fun c d H' => W c d σ H') rep ι H m fun v H1 => ∃ ι1 S1 d, Grow ι H ι1 H1 ∧ Cfg T X.K X.mg ι1 S1 ρ σ H1 ∧ rep ι1 H1 d v ∧ PostS T X W ι1 H1 (k d S1) Dn := by
  match m, h with
  | none, h => exact h
  | some (.ok d, S'), h =>
    intro ι' v H' g s q
    exact ⟨ι', S', d, g, cf.grow g s, q, PostS.on (show PostS T X W ι H (k d S') Dn from h) g⟩
  | some (.error x, S'), h => exact fun ι' c dx H' g s q => h ι' c dx σ H' g (cf.grow g s) q
theorem ds_cons (h : PS X st (tS T X W u)) (k : PSs X sts (tS T X W v)) : PSs X (st :: sts) (tS T X W (sSeq u v)) :=
  PSs.imp (pss_cons h k) fun Dn σ H q => by
    obtain ⟨ι, S, ρ, cf, p⟩ := q
    refine ⟨ι, S, ρ, cf, ?_⟩
    unfold sSeq at p
    match e : u ρ S, p with
    | none, p => exact p
    | some (.nx ρ', S'), p => exact fun ι' σ' H' g c => ⟨ι', S', ρ', c, PostS.on p g⟩
    | some (.bk ρ', S'), p => exact p
    | some (.ct ρ', S'), p => exact p
    | some (.rt d, S'), p => exact p
    | some (.ex x ρ', S'), p => exact p
theorem ds_one (h : PS X st (tS T X W u)) : PSs X [st] (tS T X W u) := pss_one h
theorem ds_nil : PSs X [] (tS T X W sNil) := PSs.imp pss_nil fun Dn σ H q => by
  obtain ⟨ι, S, ρ, cf, p⟩ := q
  exact p ι σ H (Grow.refl _ _) cf
theorem d_pass : PS X (.Pass pos) (tS T X W sNil) := PS.imp ps_pass fun Dn σ H q => by
  obtain ⟨ι, S, ρ, cf, p⟩ := q
  exact p ι σ H (Grow.refl _ _) cf
theorem d_never : PS X st (tS T X W sNever) := PS.imp ps_never fun Dn σ H q => by
  obtain ⟨ι, S, ρ, cf, p⟩ := q
  exact p.elim
theorem ds_never : PSs X sts (tS T X W sNever) := PSs.imp pss_never fun Dn σ H q => by
  obtain ⟨ι, S, ρ, cf, p⟩ := q
  exact p.elim
theorem d_expr {e : Expr} {f : Ev} (h : PE X e (tE T X W f)) (hs : swapsWith e none pos.line X.env = pure false := by rfl) : PS X (.Expr e pos) (tS T X W (sEx f)) :=
  PS.imp (ps_expr h hs) fun Dn σ H q => by
    obtain ⟨ι, S, ρ, cf, p⟩ := q
    refine ⟨ι, S, ρ, cf, (PostS.run cf p).mono (fun x H1 q => ?_) fun _ _ _ e => e⟩
    obtain ⟨ι1, S1, d, g1, c1, r1, p1⟩ := q
    exact p1 ι1 σ H1 (Grow.refl _ _) c1
theorem d_ret {e : Expr} {f : Ev} (h : PE X e (tE T X W f)) : PS X (.Return (some e) pos) (tS T X W (sRet f)) :=
  PS.imp (ps_ret h) fun Dn σ H q => by
    obtain ⟨ι, S, ρ, cf, p⟩ := q
    refine ⟨ι, S, ρ, cf, (PostS.run cf p).mono (fun x H1 q => ?_) fun _ _ _ e => e⟩
    obtain ⟨ι1, S1, d, g1, c1, r1, p1⟩ := q
    exact p1 ι1 x H1 (Grow.refl _ _) c1.sim r1
theorem d_if {c : Expr} {as bs : List Stmt} {t : Tv} (h : PT X c (tT T X W t)) (ha : PSs X as (tS T X W u)) (hb : PSs X bs (tS T X W v)) : PS X (.If c as bs pos) (tS T X W (sIf t u v)) :=
  PS.imp (ps_if h ha hb) fun Dn σ H q => by
    obtain ⟨ι, S, ρ, cf, p⟩ := q
    refine ⟨ι, S, ρ, cf, (PostS.run cf p).mono (fun x H1 q => ?_) fun _ _ _ e => e⟩
    obtain ⟨ι1, S1, d, g1, c1, r1, p1⟩ := q
    have e : d = x := r1
    subst e
    cases d with
    | true => rw [if_pos rfl] at p1 ⊢; exact ⟨ι1, S1, ρ, c1, p1⟩
    | false => rw [if_neg (by decide)] at p1 ⊢; exact ⟨ι1, S1, ρ, c1, p1⟩
/-! targets -/
/-- what a target's taking leaves -/
def Same (is : List Nat) (σ σ' : L2.St) : Prop := σ'.length = σ.length ∧ ∀ j : Nat, j ∉ is → σ'[j]? = σ[j]?
def tgD (T : Tab) (X : Cx) (is : List Nat) (g : Tg) : TG := fun v σ H Q => ∃ ι S ρ d, Cfg T X.K X.mg ι S ρ σ H ∧ VR T X.K X.mg ι H d v ∧ match g d ρ S with
  | none => False
  | some ρ' => ∀ σ', Cfg T X.K X.mg ι S ρ' σ' H → Same is σ σ' → Q σ' H
theorem PG.imp {e : Expr} {t t' : TG} (h : PG X e t) (k : ∀ v σ H Q, t' v σ H Q → t v σ H Q) : PG X e t' := ⟨fun pins s σ H v u Q I r q => h.run pins s σ H v u Q I r (k v σ H Q q)⟩
theorem PGs.imp {e : List Expr} {t t' : TGs} (h : PGs X e t) (k : ∀ v σ H Q, t' v σ H Q → t v σ H Q) : PGs X e t' := ⟨fun pins s σ H v u Q I r q => h.run pins s σ H v u Q I r (k v σ H Q q)⟩
theorem dg_name {i : Nat} {x : Str} (hN : X.N.Nodup) (hi : X.N[i]? = some x) (hx : L2.Loc X.env.scope x) (hf : X.fn x = true ∨ X.env.scope.names.lookup x = some .local := by first | exact .inl rfl | exact .inr rfl | assumption) : PG X (.Name x pos) (tgD T X [i] (gN i)) :=
  PG.imp (pg_name hN hi hx hf) fun v σ H Q q => by
    obtain ⟨ι, S, ρ, d, cf, r, p⟩ := q
    exact p _ ⟨cf.sim, cf.loc.set r i⟩ ⟨by simp, fun j hj => List.getElem?_set_ne fun e => hj (by simp [e])⟩
/-- several targets -/
abbrev Tgs := List D → Loc → Store → Option Loc
def gsNil : Tgs := fun ds ρ _ => match ds with
  | [] => some ρ
  | _ => none
def gsCons (g : Tg) (gs : Tgs) : Tgs := fun ds ρ S => match ds with
  | d :: r => match g d ρ S with
    | some ρ' => gs r ρ' S
    | none => none
  | [] => none
def gSeq (gs : Tgs) : Tg := fun d ρ S => match d with
  | .tup ds => gs ds ρ S
  | .wtup ds => gs ds ρ S
  | .ref c => match S[c]? with
    | some (.lst ds) => gs ds ρ S
    | _ => none
  | _ => none
def tgsD (T : Tab) (X : Cx) (is : List Nat) (gs : Tgs) : TGs := fun vs σ H Q => ∃ ι S ρ ds, Cfg T X.K X.mg ι S ρ σ H ∧ VsR T X.K X.mg ι H ds vs ∧ match gs ds ρ S with
  | none => False
  | some ρ' => ∀ σ', Cfg T X.K X.mg ι S ρ' σ' H → Same is σ σ' → Q σ' H
theorem dgs_nil : PGs X [] (tgsD T X [] gsNil) := PGs.imp pgs_nil fun vs σ H Q q => by
  obtain ⟨ι, S, ρ, ds, cf, r, p⟩ := q
  cases ds with
  | nil => simp only [VsR] at r; exact ⟨r, p σ cf ⟨rfl, fun _ _ => rfl⟩⟩
  | cons d r => exact p.elim
theorem dgs_cons {e : Expr} {es : List Expr} {g : Tg} {gs : Tgs} {is js : List Nat} (h : PG X e (tgD T X is g)) (k : PGs X es (tgsD T X js gs)) (hs : (assignEach (e :: es) X.env).map (·.2) = assign e X.env :: (assignEach es X.env).map (·.2) := by rfl) : PGs X (e :: es) (tgsD T X (is ++ js) (gsCons g gs)) :=
  PGs.imp (pgs_cons h k hs) fun vs σ H Q q => by
    obtain ⟨ι, S, ρ, ds, cf, r, p⟩ := q
    cases ds with
    | nil => exact p.elim
    | cons d r2 =>
      simp only [VsR] at r
      obtain ⟨v, vr, rfl, r1, r3⟩ := r
      refine ⟨v, vr, rfl, ι, S, ρ, d, cf, r1, ?_⟩
      unfold gsCons at p
      dsimp only at p
      match e : g d ρ S, p with
      | none, p => exact p
      | some ρ', p =>
        refine fun σ' c' s1 => ⟨ι, S, ρ', r2, c', r3, ?_⟩
        dsimp only at p
        match e2 : gs r2 ρ' S, p with
        | none, p => exact p
        | some ρ2, p => exact fun σ2 c2 s2 => p σ2 c2 ⟨s2.1.trans s1.1, fun j hj => (s2.2 j fun z => hj (List.mem_append_right _ z)).trans (s1.2 j fun z => hj (List.mem_append_left _ z))⟩
theorem PG.or {e : Expr} {t t' : TG} (h : PG X e t) (h' : PG X e t') : PG X e (fun v σ H Q => t v σ H Q ∨ t' v σ H Q) := ⟨fun pins s σ H v u Q I r q => q.elim (h.run pins s σ H v u Q I r) (h'.run pins s σ H v u Q I r)⟩
/-- how many -/
inductive LnG : Tgs → Nat → Prop
  | nil : LnG gsNil 0
  | cons {g : Tg} {gs : Tgs} {n : Nat} : LnG gs n → LnG (gsCons g gs) (n + 1)
theorem LnG.ok {gs : Tgs} {n : Nat} (h : LnG gs n) : ∀ ds ρ S ρ', gs ds ρ S = some ρ' → ds.length = n := by
  induction h with
  | nil =>
    intro ds ρ S ρ' e
    cases ds with
    | nil => rfl
    | cons _ _ => cases e
  | @cons g gs n _ ih =>
    intro ds ρ S ρ' e
    cases ds with
    | nil => cases e
    | cons d r =>
      unfold gsCons at e
      dsimp only at e
      match e1 : g d ρ S, e with
      | some ρ1, e => simp [ih r ρ1 S ρ' e]
theorem dg_seq {es : List Expr} {k n : Nat} {gs : Tgs} {is : List Nat} (hc : X.calm = true) (h : PGs X es (tgsD T X is gs)) (hl : LnG gs n) (hn : (assignEach es X.env).length = n := by rfl) (hst : (assignEach es X.env).findIdx? (·.1) = none := by rfl) : PG X (.Tuple es k pos) (tgD T X is (gSeq gs)) :=
  PG.imp (PG.or (pg_tup hc h hn hst) (pg_lst hc h hn hst)) fun v σ H Q q => by
    obtain ⟨ι, S, ρ, d, cf, r, p⟩ := q
    have fin : ∀ (ds : List D) (vs : List V), VsR T X.K X.mg ι H ds vs → (match gs ds ρ S with | none => False | some ρ' => ∀ σ', Cfg T X.K X.mg ι S ρ' σ' H → Same is σ σ' → Q σ' H) → vs.length = n ∧ tgsD T X is gs vs σ H Q := fun ds vs r p => by
      refine ⟨?_, ι, S, ρ, ds, cf, r, p⟩
      rw [VsR.length r]
      match e : gs ds ρ S, p with
      | some ρ', p => exact hl.ok _ _ _ _ e
    cases d with
    | tup ds =>
      simp only [VR] at r
      obtain ⟨a, vs, rfl, q, r⟩ := r
      obtain ⟨l, z⟩ := fin ds vs r p
      exact .inl ⟨a, vs, rfl, q.seq, l, z⟩
    | wtup ds =>
      simp only [VR] at r
      obtain ⟨a, vs, rfl, q, r⟩ := r
      obtain ⟨l, z⟩ := fin ds vs r p
      exact .inl ⟨a, vs, rfl, q, l, z⟩
    | ref c =>
      simp only [VR] at r
      obtain ⟨a, i, rfl⟩ := r
      unfold gSeq at p
      dsimp only at p
      match e : S[c]?, p with
      | some (.lst ds), p =>
        have q := cf.sim.cell c _ a e i
        obtain ⟨vs, q, r⟩ := q
        obtain ⟨l, z⟩ := fin ds vs r p
        exact .inr ⟨a, vs, rfl, SqL.of q, l, z⟩
    | _ => exact p.elim
theorem d_set {tg e : Expr} {f : Ev} {g : Tg} {is : List Nat} (he : PE X e (tE T X W f)) (hg : PG X tg (tgD T X is g)) (hs : swapsWithSole [tg] e pos.line X.env = pure false := by rfl) (hw : swappedStores [tg] e X.env = pure none := by rfl)
    (h1 : (assignEach [tg] X.env).map (·.2) = [assign tg X.env] := by rfl) : PS X (.Assign [tg] e pos) (tS T X W (sSet g f)) :=
  PS.imp (ps_asg he hg hs hw h1) fun Dn σ H q => by
    obtain ⟨ι, S, ρ, cf, p⟩ := q
    refine ⟨ι, S, ρ, cf, (PostS.run cf p).mono (fun x H1 q => ?_) fun _ _ _ e => e⟩
    obtain ⟨ι1, S1, d, g1, c1, r1, p1⟩ := q
    refine ⟨ι1, S1, ρ, d, c1, r1, ?_⟩
    match e : g d ρ S1, p1 with
    | none, p1 => exact p1
    | some ρ', p1 => exact fun σ' c' _ => p1 ι1 σ' H1 (Grow.refl _ _) c'
end
end Dl
set_option Elab.async false
set_option linter.all false
set_option maxRecDepth 100000
set_option maxHeartbeats 2000000
namespace Dl
open PySem PySem.Spec PyProof.Rows L2
/-! ### what is walked -/
inductive ItD where
  | fix (ds : List D)
  | lst (c : Nat)
  | en (it : ItD)
  | zp (a b : ItD)
def enumD : Nat → List D → List D
  | _, [] => []
  | n, d :: ds => .wtup [.int (n : Int), d] :: enumD (n + 1) ds
def zipD : List D → List D → List D
  | a :: as, b :: bs => .wtup [a, b] :: zipD as bs
  | _, _ => []
def items : ItD → Store → Option (List D)
  | .fix ds, _ => some ds
  | .lst c, S => match S[c]? with
    | some (.lst ds) => some ds
    | _ => none
  | .en it, S => match items it S with
    | some ds => some (enumD 0 ds)
    | none => none
  | .zp a b, S => match items a S, items b S with
    | some x, some y => some (zipD x y)
    | _, _ => none
section
variable (T : Tab) (K : PySem.W.Frag) (mg : Str → Option Value)
/-- the walk J gives what it tells -/
def repI (ι0 : List Addr) (H0 : Hp) (it : ItD) (J : It) : Prop := ∀ ι S H, Grow ι0 H0 ι H → Sim T K mg ι S H → ∀ ds, items it S = some ds →
  (∀ (i : Nat) x, ds[i]? = some x → J.go i H ∧ ∀ v H', J.yld i H v H' → Grow ι H ι H' ∧ Sim T K mg ι S H' ∧ VR T K mg ι H' x v) ∧ (∀ i, ds.length ≤ i → J.stop i H)
end
abbrev tI (T : Tab) (X : Cx) (W : WX) (f : Loc → Store → Rs ItD) : TI := tG T X W (repI T X.K X.mg) f
theorem PI.imp {X : Cx} {tg e : Expr} {t t' : TI} (h : PI X tg e t) (k : ∀ σ H Q, t' σ H Q → t σ H Q) : PI X tg e t' := ⟨fun pins s σ H Q I q => h.run pins s σ H Q I (k σ H Q q)⟩

/-! ### for, while -/
def forGo (it : ItD) (g : Tg) (body : Sv) : Nat → Nat → Loc → Store → Option (Fl × Store)
  | 0, i, ρ, S => match items it S with
    | some ds => if ds.length ≤ i then some (.nx ρ, S) else none
    | none => none
  | k + 1, i, ρ, S => match items it S with
    | none => none
    | some ds => match ds[i]? with
      | none => some (.nx ρ, S)
      | some x => match g x ρ S with
        | none => none
        | some ρ1 => match body ρ1 S with
          | some (.nx ρ2, S2) => forGo it g body k (i + 1) ρ2 S2
          | some (.ct ρ2, S2) => forGo it g body k (i + 1) ρ2 S2
          | some (.bk ρ2, S2) => some (.nx ρ2, S2)
          | r => r
def sFor (f : Loc → Store → Rs ItD) (g : Tg) (body : Sv) : Sv := fun ρ S => run (f ρ S) ρ fun it S1 => match items it S1 with
  | none => none
  | some ds => forGo it g body ds.length 0 ρ S1
def whGo (c : Tv) (body : Sv) : Nat → Loc → Store → Option (Fl × Store)
  | 0, _, _ => none
  | k + 1, ρ, S => run (c ρ S) ρ fun b S1 => if b = true then match body ρ S1 with
      | some (.nx ρ2, S2) => whGo c body k ρ2 S2
      | some (.ct ρ2, S2) => whGo c body k ρ2 S2
      | some (.bk ρ2, S2) => some (.nx ρ2, S2)
      | r => r
    else some (.nx ρ, S1)
def sWhile (n : Nat) (c : Tv) (body : Sv) : Sv := whGo c body n
section
variable {T : Tab} {X : Cx} {W : WX} {pos : Pos}
theorem d_for {tg iter : Expr} {sts : List Stmt} {f : Loc → Store → Rs ItD} {g : Tg} {is : List Nat} {u : Sv} (hp : PassesOwn (model X.prog X.w) X.A X.env X.xe) (hc : X.calm = true) (hi : PI X tg iter (tI T X W f)) (hg : PG X tg (tgD T X is g)) (hb : PSs X sts (tS T X W u))
    (hs : ∀ x, foldedSetIterable iter X.env x = pure x := by intro _; rfl) : PS X (.For tg iter sts [] pos) (tS T X W (sFor f g u)) :=
  PS.imp (ps_for hp hc hi hg hb hs) fun Dn σ H q => by
    obtain ⟨ι, S, ρ, cf, p⟩ := q
    refine ⟨ι, S, ρ, cf, (PostS.run cf p).mono (fun J H1 q => ?_) fun _ _ _ e => e⟩
    obtain ⟨ι1, S1, it, g1, c1, r1, p1⟩ := q
    match e0 : items it S1, p1 with
    | some ds0, p1 =>
    refine ⟨fun i k σ' H' => ∃ ι' S' ρ', Grow ι1 H1 ι' H' ∧ Cfg T X.K X.mg ι' S' ρ' σ' H' ∧ PostS T X W ι' H' (forGo it g u k i ρ' S') Dn, ⟨ds0.length, ι1, S1, ρ, Grow.refl _ _, c1, p1⟩, ?_⟩
    rintro i k σ2 H2 ⟨ι2, S2, ρ2, g2, c2, p2⟩
    have R := r1 ι2 S2 H2 g2 c2.sim
    cases k with
    | zero =>
      unfold forGo at p2
      match e : items it S2, p2 with
      | some ds, p2 =>
        dsimp only at p2
        by_cases hl : ds.length ≤ i
        · rw [if_pos hl] at p2
          exact .inl ⟨(R ds e).2 i hl, p2 ι2 σ2 H2 (Grow.refl _ _) c2⟩
        · rw [if_neg hl] at p2
          exact p2.elim
    | succ k =>
      unfold forGo at p2
      match e : items it S2, p2 with
      | some ds, p2 =>
        dsimp only at p2
        match ex : ds[i]?, p2 with
        | none, p2 =>
          exact .inl ⟨(R ds e).2 i (List.getElem?_eq_none_iff.mp ex), p2 ι2 σ2 H2 (Grow.refl _ _) c2⟩
        | some x, p2 =>
          obtain ⟨hgo, hy⟩ := (R ds e).1 i x ex
          refine .inr ⟨hgo, fun σ' H' => ∃ ι' S' ρ', Grow ι1 H1 ι' H' ∧ Cfg T X.K X.mg ι' S' ρ' σ' H' ∧ PostS T X W ι' H' (forGo it g u k (i + 1) ρ' S') Dn, fun σ' H' n => ⟨k, Nat.lt_succ_self k, n⟩, fun v H3 y => ?_⟩
          obtain ⟨g3, s3, v3⟩ := hy v H3 y
          have c3 : Cfg T X.K X.mg ι2 S2 ρ2 σ2 H3 := c2.grow g3 s3
          refine ⟨ι2, S2, ρ2, x, c3, v3, ?_⟩
          dsimp only at p2
          match e1 : g x ρ2 S2, p2 with
          | some ρ3, p2 =>
            intro σ3 c3' _
            dsimp only at p2
            refine ⟨ι2, S2, ρ3, c3', ?_⟩
            have p3 := PostS.on p2 g3
            match e2 : u ρ3 S2, p3 with
            | none, p3 => exact p3
            | some (.nx ρ4, S4), p3 => exact fun ι4 σ4 H4 g4 c4 => ⟨ι4, S4, ρ4, (g2.trans g3).trans g4, c4, PostS.on p3 g4⟩
            | some (.ct ρ4, S4), p3 => exact fun ι4 σ4 H4 g4 c4 => ⟨ι4, S4, ρ4, (g2.trans g3).trans g4, c4, PostS.on p3 g4⟩
            | some (.bk ρ4, S4), p3 => exact fun ι4 σ4 H4 g4 c4 => p3 ι4 σ4 H4 g4 c4
            | some (.rt d, S4), p3 => exact p3
            | some (.ex z ρ4, S4), p3 => exact p3
theorem d_while {c : Expr} {sts : List Stmt} {t : Tv} {u : Sv} (n : Nat) (hp : PassesOwn (model X.prog X.w) X.A X.env X.xe) (h : PT X c (tT T X W t)) (hb : PSs X sts (tS T X W u)) : PS X (.While c sts [] pos) (tS T X W (sWhile n t u)) :=
  PS.imp (ps_while hp h hb) fun Dn σ H q => by
    obtain ⟨ι, S, ρ, cf, p⟩ := q
    refine ⟨fun k σ' H' => ∃ ι' S' ρ', Cfg T X.K X.mg ι' S' ρ' σ' H' ∧ PostS T X W ι' H' (whGo t u k ρ' S') Dn, ⟨n, ι, S, ρ, cf, p⟩, ?_⟩
    rintro k σ1 H1 ⟨ι1, S1, ρ1, c1, p1⟩
    cases k with
    | zero => exact p1.elim
    | succ k =>
      unfold whGo at p1
      refine ⟨ι1, S1, ρ1, c1, (PostS.run c1 p1).mono (fun b H2 q => ?_) fun _ _ _ e => e⟩
      obtain ⟨ι2, S2, d, g2, c2, r2, p2⟩ := q
      have e : d = b := r2
      subst e
      cases d with
      | false => rw [if_neg (by decide)] at p2 ⊢; exact p2 ι2 σ1 H2 (Grow.refl _ _) c2
      | true =>
        rw [if_pos rfl] at p2 ⊢
        refine ⟨fun σ' H' => ∃ ι' S' ρ', Cfg T X.K X.mg ι' S' ρ' σ' H' ∧ PostS T X W ι' H' (whGo t u k ρ' S') Dn, fun σ' H' n => ⟨k, Nat.lt_succ_self k, n⟩, ι2, S2, ρ1, c2, ?_⟩
        match e2 : u ρ1 S2, p2 with
        | none, p3 => exact p3
        | some (.nx ρ4, S4), p3 => exact fun ι4 σ4 H4 g4 c4 => ⟨ι4, S4, ρ4, c4, PostS.on p3 g4⟩
        | some (.ct ρ4, S4), p3 => exact fun ι4 σ4 H4 g4 c4 => ⟨ι4, S4, ρ4, c4, PostS.on p3 g4⟩
        | some (.bk ρ4, S4), p3 => exact fun ι4 σ4 H4 g4 c4 => p3 ι4 σ4 H4 g4 c4
        | some (.rt d, S4), p3 => exact p3
        | some (.ex z ρ4, S4), p3 => exact p3
end

/-! ### list comprehensions -/
def wipeD (ρ : Loc) : List Nat → Loc
  | [] => ρ
  | v :: vs => (wipeD ρ vs).set v none
/-- nothing may be raised -/
def bndX {α β : Type} (m : Rs α) (k : α → Store → Rs β) : Rs β := match m with
  | some (.ok a, S) => k a S
  | _ => none
def lcGo (it : ItD) (g : Tg) (tt : Tv) (te : Ev) (ρ : Loc) : Nat → Nat → List D → Store → Rs (List D)
  | 0, i, acc, S => match items it S with
    | some ds => if ds.length ≤ i then ok acc S else none
    | none => none
  | k + 1, i, acc, S => match items it S with
    | none => none
    | some ds => match ds[i]? with
      | none => ok acc S
      | some x => match g x ρ S with
        | none => none
        | some ρ1 => bndX (tt ρ1 S) fun b S1 => if b = true then bndX (te ρ1 S1) fun y S2 => lcGo it g tt te ρ k (i + 1) (acc ++ [y]) S2 else lcGo it g tt te ρ k (i + 1) acc S1
def tYes : Tv := fun _ S => ok true S
def eLc (f : Loc → Store → Rs ItD) (g : Tg) (tt : Tv) (te : Ev) (vs : List Nat) : Ev := fun ρ S => bnd (f ρ S) fun it S1 => match items it S1 with
  | none => none
  | some ds => if ds.length ≤ 1000000 then bndX (lcGo it g tt te (wipeD ρ vs) ds.length 0 [] S1) fun r S2 => lift (newL r S2) else none
theorem wipeD_length (ρ : Loc) : ∀ vs, (wipeD ρ vs).length = ρ.length
  | [] => rfl
  | v :: vs => by unfold wipeD; rw [List.length_set, wipeD_length ρ vs]
theorem LocR.wipe {T : Tab} {K : PySem.W.Frag} {mg : Str → Option Value} {ι : List Addr} {H : Hp} {ρ : Loc} {σ : L2.St} (h : LocR T K mg ι H ρ σ) : ∀ vs, LocR T K mg ι H (wipeD ρ vs) (L2.wipe σ vs)
  | [] => h
  | v :: vs => by
    have ih := LocR.wipe h vs
    unfold wipeD L2.wipe
    refine ⟨by simp [ih.1], fun i d e => ?_⟩
    by_cases hv : v = i
    · subst hv
      by_cases hl : v < (wipeD ρ vs).length
      · rw [List.getElem?_set_self hl] at e; cases e
      · rw [List.getElem?_eq_none (by simpa using hl)] at e; cases e
    · rw [List.getElem?_set_ne hv] at e ⊢
      exact ih.2 i d e
theorem wipe_at (σ : L2.St) (vs : List Nat) (j : Nat) : (L2.wipe σ vs)[j]? = if j < σ.length then (if j ∈ vs then some none else σ[j]?) else none := by
  induction vs with
  | nil =>
    unfold L2.wipe
    by_cases h : j < σ.length
    · simp [h]
    · simp [h]
  | cons v vs ih =>
    unfold L2.wipe
    by_cases hv : v = j
    · subst hv
      by_cases h : v < σ.length
      · rw [List.getElem?_set_self (by rw [L2.wipe_length]; exact h)]; simp [h]
      · rw [List.getElem?_eq_none (by rw [List.length_set, L2.wipe_length]; omega)]; simp [h]
    · rw [List.getElem?_set_ne hv, ih]
      have : (j ∈ v :: vs) ↔ (j ∈ vs) := by simp [Ne.symm hv]
      simp [this]
theorem wipe_same {is vs : List Nat} {σ σ2 : L2.St} (hl : σ2.length = σ.length) (hs : ∀ i ∈ is, i ∈ vs) (h : Same is (L2.wipe σ vs) σ2) : L2.wipe σ2 vs = L2.wipe σ vs := by
  apply List.ext_getElem?
  intro j
  rw [wipe_at, wipe_at, hl]
  by_cases hj : j < σ.length
  · rw [if_pos hj, if_pos hj]
    by_cases hm : j ∈ vs
    · rw [if_pos hm, if_pos hm]
    · rw [if_neg hm, if_neg hm]
      have := h.2 j fun z => hm (hs j z)
      rw [this, wipe_at, if_pos hj, if_neg hm]
  · rw [if_neg hj, if_neg hj]
section
variable {T : Tab} {X : Cx} {W : WX} {pos : Pos}
abbrev W0 : WX := fun _ _ _ _ => False
/-- no exception: the wish is any -/
theorem Post.bndX {α β γ δ : Type} {K : PySem.W.Frag} {mg : Str → Option Value} {E : XK} {ι : List Addr} {H : Hp} {rep : List Addr → Hp → α → β → Prop} {rep2 : List Addr → Hp → γ → δ → Prop} {m : Rs α} {k : α → Store → Rs γ} {Q : δ → Hp → Prop} (h : Post T K mg E rep2 ι H (Dl.bndX m k) Q) :
    Post T K mg (fun _ _ _ => False) rep ι H m fun v H1 => ∃ ι1 S1 d, Grow ι H ι1 H1 ∧ Sim T K mg ι1 S1 H1 ∧ rep ι1 H1 d v ∧ Post T K mg E rep2 ι1 H1 (k d S1) Q := by
  match m, h with
  | some (.ok d, S'), h =>
    intro ι' v H' g s q
    exact ⟨ι', S', d, g, s, q, Post.on (show Post T K mg E rep2 ι H (k d S') Q from h) g⟩
theorem Post.bndT {α β γ δ : Type} {K : PySem.W.Frag} {mg : Str → Option Value} {E : XK} {ι ι' : List Addr} {H H' : Hp} {rep : List Addr → Hp → α → β → Prop} {rep2 : List Addr → Hp → γ → δ → Prop} {m : Rs α} {k : α → Store → Rs γ} {Q : δ → Hp → Prop} (h : Post T K mg E rep2 ι H (Dl.bndX m k) Q) :
    Post T K mg (fun _ _ _ => False) rep ι' H' m fun v H2 => ∃ ι2 S2 d, Grow ι' H' ι2 H2 ∧ Sim T K mg ι2 S2 H2 ∧ rep ι2 H2 d v ∧ Post T K mg E rep2 ι H (k d S2) Q := by
  match m, h with
  | some (.ok d, S'), h =>
    intro ι2 v H2 g s q
    exact ⟨ι2, S', d, g, s, q, h⟩
theorem bndX_assoc {α β γ : Type} (m : Rs α) (k : α → Store → Rs β) (l : β → Store → Rs γ) : bndX (bndX m k) l = bndX m fun a S => bndX (k a S) l := by
  match m with
  | none => rfl
  | some (.ok a, S) => rfl
  | some (.error e, S) => rfl
/-- a list that is no cell is written -/
theorem sim_other {K : PySem.W.Frag} {mg : Str → Option Value} {ι : List Addr} {H : Hp} {S : Store} {p : Addr} {xs : List V} {o : HO} (s : Sim T K mg ι S H) (n : p ∉ ι) (e : H p = some (.lst xs)) : Sim T K mg ι S (upd H p o) where
  len := s.len
  nd := s.nd
  cell := fun c x a e1 i => (s.cell c x a e1 i).to (List.prefix_refl _) (fun b ys e2 => by rw [upd_ne (ne_of e2 e (by intro z; cases z))]; exact e2) (fun b u ys e2 => by rw [upd_ne (ne_of e2 e (by intro z; cases z))]; exact e2) (upd_ne fun z : a = p => n (z ▸ List.mem_of_getElem? i))
theorem vsR_other {K : PySem.W.Frag} {mg : Str → Option Value} {ι : List Addr} {H : Hp} {p : Addr} {xs : List V} {o : HO} {ds : List D} {vs : List V} (e : H p = some (.lst xs)) (r : VsR T K mg ι H ds vs) : VsR T K mg ι (upd H p o) ds vs :=
  VsR.to (List.prefix_refl _) (fun b ys e2 => by rw [upd_ne (ne_of e2 e (by intro z; cases z))]; exact e2) (fun b u ys e2 => by rw [upd_ne (ne_of e2 e (by intro z; cases z))]; exact e2) _ _ r
theorem Grow.other {ι ι' : List Addr} {H H' : Hp} {p : Addr} {o : HO} (g : Grow ι H ι' H') (e : H p = none) : Grow ι H ι' (upd H' p o) where
  pre := g.pre
  new := g.new
  oth := fun a u h n => by rw [upd_ne (ne_of_none h e)]; exact g.oth a u h n
  fz := fun a u z h => by rw [upd_ne (ne_of_none h e)]; exact g.fz a u z h
/-- what the block's turn reads -/
theorem lc_read {f : Loc → Store → Rs ItD} {g : Tg} {is vs : List Nat} {tt : Tv} {te : Ev} (hs : ∀ i ∈ is, i ∈ vs) {wi : TI} {tgR : TG} {ttR : TT} {teR : TE} (hw : ∀ σ H R, tI T X W f σ H R → wi σ H R)
    (hgR : ∀ v σ H Q, tgD T X is g v σ H Q → tgR v σ H Q) (htR : ∀ σ H Q, tG T X W0 repB tt σ H Q → ttR σ H Q) (heR : ∀ σ H Q, tG T X W0 (repE T X.K X.mg) te σ H Q → teR σ H Q)
    {σ : L2.St} {H : Hp} {Q : VK} (q : tE T X W (eLc f g tt te vs) σ H Q) : tLc wi tgR ttR teR vs σ H Q := by
  obtain ⟨ι, S, ρ, cf, p⟩ := q
  unfold eLc at p
  refine hw σ H _ ⟨ι, S, ρ, cf, (Post.bnd p).mono (fun J H1 q => ?_) fun _ _ _ e => e⟩
  obtain ⟨ι1, S1, it, g1, s1, r1, p1⟩ := q
  have c1 : Cfg T X.K X.mg ι1 S1 ρ σ H1 := cf.grow g1 s1
  match e0 : items it S1, p1 with
  | some ds0, p1 =>
  dsimp only at p1
  by_cases hz : ds0.length ≤ 1000000
  · rw [if_pos hz] at p1
    intro Da hD
    -- the invariant: Da holds what is made; it is no cell
    let Inv' : Nat → Nat → Hp → Prop := fun i k H' => ∃ ι' S' acc vs', Grow ι1 H1 ι' H' ∧ Sim T X.K X.mg ι' S' H' ∧ Da ∉ ι' ∧ H' Da = some (.lst vs') ∧ VsR T X.K X.mg ι' H' acc vs' ∧ acc.length ≤ i ∧ i + k ≤ 1000000 ∧
      Post T X.K X.mg (fun c d H' => W c d σ H') (repE T X.K X.mg) ι1 H1 (Dl.bndX (lcGo it g tt te (wipeD ρ vs) k i acc S') fun r S2 => lift (newL r S2)) Q
    have hn1 : Da ∉ ι1 := fun m => s1.some m hD
    refine ⟨Inv', ⟨ds0.length, ι1, S1, [], [], (Grow.refl _ _).other hD, s1.laid hD, hn1, upd_same, VsR.nil, Nat.le_refl _, by omega, p1⟩, ?_⟩
    have fin : ∀ {i k : Nat} {H2 : Hp} {ι2 : List Addr} {S2 : Store} {acc : List D} {vs2 : List V}, Grow ι1 H1 ι2 H2 → Sim T X.K X.mg ι2 S2 H2 → Da ∉ ι2 → H2 Da = some (.lst vs2) → VsR T X.K X.mg ι2 H2 acc vs2 →
        Post T X.K X.mg (fun c d H' => W c d σ H') (repE T X.K X.mg) ι1 H1 (lift (newL acc S2)) Q → Q (.ref Da) H2 := fun {i k H2 ι2 S2 acc vs2} g2 s2 n2 d2 r2 p2 => by
      refine p2 (ι2 ++ [Da]) (.ref Da) H2 ⟨g2.pre.trans (List.prefix_append _ _), fun a ha hn => ?_, g2.oth, g2.fz⟩ (s2.add n2 ⟨vs2, d2, VsR.to (List.prefix_append _ _) (fun _ _ e => e) (fun _ _ _ e => e) _ _ r2⟩) ?_
      · rcases List.mem_append.mp ha with h | h
        · exact g2.new a h hn
        · rw [List.mem_singleton.mp h]; exact hD
      · simp only [repE, VR]
        exact ⟨Da, by rw [← s2.len]; simp, rfl⟩
    rintro i k H2 ⟨ι2, S2, acc, vs2, g2, s2, n2, d2, r2, hl2, hk2, p2⟩
    have R := r1 ι2 S2 H2 g2 s2
    cases k with
    | zero =>
      unfold lcGo at p2
      match e : items it S2, p2 with
      | some ds, p2 =>
        dsimp only at p2
        by_cases hl : ds.length ≤ i
        · rw [if_pos hl] at p2
          exact .inl ⟨(R ds e).2 i hl, fin (i := i) (k := 0) g2 s2 n2 d2 r2 p2⟩
        · rw [if_neg hl] at p2
          exact p2.elim
    | succ k =>
      unfold lcGo at p2
      match e : items it S2, p2 with
      | some ds, p2 =>
        dsimp only at p2
        match ex : ds[i]?, p2 with
        | none, p2 => exact .inl ⟨(R ds e).2 i (List.getElem?_eq_none_iff.mp ex), fin (i := i) (k := 0) g2 s2 n2 d2 r2 p2⟩
        | some x, p2 =>
          obtain ⟨hgo, hy⟩ := (R ds e).1 i x ex
          refine .inr ⟨hgo, fun H' => Inv' (i + 1) k H', fun H' n => ⟨k, Nat.lt_succ_self k, n⟩, fun v H3 y => ?_⟩
          obtain ⟨g3, s3, v3⟩ := hy v H3 y
          have d3 : H3 Da = some (.lst vs2) := g3.oth Da _ d2 n2
          dsimp only at p2
          match e1 : g x (wipeD ρ vs) S2, p2 with
          | some ρ1, p2 =>
            refine hgR v _ H3 _ ⟨ι2, S2, wipeD ρ vs, x, ⟨s3, (c1.loc.grow s1 (g2.trans g3)).wipe vs⟩, v3, ?_⟩
            rw [e1]
            intro σ3 c3 sm
            dsimp only at p2
            have hlen : σ3.length = σ.length := by rw [sm.1, L2.wipe_length]
            refine ⟨wipe_same hlen hs sm, htR σ3 H3 _ ⟨ι2, S2, ρ1, c3, ?_⟩⟩
            rw [bndX_assoc] at p2
            refine (Post.bndT p2).mono (fun b H4 q => ?_) fun _ _ _ e => e
            obtain ⟨ι4, S4, b', g4, s4, e4, p4⟩ := q
            have e5 : b' = b := e4
            subst e5
            have n4 : Da ∉ ι4 := fun m => by
              have := g4.new Da m n2
              rw [d3] at this; cases this
            have d4 : H4 Da = some (.lst vs2) := g4.oth Da _ d3 n2
            have G4 : Grow ι1 H1 ι4 H4 := (g2.trans g3).trans g4
            have r4 : VsR T X.K X.mg ι4 H4 acc vs2 := VsR.grow s2 (g3.trans g4) r2
            cases b' with
            | false =>
              rw [if_neg (by decide)] at p4 ⊢
              exact ⟨ι4, S4, acc, vs2, G4, s4, n4, d4, r4, by omega, by omega, p4⟩
            | true =>
              rw [if_pos rfl] at p4 ⊢
              rw [bndX_assoc] at p4
              refine heR σ3 H4 _ ⟨ι4, S4, ρ1, c3.grow g4 s4, (Post.bndT p4).mono (fun y H5 q => ?_) fun _ _ _ e => e⟩
              obtain ⟨ι5, S5, d5, g5, s5, v5, p5⟩ := q
              have n5 : Da ∉ ι5 := fun m => by
                have := g5.new Da m n4
                rw [d4] at this; cases this
              have dd5 : H5 Da = some (.lst vs2) := g5.oth Da _ d4 n4
              have r5 : VsR T X.K X.mg ι5 H5 acc vs2 := VsR.grow s4 g5 r4
              have r6 : VsR T X.K X.mg ι5 H5 (acc ++ [d5]) (vs2 ++ [y]) := r5.append (VsR.cons v5 VsR.nil)
              refine ⟨vs2, dd5, ?_, ι5, S5, acc ++ [d5], vs2 ++ [y], (G4.trans g5).other hD, sim_other s5 n5 dd5, n5, upd_same, vsR_other dd5 r6, by simp; omega, by omega, p5⟩
              rw [VsR.length r5, sizeLine_eq]; omega
  · rw [if_neg hz] at p1; exact p1.elim
end
end Dl
set_option Elab.async false
set_option linter.all false
set_option maxRecDepth 100000
set_option maxHeartbeats 2000000
namespace Dl
open PySem PySem.Spec PyProof.Rows L2
/-! ### operations on values -/
theorem OpR.imp {X : Cx} {f : Value → Value → Sem Value} {r r' : R2} (h : OpR X f r) (k : ∀ x y H Q, r' x y H Q → r x y H Q) : OpR X f r' := fun pins s σ H x y v u Q I rx ry q => h pins s σ H x y v u Q I rx ry (k x y H Q q)
theorem CallR.imp {X : Cx} {f : Value} {r r' : List V → Hp → VK → Prop} (h : CallR X f r) (k : ∀ x H Q, r' x H Q → r x H Q) : CallR X f r' := fun pins s σ H x v Q I rx q => h pins s σ H x v Q I rx (k x H Q q)
theorem IxR.imp {X : Cx} {r r' : R2} (h : IxR X r) (k : ∀ x y H Q, r' x y H Q → r x y H Q) : IxR X r' := fun va sl pins s σ H x y v u Q I rx ry q => h va sl pins s σ H x y v u Q I rx ry (k x y H Q q)
theorem MtR.imp {X : Cx} {id : String} {r r' : V → List V → Hp → VK → Prop} (h : MtR X id r) (k : ∀ x xs H Q, r' x xs H Q → r x xs H Q) : MtR X id r' := fun pins s σ H x xs v us Q I rx rxs q => h pins s σ H x xs v us Q I rx rxs (k x xs H Q q)
def addD : Op2 := fun x y S => match x, y with
  | .int i, .int j => some (.int (i + j), S)
  | .str a, .str b => if a.length + b.length ≤ 1000000 then some (.str (a ++ b), S) else none
  | .tup a, .tup b => if a.length + b.length ≤ 1000000 then some (.tup (a ++ b), S) else none
  | .ref c, .ref d => match S[c]?, S[d]? with
    | some (.lst a), some (.lst b) => if a.length + b.length ≤ 1000000 then newL (a ++ b) S else none
    | _, _ => none
  | _, _ => none
def subD : Op2 := fun x y S => match x, y with
  | .int i, .int j => some (.int (i - j), S)
  | _, _ => none
def mulD : Op2 := fun x y S => match x, y with
  | .int i, .int j => if -18446744073709551616 < j ∧ j < 18446744073709551616 then some (.int (i * j), S) else none
  | .ref c, .int k => match S[c]? with
    | some (.lst a) => if k < 1000000 ∧ a.length * k.toNat ≤ 1000000 ∧ -1000000 ≤ k then newL (List.replicate k.toNat a).flatten S else none
    | _ => none
  | _, _ => none
def modD : Op2 := fun x y S => match x, y with
  | .int i, .int j => if 0 < j then some (.int (i % j), S) else none
  | _, _ => none
def divD : Op2 := fun x y S => match x, y with
  | .int i, .int j => if 0 < j ∧ j < 1073741824 then some (.int (i / j), S) else none
  | _, _ => none
def powD : Op2 := fun x y S => match x, y with
  | .int i, .int j => if 0 ≤ j ∧ j ≤ 1000 ∧ i.natAbs < 2 ^ 64 then some (.int (i ^ j.toNat), S) else none
  | _, _ => none
def ltD : Op2 := fun x y S => match x, y with
  | .int i, .int j => some (.bl (decide (i < j)), S)
  | _, _ => none
def leD : Op2 := fun x y S => match x, y with
  | .int i, .int j => some (.bl (decide (i ≤ j)), S)
  | _, _ => none
def gtD : Op2 := fun x y S => match x, y with
  | .int i, .int j => some (.bl (decide (j < i)), S)
  | _, _ => none
def geD : Op2 := fun x y S => match x, y with
  | .int i, .int j => some (.bl (decide (j ≤ i)), S)
  | _, _ => none
def negD : Op1 := fun x S => match x with
  | .int i => some (.int (-i), S)
  | _ => none
section
variable {T : Tab} {X : Cx} {ι : List Addr} {H : Hp} {S : Store}
theorem lst_at {K : PySem.W.Frag} {mg : Str → Option Value} {c : Nat} {a : Addr} {ds : List D} (s : Sim T K mg ι S H) (e : S[c]? = some (.lst ds)) (i : ι[c]? = some a) : ∃ vs, H a = some (.lst vs) ∧ VsR T K mg ι H ds vs := s.cell c _ a e i
theorem line6 {n : Nat} (h : n ≤ 1000000) : n ≤ sizeLine := by rw [sizeLine_eq]; omega
/-- a tuple's sum, known to the object -/
def rCatF (K : PySem.W.Frag) : R2 := fun x y H Q => ∃ a b xs ys, x = .ref a ∧ y = .ref b ∧ SqT K H a xs ∧ SqT K H b ys ∧ xs.length + ys.length ≤ sizeLine ∧
  (xs = [] → Q (.ref b) H) ∧ (xs ≠ [] → ys = [] → Q (.ref a) H) ∧ (∀ p o, H p = none → o.dict = none → Q (.ref p) (upd H p (.frz o (.tup (xs ++ ys)))))
theorem op_catF : OpR X (binaryOp .Add) (rCatF X.K) := by
  intro pins s σ H x y v u Q I rx ry h
  obtain ⟨a, b, xs, ys, rfl, rfl, ha, hb, hz, q0, q1, q2⟩ := h
  cases rx
  cases ry
  obtain ⟨its, r1, p1, _⟩ := I.tuple ha
  obtain ⟨its2, r2, p2, _⟩ := I.tuple hb
  by_cases hx : xs = []
  · subst hx
    cases r1
    exact cat_tup0 p1 p2 ⟨.ref b, H, I, rfl, q0 rfl⟩
  · have hn : its ≠ [] := fun e => hx (r1.nil_iff.mp e)
    refine HT.cat_tup p1 p2 hn (fun e => ⟨.ref a, H, I, rfl, q1 hx (r2.nil_iff.mp e)⟩) (fun _ => ?_) (by rw [← r1.length, ← r2.length]; exact hz)
    exact tup_laid (tk := s.toks) I (r1.append r2) (by rw [List.length_append]; exact hz) (fun b u e => Heap.get?_push_of_some _ e) (Nat.le_refl _) (Heap.get?_push_size _ rfl) rfl rfl _ rfl (q2 _)
theorem opAdd : OpR X (binaryOp .Add) (rD2 T X.K X.mg addD) :=
  OpR.imp (((op_add.or op_add_str).or op_cat).or op_catF) fun x y H Q h => by
    obtain ⟨ι, S, dx, dy, s, rx, ry, p⟩ := h
    cases dx <;> cases dy <;> first | exact p.elim | skip
    case int.int i j =>
      simp only [VR] at rx ry
      exact .inl (.inl (.inl ⟨i, j, rx, ry, p.int s⟩))
    case str.str i j =>
      simp only [VR] at rx ry
      unfold addD at p
      dsimp only at p
      split at p
      · exact .inl (.inl (.inr ⟨i, j, rx, ry, line6 (by assumption), p.str s⟩))
      · exact p.elim
    case tup.tup a b =>
      simp only [VR] at rx ry
      obtain ⟨pa, va, rfl, qa, ra⟩ := rx
      obtain ⟨pb, vb, rfl, qb, rb⟩ := ry
      unfold addD at p
      dsimp only at p
      split at p
      · rename_i hl
        refine .inr ⟨pa, pb, va, vb, rfl, rfl, qa.seq, qb.seq, by rw [ra.length, rb.length]; exact line6 hl, fun e => ?_, fun _ e => ?_, fun q o hq ho => p.tup s (ra.append rb) hq ho⟩
        · subst e
          cases a with
          | nil => exact p.here s (by simp only [VR, List.nil_append]; exact ⟨pb, vb, rfl, qb, rb⟩)
          | cons d ds => simp only [VsR] at ra; obtain ⟨_, _, e, _⟩ := ra; cases e
        · subst e
          cases b with
          | nil => exact p.here s (by simp only [VR, List.append_nil]; exact ⟨pa, va, rfl, qa, ra⟩)
          | cons d ds => simp only [VsR] at rb; obtain ⟨_, _, e, _⟩ := rb; cases e
      · exact p.elim
    case ref.ref c d =>
      simp only [VR] at rx ry
      obtain ⟨pa, ia, rfl⟩ := rx
      obtain ⟨pb, ib, rfl⟩ := ry
      unfold addD at p
      dsimp only at p
      split at p
      · rename_i a b ea eb
        obtain ⟨va, ha, ra⟩ := lst_at s ea ia
        obtain ⟨vb, hb, rb⟩ := lst_at s eb ib
        split at p
        · rename_i hl
          exact .inl (.inr ⟨pa, pb, va, vb, rfl, rfl, ha, hb, by rw [ra.length, rb.length]; exact line6 hl, fun q hq => p.lst s (ra.append rb) hq⟩)
        · exact p.elim
      · exact p.elim
theorem opI_ {f : Value → Value → Sem Value} {g : Op2} {r : R2} (h : OpR X f r) (k : ∀ i j H Q S ι, Sim T X.K X.mg ι S H → PV T X.K X.mg ι H (g (.int i) (.int j) S) Q → r (.int i) (.int j) H Q) (n : ∀ x y S, (∀ i j, ¬ (x = .int i ∧ y = .int j)) → g x y S = none) : OpR X f (rD2 T X.K X.mg g) :=
  OpR.imp h fun x y H Q q => by
    obtain ⟨ι, S, dx, dy, s, rx, ry, p⟩ := q
    by_cases e : ∃ i j, dx = .int i ∧ dy = .int j
    · obtain ⟨i, j, rfl, rfl⟩ := e
      simp only [VR] at rx ry
      subst rx; subst ry
      exact k i j H Q S ι s p
    · rw [n dx dy S fun i j z => e ⟨i, j, z⟩] at p
      exact p.elim
theorem opSub : OpR X (binaryOp .Sub) (rD2 T X.K X.mg subD) := opI_ op_sub (fun i j H Q S ι s p => ⟨i, j, rfl, rfl, p.int s⟩) fun x y S h => by
  cases x <;> cases y <;> first | rfl | exact absurd ⟨rfl, rfl⟩ (h _ _)
theorem opLt : OpR X (compareOp .Lt) (rD2 T X.K X.mg ltD) := opI_ op_lt (fun i j H Q S ι s p => ⟨i, j, rfl, rfl, p.bl s⟩) fun x y S h => by
  cases x <;> cases y <;> first | rfl | exact absurd ⟨rfl, rfl⟩ (h _ _)
theorem opLe : OpR X (compareOp .LtE) (rD2 T X.K X.mg leD) := opI_ op_le (fun i j H Q S ι s p => ⟨i, j, rfl, rfl, p.bl s⟩) fun x y S h => by
  cases x <;> cases y <;> first | rfl | exact absurd ⟨rfl, rfl⟩ (h _ _)
theorem opGt : OpR X (compareOp .Gt) (rD2 T X.K X.mg gtD) := opI_ op_gt (fun i j H Q S ι s p => ⟨i, j, rfl, rfl, p.bl s⟩) fun x y S h => by
  cases x <;> cases y <;> first | rfl | exact absurd ⟨rfl, rfl⟩ (h _ _)
theorem opGe : OpR X (compareOp .GtE) (rD2 T X.K X.mg geD) := opI_ op_ge (fun i j H Q S ι s p => ⟨i, j, rfl, rfl, p.bl s⟩) fun x y S h => by
  cases x <;> cases y <;> first | rfl | exact absurd ⟨rfl, rfl⟩ (h _ _)
theorem opMod : OpR X (binaryOp .Mod) (rD2 T X.K X.mg modD) := opI_ op_mod (fun i j H Q S ι s p => by
  unfold modD at p; dsimp only at p
  split at p
  · exact ⟨i, j, rfl, rfl, by assumption, p.int s⟩
  · exact p.elim) fun x y S h => by
  cases x <;> cases y <;> first | rfl | exact absurd ⟨rfl, rfl⟩ (h _ _)
theorem opDiv : OpR X (binaryOp .FloorDiv) (rD2 T X.K X.mg divD) := opI_ op_fdiv (fun i j H Q S ι s p => by
  unfold divD at p; dsimp only at p
  split at p
  · rename_i h; exact ⟨i, j, rfl, rfl, h, p.int s⟩
  · exact p.elim) fun x y S h => by
  cases x <;> cases y <;> first | rfl | exact absurd ⟨rfl, rfl⟩ (h _ _)
theorem opPow : OpR X (binaryOp .Pow) (rD2 T X.K X.mg powD) := opI_ op_pow (fun i j H Q S ι s p => by
  unfold powD at p; dsimp only at p
  split at p
  · rename_i h; exact ⟨i, j, rfl, rfl, ⟨h.1, by omega, h.2.2⟩, p.int s⟩
  · exact p.elim) fun x y S h => by
  cases x <;> cases y <;> first | rfl | exact absurd ⟨rfl, rfl⟩ (h _ _)
theorem opMul : OpR X (binaryOp .Mult) (rD2 T X.K X.mg mulD) :=
  OpR.imp (op_mul.or op_rep) fun x y H Q h => by
    obtain ⟨ι, S, dx, dy, s, rx, ry, p⟩ := h
    cases dx <;> cases dy <;> first | exact p.elim | skip
    case int.int i j =>
      simp only [VR] at rx ry
      unfold mulD at p
      dsimp only at p
      split at p
      · rename_i h
        have e : (2 : Int) ^ 64 = 18446744073709551616 := by decide
        exact .inl ⟨i, j, rx, ry, .inr (by rw [e]; exact h), p.int s⟩
      · exact p.elim
    case ref.int c k =>
      simp only [VR] at rx ry
      obtain ⟨pa, ia, rfl⟩ := rx
      unfold mulD at p
      dsimp only at p
      split at p
      · rename_i a ea
        obtain ⟨va, ha, ra⟩ := lst_at s ea ia
        split at p
        · rename_i h
          exact .inr ⟨pa, k, va, rfl, ry, ha, by omega, by omega, by rw [ra.length]; exact line6 h.2.1, fun q hq => p.lst s (ra.rep _) hq⟩
        · exact p.elim
      · exact p.elim
theorem unNeg : UnR X (unaryOp .USub) (rD1 T X.K X.mg negD) := fun pins s σ H x v Q I rx q => by
  obtain ⟨ι, S, dx, sm, r, p⟩ := q
  cases dx <;> first | exact p.elim | skip
  case int i =>
    simp only [VR] at r
    exact un_neg pins s σ H x v Q I rx ⟨i, r, p.int sm⟩
end
end Dl
set_option Elab.async false
set_option linter.all false
set_option maxRecDepth 100000
set_option maxHeartbeats 2000000
namespace Dl
open PySem PySem.Spec PyProof.Rows L2
/-! ### data as a whole: ==, in -/
def toPs (f : D → Option PyData) : List D → Option (List PyData)
  | [] => some []
  | d :: ds => match f d, toPs f ds with
    | some p, some ps => some (p :: ps)
    | _, _ => none
def toP (S : Store) : Nat → D → Option PyData
  | 0, _ => none
  | n + 1, d => match d with
    | .non => some .none
    | .bl b => some (.bool b)
    | .int i => some (.int i)
    | .str x => if PyData.strOk x = true then some (.str x) else none
    | .tup ds => (toPs (toP S n) ds).map .tuple
    | .wtup ds => (toPs (toP S n) ds).map .tuple
    | .frz ds => (toPs (toP S n) ds).map .list
    | .ref c => match S[c]? with
      | some (.lst ds) => (toPs (toP S n) ds).map .list
      | _ => none
    | .gl _ => none
def eqD : Op2 := fun x y S => match toP S 60 x, toP S 60 y with
  | some p, some q => some (.bl (PyData.eqv p q), S)
  | _, _ => none
def neD : Op2 := fun x y S => match toP S 60 x, toP S 60 y with
  | some p, some q => some (.bl (!PyData.eqv p q), S)
  | _, _ => none
def inD (neg : Bool) : Op2 := fun x y S => match toP S 60 x, toP S 60 y with
  | some p, some (.list qs) => some (.bl (if neg then !qs.any fun z => PyData.eqv z p else qs.any fun z => PyData.eqv z p), S)
  | some p, some (.tuple qs) => some (.bl (if neg then !qs.any fun z => PyData.eqv z p else qs.any fun z => PyData.eqv z p), S)
  | _, _ => none
/-- is None, is True -/
def isD (neg : Bool) : Op2 := fun x y S => match y with
  | .non => match x with
    | .non => some (.bl (!neg), S)
    | _ => some (.bl neg, S)
  | .bl b => match x with
    | .bl a => some (.bl (if neg then !decide (a = b) else decide (a = b)), S)
    | _ => none
  | _ => none
section
variable {T : Tab} {X : Cx} {ι : List Addr} {H : Hp} {S : Store}
theorem toPs_ok {K : PySem.W.Frag} {mg : Str → Option Value} {n : Nat} (ih : ∀ d v p, VR T K mg ι H d v → toP S n d = some p → Dp K H v p ∧ p.canLay0 = true ∧ p.depth ≤ n) :
    ∀ ds vs ps, VsR T K mg ι H ds vs → toPs (toP S n) ds = some ps → DpAll K H vs ps ∧ PyData.canLayAll0 ps = true ∧ PyData.depthAll ps ≤ n
  | [], vs, ps, r, e => by
    simp only [VsR] at r
    subst r
    cases e
    exact ⟨.nil, by simp [PyData.canLayAll0], by simp [PyData.depthAll]⟩
  | d :: ds, vs, ps, r, e => by
    simp only [VsR] at r
    obtain ⟨v, vr, rfl, r1, r2⟩ := r
    unfold toPs at e
    match e1 : toP S n d, e2 : toPs (toP S n) ds, e with
    | some p, some qs, e =>
      cases e
      obtain ⟨a1, a2, a3⟩ := ih d v p r1 e1
      obtain ⟨b1, b2, b3⟩ := toPs_ok ih ds vr qs r2 e2
      exact ⟨.cons a1 b1, by simp [PyData.canLayAll0, a2, b2], by simp only [PyData.depthAll]; omega⟩
theorem toP_ok {K : PySem.W.Frag} {mg : Str → Option Value} (s : Sim T K mg ι S H) : ∀ n d v p, VR T K mg ι H d v → toP S n d = some p → Dp K H v p ∧ p.canLay0 = true ∧ p.depth ≤ n
  | 0, d, v, p, r, e => by cases e
  | n + 1, d, v, p, r, e => by
    have seq : ∀ {ds : List D} {vs : List V} {f : List PyData → PyData} {p : PyData}, VsR T K mg ι H ds vs → (toPs (toP S n) ds).map f = some p → ∃ ps, p = f ps ∧ DpAll K H vs ps ∧ PyData.canLayAll0 ps = true ∧ PyData.depthAll ps ≤ n := fun {ds vs f p} r e => by
      match e1 : toPs (toP S n) ds, e with
      | some ps, e =>
        cases e
        exact ⟨ps, rfl, toPs_ok (toP_ok s n) ds vs ps r e1⟩
    cases d with
    | non => simp only [VR] at r; subst r; cases e; exact ⟨.non, by simp [PyData.canLay0], by simp [PyData.depth]⟩
    | bl b => simp only [VR] at r; subst r; cases e; exact ⟨.bl b, by simp [PyData.canLay0], by simp [PyData.depth]⟩
    | int b => simp only [VR] at r; subst r; cases e; exact ⟨.int b, by simp [PyData.canLay0], by simp [PyData.depth]⟩
    | str x =>
      simp only [VR] at r
      subst r
      unfold toP at e
      dsimp only at e
      split at e
      · rename_i h; cases e; exact ⟨.str x, by simp [PyData.canLay0, h], by simp [PyData.depth]⟩
      · cases e
    | tup ds =>
      simp only [VR] at r
      obtain ⟨a, vs, rfl, q, r⟩ := r
      obtain ⟨ps, rfl, h1, h2, h3⟩ := seq (f := .tuple) r e
      exact ⟨.tup q.seq h1, by simpa only [PyData.canLay0] using h2, by simp only [PyData.depth]; omega⟩
    | wtup ds =>
      simp only [VR] at r
      obtain ⟨a, vs, rfl, q, r⟩ := r
      obtain ⟨ps, rfl, h1, h2, h3⟩ := seq (f := .tuple) r e
      exact ⟨.tup q h1, by simpa only [PyData.canLay0] using h2, by simp only [PyData.depth]; omega⟩
    | frz ds =>
      simp only [VR] at r
      obtain ⟨a, vs, rfl, q, r⟩ := r
      obtain ⟨ps, rfl, h1, h2, h3⟩ := seq (f := .list) r e
      exact ⟨.lst q.seq h1, by simpa only [PyData.canLay0] using h2, by simp only [PyData.depth]; omega⟩
    | ref c =>
      simp only [VR] at r
      obtain ⟨a, i, rfl⟩ := r
      unfold toP at e
      dsimp only at e
      match e1 : S[c]?, e with
      | some (.lst ds), e =>
        obtain ⟨vs, h, r⟩ := lst_at s e1 i
        obtain ⟨ps, rfl, h1, h2, h3⟩ := seq (f := .list) r e
        exact ⟨.lst (SqL.of h) h1, by simpa only [PyData.canLay0] using h2, by simp only [PyData.depth]; omega⟩
    | gl k => cases e
theorem shaped_of {p : PyData} (h1 : p.canLay0 = true) (h2 : p.depth ≤ 60) : SeqAt.shaped p = true := by
  show (p.canLay0 && decide (p.depth ≤ 64)) = true
  rw [h1, Bool.true_and]
  exact decide_eq_true (by omega)
theorem opEq (hu : X.A.units + 64 < cLine) : OpR X (compareOp .Eq) (rD2 T X.K X.mg eqD) :=
  OpR.imp (op_eqD hu) fun x y H Q h => by
    obtain ⟨ι, S, dx, dy, s, rx, ry, p⟩ := h
    unfold eqD at p
    match e1 : toP S 60 dx, e2 : toP S 60 dy, p with
    | some a, some b, p =>
      obtain ⟨a1, a2, a3⟩ := toP_ok s 60 dx x a rx e1
      obtain ⟨b1, b2, b3⟩ := toP_ok s 60 dy y b ry e2
      exact ⟨a, b, a1, b1, shaped_of a2 a3, shaped_of b2 b3, p.bl s⟩
theorem opNe (hu : X.A.units + 64 < cLine) : OpR X (compareOp .NotEq) (rD2 T X.K X.mg neD) :=
  OpR.imp (op_neD hu) fun x y H Q h => by
    obtain ⟨ι, S, dx, dy, s, rx, ry, p⟩ := h
    unfold neD at p
    match e1 : toP S 60 dx, e2 : toP S 60 dy, p with
    | some a, some b, p =>
      obtain ⟨a1, a2, a3⟩ := toP_ok s 60 dx x a rx e1
      obtain ⟨b1, b2, b3⟩ := toP_ok s 60 dy y b ry e2
      exact ⟨a, b, a1, b1, shaped_of a2 a3, shaped_of b2 b3, p.bl s⟩
def rInT (K : PySem.W.Frag) (neg : Bool) : R2 := fun x y H Q => ∃ d ds, Dp K H x d ∧ Dp K H y (.tuple ds) ∧ SeqAt.shaped d = true ∧ SeqAt.shaped (.tuple ds) = true ∧ Q (.bl (if neg then !ds.any fun z => PyData.eqv z d else ds.any fun z => PyData.eqv z d)) H
theorem op_inT (hu : X.A.units + 65 < cLine) : OpR X (compareOp .In) (rInT X.K false) := by
  intro pins s σ H x y v u Q I rx ry h
  obtain ⟨d, ds, hd, he, sd, se, q⟩ := h
  obtain ⟨as, r1⟩ := Dp.reads I d x v hd rx
  obtain ⟨bs, r2⟩ := Dp.reads I (.tuple ds) y u he ry
  exact SeqAt.in_tuple_reads r2 r1 (SeqAt.canLay_of_shaped se) (SeqAt.canLay_of_shaped sd) (room_in_shaped sd hu) ⟨.bl _, H, I, rfl, q⟩
theorem op_notInT (hu : X.A.units + 65 < cLine) : OpR X (compareOp .NotIn) (rInT X.K true) := by
  intro pins s σ H x y v u Q I rx ry h
  obtain ⟨d, ds, hd, he, sd, se, q⟩ := h
  obtain ⟨as, r1⟩ := Dp.reads I d x v hd rx
  obtain ⟨bs, r2⟩ := Dp.reads I (.tuple ds) y u he ry
  exact SeqAt.notIn_tuple_reads r2 r1 (SeqAt.canLay_of_shaped se) (SeqAt.canLay_of_shaped sd) (room_in_shaped sd hu) ⟨.bl _, H, I, rfl, q⟩
theorem in_read {neg : Bool} {x y : V} {H : Hp} {Q : VK} (h : rD2 T X.K X.mg (inD neg) x y H Q) :
    (∃ d ds, Dp X.K H x d ∧ Dp X.K H y (.list ds) ∧ SeqAt.shaped d = true ∧ SeqAt.shaped (.list ds) = true ∧ Q (.bl (if neg then !ds.any fun z => PyData.eqv z d else ds.any fun z => PyData.eqv z d)) H) ∨ rInT X.K neg x y H Q := by
  obtain ⟨ι, S, dx, dy, s, rx, ry, p⟩ := h
  unfold inD at p
  match e1 : toP S 60 dx, e2 : toP S 60 dy, p with
  | some a, some (.list bs), p =>
    obtain ⟨a1, a2, a3⟩ := toP_ok s 60 dx x a rx e1
    obtain ⟨b1, b2, b3⟩ := toP_ok s 60 dy y _ ry e2
    exact .inl ⟨a, bs, a1, b1, shaped_of a2 a3, shaped_of b2 b3, p.bl s⟩
  | some a, some (.tuple bs), p =>
    obtain ⟨a1, a2, a3⟩ := toP_ok s 60 dx x a rx e1
    obtain ⟨b1, b2, b3⟩ := toP_ok s 60 dy y _ ry e2
    exact .inr ⟨a, bs, a1, b1, shaped_of a2 a3, shaped_of b2 b3, p.bl s⟩
theorem opIn (hu : X.A.units + 65 < cLine) : OpR X (compareOp .In) (rD2 T X.K X.mg (inD false)) := OpR.imp ((op_inD hu).or (op_inT hu)) fun x y H Q h => in_read h
theorem opNotIn (hu : X.A.units + 65 < cLine) : OpR X (compareOp .NotIn) (rD2 T X.K X.mg (inD true)) := OpR.imp ((op_notInD hu).or (op_notInT hu)) fun x y H Q h => in_read h
theorem is_read {neg : Bool} {x y : V} {H : Hp} {Q : VK} (h : rD2 T X.K X.mg (isD neg) x y H Q) : (y = .non ∧ Q (.bl (if neg then !decide (x = .non) else decide (x = .non))) H) ∨ ∃ a b : Bool, x = .bl a ∧ y = .bl b ∧ Q (.bl (if neg then !decide (a = b) else decide (a = b))) H := by
  obtain ⟨ι, S, dx, dy, s, rx, ry, p⟩ := h
  cases dy <;> first | exact p.elim | skip
  case non =>
    simp only [VR] at ry
    subst ry
    refine .inl ⟨rfl, ?_⟩
    have ne : dx ≠ .non → x ≠ .non := by
      intro h e
      subst e
      cases dx <;> simp only [VR] at rx <;> first | exact h rfl | (cases rx; done) | (obtain ⟨_, _, h, _⟩ := rx; cases h) | (obtain ⟨_, _, h⟩ := rx; cases h)
    cases dx <;> first
      | (simp only [VR] at rx; subst rx; have := p.bl s; cases neg <;> simpa using this)
      | (have h := ne (by intro z; cases z); have := PV.bl p s; cases neg <;> simpa [h] using this)
  case bl b =>
    simp only [VR] at ry
    subst ry
    cases dx <;> first | exact p.elim | skip
    case bl a =>
      simp only [VR] at rx
      exact .inr ⟨a, b, rx, rfl, p.bl s⟩
theorem opIs : OpR X (compareOp .Is) (rD2 T X.K X.mg (isD false)) := OpR.imp (op_isN.or op_isBl) fun x y H Q h => is_read h
theorem opIsNot : OpR X (compareOp .IsNot) (rD2 T X.K X.mg (isD true)) := OpR.imp (op_notN.or op_notBl) fun x y H Q h => is_read h
end
/-! ### subscripts, slices -/
def ixD : Op2 := fun x y S => match y with
  | .int i => match x with
    | .tup ds => match atI ds i with
      | some d => some (d, S)
      | none => none
    | .wtup ds => match atI ds i with
      | some d => some (d, S)
      | none => none
    | .frz ds => match atI ds i with
      | some d => some (d, S)
      | none => none
    | .ref c => match S[c]? with
      | some (.lst ds) => match atI ds i with
        | some d => some (d, S)
        | none => none
      | _ => none
    | _ => none
  | _ => none
/-- a slice's parts -/
abbrev Pv' := Loc → Store → Rs (Option Int)
def pNo : Pv' := fun _ S => ok none S
def pAt (e : Ev) : Pv' := fun ρ S => bnd (e ρ S) fun d S1 => match d with
  | .int i => ok (some i) S1
  | _ => none
def cutD (xs : List D) (lo hi : Option Int) : List D := (xs.drop (HT.sIx xs.length 0 lo)).take (HT.sIx xs.length xs.length hi - HT.sIx xs.length 0 lo)
def slD : D → Option Int → Option Int → Store → Option (D × Store) := fun x lo hi S => match x with
  | .tup ds => some (.tup (cutD ds lo hi), S)
  | .frz ds => newL (cutD ds lo hi) S
  | .ref c => match S[c]? with
    | some (.lst ds) => newL (cutD ds lo hi) S
    | _ => none
  | _ => none
def eSl (e : Ev) (lo hi : Pv') : Ev := fun ρ S => bnd (e ρ S) fun x S1 => bnd (lo ρ S1) fun l S2 => bnd (hi ρ S2) fun h S3 => lift (slD x l h S3)
section
variable {T : Tab} {X : Cx} {W : WX} {ι : List Addr} {H : Hp} {S : Store} {a b : Expr} {pos p2 : Pos}
theorem atI_rel {K : PySem.W.Frag} {mg : Str → Option Value} {ds : List D} {vs : List V} {i : Int} {d : D} (r : VsR T K mg ι H ds vs) (e : atI ds i = some d) : ∃ v, atI vs i = some v ∧ VR T K mg ι H d v := by
  unfold atI at e ⊢
  rw [r.length]
  cases h : ixN ds.length i with
  | none => rw [h] at e; cases e
  | some j =>
    rw [h] at e
    exact r.get e
theorem ix_read {x y : V} {H : Hp} {Q : VK} (h : rD2 T X.K X.mg ixD x y H Q) : rIx X.K x y H Q := by
  obtain ⟨ι, S, dx, dy, s, rx, ry, p⟩ := h
  cases dy <;> first | exact p.elim | skip
  case int i =>
    simp only [VR] at ry
    have fin : ∀ {ds : List D} {vs : List V}, VsR T X.K X.mg ι H ds vs → PV T X.K X.mg ι H (match atI ds i with | some d => some (d, S) | none => none) Q → ∃ v, atI vs i = some v ∧ Q v H := fun {ds vs} r p => by
      match e : atI ds i, p with
      | some d, p =>
        obtain ⟨v, e1, r1⟩ := atI_rel r e
        exact ⟨v, e1, p.here s r1⟩
    cases dx <;> first | exact p.elim | skip
    case tup ds =>
      simp only [VR] at rx
      obtain ⟨a, vs, rfl, q, r⟩ := rx
      obtain ⟨v, e, z⟩ := fin r p
      exact .inr (.inl ⟨a, vs, i, v, rfl, ry, q.seq, e, z⟩)
    case wtup ds =>
      simp only [VR] at rx
      obtain ⟨a, vs, rfl, q, r⟩ := rx
      obtain ⟨v, e, z⟩ := fin r p
      exact .inr (.inl ⟨a, vs, i, v, rfl, ry, q, e, z⟩)
    case frz ds =>
      simp only [VR] at rx
      obtain ⟨a, vs, rfl, q, r⟩ := rx
      obtain ⟨v, e, z⟩ := fin r p
      exact .inl ⟨a, vs, i, v, rfl, ry, q.seq, e, z⟩
    case ref c =>
      simp only [VR] at rx
      obtain ⟨a, j, rfl⟩ := rx
      unfold ixD at p
      dsimp only at p
      match e1 : S[c]?, p with
      | some (.lst ds), p =>
        obtain ⟨vs, h, r⟩ := lst_at s e1 j
        obtain ⟨v, e, z⟩ := fin r p
        exact .inl ⟨a, vs, i, v, rfl, ry, SqL.of h, e, z⟩
theorem de_ix {fa fb : Ev} (ha : PE X a (tE T X W fa)) (hb : PE X b (tE T X W fb)) (hs : PlainIx b := by exact fun _ _ => rfl) : PE X (.Subscript a b pos) (tE T X W (eBin ixD fa fb)) :=
  PE.imp (pe_ix ix_seq ha hb hs) (two fun _ _ _ _ h => ix_read h)
theorem PO.imp {e : Option Expr} {t t' : TO} (h : PO X e t) (k : ∀ σ H Q, t' σ H Q → t σ H Q) : PO X e t' := ⟨fun pins s σ H Q I q => h.run pins s σ H Q I (k σ H Q q)⟩
abbrev repO : List Addr → Hp → Option Int → Option Int → Prop := fun _ _ a b => a = b
theorem dp_no : PO X none (tG T X W repO pNo) := PO.imp po_none fun σ H Q q => by
  obtain ⟨ι, S, ρ, cf, p⟩ := q
  exact p ι none H (Grow.refl _ _) cf.sim rfl
theorem dp_at {e : Expr} {f : Ev} (h : PE X e (tE T X W f)) : PO X (some e) (tG T X W repO (pAt f)) := PO.imp (po_some h) fun σ H Q q => by
  obtain ⟨ι, S, ρ, cf, p⟩ := q
  refine ⟨ι, S, ρ, cf, (Post.bnd p).mono (fun x H1 q => ?_) fun _ _ _ e => e⟩
  obtain ⟨ι1, S1, d, g1, s1, r1, p1⟩ := q
  cases d <;> first | exact p1.elim | skip
  case int i =>
    simp only [repE, VR] at r1
    exact ⟨i, r1, p1 ι1 _ H1 (Grow.refl _ _) s1 rfl⟩
/-- a tuple's slice, known to the object -/
def rSlF (K : PySem.W.Frag) : V → Option Int → Option Int → Hp → VK → Prop := fun x lo hi H Q => ∃ a xs, x = .ref a ∧ SqT K H a xs ∧
  (HT.sIx xs.length 0 lo = 0 ∧ HT.sIx xs.length xs.length hi = xs.length → Q (.ref a) H) ∧ (∀ p o, H p = none → o.dict = none → Q (.ref p) (upd H p (.frz o (.tup (cutV xs lo hi)))))
theorem sl_tupF : SlR X (rSlF X.K) := by
  intro pins s σ H x v vl vu lo hi sl Q I rx hs pl pu h
  obtain ⟨a, xs, rfl, hx, q1, q2⟩ := h
  cases rx
  obtain ⟨its, r, ht, hz⟩ := I.tuple hx
  have hlen : its.toArray.size = xs.length := by rw [List.size_toArray]; exact r.length.symm
  refine ⟨"tuple", _, PyProof.Rows.slot_tuple_getitem.lookup, ht.typeIs, ?_⟩
  by_cases hw : HT.sIx xs.length 0 lo = 0 ∧ HT.sIx xs.length xs.length hi = xs.length
  · exact getItem_tuple_whole ht hs pl pu (by rw [hlen]; exact hw) ⟨.ref a, H, I, rfl, q1 hw⟩
  · refine HT.getItem_tuple_cut ht hs pl pu (by rw [hlen]; exact hw) ?_ (by rw [hlen]; exact hz)
    rw [hlen]
    exact tup_laid (tk := s.toks) I ((r.drop (HT.sIx xs.length 0 lo)).take (HT.sIx xs.length xs.length hi - HT.sIx xs.length 0 lo)) (Nat.le_trans (cutV_length xs lo hi) hz) (fun b ob q => Heap.get?_push_of_some _ q) (Nat.le_refl _) (Heap.get?_push_size _ rfl) rfl rfl _ rfl (q2 _)
theorem cut_rel {K : PySem.W.Frag} {mg : Str → Option Value} {ds : List D} {vs : List V} (r : VsR T K mg ι H ds vs) (lo hi : Option Int) : VsR T K mg ι H (cutD ds lo hi) (cutV vs lo hi) := by
  unfold cutD cutV
  rw [r.length]
  exact (r.drop _).take _
theorem sl_read {x : V} {lo hi : Option Int} {H : Hp} {Q : VK} {ι : List Addr} {S : Store} {dx : D} (s : Sim T X.K X.mg ι S H) (rx : VR T X.K X.mg ι H dx x) (p : PV T X.K X.mg ι H (slD dx lo hi S) Q) : rSlL X.K x lo hi H Q ∨ rSlF X.K x lo hi H Q := by
  cases dx <;> first | exact p.elim | skip
  case tup ds =>
    simp only [VR] at rx
    obtain ⟨a, vs, rfl, q, r⟩ := rx
    refine .inr ⟨a, vs, rfl, q.seq, fun ⟨h1, h2⟩ => ?_, fun q o hq ho => PV.tup p s (cut_rel r lo hi) hq ho⟩
    refine PV.here p s ?_
    simp only [VR]
    refine ⟨a, vs, rfl, q, ?_⟩
    have e : cutD ds lo hi = ds := by
      unfold cutD
      rw [← r.length, h1, h2]
      simp [r.length]
    rw [e]
    exact r
  case frz ds =>
    simp only [VR] at rx
    obtain ⟨a, vs, rfl, q, r⟩ := rx
    exact .inl ⟨a, vs, rfl, q.seq, fun q hq => PV.lst p s (cut_rel r lo hi) hq⟩
  case ref c =>
    simp only [VR] at rx
    obtain ⟨a, i, rfl⟩ := rx
    unfold slD at p
    dsimp only at p
    match e : S[c]?, p with
    | some (.lst ds), p =>
      obtain ⟨vs, h, r⟩ := lst_at s e i
      exact .inl ⟨a, vs, rfl, SqL.of h, fun q hq => PV.lst p s (cut_rel r lo hi) hq⟩
theorem de_sl {lo hi : Option Expr} {f : Ev} {l h : Pv'} (he : PE X a (tE T X W f)) (hl : PO X lo (tG T X W repO l)) (hh : PO X hi (tG T X W repO h)) : PE X (.Subscript a (.Slice lo hi none p2) pos) (tE T X W (eSl f l h)) :=
  PE.imp (pe_slice (sl_list.or sl_tupF) he hl hh) fun σ H Q q => by
    obtain ⟨ι, S, ρ, cf, p⟩ := q
    refine ⟨ι, S, ρ, cf, (Post.bnd p).mono (fun x H1 q => ?_) fun _ _ _ e => e⟩
    obtain ⟨ι1, S1, d, g1, s1, r1, p1⟩ := q
    refine ⟨ι1, S1, ρ, cf.grow g1 s1, (Post.bnd p1).mono (fun lo' H2 q => ?_) fun _ _ _ e => e⟩
    obtain ⟨ι2, S2, l2, g2, s2, e2, p2⟩ := q
    have e2' : l2 = lo' := e2
    subst e2'
    refine ⟨ι2, S2, ρ, (cf.grow g1 s1).grow g2 s2, (Post.bnd p2).mono (fun hi' H3 q => ?_) fun _ _ _ e => e⟩
    obtain ⟨ι3, S3, l3, g3, s3, e3, p3⟩ := q
    have e3' : l3 = hi' := e3
    subst e3'
    exact sl_read s3 (VR.grow s1 (g2.trans g3) r1) p3.pv
end
end Dl
set_option Elab.async false
set_option linter.all false
set_option maxRecDepth 100000
set_option maxHeartbeats 2000000
namespace Dl
open PySem PySem.Spec PyProof.Rows L2
/-! ### built-ins -/
/-- the items of what is walked at once: a list, a tuple -/
def seqD : D → Store → Option (List D)
  | .tup ds, _ => some ds
  | .wtup ds, _ => some ds
  | .frz ds, _ => some ds
  | .ref c, S => match S[c]? with
    | some (.lst ds) => some ds
    | _ => none
  | _, _ => none
def lenA : OpA := fun xs S => match xs with
  | [x] => match seqD x S with
    | some ds => some (.int (ds.length : Nat), S)
    | none => none
  | _ => none
def listA : OpA := fun xs S => match xs with
  | [x] => match seqD x S with
    | some ds => newL ds S
    | none => none
  | _ => none
def tupD : D → Store → Option (List D)
  | .wtup _, _ => none
  | x, S => seqD x S
def tupleA : OpA := fun xs S => match xs with
  | [x] => match tupD x S with
    | some ds => some (.tup ds, S)
    | none => none
  | _ => none
def absA : OpA := fun xs S => match xs with
  | [.int i] => some (.int (if i < 0 then -i else i), S)
  | _ => none
def intA : OpA := fun xs S => match xs with
  | [.int i] => some (.int i, S)
  | [.bl b] => some (.int (if b then 1 else 0), S)
  | _ => none
def max2A : OpA := fun xs S => match xs with
  | [.int i, .int j] => some (.int (if j > i then j else i), S)
  | _ => none
def min2A : OpA := fun xs S => match xs with
  | [.int i, .int j] => some (.int (if j < i then j else i), S)
  | _ => none
def intsD : List D → Option (List Int)
  | [] => some []
  | .int i :: ds => match intsD ds with
    | some ns => some (i :: ns)
    | none => none
  | _ => none
def blsD : List D → Option (List Bool)
  | [] => some []
  | .bl i :: ds => match blsD ds with
    | some ns => some (i :: ns)
    | none => none
  | _ => none
/-- a list's -/
def lstD : D → Store → Option (List D)
  | .frz ds, _ => some ds
  | .ref c, S => match S[c]? with
    | some (.lst ds) => some ds
    | _ => none
  | _, _ => none
def onInts (g : List Int → Store → Option (D × Store)) : OpA := fun xs S => match xs with
  | [x] => match lstD x S with
    | some ds => match intsD ds with
      | some ns => g ns S
      | none => none
    | none => none
  | _ => none
def sumA : OpA := onInts fun ns S => some (.int ns.sum, S)
def maxOf : List Int → Int
  | [] => 0
  | [n] => n
  | n :: ns => max n (maxOf ns)
def minOf : List Int → Int
  | [] => 0
  | [n] => n
  | n :: ns => min n (minOf ns)
def maxLA : OpA := onInts fun ns S => if ns = [] then none else some (.int (maxOf ns), S)
def minLA : OpA := onInts fun ns S => if ns = [] then none else some (.int (minOf ns), S)
def insI (x : Int) : List Int → List Int
  | [] => [x]
  | y :: ys => if x ≤ y then x :: y :: ys else y :: insI x ys
def sortI : List Int → List Int
  | [] => []
  | x :: xs => insI x (sortI xs)
def sortedA : OpA := onInts fun ns S => if ns.length < 64 then newL ((sortI ns).map .int) S else none
def onBls (g : List Bool → Bool) : OpA := fun xs S => match xs with
  | [x] => match lstD x S with
    | some ds => match blsD ds with
      | some ns => some (.bl (g ns), S)
      | none => none
    | none => none
  | _ => none
def allA : OpA := onBls fun bs => bs.all id
def anyA : OpA := onBls fun bs => bs.any id
section
variable {T : Tab} {X : Cx} {W : WX} {ι : List Addr} {H : Hp} {S : Store}
theorem intsD_eq : ∀ {ds : List D} {ns : List Int}, intsD ds = some ns → ds = ns.map D.int
  | [], ns, e => by cases e; rfl
  | .int i :: ds, ns, e => by
    unfold intsD at e
    match e1 : intsD ds, e with
    | some ms, e => cases e; rw [intsD_eq e1]; rfl
  | .non :: ds, ns, e => by cases e
  | .bl _ :: ds, ns, e => by cases e
  | .str _ :: ds, ns, e => by cases e
  | .tup _ :: ds, ns, e => by cases e
  | .wtup _ :: ds, ns, e => by cases e
  | .frz _ :: ds, ns, e => by cases e
  | .ref _ :: ds, ns, e => by cases e
  | .gl _ :: ds, ns, e => by cases e
theorem intsD_map : ∀ ns : List Int, intsD (ns.map D.int) = some ns
  | [] => rfl
  | n :: ns => by show (match intsD (ns.map D.int) with | some ms => some (n :: ms) | none => none) = _; rw [intsD_map ns]
theorem blsD_eq : ∀ {ds : List D} {ns : List Bool}, blsD ds = some ns → ds = ns.map D.bl
  | [], ns, e => by cases e; rfl
  | .bl i :: ds, ns, e => by
    unfold blsD at e
    match e1 : blsD ds, e with
    | some ms, e => cases e; rw [blsD_eq e1]; rfl
  | .non :: ds, ns, e => by cases e
  | .int _ :: ds, ns, e => by cases e
  | .str _ :: ds, ns, e => by cases e
  | .tup _ :: ds, ns, e => by cases e
  | .wtup _ :: ds, ns, e => by cases e
  | .frz _ :: ds, ns, e => by cases e
  | .ref _ :: ds, ns, e => by cases e
  | .gl _ :: ds, ns, e => by cases e
theorem blsD_map : ∀ ns : List Bool, blsD (ns.map D.bl) = some ns
  | [] => rfl
  | n :: ns => by show (match blsD (ns.map D.bl) with | some ms => some (n :: ms) | none => none) = _; rw [blsD_map ns]
theorem seq_rel {K : PySem.W.Frag} {mg : Str → Option Value} {x : D} {v : V} {ds : List D} (s : Sim T K mg ι S H) (r : VR T K mg ι H x v) (e : seqD x S = some ds) :
    ∃ a vs, v = .ref a ∧ (SqL K H a vs ∨ SqT K H a vs) ∧ VsR T K mg ι H ds vs ∧ ((∃ t, x = .tup t) → TupF K H a vs) ∧ ((∀ t, x ≠ .tup t) → (∀ t, x ≠ .wtup t) → SqL K H a vs) := by
  cases x <;> first | (cases e; done) | skip
  case tup t =>
    cases e
    simp only [VR] at r
    obtain ⟨a, vs, rfl, q, r⟩ := r
    exact ⟨a, vs, rfl, .inr q.seq, r, fun _ => q, fun h => absurd rfl (h _)⟩
  case wtup t =>
    cases e
    simp only [VR] at r
    obtain ⟨a, vs, rfl, q, r⟩ := r
    exact ⟨a, vs, rfl, .inr q, r, (fun h => by obtain ⟨_, h⟩ := h; cases h), fun _ h => absurd rfl (h _)⟩
  case frz t =>
    cases e
    simp only [VR] at r
    obtain ⟨a, vs, rfl, q, r⟩ := r
    exact ⟨a, vs, rfl, .inl q.seq, r, (fun h => by obtain ⟨_, h⟩ := h; cases h), fun _ _ => q.seq⟩
  case ref c =>
    simp only [VR] at r
    obtain ⟨a, i, rfl⟩ := r
    unfold seqD at e
    dsimp only at e
    match e1 : S[c]?, e with
    | some (.lst ds'), e =>
      cases e
      obtain ⟨vs, h, r⟩ := lst_at s e1 i
      exact ⟨a, vs, rfl, .inl (SqL.of h), r, (fun h => by obtain ⟨_, h⟩ := h; cases h), fun _ _ => SqL.of h⟩
theorem lst_rel {K : PySem.W.Frag} {mg : Str → Option Value} {x : D} {v : V} {ds : List D} (s : Sim T K mg ι S H) (r : VR T K mg ι H x v) (e : lstD x S = some ds) : ∃ a vs, v = .ref a ∧ SqL K H a vs ∧ VsR T K mg ι H ds vs := by
  cases x <;> first | (cases e; done) | skip
  case frz t =>
    cases e
    simp only [VR] at r
    obtain ⟨a, vs, rfl, q, r⟩ := r
    exact ⟨a, vs, rfl, q.seq, r⟩
  case ref c =>
    simp only [VR] at r
    obtain ⟨a, i, rfl⟩ := r
    unfold lstD at e
    dsimp only at e
    match e1 : S[c]?, e with
    | some (.lst ds'), e =>
      cases e
      obtain ⟨vs, h, r⟩ := lst_at s e1 i
      exact ⟨a, vs, rfl, SqL.of h, r⟩
theorem one_of {K : PySem.W.Frag} {mg : Str → Option Value} {d : D} {vs : List V} (r : VsR T K mg ι H [d] vs) : ∃ v, vs = [v] ∧ VR T K mg ι H d v := by
  simp only [VsR] at r
  obtain ⟨v, r, rfl, h, rfl⟩ := r
  exact ⟨v, rfl, h⟩
theorem two_of {K : PySem.W.Frag} {mg : Str → Option Value} {d e : D} {vs : List V} (r : VsR T K mg ι H [d, e] vs) : ∃ v u, vs = [v, u] ∧ VR T K mg ι H d v ∧ VR T K mg ι H e u := by
  simp only [VsR] at r
  obtain ⟨v, r, rfl, h, u, r2, rfl, h2, rfl⟩ := r
  exact ⟨v, u, rfl, h, h2⟩
theorem cLen : CallR X (.builtin "len") (rDA T X.K X.mg lenA) := CallR.imp call_len_seq fun xs H Q h => by
  obtain ⟨ι, S, ds, s, r, p⟩ := h
  match ds, p with
  | [x], p =>
    obtain ⟨v, rfl, rr⟩ := one_of r
    unfold lenA at p
    dsimp only at p
    match e : seqD x S, p with
    | some ys, p =>
      obtain ⟨a, vs, rfl, q, r2, _⟩ := seq_rel s rr e
      exact ⟨a, vs, rfl, q, by rw [r2.length]; exact p.int s⟩
theorem cList : CallR X (.type "list") (rDA T X.K X.mg listA) := CallR.imp call_list_of fun xs H Q h => by
  obtain ⟨ι, S, ds, s, r, p⟩ := h
  match ds, p with
  | [x], p =>
    obtain ⟨v, rfl, rr⟩ := one_of r
    unfold listA at p
    dsimp only at p
    match e : seqD x S, p with
    | some ys, p =>
      obtain ⟨a, vs, rfl, q, r2, _⟩ := seq_rel s rr e
      exact ⟨a, vs, rfl, q, fun q hq => p.lst s r2 hq⟩
/-- tuple(list), known to the object -/
def rTupF (K : PySem.W.Frag) : List V → Hp → VK → Prop := fun xs H Q => ∃ p ys, xs = [.ref p] ∧ ((SqL K H p ys ∧ ∀ l o, H l = none → o.dict = none → Q (.ref l) (upd H l (.frz o (.tup ys)))) ∨ (SqT K H p ys ∧ Q (.ref p) H))
theorem call_tupF : CallR X (.type "tuple") (rTupF X.K) := by
  intro pins s σ H xs us Q I r h
  obtain ⟨p, ys, rfl, h⟩ := h
  obtain ⟨u, rfl, rx⟩ := vals1 r
  cases rx
  rcases h with ⟨hq, q⟩ | ⟨hq, q⟩
  · obtain ⟨its, r', pl, hz⟩ := I.list hq
    have hlen := r'.length
    refine call_tuple_list pl.isList (fun h' kp => ?_) (by simp only [List.size_toArray] <;> omega)
    have I1 : Inv X pins σ H { s with heap := h' } := I.kept (t' := s.toks) kp
    exact tup_laid (s := { s with heap := h' }) (tk := s.toks) I1 r' hz (fun b o e => Heap.get?_push_of_some _ e) (Nat.le_refl _) (Heap.get?_push_size _ rfl) rfl rfl _ rfl (q _)
  · obtain ⟨its, r', pl, hz⟩ := I.tuple hq
    exact call_tuple_same pl ⟨.ref p, H, I, rfl, q⟩
theorem cTuple : CallR X (.type "tuple") (rDA T X.K X.mg tupleA) := CallR.imp call_tupF fun xs H Q h => by
  obtain ⟨ι, S, ds, s, r, p⟩ := h
  match ds, p with
  | [x], p =>
    obtain ⟨v, rfl, rr⟩ := one_of r
    unfold tupleA at p
    dsimp only at p
    match e0 : tupD x S, p with
    | some ys, p =>
      have h2 : ¬ ∃ t, x = .wtup t := fun ⟨t, h⟩ => by subst h; cases e0
      have e : seqD x S = some ys := by rw [← e0]; cases x <;> first | rfl | exact absurd ⟨_, rfl⟩ h2
      obtain ⟨a, vs, rfl, q, r2, ht, hl⟩ := seq_rel s rr e
      refine ⟨a, vs, rfl, ?_⟩
      by_cases h1 : ∃ t, x = .tup t
      · have tf := ht h1
        exact .inr ⟨tf.seq, p.here s (by simp only [VR]; exact ⟨a, vs, rfl, tf, r2⟩)⟩
      · exact .inl ⟨hl (fun t e => h1 ⟨t, e⟩) (fun t e => h2 ⟨t, e⟩), fun q o hq ho => p.tup s r2 hq ho⟩
theorem cAbs : CallR X (.builtin "abs") (rDA T X.K X.mg absA) := CallR.imp call_abs fun xs H Q h => by
  obtain ⟨ι, S, ds, s, r, p⟩ := h
  match ds, p with
  | [.int i], p =>
    obtain ⟨v, rfl, rr⟩ := one_of r
    simp only [VR] at rr
    subst rr
    exact ⟨i, rfl, p.int s⟩
theorem cInt : CallR X (.type "int") (rDA T X.K X.mg intA) := CallR.imp call_int1 fun xs H Q h => by
  obtain ⟨ι, S, ds, s, r, p⟩ := h
  match ds, p with
  | [.int i], p =>
    obtain ⟨v, rfl, rr⟩ := one_of r
    simp only [VR] at rr
    subst rr
    exact .inl ⟨i, rfl, p.int s⟩
  | [.bl i], p =>
    obtain ⟨v, rfl, rr⟩ := one_of r
    simp only [VR] at rr
    subst rr
    exact .inr ⟨i, rfl, p.int s⟩
theorem cMax2 (hc : X.calm = true) : CallR X (.builtin "max") (rDA T X.K X.mg max2A) := CallR.imp (call_max2 hc) fun xs H Q h => by
  obtain ⟨ι, S, ds, s, r, p⟩ := h
  match ds, p with
  | [.int i, .int j], p =>
    obtain ⟨v, u, rfl, r1, r2⟩ := two_of r
    simp only [VR] at r1 r2
    subst r1; subst r2
    exact ⟨i, j, rfl, p.int s⟩
theorem cMin2 (hc : X.calm = true) : CallR X (.builtin "min") (rDA T X.K X.mg min2A) := CallR.imp (call_min2 hc) fun xs H Q h => by
  obtain ⟨ι, S, ds, s, r, p⟩ := h
  match ds, p with
  | [.int i, .int j], p =>
    obtain ⟨v, u, rfl, r1, r2⟩ := two_of r
    simp only [VR] at r1 r2
    subst r1; subst r2
    exact ⟨i, j, rfl, p.int s⟩
theorem onInts_read {g : List Int → Store → Option (D × Store)} {xs : List V} {H : Hp} {Q : VK} (h : rDA T X.K X.mg (onInts g) xs H Q) : ∃ (ι : List Addr) (S : Store) (a : Addr) (ns : List Int), xs = [.ref a] ∧ Sim T X.K X.mg ι S H ∧ SqL X.K H a (ns.map V.int) ∧ PV T X.K X.mg ι H (g ns S) Q := by
  obtain ⟨ι, S, ds, s, r, p⟩ := h
  match ds, p with
  | [x], p =>
    obtain ⟨v, rfl, rr⟩ := one_of r
    unfold onInts at p
    dsimp only at p
    match e : lstD x S, p with
    | some ys, p =>
      dsimp only at p
      match e2 : intsD ys, p with
      | some ns, p =>
        obtain ⟨a, vs, rfl, q, r2⟩ := lst_rel s rr e
        rw [intsD_eq e2] at r2
        rw [r2.ints] at q
        exact ⟨ι, S, a, ns, rfl, s, q, p⟩
theorem cSum (hc : X.calm = true) : CallR X (.builtin "sum") (rDA T X.K X.mg sumA) := CallR.imp (cr_sum hc) fun xs H Q h => by
  obtain ⟨ι, S, a, ns, e, s, q, p⟩ := onInts_read h
  exact ⟨a, ns, e, q, p.int s⟩
theorem maxOf_mem : ∀ {ns : List Int}, ns ≠ [] → maxOf ns ∈ ns ∧ ∀ y ∈ ns, y ≤ maxOf ns
  | [], h => absurd rfl h
  | [n], _ => by simp [maxOf]
  | n :: m :: ns, _ => by
    obtain ⟨h1, h2⟩ := maxOf_mem (ns := m :: ns) (by simp)
    unfold maxOf
    refine ⟨?_, fun y hy => ?_⟩
    · by_cases h : n ≤ maxOf (m :: ns)
      · rw [Int.max_eq_right h]; exact List.mem_cons_of_mem _ h1
      · rw [Int.max_eq_left (by omega)]; exact List.mem_cons_self ..
    · rcases List.mem_cons.mp hy with e | hy
      · subst e; exact Int.le_max_left _ _
      · exact Int.le_trans (h2 y hy) (Int.le_max_right _ _)
theorem minOf_mem : ∀ {ns : List Int}, ns ≠ [] → minOf ns ∈ ns ∧ ∀ y ∈ ns, minOf ns ≤ y
  | [], h => absurd rfl h
  | [n], _ => by simp [minOf]
  | n :: m :: ns, _ => by
    obtain ⟨h1, h2⟩ := minOf_mem (ns := m :: ns) (by simp)
    unfold minOf
    refine ⟨?_, fun y hy => ?_⟩
    · by_cases h : minOf (m :: ns) ≤ n
      · rw [Int.min_eq_right h]; exact List.mem_cons_of_mem _ h1
      · rw [Int.min_eq_left (by omega)]; exact List.mem_cons_self ..
    · rcases List.mem_cons.mp hy with e | hy
      · subst e; exact Int.min_le_left _ _
      · exact Int.le_trans (Int.min_le_right _ _) (h2 y hy)
theorem cMaxL (hc : X.calm = true) : CallR X (.builtin "max") (rDA T X.K X.mg maxLA) := CallR.imp (cr_max hc) fun xs H Q h => by
  obtain ⟨ι, S, a, ns, e, s, q, p⟩ := onInts_read h
  by_cases hn : ns = []
  · rw [if_pos hn] at p; exact p.elim
  · rw [if_neg hn] at p
    refine ⟨a, ns, e, q, List.length_pos_iff.mpr hn, fun m hm hl => ?_⟩
    obtain ⟨h1, h2⟩ := maxOf_mem hn
    have e : m = maxOf ns := Int.le_antisymm (h2 m hm) (hl _ h1)
    rw [e]
    exact p.int s
theorem cMinL (hc : X.calm = true) : CallR X (.builtin "min") (rDA T X.K X.mg minLA) := CallR.imp (cr_min hc) fun xs H Q h => by
  obtain ⟨ι, S, a, ns, e, s, q, p⟩ := onInts_read h
  by_cases hn : ns = []
  · rw [if_pos hn] at p; exact p.elim
  · rw [if_neg hn] at p
    refine ⟨a, ns, e, q, List.length_pos_iff.mpr hn, fun m hm hl => ?_⟩
    obtain ⟨h1, h2⟩ := minOf_mem hn
    have e : m = minOf ns := Int.le_antisymm (hl _ h1) (h2 m hm)
    rw [e]
    exact p.int s
theorem insI_perm (x : Int) : ∀ ys, (insI x ys).Perm (x :: ys)
  | [] => .refl _
  | y :: ys => by
    unfold insI
    split
    · exact .refl _
    · exact ((insI_perm x ys).cons y).trans (.swap x y ys)
theorem sortI_perm : ∀ xs, (sortI xs).Perm xs
  | [] => .refl _
  | x :: xs => (insI_perm x _).trans ((sortI_perm xs).cons x)
theorem insI_sorted (x : Int) : ∀ ys : List Int, ys.Pairwise (· ≤ ·) → (insI x ys).Pairwise (· ≤ ·)
  | [], _ => by simp [insI]
  | y :: ys, h => by
    unfold insI
    obtain ⟨h1, h2⟩ := List.pairwise_cons.mp h
    split
    · rename_i hx
      exact List.pairwise_cons.mpr ⟨fun z hz => by
        rcases List.mem_cons.mp hz with e | hz
        · subst e; exact hx
        · exact Int.le_trans hx (h1 z hz), h⟩
    · rename_i hx
      refine List.pairwise_cons.mpr ⟨fun z hz => ?_, insI_sorted x ys h2⟩
      rcases List.mem_cons.mp ((insI_perm x ys).mem_iff.mp hz) with e | hz
      · subst e; omega
      · exact h1 z hz
theorem sortI_sorted : ∀ xs : List Int, (sortI xs).Pairwise (· ≤ ·)
  | [] => List.Pairwise.nil
  | x :: xs => insI_sorted x _ (sortI_sorted xs)
theorem sort_unique : ∀ {xs ys : List Int}, xs.Perm ys → xs.Pairwise (· ≤ ·) → ys.Pairwise (· ≤ ·) → xs = ys := fun {xs ys} p h1 h2 => p.eq_of_pairwise (fun a b _ _ h1 h2 => Int.le_antisymm h1 h2) h1 h2
theorem cSorted : CallR X (.builtin "sorted") (rDA T X.K X.mg sortedA) := CallR.imp cr_sorted fun xs H Q h => by
  obtain ⟨ι, S, a, ns, e, s, q, p⟩ := onInts_read h
  by_cases hn : ns.length < 64
  · rw [if_pos hn] at p
    refine ⟨a, ns, e, q, hn, fun ns' b pm so hb => ?_⟩
    have : ns' = sortI ns := sort_unique (pm.trans (sortI_perm ns).symm) so (sortI_sorted ns)
    rw [this]
    exact p.lst s (VsR.of_ints _) hb
  · rw [if_neg hn] at p; exact p.elim
theorem onBls_read {g : List Bool → Bool} {xs : List V} {H : Hp} {Q : VK} (h : rDA T X.K X.mg (onBls g) xs H Q) : ∃ (a : Addr) (ns : List Bool), xs = [.ref a] ∧ SqL X.K H a (ns.map V.bl) ∧ Q (.bl (g ns)) H := by
  obtain ⟨ι, S, ds, s, r, p⟩ := h
  match ds, p with
  | [x], p =>
    obtain ⟨v, rfl, rr⟩ := one_of r
    unfold onBls at p
    dsimp only at p
    match e : lstD x S, p with
    | some ys, p =>
      dsimp only at p
      match e2 : blsD ys, p with
      | some ns, p =>
        obtain ⟨a, vs, rfl, q, r2⟩ := lst_rel s rr e
        rw [blsD_eq e2] at r2
        rw [r2.bls] at q
        exact ⟨a, ns, rfl, q, p.bl s⟩
theorem cAll (hc : X.calm = true) : CallR X (.builtin "all") (rDA T X.K X.mg allA) := CallR.imp (cr_all hc) fun xs H Q h => onBls_read h
theorem cAny (hc : X.calm = true) : CallR X (.builtin "any") (rDA T X.K X.mg anyA) := CallR.imp (cr_any hc) fun xs H Q h => onBls_read h
end
end Dl
set_option Elab.async false
set_option linter.all false
set_option maxRecDepth 100000
set_option maxHeartbeats 2000000
namespace Dl
open PySem PySem.Spec PyProof.Rows L2
/-! ### zip of lists and tuples in any mix -/
/-- a list (true), a tuple (false) -/
def SqK (K : PySem.W.Frag) (k : Bool) (H : Hp) (a : Addr) (xs : List V) : Prop := if k = true then SqL K H a xs else SqT K H a xs
def IsK (k : Bool) (h : Heap) (a : Addr) (its : Array Value) : Prop := if k = true then h.IsList a its else h.IsTuple a its
def ItK (k : Bool) (h : Heap) (it a : Addr) (i : Nat) : Prop := if k = true then h.IsListIter it a i else h.IsTupleIter it a i
section
variable {X : Cx} {pins : List (Addr × Obj)} {σ : L2.St} {H : Hp} {s : Shared} {k : Bool} {a : Addr} {xs ys : List V}
theorem Inv_seqK (I : Inv X pins σ H s) (h : SqK X.K k H a xs) : ∃ its : List Value, Vals xs its ∧ IsK k s.heap a its.toArray ∧ xs.length ≤ sizeLine := by
  cases k with
  | true =>
    obtain ⟨its, r, p, z⟩ := I.list (show SqL X.K H a xs from h)
    exact ⟨its, r, p.isList, z⟩
  | false =>
    obtain ⟨its, r, p, z⟩ := I.tuple (show SqT X.K H a xs from h)
    exact ⟨its, r, p, z⟩
theorem Inv_seqK_inj (I : Inv X pins σ H s) (h : SqK X.K k H a xs) (h' : SqK X.K k H a ys) : xs = ys := by
  cases k with
  | true => exact I.list_inj h h'
  | false => exact I.tuple_inj h h'
theorem IsK.lt {h : Heap} {its : Array Value} (p : IsK k h a its) : a < h.objs.size := by
  cases k with
  | true => obtain ⟨o, e, _⟩ := (show h.IsList a its from p); exact Heap.lt_size e
  | false => obtain ⟨o, e, _⟩ := (show h.IsTuple a its from p); exact Heap.lt_size e
theorem ItK.at_ {h h' : Heap} {it : Addr} {i : Nat} (p : ItK k h it a i) (e : ∀ o, h.get? it = some o → h'.get? it = some o) : ItK k h' it a i := by
  cases k with
  | true => exact Heap.IsListIter.at (show h.IsListIter it a i from p) e
  | false => exact Heap.IsTupleIter.at (show h.IsTupleIter it a i from p) e
theorem ItK.obj {h : Heap} {it : Addr} {i : Nat} (p : ItK k h it a i) : ∃ o, h.get? it = some o ∧ ∀ v, o.data ≠ .cell v := by
  cases k with
  | true =>
    obtain ⟨o, e, _, d⟩ := (show h.IsListIter it a i from p)
    exact ⟨o, e, fun v q => by rw [d] at q; cases q⟩
  | false =>
    obtain ⟨o, e, _, d⟩ := (show h.IsTupleIter it a i from p)
    exact ⟨o, e, fun v q => by rw [d] at q; cases q⟩
theorem drawsK {prog : Program} {w : World} {A : Around} (hh : A.handled = none) (it l : Addr) (hne : l ≠ it) (items : Array Value) :
    Draws prog w A it [it, l] items.size (fun i v => items[i]? = some v) (fun i h => ItK k h it l i ∧ IsK k h l items) := by
  cases k with
  | true => exact Draws.list hh it l hne items
  | false => exact Draws.tuple hh it l hne items
theorem beginsK (l : Addr) (items : Array Value) : ∃ o, Begins (.ref l) o (fun h => IsK k h l items) ∧ ∀ h it, h.get? it = some o → ItK k h it l 0 := by
  cases k with
  | true => exact ⟨_, begins_list l items, fun h it e => ⟨_, e, rfl, rfl⟩⟩
  | false => exact ⟨_, begins_tuple l items, fun h it e => ⟨_, e, rfl, rfl⟩⟩
end
def ItzK (K : PySem.W.Frag) (k1 k2 : Bool) (a b : Addr) : It :=
  ⟨fun i H => ∃ (xs ys : List V) (x y : V), SqK K k1 H a xs ∧ SqK K k2 H b ys ∧ xs[i]? = some x ∧ ys[i]? = some y,
    fun i H v H' => ∃ T x y, v = .ref T ∧ H T = none ∧ H' = upd H T (.tup [x, y]) ∧ (∀ xs, SqK K k1 H a xs → xs[i]? = some x) ∧ ∀ ys, SqK K k2 H b ys → ys[i]? = some y,
    fun i H => ∃ xs ys : List V, SqK K k1 H a xs ∧ SqK K k2 H b ys ∧ (xs.length ≤ i ∨ ys.length ≤ i)⟩
/-- the walk that is at its end just now -/
theorem drawsEnd {prog : Program} {w : World} {A : Around} {k : Bool} (hh : A.handled = none) (it l : Addr) (items : Array Value) (i : Nat) (hi : items.size ≤ i) :
    Draws prog w A it [it, l] i (fun _ _ => True) (fun j h => j = i ∧ ItK k h it l j ∧ IsK k h l items) where
  live := fun _ _ st => let ⟨o, e, _⟩ := st.2.1.obj; ⟨o, e⟩
  frame := fun j h h' st hk => by
    refine ⟨st.1, st.2.1.at_ fun o e => hk it (by simp) o e, ?_⟩
    cases k with
    | true => exact Heap.IsList.at (show h.IsList l items from st.2.2) fun o e => hk l (by simp) o e
    | false => exact Heap.IsTuple.at (show h.IsTuple l items from st.2.2) fun o e => hk l (by simp) o e
  item := fun j s Q E hi st hQ => absurd st.1 (Nat.ne_of_lt hi)
  done := fun s Q E st hE => by
    cases k with
    | true => exact wpAny_nextOf_list_end hh (show s.heap.IsListIter it l i from st.2.1) (show s.heap.IsList l items from st.2.2) (by simp; exact hi) hE
    | false => exact wpAny_nextOf_tuple_end hh (show s.heap.IsTupleIter it l i from st.2.1) (show s.heap.IsTuple l items from st.2.2) (by simp; exact hi) hE
theorem turn_zipK {P : Program} {w : World} {K : PySem.W.Frag} {k1 k2 : Bool} {elts : List Expr} {kk : Nat} {tpos : Pos} {a b z TI TO i1 i2 : Addr} (D : ZipSep2 z TI TO i1 i2 [i1, a] [i2, b]) (ne1 : a ≠ i1) (ne2 : b ≠ i2) :
    Turn P w K (.Tuple elts kk tpos) (ItzK K k1 k2 a b) [z, TI, TO, i1, i2] z (fun i h => IsZip h z TI TO .none ∧ IsTupOf2 h TI (.ref i1) (.ref i2) ∧ (∃ x y, IsTupOf2 h TO x y) ∧ ItK k1 h i1 a i ∧ ItK k2 h i2 b i) where
  mem := by simp
  obj := fun i h st c hc => by
    obtain ⟨hz, hTI, ⟨x, y, hTO⟩, h1, h2⟩ := st
    have e' : c = z ∨ c = TI ∨ c = TO ∨ c = i1 ∨ c = i2 := by simpa using hc
    rcases e' with q | q | q | q | q
    · subst q; exact ⟨_, hz, fun v q => nomatch q⟩
    · subst q; exact ⟨_, hTI, fun v q => nomatch q⟩
    · subst q; exact ⟨_, hTO, fun v q => nomatch q⟩
    · subst q; exact h1.obj
    · subst q; exact h2.obj
  keep := fun i h h' st k => by
    obtain ⟨hz, hTI, ⟨x, y, hTO⟩, h1, h2⟩ := st
    exact ⟨k z (by simp) _ hz, k TI (by simp) _ hTI, ⟨x, y, k TO (by simp) _ hTO⟩, h1.at_ fun o q => k i1 (by simp) o q, h2.at_ fun o q => k i2 (by simp) o q⟩
  item := by
    intro X hP hw hK hc i pins s σ H E I hf st hg
    subst hP hw hK
    obtain ⟨hz, hTI, ⟨x0, y0, hTO⟩, h1, h2⟩ := st
    obtain ⟨xs, ys, x, y, hqx, hqy, hx, hy⟩ := hg
    obtain ⟨its, rv, p, _⟩ := Inv_seqK I hqx
    obtain ⟨its2, rv2, p2, _⟩ := Inv_seqK I hqy
    obtain ⟨u, hu, ru⟩ := rv.get hx
    obtain ⟨u2, hu2, ru2⟩ := rv2.get hy
    have hzl : z < s.heap.objs.size := Heap.lt_size hz
    have hh : X.A.in1.handled = none := I.ok.hd hc
    have l1 : i < its.toArray.size := by simpa using (List.getElem?_eq_some_iff.mp hu).1
    have l2 : i < its2.toArray.size := by simpa using (List.getElem?_eq_some_iff.mp hu2).1
    refine wpAny_pyNext_zipD2_item D (drawsK (k := k1) hh i1 a ne1 its.toArray) (drawsK (k := k2) hh i2 b ne2 its2.toArray) hz hTI hTO ⟨h1, p⟩ ⟨h2, p2⟩ l1 l2 fun w1 w2 h' tk hw1 hw2 z' TO' h1' h2' hT hsz hk => ?_
    have e1 : w1 = u := by
      have := hw1
      simp only [List.getElem?_toArray] at this
      rw [hu] at this
      cases this
      rfl
    have e2 : w2 = u2 := by
      have := hw2
      simp only [List.getElem?_toArray] at this
      rw [hu2] at this
      cases this
      rfl
    subst e1
    subst e2
    refine ⟨_, rfl, wpAny_letOwnedTupleGo_zip (s := { s with heap := h', toks := tk }) z' fun h'' z'' sb => ?_⟩
    have hT2 : h''.get? s.heap.objs.size = some { cls := .type "tuple", data := .seq #[w1, w2] } := (sb.2 _ (Nat.ne_of_gt hzl)).trans hT
    have new : ObjOk X.prog X.w (upd H s.heap.objs.size (.tup [x, y])) h'' s.heap.objs.size (.tup [x, y]) :=
      ⟨by show 2 ≤ sizeLine; decide, [w1, w2], .cons ru (.cons ru2 .nil), ⟨_, hT2, rfl, _, rfl⟩⟩
    have I1 : Inv X pins σ (upd H s.heap.objs.size (.tup [x, y])) { s with heap := h'', toks := tk } :=
      I.turnedNew (t' := tk) (ch := [z, TI, TO, i1, i2]) (fun c o hb q => (sb.2 c (fun q' => hb (by simp [q']))).trans (hk c o (fun q' => hb (by simp [q'])) (fun q' => hb (by simp [q'])) (fun q' => hb (by simp [q'])) (fun q' => hb (by simp [q'])) q)) hf (Nat.le_refl _) new
    refine ⟨.ref s.heap.objs.size, _, I1, rfl, ⟨_, x, y, rfl, I.hok.fresh (Nat.le_refl _), rfl, fun l hl => by rw [Inv_seqK_inj I hl hqx]; exact hx, fun l hl => by rw [Inv_seqK_inj I hl hqy]; exact hy⟩, ⟨z'', ?_, ⟨w1, w2, ?_⟩, ?_, ?_⟩, fun c hcm => ?_⟩
    · exact (sb.2 _ D.TIz).trans (hk _ _ D.TIz D.TITO D.TIi1 D.TIi2 hTI)
    · exact (sb.2 _ D.TOz).trans TO'
    · exact h1'.1.at_ fun o q => (sb.2 _ (Ne.symm D.zi1)).trans q
    · exact h2'.1.at_ fun o q => (sb.2 _ (Ne.symm D.zi2)).trans q
    · have hlt : c < s.heap.objs.size := by
        have e' : c = z ∨ c = TI ∨ c = TO ∨ c = i1 ∨ c = i2 := by simpa using hcm
        rcases e' with q | q | q | q | q
        · rw [q]; exact hzl
        · rw [q]; exact Heap.lt_size hTI
        · rw [q]; exact Heap.lt_size hTO
        · rw [q]; obtain ⟨_, e1, _⟩ := h1.obj; exact Heap.lt_size e1
        · rw [q]; obtain ⟨_, e2, _⟩ := h2.obj; exact Heap.lt_size e2
      rw [upd_ne (Nat.ne_of_lt hlt)]
      exact (hf c hcm).1
  done := by
    intro X hP hw hK hc i pins s σ H E I hf st hg
    subst hP hw hK
    obtain ⟨hz, hTI, ⟨x0, y0, hTO⟩, h1, h2⟩ := st
    obtain ⟨xs, ys, hqx, hqy, hend⟩ := hg
    obtain ⟨its, rv, p, _⟩ := Inv_seqK I hqx
    obtain ⟨its2, rv2, p2, _⟩ := Inv_seqK I hqy
    have l1 := rv.length
    have l2 := rv2.length
    have hh : X.A.in1.handled = none := I.ok.hd hc
    have fin : ∀ (h' : Heap) (tk : Nat), (∀ c o, c ≠ z → c ≠ TO → c ≠ i1 → c ≠ i2 → s.heap.get? c = some o → h'.get? c = some o) → Inv X pins σ H { s with heap := h', toks := tk } := fun h' tk hk => I.turnedL (t' := tk) (ch := [z, TI, TO, i1, i2]) (fun c o hb q =>
      hk c o (fun q' => hb (by simp [q'])) (fun q' => hb (by simp [q'])) (fun q' => hb (by simp [q'])) (fun q' => hb (by simp [q'])) q) hf
    by_cases c1 : its.toArray.size ≤ i
    · by_cases c2 : its2.toArray.size ≤ i
      · exact wpAny_pyNext_zipD2_end D (drawsEnd (k := k1) hh i1 a its.toArray i c1) (drawsEnd (k := k2) hh i2 b its2.toArray i c2) hz hTI hTO ⟨rfl, h1, p⟩ ⟨rfl, h2, p2⟩ (Nat.le_refl _) (Nat.le_refl _) (.inl rfl) fun h' tk hk => ⟨rfl, fin h' tk hk⟩
      · exact wpAny_pyNext_zipD2_end D (drawsEnd (k := k1) hh i1 a its.toArray i c1) (drawsK (k := k2) hh i2 b ne2 its2.toArray) hz hTI hTO ⟨rfl, h1, p⟩ ⟨h2, p2⟩ (Nat.le_refl _) (by omega) (.inl rfl) fun h' tk hk => ⟨rfl, fin h' tk hk⟩
    · have c2 : its2.toArray.size ≤ i := by
        simp only [List.size_toArray] at c1 ⊢
        omega
      exact wpAny_pyNext_zipD2_end D (drawsK (k := k1) hh i1 a ne1 its.toArray) (drawsEnd (k := k2) hh i2 b its2.toArray i c2) hz hTI hTO ⟨h1, p⟩ ⟨rfl, h2, p2⟩ (by omega) (Nat.le_refl _) (.inr rfl) fun h' tk hk => ⟨rfl, fin h' tk hk⟩
  self := fun A i s Q E st h => wpAny_pyIter_zip st.1 h
theorem ns2 {N : Nat} {a b : Nat} (h1 : a < N) (h2 : b < N) : ZipSep2 (N + 4) (N + 2) (N + 3) N (N + 1) [N, a] [N + 1, b] :=
  zip_sep2 (fun c hc => by rw [List.mem_singleton.mp hc]; exact h1) (fun c hc => by rw [List.mem_singleton.mp hc]; exact h2)
def iZipK (K : PySem.W.Frag) (ta : TA) : TI := fun σ H R => ta σ H fun vs H1 => ∃ a b xs ys k1 k2, vs = [.ref a, .ref b] ∧ SqK K k1 H1 a xs ∧ SqK K k2 H1 b ys ∧ R (ItzK K k1 k2 a b) H1
theorem pi_zipK {X : Cx} {e e2 : Expr} {ta : TA} {p pos tpos : Pos} {elts : List Expr} {kk : Nat} (hg : Gl X "zip") (hm : X.mg "zip" = none) (ha : PA X [e, e2] ta)
    (hs : starEach [e, e2] X.env = (false, eval e X.env) :: starEach [e2] X.env := by rfl) (hpl : (backTo pos (starEach [e2] X.env)).any (·.1) = false := by rfl) :
    PI X (.Tuple elts kk tpos) (.Call (.Name "zip" p) [e, e2] [] pos) (iZipK X.K ta) := by
  refine ⟨fun pins s σ H R I h => ?_⟩
  refine Call_ (ld_blt I hg hm PyProof.Rows.boot_zip (PyProof.Rows.callWith_type1 (thn (ha.run pos pins s σ H _ I h) fun us s1 ⟨vs, H1, I1, r1, q1⟩ => ?_) hs hpl))
  obtain ⟨a, b, xs, ys, k1, k2, ex, hqx, hqy, q⟩ := q1
  subst ex
  cases r1 with
  | cons r rr =>
    cases rr with
    | cons r' rr =>
      cases rr
      cases r
      cases r'
      have fresh5 : ∀ c, c ∈ [s1.heap.objs.size + 4, s1.heap.objs.size + 2, s1.heap.objs.size + 3, s1.heap.objs.size, s1.heap.objs.size + 1] → FpOk X pins H1 c := fun c hcm => by
        have e' : c = s1.heap.objs.size + 4 ∨ c = s1.heap.objs.size + 2 ∨ c = s1.heap.objs.size + 3 ∨ c = s1.heap.objs.size ∨ c = s1.heap.objs.size + 1 := by simpa using hcm
        have hle : s1.heap.objs.size ≤ c := by
          rcases e' with z | z | z | z | z
          · rw [z]; exact Nat.le_add_right _ _
          · rw [z]; exact Nat.le_add_right _ _
          · rw [z]; exact Nat.le_add_right _ _
          · rw [z]; exact Nat.le_refl _
          · rw [z]; exact Nat.le_add_right _ _
        exact I1.fpOk hle (I1.hok.fresh hle)
      obtain ⟨its, rv, p1, _⟩ := Inv_seqK I1 hqx
      obtain ⟨its2, rv2, p2, _⟩ := Inv_seqK I1 hqy
      obtain ⟨o1, B1, b1⟩ := beginsK (k := k1) a its.toArray
      obtain ⟨o2, B2, b2⟩ := beginsK (k := k2) b its2.toArray
      have L1 := p1.lt
      have L2 := p2.lt
      refine zip_begins2 B1 B2 p1 p2 fun h' hz hTI hTO h1 h2 hsz hk => wpAny_pyIter_zip hz ?_
      have I2 : Inv X pins σ H1 { s1 with heap := h' } := I1.kept (t' := s1.toks) hk
      exact ⟨s1.heap.objs.size + 4, [s1.heap.objs.size + 4, s1.heap.objs.size + 2, s1.heap.objs.size + 3, s1.heap.objs.size, s1.heap.objs.size + 1], _, _, H1, rfl, I2, turn_zipK (ns2 L1 L2) (Nat.ne_of_lt L1) (Nat.ne_of_lt (Nat.lt_succ_of_lt L2)), ⟨hz, hTI, ⟨_, _, hTO⟩, b1 _ _ h1, b2 _ _ h2⟩, fresh5, q⟩
end Dl
set_option Elab.async false
set_option linter.all false
set_option maxRecDepth 100000
set_option maxHeartbeats 2000000
namespace Dl
open PySem PySem.Spec PyProof.Rows L2
/-! ### what loops walk -/
abbrev Iv := Loc → Store → Rs ItD
def itOf (d : D) (S : Store) : Option ItD := match d with
  | .tup ds => some (.fix ds)
  | .wtup ds => some (.fix ds)
  | .frz ds => some (.fix ds)
  | .ref c => match S[c]? with
    | some (.lst _) => some (.lst c)
    | _ => none
  | _ => none
def isLs : D → Bool
  | .frz _ => true
  | .ref _ => true
  | _ => false
def iSeq (f : Ev) : Iv := fun ρ S => bnd (f ρ S) fun d S1 => match itOf d S1 with
  | some it => ok it S1
  | none => none
def iEn (t : Av) : Iv := fun ρ S => bnd (t ρ S) fun ds S1 => match ds with
  | [d] => match isLs d, itOf d S1 with
    | true, some it => ok (.en it) S1
    | _, _ => none
  | _ => none
def iZp (t : Av) : Iv := fun ρ S => bnd (t ρ S) fun ds S1 => match ds with
  | [d, e] => match itOf d S1, itOf e S1 with
    | some it, some it2 => ok (.zp it it2) S1
    | _, _ => none
  | _ => none
def rngD (lo c : Int) : Nat → Nat → List D
  | _, 0 => []
  | k, n + 1 => .int (lo + (k : Int) * c) :: rngD lo c (k + 1) n
def iRg1 (t : Av) : Iv := fun ρ S => bnd (t ρ S) fun ds S1 => match ds with
  | [.int j] => if -1000000 ≤ j ∧ j ≤ 1000000 then ok (.fix (rngD 0 1 0 j.toNat)) S1 else none
  | _ => none
def iRg2 (t : Av) : Iv := fun ρ S => bnd (t ρ S) fun ds S1 => match ds with
  | [.int i, .int j] => if -1000000 ≤ i ∧ i ≤ 1000000 ∧ -1000000 ≤ j ∧ j ≤ 1000000 then ok (.fix (rngD i 1 0 (j - i).toNat)) S1 else none
  | _ => none
/-- downwards -/
def iRg3 (t : Av) : Iv := fun ρ S => bnd (t ρ S) fun ds S1 => match ds with
  | [.int i, .int j, .int c] => if c = -1 ∧ -1000000 ≤ i ∧ i ≤ 1000000 ∧ -1000000 ≤ j ∧ j ≤ 1000000 then ok (.fix (rngD i (-1) 0 (i - j).toNat)) S1 else none
  | _ => none
section
variable {T : Tab} {X : Cx} {W : WX} {a b c e e2 : Expr} {pos p tpos : Pos} {elts : List Expr} {kk : Nat}
theorem PI.or {tg e : Expr} {t t' : TI} (h : PI X tg e t) (h' : PI X tg e t') : PI X tg e (fun σ H Q => t σ H Q ∨ t' σ H Q) := ⟨fun pins s σ H Q I q => q.elim (h.run pins s σ H Q I) (h'.run pins s σ H Q I)⟩
theorem FrzK.grow {K : PySem.W.Frag} {mg : Str → Option Value} {ι ι' : List Addr} {H H' : Hp} {S : Store} {a : Addr} {k : Bool} {vs : List V} (s : Sim T K mg ι S H) (g : Grow ι H ι' H') (n : k = false ∨ FrzL K H a vs) (h : SqK K k H a vs) : SqK K k H' a vs := by
  cases k with
  | false => exact SqT.to (show SqT K H a vs from h) (fun b ys e => g.oth b _ e (s.no_tup e)) g.fz
  | true =>
    rcases n with n | n
    · cases n
    · have : FrzL K H' a vs := by
        rcases n with ⟨o, q⟩ | q
        · exact .inl ⟨o, g.fz _ _ _ q⟩
        · exact .inr q
      exact this.seq
/-- it stands later on, with the store's items -/
def ItS (T : Tab) (K : PySem.W.Frag) (mg : Str → Option Value) (ι0 : List Addr) (H0 : Hp) (it : ItD) (k : Bool) (a : Addr) : Prop :=
  ∀ ι S H, Grow ι0 H0 ι H → Sim T K mg ι S H → ∀ ds, items it S = some ds → ∃ vs, SqK K k H a vs ∧ VsR T K mg ι H ds vs
theorem itOf_ok {K : PySem.W.Frag} {mg : Str → Option Value} {ι : List Addr} {H : Hp} {S : Store} {d : D} {v : V} {it : ItD} (s : Sim T K mg ι S H) (r : VR T K mg ι H d v) (e : itOf d S = some it) :
    ∃ a, v = .ref a ∧ ItS T K mg ι H it (isLs d) a ∧ ∃ xs, SqK K (isLs d) H a xs := by
  cases d <;> first | (cases e; done) | skip
  case tup ds =>
    cases e
    simp only [VR] at r
    obtain ⟨a, vs, rfl, q, r⟩ := r
    exact ⟨a, rfl, fun ι' S' H' g s' ds' e' => by cases e'; exact ⟨vs, FrzK.grow (k := false) s g (.inl rfl) q.seq, r.grow s g⟩, vs, q.seq⟩
  case wtup ds =>
    cases e
    simp only [VR] at r
    obtain ⟨a, vs, rfl, q, r⟩ := r
    exact ⟨a, rfl, fun ι' S' H' g s' ds' e' => by cases e'; exact ⟨vs, FrzK.grow (k := false) s g (.inl rfl) q, r.grow s g⟩, vs, q⟩
  case frz ds =>
    cases e
    simp only [VR] at r
    obtain ⟨a, vs, rfl, q, r⟩ := r
    exact ⟨a, rfl, fun ι' S' H' g s' ds' e' => by cases e'; exact ⟨vs, FrzK.grow (k := true) s g (.inr q) q.seq, r.grow s g⟩, vs, q.seq⟩
  case ref c =>
    simp only [VR] at r
    obtain ⟨a, i, rfl⟩ := r
    unfold itOf at e
    dsimp only at e
    match e1 : S[c]?, e with
    | some (.lst ds), e =>
      cases e
      obtain ⟨vs, h, _⟩ := lst_at s e1 i
      refine ⟨a, rfl, fun ι' S' H' g s' ds' e' => ?_, vs, SqL.of h⟩
      unfold items at e'
      match e2 : S'[c]?, e' with
      | some (.lst ds2), e' =>
        cases e'
        obtain ⟨vs2, h2, r2⟩ := lst_at s' e2 (getP g.pre i)
        exact ⟨vs2, SqL.of h2, r2⟩
theorem repSeq {K : PySem.W.Frag} {mg : Str → Option Value} {ι : List Addr} {H : Hp} {it : ItD} {a : Addr} {k : Bool} {J : It} (st : ItS T K mg ι H it k a)
    (h1 : ∀ i H (vs : List V) (v : V), SqK K k H a vs → vs[i]? = some v → J.go i H) (h2 : ∀ i H v H', J.yld i H v H' → H' = H ∧ ∀ vs, SqK K k H a vs → vs[i]? = some v) (h3 : ∀ i H (vs : List V), SqK K k H a vs → vs.length ≤ i → J.stop i H) : repI T K mg ι H it J := fun ι2 S2 H2 g2 s2 ds e2 => by
  obtain ⟨vs, q, r⟩ := st ι2 S2 H2 g2 s2 ds e2
  refine ⟨fun i x hx => ?_, fun i hi => h3 i H2 vs q (by rw [r.length]; exact hi)⟩
  obtain ⟨v, hv, rv⟩ := r.get hx
  refine ⟨h1 i H2 vs v q hv, fun u H' y => ?_⟩
  obtain ⟨rfl, y⟩ := h2 _ _ _ _ y
  have := y vs q
  rw [hv] at this
  cases this
  exact ⟨Grow.refl _ _, s2, rv⟩
theorem di_seq {tg : Expr} {f : Ev} (h : PE X e (tE T X W f)) : PI X tg e (tI T X W (iSeq f)) :=
  PI.imp (PI.or (pi_list h) (pi_tup h)) fun σ H R q => by
    obtain ⟨ι, S, ρ, cf, p⟩ := q
    unfold iSeq at p
    match e0 : f ρ S, p with
    | some (.error x, S'), p => exact .inl ⟨ι, S, ρ, cf, by rw [e0]; exact p⟩
    | some (.ok d, S1), p =>
      have p' : Post T X.K X.mg (fun c d H' => W c d σ H') (repI T X.K X.mg) ι H (match itOf d S1 with | some it => ok it S1 | none => none) R := p
      match e1 : itOf d S1, p' with
      | some it, p' =>
        have go := fun (ι1 : List Addr) (v : V) (H1 : Hp) (g1 : Grow ι H ι1 H1) (s1 : Sim T X.K X.mg ι1 S1 H1) (r1 : VR T X.K X.mg ι1 H1 d v) => itOf_ok s1 r1 e1
        by_cases kd : isLs d = true
        · rw [kd] at go
          refine .inl ⟨ι, S, ρ, cf, ?_⟩
          rw [e0]
          intro ι1 v H1 g1 s1 r1
          obtain ⟨a, rfl, st, xs, hx⟩ := go ι1 v H1 g1 s1 r1
          exact ⟨a, rfl, ⟨xs, hx⟩, p' ι1 _ H1 g1 s1 (repSeq (k := true) st (fun i H vs v q hv => ⟨vs, v, q, hv⟩) (fun i H v H' y => y) (fun i H vs q hv => ⟨vs, q, hv⟩))⟩
        · have kd' : isLs d = false := by simpa using kd
          rw [kd'] at go
          refine .inr ⟨ι, S, ρ, cf, ?_⟩
          rw [e0]
          intro ι1 v H1 g1 s1 r1
          obtain ⟨a, rfl, st, xs, hx⟩ := go ι1 v H1 g1 s1 r1
          exact ⟨a, rfl, ⟨xs, hx⟩, p' ι1 _ H1 g1 s1 (repSeq (k := false) st (fun i H vs v q hv => ⟨vs, v, q, hv⟩) (fun i H v H' y => y) (fun i H vs q hv => ⟨vs, q, hv⟩))⟩
/-- a pair an iterator gives -/
theorem pair_ok {K : PySem.W.Frag} {mg : Str → Option Value} {ι : List Addr} {H : Hp} {S : Store} {t : Addr} {x y : V} {d e : D} (s : Sim T K mg ι S H) (n : H t = none) (r1 : VR T K mg ι H d x) (r2 : VR T K mg ι H e y) :
    Grow ι H ι (upd H t (.tup [x, y])) ∧ Sim T K mg ι S (upd H t (.tup [x, y])) ∧ VR T K mg ι (upd H t (.tup [x, y])) (.wtup [d, e]) (.ref t) := by
  refine ⟨Grow.laid n, s.laid n, ?_⟩
  simp only [VR]
  exact ⟨t, [x, y], rfl, .inl (.inl upd_same), (VsR.cons r1 (VsR.cons r2 VsR.nil)).grow s (Grow.laid n)⟩
theorem enumD_get : ∀ (ds : List D) (n i : Nat) (x : D), (enumD n ds)[i]? = some x → ∃ d, ds[i]? = some d ∧ x = .wtup [.int ((n + i : Nat) : Int), d]
  | [], n, i, x, e => by simp [enumD] at e
  | d :: ds, n, 0, x, e => by
    simp [enumD] at e
    exact ⟨d, by simp, by rw [← e]; simp⟩
  | d :: ds, n, i + 1, x, e => by
    simp only [enumD, List.getElem?_cons_succ] at e
    obtain ⟨d', h1, h2⟩ := enumD_get ds (n + 1) i x e
    exact ⟨d', by simpa using h1, by rw [h2]; congr 3; omega⟩
theorem enumD_length : ∀ (ds : List D) (n : Nat), (enumD n ds).length = ds.length
  | [], n => rfl
  | d :: ds, n => by simp [enumD, enumD_length ds (n + 1)]
theorem zipD_get : ∀ (as bs : List D) (i : Nat) (x : D), (zipD as bs)[i]? = some x → ∃ d e, as[i]? = some d ∧ bs[i]? = some e ∧ x = .wtup [d, e]
  | [], bs, i, x, e => by simp [zipD] at e
  | a :: as, [], i, x, e => by simp [zipD] at e
  | a :: as, b :: bs, 0, x, e => by
    simp [zipD] at e
    exact ⟨a, b, by simp, by simp, e.symm⟩
  | a :: as, b :: bs, i + 1, x, e => by
    simp only [zipD, List.getElem?_cons_succ] at e
    obtain ⟨d, c, h1, h2, h3⟩ := zipD_get as bs i x e
    exact ⟨d, c, by simpa using h1, by simpa using h2, h3⟩
theorem zipD_length : ∀ (as bs : List D), (zipD as bs).length = min as.length bs.length
  | [], bs => by simp [zipD]
  | a :: as, [] => by simp [zipD]
  | a :: as, b :: bs => by simp [zipD, zipD_length as bs]
theorem di_enum {t : Av} (hg : Gl X "enumerate") (hm : X.mg "enumerate" = none) (ha : PA X [e] (tA T X W t)) (hs : starEach [e] X.env = [(false, eval e X.env)] := by rfl) : PI X (.Tuple elts kk tpos) (.Call (.Name "enumerate" p) [e] [] pos) (tI T X W (iEn t)) :=
  PI.imp (pi_enum hg hm ha hs) fun σ H R q => by
    obtain ⟨ι, S, ρ, cf, p⟩ := q
    refine ⟨ι, S, ρ, cf, (Post.bnd p).mono (fun vs H1 q => ?_) fun _ _ _ e => e⟩
    obtain ⟨ι1, S1, ds, g1, s1, r1, p1⟩ := q
    match ds, p1 with
    | [d], p1 =>
      obtain ⟨v, rfl, rr⟩ := one_of r1
      dsimp only at p1
      match hk : isLs d, e1 : itOf d S1, p1 with
      | true, some it, p1 =>
        obtain ⟨a, rfl, st, xs, hx⟩ := itOf_ok s1 rr e1
        rw [hk] at st hx
        refine ⟨a, xs, rfl, hx, p1 ι1 _ H1 (Grow.refl _ _) s1 fun ι2 S2 H2 g2 s2 ys e2 => ?_⟩
        unfold items at e2
        match e3 : items it S2, e2 with
        | some zs, e2 =>
        cases e2
        obtain ⟨vs, q, r⟩ := st ι2 S2 H2 g2 s2 zs e3
        refine ⟨fun i x hx => ?_, fun i hi => ⟨vs, q, by rw [r.length]; rw [enumD_length] at hi; exact hi⟩⟩
        obtain ⟨d', hd, rfl⟩ := enumD_get zs 0 i x hx
        obtain ⟨v, hv, rv⟩ := r.get hd
        refine ⟨⟨vs, v, q, hv⟩, fun u H' y => ?_⟩
        obtain ⟨Tt, x', rfl, hT, rfl, y⟩ := y
        have := y vs q
        rw [hv] at this
        cases this
        exact pair_ok s2 hT (by simp only [VR, Nat.zero_add]) rv
theorem di_zip {t : Av} (hg : Gl X "zip") (hm : X.mg "zip" = none) (ha : PA X [e, e2] (tA T X W t))
    (hs : starEach [e, e2] X.env = (false, eval e X.env) :: starEach [e2] X.env := by rfl) (hpl : (backTo pos (starEach [e2] X.env)).any (·.1) = false := by rfl) : PI X (.Tuple elts kk tpos) (.Call (.Name "zip" p) [e, e2] [] pos) (tI T X W (iZp t)) :=
  PI.imp (pi_zipK hg hm ha hs hpl) fun σ H R q => by
    obtain ⟨ι, S, ρ, cf, p⟩ := q
    refine ⟨ι, S, ρ, cf, (Post.bnd p).mono (fun vs H1 q => ?_) fun _ _ _ e => e⟩
    obtain ⟨ι1, S1, ds, g1, s1, r1, p1⟩ := q
    match ds, p1 with
    | [d, f], p1 =>
      obtain ⟨v, u, rfl, rv, ru⟩ := two_of r1
      dsimp only at p1
      match e1 : itOf d S1, e2 : itOf f S1, p1 with
      | some it, some it2, p1 =>
        obtain ⟨a, rfl, st, xs, hx⟩ := itOf_ok s1 rv e1
        obtain ⟨b, rfl, st2, ys, hy⟩ := itOf_ok s1 ru e2
        refine ⟨a, b, xs, ys, _, _, rfl, hx, hy, p1 ι1 _ H1 (Grow.refl _ _) s1 fun ι2 S2 H2 g2 s2 zs e4 => ?_⟩
        unfold items at e4
        match e3 : items it S2, e5 : items it2 S2, e4 with
        | some z1, some z2, e4 =>
        cases e4
        obtain ⟨vs, q, r⟩ := st ι2 S2 H2 g2 s2 z1 e3
        obtain ⟨us, q2, r2⟩ := st2 ι2 S2 H2 g2 s2 z2 e5
        refine ⟨fun i x hx => ?_, fun i hi => ⟨vs, us, q, q2, by rw [r.length, r2.length]; rw [zipD_length] at hi; omega⟩⟩
        obtain ⟨d', f', hd, hf, rfl⟩ := zipD_get z1 z2 i x hx
        obtain ⟨v, hv, rv⟩ := r.get hd
        obtain ⟨u, hu, ru⟩ := r2.get hf
        refine ⟨⟨vs, us, v, u, q, q2, hv, hu⟩, fun w H' y => ?_⟩
        obtain ⟨Tt, x', y', rfl, hT, rfl, y1, y2⟩ := y
        have h1 := y1 vs q
        have h2 := y2 us q2
        rw [hv] at h1
        rw [hu] at h2
        cases h1
        cases h2
        exact pair_ok s2 hT rv ru
theorem rngD_get (lo c : Int) : ∀ (n k i : Nat) (x : D), (rngD lo c k n)[i]? = some x → i < n ∧ x = .int (lo + ((k + i : Nat) : Int) * c)
  | 0, k, i, x, e => by simp [rngD] at e
  | n + 1, k, 0, x, e => by simp [rngD] at e; exact ⟨by omega, by rw [← e]; simp⟩
  | n + 1, k, i + 1, x, e => by
    simp only [rngD, List.getElem?_cons_succ] at e
    obtain ⟨h1, h2⟩ := rngD_get lo c n (k + 1) i x e
    exact ⟨by omega, by rw [h2]; congr 4; omega⟩
theorem rngD_length (lo c : Int) : ∀ (n k : Nat), (rngD lo c k n).length = n
  | 0, k => rfl
  | n + 1, k => by simp [rngD, rngD_length lo c n (k + 1)]
theorem repRng {K : PySem.W.Frag} {mg : Str → Option Value} {ι : List Addr} {H : Hp} {lo c : Int} {n : Nat} {J : It} (h1 : ∀ i H, i < n → J.go i H) (h2 : ∀ i H v H', J.yld i H v H' → H' = H ∧ v = .int (lo + (i : Int) * c)) (h3 : ∀ i H, n ≤ i → J.stop i H) :
    repI T K mg ι H (.fix (rngD lo c 0 n)) J := fun ι2 S2 H2 g2 s2 ds e2 => by
  cases e2
  refine ⟨fun i x hx => ?_, fun i hi => h3 i H2 (by rw [rngD_length] at hi; exact hi)⟩
  obtain ⟨hi, rfl⟩ := rngD_get lo c n 0 i x hx
  refine ⟨h1 i H2 hi, fun u H' y => ?_⟩
  obtain ⟨rfl, rfl⟩ := h2 _ _ _ _ y
  exact ⟨Grow.refl _ _, s2, by simp only [VR, Nat.zero_add]⟩
theorem di_range1 {tg : Expr} {t : Av} (hg : Gl X "range") (hm : X.mg "range" = none) (ha : PA X [a] (tA T X W t)) (hs : starEach [a] X.env = [(false, eval a X.env)] := by rfl) : PI X tg (.Call (.Name "range" p) [a] [] pos) (tI T X W (iRg1 t)) :=
  PI.imp (pi_range1 hg hm ha hs) fun σ H R q => by
    obtain ⟨ι, S, ρ, cf, p⟩ := q
    refine ⟨ι, S, ρ, cf, (Post.bnd p).mono (fun vs H1 q => ?_) fun _ _ _ e => e⟩
    obtain ⟨ι1, S1, ds, g1, s1, r1, p1⟩ := q
    match ds, p1 with
    | [.int j], p1 =>
      obtain ⟨v, rfl, rr⟩ := one_of r1
      simp only [VR] at rr
      subst rr
      dsimp only at p1
      split at p1
      · rename_i h
        exact ⟨j, rfl, by omega, by omega, p1 ι1 _ H1 (Grow.refl _ _) s1 (repRng (fun i H h => h) (fun i H v H' y => ⟨y.1, by rw [y.2]; simp⟩) fun i H h => h)⟩
      · exact p1.elim
theorem di_range2 {tg : Expr} {t : Av} (hg : Gl X "range") (hm : X.mg "range" = none) (ha : PA X [a, b] (tA T X W t)) (hs : starEach [a, b] X.env = [(false, eval a X.env), (false, eval b X.env)] := by rfl) (hs2 : starEach [b] X.env = [(false, eval b X.env)] := by rfl) : PI X tg (.Call (.Name "range" p) [a, b] [] pos) (tI T X W (iRg2 t)) :=
  PI.imp (pi_range2 hg hm ha hs hs2) fun σ H R q => by
    obtain ⟨ι, S, ρ, cf, p⟩ := q
    refine ⟨ι, S, ρ, cf, (Post.bnd p).mono (fun vs H1 q => ?_) fun _ _ _ e => e⟩
    obtain ⟨ι1, S1, ds, g1, s1, r1, p1⟩ := q
    match ds, p1 with
    | [.int i, .int j], p1 =>
      obtain ⟨v, u, rfl, r1, r2⟩ := two_of r1
      simp only [VR] at r1 r2
      subst r1
      subst r2
      dsimp only at p1
      split at p1
      · rename_i h
        exact ⟨i, j, rfl, ⟨by omega, by omega, by omega, by omega⟩, p1 ι1 _ H1 (Grow.refl _ _) s1 (repRng (fun i H h => h) (fun i H v H' y => ⟨y.1, by rw [y.2]; simp⟩) fun i H h => h)⟩
      · exact p1.elim
theorem three_of {K : PySem.W.Frag} {mg : Str → Option Value} {ι : List Addr} {H : Hp} {d e f : D} {vs : List V} (r : VsR T K mg ι H [d, e, f] vs) : ∃ v u w, vs = [v, u, w] ∧ VR T K mg ι H d v ∧ VR T K mg ι H e u ∧ VR T K mg ι H f w := by
  simp only [VsR] at r
  obtain ⟨v, r, rfl, h, u, r2, rfl, h2, w, r3, rfl, h3, rfl⟩ := r
  exact ⟨v, u, w, rfl, h, h2, h3⟩
theorem di_range3 {tg : Expr} {t : Av} (hg : Gl X "range") (hm : X.mg "range" = none) (ha : PA X [a, b, c] (tA T X W t)) (hs : starEach [a, b, c] X.env = (false, eval a X.env) :: starEach [b, c] X.env := by rfl) (hpl : (backTo pos (starEach [b, c] X.env)).any (·.1) = false := by rfl) : PI X tg (.Call (.Name "range" p) [a, b, c] [] pos) (tI T X W (iRg3 t)) :=
  PI.imp (pi_range3 hg hm ha hs hpl) fun σ H R q => by
    obtain ⟨ι, S, ρ, cf, p⟩ := q
    refine ⟨ι, S, ρ, cf, (Post.bnd p).mono (fun vs H1 q => ?_) fun _ _ _ e => e⟩
    obtain ⟨ι1, S1, ds, g1, s1, r1, p1⟩ := q
    match ds, p1 with
    | [.int i, .int j, .int c], p1 =>
      obtain ⟨v, u, w, rfl, r1, r2, r3⟩ := three_of r1
      simp only [VR] at r1 r2 r3
      subst r1
      subst r2
      subst r3
      dsimp only at p1
      split at p1
      · rename_i h
        obtain ⟨rfl, h⟩ := h
        exact ⟨i, j, -1, (i - j).toNat, rfl, RgC.neg (by omega) (by omega) (by omega) (by omega), p1 ι1 _ H1 (Grow.refl _ _) s1 (repRng (fun i H h => h) (fun i H v H' y => y) fun i H h => h)⟩
      · exact p1.elim
end
end Dl
set_option Elab.async false
set_option linter.all false
set_option maxRecDepth 100000
set_option maxHeartbeats 2000000
namespace Dl
open PySem PySem.Spec PyProof.Rows L2
section
variable {T : Tab} {X : Cx} {W : WX} {a b c e : Expr} {pos : Pos} {rest : List Expr}
/-- a truth value, read -/
theorem Post.asB {α β : Type} {K : PySem.W.Frag} {mg : Str → Option Value} {E : XK} {rep : List Addr → Hp → α → β → Prop} {ι : List Addr} {H : Hp} {S : Store} {d : D} {v : V} {k : Bool → Store → Rs α} {Q : β → Hp → Prop} (h : Post T K mg E rep ι H (Dl.bnd (Dl.asB d S) k) Q) (r : VR T K mg ι H d v) :
    ∃ b, v = .bl b ∧ Post T K mg E rep ι H (k b S) Q := by
  cases d <;> first | exact h.elim | skip
  case bl b =>
    simp only [VR] at r
    exact ⟨b, r, h⟩
theorem de_one {op : BoolOp} {f : Ev} (h : PE X a (tE T X W f)) : PE X (.BoolOp op [a] pos) (tE T X W f) := pe_one h
theorem de_and {f g : Ev} (h : PE X a (tE T X W f)) (k : PE X (.BoolOp .And (b :: rest) pos) (tE T X W g)) : PE X (.BoolOp .And (a :: b :: rest) pos) (tE T X W (eAn f g)) :=
  PE.imp (pe_and h k) fun σ H Q q => by
    obtain ⟨ι, S, ρ, cf, p⟩ := q
    refine ⟨ι, S, ρ, cf, (Post.bnd p).mono (fun x H1 q => ?_) fun _ _ _ e => e⟩
    obtain ⟨ι1, S1, d, g1, s1, r1, p1⟩ := q
    obtain ⟨b, rfl, p2⟩ := p1.asB r1
    refine ⟨b, rfl, ?_⟩
    cases b with
    | true => rw [if_pos rfl] at p2 ⊢; exact ⟨ι1, S1, ρ, cf.grow g1 s1, p2⟩
    | false => rw [if_neg (by decide)] at p2 ⊢; exact p2 ι1 _ H1 (Grow.refl _ _) s1 (by simp only [repE, VR])
theorem de_or {f g : Ev} (h : PE X a (tE T X W f)) (k : PE X (.BoolOp .Or (b :: rest) pos) (tE T X W g)) : PE X (.BoolOp .Or (a :: b :: rest) pos) (tE T X W (eOr f g)) :=
  PE.imp (pe_or h k) fun σ H Q q => by
    obtain ⟨ι, S, ρ, cf, p⟩ := q
    refine ⟨ι, S, ρ, cf, (Post.bnd p).mono (fun x H1 q => ?_) fun _ _ _ e => e⟩
    obtain ⟨ι1, S1, d, g1, s1, r1, p1⟩ := q
    obtain ⟨b, rfl, p2⟩ := p1.asB r1
    refine ⟨b, rfl, ?_⟩
    cases b with
    | true => rw [if_pos rfl] at p2 ⊢; exact p2 ι1 _ H1 (Grow.refl _ _) s1 (by simp only [repE, VR])
    | false => rw [if_neg (by decide)] at p2 ⊢; exact ⟨ι1, S1, ρ, cf.grow g1 s1, p2⟩
theorem de_not {f : Ev} (h : PE X a (tE T X W f)) : PE X (.UnaryOp .Not a pos) (tE T X W (eNot f)) :=
  PE.imp (pe_not h) fun σ H Q q => by
    obtain ⟨ι, S, ρ, cf, p⟩ := q
    refine ⟨ι, S, ρ, cf, (Post.bnd p).mono (fun x H1 q => ?_) fun _ _ _ e => e⟩
    obtain ⟨ι1, S1, d, g1, s1, r1, p1⟩ := q
    obtain ⟨b, rfl, p2⟩ := p1.asB r1
    exact ⟨b, rfl, p2 ι1 _ H1 (Grow.refl _ _) s1 (by simp only [repE, VR])⟩
theorem chain_read {g g' : Op2} {r r' : R2} {fa fb fc : Ev} (hr : ∀ x y H Q, rD2 T X.K X.mg g x y H Q → r x y H Q) (hr' : ∀ x y H Q, rD2 T X.K X.mg g' x y H Q → r' x y H Q) (σ : L2.St) (H : Hp) (Q : VK) (h : tE T X W (eChain g g' fa fb fc) σ H Q) : tChain r r' (tE T X W fa) (tE T X W fb) (tE T X W fc) σ H Q := by
  obtain ⟨ι, S, ρ, cf, p⟩ := h
  refine ⟨ι, S, ρ, cf, (Post.bnd p).mono (fun x H1 q => ?_) fun _ _ _ e => e⟩
  obtain ⟨ι1, S1, d, g1, s1, r1, p1⟩ := q
  refine ⟨ι1, S1, ρ, cf.grow g1 s1, (Post.bnd p1).mono (fun y H2 q => ?_) fun _ _ _ e => e⟩
  obtain ⟨ι2, S2, d2, g2, s2, r2, p2⟩ := q
  refine hr x y H2 _ ⟨ι2, S2, d, d2, s2, VR.grow s1 g2 r1, r2, ?_⟩
  refine Post.pv (E := fun c d H' => W c d σ H') ((Post.bnd p2).mono (fun z H3 q => ?_) fun _ _ _ e => e)
  obtain ⟨ι3, S3, d3, g3, s3, r3, p3⟩ := q
  obtain ⟨k, rfl, p4⟩ := p3.asB r3
  refine ⟨k, rfl, ?_⟩
  cases k with
  | false => rw [if_neg (by decide)] at p4 ⊢; exact p4 ι3 _ H3 (Grow.refl _ _) s3 (by simp only [repE, VR])
  | true =>
    rw [if_pos rfl] at p4 ⊢
    refine ⟨ι3, S3, ρ, ((cf.grow g1 s1).grow g2 s2).grow g3 s3, (Post.bnd p4).mono (fun w H4 q => ?_) fun _ _ _ e => e⟩
    obtain ⟨ι4, S4, d4, g4, s4, r4, p5⟩ := q
    exact hr' y w H4 Q ⟨ι4, S4, d2, d4, s4, (VR.grow s2 (g3.trans g4) r2), r4, p5.pv⟩
theorem de_chain {op op' : CmpOp} {g g' : Op2} {fa fb fc : Ev} (ho : OpR X (compareOp op) (rD2 T X.K X.mg g)) (ho' : OpR X (compareOp op') (rD2 T X.K X.mg g')) (ha : PE X a (tE T X W fa)) (hb : PE X b (tE T X W fb)) (hc : PE X c (tE T X W fc))
    (hm : lastMarks [op, op'] [b, c] = false := by with_unfolding_all rfl) : PE X (.Compare a [op, op'] [b, c] pos) (tE T X W (eChain g g' fa fb fc)) :=
  PE.imp (pe_chain ho ho' ha hb hc hm) (chain_read (fun _ _ _ _ h => h) fun _ _ _ _ h => h)
theorem dt_chain {op op' : CmpOp} {g g' : Op2} {fa fb fc : Ev} (ho : OpR X (compareOp op) (rD2 T X.K X.mg g)) (ho' : OpR X (compareOp op') (rD2 T X.K X.mg g')) (ha : PE X a (tE T X W fa)) (hb : PE X b (tE T X W fb)) (hc : PE X c (tE T X W fc))
    (hm : lastMarks [op, op'] [b, c] = false := by with_unfolding_all rfl) : PT X (.Compare a [op, op'] [b, c] pos) (tT T X W (tV (eChain g g' fa fb fc))) :=
  PT.imp (pt_chain ho ho' ha hb hc hm) (tV_test (chain_read (fun _ _ _ _ h => h) fun _ _ _ _ h => h))
/-! ### comprehensions -/
theorem de_lc {elt tg iter : Expr} {ifs : List Expr} {scope : Scope} {own : List (Str × Nat)} {f : Iv} {g : Tg} {is : List Nat} {tt : Tv} {te : Ev} (hc : X.calm = true) (hN : X.N.Nodup) (hi : PI X tg iter (tI T X W f)) (ok : BlkOk X.N X.env.scope scope own) (hs : ∀ i ∈ is, i ∈ own.map (·.2))
    (hg : ∀ (s : Shared) (H : Hp) (C : Addr) (cl : List (Str × Addr)) (fp : List Addr), PG (X.blk s H scope (compEnvC scope cl C X.env) fp) tg (tgD T (X.blk s H scope (compEnvC scope cl C X.env) fp) is g))
    (ht : ∀ (s : Shared) (H : Hp) (C : Addr) (cl : List (Str × Addr)) (fp : List Addr), PTs (X.blk s H scope (compEnvC scope cl C X.env) fp) ifs (tT T (X.blk s H scope (compEnvC scope cl C X.env) fp) W0 tt))
    (he : ∀ (s : Shared) (H : Hp) (C : Addr) (cl : List (Str × Addr)) (fp : List Addr), PE (X.blk s H scope (compEnvC scope cl C X.env) fp) elt (tE T (X.blk s H scope (compEnvC scope cl C X.env) fp) W0 te)) (hf : ∀ x, foldedSetIterable iter X.env x = pure x := by intro _; rfl) :
    PE X (.ListComp elt [⟨tg, iter, ifs, 0⟩] scope pos) (tE T X W (eLc f g tt te (own.map (·.2)))) :=
  PE.imp (pe_lc (g := tgD T X is g) (tt := tG T X W0 repB tt) (te := tG T X W0 (repE T X.K X.mg) te) hc hN hi ok hg ht he hf) fun σ H Q q => lc_read hs (fun _ _ _ h => h) (fun _ _ _ _ h => h) (fun _ _ _ h => h) (fun _ _ _ h => h) q
theorem d_setLc {i : Nat} {y : Str} {py spos : Pos} {elt tg iter : Expr} {ifs : List Expr} {scope : Scope} {own : List (Str × Nat)} {f : Iv} {g : Tg} {is : List Nat} {tt : Tv} {te : Ev} (hc : X.calm = true) (hN : X.N.Nodup) (hy : X.N[i]? = some y) (hyl : X.env.scope.names.lookup y = some .local)
    (hsw : swapsWith (.ListComp elt [⟨tg, iter, ifs, 0⟩] scope pos) (some (.Name y py)) spos.line X.env = pure true) (hi : PI X tg iter (tI T X W f)) (ok : BlkOk X.N X.env.scope scope own) (hs : ∀ i ∈ is, i ∈ own.map (·.2))
    (hg : ∀ (s : Shared) (H : Hp) (C : Addr) (cl : List (Str × Addr)) (fp : List Addr), PG (X.blk s H scope (compEnvC scope cl C X.env) fp) tg (tgD T (X.blk s H scope (compEnvC scope cl C X.env) fp) is g))
    (ht : ∀ (s : Shared) (H : Hp) (C : Addr) (cl : List (Str × Addr)) (fp : List Addr), PTs (X.blk s H scope (compEnvC scope cl C X.env) fp) ifs (tT T (X.blk s H scope (compEnvC scope cl C X.env) fp) W0 tt))
    (he : ∀ (s : Shared) (H : Hp) (C : Addr) (cl : List (Str × Addr)) (fp : List Addr), PE (X.blk s H scope (compEnvC scope cl C X.env) fp) elt (tE T (X.blk s H scope (compEnvC scope cl C X.env) fp) W0 te)) (hf : ∀ x, foldedSetIterable iter X.env x = pure x := by intro _; rfl) :
    PS X (.Assign [.Name y py] (.ListComp elt [⟨tg, iter, ifs, 0⟩] scope pos) spos) (tS T X W (sSet (gN i) (eLc f g tt te (own.map (·.2))))) :=
  PS.imp (ps_setLc (g := tgD T X is g) (tt := tG T X W0 repB tt) (te := tG T X W0 (repE T X.K X.mg) te) hc hN hy hyl hsw hi ok hg ht he hf) fun Dn σ H q => by
    refine lc_read hs (T := T) (X := X) (W := W) (fun _ _ _ h => h) (fun _ _ _ _ h => h) (fun _ _ _ h => h) (fun _ _ _ h => h) ?_
    obtain ⟨ι, S, ρ, cf, p⟩ := q
    refine ⟨ι, S, ρ, cf, (PostS.run cf p).mono (fun x H1 q => ?_) fun _ _ _ e => e⟩
    obtain ⟨ι1, S1, d, g1, c1, r1, p1⟩ := q
    exact p1 ι1 _ H1 (Grow.refl _ _) ⟨c1.sim, c1.loc.set r1 i⟩
theorem dts_nil : PTs X [] (tT T X W tYes) := ⟨fun pins s σ H Q I q => by
  obtain ⟨ι, S, ρ, cf, p⟩ := q
  exact pts_nil.run pins s σ H Q I (p ι true H (Grow.refl _ _) cf.sim rfl)⟩
theorem dts_one {t : Tv} (h : PT X a (tT T X W t)) : PTs X [a] (tT T X W t) := pts_one h
/-! ### more statements -/
/-- a, b = x, y -/
def sPar (i j : Nat) (t : Av) : Sv := fun ρ S => Dl.run (t ρ S) ρ fun ds S1 => match ds with
  | [d, e] => some (.nx ((ρ.set i (some d)).set j (some e)), S1)
  | _ => none
theorem d_par {i j : Nat} {x y : Str} {t : Av} {px py pt : Pos} {kt k2 pt2} (hc : X.calm = true) (hN : X.N.Nodup) (hi : X.N[i]? = some x) (hj : X.N[j]? = some y) (hij : i ≠ j)
    (hx : X.env.scope.names.lookup x = some .local) (hy : X.env.scope.names.lookup y = some .local) (ha : PA X [a, b] (tA T X W t))
    (hw : swappedStores [.Tuple [.Name x px, .Name y py] kt pt] (.Tuple [a, b] k2 pt2) X.env = pure (some [x, y]))
    (hs : swapsWithSole [.Tuple [.Name x px, .Name y py] kt pt] (.Tuple [a, b] k2 pt2) pos.line X.env = pure false := by rfl) :
    PS X (.Assign [.Tuple [.Name x px, .Name y py] kt pt] (.Tuple [a, b] k2 pt2) pos) (tS T X W (sPar i j t)) :=
  PS.imp (ps_par hc hN hi hj hij hx hy ha hw hs) fun Dn σ H q => by
    obtain ⟨ι, S, ρ, cf, p⟩ := q
    refine ⟨ι, S, ρ, cf, (PostS.run cf p).mono (fun vs H1 q => ?_) fun _ _ _ e => e⟩
    obtain ⟨ι1, S1, ds, g1, c1, r1, p1⟩ := q
    match ds, p1 with
    | [d, f], p1 =>
      obtain ⟨v, u, rfl, rv, ru⟩ := two_of r1
      exact ⟨v, u, rfl, p1 ι1 _ H1 (Grow.refl _ _) ⟨c1.sim, (c1.loc.set rv i).set ru j⟩⟩
def sPar3 (i j l : Nat) (t : Av) : Sv := fun ρ S => Dl.run (t ρ S) ρ fun ds S1 => match ds with
  | [d, e, f] => some (.nx (((ρ.set i (some d)).set j (some e)).set l (some f)), S1)
  | _ => none
/-- name += e -/
def sAug (i : Nat) (g : Op2) (f : Ev) : Sv := fun ρ S => match ρ[i]? with
  | some (some x) => Dl.run (f ρ S) ρ fun y S1 => match g x y S1 with
    | some (z, S2) => some (.nx (ρ.set i (some z)), S2)
    | none => none
  | _ => none
theorem d_aug {i : Nat} {x : Str} {f : Ev} {pos' : Pos} (hN : X.N.Nodup) (hi : X.N[i]? = some x) (hx : L2.Loc X.env.scope x) (he : PE X e (tE T X W f)) (hf : X.fn x = true ∨ X.env.scope.names.lookup x = some .local := by first | exact .inl rfl | exact .inr rfl | assumption) :
    PS X (.AugAssign (.Name x pos') .Add e pos) (tS T X W (sAug i (fun x y S => match x, y with | .int i, .int j => some (.int (i + j), S) | _, _ => none) f)) :=
  PS.imp (ps_aug hN hi hx he ip_add hf) fun Dn σ H q => by
    obtain ⟨ι, S, ρ, cf, p⟩ := q
    unfold sAug at p
    match e0 : ρ[i]?, p with
    | some (some x), p =>
      obtain ⟨v, e1, r⟩ := cf.loc.2 i x e0
      refine ⟨v, e1, ι, S, ρ, cf, (PostS.run cf p).mono (fun y H1 q => ?_) fun _ _ _ e => e⟩
      obtain ⟨ι1, S1, d, g1, c1, r1, p1⟩ := q
      cases x <;> cases d <;> first | exact p1.elim | skip
      case int.int m n =>
        simp only [repE, VR] at r r1
        exact ⟨m, n, r, r1, p1 ι1 _ H1 (Grow.refl _ _) ⟨c1.sim, c1.loc.set (by simp only [VR]) i⟩⟩
/-- o[i] = e -/
def setD (o i d : D) (S : Store) : Option Store := match o, i with
  | .ref c, .int k => match S[c]? with
    | some (.lst ds) => match ixN ds.length k with
      | some j => some (S.set c (.lst (ds.set j d)))
      | none => none
    | _ => none
  | _, _ => none
def sSub (fe fo fi : Ev) : Sv := fun ρ S => Dl.run (fe ρ S) ρ fun d S1 => Dl.run (fo ρ S1) ρ fun o S2 => Dl.run (fi ρ S2) ρ fun i S3 => match setD o i d S3 with
  | some S4 => some (.nx ρ, S4)
  | none => none
theorem d_sub {o i : Expr} {fe fo fi : Ev} {p2 : Pos} (he : PE X e (tE T X W fe)) (ho : PE X o (tE T X W fo)) (hi : PE X i (tE T X W fi)) (hs : swapsWithSole [.Subscript o i p2] e pos.line X.env = pure false := by rfl) (hw : swappedStores [.Subscript o i p2] e X.env = pure none := by rfl)
    (h1 : (assignEach [.Subscript o i p2] X.env).map (·.2) = [assign (.Subscript o i p2) X.env] := by rfl)
    (ha : ∀ v, assign (.Subscript o i p2) X.env v = (do
      let ov ← holding [v] (eval o X.env)
      let iv ← holding [v, ov] (eval i X.env)
      standAt p2
      holding [v, ov, iv] (setItem ov iv v)
      release [v, ov, iv] []) := by intro _; rfl) : PS X (.Assign [.Subscript o i p2] e pos) (tS T X W (sSub fe fo fi)) :=
  PS.imp (ps_asg he (pg_sub ho hi set_list ha) hs hw h1) fun Dn σ H q => by
    obtain ⟨ι, S, ρ, cf, p⟩ := q
    refine ⟨ι, S, ρ, cf, (PostS.run cf p).mono (fun x H1 q => ?_) fun _ _ _ e => e⟩
    obtain ⟨ι1, S1, d, g1, c1, r1, p1⟩ := q
    refine ⟨ι1, S1, ρ, c1, (PostS.run c1 p1).mono (fun y H2 q => ?_) fun _ _ _ e => e⟩
    obtain ⟨ι2, S2, d2, g2, c2, r2, p2⟩ := q
    refine ⟨ι2, S2, ρ, c2, (PostS.run c2 p2).mono (fun z H3 q => ?_) fun _ _ _ e => e⟩
    obtain ⟨ι3, S3, d3, g3, c3, r3, p3⟩ := q
    match e1 : setD d2 d3 d S3, p3 with
    | some S4, p3 =>
      have r2' : VR T X.K X.mg ι3 H3 d2 y := VR.grow c2.sim g3 r2
      have r1' : VR T X.K X.mg ι3 H3 d x := VR.grow c2.sim g3 (VR.grow c1.sim g2 r1)
      cases d2 <;> cases d3 <;> first | (cases e1; done) | skip
      case ref.int cc k =>
        simp only [repE, VR] at r2' r3
        obtain ⟨aa, ia, rfl⟩ := r2'
        subst r3
        unfold setD at e1
        dsimp only at e1
        match e2 : S3[cc]?, e1 with
        | some (.lst ds), e1 =>
          dsimp only at e1
          match e3 : ixN ds.length k, e1 with
          | some j, e1 =>
            cases e1
            obtain ⟨vs, hh, rr⟩ := lst_at c3.sim e2 ia
            have gg : Grow ι3 H3 ι3 (upd H3 aa (.lst (vs.set j x))) := Grow.set c3.sim ia
            have ss : Sim T X.K X.mg ι3 (S3.set cc (.lst (ds.set j d))) (upd H3 aa (.lst (vs.set j x))) := c3.sim.set ia ⟨_, upd_same, ((rr.set r1' j).grow c3.sim gg)⟩
            exact ⟨aa, vs, k, j, rfl, rfl, hh, by rw [rr.length]; exact e3, p3 ι3 σ _ gg (c3.grow gg ss)⟩
end
end Dl
set_option Elab.async false
set_option linter.all false
set_option maxRecDepth 100000
set_option maxHeartbeats 2000000
namespace Dl
open PySem PySem.Spec PyProof.Rows L2
/-! ### attributes -/
def eFld (c k : Nat) (fo : Ev) : Ev := fun ρ S => bnd (fo ρ S) fun o S1 => match o with
  | .ref a => match S1[a]? with
    | some (.ins c' ds) => if c' = c then match ds[k]? with
      | some d => ok d S1
      | none => none
      else none
    | _ => none
  | _ => none
/-- attributes are made in the order of their class's list -/
def putD (k : Nat) (d : D) (ds : List D) : Option (List D) := if k < ds.length then some (ds.set k d) else if k = ds.length then some (ds ++ [d]) else none
def sFld (c k : Nat) (fo fe : Ev) : Sv := fun ρ S => Dl.run (fe ρ S) ρ fun d S1 => Dl.run (fo ρ S1) ρ fun o S2 => match o with
  | .ref a => match S2[a]? with
    | some (.ins c' ds) => if c' = c then match putD k d ds with
      | some ds' => some (.nx ρ, S2.set a (.ins c ds'))
      | none => none
      else none
    | _ => none
  | _ => none
theorem lookup_zip_get {f : Str} {v : V} : ∀ {fs : List Str} {vs : List V} {k : Nat}, fs.Nodup → fs[k]? = some f → vs[k]? = some v → (fs.zip vs).lookup f = some v
  | [], _, _, _, h, _ => by simp at h
  | g :: fs, [], k, _, _, h => by simp at h
  | g :: fs, u :: vs, 0, _, h, h2 => by
    simp at h h2
    subst h
    subst h2
    simp
  | g :: fs, u :: vs, k + 1, hn, h, h2 => by
    simp at h h2
    have ne : f ≠ g := fun e => by
      subst e
      exact (List.nodup_cons.mp hn).1 (List.mem_of_getElem? h)
    rw [List.zip_cons_cons, List.lookup_cons]
    have : (f == g) = false := by simpa using ne
    rw [this]
    exact lookup_zip_get (List.nodup_cons.mp hn).2 h h2
theorem putF_miss {f : Str} {v : V} : ∀ {l : List (Str × V)}, f ∉ l.map (·.1) → putF f v l = l ++ [(f, v)]
  | [], _ => rfl
  | (g, x) :: l, h => by
    have h1 : f ≠ g := fun e => h (by simp [e])
    have h2 : f ∉ l.map (·.1) := fun e => h (List.mem_cons_of_mem _ e)
    show (if g = f then _ else _) = _
    rw [if_neg (fun e => h1 e.symm), putF_miss h2]
    rfl
theorem putF_at {f : Str} {v : V} : ∀ {fs : List Str} {vs : List V} {k : Nat}, fs.Nodup → fs[k]? = some f → k < vs.length → putF f v (fs.zip vs) = fs.zip (vs.set k v)
  | [], _, _, _, h, _ => by simp at h
  | g :: fs, [], k, _, _, h => by simp at h
  | g :: fs, u :: vs, 0, _, h, h2 => by
    simp at h
    subst h
    show (if g = g then _ else _) = _
    rw [if_pos rfl]
    rfl
  | g :: fs, u :: vs, k + 1, hn, h, h2 => by
    simp at h h2
    have ne : g ≠ f := fun e => by
      subst e
      exact (List.nodup_cons.mp hn).1 (List.mem_of_getElem? h)
    show (if g = f then _ else (g, u) :: putF f v (fs.zip vs)) = _
    rw [if_neg ne, putF_at (List.nodup_cons.mp hn).2 h h2]
    rfl
theorem putF_end {f : Str} {v : V} {fs : List Str} {vs : List V} (hn : fs.Nodup) (h : fs[vs.length]? = some f) : putF f v (fs.zip vs) = fs.zip (vs ++ [v]) := by
  have hl := (List.getElem?_eq_some_iff.mp h).1
  rw [putF_miss]
  · have e1 : fs.zip vs = (fs.take vs.length).zip vs := by
      rw [List.zip_eq_zip_take_min (l₁ := fs) (l₂ := vs)]
      simp [Nat.min_eq_right (Nat.le_of_lt hl)]
    have e2 : fs.zip (vs ++ [v]) = (fs.take (vs.length + 1)).zip (vs ++ [v]) := by
      rw [List.zip_eq_zip_take_min (l₁ := fs) (l₂ := vs ++ [v])]
      have hm : min fs.length (vs.length + 1) = vs.length + 1 := Nat.min_eq_right hl
      simp only [List.length_append, List.length_singleton, hm]
      rw [List.take_of_length_le (l := vs ++ [v]) (by simp)]
    rw [e1, e2, List.take_add_one, h]
    rw [Option.toList_some, List.zip_append (by simp [Nat.min_eq_left (Nat.le_of_lt hl)])]
    rfl
  · intro m
    obtain ⟨p, hp, e⟩ := List.mem_map.mp m
    obtain ⟨j, hj⟩ := List.mem_iff_getElem?.mp hp
    rw [List.getElem?_zip_eq_some] at hj
    rw [e] at hj
    have hjl := (List.getElem?_eq_some_iff.mp hj.2).1
    have hjf := (List.getElem?_eq_some_iff.mp hj.1).1
    have : j = vs.length := by
      have a := (List.getElem?_eq_some_iff.mp hj.1).2
      have b := (List.getElem?_eq_some_iff.mp h).2
      exact (List.getElem_inj hn).mp (a.trans b.symm)
    omega
/-- what a class must have: its object C stands by its name; its attributes -/
structure ClsD (T : Tab) (K : PySem.W.Frag) (mg : Str → Option Value) (c : Nat) (C : Addr) : Prop where
  at_ : mg (T.cls c) = some (.ref C)
  cls : Cls K C
  nd : (T.fld c).Nodup
  no : ∀ f ∈ T.fld c, NoAttr K C f
section
variable {T : Tab} {X : Cx} {W : WX} {e o : Expr} {es : List Expr} {pos pos' apos : Pos} {c : Nat} {C : Addr}
theorem ins_at {K : PySem.W.Frag} {mg : Str → Option Value} {ι : List Addr} {S : Store} {H : Hp} {cl : Nat} {a : Addr} {ds : List D} (s : Sim T K mg ι S H) (e : S[cl]? = some (.ins c ds)) (i : ι[cl]? = some a) : CellR T K mg ι H a (.ins c ds) := s.cell cl _ a e i
theorem de_fld {f : Str} {k : Nat} {fo : Ev} (D : ClsD T X.K X.mg c C) (he : PE X e (tE T X W fo)) (hf : (T.fld c)[k]? = some f) (hb : attributeBase e f X.env (eval e X.env) = eval e X.env := by rfl) : PE X (.Attribute e f pos) (tE T X W (eFld c k fo)) :=
  PE.imp (pe_fld he hb) fun σ H Q q => by
    obtain ⟨ι, S, ρ, cf, p⟩ := q
    refine ⟨ι, S, ρ, cf, (Post.bnd p).mono (fun x H1 q => ?_) fun _ _ _ e => e⟩
    obtain ⟨ι1, S1, d, g1, s1, r1, p1⟩ := q
    cases d <;> first | exact p1.elim | skip
    case ref a =>
      simp only [repE, VR] at r1
      obtain ⟨A, ia, rfl⟩ := r1
      dsimp only at p1
      match e1 : S1[a]?, p1 with
      | some (.ins c' ds), p1 =>
        dsimp only at p1
        by_cases hc : c' = c
        · subst hc
          rw [if_pos rfl] at p1
          match e2 : ds[k]?, p1 with
          | some d, p1 =>
            obtain ⟨C', dx, vs, m, hH, hl, r⟩ := ins_at s1 e1 ia
            rw [D.at_] at m
            cases m
            obtain ⟨v, hv, rv⟩ := r.get e2
            exact ⟨A, C, dx, _, v, rfl, hH, D.cls, D.no f (List.mem_of_getElem? hf), lookup_zip_get D.nd hf hv, p1 ι1 v H1 (Grow.refl _ _) s1 rv⟩
        · rw [if_neg hc] at p1; exact p1.elim
theorem d_fldset {f : Str} {k : Nat} {fo fe : Ev} (D : ClsD T X.K X.mg c C) (ho : PE X o (tE T X W fo)) (he : PE X e (tE T X W fe)) (hf : (T.fld c)[k]? = some f) (hl : (T.fld c).length < 100 := by decide) (hs : swapsWith e (some (.Attribute o f pos')) pos.line X.env = pure false := by rfl) : PS X (.Assign [.Attribute o f pos'] e pos) (tS T X W (sFld c k fo fe)) :=
  PS.imp (ps_fld ho he hs) fun Dn σ H q => by
    obtain ⟨ι, S, ρ, cf, p⟩ := q
    refine ⟨ι, S, ρ, cf, (PostS.run cf p).mono (fun y H1 q => ?_) fun _ _ _ e => e⟩
    obtain ⟨ι1, S1, d, g1, c1, r1, p1⟩ := q
    refine ⟨ι1, S1, ρ, c1, (PostS.run c1 p1).mono (fun x H2 q => ?_) fun _ _ _ e => e⟩
    obtain ⟨ι2, S2, d2, g2, c2, r2, p2⟩ := q
    have r1' : VR T X.K X.mg ι2 H2 d y := VR.grow c1.sim g2 r1
    cases d2 <;> first | exact p2.elim | skip
    case ref a =>
      simp only [repE, VR] at r2
      obtain ⟨A, ia, rfl⟩ := r2
      dsimp only at p2
      match e1 : S2[a]?, p2 with
      | some (.ins c' ds), p2 =>
        dsimp only at p2
        by_cases hc : c' = c
        · subst hc
          rw [if_pos rfl] at p2
          match e2 : putD k d ds, p2 with
          | some ds', p2 =>
            obtain ⟨C', dx, vs, m, hH, hlv, r⟩ := ins_at c2.sim e1 ia
            rw [D.at_] at m
            cases m
            have hk := (List.getElem?_eq_some_iff.mp hf).1
            have key : ∃ vs', putF f y ((T.fld c').zip vs) = (T.fld c').zip vs' ∧ vs'.length ≤ (T.fld c').length ∧ VsR T X.K X.mg ι2 H2 ds' vs' := by
              unfold putD at e2
              by_cases h1 : k < ds.length
              · rw [if_pos h1] at e2
                cases e2
                exact ⟨vs.set k y, putF_at D.nd hf (by rw [r.length]; exact h1), by rw [List.length_set]; exact hlv, r.set r1' k⟩
              · rw [if_neg h1] at e2
                by_cases h2 : k = ds.length
                · rw [if_pos h2] at e2
                  cases e2
                  have : k = vs.length := by rw [r.length]; exact h2
                  subst this
                  exact ⟨vs ++ [y], putF_end D.nd hf, by rw [List.length_append]; exact hk, r.append (VsR.cons r1' VsR.nil)⟩
                · rw [if_neg h2] at e2; cases e2
            obtain ⟨vs', ep, el, er⟩ := key
            have gg : Grow ι2 H2 ι2 (upd H2 A (.ins C dx (putF f y ((T.fld c').zip vs)))) := Grow.set c2.sim ia
            have ss : Sim T X.K X.mg ι2 (S2.set a (.ins c' ds')) (upd H2 A (.ins C dx (putF f y ((T.fld c').zip vs)))) :=
              c2.sim.set ia ⟨C, dx, vs', D.at_, by rw [upd_same, ep], el, er.grow c2.sim gg⟩
            refine ⟨A, C, dx, _, rfl, hH, D.cls, D.no f (List.mem_of_getElem? hf), ?_, p2 ι2 σ _ gg (c2.grow gg ss)⟩
            rw [List.length_zip]
            omega
        · rw [if_neg hc] at p2; exact p2.elim
/-! ### methods -/
/-- o.m(..): o an instance of the class c -/
def isC (c : Nat) (d : D) (S : Store) : Option Unit := match d with
  | .ref a => match S[a]? with
    | some (.ins c' _) => if c' = c then some () else none
    | _ => none
  | _ => none
def eMeth (c : Nat) (m : Df) (fo : Ev) (t : Av) : Ev := fun ρ S => bnd (fo ρ S) fun o S1 => match isC c o S1 with
  | none => none
  | some _ => bnd (t ρ S1) fun ds S2 => m (o :: ds) S2
theorem isC_ok {K : PySem.W.Frag} {mg : Str → Option Value} {ι : List Addr} {S : Store} {H : Hp} {d : D} {v : V} {u : Unit} (s : Sim T K mg ι S H) (r : VR T K mg ι H d v) (h : isC c d S = some u) : ∃ a ds cl, d = .ref cl ∧ v = .ref a ∧ S[cl]? = some (.ins c ds) ∧ CellR T K mg ι H a (.ins c ds) := by
  cases d <;> first | (cases h; done) | skip
  case ref cl =>
    simp only [VR] at r
    obtain ⟨A, ia, rfl⟩ := r
    unfold isC at h
    dsimp only at h
    match e1 : S[cl]?, h with
    | some (.ins c' ds), h =>
      dsimp only at h
      by_cases hc : c' = c
      · subst hc
        exact ⟨A, ds, cl, rfl, rfl, e1, ins_at s e1 ia⟩
      · rw [if_neg hc] at h; cases h
theorem zip_none {m : Str} {fs : List Str} {vs : List V} (h : m ∉ fs) : (fs.zip vs).lookup m = none := by
  rw [List.lookup_eq_none_iff]
  intro p hp
  have := (List.of_mem_zip hp).1
  have ne : m ≠ p.1 := fun e => h (e ▸ this)
  simpa using ne
variable {k n : Nat} {f : Addr} {fd : FuncData} {ps : List Str} {m : Df} {mn : Str}
theorem de_meth {fo : Ev} {t : Av} {pl : Sem Bool} (D : ClsD T X.K X.mg c C) (ho : PE X o (tE T X W fo)) (hm : Meth X.K C mn f) (F : FnOk X.prog X.w X.K X.mg X.base (CX X.prog X.w) k f fd ps (spD T X.K X.mg (n + 1) m)) (hr : Room k X.A) (hb : Binds X.K fd ps []) (tk : Takes X W) (ha : PA X (e :: es) (tA T X W t)) (hl : Ln t n) (hno : mn ∉ T.fld c := by decide)
    (hst : starEach (e :: es) X.env = (false, eval e X.env) :: starEach es X.env := by rfl) (hpl : (backTo pos (starEach es X.env)).any (·.1) = false := by rfl)
    (ht : eval (.Call (.Attribute o mn apos) (e :: es) [] pos) X.env = (do
      let ov ← eval o X.env
      standAt apos.atName
      let (f, first) ← holding [ov] (getMethod ov mn pl)
      callWith pos f first (backTo pos (starEach (e :: es) X.env)) (backToKw pos (keywordEach [] X.env))) := by rfl) :
    PE X (.Call (.Attribute o mn apos) (e :: es) [] pos) (tE T X W (eMeth c m fo t)) := by
  refine ⟨fun pins s σ H Q I q => ?_⟩
  obtain ⟨ι, S, ρ, cf, p⟩ := q
  refine PySem.W.methodCall_KW (pl := pl) (thn (ho.run pins s σ H _ I ⟨ι, S, ρ, cf, Post.bnd p⟩) fun u s1 ⟨x, H1, I1, rx, ι1, S1, d, g1, sm1, r1, p1⟩ => ?_) ht
  match e0 : isC c d S1, p1 with
  | some _, p1 =>
    obtain ⟨a, ds, cl, rfl, rfl, es1, C', dx, vs, hm', hH, hlv, rr⟩ := isC_ok sm1 r1 e0
    rw [D.at_] at hm'
    cases hm'
    obtain rfl : u = Value.ref a := rx
    refine getmeth_ok I1 hH D.cls hm (zip_none hno) ?_
    refine PySem.W.callWith_K (first := [.ref a]) (h₀ := X.base) I.ok.mod.kin hm.kp (thn (ha.run pos pins s1 σ H1 (fun zs H2 => zs.length = n ∧ spD T X.K X.mg (n + 1) m (.ref a :: zs) H2 Q (WE W σ)) I1 ⟨ι1, S1, ρ, cf.grow g1 sm1, ?_⟩) fun us s2 ⟨zs, H2, I2, r, q2⟩ => ⟨I2.kIn, ?_⟩) hst hpl
    · have p1' : Post T X.K X.mg (fun c d H' => W c d σ H') (repE T X.K X.mg) ι1 H1 (bnd (t ρ S1) fun ds S2 => m (Dl.D.ref cl :: ds) S2) Q := p1
      match e : t ρ S1, p1' with
      | none, p1' => exact p1'
      | some (.error x, S'), p1' => exact p1'
      | some (.ok d, S'), p1' =>
        intro ι2 zs H2 g2 s2 r2
        have hz : zs.length = n := (VsR.length r2).trans (hl.ok _ _ _ _ e)
        refine ⟨hz, by simp [hz], ι2, S', _, s2, VsR.cons (VR.grow sm1 g2 r1) r2, ?_⟩
        exact Post.on (show Post T X.K X.mg _ (repE T X.K X.mg) ι1 H1 (m (Dl.D.ref cl :: d) S') Q from p1') g2
    · exact run_fnS (us := .ref a :: us) (vs := .ref a :: zs) F hr hb (passAt tk σ) I2 (.cons rfl r) q2.2
theorem de_meth0 {fo : Ev} {pl : Sem Bool} (D : ClsD T X.K X.mg c C) (ho : PE X o (tE T X W fo)) (hm : Meth X.K C mn f) (F : FnOk X.prog X.w X.K X.mg X.base (CX X.prog X.w) k f fd ps (spD T X.K X.mg 1 m)) (hr : Room k X.A) (hb : Binds X.K fd ps []) (tk : Takes X W) (hno : mn ∉ T.fld c := by decide)
    (ht : eval (.Call (.Attribute o mn apos) [] [] pos) X.env = (do
      let ov ← eval o X.env
      standAt apos.atName
      let (f, first) ← holding [ov] (getMethod ov mn pl)
      callWith pos f first (backTo pos (starEach [] X.env)) (backToKw pos (keywordEach [] X.env))) := by rfl) :
    PE X (.Call (.Attribute o mn apos) [] [] pos) (tE T X W (eMeth c m fo aNil)) := by
  refine ⟨fun pins s σ H Q I q => ?_⟩
  obtain ⟨ι, S, ρ, cf, p⟩ := q
  refine PySem.W.methodCall_KW (pl := pl) (thn (ho.run pins s σ H _ I ⟨ι, S, ρ, cf, Post.bnd p⟩) fun u s1 ⟨x, H1, I1, rx, ι1, S1, d, g1, sm1, r1, p1⟩ => ?_) ht
  match e0 : isC c d S1, p1 with
  | some _, p1 =>
    obtain ⟨a, ds, cl, rfl, rfl, es1, C', dx, vs, hm', hH, hlv, rr⟩ := isC_ok sm1 r1 e0
    rw [D.at_] at hm'
    cases hm'
    obtain rfl : u = Value.ref a := rx
    refine getmeth_ok I1 hH D.cls hm (zip_none hno) ?_
    refine PySem.W.callWith_K0 (first := [.ref a]) I1.kIn hm.kp (run_fnS (us := [.ref a]) (vs := [.ref a]) F hr hb (passAt tk σ) I1 (.cons rfl .nil) ?_)
    exact ⟨rfl, ι1, S1, _, sm1, VsR.cons r1 VsR.nil, p1⟩
/-- f() -/
theorem de_call0 {x : Str} {p : Pos} (F : FnOk X.prog X.w X.K X.mg X.base (CX X.prog X.w) k f fd ps (spD T X.K X.mg 0 m)) (hr : Room k X.A) (hg : Gl X x) (hm : X.mg x = some (.ref f)) (hk : PySem.W.keepIn X.K (.ref f) = true) (hb : Binds X.K fd ps []) (tk : Takes X W)
    (hdb : (x == ("__debug__" : Str)) = false := by decide) : PE X (.Call (.Name x p) [] [] pos) (tE T X W (eCall m aNil)) := by
  refine ⟨fun pins s σ H Q I q => ?_⟩
  obtain ⟨ι, S, ρ, cf, p⟩ := q
  refine wpAny_Call_Name_kw (ld_glob I hg hm ?_ hdb)
  exact PySem.W.callWith_K0 I.kIn hk (run_fnS (us := []) (vs := []) F hr hb (passAt tk σ) I .nil ⟨rfl, ι, S, [], cf.sim, VsR.nil, p⟩)
/-! ### making -/
def eMake (c : Nat) (m : Df) (t : Av) : Ev := fun ρ S => bnd (t ρ S) fun ds S1 => bnd (m (.ref S1.length :: ds) (S1 ++ [.ins c []])) fun d S2 => match d with
  | .non => ok (.ref S1.length) S2
  | _ => none
theorem run_makeD {pins : List (Addr × Obj)} {σ : L2.St} {H : Hp} {s : Shared} {Q : VK} {us : List Value} {vs : List V} {ι : List Addr} {S : Store} {ds : List D} (D : ClsD T X.K X.mg c C) (M : Mk X.K C f) (F : FnOk X.prog X.w X.K X.mg X.base (CX X.prog X.w) k f fd ps (spD T X.K X.mg (n + 1) m)) (hr : Room (k + 1) X.A) (hb : Binds X.K fd ps []) (tk : Takes X W)
    (I : Inv X pins σ H s) (r : Vals vs us) (sm : Sim T X.K X.mg ι S H) (rs : VsR T X.K X.mg ι H ds vs) (hn : vs.length = n)
    (p : Post T X.K X.mg (fun c d H' => W c d σ H') (repE T X.K X.mg) ι H (bnd (m (.ref S.length :: ds) (S ++ [.ins c []])) fun d S2 => match d with | .non => ok (.ref S.length) S2 | _ => none) Q) :
    wpAny (model X.prog X.w) X.A (call (.ref C) us) (EP X pins σ Q) X.xe s := by
  have nx : H (s.heap.objs.size + 1) = none := I.hok.fresh (Nat.le_succ _)
  have nd : H s.heap.objs.size = none := I.hok.fresh (Nat.le_refl _)
  have ne : s.heap.objs.size ≠ s.heap.objs.size + 1 := Nat.ne_of_lt (Nat.lt_succ_self _)
  have I2 := Inv.made (C := C) I
  have nx2 : upd H s.heap.objs.size (.own (s.heap.objs.size + 1)) (s.heap.objs.size + 1) = none := by rw [upd_ne (Ne.symm ne)]; exact nx
  have g0 : Grow ι H ι (upd H s.heap.objs.size (.own (s.heap.objs.size + 1))) := Grow.laid nd
  have sm0 := sm.laid (o := .own (s.heap.objs.size + 1)) nd
  have g2 : Grow ι H (ι ++ [s.heap.objs.size + 1]) (upd (upd H s.heap.objs.size (.own (s.heap.objs.size + 1))) (s.heap.objs.size + 1) (.ins C s.heap.objs.size [])) := g0.trans (Grow.lst nx2)
  have sm2 : Sim T X.K X.mg (ι ++ [s.heap.objs.size + 1]) (S ++ [.ins c []]) (upd (upd H s.heap.objs.size (.own (s.heap.objs.size + 1))) (s.heap.objs.size + 1) (.ins C s.heap.objs.size [])) :=
    (sm0.laid (o := .ins C s.heap.objs.size []) nx2).add (fun z => sm0.some z nx2) ⟨C, s.heap.objs.size, [], D.at_, by rw [upd_same]; simp, Nat.zero_le _, VsR.nil⟩
  have hself : VR T X.K X.mg (ι ++ [s.heap.objs.size + 1]) (upd (upd H s.heap.objs.size (.own (s.heap.objs.size + 1))) (s.heap.objs.size + 1) (.ins C s.heap.objs.size [])) (.ref S.length) (.ref (s.heap.objs.size + 1)) := by
    simp only [VR]
    exact ⟨_, by rw [← sm.len]; simp, rfl⟩
  have hq : spD T X.K X.mg (n + 1) m (.ref (s.heap.objs.size + 1) :: vs) (upd (upd H s.heap.objs.size (.own (s.heap.objs.size + 1))) (s.heap.objs.size + 1) (.ins C s.heap.objs.size [])) (fun v H2 => v = .non ∧ Q (.ref (s.heap.objs.size + 1)) H2) (WE W σ) := by
    refine ⟨by simp [hn], _, _, _, sm2, VsR.cons hself (rs.grow sm g2), ?_⟩
    refine ((Post.on p g2).bnd).mono (fun v H3 q => ?_) fun _ _ _ e => e
    obtain ⟨ι3, S3, d, g3, s3, r3, p3⟩ := q
    cases d <;> first | exact p3.elim | skip
    case non =>
      simp only [repE, VR] at r3
      refine ⟨r3, p3 ι3 _ H3 (Grow.refl _ _) s3 ?_⟩
      exact hself.grow sm2 g3
  have r2 : Vals (V.ref (s.heap.objs.size + 1) :: vs) (Value.ref (s.heap.objs.size + 1) :: us) := .cons rfl r
  have hl : (Value.ref (s.heap.objs.size + 1) :: us).length = ps.length := by
    have e := r2.length
    rw [F.len _ _ _ _ hq] at e
    exact e.symm
  have b := hb { s with heap := (s.heap.push PySem.W.emptyDict).push (PySem.W.instObj C s.heap.objs.size) } (Value.ref (s.heap.objs.size + 1) :: us) I2.kIn (by rw [List.append_nil]; exact hl)
  rw [List.append_nil] at b
  refine wpAny_call (make_map (f := f) I.kIn M.makes M.init (beq_iff_eq.mp M.fn) (codeAny_mono (F.run _ X.stack _ _ ⟨Value.ref (s.heap.objs.size + 1) :: us, []⟩ (Value.ref (s.heap.objs.size + 1) :: us) _ _ (WE W σ) (hr.make C us [])
    (I2.env0.make C us []) b r2 hq) fun r s' hq' => ?_))
  cases r with
  | error e => exact passAt tk σ pins _ _ e s' I2 hq'
  | ok fl =>
    cases fl with
    | ret u =>
      obtain ⟨v, H', I3, rv, ev, q3⟩ := I2.after hq'
      subst ev
      exact ⟨rv, ⟨V.ref (s.heap.objs.size + 1), H', I3, rfl, q3⟩⟩
    | next => exact False.elim hq'
    | brk => exact False.elim hq'
    | cont => exact False.elim hq'
theorem de_make {x : Str} {p : Pos} {t : Av} (D : ClsD T X.K X.mg c C) (M : Mk X.K C f) (F : FnOk X.prog X.w X.K X.mg X.base (CX X.prog X.w) k f fd ps (spD T X.K X.mg (n + 1) m)) (hr : Room (k + 1) X.A) (hg : Gl X x) (hx : T.cls c = x) (hb : Binds X.K fd ps []) (tk : Takes X W)
    (ha : PA X (e :: es) (tA T X W t)) (hl : Ln t n) (hdb : (x == ("__debug__" : Str)) = false := by decide) (he : starEach (e :: es) X.env = (false, eval e X.env) :: starEach es X.env := by rfl) (hpl : (backTo pos (starEach es X.env)).any (·.1) = false := by rfl) :
    PE X (.Call (.Name x p) (e :: es) [] pos) (tE T X W (eMake c m t)) := by
  refine ⟨fun pins s σ H Q I q => ?_⟩
  obtain ⟨ι, S, ρ, cf, p⟩ := q
  refine wpAny_Call_Name_kw (ld_glob I hg (hx ▸ D.at_) ?_ hdb)
  refine PySem.W.callWith_K (h₀ := X.base) I.ok.mod.kin M.kp (thn (ha.run pos pins s σ H (fun zs H2 => ∃ ι2 S2 ds2, zs.length = n ∧ Sim T X.K X.mg ι2 S2 H2 ∧ VsR T X.K X.mg ι2 H2 ds2 zs ∧ Post T X.K X.mg (fun c d H' => W c d σ H') (repE T X.K X.mg) ι2 H2 (bnd (m (.ref S2.length :: ds2) (S2 ++ [.ins c []])) fun d S3 => match d with | .non => ok (.ref S2.length) S3 | _ => none) Q) I ⟨ι, S, ρ, cf, ?_⟩) fun us s1 ⟨vs, H1, I1, r, q⟩ => ⟨I1.kIn, ?_⟩) he hpl
  · unfold eMake at p
    match e : t ρ S, p with
    | none, p => exact p
    | some (.error x, S'), p => exact p
    | some (.ok d, S'), p =>
      intro ι2 zs H2 g2 s2 r2
      exact ⟨ι2, S', d, (VsR.length r2).trans (hl.ok _ _ _ _ e), s2, r2, Post.on (show Post T X.K X.mg _ (repE T X.K X.mg) ι H (bnd (m (.ref S'.length :: d) (S' ++ [.ins c []])) fun d S3 => match d with | .non => ok (.ref S'.length) S3 | _ => none) Q from p) g2⟩
  · obtain ⟨ι2, S2, ds2, hz, s2, r2, p2⟩ := q
    exact run_makeD D M F hr hb tk I1 r s2 r2 hz p2
end
end Dl
set_option Elab.async false
set_option linter.all false
set_option maxRecDepth 100000
set_option maxHeartbeats 2000000
namespace Dl
open PySem PySem.Spec PyProof.Rows L2
/-! ### defs -/
def startD (n : Nat) (ds : List D) : Loc := ds.map some ++ List.replicate (n - ds.length) none
def runDef (n : Nat) (u : Sv) : Df := fun ds S => match u (startD n ds) S with
  | some (.nx _, S') => some (.ok .non, S')
  | some (.rt d, S') => some (.ok d, S')
  | some (.ex x _, S') => some (.error x, S')
  | _ => none
section
variable {T : Tab} {P : Program} {w : World} {K : PySem.W.Frag} {mg : Str → Option Value} {base : Heap} {x qual : Str} {params : Arguments} {body : List Stmt} {scope : Scope} {dvs : List V} {kws : List (Str × V)} {f : Addr} {fd : FuncData} {N ps : List Str} {k n : Nat}
theorem start_rel {ι : List Addr} {H : Hp} {ds : List D} {vs : List V} (r : VsR T K mg ι H ds vs) : LocR T K mg ι H (startD N.length ds) (L2.start N vs) := by
  unfold startD L2.start
  refine ⟨by simp [r.length], fun i d e => ?_⟩
  by_cases h : i < ds.length
  · rw [List.getElem?_append_left (by simpa using h), List.getElem?_map] at e
    rw [List.getElem?_append_left (by simpa [r.length] using h), List.getElem?_map]
    cases e1 : ds[i]? with
    | none => rw [e1] at e; cases e
    | some d' =>
      rw [e1] at e
      cases e
      obtain ⟨v, hv, rv⟩ := r.get e1
      exact ⟨v, by rw [hv]; rfl, rv⟩
  · rw [List.getElem?_append_right (by simpa using h)] at e
    rw [List.getElem?_replicate] at e
    split at e <;> cases e
theorem def_ok {nn : Nat} {m : Df} (u : Sv) (F : FunD K x qual params body scope dvs kws f fd) (S : FnScope N ps scope) (hN : N.length = nn) (hm : m = runDef nn u) (hn : ps.length = n)
    (hb : ∀ (cdv : Value) (A : Around) (outer : List Env) (s : Shared) (H : Hp) (E : XK), Room k (A.deeper (envOfC qual scope s.heap.objs.size f cdv)) →
      PSs (cxOf (CX P w) P w K mg base N qual scope f cdv A outer s H E) body (tS T (cxOf (CX P w) P w K mg base N qual scope f cdv A outer s H E) (fun cls d _ H => E cls d H) u)) :
    FnOk P w K mg base (CX P w) (k + 1) f fd ps (spD T K mg n m) := by
  subst hN
  subst hm
  refine F.ok S (fun vs H Q E h => h.1.trans hn.symm) fun cdv A outer s H vs Q E hr h => ⟨_, hb cdv A outer s H E hr, ?_⟩
  obtain ⟨hl, ι, St, ds, sm, r, p⟩ := h
  refine ⟨ι, St, startD N.length ds, ⟨sm, start_rel r⟩, ?_⟩
  unfold runDef at p
  match e : u (startD N.length ds) St, p with
  | some (.nx ρ, S'), p => exact fun ι' σ' H' g c => p ι' .non H' g c.sim (by simp only [repE, VR])
  | some (.rt d, S'), p => exact fun ι' v H' g s r => p ι' v H' g s r
  | some (.ex z ρ, S'), p => exact fun ι' cls dx σ' H' g c q => p ι' cls dx H' g c.sim q
end
end Dl
set_option Elab.async false
set_option linter.all false
set_option maxRecDepth 100000
set_option maxHeartbeats 2000000
namespace PySem
open PySem.Calls PyProof.Rows
section
variable {prog : Program} {w : World} {A : Around} {E : Value → Shared → Prop} {s : Shared}
/-- sorted(t), t a tuple of few ints -/
theorem sorted_intsT {l : Addr} {vs : List Value} {ns : List Int} {Q : Value → Shared → Prop} (hl : s.heap.IsTuple l vs.toArray) (hI : IntsAre vs ns) (h64 : vs.length < 64)
    (h : ∀ (h1 h' : Heap) (out : Array Value) (ns' : List Int) (n : Nat), (∀ b o, s.heap.get? b = some o → h1.get? b = some o) → (∀ b o, h1.get? b = some o → h'.get? b = some o) → h'.get? h1.objs.size = some (seqObj "list" out n) → IntsAre out.toList ns' → ns'.Perm ns → ns'.Pairwise (· ≤ ·) → Q (.ref h1.objs.size) { s with heap := h' }) :
    wpAny (model prog w) A (call (.builtin "sorted") [.ref l]) Q E s := by
  obtain ⟨o, ho, hc, n, hd⟩ := id hl
  refine Calls.call_function_entry kind_sorted plain_sorted entry_sorted (args_sorted1 _) ?_
  unfold Builtin.«sorted»
  refine wpAny_bind (m := checkCount "sorted" 1 1 _) (wpAny_pure ?_)
  refine wpAny_bind (wpAny_collect_seq l (.inr rfl) ho hc hd (fun h1 k1 => ?_) (by rw [List.size_toArray, sizeLine_eq]; omega))
  simp only [List.toList_toArray]
  refine wpAny_bind (wpAny_newList ?_)
  have hoL : (h1.push (seqObj "list" vs.toArray 0)).get? h1.objs.size = some (seqObj "list" vs.toArray 0) := Heap.get?_push_size _ rfl
  refine wpAny_bind (wpAny_holding (wpAny_call_entry slot_list_sort ⟨_, hoL, rfl⟩ entry_list_sort (list_sort_tree (s := { s with heap := h1.push (seqObj "list" vs.toArray 0) }) hoL hI h64 fun out ns' a1 a2 a3 => ⟨_, rfl, ?_⟩) (args_list_sort _)))
  obtain ⟨n', e'⟩ := sortedHeap_at (vs := vs) (out := out) hoL
  refine wpAny_pure ⟨_, rfl, h h1 _ out ns' n' k1 (fun b u e2 => ?_) e' a1 a2 a3⟩
  have hb : b ≠ h1.objs.size := Nat.ne_of_lt (Heap.lt_size e2)
  rw [sortedHeap_old hb (by rw [Heap.size_push]; exact Nat.lt_succ_of_lt (Heap.lt_size e2))]
  exact Heap.get?_push_of_some _ e2
end
end PySem
namespace Dl
open PySem PySem.Spec PyProof.Rows L2
/-! ### sorted, of a tuple too; len(set(..)) -/
def sqD : D → Store → Option (List D)
  | .tup ds, _ => some ds
  | .frz ds, _ => some ds
  | .ref c, S => match S[c]? with
    | some (.lst ds) => some ds
    | _ => none
  | _, _ => none
def sortedB : OpA := fun xs S => match xs with
  | [x] => match sqD x S with
    | some ds => match intsD ds with
      | some ns => if ns.length < 64 then newL ((sortI ns).map .int) S else none
      | none => none
    | none => none
  | _ => none
section
variable {T : Tab} {X : Cx} {W : WX} {ι : List Addr} {H : Hp} {S : Store}
theorem sq_rel {K : PySem.W.Frag} {mg : Str → Option Value} {x : D} {v : V} {ds : List D} (s : Sim T K mg ι S H) (r : VR T K mg ι H x v) (e : sqD x S = some ds) : ∃ a vs, v = .ref a ∧ (SqL K H a vs ∨ SqT K H a vs) ∧ VsR T K mg ι H ds vs := by
  have e' : seqD x S = some ds := by
    cases x <;> first | (cases e; done) | exact e
  obtain ⟨a, vs, h1, h2, h3, _⟩ := seq_rel s r e'
  exact ⟨a, vs, h1, h2, h3⟩
def rSortT (K : PySem.W.Frag) : List V → Hp → VK → Prop := fun vs H Q => ∃ (a : Addr) (ns : List Int), vs = [V.ref a] ∧ SqT K H a (ns.map V.int) ∧ ns.length < 64 ∧
  ∀ (ns' : List Int) (p : Addr), ns'.Perm ns → ns'.Pairwise (· ≤ ·) → H p = none → Q (.ref p) (upd H p (.lst (ns'.map V.int)))
theorem call_sortT : CallR X (.builtin "sorted") (rSortT X.K) := by
  intro pins s σ H vs us Q I r h
  obtain ⟨a, ns, rfl, hs, h64, q⟩ := h
  obtain ⟨its, rv, hl, _⟩ := I.tuple hs
  rw [Vals.ref1 r]
  have hi := rv.ints
  refine sorted_intsT hl hi (by rw [hi.length]; exact h64) fun h1 h' out ns' n k1 k2 e' b1 b2 b3 => ?_
  have hlen : (ns'.map V.int).length ≤ sizeLine := by rw [List.length_map, b2.length_eq]; exact small64 h64
  have I1 : Inv X pins σ H { s with heap := h1 } := I.kept (t' := s.toks) k1
  exact ⟨.ref h1.objs.size, upd H h1.objs.size (.lst (ns'.map V.int)), I1.laid (t' := s.toks) k2 (Nat.le_refl _) ⟨hlen, out.toList, n, vals_of_ints b1, e'⟩, rfl, q ns' _ b2 b3 (I1.hok.fresh (Nat.le_refl _))⟩
theorem cSortedB : CallR X (.builtin "sorted") (rDA T X.K X.mg sortedB) := CallR.imp (cr_sorted.or call_sortT) fun xs H Q h => by
  obtain ⟨ι, S, ds, s, r, p⟩ := h
  match ds, p with
  | [x], p =>
    obtain ⟨v, rfl, rr⟩ := one_of r
    unfold sortedB at p
    dsimp only at p
    match e : sqD x S, p with
    | some ys, p =>
      dsimp only at p
      match e2 : intsD ys, p with
      | some ns, p =>
        dsimp only at p
        obtain ⟨a, vs, rfl, q, r2⟩ := sq_rel s rr e
        rw [intsD_eq e2] at r2
        rw [r2.ints] at q
        by_cases hn : ns.length < 64
        · rw [if_pos hn] at p
          have fin : ∀ (ns' : List Int) (b : Addr), ns'.Perm ns → ns'.Pairwise (· ≤ ·) → H b = none → Q (.ref b) (upd H b (.lst (ns'.map V.int))) := fun ns' b pm so hb => by
            have : ns' = sortI ns := sort_unique (pm.trans (sortI_perm ns).symm) so (sortI_sorted ns)
            rw [this]
            exact p.lst s (VsR.of_ints _) hb
          rcases q with q | q
          · exact .inl ⟨a, ns, rfl, q, hn, fin⟩
          · exact .inr ⟨a, ns, rfl, q, hn, fin⟩
        · rw [if_neg hn] at p; exact p.elim
def nubI : List Int → List Int
  | [] => []
  | x :: xs => if x ∈ xs then nubI xs else x :: nubI xs
theorem nubI_mem (k : Int) : ∀ xs, k ∈ nubI xs ↔ k ∈ xs
  | [] => by simp [nubI]
  | x :: xs => by
    unfold nubI
    split
    · rename_i h
      rw [nubI_mem k xs]
      constructor
      · exact List.mem_cons_of_mem _
      · intro m
        rcases List.mem_cons.mp m with e | m
        · subst e; exact h
        · exact m
    · rw [List.mem_cons, List.mem_cons, nubI_mem k xs]
theorem nubI_nodup : ∀ xs, (nubI xs).Nodup
  | [] => by simp [nubI]
  | x :: xs => by
    unfold nubI
    split
    · exact nubI_nodup xs
    · rename_i h
      exact List.nodup_cons.mpr ⟨fun m => h ((nubI_mem x xs).mp m), nubI_nodup xs⟩
/-- len(set(t)), t a tuple of ints -/
def eLenSet (f : Ev) : Ev := fun ρ S => bnd (f ρ S) fun d S1 => match d with
  | .tup ds => match intsD ds with
    | some ns => if ns.length ≤ 1000 then ok (.int (nubI ns).length) S1 else none
    | none => none
  | _ => none
theorem de_lenSet {a : Expr} {f : Ev} {p p2 q pos : Pos} (hc : X.calm = true) (hg : Gl X "len") (hm : X.mg "len" = none) (hg2 : Gl X "set") (hm2 : X.mg "set" = none) (ha : PE X a (tE T X W f))
    (na : starEach [a] X.env = (false, eval a X.env) :: starEach [] X.env := by rfl) : PE X (.Call (.Name "len" p) [.Call (.Name "set" p2) [a] [] q] [] pos) (tE T X W (eLenSet f)) := by
  refine ⟨fun pins s σ H Q I h => ?_⟩
  obtain ⟨ι, S, ρ, cf, pp⟩ := h
  refine Call_ (ld_blt I hg hm PySem.boot_len ?_)
  refine PyProof.Rows.callWith_builtin1 (PyProof.Rows.args_cons ?_ rfl) rfl rfl
  refine Call_ (ld_blt I hg2 hm2 PyProof.Rows.boot_set ?_)
  refine PyProof.Rows.callWith_type1 (PyProof.Rows.args_cons (thn (ha.run pins s σ H _ I ⟨ι, S, ρ, cf, Post.bnd pp⟩) fun v s1 ⟨x, H1, I1, rx, ι1, S1, d, g1, sm1, r1, p1⟩ => PyProof.Rows.args_nil ?_) na) na rfl
  cases d <;> first | exact p1.elim | skip
  case tup ds =>
    dsimp only at p1
    match e : intsD ds, p1 with
    | some ns, p1 =>
      dsimp only at p1
      by_cases hl : ns.length ≤ 1000
      · rw [if_pos hl] at p1
        simp only [repE, VR] at r1
        obtain ⟨a, vs, rfl, q, r⟩ := r1
        rw [intsD_eq e] at r
        have q2 := q.seq
        rw [r.ints] at q2
        cases rx
        obtain ⟨its, rv, pt, hz⟩ := I1.tuple q2
        have hi : IntsAre its.toArray.toList ns := ints_of_vals rv
        refine call_set_tupI ns (I1.ok.hd hc) (show s1.heap.IsTuple a its.toArray from pt) hi (by unfold scanBound; omega) fun h' tk c R1 hcn k => ?_
        obtain ⟨o, es, ep, t, ho, hex, hdt, g, nd, hm2, hb, hf, hn, hr, hl2⟩ := R1
        refine PyProof.Rows.args_nil ?_
        have hsize : es.size = (nubI ns).length := by
          have hp : (es.toList.map keyOf).Perm (nubI ns) := (List.perm_ext_iff_of_nodup nd (nubI_nodup ns)).mpr fun j => by
            rw [nubI_mem]
            have := hm2 j
            simp only [decide_eq_true_eq] at this
            exact this.symm
          have := hp.length_eq
          simpa using this
        have I2 : Inv X pins σ H1 { s1 with heap := h', toks := tk } := I1.kept k
        refine call_len_set ho hex hdt hf (by unfold scanBound at hb; omega) ⟨.int (nubI ns).length, H1, I2.tok _, ⟨_, by rw [hsize]⟩, p1 ι1 _ H1 (Grow.refl _ _) sm1 (by simp only [repE, VR])⟩
      · rw [if_neg hl] at p1; exact p1.elim
end
end Dl
set_option Elab.async false
set_option linter.all false
set_option maxRecDepth 100000
set_option maxHeartbeats 2000000
namespace Dl
open PySem PySem.Spec PyProof.Rows L2
/-! ### isinstance -/
inductive Ty where
  | tInt | tBool | tStr | tTuple | tList
def Ty.nm : Ty → String
  | .tInt => "int"
  | .tBool => "bool"
  | .tStr => "str"
  | .tTuple => "tuple"
  | .tList => "list"
inductive Kd where
  | kNon | kBool | kInt | kStr | kTuple | kList
def Kd.nm : Kd → String
  | .kNon => "NoneType"
  | .kBool => "bool"
  | .kInt => "int"
  | .kStr => "str"
  | .kTuple => "tuple"
  | .kList => "list"
def isKT : Kd → Ty → Bool
  | .kBool, .tInt => true
  | .kBool, .tBool => true
  | .kInt, .tInt => true
  | .kStr, .tStr => true
  | .kTuple, .tTuple => true
  | .kList, .tList => true
  | _, _ => false
theorem kit_all : ∀ (k : Kd) (t : Ty), kitB k.nm t.nm = some (isKT k t) := by
  intro k t
  cases k <;> cases t <;> decide +kernel
def kdD (d : D) (S : Store) : Option Kd := match d with
  | .non => some .kNon
  | .bl _ => some .kBool
  | .int _ => some .kInt
  | .str _ => some .kStr
  | .tup _ => some .kTuple
  | .wtup _ => some .kTuple
  | .frz _ => some .kList
  | .ref c => match S[c]? with
    | some (.lst _) => some .kList
    | _ => none
  | .gl _ => none
def eIs (t : Ty) (f : Ev) : Ev := fun ρ S => bnd (f ρ S) fun d S1 => match kdD d S1 with
  | some k => ok (.bl (isKT k t)) S1
  | none => none
/-- isinstance(x, C): x an instance of an own class, or of none -/
def eIsC (c : Nat) (f : Ev) : Ev := fun ρ S => bnd (f ρ S) fun d S1 => match kdD d S1 with
  | some k => ok (.bl false) S1
  | none => match d with
    | .ref a => match S1[a]? with
      | some (.ins c' _) => if c' = c then ok (.bl true) S1 else none
      | _ => none
    | _ => none
section
variable {T : Tab} {X : Cx} {W : WX} {a b e o : Expr} {es : List Expr} {pos p p2 apos cpos : Pos} {ι : List Addr} {H : Hp} {S : Store}
theorem kd_ty {K : PySem.W.Frag} {mg : Str → Option Value} {d : D} {v : V} {k : Kd} (s : Sim T K mg ι S H) (r : VR T K mg ι H d v) (e : kdD d S = some k) : TyX K H v (.type k.nm) := by
  cases d <;> first | (cases e; done) | skip
  case non => cases e; simp only [VR] at r; subst r; exact .base .non
  case bl x => cases e; simp only [VR] at r; subst r; exact .base (.bl x)
  case int x => cases e; simp only [VR] at r; subst r; exact .base (.int x)
  case str x => cases e; simp only [VR] at r; subst r; exact .base (.str x)
  case tup ds =>
    cases e
    simp only [VR] at r
    obtain ⟨a, vs, rfl, q, r⟩ := r
    rcases q with ⟨o, q, _⟩ | ⟨o, its, n, q, c, _⟩
    · exact .fTuple q
    · exact .kTuple q c
  case wtup ds =>
    cases e
    simp only [VR] at r
    obtain ⟨a, vs, rfl, q, r⟩ := r
    rcases q with (q | ⟨o, q⟩) | ⟨o, its, n, q, c, _⟩
    · exact .base (.tup q)
    · exact .fTuple q
    · exact .kTuple q c
  case frz ds =>
    cases e
    simp only [VR] at r
    obtain ⟨a, vs, rfl, q, r⟩ := r
    rcases q with ⟨o, q⟩ | ⟨o, its, n, q, c, _⟩
    · exact .base (.frz q)
    · exact .kList q c
  case ref c =>
    simp only [VR] at r
    obtain ⟨a, i, rfl⟩ := r
    unfold kdD at e
    dsimp only at e
    match e1 : S[c]?, e with
    | some (.lst ds), e =>
      cases e
      obtain ⟨vs, h, _⟩ := lst_at s e1 i
      exact .base (.lst h)
theorem de_is {x : Str} {f : Ev} (t : Ty) (hg : Gl X "isinstance") (hm : X.mg "isinstance" = none) (he : PE X e (tE T X W f)) (hg2 : Gl X x) (hm2 : X.mg x = none) (hv : bootBuiltins x = some (.type t.nm)) (hn : x ≠ "__name__" := by decide) (hd : (x == ("__debug__" : Str)) = false := by decide)
    (h1 : starEach [e, .Name x p2] X.env = (false, eval e X.env) :: starEach [.Name x p2] X.env := by rfl) (h2 : (backTo pos (starEach [.Name x p2] X.env)).any (·.1) = false := by rfl) (h3 : starEach [.Name x p2] X.env = (false, eval (.Name x p2) X.env) :: starEach [] X.env := by rfl) :
    PE X (.Call (.Name "isinstance" p) [e, .Name x p2] [] pos) (tE T X W (eIs t f)) :=
  PE.imp (pe_callB call_isi hg hm (by decide +kernel) (pa_cons he (pa_cons (pe_bltn hg2 hm2 hv (v := .ty t.nm) rfl hn hd) pa_nil h3) h1) (by decide) (by decide) h1 h2) fun σ H Q q => by
    obtain ⟨ι, S, ρ, cf, p⟩ := q
    refine ⟨ι, S, ρ, cf, (Post.bnd p).mono (fun v H1 q => ?_) fun _ _ _ e => e⟩
    obtain ⟨ι1, S1, d, g1, s1, r1, p1⟩ := q
    match e1 : kdD d S1, p1 with
    | some k, p1 => exact ⟨v, .ty t.nm, _, _, isKT k t, rfl, .ty _, kd_ty s1 r1 e1, kit_ty (kit_all k t), p1 ι1 _ H1 (Grow.refl _ _) s1 (by simp only [repE, VR])⟩
/-! ### len of an instance -/
def eLenO (c : Nat) (m : Df) (f : Ev) : Ev := fun ρ S => bnd (f ρ S) fun d S1 => match isC c d S1 with
  | none => none
  | some _ => bnd (m [d] S1) fun r S2 => match r with
    | .int n => if 0 ≤ n ∧ n ≤ 1000000 then ok (.int n) S2 else none
    | _ => none
theorem len_own {prog : Program} {w : World} {A : Around} {E : Value → Shared → Prop} {s : Shared} {K : PySem.W.Frag} {x C f : Addr} {ox : Obj} {od : Option Obj} {Q : Value → Shared → Prop} (X₀ : K.In s.heap) (I : PySem.W.InstAt s.heap x ox C od) (hs : PySem.W.findIn K (.ref C) "__len__" = some (some (.ref f))) (hf : PySem.W.isFn K (.ref f) = true)
    (h : wpAny (model prog w) A.in1 (call (.ref f) [.ref x]) (PySem.W.LenBack Q) E s) : wpAny (model prog w) A (call (.builtin "len") [.ref x]) Q E s := by
  refine Calls.call_function_entry kind_len plain_len entry_len (args_len1 _) ?_
  unfold Builtin.«len»
  refine wpAny_bind (m := oneArg "len" _) (wpAny_pure ?_)
  refine wpAny_bind (m := callSpecial? (.ref x) (Str.ofString "__len__")) (PySem.W.special_fn X₀ I hs (beq_iff_eq.mp hf) (wpAny_mono h (fun r s' hr => ?_) fun _ _ y => y))
  cases r <;> first | exact hr.elim | skip
  rename_i n u
  obtain ⟨⟨h0, h1⟩, hq⟩ := hr
  refine wpAny_bind (wpAny_holding (wpAny_pure ?_))
  refine wpAny_bind (wpAny_letGo ?_)
  show wpAny _ _ (if n < 0 then _ else _) _ _ _
  rw [if_neg (by omega)]
  show wpAny _ _ (if n ≥ 2 ^ 63 then _ else _) _ _ _
  rw [if_neg (by omega)]
  exact wpAny_bind (wpAny_mkInt (wpAny_pure ⟨_, rfl, hq⟩))
variable {k : Nat} {f : Addr} {fd : FuncData} {ps : List Str} {m : Df} {c : Nat} {C : Addr}
theorem run_fnA {A : Around} {pins : List (Addr × Obj)} {σ : L2.St} {H : Hp} {s : Shared} {Q : VK} {us : List Value} {vs : List V} {sp : Sp} (F : FnOk X.prog X.w X.K X.mg X.base (CX X.prog X.w) k f fd ps sp) (hr : Room k A) (hb : Binds X.K fd ps []) (tk : Takes X W)
    (I : Inv X pins σ H s) (e0 : Env0 X.prog X.w X.K X.mg X.base A X.stack s H) (r : Vals vs us) (h : sp vs H Q (WE W σ)) : wpAny (model X.prog X.w) A (call (.ref f) us) (EP X pins σ Q) X.xe s := by
  have hl : us.length = ps.length := by rw [← r.length]; exact F.len _ _ _ _ h
  have b := hb s us I.kIn (by rw [List.append_nil]; exact hl)
  rw [List.append_nil] at b
  refine wpAny_call (codeAny_mono (F.run A X.stack s H ⟨us, []⟩ us vs Q (WE W σ) hr e0 b r h) fun r s' hq => ?_)
  cases r with
  | error e => exact passAt tk σ pins H s e s' I hq
  | ok fl =>
    cases fl with
    | ret u => exact I.after hq
    | next => exact False.elim hq
    | brk => exact False.elim hq
    | cont => exact False.elim hq
theorem de_lenO {fo : Ev} (D : ClsD T X.K X.mg c C) (hg : Gl X "len") (hm : X.mg "len" = none) (he : PE X e (tE T X W fo)) (hM : Meth X.K C "__len__" f) (F : FnOk X.prog X.w X.K X.mg X.base (CX X.prog X.w) k f fd ps (spD T X.K X.mg 1 m)) (hr : Room (k + 1) X.A) (hb : Binds X.K fd ps []) (tk : Takes X W)
    (na : starEach [e] X.env = (false, eval e X.env) :: starEach [] X.env := by rfl) : PE X (.Call (.Name "len" p) [e] [] pos) (tE T X W (eLenO c m fo)) := by
  refine ⟨fun pins s σ H Q I q => ?_⟩
  obtain ⟨ι, S, ρ, cf, pp⟩ := q
  refine Call_ (ld_blt I hg hm PySem.boot_len ?_)
  refine PyProof.Rows.callWith_builtin1 (PyProof.Rows.args_cons (thn (he.run pins s σ H _ I ⟨ι, S, ρ, cf, Post.bnd pp⟩) fun u s1 ⟨x, H1, I1, rx, ι1, S1, d, g1, sm1, r1, p1⟩ => PyProof.Rows.args_nil ?_) na) na rfl
  match e0 : isC c d S1, p1 with
  | some _, p1 =>
    obtain ⟨a, ds, cl, rfl, rfl, es1, C', dx, vs, hm', hH, hlv, rr⟩ := isC_ok sm1 r1 e0
    rw [D.at_] at hm'
    cases hm'
    obtain rfl : u = Value.ref a := rx
    obtain ⟨mA, O, _⟩ := ins_get I1.hok hH
    obtain ⟨od, J, _⟩ := O.look
    refine len_own I1.kIn J hM.at_ hM.fn (wpAny_mono (run_fnA (A := X.A.in1) (W := W) (us := [.ref a]) (vs := [.ref a]) (Q := fun v H2 => ∃ n : Int, v = .int n ∧ 0 ≤ n ∧ n ≤ 1000000 ∧ Q (.int n) H2) F hr.in1 hb tk I1 I1.env0.in1 (.cons rfl .nil) ?_) (fun v s2 hv => ?_) fun _ _ z => z)
    · refine ⟨rfl, ι1, S1, _, sm1, VsR.cons r1 VsR.nil, (Post.bnd p1).mono (fun v H2 q => ?_) fun _ _ _ e => e⟩
      obtain ⟨ι2, S2, r, g2, s2, r2, p2⟩ := q
      cases r <;> first | exact p2.elim | skip
      case int n =>
        dsimp only at p2
        split at p2
        · rename_i hn
          simp only [repE, VR] at r2
          exact ⟨n, r2, hn.1, hn.2, p2 ι2 _ H2 (Grow.refl _ _) s2 (by simp only [repE, VR])⟩
        · exact p2.elim
    · obtain ⟨x2, H2, I2, rx2, n, rfl, hn0, hn1, q2⟩ := hv
      obtain ⟨t, rfl⟩ := rx2
      exact ⟨⟨hn0, by omega⟩, .int n, H2, I2.tok _, ⟨_, rfl⟩, q2⟩
end
end Dl
set_option Elab.async false
set_option linter.all false
set_option maxRecDepth 100000
set_option maxHeartbeats 2000000
namespace Dl
open PySem PySem.Spec PyProof.Rows L2
/-! ### methods of lists and tuples -/
abbrev MtD := D → List D → Store → Option (D × Store)
def appendM : MtD := fun x xs S => match x, xs with
  | .ref c, [d] => match S[c]? with
    | some (.lst ds) => if ds.length < 1000000 then some (.non, S.set c (.lst (ds ++ [d]))) else none
    | _ => none
  | _, _ => none
def popM : MtD := fun x xs S => match x, xs with
  | .ref c, [.int i] => match S[c]? with
    | some (.lst ds) => match ixN ds.length i with
      | some j => match ds[j]? with
        | some d => if ds.length ≤ 1000000 then some (d, S.set c (.lst (ds.eraseIdx j))) else none
        | none => none
      | none => none
    | _ => none
  | _, _ => none
/-- of ints -/
def removeM : MtD := fun x xs S => match x, xs with
  | .ref c, [.int i] => match S[c]? with
    | some (.lst ds) => match intsD ds with
      | some ns => if i ∈ ns then some (.non, S.set c (.lst ((ns.eraseIdx (ns.idxOf i)).map .int))) else none
      | none => none
    | _ => none
  | _, _ => none
def insertM : MtD := fun x xs S => match x, xs with
  | .ref c, [.int i, d] => match S[c]? with
    | some (.lst ds) => if ds.length < 1000000 ∧ 0 ≤ i ∧ i ≤ 1000000 then some (.non, S.set c (.lst (ds.take i.toNat ++ [d] ++ ds.drop i.toNat))) else none
    | _ => none
  | _, _ => none
/-- t.index(i), t of ints -/
def indexM : MtD := fun x xs S => match x, xs with
  | .tup ds, [.int i] => match intsD ds with
    | some ns => if i ∈ ns then some (.int (ns.idxOf i : Nat), S) else none
    | none => none
  | _, _ => none
def eMtL (g : MtD) (fo : Ev) (t : Av) : Ev := fun ρ S => bnd (fo ρ S) fun x S1 => match lstD x S1 with
  | none => none
  | some _ => bnd (t ρ S1) fun ds S2 => lift (g x ds S2)
def isTup : D → Bool
  | .tup _ => true
  | _ => false
def eMtT (g : MtD) (fo : Ev) (t : Av) : Ev := fun ρ S => bnd (fo ρ S) fun x S1 => match isTup x with
  | false => none
  | true => bnd (t ρ S1) fun ds S2 => lift (g x ds S2)
section
variable {T : Tab} {X : Cx} {W : WX} {a b e o : Expr} {es : List Expr} {pos p p2 apos cpos : Pos} {ι : List Addr} {H : Hp} {S : Store} {nm : Str}
theorem sized {K : PySem.W.Frag} {mg : Str → Option Value} {ds : List D} {vs : List V} (r : VsR T K mg ι H ds vs) {n : Nat} (h : ds.length < n) : vs.length < n := by rw [r.length]; exact h
theorem mAppend : MtR X "list.append" (rDM T X.K X.mg appendM) := MtR.imp (r := rAppend) mt_append fun x xs H Q h => by
  obtain ⟨ι, S, dx, ds, s, rx, rs, p⟩ := h
  cases dx <;> first | exact p.elim | skip
  case ref c =>
    match ds, p with
    | [d], p =>
      obtain ⟨v, rfl, rv⟩ := one_of rs
      simp only [VR] at rx
      obtain ⟨A, ia, rfl⟩ := rx
      unfold appendM at p
      dsimp only at p
      match e : S[c]?, p with
      | some (.lst ys), p =>
        dsimp only at p
        by_cases hl : ys.length < 1000000
        · rw [if_pos hl] at p
          obtain ⟨vs, hh, rr⟩ := lst_at s e ia
          have gg : Grow ι H ι (upd H A (.lst (vs ++ [v]))) := Grow.set s ia
          refine ⟨A, vs, v, rfl, rfl, hh, by rw [rr.length, sizeLine_eq]; omega, p ι _ _ gg (s.set ia ⟨_, upd_same, (rr.append (VsR.cons rv VsR.nil)).grow s gg⟩) (by simp only [VR])⟩
        · rw [if_neg hl] at p; exact p.elim
theorem mPop : MtR X "list.pop" (rDM T X.K X.mg popM) := MtR.imp (r := rPopAt) mt_popAt fun x xs H Q h => by
  obtain ⟨ι, S, dx, ds, s, rx, rs, p⟩ := h
  cases dx <;> first | exact p.elim | skip
  case ref c =>
    match ds, p with
    | [.int i], p =>
      obtain ⟨v, rfl, rv⟩ := one_of rs
      simp only [VR] at rx rv
      subst rv
      obtain ⟨A, ia, rfl⟩ := rx
      unfold popM at p
      dsimp only at p
      match e : S[c]?, p with
      | some (.lst ys), p =>
        dsimp only at p
        match e2 : ixN ys.length i, p with
        | some j, p =>
          dsimp only at p
          match e3 : ys[j]?, p with
          | some d, p =>
            dsimp only at p
            by_cases hl : ys.length ≤ 1000000
            · rw [if_pos hl] at p
              obtain ⟨vs, hh, rr⟩ := lst_at s e ia
              obtain ⟨h1, h2, h3, h4⟩ := ixN_seq e2
              obtain ⟨u, hu, ru⟩ := rr.get e3
              have gg : Grow ι H ι (upd H A (.lst (vs.eraseIdx j))) := Grow.set s ia
              exact ⟨A, vs, i, j, u, rfl, rfl, hh, by omega, by omega, by rw [rr.length]; exact h1, hu, p ι _ _ gg (s.set ia ⟨_, upd_same, (rr.eraseIdx j).grow s gg⟩) (ru.grow s gg)⟩
            · rw [if_neg hl] at p; exact p.elim
theorem idxOf_at (i : Int) : ∀ ns : List Int, i ∈ ns → ns[ns.idxOf i]? = some i ∧ ∀ m : Nat, m < ns.idxOf i → ns[m]? ≠ some i
  | [], h => by simp at h
  | n :: ns, h => by
    by_cases e : n = i
    · subst e
      simp [List.idxOf_cons]
    · have h2 : i ∈ ns := by
        rcases List.mem_cons.mp h with q | q
        · exact absurd q.symm e
        · exact q
      obtain ⟨a, b⟩ := idxOf_at i ns h2
      have e2 : (n :: ns).idxOf i = ns.idxOf i + 1 := by rw [List.idxOf_cons, show (n == i) = false from by simpa using e]; rfl
      rw [e2]
      refine ⟨by simpa using a, fun m hm => ?_⟩
      cases m with
      | zero => simpa using e
      | succ m => simpa using b m (by omega)
theorem mRemove : MtR X "list.remove" (rDM T X.K X.mg removeM) := MtR.imp (r := rRemI) mt_remove fun x xs H Q h => by
  obtain ⟨ι, S, dx, ds, s, rx, rs, p⟩ := h
  cases dx <;> first | exact p.elim | skip
  case ref c =>
    match ds, p with
    | [.int i], p =>
      obtain ⟨v, rfl, rv⟩ := one_of rs
      simp only [VR] at rx rv
      subst rv
      obtain ⟨A, ia, rfl⟩ := rx
      unfold removeM at p
      dsimp only at p
      match e : S[c]?, p with
      | some (.lst ys), p =>
        dsimp only at p
        match e2 : intsD ys, p with
        | some ns, p =>
          dsimp only at p
          by_cases hl : i ∈ ns
          · rw [if_pos hl] at p
            obtain ⟨vs, hh, rr⟩ := lst_at s e ia
            rw [intsD_eq e2] at rr
            have ev := rr.ints
            subst ev
            have gg : Grow ι H ι (upd H A (.lst ((ns.eraseIdx (ns.idxOf i)).map V.int))) := Grow.set s ia
            exact ⟨A, ns, i, ns.idxOf i, rfl, rfl, hh, (idxOf_at i ns hl).1, (idxOf_at i ns hl).2, p ι _ _ gg (s.set ia ⟨_, upd_same, VsR.of_ints _⟩) (by simp only [VR])⟩
          · rw [if_neg hl] at p; exact p.elim
theorem mInsert : MtR X "list.insert" (rDM T X.K X.mg insertM) := MtR.imp mt_insert fun x xs H Q h => by
  obtain ⟨ι, S, dx, ds, s, rx, rs, p⟩ := h
  cases dx <;> first | exact p.elim | skip
  case ref c =>
    match ds, p with
    | [.int i, d], p =>
      obtain ⟨v, u, rfl, rv, ru⟩ := two_of rs
      simp only [VR] at rx rv
      subst rv
      obtain ⟨A, ia, rfl⟩ := rx
      unfold insertM at p
      dsimp only at p
      match e : S[c]?, p with
      | some (.lst ys), p =>
        dsimp only at p
        by_cases hl : ys.length < 1000000 ∧ 0 ≤ i ∧ i ≤ 1000000
        · rw [if_pos hl] at p
          obtain ⟨vs, hh, rr⟩ := lst_at s e ia
          have gg : Grow ι H ι (upd H A (.lst (vs.take i.toNat ++ [u] ++ vs.drop i.toNat))) := Grow.set s ia
          exact ⟨A, vs, i, u, rfl, rfl, hh, by rw [rr.length, sizeLine_eq]; omega, hl.2.1, by omega, p ι _ _ gg (s.set ia ⟨_, upd_same, (((rr.take _).append (VsR.cons ru VsR.nil)).append (rr.drop _)).grow s gg⟩) (by simp only [VR])⟩
        · rw [if_neg hl] at p; exact p.elim
def rTupIx (K : PySem.W.Frag) : V → List V → Hp → VK → Prop := fun x xs H Q => ∃ (p : Addr) (ns : List Int) (i : Int), x = .ref p ∧ xs = [.int i] ∧ SqT K H p (ns.map V.int) ∧ i ∈ ns ∧ Q (.int (ns.idxOf i : Nat)) H
theorem mt_tupIx : MtR X "tuple.index" (rTupIx X.K) := by
  intro pins s σ H x xs v us Q I rx rs h
  obtain ⟨p, ns, i, rfl, rfl, hq, hi, q⟩ := h
  cases rx
  obtain ⟨u, rfl, t, rfl⟩ := vals1 rs
  obtain ⟨its, r, pl, hz⟩ := I.tuple hq
  exact SeqAt.tuple_index_ints (vs := its) pl (ints_of_vals r) hi ⟨.int _, H, I.tok _, ⟨_, rfl⟩, q⟩
theorem mIndex : MtR X "tuple.index" (rDM T X.K X.mg indexM) := MtR.imp mt_tupIx fun x xs H Q h => by
  obtain ⟨ι, S, dx, ds, s, rx, rs, p⟩ := h
  cases dx <;> first | exact p.elim | skip
  case tup ys =>
    match ds, p with
    | [.int i], p =>
      obtain ⟨v, rfl, rv⟩ := one_of rs
      simp only [VR] at rx rv
      subst rv
      obtain ⟨A, vs, rfl, q, r⟩ := rx
      unfold indexM at p
      dsimp only at p
      match e : intsD ys, p with
      | some ns, p =>
        dsimp only at p
        by_cases hl : i ∈ ns
        · rw [if_pos hl] at p
          rw [intsD_eq e] at r
          have q2 := q.seq
          rw [r.ints] at q2
          exact ⟨A, ns, i, rfl, rfl, q2, hl, p.int s⟩
        · rw [if_neg hl] at p; exact p.elim
def tyTupF (K : PySem.W.Frag) (x : V) (H : Hp) : Prop := ∃ p xs, x = .ref p ∧ TupF K H p xs
theorem ty_tupF : TyOk X "tuple" (tyTupF X.K) := by
  intro pins σ H s x v I r ty
  obtain ⟨p, xs, rfl, q⟩ := ty
  cases r
  rcases q with ⟨o, h, hd⟩ | ⟨o, its, n, h1, h2, h3, _⟩
  · obtain ⟨e0, hx⟩ := (show ObjOk X.prog X.w H s.heap p (.frz o (.tup xs)) from I.hok p _ h)
    obtain ⟨_, its, rv, o', e1, c1, n, d1⟩ := hx
    rw [e0] at e1
    cases e1
    exact ⟨⟨_, e0, c1⟩, fun b e => by cases e; exact ⟨_, e0, hd⟩⟩
  · have e0 := I.kIn _ _ h1
    exact ⟨⟨_, e0, h2⟩, fun b e => by cases e; exact ⟨_, e0, h3⟩⟩
theorem de_mtL {id : String} {g : MtD} {fo : Ev} {t : Av} (slot : Slot "list" nm id) (hty : typeOf (.builtin id) = pure (.type "method_descriptor")) (hm : MtR X id (rDM T X.K X.mg g)) (ho : PE X o (tE T X W fo)) (ha : PA X (e :: es) (tA T X W t))
    (hbase : attributeBase o nm X.env (eval o X.env) = eval o X.env := by rfl)
    (hfew : ((backTo cpos (starEach (e :: es) X.env)).all (fun x => !x.1) && (backToKw cpos (keywordEach [] X.env)).all (fun x => x.1.isSome)
      && decide ((e :: es).length + ([] : List Keyword).length + (if ([] : List Keyword).isEmpty then 0 else 1) < 30)) = true := by rfl)
    (hline : (apos.endLine == cpos.line) = true := by rfl) (hs : starEach (e :: es) X.env = (false, eval e X.env) :: starEach es X.env := by rfl) (hplain : (backTo cpos (starEach es X.env)).any (·.1) = false := by rfl) :
    PE X (.Call (.Attribute o nm apos) (e :: es) [] cpos) (tE T X W (eMtL g fo t)) :=
  PE.imp (pe_bm PySem.F.plainAttrs_list slot hty hm ho ha hbase hfew hline hs hplain) fun σ H Q q => by
    obtain ⟨ι, S, ρ, cf, p⟩ := q
    refine ⟨ι, S, ρ, cf, (Post.bnd p).mono (fun x H1 q => ?_) fun _ _ _ e => e⟩
    obtain ⟨ι1, S1, d, g1, s1, r1, p1⟩ := q
    match e0 : lstD d S1, p1 with
    | some ys, p1 =>
      obtain ⟨A, vs, rfl, q, _⟩ := lst_rel s1 r1 e0
      refine ⟨.inl ⟨rfl, vs, q⟩, ι1, S1, ρ, cf.grow g1 s1, (Post.bnd p1).mono (fun zs H2 q => ?_) fun _ _ _ e => e⟩
      obtain ⟨ι2, S2, ds, g2, s2, r2, p2⟩ := q
      exact ⟨ι2, S2, d, ds, s2, VR.grow s1 g2 r1, r2, p2.pv⟩
theorem de_mtT {id : String} {g : MtD} {fo : Ev} {t : Av} (slot : Slot "tuple" nm id) (hty : typeOf (.builtin id) = pure (.type "method_descriptor")) (hm : MtR X id (rDM T X.K X.mg g)) (ho : PE X o (tE T X W fo)) (ha : PA X (e :: es) (tA T X W t))
    (hbase : attributeBase o nm X.env (eval o X.env) = eval o X.env := by rfl)
    (hfew : ((backTo cpos (starEach (e :: es) X.env)).all (fun x => !x.1) && (backToKw cpos (keywordEach [] X.env)).all (fun x => x.1.isSome)
      && decide ((e :: es).length + ([] : List Keyword).length + (if ([] : List Keyword).isEmpty then 0 else 1) < 30)) = true := by rfl)
    (hline : (apos.endLine == cpos.line) = true := by rfl) (hs : starEach (e :: es) X.env = (false, eval e X.env) :: starEach es X.env := by rfl) (hplain : (backTo cpos (starEach es X.env)).any (·.1) = false := by rfl) :
    PE X (.Call (.Attribute o nm apos) (e :: es) [] cpos) (tE T X W (eMtT g fo t)) :=
  PE.imp (pe_mG ty_tupF PySem.F.plainAttrs_tuple slot hty hm ho ha hbase hfew hline hs hplain) fun σ H Q q => by
    obtain ⟨ι, S, ρ, cf, p⟩ := q
    refine ⟨ι, S, ρ, cf, (Post.bnd p).mono (fun x H1 q => ?_) fun _ _ _ e => e⟩
    obtain ⟨ι1, S1, d, g1, s1, r1, p1⟩ := q
    cases d <;> first | exact p1.elim | skip
    case tup ys =>
      have r1' := r1
      simp only [repE, VR] at r1'
      obtain ⟨A, vs, rfl, q, _⟩ := r1'
      refine ⟨⟨A, vs, rfl, q⟩, ι1, S1, ρ, cf.grow g1 s1, (Post.bnd p1).mono (fun zs H2 q => ?_) fun _ _ _ e => e⟩
      obtain ⟨ι2, S2, ds, g2, s2, r2, p2⟩ := q
      exact ⟨ι2, S2, _, ds, s2, VR.grow s1 g2 r1, r2, p2.pv⟩
/-! ### xs[::-1], xs a list -/
def eRev (f : Ev) : Ev := fun ρ S => bnd (f ρ S) fun d S1 => match lstD d S1 with
  | some ds => lift (newL ds.reverse S1)
  | none => none
theorem de_rev {f : Ev} {k : Nat} {p1 p2 p3 : Pos} (he : PE X e (tE T X W f)) : PE X (.Subscript e (.Slice none none (some (.UnaryOp .USub (.Constant (.int 1) k p1) p2)) p3) pos) (tE T X W (eRev f)) :=
  PE.imp (pe_revL he) fun σ H Q q => by
    obtain ⟨ι, S, ρ, cf, p⟩ := q
    refine ⟨ι, S, ρ, cf, (Post.bnd p).mono (fun x H1 q => ?_) fun _ _ _ e => e⟩
    obtain ⟨ι1, S1, d, g1, s1, r1, p1⟩ := q
    match e0 : lstD d S1, p1 with
    | some ys, p1 =>
      obtain ⟨A, vs, rfl, q, r⟩ := lst_rel s1 r1 e0
      exact ⟨A, vs, rfl, q, fun p hp => (Post.pv p1).lst s1 r.reverse hp⟩
/-! ### a module's constant tuple of texts -/
theorem VsR.strs {K : PySem.W.Frag} {mg : Str → Option Value} : ∀ ys : List Str, VsR T K mg ι H (ys.map D.str) (ys.map V.str)
  | [] => VsR.nil
  | y :: ys => VsR.cons (by simp only [VR]) (VsR.strs ys)
theorem de_gtup {x : Str} {A : Addr} {ys : List Str} (hg : Gl X x) (hm : X.mg x = some (.ref A)) (hq : ∀ H, SqT X.K H A (ys.map V.str)) (hd : (x == ("__debug__" : Str)) = false := by decide) : PE X (.Name x pos) (tE T X W (eC (.wtup (ys.map .str)))) :=
  de_c (pe_glob hg hm (v := .ref A) rfl hd) fun ι H => by
    simp only [VR]
    exact ⟨A, _, rfl, hq H, VsR.strs ys⟩
/-! ### keyword-only parameters -/
/-- f(e, ..) with the defaults of the keyword-only ones: ints -/
theorem de_callD {k n : Nat} {f : Addr} {fd : FuncData} {ps : List Str} {m : Df} {x : Str} {t : Av} {ns : List Int} {ds : List Value} (F : FnOk X.prog X.w X.K X.mg X.base (CX X.prog X.w) k f fd ps (spD T X.K X.mg (n + ns.length) m)) (hr : Room k X.A) (hg : Gl X x) (hm : X.mg x = some (.ref f))
    (hk : PySem.W.keepIn X.K (.ref f) = true) (hd : Vals (ns.map V.int) ds) (hb : Binds X.K fd ps ds) (tk : Takes X W) (ha : PA X (e :: es) (tA T X W t)) (hl : Ln t n) (hdb : (x == ("__debug__" : Str)) = false := by decide)
    (he : starEach (e :: es) X.env = (false, eval e X.env) :: starEach es X.env := by rfl) (hpl : (backTo pos (starEach es X.env)).any (·.1) = false := by rfl) :
    PE X (.Call (.Name x p) (e :: es) [] pos) (tE T X W (eCall (fun ds => m (ds ++ ns.map .int)) t)) :=
  PE.imp (pe_callSD F hr hg hm hk hb hd (fun σ => passAt tk σ) ha hdb he hpl) fun σ H Q q => by
    obtain ⟨ι, S, ρ, cf, p⟩ := q
    refine ⟨ι, S, ρ, cf, ?_⟩
    unfold eCall at p
    match e : t ρ S, p with
    | none, p => exact p
    | some (.error x, S'), p => exact p
    | some (.ok d, S'), p =>
      intro ι1 vs H1 g1 s1 r1
      exact ⟨by rw [List.length_append, (VsR.length r1).trans (hl.ok _ _ _ _ e), List.length_map], ι1, S', _, s1, r1.append (VsR.of_ints ns), Post.on (show Post T X.K X.mg _ (repE T X.K X.mg) ι H (m (d ++ ns.map .int) S') Q from p) g1⟩
end
end Dl
set_option Elab.async false
set_option linter.all false
set_option maxRecDepth 100000
set_option maxHeartbeats 2000000
namespace Dl
open PySem PySem.Spec PyProof.Rows L2
/-! ### f(e, .., k = v) : the keyword-only one is written -/
/-- the positional ones, then the keywords' -/
def eCallK (m : Df) (t u : Av) : Ev := fun ρ S => bnd (t ρ S) fun ds S1 => bnd (u ρ S1) fun es S2 => m (ds ++ es) S2
section
variable {T : Tab} {X : Cx} {W : WX} {e : Expr} {es : List Expr} {pos p : Pos} {k n : Nat} {f : Addr} {fd : FuncData} {ps ks : List Str} {m : Df} {x : Str} {t u : Av} {kws : List Keyword}
theorem dk_nil : PK X [] (tA T X W aNil) := ⟨fun pos pins s σ H Q I q => pk_nil.run pos pins s σ H Q I (by
  obtain ⟨ι, S, ρ, cf, p⟩ := q
  exact p ι [] H (Grow.refl _ _) cf.sim VsR.nil)⟩
theorem dk_cons {a : Expr} {fa : Ev} {nm : Option Str} {kpos : Pos} (h : PE X a (tE T X W fa)) (k : PK X kws (tA T X W t)) : PK X (⟨nm, a, kpos⟩ :: kws) (tA T X W (aCons fa t)) := ⟨fun pos pins s σ H Q I q => (pk_cons h k).run pos pins s σ H Q I (by
  obtain ⟨ι, S, ρ, cf, p⟩ := q
  refine ⟨ι, S, ρ, cf, (Post.bnd p).mono (fun x H1 q => ?_) fun _ _ _ e => e⟩
  obtain ⟨ι1, S1, d, g1, s1, r1, p1⟩ := q
  refine ⟨ι1, S1, ρ, cf.grow g1 s1, (Post.bnd p1).mono (fun y H2 q => ?_) fun _ _ _ e => e⟩
  obtain ⟨ι2, S2, ds, g2, s2, r2, p2⟩ := q
  exact p2 ι2 _ H2 (Grow.refl _ _) s2 (VsR.cons (VR.grow s1 g2 r1) r2))⟩
theorem FunD.kbind0 {K : PySem.W.Frag} {x qual : Str} {params : Arguments} {body : List Stmt} {scope : Scope} {kws : List (Str × V)} {f : Addr} {fd : FuncData} (F : FunD K x qual params body scope [] kws f fd) (n : Nat) (ks : List Str)
    (h : ∀ (kV doc pm : Value) (an : Option Addr) (cdv ct : Value) (us ws : List Value), us.length = n → ws.length = ks.length → bindArgs (PySem.W.fnOf x qual params body scope .none kV doc pm an cdv ct) ⟨us, ks.zip ws⟩ = pure (ps.zip (us ++ ws))) :
    KBn K fd ps n ks (fun us ws => us ++ ws) (fun vs zs => vs ++ zs) := by
  obtain ⟨oc, od, dV, kV, doc, pm, an, cdv, ct, osl, rfl, lk, hcd, hD, hK⟩ := F.ex
  rcases hD with ⟨_, rfl⟩ | ⟨e, _⟩
  · exact ⟨fun s us ws _ l1 l2 => .of_eq (h kV doc pm an cdv ct us ws l1 l2), fun r1 r2 => r1.append r2⟩
  · exact absurd rfl e
theorem de_callK (F : FnOk X.prog X.w X.K X.mg X.base (CX X.prog X.w) k f fd ps (spD T X.K X.mg (n + ks.length) m)) (hr : Room k X.A) (hg : Gl X x) (hm : X.mg x = some (.ref f)) (hk : PySem.W.keepIn X.K (.ref f) = true)
    (hb : KBn X.K fd ps n ks (fun us ws => us ++ ws) (fun vs zs => vs ++ zs)) (tk : Takes X W) (ha : PA X (e :: es) (tA T X W t)) (hkw : PK X kws (tA T X W u)) (hl : Ln t n) (hl2 : Ln u ks.length)
    (hall : (backToKw pos (keywordEach kws X.env)).all (·.1.isSome) = true := by rfl) (hks : (backToKw pos (keywordEach kws X.env)).filterMap (·.1) = ks := by rfl)
    (hdb : (x == ("__debug__" : Str)) = false := by decide) (he : starEach (e :: es) X.env = (false, eval e X.env) :: starEach es X.env := by rfl)
    (hpl : ((backTo pos (starEach (e :: es) X.env)).any (·.1) || (backToKw pos (keywordEach kws X.env)).any (·.1.isNone)) = false := by rfl) :
    PE X (.Call (.Name x p) (e :: es) kws pos) (tE T X W (eCallK m t u)) := by
  refine ⟨fun pins s σ H Q I q => ?_⟩
  obtain ⟨ι, S, ρ, cf, pp⟩ := q
  refine wpAny_Call_Name_kw (ld_glob I hg hm ?_ hdb)
  match et : t ρ S, pp with
  | none, pp => unfold eCallK at pp; rw [et] at pp; exact pp.elim
  | some (.error z, S'), pp =>
    refine PySem.W.callWith_KW (h₀ := X.base) I.ok.mod.kin hk hall (thn (ha.run pos pins s σ H (fun _ _ => False) I ⟨ι, S, ρ, cf, ?_⟩) fun us s1 ⟨vs, H1, I1, r, q⟩ => q.elim) hpl he
    unfold eCallK at pp
    rw [et] at pp ⊢
    exact pp
  | some (.ok ds, S1), pp =>
    refine PySem.W.callWith_KW (h₀ := X.base) I.ok.mod.kin hk hall (thn (ha.run pos pins s σ H (fun vs H1 => ∃ ι1, vs.length = n ∧ Grow ι H ι1 H1 ∧ Sim T X.K X.mg ι1 S1 H1 ∧ VsR T X.K X.mg ι1 H1 ds vs) I ⟨ι, S, ρ, cf, ?_⟩) fun us s1 ⟨vs, H1, I1, r, ι1, hn, g1, sm1, r1⟩ => ?_) hpl he
    · rw [et]
      exact fun ι1 vs H1 g1 s1 r1 => ⟨ι1, (VsR.length r1).trans (hl.ok _ _ _ _ et), g1, s1, r1⟩
    · have pp1 : Post T X.K X.mg (fun c d H' => W c d σ H') (repE T X.K X.mg) ι H (bnd (u ρ S1) fun es S2 => m (ds ++ es) S2) Q := by
        unfold eCallK at pp
        rw [et] at pp
        exact pp
      refine thn (hkw.run pos pins s1 σ H1 (fun zs H2 => zs.length = ks.length ∧ spD T X.K X.mg (n + ks.length) m (vs ++ zs) H2 Q (WE W σ)) I1 ⟨ι1, S1, ρ, cf.grow g1 sm1, ?_⟩) fun ws s2 ⟨zs, H2, I2, rz, l2, q2⟩ => ⟨I2.kIn, ?_⟩
      · have pp2 := Post.on pp1 g1
        match eu : u ρ S1, pp2 with
        | none, pp2 => exact pp2
        | some (.error z, S'), pp2 => exact pp2
        | some (.ok fs, S2), pp2 =>
          intro ι2 zs H2 g2 s2 r2
          have lz : zs.length = ks.length := (VsR.length r2).trans (hl2.ok _ _ _ _ eu)
          exact ⟨lz, by rw [List.length_append, hn, lz], ι2, S2, _, s2, (VsR.grow sm1 g2 r1).append r2, Post.on (show Post T X.K X.mg _ (repE T X.K X.mg) ι1 H1 (m (ds ++ fs) S2) Q from pp2) g2⟩
      · rw [hks]
        have r2 := hb.rel r rz
        refine wpAny_call (codeAny_mono (F.run X.A X.stack s2 H2 ⟨us, ks.zip ws⟩ (us ++ ws) (vs ++ zs) Q (WE W σ) hr I2.env0 (hb.to s2 us ws I2.kIn (r.length.symm.trans hn) (rz.length.symm.trans l2)) r2 q2) fun r s' hq => ?_)
        cases r with
        | error e => exact passAt tk σ pins H2 s2 e s' I2 hq
        | ok fl =>
          cases fl with
          | ret u => exact I2.after hq
          | next => exact False.elim hq
          | brk => exact False.elim hq
          | cont => exact False.elim hq
/-- a block takes all: nothing is raised there -/
theorem takes0 : Takes X W0 := fun u s' ⟨a, B, sI, pins, σ, H, cls, d, e, I, nb, up, sky, na, os, ag, h⟩ => h.elim
end
end Dl
set_option Elab.async false
set_option linter.all false
set_option maxRecDepth 100000
set_option maxHeartbeats 2000000
namespace Dl
open PySem PySem.Spec PyProof.Rows L2
/-! ### this text's names -/
def T0 : Tab where
  cls := fun | 0 => "House" | 1 => "Run" | 2 => "Desk" | 3 => "Leader" | _ => "Table"
  fld := fun | 0 => ["bears", "runs"] | 1 => ["house", "now", "done"] | 2 => ["most", "states"] | 3 => ["house", "now", "done"] | _ => ["house", "ways"]
  glo := fun | 0 => "most_moves" | _ => "moving"
  exc := fun | 0 => "BadHouse" | 1 => "BadOrder" | 2 => "NoFall" | 3 => "NoRise" | 4 => "TooManyDown" | 5 => "NothingDone" | 6 => "NoWay" | 7 => "Unlike" | _ => "TooMany"
  exf := fun | 0 => ["number"] | 1 => ["order"] | 2 => ["machine"] | 3 => ["machine"] | 4 => ["most"] | 5 => [] | 6 => ["needed"] | 7 => ["sizes"] | _ => ["limit"]
def augA : Op2 := fun x y S => match x, y with | .int i, .int j => some (.int (i + j), S) | _, _ => none
theorem room65 {k : Nat} {A : Around} (r : Room k A) : A.units + 65 < cLine := by have := r.un; omega
/-- the function object at a -/
def FdAt (K : PySem.W.Frag) (a : Addr) (fd : FuncData) : Prop := ∃ oc od osl, K.lookup a = some ⟨oc, od, .func fd, osl⟩
theorem fdAt_of {K : PySem.W.Frag} {x qual : Str} {params : Arguments} {body : List Stmt} {scope : Scope} {dvs : List V} {kws : List (Str × V)} {f : Addr} {fd : FuncData} (F : FunD K x qual params body scope dvs kws f fd) : FdAt K f fd := by
  obtain ⟨oc, od, dV, kV, doc, pm, an, cdv, ct, osl, e, lk, _⟩ := F.ex
  subst e
  exact ⟨oc, od, osl, lk⟩
theorem FdAt.inj {K : PySem.W.Frag} {a : Addr} {fd fd' : FuncData} (h : FdAt K a fd) (h' : FdAt K a fd') : fd = fd' := by
  obtain ⟨oc, od, osl, h⟩ := h
  obtain ⟨oc', od', osl', h'⟩ := h'
  rw [h] at h'
  cases h'
  rfl
/-- a def keeps its promise -/
def OkF (P : Program) (w : World) (K : PySem.W.Frag) (mg : Str → Option Value) (base : Heap) (L : Nat) (a : Addr) (ps : List Str) (n : Nat) (m : Df) : Prop :=
  ∃ fd, FdAt K a fd ∧ PySem.W.keepIn K (.ref a) = true ∧ Binds K fd ps [] ∧ FnOk P w K mg base (CX P w) L a fd ps (spD T0 K mg n m)
def OkK (P : Program) (w : World) (K : PySem.W.Frag) (mg : Str → Option Value) (base : Heap) (L : Nat) (a : Addr) (ps : List Str) (n : Nat) (ks : List Str) (ns : List Int) (m : Df) : Prop :=
  ∃ fd ds, PySem.W.keepIn K (.ref a) = true ∧ Vals (ns.map V.int) ds ∧ Binds K fd ps ds ∧ KBn K fd ps n ks (fun us ws => us ++ ws) (fun vs zs => vs ++ zs) ∧ FnOk P w K mg base (CX P w) L a fd ps (spD T0 K mg (n + ks.length) m)
end Dl
set_option Elab.async false
set_option linter.all false
set_option maxRecDepth 100000
set_option maxHeartbeats 2000000
namespace Dl
open PySem PySem.Spec PyProof.Rows L2
/-! ### what the head tells: facts, defs, constant tuples -/
abbrev Tu : Type := Str × List He.Dv
def obsX (fa : List He.Fa) (fn : List He.DefD) (tu : List Tu) (K : PySem.W.Frag) : He.AlD := ((fa.all fun f => f.ok K) && ((fn.all fun d => d.ok K) && tu.all fun q => He.tupB K q.1 q.2), fn.map fun d => He.fnW K d.at_)
def SaysX (fa : List He.Fa) (fn : List He.DefD) (tu : List Tu) (K : PySem.W.Frag) : Prop := obsX fa fn tu K = He.valD fn
def obsXG (n : Nat) (fa : List He.Fa) (fn : List He.DefD) (tu : List Tu) (g : Addr → Option Obj) : He.AlD := obsX fa fn tu (He.frG g (He.asD g n))
def hookX (n : Nat) (fa : List He.Fa) (fn : List He.DefD) (tu : List Tu) : PySem.W.Hook where
  α := He.AlD
  obs := fun s => obsXG n fa fn tu s.heap.get?
  val := fun _ => He.valD fn
  says := fun _ h => ∃ K : PySem.W.Frag, K.In h ∧ SaysX fa fn tu K
  of := fun _ _ e => ⟨_, He.frG_in, e⟩
  keeps := fun _ _ _ ⟨K, hK, c⟩ k => ⟨K, PySem.W.Frag.In.keeps hK k, c⟩
theorem obsXG_eq {n : Nat} {fa : List He.Fa} {fn : List He.DefD} {tu : List Tu} {g : Addr → Option Obj} {s : Shared} (h : ∀ a, g a = s.heap.get? a) : obsXG n fa fn tu g = (hookX n fa fn tu).obs s := by
  have e : g = s.heap.get? := funext h
  rw [e]
  rfl
section
variable {fa : List He.Fa} {fn : List He.DefD} {tu : List Tu} {K : PySem.W.Frag}
theorem SaysX.all (c : SaysX fa fn tu K) : ((fa.all fun f => f.ok K) && ((fn.all fun d => d.ok K) && tu.all fun q => He.tupB K q.1 q.2)) = true := congrArg (fun z : He.AlD => z.1) c
theorem SaysX.fact (c : SaysX fa fn tu K) (i : Nat) {f : He.Fa} (h : fa[i]? = some f := by rfl) : f.ok K = true := List.all_eq_true.mp (He.ba c.all).1 f (List.mem_of_getElem? h)
theorem SaysX.def_ (c : SaysX fa fn tu K) (i : Nat) {d : He.DefD} (h : fn[i]? = some d := by rfl) : ∃ fd, FunD K d.name d.qual d.params d.body d.scope (d.dvs K) (d.kws K) (He.fAd K d.at_) fd := by
  have c2 := (He.ba (He.ba c.all).2).1
  have e : fn.map (fun d => He.fnW K d.at_) = fn.map He.DefD.val := congrArg (fun z : He.AlD => z.2) c
  have e2 : He.fnW K d.at_ = d.val := by
    have := congrArg (fun l => l[i]?) e
    simp only [List.getElem?_map, h, Option.map_some, Option.some.injEq] at this
    exact this
  exact He.DefD.funD e2 (List.all_eq_true.mp c2 d (List.mem_of_getElem? h))
theorem SaysX.tup (c : SaysX fa fn tu K) (i : Nat) {q : Tu} (h : tu[i]? = some q := by rfl) (H : Hp) : SqT K H (He.ga K q.1) (q.2.map (He.Dv.v K)) := He.tupB_ok (List.all_eq_true.mp (He.ba (He.ba c.all).2).2 q (List.mem_of_getElem? h)) H
end
theorem no_nil {K : PySem.W.Frag} {C : Addr} : ∀ f ∈ ([] : List Str), NoAttr K C f := fun f h => by simp at h
theorem no_cons {K : PySem.W.Frag} {C : Addr} {g : Str} {l : List Str} (h : NoAttr K C g) (k : ∀ f ∈ l, NoAttr K C f) : ∀ f ∈ g :: l, NoAttr K C f := fun f m => by
  rcases List.mem_cons.mp m with e | m
  · subst e; exact h
  · exact k f m
/-! ### the law's promise -/
theorem frz_of {K : PySem.W.Frag} {H : Hp} {a : Addr} {vs : List V} (o : Only H) (h : SqL K H a vs) : FrzL K H a vs := by
  rcases h with (h | h) | h
  · rcases o a with q | ⟨o, xs, q⟩
    · rw [q] at h; cases h
    · rw [q] at h; cases h
  · exact .inl h
  · exact .inr h
theorem sp_of {K : PySem.W.Frag} {mg : Str → Option Value} {m : Df} {H : Hp} {a : Addr} {ns : List Int} (hm : ∃ S', m [.frz (ns.map .int)] [] = some (.ok (.bl true), S')) (o : Only H) (h : SqL K H a (ns.map V.int)) : spD T0 K mg 1 m [.ref a] H (fun v _ => v = .bl true) fun _ _ _ => False := by
  obtain ⟨S', hm⟩ := hm
  refine ⟨rfl, [], [], [.frz (ns.map .int)], ⟨rfl, List.nodup_nil, fun c x a e _ => by simp at e⟩, VsR.cons ?_ VsR.nil, ?_⟩
  · simp only [VR]
    exact ⟨a, _, rfl, frz_of o h, VsR.of_ints _⟩
  · rw [hm]
    intro ι' v H' _ _ r
    simpa only [repE, VR] using r
theorem noCX {P : Program} {w : World} (H : Hp) (s : Shared) (e : Value) (s' : Shared) (h : CX P w [] H s (fun _ _ _ => False) e s') : False := by
  obtain ⟨a, B, H', cls, d, _, _, _, _, _, _, _, h⟩ := h
  exact h
end Dl
namespace Dl
open PySem PySem.Spec PyProof.Rows L2
/-- the walk's end, where what a def lets out is told of the world -/
theorem walk_ofX {l : PySem.W.OpenLaw} {n k : Nat} {q : Program} {loose : List Str} {XP : (Str → Option Value) → Heap → Prop} {YP : World → Heap → Prop} {d : DefRec} {CX : World → CXT} {x : Str}
    (hn : l.most = some n) (hn2 : n ≤ sizeLine) (hdf : d.params.defaults = []) (hr : Room k callerA)
    (F : ∀ (w : World) (mg : Str → Option Value) (fa : Addr) (h : Heap), YP w h → h.Ns mainGlobals mg → mg d.name = some (.ref fa) →
      ∃ (K : PySem.W.Frag) (fd : FuncData) (sp : Sp), K.In h ∧ (∀ (s : Shared) (u : Value), BindsTo s fd ⟨[u], []⟩ [(x, u)]) ∧
        (∀ (H : Hp) (a : Addr) (ns : List Int), ns.length ≤ n → Only H → SqL K H a (ns.map V.int) → sp [.ref a] H (fun v _ => v = .bl true) fun _ _ _ => False) ∧
        ∀ base : Heap, K.In base → base.Ns mainGlobals mg → FnOk l.prog w K mg base (CX w) k fa fd [x] sp)
    (hCX : ∀ (w : World) (H : Hp) (s : Shared) (e : Value) (s' : Shared), CX w [] H s (fun _ _ _ => False) e s' → False) :
    PySem.W.WalkO q loose XP YP l.row.toRowW d [] (fun f vs => PySem.call f vs) := by
  refine Att.attach_call hn hdf fun w s₀ s₁ mg mb fa o pm cd doc a vs ns G Y ho hd hcd hmg hobj hints hlen hg => ?_
  obtain ⟨K, fd, sp, KX, hb, hsp, hF⟩ := F w mg fa _ Y G.T.g hmg
  exact law_call KX G.T.g G.T.b G.T.builtins G.T.nolimit hg hobj hints (Nat.le_trans hlen hn2) hr hF hb (fun H hO hS => hsp H a ns hlen hO hS) fun H e s' => hCX w H s₁ e s'
end Dl
set_option Elab.async false
set_option linter.all false
set_option maxRecDepth 100000
set_option maxHeartbeats 4000000
namespace Dl
open PySem PySem.Spec PyProof.Rows L2
def b_law_feed : Sv :=
  (sSeq (sSet (gN 2) (eBin ixD (eBin addD (eB listA (aCons (eSl (eV 0) (pAt (eV 1)) (pAt (eBin addD (eV 1) (eC (.int 1))))) aNil)) (eLst (aCons (eBin addD (eBin mulD (eC (.int 71)) (eV 1)) (eC (.int 23))) aNil))) (eC (.int 0))))
  (sSeq (sSet (gN 3) (eB max2A (aCons (eC (.int 0)) (aCons (eBin subD (eB absA (aCons (eV 2) aNil)) (eBin powD (eC (.int 10)) (eC (.int 18)))) aNil))))
  (sRet (eLst (aCons (eV 3) (aCons (eBin modD (eB intA (aCons (eBin addD (eBin addD (eBin mulD (eBin modD (eB intA (aCons (eB absA (aCons (eV 2) aNil)) aNil)) (eC (.int 1000003))) (eC (.int 7919))) (eBin mulD (eC (.int 31)) (eV 1))) (eC (.int 17))) aNil)) (eC (.int 1000033))) aNil))))))
def m_law_feed : Df := runDef 4 b_law_feed
def b_law_take : Sv :=
  (sSeq (sIf (tV (eBin gtD (eBin ixD (eV 0) (eC (.int 0))) (eC (.int 0)))) (sSeq (sSet (gN 2) (eBin modD (eB intA (aCons (eBin ixD (eV 0) (eC (.int 0))) aNil)) (eV 1)))
  (sSeq (sSub (eBin divD (eBin ixD (eV 0) (eC (.int 0))) (eV 1)) (eV 0) (eC (.int 0)))
  (sRet (eV 2)))) sNil)
  (sSeq (sSub (eBin modD (eB intA (aCons (eBin addD (eBin mulD (eBin ixD (eV 0) (eC (.int 1))) (eC (.int 69069))) (eC (.int 12345))) aNil)) (eC (.int 4294967311))) (eV 0) (eC (.int 1)))
  (sRet (eBin modD (eB intA (aCons (eBin divD (eBin ixD (eV 0) (eC (.int 1))) (eC (.int 65536))) aNil)) (eV 1)))))
def m_law_take : Df := runDef 3 b_law_take
def b_is_number : Sv :=
  (sRet (eAn (eIs .tInt (eV 0)) (eAn (eNot (eIs .tBool (eV 0))) (eChain leD leD (eV 1) (eV 0) (eV 2)))))
def m_is_number : Df := runDef 3 b_is_number
def b_is_order : Sv :=
  (sSeq (sIf (tO (tN (tV (eIs .tTuple (eV 0)))) (tV (eBin eqD (eV 0) (eTup aNil)))) (sRet (eC (.bl false))) sNil)
  (sRet (eAn (eB allA (aCons (eLc (iSeq (eV 0)) (gN 2) tYes (eCall m_is_number (aCons (eV 2) (aCons (eC (.int 0)) (aCons (eBin subD (eV 1) (eC (.int 1))) aNil)))) [2]) aNil)) (eBin eqD (eLenSet (eV 0)) (eB lenA (aCons (eV 0) aNil))))))
def m_is_order : Df := runDef 3 b_is_order
def b_is_service : Sv :=
  (sSeq (sIf (tO (tN (tV (eIs .tTuple (eV 0)))) (tO (tV (eBin neD (eB lenA (aCons (eV 0) aNil)) (eC (.int 3)))) (tN (tV (eCall m_is_number (aCons (eBin ixD (eV 0) (eC (.int 0))) (aCons (eC (.int 1)) (aCons (eC (.int 1000000000)) aNil)))))))) (sRet (eC (.bl false))) sNil)
  (sRet (eAn (eCall m_is_order (aCons (eBin ixD (eV 0) (eC (.int 1))) (aCons (eV 1) aNil))) (eAn (eIs .tStr (eBin ixD (eV 0) (eC (.int 2)))) (eBin (inD false) (eBin ixD (eV 0) (eC (.int 2))) (eC (.wtup ((["first", "home", "stay"] : List Str).map .str))))))))
def m_is_service : Df := runDef 2 b_is_service
def b_House_init0 : Sv :=
  (sSeq (sIf (tO (tN (tV (eIs .tList (eV 1)))) (tN (tV (eChain leD leD (eC (.int 1)) (eB lenA (aCons (eV 1) aNil)) (eC (.int 5)))))) sNever sNil)
  (sSeq (sIf (tN (tV (eB allA (aCons (eLc (iSeq (eV 1)) (gN 5) tYes (eCall m_is_number (aCons (eV 5) (aCons (eC (.int 0)) (aCons (eC (.int 10000000000)) aNil)))) [5]) aNil)))) sNever sNil)
  (sSeq (sIf (tO (tN (tV (eIs .tList (eV 2)))) (tV (eBin gtD (eB lenA (aCons (eV 2) aNil)) (eC (.int 5))))) sNever sNil)
  (sSeq (sFor (iEn (aCons (eV 2) aNil)) (gSeq (gsCons (gN 3) (gsCons (gN 4) gsNil))) (sIf (tN (tV (eCall m_is_service (aCons (eV 4) (aCons (eB lenA (aCons (eV 1) aNil)) aNil))))) sNever sNil))
  (sSeq (sFld 0 0 (eV 0) (eB listA (aCons (eV 1) aNil)))
  (sFld 0 1 (eV 0) (eB listA (aCons (eV 2) aNil))))))))
def m_House_init0 : Df := runDef 6 b_House_init0
def b_House_services : Sv :=
  (sRet (eB listA (aCons (eFld 0 1 (eV 0)) aNil)))
def m_House_services : Df := runDef 1 b_House_services
def b_beginning : Sv :=
  (sRet (eTup (aCons (eTup aNil) (aCons (eB tupleA (aCons (eLc (iSeq (eMeth 0 m_House_services (eV 0) aNil)) (gSeq (gsCons (gN 1) (gsCons (gN 2) (gsCons (gN 3) gsNil)))) tYes (eBin ixD (eV 2) (eC (.int 0))) [1, 2, 3]) aNil)) aNil))))
def m_beginning : Df := runDef 4 b_beginning
def b_Run_init0 : Sv :=
  (sSeq (sFld 1 0 (eV 0) (eV 1))
  (sSeq (sFld 1 1 (eV 0) (eCall m_beginning (aCons (eV 1) aNil)))
  (sFld 1 2 (eV 0) (eLst aNil))))
def m_Run_init0 : Df := runDef 2 b_Run_init0
def b_first_living : Sv :=
  (sSeq (sFor (iSeq (eV 0)) (gN 2) (sIf (tV (eBin (inD true) (eV 2) (eV 1))) (sRet (eV 2)) sNil))
  (sRet (eUn negD (eC (.int 1)))))
def m_first_living : Df := runDef 3 b_first_living
def b_is_moved : Sv :=
  (sSeq (sSet (gSeq (gsCons (gN 3) (gsCons (gN 4) (gsCons (gN 5) gsNil)))) (eV 0))
  (sSeq (sIf (tV (eBin (inD true) (eV 2) (eV 4))) (sRet (eC (.bl false))) sNil)
  (sSeq (sIf (tO (tV (eBin eqD (eV 1) (eUn negD (eC (.int 1))))) (tAn (tV (eBin eqD (eV 5) (eC (.str "home")))) (tV (eBin eqD (eBin ixD (eV 4) (eC (.int 0))) (eV 2))))) (sRet (eC (.bl true))) sNil)
  (sRet (eAn (eBin eqD (eV 5) (eC (.str "first"))) (eBin ltD (eMtT indexM (eV 4) (aCons (eV 2) aNil)) (eMtT indexM (eV 4) (aCons (eV 1) aNil))))))))
def m_is_moved : Df := runDef 6 b_is_moved
def b_behind_event : Sv :=
  (sSeq (sSet (gSeq (gsCons (gN 3) (gsCons (gN 4) gsNil))) (eV 1))
  (sSeq (sSet (gSeq (gsCons (gN 5) (gsCons (gN 6) gsNil))) (eV 2))
  (sSeq (sPar 7 8 (aCons (eB tupleA (aCons (eLc (iSeq (eV 3)) (gN 11) (tV (eBin neD (eV 11) (eV 6))) (eV 11) [11]) aNil)) (aCons (eLst aNil) aNil)))
  (sSeq (sIf (tV (eBin eqD (eV 5) (eC (.str "fall")))) (sSet (gN 7) (eB tupleA (aCons (eB sortedB (aCons (eBin addD (eV 3) (eTup (aCons (eV 6) aNil))) aNil)) aNil))) sNil)
  (sSeq (sFor (iZp (aCons (eMeth 0 m_House_services (eV 0) aNil) (aCons (eV 4) aNil))) (gSeq (gsCons (gN 9) (gsCons (gN 10) gsNil))) (sIf (tV (eBin eqD (eV 5) (eC (.str "fall")))) (sEx (eMtL appendM (eV 8) (aCons (eIf (tV (eBin eqD (eV 10) (eV 6))) (eCall m_first_living (aCons (eBin ixD (eV 9) (eC (.int 1))) (aCons (eV 7) aNil))) (eV 10)) aNil))) (sEx (eMtL appendM (eV 8) (aCons (eIf (tV (eCall m_is_moved (aCons (eV 9) (aCons (eV 10) (aCons (eV 6) aNil))))) (eV 6) (eV 10)) aNil)))))
  (sRet (eTup (aCons (eV 7) (aCons (eB tupleA (aCons (eV 8) aNil)) aNil)))))))))
def m_behind_event : Df := runDef 12 b_behind_event
def b_Run_change : Sv :=
  (sSeq (sFld 1 1 (eV 0) (eCall m_behind_event (aCons (eFld 1 0 (eV 0)) (aCons (eFld 1 1 (eV 0)) (aCons (eV 1) aNil)))))
  (sEx (eMtL appendM (eFld 1 2 (eV 0)) (aCons (eV 1) aNil))))
def m_Run_change : Df := runDef 2 b_Run_change
def b_run_of : Sv :=
  (sSeq (sSet (gN 2) (eMake 1 m_Run_init0 (aCons (eV 0) aNil)))
  (sSeq (sFor (iSeq (eV 1)) (gN 3) (sEx (eMeth 1 m_Run_change (eV 2) (aCons (eV 3) aNil))))
  (sRet (eV 2))))
def m_run_of : Df := runDef 4 b_run_of
def b_load_in : Sv :=
  (sRet (eB sumA (aCons (eLc (iZp (aCons (eMeth 0 m_House_services (eV 0) aNil) (aCons (eBin ixD (eV 1) (eC (.int 1))) aNil))) (gSeq (gsCons (gN 3) (gsCons (gN 4) gsNil))) (tV (eBin eqD (eV 4) (eV 2))) (eBin ixD (eV 3) (eC (.int 0))) [3, 4]) aNil)))
def m_load_in : Df := runDef 5 b_load_in
def b_Run_load : Sv :=
  (sRet (eCall m_load_in (aCons (eFld 1 0 (eV 0)) (aCons (eFld 1 1 (eV 0)) (aCons (eV 1) aNil)))))
def m_Run_load : Df := runDef 2 b_Run_load
def b_Run_events : Sv :=
  (sRet (eB listA (aCons (eFld 1 2 (eV 0)) aNil)))
def m_Run_events : Df := runDef 1 b_Run_events
def b_Run_picture : Sv :=
  (sRet (eFld 1 1 (eV 0)))
def m_Run_picture : Df := runDef 1 b_Run_picture
def b_House_len0 : Sv :=
  (sRet (eB lenA (aCons (eFld 0 0 (eV 0)) aNil)))
def m_House_len0 : Df := runDef 1 b_House_len0
def b_is_history : Sv :=
  (sSeq (sIf (tN (tV (eIs .tList (eV 1)))) (sRet (eC (.bl false))) sNil)
  (sSeq (sSet (gN 3) (eLst aNil))
  (sSeq (sFor (iSeq (eV 1)) (gN 4) (sSeq (sIf (tO (tN (tV (eIs .tTuple (eV 4)))) (tO (tV (eBin neD (eB lenA (aCons (eV 4) aNil)) (eC (.int 2)))) (tN (tV (eIs .tStr (eBin ixD (eV 4) (eC (.int 0)))))))) (sRet (eC (.bl false))) sNil)
  (sSeq (sIf (tO (tV (eBin (inD true) (eBin ixD (eV 4) (eC (.int 0))) (eTup (aCons (eC (.str "fall")) (aCons (eC (.str "rise")) aNil))))) (tN (tV (eCall m_is_number (aCons (eBin ixD (eV 4) (eC (.int 1))) (aCons (eC (.int 0)) (aCons (eBin subD (eLenO 0 m_House_len0 (eV 0)) (eC (.int 1))) aNil))))))) (sRet (eC (.bl false))) sNil)
  (sSeq (sIf (tV (eBin neD (eBin eqD (eBin ixD (eV 4) (eC (.int 0))) (eC (.str "rise"))) (eBin (inD false) (eBin ixD (eV 4) (eC (.int 1))) (eV 3)))) (sRet (eC (.bl false))) sNil)
  (sSeq (sSet (gN 3) (eIf (tV (eBin eqD (eBin ixD (eV 4) (eC (.int 0))) (eC (.str "fall")))) (eBin addD (eV 3) (eLst (aCons (eBin ixD (eV 4) (eC (.int 1))) aNil))) (eLc (iSeq (eV 3)) (gN 5) (tV (eBin neD (eV 5) (eBin ixD (eV 4) (eC (.int 1))))) (eV 5) [5])))
  (sIf (tV (eBin gtD (eB lenA (aCons (eV 3) aNil)) (eV 2))) (sRet (eC (.bl false))) sNil))))))
  (sRet (eC (.bl true))))))
def m_is_history : Df := runDef 6 b_is_history
def b_moves : Sv :=
  (sSeq (sPar 3 4 (aCons (eMake 1 m_Run_init0 (aCons (eV 0) aNil)) (aCons (eC (.int 0)) aNil)))
  (sSeq (sFor (iSeq (eV 2)) (gN 5) (sSeq (sSet (gN 6) (eBin ixD (eBin ixD (eMeth 1 m_Run_picture (eV 3) aNil) (eC (.int 1))) (eV 1)))
  (sSeq (sEx (eMeth 1 m_Run_change (eV 3) (aCons (eV 5) aNil)))
  (sAug 4 augA (eB intA (aCons (eBin neD (eBin ixD (eBin ixD (eMeth 1 m_Run_picture (eV 3) aNil) (eC (.int 1))) (eV 1)) (eV 6)) aNil))))))
  (sRet (eV 4))))
def m_moves : Df := runDef 7 b_moves
def b_House_strengths : Sv :=
  (sRet (eB listA (aCons (eFld 0 0 (eV 0)) aNil)))
def m_House_strengths : Df := runDef 1 b_House_strengths
def b_strained : Sv :=
  (sSeq (sPar 2 3 (aCons (eMeth 0 m_House_strengths (eV 0) aNil) (aCons (eLst aNil) aNil)))
  (sSeq (sFor (iRg1 (aCons (eLenO 0 m_House_len0 (eV 0)) aNil)) (gN 4) (sIf (tAn (tV (eBin (inD true) (eV 4) (eBin ixD (eV 1) (eC (.int 0))))) (tV (eBin gtD (eCall m_load_in (aCons (eV 0) (aCons (eV 1) (aCons (eV 4) aNil)))) (eBin ixD (eV 2) (eV 4))))) (sEx (eMtL appendM (eV 3) (aCons (eV 4) aNil))) sNil))
  (sRet (eB tupleA (aCons (eV 3) aNil)))))
def m_strained : Df := runDef 5 b_strained
def b_surge_from : Sv :=
  (sSeq (sPar 3 4 (aCons (eLst aNil) (aCons (eV 2) aNil)))
  (sSeq (sWhile 1000 (tV (eBin neD (eV 4) (eTup aNil))) (sSeq (sFor (iSeq (eV 4)) (gN 5) (sSet (gN 1) (eCall m_behind_event (aCons (eV 0) (aCons (eV 1) (aCons (eTup (aCons (eC (.str "fall")) (aCons (eV 5) aNil))) aNil))))))
  (sSeq (sEx (eMtL appendM (eV 3) (aCons (eV 4) aNil)))
  (sSet (gN 4) (eCall m_strained (aCons (eV 0) (aCons (eV 1) aNil)))))))
  (sRet (eTup (aCons (eV 3) (aCons (eV 1) aNil))))))
def m_surge_from : Df := runDef 6 b_surge_from
def b_surge : Sv :=
  (sRet (eCall m_surge_from (aCons (eV 0) (aCons (eMeth 1 m_Run_picture (eCall m_run_of (aCons (eV 0) (aCons (eV 1) aNil))) aNil) (aCons (eV 2) aNil)))))
def m_surge : Df := runDef 3 b_surge
def b_Desk_init0 : Sv :=
  (sSeq (sFld 2 0 (eV 0) (eV 2))
  (sFld 2 1 (eV 0) (eLst (aCons (eTup (aCons (eV 1) (aCons (eCall m_beginning (aCons (eV 1) aNil)) aNil))) aNil))))
def m_Desk_init0 : Df := runDef 3 b_Desk_init0
def b_Desk_change : Sv :=
  (sFld 2 1 (eV 0) (eBin addD (eFld 2 1 (eV 0)) (eLst (aCons (eTup (aCons (eV 1) (aCons (eV 2) aNil))) aNil))))
def m_Desk_change : Df := runDef 3 b_Desk_change
def b_Desk_fall : Sv :=
  (sSeq (sSet (gSeq (gsCons (gN 2) (gsCons (gN 3) gsNil))) (eBin ixD (eFld 2 1 (eV 0)) (eUn negD (eC (.int 1)))))
  (sSeq (sIf (tO (tN (tV (eCall m_is_number (aCons (eV 1) (aCons (eC (.int 0)) (aCons (eBin subD (eLenO 0 m_House_len0 (eV 2)) (eC (.int 1))) aNil)))))) (tV (eBin (inD false) (eV 1) (eBin ixD (eV 3) (eC (.int 0)))))) sNever sNil)
  (sSeq (sIf (tV (eBin geD (eB lenA (aCons (eBin ixD (eV 3) (eC (.int 0))) aNil)) (eFld 2 0 (eV 0)))) sNever sNil)
  (sEx (eMeth 2 m_Desk_change (eV 0) (aCons (eV 2) (aCons (eCall m_behind_event (aCons (eV 2) (aCons (eV 3) (aCons (eTup (aCons (eC (.str "fall")) (aCons (eV 1) aNil))) aNil)))) aNil)))))))
def m_Desk_fall : Df := runDef 4 b_Desk_fall
def b_Desk_rise : Sv :=
  (sSeq (sSet (gSeq (gsCons (gN 2) (gsCons (gN 3) gsNil))) (eBin ixD (eFld 2 1 (eV 0)) (eUn negD (eC (.int 1)))))
  (sSeq (sIf (tO (tN (tV (eCall m_is_number (aCons (eV 1) (aCons (eC (.int 0)) (aCons (eBin subD (eLenO 0 m_House_len0 (eV 2)) (eC (.int 1))) aNil)))))) (tV (eBin (inD true) (eV 1) (eBin ixD (eV 3) (eC (.int 0)))))) sNever sNil)
  (sEx (eMeth 2 m_Desk_change (eV 0) (aCons (eV 2) (aCons (eCall m_behind_event (aCons (eV 2) (aCons (eV 3) (aCons (eTup (aCons (eC (.str "rise")) (aCons (eV 1) aNil))) aNil)))) aNil))))))
def m_Desk_rise : Df := runDef 4 b_Desk_rise
def b_Desk_picture : Sv :=
  (sRet (eBin ixD (eBin ixD (eFld 2 1 (eV 0)) (eUn negD (eC (.int 1)))) (eC (.int 1))))
def m_Desk_picture : Df := runDef 1 b_Desk_picture
def b_Desk_moved : Sv :=
  (sSeq (sSet (gN 2) (eLc (iSeq (eFld 2 1 (eV 0))) (gSeq (gsCons (gN 3) (gsCons (gN 4) gsNil))) tYes (eBin ixD (eBin ixD (eV 4) (eC (.int 1))) (eV 1)) [3, 4]))
  (sRet (eB sumA (aCons (eLc (iZp (aCons (eV 2) (aCons (eSl (eV 2) (pAt (eC (.int 1))) pNo) aNil))) (gSeq (gsCons (gN 5) (gsCons (gN 6) gsNil))) tYes (eB intA (aCons (eBin neD (eV 5) (eV 6)) aNil)) [5, 6]) aNil))))
def m_Desk_moved : Df := runDef 7 b_Desk_moved
def b_Desk_len0 : Sv :=
  (sRet (eB lenA (aCons (eSl (eFld 2 1 (eV 0)) (pAt (eC (.int 1))) pNo) aNil)))
def m_Desk_len0 : Df := runDef 1 b_Desk_len0
def b_Desk_undo : Sv :=
  (sSeq (sIf (tV (eBin eqD (eB lenA (aCons (eFld 2 1 (eV 0)) aNil)) (eC (.int 1)))) sNever sNil)
  (sFld 2 1 (eV 0) (eSl (eFld 2 1 (eV 0)) pNo (pAt (eUn negD (eC (.int 1)))))))
def m_Desk_undo : Df := runDef 1 b_Desk_undo
def b_law : Sv :=
  (sSeq (sSet (gN 1) (eCall m_law_feed (aCons (eV 0) (aCons (eC (.int 0)) aNil))))
  (sSeq (sSet (gN 2) (eBin addD (eC (.int 550)) (eCall m_law_take (aCons (eV 1) (aCons (eC (.int 50)) aNil)))))
  (sSeq (sSet (gN 3) (eMake 0 m_House_init0 (aCons (eLst (aCons (eC (.int 9)) (aCons (eC (.int 9)) aNil))) (aCons (eLst (aCons (eTup (aCons (eC (.int 4)) (aCons (eTup (aCons (eC (.int 0)) (aCons (eC (.int 1)) aNil))) (aCons (eC (.str "first")) aNil)))) (aCons (eTup (aCons (eC (.int 3)) (aCons (eTup (aCons (eC (.int 0)) aNil)) (aCons (eC (.str "stay")) aNil)))) aNil))) aNil))))
  (sSeq (sSet (gN 4) (eBin mulD (eLst (aCons (eTup (aCons (eC (.str "fall")) (aCons (eC (.int 0)) aNil))) (aCons (eTup (aCons (eC (.str "rise")) (aCons (eC (.int 0)) aNil))) aNil))) (eV 2)))
  (sSeq (sSet (gN 5) (eCall m_run_of (aCons (eV 3) (aCons (eBin addD (eV 4) (eLst (aCons (eTup (aCons (eC (.str "fall")) (aCons (eC (.int 0)) aNil))) aNil))) aNil))))
  (sSeq (sSet (gN 6) (eLst (aCons (eBin eqD (eMeth 1 m_Run_picture (eV 5) aNil) (eTup (aCons (eTup (aCons (eC (.int 0)) aNil)) (aCons (eTup (aCons (eC (.int 1)) (aCons (eUn negD (eC (.int 1))) aNil))) aNil)))) (aCons (eBin eqD (eB lenA (aCons (eMeth 1 m_Run_events (eV 5) aNil) aNil)) (eBin addD (eBin mulD (eC (.int 2)) (eV 2)) (eC (.int 1)))) (aCons (eBin eqD (eMeth 1 m_Run_load (eV 5) (aCons (eC (.int 1)) aNil)) (eC (.int 4))) aNil)))))
  (sSeq (sSet (gN 6) (eBin addD (eV 6) (eLst (aCons (eCallK m_is_history (aCons (eV 3) (aCons (eV 4) aNil)) (aCons (eC (.int 1)) aNil)) (aCons (eBin (isD false) (eCall (fun ds => m_is_history (ds ++ ([5] : List Int).map .int)) (aCons (eV 3) (aCons (eBin addD (eV 4) (eLst (aCons (eTup (aCons (eC (.str "rise")) (aCons (eC (.int 0)) aNil))) aNil))) aNil))) (eC (.bl false))) aNil)))))
  (sSeq (sSet (gN 6) (eBin addD (eV 6) (eLst (aCons (eBin eqD (eCall m_moves (aCons (eV 3) (aCons (eC (.int 0)) (aCons (eV 4) aNil)))) (eBin mulD (eC (.int 2)) (eV 2))) (aCons (eBin eqD (eCall m_moves (aCons (eV 3) (aCons (eC (.int 1)) (aCons (eBin addD (eSl (eV 4) (pAt (eC (.int 1))) (pAt (eC (.int 1)))) (eV 4)) aNil)))) (eBin mulD (eC (.int 2)) (eV 2))) aNil)))))
  (sSeq (sEx (eMtL appendM (eV 6) (aCons (eBin eqD (eCall m_surge (aCons (eV 3) (aCons (eV 4) (aCons (eTup (aCons (eC (.int 0)) aNil)) aNil)))) (eTup (aCons (eLst (aCons (eTup (aCons (eC (.int 0)) aNil)) aNil)) (aCons (eTup (aCons (eTup (aCons (eC (.int 0)) aNil)) (aCons (eTup (aCons (eC (.int 1)) (aCons (eUn negD (eC (.int 1))) aNil))) aNil))) aNil)))) aNil)))
  (sSeq (sSet (gN 7) (eMake 2 m_Desk_init0 (aCons (eV 3) (aCons (eC (.int 1)) aNil))))
  (sSeq (sFor (iRg1 (aCons (eC (.int 150)) aNil)) (gN 8) (sSeq (sEx (eMeth 2 m_Desk_fall (eV 7) (aCons (eC (.int 0)) aNil)))
  (sEx (eMeth 2 m_Desk_rise (eV 7) (aCons (eC (.int 0)) aNil)))))
  (sSeq (sSet (gN 6) (eBin addD (eV 6) (eLst (aCons (eBin eqD (eLenO 2 m_Desk_len0 (eV 7)) (eC (.int 300))) (aCons (eBin eqD (eMeth 2 m_Desk_moved (eV 7) (aCons (eC (.int 1)) aNil)) (eC (.int 300))) (aCons (eBin eqD (eMeth 2 m_Desk_picture (eV 7) aNil) (eTup (aCons (eTup aNil) (aCons (eTup (aCons (eC (.int 0)) (aCons (eC (.int 0)) aNil))) aNil)))) aNil))))))
  (sSeq (sFor (iRg1 (aCons (eC (.int 299)) aNil)) (gN 8) (sEx (eMeth 2 m_Desk_undo (eV 7) aNil)))
  (sRet (eBin eqD (eBin addD (eV 6) (eLst (aCons (eBin eqD (eMeth 2 m_Desk_picture (eV 7) aNil) (eTup (aCons (eTup (aCons (eC (.int 0)) aNil)) (aCons (eTup (aCons (eC (.int 1)) (aCons (eUn negD (eC (.int 1))) aNil))) aNil)))) (aCons (eBin eqD (eLenO 2 m_Desk_len0 (eV 7)) (eC (.int 1))) aNil)))) (eBin mulD (eLst (aCons (eC (.bl true)) aNil)) (eC (.int 13))))))))))))))))))
def m_law : Df := runDef 9 b_law
end Dl
set_option Elab.async false
set_option linter.all false
set_option maxRecDepth 100000
set_option maxHeartbeats 2000000
namespace Dl
open PySem PySem.Spec
/-! ## Plain: what the mirrors do. The frame -/
/-- all cells but x stay -/
def Fr (x : List Nat) (S S' : Store) : Prop := S.length ≤ S'.length ∧ ∀ c, c < S.length → c ∉ x → S'[c]? = S[c]?
theorem Fr.refl {x : List Nat} {S : Store} : Fr x S S := ⟨Nat.le_refl _, fun _ _ _ => rfl⟩
theorem Fr.trans {x : List Nat} {S S1 S2 : Store} (a : Fr x S S1) (b : Fr x S1 S2) : Fr x S S2 := ⟨Nat.le_trans a.1 b.1, fun c hc hx => (b.2 c (Nat.lt_of_lt_of_le hc a.1) hx).trans (a.2 c hc hx)⟩
theorem Fr.mono {x y : List Nat} {S S' : Store} (a : Fr x S S') (h : ∀ c ∈ x, c < S.length → c ∈ y) : Fr y S S' := ⟨a.1, fun c hc hy => a.2 c hc fun hx => hy (h c hx hc)⟩
theorem Fr.nil {y : List Nat} {S S' : Store} (a : Fr [] S S') : Fr y S S' := a.mono fun c h => by simp at h
theorem Fr.at {x : List Nat} {S S' : Store} {c : Nat} {v : Cell} (a : Fr x S S') (h : S[c]? = some v) (hx : c ∉ x) : S'[c]? = some v := (a.2 c (List.getElem?_eq_some_iff.mp h).1 hx).trans h
theorem Fr.at0 {S S' : Store} {c : Nat} {v : Cell} (a : Fr [] S S') (h : S[c]? = some v) : S'[c]? = some v := a.at h (by simp)
theorem Fr.app {S G : Store} : Fr [] S (S ++ G) := ⟨by simp, fun c hc _ => List.getElem?_append_left hc⟩
theorem Fr.set {S : Store} {c : Nat} {v : Cell} : Fr [c] S (S.set c v) := ⟨by simp, fun d _ hd => by
  rw [List.getElem?_set_ne]
  intro e
  exact hd (by simp [e])⟩
theorem Fr.trans2 {x y z : List Nat} {S S1 S2 : Store} (a : Fr x S S1) (b : Fr y S1 S2) (hx : ∀ c ∈ x, c < S.length → c ∈ z) (hy : ∀ c ∈ y, c < S.length → c ∈ z) : Fr z S S2 :=
  ⟨Nat.le_trans a.1 b.1, fun c hc hz => (b.2 c (Nat.lt_of_lt_of_le hc a.1) fun h => hz (hy c h hc)).trans (a.2 c hc fun h => hz (hx c h hc))⟩
theorem lt_of_at {S : Store} {c : Nat} {v : Cell} (h : S[c]? = some v) : c < S.length := (List.getElem?_eq_some_iff.mp h).1
theorem set_at {S : Store} {c : Nat} {v : Cell} (h : c < S.length) : (S.set c v)[c]? = some v := List.getElem?_set_self h
/-! ### wishes -/
def wpE {α : Type} (m : Rs α) (Q : α → Store → Prop) : Prop := match m with
  | some (.ok a, S) => Q a S
  | _ => False
def wpOm (r : Option (D × Store)) (Q : D → Store → Prop) : Prop := match r with
  | some p => Q p.1 p.2
  | none => False
structure wpO (r : Option (D × Store)) (Q : D → Store → Prop) : Prop where
  h : wpOm r Q
theorem wpO_def {r : Option (D × Store)} {Q : D → Store → Prop} : wpO r Q ↔ wpOm r Q := ⟨fun h => h.h, fun h => ⟨h⟩⟩
def wpS (r : Option (Fl × Store)) (N : Loc → Store → Prop) (R : D → Store → Prop) : Prop := match r with
  | some (.nx ρ, S) => N ρ S
  | some (.rt d, S) => R d S
  | _ => False
theorem wpE.mono {α : Type} {m : Rs α} {Q Q' : α → Store → Prop} (h : wpE m Q) (k : ∀ a S, Q a S → Q' a S) : wpE m Q' := by
  match m, h with
  | some (.ok a, S), h => exact k _ _ h
theorem wpO.mono {m : Option (D × Store)} {Q Q' : D → Store → Prop} (h : wpO m Q) (k : ∀ a S, Q a S → Q' a S) : wpO m Q' := by
  match m, h with
  | some p, ⟨h⟩ => exact ⟨k _ _ h⟩
theorem wpS.mono {m : Option (Fl × Store)} {N N' : Loc → Store → Prop} {R R' : D → Store → Prop} (h : wpS m N R) (k : ∀ a S, N a S → N' a S) (l : ∀ a S, R a S → R' a S) : wpS m N' R' := by
  match m, h with
  | some (.nx ρ, S), h => exact k _ _ h
  | some (.rt ρ, S), h => exact l _ _ h
theorem wpE.get {α : Type} {m : Rs α} {Q : α → Store → Prop} (h : wpE m Q) : ∃ a S, m = some (.ok a, S) ∧ Q a S := by
  match m, h with
  | some (.ok a, S), h => exact ⟨a, S, rfl, h⟩
section
variable {α β : Type} {ρ : Loc} {S : Store} {d : D}
@[simp] theorem wpE_bnd {m : Rs α} {k : α → Store → Rs β} {Q : β → Store → Prop} : wpE (bnd m k) Q ↔ wpE m fun a S => wpE (k a S) Q := by
  match m with
  | none => exact Iff.rfl
  | some (.ok a, S) => exact Iff.rfl
  | some (.error e, S) => exact Iff.rfl
@[simp] theorem wpE_bndX {m : Rs α} {k : α → Store → Rs β} {Q : β → Store → Prop} : wpE (bndX m k) Q ↔ wpE m fun a S => wpE (k a S) Q := by
  match m with
  | none => exact Iff.rfl
  | some (.ok a, S) => exact Iff.rfl
  | some (.error e, S) => exact Iff.rfl
@[simp] theorem wpE_ok {a : α} {Q : α → Store → Prop} : wpE (ok a S) Q ↔ Q a S := Iff.rfl
@[simp] theorem wpE_lift {r : Option (D × Store)} {Q : D → Store → Prop} : wpE (lift r) Q ↔ wpO r Q := by
  match r with
  | none => exact ⟨fun h => h.elim, fun h => h.h⟩
  | some p => exact ⟨fun h => ⟨h⟩, fun h => h.h⟩
@[simp] theorem wpO_some {Q : D → Store → Prop} : wpO (some (d, S)) Q ↔ Q d S := wpO_def
variable {Q : D → Store → Prop} {QB : Bool → Store → Prop} {QA : List D → Store → Prop} {f g h : Ev} {t u : Tv} {as : Av} {i : Nat}
@[simp] theorem wpE_eV {i : Nat} : wpE (eV i ρ S) Q ↔ ∃ d, ρ[i]? = some (some d) ∧ Q d S := by
  unfold eV
  match e : ρ[i]? with
  | none => simp [wpE]
  | some none => simp [wpE]
  | some (some d) => simp
@[simp] theorem wpE_eC : wpE (eC d ρ S) Q ↔ Q d S := Iff.rfl
@[simp] theorem wpE_eBin {o : Op2} : wpE (eBin o f g ρ S) Q ↔ wpE (f ρ S) fun x S1 => wpE (g ρ S1) fun y S2 => wpO (o x y S2) Q := by simp [eBin]
@[simp] theorem wpE_eUn {o : Op1} : wpE (eUn o f ρ S) Q ↔ wpE (f ρ S) fun x S1 => wpO (o x S1) Q := by simp [eUn]
@[simp] theorem wpE_asB {QB : Bool → Store → Prop} : wpE (asB d S) QB ↔ ∃ b, d = .bl b ∧ QB b S := by
  cases d <;> simp [asB, wpE, ok]
@[simp] theorem wpE_tV : wpE (tV f ρ S) QB ↔ wpE (f ρ S) fun d S1 => ∃ b, d = .bl b ∧ QB b S1 := by simp [tV]
@[simp] theorem wpE_tN : wpE (tN t ρ S) QB ↔ wpE (t ρ S) fun b S1 => QB (!b) S1 := by simp [tN]
@[simp] theorem wpE_tAn : wpE (tAn t u ρ S) QB ↔ wpE (t ρ S) fun b S1 => if b = true then wpE (u ρ S1) QB else QB false S1 := by
  simp only [tAn, wpE_bnd]
  refine iff_of_eq (congrArg _ (funext fun b => funext fun S1 => ?_))
  cases b <;> simp
@[simp] theorem wpE_tO : wpE (tO t u ρ S) QB ↔ wpE (t ρ S) fun b S1 => if b = true then QB true S1 else wpE (u ρ S1) QB := by
  simp only [tO, wpE_bnd]
  refine iff_of_eq (congrArg _ (funext fun b => funext fun S1 => ?_))
  cases b <;> simp
@[simp] theorem wpE_tYes : wpE (tYes ρ S) QB ↔ QB true S := Iff.rfl
@[simp] theorem wpE_eAn : wpE (eAn f g ρ S) Q ↔ wpE (f ρ S) fun d S1 => ∃ b, d = .bl b ∧ if b = true then wpE (g ρ S1) Q else Q (.bl false) S1 := by
  simp only [eAn, wpE_bnd, wpE_asB]
  refine iff_of_eq (congrArg _ (funext fun d => funext fun S1 => ?_))
  refine propext (exists_congr fun b => and_congr_right fun _ => ?_)
  cases b <;> simp
@[simp] theorem wpE_eOr : wpE (eOr f g ρ S) Q ↔ wpE (f ρ S) fun d S1 => ∃ b, d = .bl b ∧ if b = true then Q (.bl true) S1 else wpE (g ρ S1) Q := by
  simp only [eOr, wpE_bnd, wpE_asB]
  refine iff_of_eq (congrArg _ (funext fun d => funext fun S1 => ?_))
  refine propext (exists_congr fun b => and_congr_right fun _ => ?_)
  cases b <;> simp
@[simp] theorem wpE_eNot : wpE (eNot f ρ S) Q ↔ wpE (f ρ S) fun d S1 => ∃ b, d = .bl b ∧ Q (.bl (!b)) S1 := by simp [eNot]
@[simp] theorem wpE_eIf : wpE (eIf t f g ρ S) Q ↔ wpE (t ρ S) fun b S1 => if b = true then wpE (f ρ S1) Q else wpE (g ρ S1) Q := by
  simp only [eIf, wpE_bnd]
  refine iff_of_eq (congrArg _ (funext fun b => funext fun S1 => ?_))
  cases b <;> simp
@[simp] theorem wpE_aNil : wpE (aNil ρ S) QA ↔ QA [] S := Iff.rfl
@[simp] theorem wpE_aCons : wpE (aCons f as ρ S) QA ↔ wpE (f ρ S) fun d S1 => wpE (as ρ S1) fun ds S2 => QA (d :: ds) S2 := by simp [aCons]
@[simp] theorem wpE_eB {o : OpA} : wpE (eB o as ρ S) Q ↔ wpE (as ρ S) fun ds S1 => wpO (o ds S1) Q := by simp [eB]
@[simp] theorem wpE_eCall {m : Df} : wpE (eCall m as ρ S) Q ↔ wpE (as ρ S) fun ds S1 => wpE (m ds S1) Q := by simp [eCall]
@[simp] theorem wpE_eCallK {m : Df} {bs : Av} : wpE (eCallK m as bs ρ S) Q ↔ wpE (as ρ S) fun ds S1 => wpE (bs ρ S1) fun es S2 => wpE (m (ds ++ es) S2) Q := by simp [eCallK]
@[simp] theorem wpE_eTup : wpE (eTup as ρ S) Q ↔ wpE (as ρ S) fun ds S1 => Q (.tup ds) S1 := by simp [eTup]
@[simp] theorem wpE_eLst : wpE (eLst as ρ S) Q ↔ wpE (as ρ S) fun ds S1 => wpO (newL ds S1) Q := by simp [eLst]
@[simp] theorem wpE_eChain {o o' : Op2} : wpE (eChain o o' f g h ρ S) Q ↔ wpE (f ρ S) fun x S1 => wpE (g ρ S1) fun y S2 => wpO (o x y S2) fun z S3 => ∃ b, z = .bl b ∧ if b = true then wpE (h ρ S3) fun w S4 => wpO (o' y w S4) Q else Q (.bl false) S3 := by
  simp only [eChain, wpE_bnd, wpE_asB, wpE_lift]
  refine iff_of_eq (congrArg _ (funext fun x => funext fun S1 => congrArg _ (funext fun y => funext fun S2 => congrArg _ (funext fun z => funext fun S3 => ?_))))
  refine propext (exists_congr fun b => and_congr_right fun _ => ?_)
  cases b <;> simp
@[simp] theorem wpE_eIs {ty : Ty} : wpE (eIs ty f ρ S) Q ↔ wpE (f ρ S) fun d S1 => ∃ k, kdD d S1 = some k ∧ Q (.bl (isKT k ty)) S1 := by
  simp only [eIs, wpE_bnd]
  refine iff_of_eq (congrArg _ (funext fun d => funext fun S1 => propext ?_))
  cases kdD d S1 <;> simp [wpE, ok]
@[simp] theorem wpE_eFld {c k : Nat} : wpE (eFld c k f ρ S) Q ↔ wpE (f ρ S) fun o S1 => ∃ a ds d, o = .ref a ∧ S1[a]? = some (.ins c ds) ∧ ds[k]? = some d ∧ Q d S1 := by
  simp only [eFld, wpE_bnd]
  refine iff_of_eq (congrArg _ (funext fun o => funext fun S1 => propext ?_))
  cases o <;> simp [wpE]
  case ref a =>
    cases e : S1[a]? with
    | none => simp [wpE]
    | some x =>
      cases x with
      | lst ds => simp [wpE]
      | ins c' ds =>
        by_cases hc : c' = c
        · subst hc
          cases e2 : ds[k]? <;> simp [e2, ok]
        · simp [hc]
@[simp] theorem wpE_eMeth {c : Nat} {m : Df} : wpE (eMeth c m f as ρ S) Q ↔ wpE (f ρ S) fun o S1 => (∃ a ds, o = .ref a ∧ S1[a]? = some (.ins c ds)) ∧ wpE (as ρ S1) fun es S2 => wpE (m (o :: es) S2) Q := by
  simp only [eMeth, wpE_bnd]
  refine iff_of_eq (congrArg _ (funext fun o => funext fun S1 => propext ?_))
  have tail : ∀ o : D, wpE (bnd (as ρ S1) fun ds S2 => m (o :: ds) S2) Q ↔ wpE (as ρ S1) fun es S2 => wpE (m (o :: es) S2) Q := fun o => wpE_bnd
  cases o <;> simp [wpE, isC]
  case ref a =>
    cases e : S1[a]? with
    | none => simp
    | some x =>
      cases x with
      | lst ds => simp
      | ins c' ds =>
        by_cases hc : c' = c
        · subst hc
          simp
          exact tail (.ref a)
        · simp [hc]
@[simp] theorem wpE_eMake {c : Nat} {m : Df} : wpE (eMake c m as ρ S) Q ↔ wpE (as ρ S) fun ds S1 => wpE (m (.ref S1.length :: ds) (S1 ++ [.ins c []])) fun d S2 => d = .non ∧ Q (.ref S1.length) S2 := by
  simp only [eMake, wpE_bnd]
  refine iff_of_eq (congrArg _ (funext fun ds => funext fun S1 => congrArg _ (funext fun d => funext fun S2 => propext ?_)))
  cases d <;> simp [wpE, ok]
@[simp] theorem wpE_eLenO {c : Nat} {m : Df} : wpE (eLenO c m f ρ S) Q ↔ wpE (f ρ S) fun o S1 => (∃ a ds, o = .ref a ∧ S1[a]? = some (.ins c ds)) ∧ wpE (m [o] S1) fun r S2 => ∃ n : Int, r = .int n ∧ 0 ≤ n ∧ n ≤ 1000000 ∧ Q (.int n) S2 := by
  simp only [eLenO, wpE_bnd]
  refine iff_of_eq (congrArg _ (funext fun o => funext fun S1 => propext ?_))
  have tail : ∀ o : D, wpE (bnd (m [o] S1) fun r S2 => match r with | .int n => if 0 ≤ n ∧ n ≤ 1000000 then ok (.int n) S2 else none | _ => none) Q ↔ wpE (m [o] S1) fun r S2 => ∃ n : Int, r = .int n ∧ 0 ≤ n ∧ n ≤ 1000000 ∧ Q (.int n) S2 := fun o => by
    rw [wpE_bnd]
    refine iff_of_eq (congrArg _ (funext fun r => funext fun S2 => propext ?_))
    cases r <;> simp [wpE]
    case int n =>
      by_cases hn : 0 ≤ n ∧ n ≤ 1000000
      · simp [hn, ok]
      · rw [if_neg hn]
        simp
        intro h1 h2
        exact absurd ⟨h1, h2⟩ hn
  cases o <;> simp [wpE, isC]
  case ref a =>
    cases e : S1[a]? with
    | none => simp
    | some x =>
      cases x with
      | lst ds => simp
      | ins c' ds =>
        by_cases hc : c' = c
        · subst hc
          simp
          exact tail (.ref a)
        · simp [hc]
/-! statements -/
variable {N : Loc → Store → Prop} {R : D → Store → Prop} {a b : Sv}
theorem wpS_run {α : Type} {m : Rs α} {k : α → Store → Option (Fl × Store)} : wpS (run m ρ k) N R ↔ wpE m fun x S1 => wpS (k x S1) N R := by
  match m with
  | none => exact Iff.rfl
  | some (.ok a, S) => exact Iff.rfl
  | some (.error e, S) => exact Iff.rfl
@[simp] theorem wpS_seq : wpS (sSeq a b ρ S) N R ↔ wpS (a ρ S) (fun ρ' S' => wpS (b ρ' S') N R) R := by
  unfold sSeq
  match a ρ S with
  | none => exact Iff.rfl
  | some (.nx ρ', S') => exact Iff.rfl
  | some (.rt d, S') => exact Iff.rfl
  | some (.bk ρ', S') => exact Iff.rfl
  | some (.ct ρ', S') => exact Iff.rfl
  | some (.ex x ρ', S') => exact Iff.rfl
@[simp] theorem wpS_nil : wpS (sNil ρ S) N R ↔ N ρ S := Iff.rfl
@[simp] theorem wpS_never : wpS (sNever ρ S) N R ↔ False := Iff.rfl
@[simp] theorem wpS_set {k : Tg} : wpS (sSet k f ρ S) N R ↔ wpE (f ρ S) fun d S1 => ∃ ρ', k d ρ S1 = some ρ' ∧ N ρ' S1 := by
  unfold sSet
  rw [wpS_run]
  refine iff_of_eq (congrArg _ (funext fun d => funext fun S1 => propext ?_))
  cases k d ρ S1 <;> simp [wpS]
@[simp] theorem wpS_ex : wpS (sEx f ρ S) N R ↔ wpE (f ρ S) fun _ S1 => N ρ S1 := by
  unfold sEx
  rw [wpS_run]
  exact Iff.rfl
@[simp] theorem wpS_ret : wpS (sRet f ρ S) N R ↔ wpE (f ρ S) R := by
  unfold sRet
  rw [wpS_run]
  exact Iff.rfl
@[simp] theorem wpS_if : wpS (sIf t a b ρ S) N R ↔ wpE (t ρ S) fun k S1 => if k = true then wpS (a ρ S1) N R else wpS (b ρ S1) N R := by
  unfold sIf
  rw [wpS_run]
  refine iff_of_eq (congrArg _ (funext fun k => funext fun S1 => ?_))
  cases k <;> rfl
@[simp] theorem wpS_par {i j : Nat} : wpS (sPar i j as ρ S) N R ↔ wpE (as ρ S) fun ds S1 => match ds with | [d, e] => N ((ρ.set i (some d)).set j (some e)) S1 | _ => False := by
  unfold sPar
  rw [wpS_run]
  refine iff_of_eq (congrArg _ (funext fun ds => funext fun S1 => propext ?_))
  match ds with
  | [] => simp [wpS]
  | [d] => simp [wpS]
  | [d, e] => simp [wpS]
  | d :: e :: x :: r => simp [wpS]
@[simp] theorem wpS_aug {o : Op2} : wpS (sAug i o f ρ S) N R ↔ ∃ x, ρ[i]? = some (some x) ∧ wpE (f ρ S) fun y S1 => wpO (o x y S1) fun z S2 => N (ρ.set i (some z)) S2 := by
  unfold sAug
  match e : ρ[i]? with
  | none => simp [wpS]
  | some none => simp [wpS]
  | some (some x) =>
    simp only [wpS_run, Option.some.injEq, exists_eq_left']
    refine iff_of_eq (congrArg _ (funext fun y => funext fun S1 => propext ?_))
    cases o x y S1 <;> simp [wpS, wpO_def, wpOm]
@[simp] theorem wpS_sub : wpS (sSub f g h ρ S) N R ↔ wpE (f ρ S) fun d S1 => wpE (g ρ S1) fun o S2 => wpE (h ρ S2) fun i S3 => ∃ S4, setD o i d S3 = some S4 ∧ N ρ S4 := by
  unfold sSub
  simp only [wpS_run]
  refine iff_of_eq (congrArg _ (funext fun d => funext fun S1 => congrArg _ (funext fun o => funext fun S2 => congrArg _ (funext fun i => funext fun S3 => propext ?_))))
  cases setD o i d S3 <;> simp [wpS]
@[simp] theorem wpS_fld {c k : Nat} : wpS (sFld c k f g ρ S) N R ↔ wpE (g ρ S) fun d S1 => wpE (f ρ S1) fun o S2 => ∃ a ds ds', o = .ref a ∧ S2[a]? = some (.ins c ds) ∧ putD k d ds = some ds' ∧ N ρ (S2.set a (.ins c ds')) := by
  unfold sFld
  simp only [wpS_run]
  refine iff_of_eq (congrArg _ (funext fun d => funext fun S1 => congrArg _ (funext fun o => funext fun S2 => propext ?_)))
  cases o <;> simp [wpS]
  case ref a =>
    cases e : S2[a]? with
    | none => simp
    | some x =>
      cases x with
      | lst ds => simp
      | ins c' ds =>
        by_cases hc : c' = c
        · subst hc
          cases e2 : putD k d ds <;> simp [e2]
        · simp [hc]
@[simp] theorem wpE_def {n : Nat} {u : Sv} {ds : List D} : wpE (runDef n u ds S) Q ↔ wpS (u (startD n ds) S) (fun _ S' => Q .non S') Q := by
  unfold runDef
  match u (startD n ds) S with
  | none => exact Iff.rfl
  | some (.nx ρ', S') => exact Iff.rfl
  | some (.rt d, S') => exact Iff.rfl
  | some (.bk ρ', S') => exact Iff.rfl
  | some (.ct ρ', S') => exact Iff.rfl
  | some (.ex x ρ', S') => exact Iff.rfl
@[simp] theorem gN_eq {i : Nat} : gN i d ρ S = some (ρ.set i (some d)) := rfl
@[simp] theorem gSeq_tup {gs : Tgs} {ds : List D} : gSeq gs (.tup ds) ρ S = gs ds ρ S := rfl
@[simp] theorem gSeq_wtup {gs : Tgs} {ds : List D} : gSeq gs (.wtup ds) ρ S = gs ds ρ S := rfl
@[simp] theorem gsNil_eq : gsNil [] ρ S = some ρ := rfl
/-! new things -/
theorem wpO_newL {ds : List D} (h : ∀ S' n, Fr [] S S' → S'[n]? = some (.lst ds) → S.length ≤ n → S' = S ++ [.lst ds] → Q (.ref n) S') : wpO (newL ds S) Q :=
  wpO_def.mpr <| show Q (.ref S.length) (S ++ [.lst ds]) from h (S ++ [.lst ds]) S.length Fr.app (by simp) (Nat.le_refl _) rfl
end
end Dl
set_option Elab.async false
set_option linter.all false
set_option maxRecDepth 100000
set_option maxHeartbeats 2000000
namespace Dl
open PySem PySem.Spec
open L2 (atI ixN)
section
variable {ρ : Loc} {S : Store} {d : D} {Q : D → Store → Prop} {i j : Int} {b : Bool}
/-! ### operations on values -/
@[simp] theorem wpO_addI : wpO (addD (.int i) (.int j) S) Q ↔ Q (.int (i + j)) S := wpO_def
@[simp] theorem wpO_subI : wpO (subD (.int i) (.int j) S) Q ↔ Q (.int (i - j)) S := wpO_def
@[simp] theorem wpO_lt : wpO (ltD (.int i) (.int j) S) Q ↔ Q (.bl (decide (i < j))) S := wpO_def
@[simp] theorem wpO_le : wpO (leD (.int i) (.int j) S) Q ↔ Q (.bl (decide (i ≤ j))) S := wpO_def
@[simp] theorem wpO_gt : wpO (gtD (.int i) (.int j) S) Q ↔ Q (.bl (decide (j < i))) S := wpO_def
@[simp] theorem wpO_ge : wpO (geD (.int i) (.int j) S) Q ↔ Q (.bl (decide (j ≤ i))) S := wpO_def
@[simp] theorem wpO_neg : wpO (negD (.int i) S) Q ↔ Q (.int (-i)) S := wpO_def
@[simp] theorem wpO_augA : wpO (augA (.int i) (.int j) S) Q ↔ Q (.int (i + j)) S := wpO_def
@[simp] theorem wpO_intI : wpO (intA [.int i] S) Q ↔ Q (.int i) S := wpO_def
@[simp] theorem wpO_intB : wpO (intA [.bl b] S) Q ↔ Q (.int (if b then 1 else 0)) S := wpO_def
@[simp] theorem wpO_abs : wpO (absA [.int i] S) Q ↔ Q (.int (if i < 0 then -i else i)) S := wpO_def
@[simp] theorem wpO_max2 : wpO (max2A [.int i, .int j] S) Q ↔ Q (.int (if j > i then j else i)) S := wpO_def
@[simp] theorem wpO_min2 : wpO (min2A [.int i, .int j] S) Q ↔ Q (.int (if j < i then j else i)) S := wpO_def
@[simp] theorem wpO_mulI (h : -18446744073709551616 < j ∧ j < 18446744073709551616) : wpO (mulD (.int i) (.int j) S) Q ↔ Q (.int (i * j)) S := by
  show wpO (if _ then _ else _) Q ↔ _
  rw [if_pos h]
  exact wpO_def
@[simp] theorem wpO_mod (h : 0 < j) : wpO (modD (.int i) (.int j) S) Q ↔ Q (.int (i % j)) S := by
  show wpO (if _ then _ else _) Q ↔ _
  rw [if_pos h]
  exact wpO_def
@[simp] theorem wpO_div (h : 0 < j ∧ j < 1073741824) : wpO (divD (.int i) (.int j) S) Q ↔ Q (.int (i / j)) S := by
  show wpO (if _ then _ else _) Q ↔ _
  rw [if_pos h]
  exact wpO_def
@[simp] theorem wpO_pow (h : 0 ≤ j ∧ j ≤ 1000 ∧ i.natAbs < 2 ^ 64) : wpO (powD (.int i) (.int j) S) Q ↔ Q (.int (i ^ j.toNat)) S := by
  show wpO (if _ then _ else _) Q ↔ _
  rw [if_pos h]
  exact wpO_def
theorem wpO_addT {xs ys : List D} (h : xs.length + ys.length ≤ 1000000) : wpO (addD (.tup xs) (.tup ys) S) Q ↔ Q (.tup (xs ++ ys)) S := by
  show wpO (if _ then _ else _) Q ↔ _
  rw [if_pos h]
  exact wpO_def
theorem wpO_addL {c e : Nat} {xs ys : List D} (h1 : S[c]? = some (.lst xs)) (h2 : S[e]? = some (.lst ys)) (h : xs.length + ys.length ≤ 1000000) : wpO (addD (.ref c) (.ref e) S) Q ↔ wpO (newL (xs ++ ys) S) Q := by
  unfold addD
  simp only [h1, h2]
  rw [if_pos h]
theorem wpO_mulL {c : Nat} {xs : List D} {k : Int} (h1 : S[c]? = some (.lst xs)) (h : k < 1000000 ∧ xs.length * k.toNat ≤ 1000000 ∧ -1000000 ≤ k) : wpO (mulD (.ref c) (.int k) S) Q ↔ wpO (newL (List.replicate k.toNat xs).flatten S) Q := by
  unfold mulD
  simp only [h1]
  rw [if_pos h]
/-! subscripts -/
theorem atI_nat {α : Type} {xs : List α} {k : Nat} : atI xs (k : Int) = xs[k]? := by
  unfold atI ixN
  by_cases h : k < xs.length
  · rw [if_pos (by omega), if_pos (by omega)]
    simp
  · rw [if_pos (by omega), if_neg (by omega)]
    rw [List.getElem?_eq_none (by omega)]
    rfl
theorem atI0 {α : Type} {xs : List α} : atI xs 0 = xs[0]? := atI_nat (k := 0)
theorem atI1 {α : Type} {xs : List α} : atI xs 1 = xs[1]? := atI_nat (k := 1)
theorem atI2 {α : Type} {xs : List α} : atI xs 2 = xs[2]? := atI_nat (k := 2)
theorem wpO_ixL {c : Nat} {xs : List D} {k : Int} {x : D} (h1 : S[c]? = some (.lst xs)) (h : atI xs k = some x) : wpO (ixD (.ref c) (.int k) S) Q ↔ Q x S := by
  unfold ixD
  simp only [h1, h]
  exact wpO_def
theorem wpO_ixT {xs : List D} {k : Int} {x : D} (h : atI xs k = some x) : wpO (ixD (.tup xs) (.int k) S) Q ↔ Q x S := by
  unfold ixD
  simp only [h]
  exact wpO_def
theorem setD_at {c : Nat} {ds : List D} {k : Int} {j : Nat} (h : S[c]? = some (.lst ds)) (hj : ixN ds.length k = some j) : setD (.ref c) (.int k) d S = some (S.set c (.lst (ds.set j d))) := by
  unfold setD
  simp only [h, hj]
/-! equality, membership -/
open PySem.W in
theorem wpO_eq {α : Type} [DecidableEq α] [Datum α] {x y : D} {a c : α} (hx : toP S 60 x = some (Datum.toD a)) (hy : toP S 60 y = some (Datum.toD c)) : wpO (eqD x y S) Q ↔ Q (.bl (decide (a = c))) S := by
  unfold eqD
  rw [hx, hy]
  rw [wpO_def]
  show Q (.bl (PyData.eqv _ _)) S ↔ _
  rw [Datum.eqv]
open PySem.W in
theorem wpO_ne {α : Type} [DecidableEq α] [Datum α] {x y : D} {a c : α} (hx : toP S 60 x = some (Datum.toD a)) (hy : toP S 60 y = some (Datum.toD c)) : wpO (neD x y S) Q ↔ Q (.bl (decide (a ≠ c))) S := by
  unfold neD
  rw [hx, hy]
  rw [wpO_def]
  show Q (.bl (!PyData.eqv _ _)) S ↔ _
  rw [Datum.eqv]
  simp
theorem strOk_of (x : Str) (h : PyData.strOk x = true) (n : Nat) : toP S (n + 1) (.str x) = some (.str x) := by
  show (if PyData.strOk x = true then _ else _) = _
  rw [if_pos h]
@[simp] theorem toP_int (n : Nat) : toP S (n + 1) (.int i) = some (.int i) := rfl
@[simp] theorem toP_bl (n : Nat) : toP S (n + 1) (.bl b) = some (.bool b) := rfl
@[simp] theorem toP_non (n : Nat) : toP S (n + 1) .non = some .none := rfl
theorem toPs_map {α : Type} {f : D → Option PyData} {g : α → D} {k : α → PyData} (h : ∀ a, f (g a) = some (k a)) : ∀ xs : List α, toPs f (xs.map g) = some (xs.map k)
  | [] => rfl
  | x :: xs => by
    show (match f (g x), toPs f (xs.map g) with | some p, some ps => some (p :: ps) | _, _ => none) = _
    rw [h x, toPs_map h xs]
    rfl
theorem toP_tup {α : Type} {g : α → D} {k : α → PyData} {n : Nat} (h : ∀ a, toP S n (g a) = some (k a)) (xs : List α) : toP S (n + 1) (.tup (xs.map g)) = some (.tuple (xs.map k)) := by
  show (toPs (toP S n) (xs.map g)).map PyData.tuple = _
  rw [toPs_map h xs]
  rfl
theorem toP_lst {α : Type} {g : α → D} {k : α → PyData} {n : Nat} {c : Nat} {xs : List α} (hc : S[c]? = some (.lst (xs.map g))) (h : ∀ a, toP S n (g a) = some (k a)) : toP S (n + 1) (.ref c) = some (.list (xs.map k)) := by
  unfold toP
  simp only [hc]
  rw [toPs_map h xs]
  rfl
theorem toP_ints (n : Nat) (xs : List Int) : toP S (n + 2) (.tup (xs.map .int)) = some (.tuple (xs.map .int)) := toP_tup (fun _ => rfl) xs
@[simp] theorem wpO_eqI : wpO (eqD (.int i) (.int j) S) Q ↔ Q (.bl (decide (i = j))) S := wpO_eq (α := Int) rfl rfl
@[simp] theorem wpO_neI : wpO (neD (.int i) (.int j) S) Q ↔ Q (.bl (decide (i ≠ j))) S := wpO_ne (α := Int) rfl rfl
theorem wpO_eqS {x y : Str} (hx : PyData.strOk x = true) (hy : PyData.strOk y = true) : wpO (eqD (.str x) (.str y) S) Q ↔ Q (.bl (decide (x = y))) S := wpO_eq (α := Str) (strOk_of x hx _) (strOk_of y hy _)
open PySem.W in
theorem any_eq {α : Type} [DecidableEq α] [Datum α] (xs : List α) (x : α) : ((xs.map Datum.toD).any fun z => PyData.eqv z (Datum.toD x)) = decide (x ∈ xs) := any_datum xs x
/-- in, not in, over a tuple of ints -/
theorem wpO_inT {ns : List Int} : wpO (inD false (.int i) (.tup (ns.map .int)) S) Q ↔ Q (.bl (decide (i ∈ ns))) S := by
  unfold inD
  rw [toP_ints 58 ns]
  simp only [toP_int]
  rw [wpO_def]
  show Q (.bl ((ns.map PyData.int).any fun z => PyData.eqv z (.int i))) S ↔ _
  rw [show ((ns.map PyData.int).any fun z => PyData.eqv z (.int i)) = decide (i ∈ ns) from any_eq ns i]
theorem wpO_ninT {ns : List Int} : wpO (inD true (.int i) (.tup (ns.map .int)) S) Q ↔ Q (.bl (!decide (i ∈ ns))) S := by
  unfold inD
  rw [toP_ints 58 ns]
  simp only [toP_int]
  rw [wpO_def]
  show Q (.bl (!(ns.map PyData.int).any fun z => PyData.eqv z (.int i))) S ↔ _
  rw [show ((ns.map PyData.int).any fun z => PyData.eqv z (.int i)) = decide (i ∈ ns) from any_eq ns i]
theorem wpO_inL {ns : List Int} {c : Nat} (h : S[c]? = some (.lst (ns.map .int))) : wpO (inD false (.int i) (.ref c) S) Q ↔ Q (.bl (decide (i ∈ ns))) S := by
  unfold inD
  rw [toP_lst (k := .int) h (n := 59) (fun _ => rfl)]
  simp only [toP_int]
  rw [wpO_def]
  show Q (.bl ((ns.map PyData.int).any fun z => PyData.eqv z (.int i))) S ↔ _
  rw [show ((ns.map PyData.int).any fun z => PyData.eqv z (.int i)) = decide (i ∈ ns) from any_eq ns i]
/-! ### built-ins -/
theorem wpO_lenL {c : Nat} {xs : List D} (h : S[c]? = some (.lst xs)) : wpO (lenA [.ref c] S) Q ↔ Q (.int xs.length) S := by
  unfold lenA seqD
  simp only [h]
  exact wpO_def
@[simp] theorem wpO_lenT {xs : List D} : wpO (lenA [.tup xs] S) Q ↔ Q (.int xs.length) S := wpO_def
@[simp] theorem wpO_lenW {xs : List D} : wpO (lenA [.wtup xs] S) Q ↔ Q (.int xs.length) S := wpO_def
@[simp] theorem wpO_lenF {xs : List D} : wpO (lenA [.frz xs] S) Q ↔ Q (.int xs.length) S := wpO_def
theorem wpO_listL {c : Nat} {xs : List D} (h : S[c]? = some (.lst xs)) : wpO (listA [.ref c] S) Q ↔ wpO (newL xs S) Q := by
  unfold listA seqD
  simp only [h]
@[simp] theorem wpO_listT {xs : List D} : wpO (listA [.tup xs] S) Q ↔ wpO (newL xs S) Q := Iff.rfl
theorem wpO_tupleL {c : Nat} {xs : List D} (h : S[c]? = some (.lst xs)) : wpO (tupleA [.ref c] S) Q ↔ Q (.tup xs) S := by
  unfold tupleA tupD seqD
  simp only [h]
  exact wpO_def
theorem wpO_sumL {c : Nat} {ns : List Int} (h : S[c]? = some (.lst (ns.map .int))) : wpO (sumA [.ref c] S) Q ↔ Q (.int ns.sum) S := by
  unfold sumA onInts lstD
  simp only [h, intsD_map]
  exact wpO_def
theorem wpO_allL {c : Nat} {ns : List Bool} (h : S[c]? = some (.lst (ns.map .bl))) : wpO (allA [.ref c] S) Q ↔ Q (.bl (ns.all id)) S := by
  unfold allA onBls lstD
  simp only [h, blsD_map]
  exact wpO_def
theorem wpO_sortT {ns : List Int} (h : ns.length < 64) : wpO (sortedB [.tup (ns.map .int)] S) Q ↔ wpO (newL ((sortI ns).map .int) S) Q := by
  unfold sortedB sqD
  simp only [intsD_map]
  rw [if_pos h]
/-! methods -/
theorem wpE_mtL {g : MtD} {f : Ev} {t : Av} : wpE (eMtL g f t ρ S) Q ↔ wpE (f ρ S) fun x S1 => ∃ l, lstD x S1 = some l ∧ wpE (t ρ S1) fun ds S2 => wpO (g x ds S2) Q := by
  simp only [eMtL, wpE_bnd]
  refine iff_of_eq (congrArg _ (funext fun o => funext fun S1 => propext ?_))
  cases lstD o S1 with
  | none => simp [wpE]
  | some l => simp
theorem wpO_append {c : Nat} {xs : List D} (h : S[c]? = some (.lst xs)) (hl : xs.length < 1000000) : wpO (appendM (.ref c) [d] S) Q ↔ Q .non (S.set c (.lst (xs ++ [d]))) := by
  unfold appendM
  simp only [h]
  rw [if_pos hl]
  exact wpO_def
theorem lstD_ref {c : Nat} {xs : List D} (h : S[c]? = some (.lst xs)) : lstD (.ref c) S = some xs := by
  unfold lstD
  simp only [h]
theorem wpE_mtT {g : MtD} {f : Ev} {t : Av} : wpE (eMtT g f t ρ S) Q ↔ wpE (f ρ S) fun x S1 => isTup x = true ∧ wpE (t ρ S1) fun ds S2 => wpO (g x ds S2) Q := by
  simp only [eMtT, wpE_bnd]
  refine iff_of_eq (congrArg _ (funext fun o => funext fun S1 => propext ?_))
  cases isTup o with
  | false => simp [wpE]
  | true => simp
theorem wpO_index {ns : List Int} (h : i ∈ ns) : wpO (indexM (.tup (ns.map .int)) [.int i] S) Q ↔ Q (.int (ns.idxOf i : Nat)) S := by
  unfold indexM
  simp only [intsD_map]
  rw [if_pos h]
  exact wpO_def
/-! ### loops -/
variable {N : Loc → Store → Prop} {R : D → Store → Prop} {u : Sv} {g : Tg} {f : Iv}
theorem wpS_forGo {it : ItD} (Inv : Nat → Loc → Store → Prop) (ds : List D) (hi : ∀ i ρ S, Inv i ρ S → i ≤ ds.length → items it S = some ds)
    (hb : ∀ i ρ S x, Inv i ρ S → ds[i]? = some x → ∃ ρ1, g x ρ S = some ρ1 ∧ wpS (u ρ1 S) (fun ρ2 S2 => Inv (i + 1) ρ2 S2) R)
    (hd : ∀ ρ S, Inv ds.length ρ S → N ρ S) : ∀ (k i : Nat) (ρ : Loc) (S : Store), Inv i ρ S → i + k = ds.length → wpS (forGo it g u k i ρ S) N R
  | 0, i, ρ, S, h, e => by
    unfold forGo
    rw [hi i ρ S h (by omega)]
    have : i = ds.length := by omega
    subst this
    simp only [Nat.le_refl, if_true]
    exact hd ρ S h
  | k + 1, i, ρ, S, h, e => by
    unfold forGo
    rw [hi i ρ S h (by omega)]
    have hx : ds[i]? = some ds[i] := List.getElem?_eq_getElem (by omega)
    simp only [hx]
    obtain ⟨ρ1, h1, h2⟩ := hb i ρ S _ h hx
    simp only [h1]
    match e2 : u ρ1 S, h2 with
    | some (.nx ρ2, S2), h2 => exact wpS_forGo Inv ds hi hb hd k (i + 1) ρ2 S2 h2 (by omega)
    | some (.rt d, S2), h2 => exact h2
theorem wpS_for : wpS (sFor f g u ρ S) N R ↔ wpE (f ρ S) fun it S1 => ∃ ds, items it S1 = some ds ∧ wpS (forGo it g u ds.length 0 ρ S1) N R := by
  unfold sFor
  rw [wpS_run]
  refine iff_of_eq (congrArg _ (funext fun it => funext fun S1 => propext ?_))
  cases items it S1 <;> simp [wpS]
/-- over a list of fixed items -/
theorem wp_forF {ds : List D} (Inv : Nat → Loc → Store → Prop) (h0 : Inv 0 ρ S) (hb : ∀ i ρ S x, Inv i ρ S → ds[i]? = some x → ∃ ρ1, g x ρ S = some ρ1 ∧ wpS (u ρ1 S) (fun ρ2 S2 => Inv (i + 1) ρ2 S2) R)
    (hd : ∀ ρ S, Inv ds.length ρ S → N ρ S) : wpS (forGo (.fix ds) g u ds.length 0 ρ S) N R := wpS_forGo Inv ds (fun _ _ _ _ _ => rfl) hb hd ds.length 0 ρ S h0 (by omega)
@[simp] theorem wpE_iSeq {e : Ev} {QI : ItD → Store → Prop} : wpE (iSeq e ρ S) QI ↔ wpE (e ρ S) fun d S1 => ∃ it, itOf d S1 = some it ∧ QI it S1 := by
  simp only [iSeq, wpE_bnd]
  refine iff_of_eq (congrArg _ (funext fun d => funext fun S1 => propext ?_))
  cases itOf d S1 <;> simp [wpE, ok]
theorem wpE_iZp {t : Av} {QI : ItD → Store → Prop} : wpE (iZp t ρ S) QI ↔ wpE (t ρ S) fun ds S1 => ∃ d e it it2, ds = [d, e] ∧ itOf d S1 = some it ∧ itOf e S1 = some it2 ∧ QI (.zp it it2) S1 := by
  simp only [iZp, wpE_bnd]
  refine iff_of_eq (congrArg _ (funext fun ds => funext fun S1 => propext ?_))
  match ds with
  | [] => simp [wpE]
  | [d] => simp [wpE]
  | d :: e :: x :: r => simp [wpE]
  | [d, e] =>
    cases h1 : itOf d S1 with
    | none => simp [wpE, h1]
    | some it =>
      cases h2 : itOf e S1 with
      | none => simp [wpE, h1, h2]
      | some it2 =>
        simp only [h1, h2, wpE_ok, List.cons.injEq, and_true]
        constructor
        · intro h; exact ⟨d, e, it, it2, ⟨rfl, rfl⟩, h1, h2, h⟩
        · rintro ⟨d', e', a, b, ⟨rfl, rfl⟩, q1, q2, h⟩
          rw [h1] at q1
          rw [h2] at q2
          cases q1
          cases q2
          exact h
/-! ### comprehensions -/
theorem wpE_lcGo {it : ItD} {g : Tg} {tt : Tv} {te : Ev} {ρ : Loc} {QA : List D → Store → Prop} (Inv : Nat → List D → Store → Prop) (ds : List D) (hi : ∀ i acc S, Inv i acc S → items it S = some ds)
    (hb : ∀ i acc S x, Inv i acc S → ds[i]? = some x → ∃ ρ1, g x ρ S = some ρ1 ∧ wpE (tt ρ1 S) fun b S1 => if b = true then wpE (te ρ1 S1) fun y S2 => Inv (i + 1) (acc ++ [y]) S2 else Inv (i + 1) acc S1)
    (hd : ∀ acc S, Inv ds.length acc S → QA acc S) : ∀ (k i : Nat) (acc : List D) (S : Store), Inv i acc S → i + k = ds.length → wpE (lcGo it g tt te ρ k i acc S) QA
  | 0, i, acc, S, h, e => by
    unfold lcGo
    rw [hi i acc S h]
    have : i = ds.length := by omega
    subst this
    simp only [Nat.le_refl, if_true]
    exact hd acc S h
  | k + 1, i, acc, S, h, e => by
    unfold lcGo
    rw [hi i acc S h]
    have hx : ds[i]? = some ds[i] := List.getElem?_eq_getElem (by omega)
    simp only [hx]
    obtain ⟨ρ1, h1, h2⟩ := hb i acc S _ h hx
    simp only [h1, wpE_bndX]
    refine wpE.mono h2 fun b S1 h3 => ?_
    cases b with
    | false => exact wpE_lcGo Inv ds hi hb hd k (i + 1) acc S1 (by simpa using h3) (by omega)
    | true =>
      simp only [if_true, wpE_bndX] at h3 ⊢
      exact wpE.mono h3 fun y S2 h4 => wpE_lcGo Inv ds hi hb hd k (i + 1) _ S2 h4 (by omega)
theorem wpE_lc {f : Iv} {g : Tg} {tt : Tv} {te : Ev} {vs : List Nat} : wpE (eLc f g tt te vs ρ S) Q ↔ wpE (f ρ S) fun it S1 => ∃ ds, items it S1 = some ds ∧ ds.length ≤ 1000000 ∧ wpE (lcGo it g tt te (wipeD ρ vs) ds.length 0 [] S1) fun r S2 => wpO (newL r S2) Q := by
  simp only [eLc, wpE_bnd]
  refine iff_of_eq (congrArg _ (funext fun it => funext fun S1 => propext ?_))
  cases e : items it S1 with
  | none => simp [wpE]
  | some ds =>
    simp only [Option.some.injEq, exists_eq_left']
    by_cases h : ds.length ≤ 1000000
    · rw [if_pos h]
      simp only [wpE_bndX, wpE_lift, h, true_and]
    · rw [if_neg h]
      simp [wpE, h]
/-- each item gives one value (or is left out), by a plain function; new things may be made -/
theorem lc_map {α : Type} {it : ItD} {g : Tg} {tt : Tv} {te : Ev} {ρ : Loc} {QA : List D → Store → Prop} {S0 : Store} {n : Nat} (xs : List α) (hn : n = xs.length) (inj : α → D) (p : α → Bool) (out : α → D) (hi : ∀ S, Fr [] S0 S → items it S = some (xs.map inj))
    (hb : ∀ (x : α) (S : Store), x ∈ xs → Fr [] S0 S → ∃ ρ1, g (inj x) ρ S = some ρ1 ∧ wpE (tt ρ1 S) fun b S1 => Fr [] S S1 ∧ b = p x ∧ (p x = true → wpE (te ρ1 S1) fun y S2 => Fr [] S1 S2 ∧ y = out x))
    (hd : ∀ S, Fr [] S0 S → QA ((xs.filter p).map out) S) : wpE (lcGo it g tt te ρ n 0 [] S0) QA := by
  refine wpE_lcGo (fun i acc S => Fr [] S0 S ∧ acc = ((xs.take i).filter p).map out) (xs.map inj) (fun i acc S h => hi S h.1) (fun i acc S x h hx => ?_) (fun acc S h => ?_) n 0 [] S0 ⟨Fr.refl, by simp⟩ (by simp [hn])
  · obtain ⟨f, rfl⟩ := h
    rw [List.getElem?_map] at hx
    cases e : xs[i]? with
    | none => rw [e] at hx; cases hx
    | some a =>
      rw [e] at hx
      cases hx
      obtain ⟨ρ1, h1, h2⟩ := hb a S (List.mem_of_getElem? e) f
      have ht : xs.take (i + 1) = xs.take i ++ [a] := by rw [List.take_add_one, e]; rfl
      refine ⟨ρ1, h1, wpE.mono h2 fun b S1 ⟨f1, e1, k⟩ => ?_⟩
      subst e1
      cases hp : p a with
      | false => simp only [Bool.false_eq_true, if_false]; exact ⟨f.trans f1, by rw [ht]; simp [hp]⟩
      | true =>
        simp only [if_true]
        exact wpE.mono (k hp) fun y S2 ⟨f2, e2⟩ => ⟨f.trans (f1.trans f2), by rw [ht, e2]; simp [hp]⟩
  · obtain ⟨f, rfl⟩ := h
    have : (xs.map inj).length = xs.length := by simp
    rw [this, List.take_length]
    exact hd S f
/-- no test -/
theorem lc_all {α : Type} {it : ItD} {g : Tg} {te : Ev} {ρ : Loc} {QA : List D → Store → Prop} {S0 : Store} {n : Nat} (xs : List α) (hn : n = xs.length) (inj : α → D) (out : α → D) (hi : ∀ S, Fr [] S0 S → items it S = some (xs.map inj))
    (hb : ∀ (x : α) (S : Store), x ∈ xs → Fr [] S0 S → ∃ ρ1, g (inj x) ρ S = some ρ1 ∧ wpE (te ρ1 S) fun y S2 => Fr [] S S2 ∧ y = out x)
    (hd : ∀ S, Fr [] S0 S → QA (xs.map out) S) : wpE (lcGo it g tYes te ρ n 0 [] S0) QA := by
  refine lc_map xs hn inj (fun _ => true) out hi (fun x S hx f => ?_) fun S f => ?_
  · obtain ⟨ρ1, h1, h2⟩ := hb x S hx f
    exact ⟨ρ1, h1, by simpa [Fr.refl] using h2⟩
  · have e : xs.filter (fun _ => true) = xs := List.filter_eq_self.mpr (by simp)
    rw [e]
    exact hd S f
end
end Dl
set_option Elab.async false
set_option linter.all false
set_option maxRecDepth 100000
set_option maxHeartbeats 2000000
namespace Dl
open PySem PySem.Spec
open L2 (atI ixN)
theorem sp_take {S : Store} {f : Nat} {a b many : Int} {Q : D → Store → Prop} (h : S[f]? = some (.lst [.int a, .int b])) (hm : 0 < many ∧ many < 1073741824)
    (hQ : ∀ (a' b' r : Int), 0 ≤ r → r < many → Q (.int r) (S.set f (.lst [.int a', .int b']))) : wpE (m_law_take [.ref f, .int many] S) Q := by
  have i0 : atI [D.int a, D.int b] 0 = some (.int a) := rfl
  have i1 : atI [D.int a, D.int b] 1 = some (.int b) := rfl
  have hl := lt_of_at h
  simp [m_law_take, b_law_take, startD, gN, wpO_ixL h i0, wpO_ixL h i1, hm.1, hm, setD_at h (k := 0) (j := 0) rfl, setD_at h (k := 1) (j := 1) rfl]
  have g1 : ∀ x : Int, (S.set f (.lst [.int a, .int x]))[f]? = some (.lst [.int a, .int x]) := fun x => set_at hl
  simp [wpO_ixL (g1 _) (x := .int _) (k := 1) rfl, hm.1]
  rcases Int.lt_or_le 0 a with h0 | h0
  · exact .inr ⟨h0, hQ _ _ _ (Int.emod_nonneg _ (by omega)) (Int.emod_lt_of_pos _ hm.1)⟩
  · exact .inl ⟨h0, hQ _ _ _ (Int.emod_nonneg _ (by omega)) (Int.emod_lt_of_pos _ hm.1)⟩
theorem sp_is_number {S : Store} {n a b : Int} {Q : D → Store → Prop} (hQ : Q (.bl (decide (a ≤ n ∧ n ≤ b))) S) : wpE (m_is_number [.int n, .int a, .int b] S) Q := by
  simp [m_is_number, b_is_number, startD, kdD, isKT]
  by_cases h : a ≤ n
  · simp [h] at hQ
    exact .inr ⟨h, hQ⟩
  · simp [h] at hQ
    exact .inl ⟨by omega, hQ⟩
/-! ### services, houses -/
structure Svc where
  w : Int
  o : List Int
  r : Str
def svD (s : Svc) : D := .tup [.int s.w, .tup (s.o.map .int), .str s.r]
/-- what stands at h is a house -/
def HouseAt (S : Store) (h : Nat) (bs : List Int) (rs : List Svc) : Prop := ∃ b r, S[h]? = some (.ins 0 [.ref b, .ref r]) ∧ S[b]? = some (.lst (bs.map .int)) ∧ S[r]? = some (.lst (rs.map svD))
theorem HouseAt.to {S S' : Store} {h : Nat} {bs : List Int} {rs : List Svc} (H : HouseAt S h bs rs) (f : Fr [] S S') : HouseAt S' h bs rs :=
  let ⟨b, r, h1, h2, h3⟩ := H
  ⟨b, r, f.at0 h1, f.at0 h2, f.at0 h3⟩
theorem sp_services {S : Store} {h : Nat} {bs : List Int} {rs : List Svc} {Q : D → Store → Prop} (H : HouseAt S h bs rs) (hQ : ∀ S' n, Fr [] S S' → S'[n]? = some (.lst (rs.map svD)) → S.length ≤ n → Q (.ref n) S') : wpE (m_House_services [.ref h] S) Q := by
  obtain ⟨b, r, h1, h2, h3⟩ := H
  simp [m_House_services, b_House_services, startD, h1, wpO_listL h3]
  exact wpO_newL fun S' n f e l _ => hQ S' n f e l
theorem sp_strengths {S : Store} {h : Nat} {bs : List Int} {rs : List Svc} {Q : D → Store → Prop} (H : HouseAt S h bs rs) (hQ : ∀ S' n, Fr [] S S' → S'[n]? = some (.lst (bs.map .int)) → S.length ≤ n → Q (.ref n) S') : wpE (m_House_strengths [.ref h] S) Q := by
  obtain ⟨b, r, h1, h2, h3⟩ := H
  simp [m_House_strengths, b_House_strengths, startD, h1, wpO_listL h2]
  exact wpO_newL fun S' n f e l _ => hQ S' n f e l
theorem sp_hlen {S : Store} {h : Nat} {bs : List Int} {rs : List Svc} {Q : D → Store → Prop} (H : HouseAt S h bs rs) (hQ : Q (.int bs.length) S) : wpE (m_House_len0 [.ref h] S) Q := by
  obtain ⟨b, r, h1, h2, h3⟩ := H
  simp [m_House_len0, b_House_len0, startD, h1, wpO_lenL h2]
  exact hQ
/-! ### pictures -/
abbrev Pic : Type := List Int × List Int
def picD (p : Pic) : D := .tup [.tup (p.1.map .int), .tup (p.2.map .int)]
def headI (o : List Int) : Int := o.headD 0
def begins (rs : List Svc) : Pic := ([], rs.map fun s => headI s.o)
theorem sp_beginning {S : Store} {h : Nat} {bs : List Int} {rs : List Svc} {Q : D → Store → Prop} (H : HouseAt S h bs rs) (ho : ∀ s ∈ rs, s.o ≠ []) (hr : rs.length ≤ 1000000) (hQ : ∀ S', Fr [] S S' → Q (picD (begins rs)) S') : wpE (m_beginning [.ref h] S) Q := by
  have ⟨b, r, h1, h2, h3⟩ := H
  simp [m_beginning, b_beginning, startD, wpE_lc, h1]
  refine sp_services H fun S1 n f1 e1 l1 => ?_
  simp [itOf, e1, items, hr]
  refine lc_all rs rfl svD (fun s => .int (headI s.o)) (fun S f => by simp [items, f.at0 e1]) (fun s S2 hs f => ?_) fun S2 f => ?_
  · refine ⟨_, rfl, ?_⟩
    simp [wipeD]
    obtain ⟨x, xs, e⟩ := List.exists_cons_of_ne_nil (ho s hs)
    rw [wpO_ixT (x := .int x) (by rw [e, atI0]; rfl)]
    simp [Fr.refl, e, headI]
  · refine wpO_newL fun S3 m f3 e3 l3 _ => ?_
    simp [wpO_tupleL e3]
    have := hQ S3 (f1.trans (f.trans f3))
    simpa [picD, begins, Function.comp_def] using this
/-! ### what an event leaves -/
theorem find_at {α : Type} {p : α → Bool} {x : α} : ∀ {o : List α} {i : Nat}, o[i]? = some x → (∀ m ∈ o.take i, p m = false) → p x = true → o.find? p = some x
  | [], i, h, _, _ => by simp at h
  | a :: o, 0, h, _, hp => by
    simp at h
    subst h
    simp [hp]
  | a :: o, i + 1, h, hm, hp => by
    simp at h
    have ha : p a = false := hm a (by simp)
    rw [List.find?_cons, ha]
    exact find_at h (fun m hm' => hm m (by simp [hm'])) hp
theorem sp_first_living {S : Store} {o down : List Int} {Q : D → Store → Prop} (hQ : Q (.int ((o.find? fun m => decide (m ∉ down)).getD (-1))) S) : wpE (m_first_living [.tup (o.map .int), .tup (down.map .int)] S) Q := by
  simp only [m_first_living, b_first_living, wpE_def, wpS_seq, wpS_for, startD]
  simp [itOf, items]
  rw [← List.length_map (f := D.int)]
  refine wp_forF (fun i ρ S' => S' = S ∧ (∃ x, ρ = [some (.tup (o.map .int)), some (.tup (down.map .int)), x]) ∧ ∀ m ∈ o.take i, m ∈ down) ⟨rfl, ⟨none, rfl⟩, by simp⟩ (fun i ρ S' x h hx => ?_) fun ρ S' h => ?_
  · obtain ⟨rfl, ⟨y, rfl⟩, h⟩ := h
    rw [List.getElem?_map] at hx
    cases e : o[i]? with
    | none => rw [e] at hx; cases hx
    | some a =>
      rw [e] at hx
      cases hx
      refine ⟨_, rfl, ?_⟩
      by_cases c : a ∈ down
      · simp [wpO_ninT, c]
        intro m hm
        rw [List.take_add_one, e] at hm
        rcases List.mem_append.mp hm with q | q
        · exact h m q
        · simp at q; rw [q]; exact c
      · simp [wpO_ninT, c]
        rw [find_at e (fun m hm => by simpa using h m hm) (by simpa using c)] at hQ
        exact hQ
  · obtain ⟨rfl, ⟨y, rfl⟩, h⟩ := h
    rw [List.length_map, List.take_length] at h
    have : (o.find? fun m => decide (m ∉ down)) = none := List.find?_eq_none.mpr fun m hm => by simpa using h m hm
    rw [this] at hQ
    exact hQ
def moved (s : Svc) (pl m : Int) : Bool :=
  if m ∉ s.o then false else if pl = -1 ∨ (s.r = "home" ∧ headI s.o = m) then true else decide (s.r = "first") && decide (s.o.idxOf m < s.o.idxOf pl)
theorem ok_first : PyData.strOk ("first" : Str) = true := by decide +kernel
theorem ok_home : PyData.strOk ("home" : Str) = true := by decide +kernel
theorem ok_stay : PyData.strOk ("stay" : Str) = true := by decide +kernel
theorem sp_is_moved {S : Store} {s : Svc} {pl m : Int} {Q : D → Store → Prop} (hr : PyData.strOk s.r = true) (hp : pl = -1 ∨ pl ∈ s.o) (hQ : Q (.bl (moved s pl m)) S) : wpE (m_is_moved [svD s, .int pl, .int m] S) Q := by
  simp [m_is_moved, b_is_moved, startD, svD, gSeq, gsCons, gsNil, gN, wpO_ninT]
  unfold moved at hQ
  by_cases h1 : m ∈ s.o
  · simp only [h1, not_true_eq_false, if_false] at hQ
    simp [h1, wpO_eqS hr ok_home, wpO_eqS hr ok_first]
    have h0 : wpO (ixD (.tup (s.o.map .int)) (.int 0) S) = fun Q => Q (.int (headI s.o)) S := by
      obtain ⟨x, xs, e⟩ : ∃ x xs, s.o = x :: xs := List.exists_cons_of_ne_nil (fun e => by rw [e] at h1; simp at h1)
      funext Q
      exact propext (wpO_ixT (by rw [atI0, e]; rfl))
    simp [h0]
    by_cases h2 : pl = -1
    · simp [h2] at hQ ⊢
      exact hQ
    · have h3 : pl ∈ s.o := hp.resolve_left h2
      simp only [h2, false_or] at hQ ⊢
      have tail : Q (.bl (decide (s.r = "first") && decide (s.o.idxOf m < s.o.idxOf pl))) S →
          wpE (eAn (eBin eqD (eV 5) (eC (.str "first"))) (eBin ltD (eMtT indexM (eV 4) (aCons (eV 2) aNil)) (eMtT indexM (eV 4) (aCons (eV 1) aNil))) [some (svD s), some (.int pl), some (.int m), some (.int s.w), some (.tup (s.o.map .int)), some (.str s.r)] S) Q := fun q => by
        simp [wpO_eqS hr ok_first, wpE_mtT, isTup, wpO_index h1, wpO_index h3]
        by_cases h6 : s.r = "first"
        · simp [h6] at q ⊢
          exact q
        · simp [h6] at q ⊢
          exact q
      simp [svD, wpO_eqS hr ok_first, wpE_mtT, isTup, wpO_index h1, wpO_index h3] at tail
      by_cases h4 : s.r = "home"
      · by_cases h5 : headI s.o = m
        · simp [h4, h5] at hQ ⊢
          exact hQ
        · rw [if_neg (fun z => h5 z.2)] at hQ
          have := tail hQ
          simpa [h4, h5, wpE_mtT, isTup, wpO_index h1, wpO_index h3] using this
      · rw [if_neg (fun z => h4 z.1)] at hQ
        have := tail hQ
        simpa [h4, wpE_mtT, isTup, wpO_index h1, wpO_index h3] using this
  · simp [h1] at hQ ⊢
    exact hQ

theorem svD0 {S : Store} {s : Svc} {Q : D → Store → Prop} : wpO (ixD (svD s) (.int 0) S) Q ↔ Q (.int s.w) S := wpO_ixT (by rw [atI0]; rfl)
theorem svD1 {S : Store} {s : Svc} {Q : D → Store → Prop} : wpO (ixD (svD s) (.int 1) S) Q ↔ Q (.tup (s.o.map .int)) S := wpO_ixT (by rw [atI1]; rfl)
theorem picD0 {S : Store} {s : Pic} {Q : D → Store → Prop} : wpO (ixD (picD s) (.int 0) S) Q ↔ Q (.tup (s.1.map .int)) S := wpO_ixT (by rw [atI0]; rfl)
theorem picD1 {S : Store} {s : Pic} {Q : D → Store → Prop} : wpO (ixD (picD s) (.int 1) S) Q ↔ Q (.tup (s.2.map .int)) S := wpO_ixT (by rw [atI1]; rfl)
theorem itOf_ref {S : Store} {c : Nat} {ds : List D} (h : S[c]? = some (.lst ds)) : itOf (.ref c) S = some (.lst c) := by
  unfold itOf
  simp only [h]
theorem items_ref {S : Store} {c : Nat} {ds : List D} (h : S[c]? = some (.lst ds)) : items (.lst c) S = some ds := by
  unfold items
  simp only [h]
theorem zipD_map {α β : Type} (f : α → D) (g : β → D) : ∀ (xs : List α) (ys : List β), zipD (xs.map f) (ys.map g) = (xs.zip ys).map fun q => .wtup [f q.1, g q.2]
  | [], ys => by simp [zipD]
  | x :: xs, [] => by simp [zipD]
  | x :: xs, y :: ys => by simp [zipD, zipD_map f g xs ys]
def bePlace (fall : Bool) (now : List Int) (m : Int) (s : Svc) (pl : Int) : Int := if fall = true then (if pl = m then (s.o.find? fun k => decide (k ∉ now)).getD (-1) else pl) else if moved s pl m = true then m else pl
def nowOf (fall : Bool) (down : List Int) (m : Int) : List Int := if fall = true then sortI (down ++ [m]) else down.filter fun k => decide (k ≠ m)
def behind (rs : List Svc) (p : Pic) (fall : Bool) (m : Int) : Pic := (nowOf fall p.1 m, (rs.zip p.2).map fun q => bePlace fall (nowOf fall p.1 m) m q.1 q.2)
def deed (fall : Bool) : Str := if fall = true then "fall" else "rise"
def evD (e : Bool × Int) : D := .tup [.str (deed e.1), .int e.2]
theorem ok_fall : PyData.strOk ("fall" : Str) = true := by decide +kernel
theorem ok_rise : PyData.strOk ("rise" : Str) = true := by decide +kernel
theorem ok_deed (f : Bool) : PyData.strOk (deed f) = true := by cases f; exact ok_rise; exact ok_fall
theorem deed_fall (f : Bool) : decide (deed f = "fall") = f := by cases f <;> decide
structure PicOk (rs : List Svc) (p : Pic) : Prop where
  few : p.1.length < 60
  len : p.2.length = rs.length
  at_ : ∀ q ∈ rs.zip p.2, q.2 = -1 ∨ q.2 ∈ q.1.o
theorem sp_behind {S : Store} {h : Nat} {bs : List Int} {rs : List Svc} {p : Pic} {fall : Bool} {m : Int} {Q : D → Store → Prop} (H : HouseAt S h bs rs) (hr : ∀ s ∈ rs, PyData.strOk s.r = true) (hl : rs.length ≤ 1000) (ok : PicOk rs p)
    (hQ : ∀ S', Fr [] S S' → Q (picD (behind rs p fall m)) S') : wpE (m_behind_event [.ref h, picD p, evD (fall, m)] S) Q := by
  simp only [m_behind_event, b_behind_event, wpE_def, startD]
  simp [picD, evD, gSeq, gsCons, gsNil, gN, wpE_lc, itOf, items]
  have hf := ok.few
  refine ⟨by omega, ?_⟩
  refine lc_map p.1 rfl .int (fun k => decide (k ≠ m)) .int (fun S' f => by simp [items]) (fun k S' hk f => ?_) fun S1 f1 => ?_
  · refine ⟨_, rfl, ?_⟩
    simp [wipeD, Fr.refl]
  refine wpO_newL fun S2 n2 f2 e2 l2 _ => ?_
  simp [wpO_tupleL e2]
  refine wpO_newL fun S3 n3 f3 e3 l3 _ => ?_
  simp [wpO_eqS (ok_deed fall) ok_fall, deed_fall]
  have f03 : Fr [] S S3 := f1.trans (f2.trans f3)
  have ln3 : S.length ≤ n3 := Nat.le_trans f1.1 (Nat.le_trans f2.1 l3)
  -- behind the first lines
  have main : ∀ S4 (now : List Int), Fr [] S S4 → S4[n3]? = some (.lst []) → now = nowOf fall p.1 m →
      wpS (sSeq (sFor (iZp (aCons (eMeth 0 m_House_services (eV 0) aNil) (aCons (eV 4) aNil))) (gSeq (gsCons (gN 9) (gsCons (gN 10) gsNil))) (sIf (tV (eBin eqD (eV 5) (eC (.str "fall")))) (sEx (eMtL appendM (eV 8) (aCons (eIf (tV (eBin eqD (eV 10) (eV 6))) (eCall m_first_living (aCons (eBin ixD (eV 9) (eC (.int 1))) (aCons (eV 7) aNil))) (eV 10)) aNil))) (sEx (eMtL appendM (eV 8) (aCons (eIf (tV (eCall m_is_moved (aCons (eV 9) (aCons (eV 10) (aCons (eV 6) aNil))))) (eV 6) (eV 10)) aNil)))))
        (sRet (eTup (aCons (eV 7) (aCons (eB tupleA (aCons (eV 8) aNil)) aNil))))
        [some (.ref h), some (picD p), some (evD (fall, m)), some (.tup (p.1.map .int)), some (.tup (p.2.map .int)), some (.str (deed fall)), some (.int m), some (.tup (now.map .int)), some (.ref n3), none, none, none] S4) (fun _ S' => Q .non S') Q := fun S4 now f4 e4 hnow => by
    obtain ⟨hb, hc, h1, _⟩ := H
    have H4 := HouseAt.to ⟨hb, hc, h1, by assumption⟩ f4
    have h4 := f4.at0 h1
    simp only [wpS_seq, wpS_for, wpE_iZp]
    simp [h4]
    refine sp_services H4 fun S5 n5 f5 e5 l5 => ?_
    refine ⟨_, _, ⟨rfl, rfl⟩, _, itOf_ref e5, _, rfl, ?_⟩
    have hz : ∀ S' : Store, S'[n5]? = some (.lst (rs.map svD)) → items (.zp (.lst n5) (.fix (p.2.map .int))) S' = some ((rs.zip p.2).map fun q => .wtup [svD q.1, .int q.2]) := fun S' e => by
      simp [items, e, zipD_map]
    have n53 : n5 ≠ n3 := fun e => by
      have := lt_of_at e4
      omega
    refine ⟨_, hz S5 e5, ?_⟩
    refine wpS_forGo (fun i ρ S' => Fr [n3] S5 S' ∧ S'[n3]? = some (.lst (((rs.zip p.2).take i).map fun q => .int (bePlace fall now m q.1 q.2))) ∧
      ∃ x y, ρ = [some (.ref h), some (picD p), some (evD (fall, m)), some (.tup (p.1.map .int)), some (.tup (p.2.map .int)), some (.str (deed fall)), some (.int m), some (.tup (now.map .int)), some (.ref n3), x, y, none]) _
      (fun i ρ S' h _ => hz S' (h.1.at e5 (by simp [n53]))) (fun i ρ S' x h hx => ?_) (fun ρ S' h => ?_) _ 0 _ S5 ⟨Fr.refl, by simpa using f5.at0 e4, none, none, rfl⟩ (by simp)
    · obtain ⟨fr, en, y, z, rfl⟩ := h
      rw [List.getElem?_map] at hx
      cases e : (rs.zip p.2)[i]? with
      | none => rw [e] at hx; cases hx
      | some q =>
        rw [e] at hx
        cases hx
        have hq : q ∈ rs.zip p.2 := List.mem_of_getElem? e
        have ht : (rs.zip p.2).take (i + 1) = (rs.zip p.2).take i ++ [q] := by rw [List.take_add_one, e]; rfl
        have hlen : i < rs.length := by
          have := (List.getElem?_eq_some_iff.mp e).1
          simp at this
          omega
        refine ⟨_, rfl, ?_⟩
        have fin : ∀ v : Int, v = bePlace fall now m q.1 q.2 → (fun (ρ2 : Loc) (S2 : Store) => Fr [n3] S5 S2 ∧ S2[n3]? = some (.lst (((rs.zip p.2).take (i + 1)).map fun q => .int (bePlace fall now m q.1 q.2))) ∧
            ∃ x y, ρ2 = [some (.ref h), some (picD p), some (evD (fall, m)), some (.tup (p.1.map .int)), some (.tup (p.2.map .int)), some (.str (deed fall)), some (.int m), some (.tup (now.map .int)), some (.ref n3), x, y, none])
            [some (.ref h), some (picD p), some (evD (fall, m)), some (.tup (p.1.map .int)), some (.tup (p.2.map .int)), some (.str (deed fall)), some (.int m), some (.tup (now.map .int)), some (.ref n3), some (svD q.1), some (.int q.2), none] (S'.set n3 (.lst ((((rs.zip p.2).take i).map fun q => .int (bePlace fall now m q.1 q.2)) ++ [.int v]))) := fun v hv => by
          refine ⟨fr.trans Fr.set, ?_, _, _, rfl⟩
          rw [set_at (lt_of_at en), ht, hv]
          simp
        have hsz : (((rs.zip p.2).take i).map fun q => D.int (bePlace fall now m q.1 q.2)).length < 1000000 := by simp; omega
        simp only [wpS_if, wpE_tV, wpE_eBin, wpE_eV, wpE_eC]
        simp [wpO_eqS (ok_deed fall) ok_fall, deed_fall]
        cases fall with
        | true =>
          simp [wpE_mtL, lstD_ref en]
          by_cases c : q.2 = m
          · simp [c]
            rw [svD1]
            refine sp_first_living ?_
            rw [wpO_append en hsz]
            have := fin ((q.1.o.find? fun k => decide (k ∉ now)).getD (-1)) (by simp [bePlace, c])
            simpa [c, svD] using this
          · simp [c]
            rw [wpO_append en hsz]
            have := fin q.2 (by simp [bePlace, c])
            simpa [svD] using this
        | false =>
          simp [wpE_mtL, lstD_ref en]
          refine sp_is_moved (hr q.1 (List.of_mem_zip hq).1) (ok.at_ q hq) ?_
          cases c : moved q.1 q.2 m with
          | true =>
            simp
            rw [wpO_append en hsz]
            have := fin m (by simp [bePlace, c])
            simpa [svD] using this
          | false =>
            simp
            rw [wpO_append en hsz]
            have := fin q.2 (by simp [bePlace, c])
            simpa [svD] using this
    · obtain ⟨fr, en, y, z, rfl⟩ := h
      simp
      rw [List.length_map, List.take_length] at en
      rw [wpO_tupleL en]
      have fr2 : Fr [] S S' := (f4.trans f5).trans2 (y := [n3]) fr (by simp) (fun c hc hlt => by simp at hc; omega)
      have := hQ S' fr2
      rw [hnow]
      simpa [picD, behind, Function.comp_def] using this
  simp only [wpS_seq] at main
  cases fall with
  | false =>
    have := main S3 (nowOf false p.1 m) f03 e3 rfl
    simpa [nowOf, picD, evD] using this
  | true =>
    simp
    rw [wpO_addT (by simp; omega)]
    have e : (p.1.map D.int ++ [D.int m]) = (p.1 ++ [m]).map .int := by simp
    rw [e, wpO_sortT (by simp; omega)]
    refine wpO_newL fun S5 n5 f5 e5 l5 _ => ?_
    rw [wpO_tupleL e5]
    have := main S5 (nowOf true p.1 m) (f03.trans f5) (f5.at0 e3) rfl
    simpa [nowOf, picD, evD] using this

/-! ### runs -/
def RunAt (S : Store) (r h dn : Nat) (p : Pic) (evs : List (Bool × Int)) : Prop := S[r]? = some (.ins 1 [.ref h, picD p, .ref dn]) ∧ S[dn]? = some (.lst (evs.map evD)) ∧ r ≠ dn
theorem RunAt.to {S S' : Store} {x : List Nat} {r h dn : Nat} {p : Pic} {evs : List (Bool × Int)} (R : RunAt S r h dn p evs) (f : Fr x S S') (h1 : r ∉ x) (h2 : dn ∉ x) : RunAt S' r h dn p evs := ⟨f.at R.1 h1, f.at R.2.1 h2, R.2.2⟩
theorem sp_run_init {S : Store} {h self : Nat} {bs : List Int} {rs : List Svc} {Q : D → Store → Prop} (H : HouseAt S h bs rs) (ho : ∀ s ∈ rs, s.o ≠ []) (hl : rs.length ≤ 1000) (hs : S[self]? = some (.ins 1 [])) (hne : self ≠ h)
    (hQ : ∀ S' dn, Fr [self] S S' → RunAt S' self h dn (begins rs) [] → S.length ≤ dn → Q .non S') : wpE (m_Run_init0 [.ref self, .ref h] S) Q := by
  simp [m_Run_init0, b_Run_init0, startD, hs, putD]
  have hsl := lt_of_at hs
  have H1 : HouseAt (S.set self (.ins 1 [.ref h])) h bs rs := by
    obtain ⟨b, r, h1, h2, h3⟩ := H
    have g : ∀ c v, S[c]? = some v → v ≠ Cell.ins 1 [] → (S.set self (.ins 1 [.ref h]))[c]? = some v := fun c v e ne => (Fr.set (S := S)).at e (by
      simp only [List.mem_singleton]
      intro z
      subst z
      rw [hs] at e
      cases e
      exact ne rfl)
    exact ⟨b, r, g _ _ h1 (by simp), g _ _ h2 (by simp), g _ _ h3 (by simp)⟩
  refine sp_beginning H1 ho (by omega) fun S1 f1 => ?_
  have e1 : S1[self]? = some (.ins 1 [.ref h]) := f1.at0 (set_at hsl)
  simp [e1]
  refine wpO_newL fun S2 n f2 e2 l2 hS2 => ?_
  have hl1 : S1.length = (S1.set self (.ins 1 [.ref h, picD (begins rs)])).length := by simp
  have e3 : S2[self]? = some (.ins 1 [.ref h, picD (begins rs)]) := f2.at0 (set_at (lt_of_at e1))
  simp only [List.length_set] at l2
  have hn : self < n := Nat.lt_of_lt_of_le (lt_of_at e1) l2
  have key : wpE (ok (D.ref self) S2) fun o S2' => ∃ a ds, o = .ref a ∧ S2'[a]? = some (.ins 1 ds) ∧ ∃ ds', putD 2 (.ref n) ds = some ds' ∧ Q .non (S2'.set a (.ins 1 ds')) := by
    refine ⟨self, _, rfl, e3, _, rfl, ?_⟩
    refine hQ _ n ?_ ⟨set_at (lt_of_at e3), (Fr.set (S := S2)).at e2 (by simp; omega), Nat.ne_of_lt hn⟩ ?_
    · have a1 : Fr [self] S S1 := Fr.set.trans f1.nil
      have a2 : Fr [self] S1 S2 := Fr.set.trans f2.nil
      exact a1.trans (a2.trans Fr.set)
    · have := f1.1
      simp at this
      omega
  obtain ⟨a, ds, h1, h2, ds', h3, h4⟩ := key
  cases h1
  rw [e3] at h2
  cases h2
  refine ⟨_, e3, _, rfl, ?_⟩
  cases h3
  exact h4
theorem sp_change {S : Store} {h r dn : Nat} {bs : List Int} {rs : List Svc} {p : Pic} {evs : List (Bool × Int)} {e : Bool × Int} {Q : D → Store → Prop} (H : HouseAt S h bs rs) (hr : ∀ s ∈ rs, PyData.strOk s.r = true) (hl : rs.length ≤ 1000) (ok : PicOk rs p) (R : RunAt S r h dn p evs) (he : evs.length < 1000000)
    (hQ : ∀ S', Fr [r, dn] S S' → RunAt S' r h dn (behind rs p e.1 e.2) (evs ++ [e]) → Q .non S') : wpE (m_Run_change [.ref r, evD e] S) Q := by
  obtain ⟨r1, r2, r3⟩ := R
  simp [m_Run_change, b_Run_change, startD, r1]
  refine sp_behind H hr hl ok fun S1 f1 => ?_
  have e1 := f1.at0 r1
  have e2 := f1.at0 r2
  simp [e1, putD, set_at (lt_of_at e1), wpE_mtL]
  have f2 : Fr [r] S1 (S1.set r (.ins 1 [.ref h, picD (behind rs p e.1 e.2), .ref dn])) := Fr.set
  have e3 := f2.at e2 (by simp [Ne.symm r3])
  refine ⟨⟨_, lstD_ref e3⟩, ?_⟩
  rw [wpO_append e3 (by simpa using he)]
  refine hQ _ (f1.trans2 (y := [r, dn]) ((f2.mono (y := [r, dn]) (by simp)).trans (Fr.set.mono (by simp))) (by simp) (by simp)) ⟨?_, ?_, r3⟩
  · exact (Fr.set (c := dn)).at (set_at (lt_of_at e1)) (by simp [r3])
  · rw [set_at (lt_of_at e3)]
    simp
/-- run_of: J is kept by each event -/
theorem sp_run_of {S : Store} {h c : Nat} {bs : List Int} {rs : List Svc} {evs : List (Bool × Int)} {Q : D → Store → Prop} (J : Nat → Pic → Prop) (H : HouseAt S h bs rs) (ho : ∀ s ∈ rs, s.o ≠ []) (hr : ∀ s ∈ rs, PyData.strOk s.r = true) (hl : rs.length ≤ 1000) (hc : S[c]? = some (.lst (evs.map evD))) (he : evs.length < 1000000)
    (j0 : J 0 (begins rs)) (js : ∀ i p e, evs[i]? = some e → J i p → PicOk rs p ∧ J (i + 1) (behind rs p e.1 e.2))
    (hQ : ∀ S' r dn p, Fr [] S S' → RunAt S' r h dn p evs → J evs.length p → S.length ≤ r → S.length ≤ dn → Q (.ref r) S') : wpE (m_run_of [.ref h, .ref c] S) Q := by
  simp only [m_run_of, b_run_of, wpE_def, wpS_seq, wpS_for, startD]
  simp [gN]
  have hhl : h < S.length := by obtain ⟨b, r, h1, _⟩ := H; exact lt_of_at h1
  have f0 : Fr [] S (S ++ [.ins 1 []]) := Fr.app
  refine sp_run_init (H.to f0) ho hl (by simp) (by omega) fun S1 dn f1 R1 l1 => ?_
  have g1 : Fr [] S S1 := f0.trans2 f1 (by simp) (fun c hc hlt => by simp at hc; omega)
  have hc1 := g1.at0 hc
  simp only [List.length_append, List.length_singleton] at l1
  refine ⟨rfl, _, itOf_ref hc1, ?_⟩
  refine ⟨_, items_ref hc1, ?_⟩
  have hcl := lt_of_at hc
  refine wpS_forGo (fun i ρ S' => Fr [S.length, dn] S1 S' ∧ (∃ p, RunAt S' S.length h dn p (evs.take i) ∧ J i p) ∧ ∃ x, ρ = [some (.ref h), some (.ref c), some (.ref S.length), x]) _
    (fun i ρ S' hh _ => items_ref (hh.1.at hc1 (by simp; omega))) (fun i ρ S' x hh hx => ?_) (fun ρ S' hh => ?_) _ 0 _ S1 ⟨Fr.refl, ⟨_, by simpa using R1, j0⟩, none, rfl⟩ (by simp)
  · obtain ⟨fr, ⟨p, R, jp⟩, y, rfl⟩ := hh
    rw [List.getElem?_map] at hx
    cases e : evs[i]? with
    | none => rw [e] at hx; cases hx
    | some ev =>
      rw [e] at hx
      cases hx
      obtain ⟨ok, jn⟩ := js i p ev e jp
      refine ⟨_, rfl, ?_⟩
      simp [R.1]
      have H' : HouseAt S' h bs rs := by
        obtain ⟨b, r, h1, h2, h3⟩ := H
        have a1 := lt_of_at h1
        have a2 := lt_of_at h2
        have a3 := lt_of_at h3
        exact ⟨b, r, fr.at (g1.at0 h1) (by simp; omega), fr.at (g1.at0 h2) (by simp; omega), fr.at (g1.at0 h3) (by simp; omega)⟩
      refine sp_change H' hr hl ok R (by simp; omega) fun S2 f2 R2 => ?_
      have ht : evs.take (i + 1) = evs.take i ++ [ev] := by rw [List.take_add_one, e]; rfl
      rw [← ht] at R2
      exact ⟨fr.trans f2, _, _, R2, jn⟩
  · obtain ⟨fr, ⟨p, R, jp⟩, y, rfl⟩ := hh
    simp only [List.length_map, List.take_length] at R jp
    simp
    exact hQ S' _ dn p (g1.trans2 fr (by simp) (fun c hc hlt => by simp at hc; omega)) R jp (Nat.le_refl _) (by omega)

/-! ### a house is made -/
open PySem.W in
theorem tupD_eq (xs : List Int) : (Datum.toD (⟨xs⟩ : Tup Int)) = PyData.tuple (xs.map .int) := rfl
theorem wpO_eqT {S : Store} {xs ys : List Int} {Q : D → Store → Prop} : wpO (eqD (.tup (xs.map .int)) (.tup (ys.map .int)) S) Q ↔ Q (.bl (decide (xs = ys))) S := by
  rw [wpO_eq (α := PySem.W.Tup Int) (a := ⟨xs⟩) (c := ⟨ys⟩) (toP_ints 58 xs) (toP_ints 58 ys)]
  simp
theorem wpO_neT {S : Store} {xs ys : List Int} {Q : D → Store → Prop} : wpO (neD (.tup (xs.map .int)) (.tup (ys.map .int)) S) Q ↔ Q (.bl (decide (xs ≠ ys))) S := by
  rw [wpO_ne (α := PySem.W.Tup Int) (a := ⟨xs⟩) (c := ⟨ys⟩) (toP_ints 58 xs) (toP_ints 58 ys)]
  simp
theorem nubI_of {xs : List Int} (h : xs.Nodup) : nubI xs = xs := by
  induction xs with
  | nil => rfl
  | cons x xs ih =>
    obtain ⟨h1, h2⟩ := List.nodup_cons.mp h
    show (if x ∈ xs then _ else _) = _
    rw [if_neg h1, ih h2]
structure OrdOk (n : Nat) (o : List Int) : Prop where
  ne : o ≠ []
  lo : ∀ m ∈ o, 0 ≤ m ∧ m ≤ (n : Int) - 1
  nd : o.Nodup
  few : o.length ≤ 1000
theorem sp_is_order {S : Store} {n : Nat} {o : List Int} {Q : D → Store → Prop} (ok : OrdOk n o) (hQ : ∀ S', Fr [] S S' → Q (.bl true) S') : wpE (m_is_order [.tup (o.map .int), .int (n : Int)] S) Q := by
  simp only [m_is_order, b_is_order, wpE_def, startD]
  have e0 : (D.tup []) = D.tup (([] : List Int).map .int) := rfl
  simp [kdD, isKT, wpE_lc, itOf, items]
  rw [e0, wpO_eqT]
  simp [ok.ne]
  refine ⟨by have := ok.few; omega, ?_⟩
  refine lc_all o rfl .int (fun _ => .bl true) (fun S f => by simp [items]) (fun m S1 hm f => ?_) fun S1 f1 => ?_
  · refine ⟨_, rfl, ?_⟩
    simp [wipeD]
    refine sp_is_number ?_
    have := ok.lo m hm
    simp [Fr.refl, this]
  · refine wpO_newL fun S2 c f2 e2 l2 _ => ?_
    have e2' : S2[c]? = some (.lst ((o.map fun _ => true).map .bl)) := by rw [e2]; simp [Function.comp_def]
    rw [wpO_allL e2']
    simp [eLenSet, intsD_map, ok.few, nubI_of ok.nd]
    exact hQ S2 (f1.trans f2)
structure SvcOk (n : Nat) (s : Svc) : Prop where
  w : 1 ≤ s.w ∧ s.w ≤ 1000000000
  o : OrdOk n s.o
  r : s.r = "first" ∨ s.r = "home" ∨ s.r = "stay"
theorem SvcOk.str {n : Nat} {s : Svc} (h : SvcOk n s) : PyData.strOk s.r = true := by
  rcases h.r with e | e | e <;> rw [e]
  · exact ok_first
  · exact ok_home
  · exact ok_stay
theorem sp_in_rules {S : Store} {r : Str} {Q : D → Store → Prop} (h : r = "first" ∨ r = "home" ∨ r = "stay") (hQ : Q (.bl true) S) : wpO (inD false (.str r) (.wtup ((["first", "home", "stay"] : List Str).map .str)) S) Q := by
  have hok : ∀ x ∈ (["first", "home", "stay"] : List Str), PyData.strOk x = true := by
    intro x hx
    simp only [List.mem_cons, List.not_mem_nil, or_false] at hx
    rcases hx with e | e | e <;> rw [e]
    · exact ok_first
    · exact ok_home
    · exact ok_stay
  have hr : PyData.strOk r = true := by
    rcases h with e | e | e <;> rw [e]
    · exact ok_first
    · exact ok_home
    · exact ok_stay
  have e1 : toP S 60 (.wtup ((["first", "home", "stay"] : List Str).map .str)) = some (.tuple ((["first", "home", "stay"] : List Str).map PyData.str)) := by
    show (toPs (toP S 59) _).map PyData.tuple = _
    simp [toPs, strOk_of _ ok_first, strOk_of _ ok_home, strOk_of _ ok_stay]
  unfold inD
  rw [e1, strOk_of r hr]
  rw [wpO_def]
  show Q (.bl (((["first", "home", "stay"] : List Str).map PyData.str).any fun z => PyData.eqv z (.str r))) S
  rw [show (((["first", "home", "stay"] : List Str).map PyData.str).any fun z => PyData.eqv z (.str r)) = decide (r ∈ (["first", "home", "stay"] : List Str)) from any_eq _ r]
  simpa [h] using hQ
theorem sp_is_service {S : Store} {n : Nat} {s : Svc} {Q : D → Store → Prop} (ok : SvcOk n s) (hQ : ∀ S', Fr [] S S' → Q (.bl true) S') : wpE (m_is_service [svD s, .int (n : Int)] S) Q := by
  simp only [m_is_service, b_is_service, wpE_def, startD]
  simp [kdD, isKT, svD]
  rw [wpO_ixT (x := .int s.w) (by rw [atI0]; rfl)]
  refine sp_is_number ?_
  have := ok.w
  simp [this]
  rw [wpO_ixT (x := .tup (s.o.map .int)) (by rw [atI1]; rfl)]
  refine sp_is_order ok.o fun S1 f1 => ?_
  have e2 : ∀ (S : Store) (Q : D → Store → Prop), wpO (ixD (.tup [.int s.w, .tup (s.o.map .int), .str s.r]) (.int 2) S) Q ↔ Q (.str s.r) S := fun S Q => wpO_ixT (by rw [atI2]; rfl)
  simp [e2]
  have := sp_in_rules (S := S1) (Q := Q) ok.r (hQ S1 f1)
  simpa using this
theorem HouseAt.thru {S S' : Store} {x : List Nat} {h : Nat} {bs : List Int} {rs : List Svc} (H : HouseAt S h bs rs) (f : Fr x S S') (hx : ∀ c ∈ x, S.length ≤ c) : HouseAt S' h bs rs := H.to (f.mono fun c hc hl => absurd hl (Nat.not_lt.mpr (hx c hc)))
theorem sp_house {S : Store} {self s v : Nat} {bs : List Int} {rs : List Svc} {Q : D → Store → Prop} (hs : S[self]? = some (.ins 0 [])) (h1 : S[s]? = some (.lst (bs.map .int))) (h2 : S[v]? = some (.lst (rs.map svD)))
    (hb : 1 ≤ bs.length ∧ bs.length ≤ 5) (hbs : ∀ b ∈ bs, 0 ≤ b ∧ b ≤ 10000000000) (hr : rs.length ≤ 5) (hrs : ∀ r ∈ rs, SvcOk bs.length r)
    (hQ : ∀ S', Fr [self] S S' → HouseAt S' self bs rs → Q .non S') : wpE (m_House_init0 [.ref self, .ref s, .ref v] S) Q := by
  have ns : s ≠ self := fun e => by rw [e, hs] at h1; cases h1
  have nv : v ≠ self := fun e => by rw [e, hs] at h2; cases h2
  simp only [m_House_init0, b_House_init0, wpE_def, startD, wpS_seq]
  simp [kdD, h1, isKT, wpO_lenL h1, wpE_lc, itOf, items]
  have a1 : (1 : Int) ≤ (bs.length : Int) := by omega
  have a2 : (bs.length : Int) ≤ 5 := by omega
  simp [a1, a2]
  refine ⟨by omega, ?_⟩
  refine lc_all bs rfl .int (fun _ => .bl true) (fun S' f => items_ref (f.at0 h1)) (fun m S1 hm f => ?_) fun S1 f1 => ?_
  · refine ⟨_, rfl, ?_⟩
    simp [wipeD]
    refine sp_is_number ?_
    have := hbs m hm
    simp [Fr.refl, this]
  refine wpO_newL fun S2 c f2 e2 l2 _ => ?_
  have e2' : S2[c]? = some (.lst ((bs.map fun _ => true).map .bl)) := by rw [e2]; simp [Function.comp_def]
  rw [wpO_allL e2']
  have f02 := f1.trans f2
  have h1' := f02.at0 h1
  have h2' := f02.at0 h2
  have hs' := f02.at0 hs
  have a3 : ¬ (5 : Int) < (rs.length : Int) := by omega
  simp [h2', wpO_lenL h2', a3, wpS_for, iEn, isLs, itOf, items]
  refine wpS_forGo (fun i ρ S' => Fr [] S2 S' ∧ ∃ x y, ρ = [some (.ref self), some (.ref s), some (.ref v), x, y, none]) (enumD 0 (rs.map svD)) (fun i ρ S' hh _ => by simp [items, hh.1.at0 h2']) (fun i ρ S' x hh hx => ?_) (fun ρ S' hh => ?_) _ 0 _ S2 ⟨Fr.refl, none, none, rfl⟩ (by simp [enumD_length])
  · obtain ⟨fr, x1, y1, rfl⟩ := hh
    obtain ⟨d, hd, rfl⟩ := enumD_get _ 0 i x hx
    rw [List.getElem?_map] at hd
    cases e : rs[i]? with
    | none => rw [e] at hd; cases hd
    | some r =>
      rw [e] at hd
      cases hd
      refine ⟨_, rfl, ?_⟩
      simp [wpO_lenL (fr.at0 h1')]
      refine sp_is_service (hrs r (List.mem_of_getElem? e)) fun S3 f3 => ?_
      simp
      exact fr.trans f3
  · obtain ⟨fr, x, y, rfl⟩ := hh
    have g1 := fr.at0 h1'
    have g2 := fr.at0 h2'
    have gs := fr.at0 hs'
    simp [wpO_listL g1]
    refine wpO_newL fun S4 b f4 e4 l4 _ => ?_
    have gs4 := f4.at0 gs
    simp [gs4, putD]
    have q2 : (S4.set self (.ins 0 [.ref b]))[v]? = some (.lst (rs.map svD)) := Fr.set.at (f4.at0 g2) (by simp [nv])
    rw [wpO_listL q2]
    refine wpO_newL fun S5 r f5 e5 l5 _ => ?_
    have gs5 : S5[self]? = some (.ins 0 [.ref b]) := f5.at0 (set_at (lt_of_at gs4))
    have sl := lt_of_at gs
    have bl := lt_of_at e4
    simp only [List.length_set] at l5
    refine ⟨_, gs5, _, rfl, ?_⟩
    refine hQ _ ?_ ⟨b, r, set_at (lt_of_at gs5), ?_, ?_⟩
    · have f : Fr [self] S S' := (f02.trans fr).nil
      exact f.trans (f4.nil.trans (Fr.set.trans (f5.nil.trans Fr.set)))
    · refine Fr.set.at (f5.at0 (Fr.set.at e4 ?_)) ?_ <;> simp <;> omega
    · refine Fr.set.at e5 ?_
      simp
      omega
end Dl
set_option Elab.async false
set_option linter.all false
set_option maxRecDepth 100000
set_option maxHeartbeats 2000000
namespace Dl
open PySem PySem.Spec
open L2 (atI ixN)
/-! ### is_history -/
theorem wpO_neB {S : Store} {a b : Bool} {Q : D → Store → Prop} : wpO (neD (.bl a) (.bl b) S) Q ↔ Q (.bl (decide (a ≠ b))) S := wpO_ne (α := Bool) rfl rfl
theorem wpO_eqB {S : Store} {a b : Bool} {Q : D → Store → Prop} : wpO (eqD (.bl a) (.bl b) S) Q ↔ Q (.bl (decide (a = b))) S := wpO_eq (α := Bool) rfl rfl
theorem evD0 {S : Store} {e : Bool × Int} {Q : D → Store → Prop} : wpO (ixD (evD e) (.int 0) S) Q ↔ Q (.str (deed e.1)) S := wpO_ixT (by rw [atI0]; rfl)
theorem evD1 {S : Store} {e : Bool × Int} {Q : D → Store → Prop} : wpO (ixD (evD e) (.int 1) S) Q ↔ Q (.int e.2) S := wpO_ixT (by rw [atI1]; rfl)
theorem deed_rise (f : Bool) : decide (deed f = "rise") = !f := by cases f <;> decide
theorem sp_nin_deeds {S : Store} {f : Bool} {Q : D → Store → Prop} : wpO (inD true (.str (deed f)) (.tup [.str "fall", .str "rise"]) S) Q ↔ Q (.bl false) S := by
  have e1 : toP S 60 (.tup [.str "fall", .str "rise"]) = some (.tuple ((["fall", "rise"] : List Str).map PyData.str)) := by
    show (toPs (toP S 59) _).map PyData.tuple = _
    simp [toPs, strOk_of _ ok_fall, strOk_of _ ok_rise]
  unfold inD
  rw [e1, strOk_of _ (ok_deed f)]
  rw [wpO_def]
  show Q (.bl (!((["fall", "rise"] : List Str).map PyData.str).any fun z => PyData.eqv z (.str (deed f)))) S ↔ _
  rw [show (((["fall", "rise"] : List Str).map PyData.str).any fun z => PyData.eqv z (.str (deed f))) = decide (deed f ∈ (["fall", "rise"] : List Str)) from any_eq _ _]
  have : deed f ∈ (["fall", "rise"] : List Str) := by cases f <;> simp [deed]
  simp [this]
def histGo (n : Nat) (most : Int) : List Int → List (Bool × Int) → Bool
  | _, [] => true
  | down, (f, m) :: es => if ¬ (0 ≤ m ∧ m ≤ (n : Int) - 1) then false else if f = decide (m ∈ down) then false else
    if most < ((if f = true then down ++ [m] else down.filter fun k => decide (k ≠ m)).length : Int) then false else histGo n most (if f = true then down ++ [m] else down.filter fun k => decide (k ≠ m)) es
theorem histGo_cons {n : Nat} {most : Int} {down : List Int} {e : Bool × Int} {es : List (Bool × Int)} : histGo n most down (e :: es) = if ¬ (0 ≤ e.2 ∧ e.2 ≤ (n : Int) - 1) then false else if e.1 = decide (e.2 ∈ down) then false else
    if most < ((if e.1 = true then down ++ [e.2] else down.filter fun k => decide (k ≠ e.2)).length : Int) then false else histGo n most (if e.1 = true then down ++ [e.2] else down.filter fun k => decide (k ≠ e.2)) es := rfl
theorem sp_is_history {S : Store} {h c : Nat} {most : Int} {bs : List Int} {rs : List Svc} {evs : List (Bool × Int)} {Q : D → Store → Prop} (H : HouseAt S h bs rs) (hb : bs.length ≤ 1000) (hc : S[c]? = some (.lst (evs.map evD))) (he : evs.length < 1000000)
    (hQ : ∀ S', Fr [] S S' → Q (.bl (histGo bs.length most [] evs)) S') : wpE (m_is_history [.ref h, .ref c, .int most] S) Q := by
  simp only [m_is_history, b_is_history, wpE_def, startD, wpS_seq]
  simp [kdD, hc, isKT, gN]
  refine wpO_newL fun S1 n1 f1 e1 l1 _ => ?_
  have hc1 := f1.at0 hc
  simp only [wpS_for]
  simp
  refine ⟨_, itOf_ref hc1, _, items_ref hc1, ?_⟩
  refine wpS_forGo (fun i ρ S' => Fr [] S S' ∧ ∃ down dl x y, ρ = [some (.ref h), some (.ref c), some (.int most), some (.ref dl), x, y] ∧ S'[dl]? = some (.lst (down.map .int)) ∧ down.length ≤ i ∧ histGo bs.length most [] evs = histGo bs.length most down (evs.drop i)) _
    (fun i ρ S' hh _ => items_ref (hh.1.at0 hc)) (fun i ρ S' x hh hx => ?_) (fun ρ S' hh => ?_) _ 0 _ S1 ⟨f1, [], n1, none, none, rfl, by simpa using e1, Nat.le_refl _, by simp⟩ (by simp)
  · obtain ⟨fr, down, dl, x1, y1, rfl, ed, hdl, hg⟩ := hh
    rw [List.getElem?_map] at hx
    cases e : evs[i]? with
    | none => rw [e] at hx; cases hx
    | some ev =>
      rw [e] at hx
      cases hx
      have hi := (List.getElem?_eq_some_iff.mp e).1
      have hdr : evs.drop i = ev :: evs.drop (i + 1) := by
        rw [List.drop_eq_getElem_cons hi]
        rw [(List.getElem?_eq_some_iff.mp e).2]
      rw [hdr, histGo_cons] at hg
      refine ⟨_, rfl, ?_⟩
      have k1 : ∀ S : Store, kdD (evD ev) S = some .kTuple := fun _ => rfl
      have k2 : ∀ S : Store, kdD (.str (deed ev.1)) S = some .kStr := fun _ => rfl
      have l2 : ∀ (S : Store) (Q : D → Store → Prop), wpO (lenA [evD ev] S) Q ↔ Q (.int 2) S := fun _ _ => wpO_def
      have H' := H.to fr
      obtain ⟨hb1, hr1, q1, q2, q3⟩ := id H'
      simp [k1, l2, evD0, evD1, k2, isKT, sp_nin_deeds, q1]
      refine sp_hlen H' ?_
      refine ⟨bs.length, rfl, by omega, by omega, ?_⟩
      refine sp_is_number ?_
      by_cases c1 : 0 ≤ ev.2 ∧ ev.2 ≤ (bs.length : Int) - 1
      · simp [c1]
        simp [wpO_eqS (ok_deed ev.1) ok_rise, deed_rise, wpO_inL ed, wpO_neB]
        by_cases c2 : ev.1 = decide (ev.2 ∈ down)
        · refine .inr ⟨c2, ?_⟩
          have hf : histGo bs.length most [] evs = false := by rw [hg, if_neg (fun z => z c1), if_pos c2]
          rw [hf] at hQ
          exact hQ S' fr
        · refine .inl ⟨c2, ?_⟩
          rw [if_neg (fun z => z c1), if_neg c2] at hg
          simp [wpO_eqS (ok_deed ev.1) ok_fall, deed_fall]
          have fin : ∀ (S2 : Store) (n2 : Nat) (d2 : List Int), Fr [] S' S2 → S2[n2]? = some (.lst (d2.map .int)) → d2.length ≤ i + 1 → d2 = (if ev.1 = true then down ++ [ev.2] else down.filter fun k => decide (k ≠ ev.2)) →
              (most < (d2.length : Int) ∧ Q (.bl false) S2) ∨ (¬ most < (d2.length : Int) ∧ histGo bs.length most [] evs = histGo bs.length most d2 (evs.drop (i + 1))) := fun S2 n2 d2 f2 e2 _ hd => by
            rw [← hd] at hg
            by_cases c3 : most < (d2.length : Int)
            · rw [if_pos c3] at hg
              have := hQ S2 (fr.trans f2)
              rw [hg] at this
              exact .inl ⟨c3, this⟩
            · rw [if_neg c3] at hg
              exact .inr ⟨c3, hg⟩
          cases hf : ev.1 with
          | true =>
            rw [hf] at fin
            simp only [if_true] at fin
            simp
            refine wpO_newL fun S2 n2 f2 e2 l2 _ => ?_
            rw [wpO_addL (f2.at0 ed) e2 (by simp; omega)]
            refine wpO_newL fun S3 n3 f3 e3 l3 _ => ?_
            have e3' : S3[n3]? = some (.lst ((down ++ [ev.2]).map .int)) := by rw [e3]; simp
            rw [wpO_lenL e3']
            rcases fin S3 n3 (down ++ [ev.2]) (f2.trans f3) e3' (by simp; omega) rfl with ⟨z1, z2⟩ | ⟨z1, z2⟩
            · simp only [List.length_map, wpO_gt]
              exact .inr ⟨by simpa using z1, z2⟩
            · simp only [List.length_map, wpO_gt]
              exact .inl ⟨by simpa using z1, fr.trans (f2.trans f3), _, n3, rfl, e3', by simp; omega, z2⟩
          | false =>
            rw [hf] at fin
            simp only [Bool.false_eq_true, if_false] at fin
            simp
            rw [wpE_lc]
            simp
            refine ⟨_, itOf_ref ed, _, items_ref ed, by simp; omega, ?_⟩
            refine lc_map down (by simp) .int (fun k => decide (k ≠ ev.2)) .int (fun S f => items_ref (f.at0 ed)) (fun k S2 hk f => ?_) fun S2 f2 => ?_
            · refine ⟨_, rfl, ?_⟩
              simp [wipeD, evD1, Fr.refl]
            refine wpO_newL fun S3 n3 f3 e3 l3 _ => ?_
            rw [wpO_lenL e3]
            have hle : (down.filter fun k => decide (k ≠ ev.2)).length ≤ down.length := List.length_filter_le _ _
            rcases fin S3 n3 _ (f2.trans f3) e3 (by omega) rfl with ⟨z1, z2⟩ | ⟨z1, z2⟩
            · simp only [List.length_map, wpO_gt]
              exact .inr ⟨by simpa using z1, z2⟩
            · simp only [List.length_map, wpO_gt]
              exact .inl ⟨by simpa using z1, fr.trans (f2.trans f3), _, n3, rfl, e3, by omega, z2⟩
      · have hf : histGo bs.length most [] evs = false := by rw [hg, if_pos c1]
        rw [hf] at hQ
        simp [c1]
        exact hQ S' fr
  · obtain ⟨fr, down, dl, x1, y1, rfl, ed, hdl, hg⟩ := hh
    simp at hg
    have : histGo bs.length most [] evs = true := by rw [hg]; rfl
    rw [this] at hQ
    exact hQ S' fr
end Dl
set_option Elab.async false
set_option linter.all false
set_option maxRecDepth 100000
set_option maxHeartbeats 2000000
namespace Dl
open PySem PySem.Spec
open L2 (atI ixN)
/-! ### moves, loads, surges -/
theorem sp_picture {S : Store} {r h dn : Nat} {p : Pic} {evs : List (Bool × Int)} {Q : D → Store → Prop} (R : RunAt S r h dn p evs) (hQ : Q (picD p) S) : wpE (m_Run_picture [.ref r] S) Q := by
  simp [m_Run_picture, b_Run_picture, startD, R.1]
  exact hQ
theorem HouseAt.run {S S1 S' : Store} {r dn h : Nat} {bs : List Int} {rs : List Svc} (H : HouseAt S h bs rs) (g : Fr [] S S1) (f : Fr [r, dn] S1 S') (h1 : S.length ≤ r) (h2 : S.length ≤ dn) : HouseAt S' h bs rs :=
  H.thru (g.trans2 (z := [r, dn]) f (by simp) (fun c hc _ => hc)) (fun c hc => by simp at hc; omega)
theorem sp_moves {S : Store} {h c k : Nat} {bs : List Int} {rs : List Svc} {evs : List (Bool × Int)} {Q : D → Store → Prop} (J : Nat → Pic → Int → Prop) (H : HouseAt S h bs rs) (ho : ∀ s ∈ rs, s.o ≠ []) (hr : ∀ s ∈ rs, PyData.strOk s.r = true) (hl : rs.length ≤ 1000) (hc : S[c]? = some (.lst (evs.map evD))) (he : evs.length < 1000000)
    (j0 : J 0 (begins rs) 0) (js : ∀ i p n e, evs[i]? = some e → J i p n → PicOk rs p ∧ ∃ a b, p.2[k]? = some a ∧ (behind rs p e.1 e.2).2[k]? = some b ∧ J (i + 1) (behind rs p e.1 e.2) (n + if b = a then 0 else 1))
    (hQ : ∀ S' p n, Fr [] S S' → J evs.length p n → Q (.int n) S') : wpE (m_moves [.ref h, .int (k : Int), .ref c] S) Q := by
  simp only [m_moves, b_moves, wpE_def, startD, wpS_seq, wpS_for]
  simp
  have hhl : h < S.length := by obtain ⟨b, r, h1, _⟩ := H; exact lt_of_at h1
  have f0 : Fr [] S (S ++ [.ins 1 []]) := Fr.app
  refine sp_run_init (H.to f0) ho hl (by simp) (by omega) fun S1 dn f1 R1 l1 => ?_
  have g1 : Fr [] S S1 := f0.trans2 f1 (by simp) (fun c hc hlt => by simp at hc; omega)
  have hc1 := g1.at0 hc
  have hcl := lt_of_at hc
  simp only [List.length_append, List.length_singleton] at l1
  refine ⟨rfl, _, itOf_ref hc1, _, items_ref hc1, ?_⟩
  refine wpS_forGo (fun i ρ S' => Fr [S.length, dn] S1 S' ∧ ∃ p n x y, ρ = [some (.ref h), some (.int (k : Int)), some (.ref c), some (.ref S.length), some (.int n), x, y] ∧ RunAt S' S.length h dn p (evs.take i) ∧ J i p n) _
    (fun i ρ S' hh _ => items_ref (hh.1.at hc1 (by simp; omega))) (fun i ρ S' x hh hx => ?_) (fun ρ S' hh => ?_) _ 0 _ S1 ⟨Fr.refl, _, 0, none, none, rfl, by simpa using R1, j0⟩ (by simp)
  · obtain ⟨fr, p, n, x1, y1, rfl, R, jp⟩ := hh
    rw [List.getElem?_map] at hx
    cases e : evs[i]? with
    | none => rw [e] at hx; cases hx
    | some ev =>
      rw [e] at hx
      cases hx
      obtain ⟨ok, a, b, ha, hb, jn⟩ := js i p n ev e jp
      have hi := (List.getElem?_eq_some_iff.mp e).1
      have ht : evs.take (i + 1) = evs.take i ++ [ev] := by rw [List.take_add_one, e]; rfl
      have H' := H.run g1 fr (Nat.le_refl _) (by omega)
      refine ⟨_, rfl, ?_⟩
      simp [R.1]
      refine sp_picture R ?_
      rw [picD1, wpO_ixT (x := .int a) (by rw [atI_nat, List.getElem?_map, ha]; rfl)]
      refine ⟨⟨_, R.1⟩, ?_⟩
      refine sp_change H' hr hl ok R (by simp; omega) fun S2 f2 R2 => ?_
      refine ⟨⟨_, R2.1⟩, ?_⟩
      refine sp_picture R2 ?_
      rw [picD1, wpO_ixT (x := .int b) (by rw [atI_nat, List.getElem?_map, hb]; rfl)]
      simp
      refine ⟨fr.trans f2, ?_⟩
      rw [← ht] at R2
      exact ⟨_, _, R2, jn⟩
  · obtain ⟨fr, p, n, x1, y1, rfl, R, jp⟩ := hh
    simp
    exact hQ S' p n (g1.trans2 fr (by simp) (fun c hc hlt => by simp at hc; omega)) (by simpa using jp)
def loadOf (rs : List Svc) (p : Pic) (m : Int) : Int := (((rs.zip p.2).filter fun q => decide (q.2 = m)).map fun q => q.1.w).sum
theorem sp_load_in {S : Store} {h : Nat} {bs : List Int} {rs : List Svc} {p : Pic} {m : Int} {Q : D → Store → Prop} (H : HouseAt S h bs rs) (hl : rs.length ≤ 1000) (hQ : ∀ S', Fr [] S S' → Q (.int (loadOf rs p m)) S') : wpE (m_load_in [.ref h, picD p, .int m] S) Q := by
  obtain ⟨b, r, h1, _⟩ := id H
  simp only [m_load_in, b_load_in, wpE_def, startD]
  simp [wpE_lc, wpE_iZp, h1]
  refine sp_services H fun S1 n1 f1 e1 l1 => ?_
  rw [picD1]
  refine ⟨_, _, ⟨rfl, rfl⟩, _, itOf_ref e1, _, rfl, ?_⟩
  have hz : ∀ S' : Store, Fr [] S1 S' → items (.zp (.lst n1) (.fix (p.2.map .int))) S' = some ((rs.zip p.2).map fun q => .wtup [svD q.1, .int q.2]) := fun S' f => by
    simp [items, f.at0 e1, zipD_map]
  refine ⟨_, hz S1 Fr.refl, by simp; omega, ?_⟩
  refine lc_map (rs.zip p.2) (by simp) (fun q => .wtup [svD q.1, .int q.2]) (fun q => decide (q.2 = m)) (fun q => .int q.1.w) hz (fun q S' hq f => ?_) fun S2 f2 => ?_
  · refine ⟨_, rfl, ?_⟩
    simp [wipeD, svD0, Fr.refl]
  refine wpO_newL fun S3 n3 f3 e3 l3 _ => ?_
  have e3' : S3[n3]? = some (.lst (((((rs.zip p.2).filter fun q => decide (q.2 = m)).map fun q => q.1.w)).map .int)) := by rw [e3]; simp [Function.comp_def]
  rw [wpO_sumL e3']
  exact hQ S3 (f1.trans (f2.trans f3))
def strainedOf (bs : List Int) (rs : List Svc) (p : Pic) : List Int := ((List.range bs.length).map fun (i : Nat) => (i : Int)).filter fun m => decide (m ∉ p.1) && decide (bs.getD m.toNat 0 < loadOf rs p m)
theorem rngD_map (n : Nat) : rngD 0 1 0 n = ((List.range n).map fun (i : Nat) => (i : Int)).map .int := by
  apply List.ext_getElem?
  intro i
  rw [List.getElem?_map, List.getElem?_map]
  by_cases h : i < n
  · rw [List.getElem?_range h]
    have hl : i < (rngD 0 1 0 n).length := by rw [rngD_length]; exact h
    rw [List.getElem?_eq_getElem hl]
    obtain ⟨_, e⟩ := rngD_get 0 1 n 0 i _ (List.getElem?_eq_getElem hl)
    rw [e]
    simp
  · rw [List.getElem?_eq_none (by rw [rngD_length]; omega), List.getElem?_eq_none (by simp; omega)]
    rfl
theorem sp_strained {S : Store} {h : Nat} {bs : List Int} {rs : List Svc} {p : Pic} {Q : D → Store → Prop} (H : HouseAt S h bs rs) (hb : bs.length ≤ 1000) (hl : rs.length ≤ 1000) (hQ : ∀ S', Fr [] S S' → Q (.tup ((strainedOf bs rs p).map .int)) S') : wpE (m_strained [.ref h, picD p] S) Q := by
  obtain ⟨hb0, hr0, h1, _⟩ := id H
  simp only [m_strained, b_strained, wpE_def, startD, wpS_seq, wpS_for]
  simp [h1]
  refine sp_strengths H fun S1 n1 f1 e1 l1 => ?_
  refine wpO_newL fun S2 n2 f2 e2 l2 _ => ?_
  have f02 := f1.trans f2
  have q1 := f1.1
  have H2 := H.to f02
  have h2 := f02.at0 h1
  simp [iRg1, h2]
  refine sp_hlen H2 ?_
  have a1 : (-1000000 : Int) ≤ (bs.length : Int) := by omega
  have a2 : (bs.length : Int) ≤ 1000000 := by omega
  simp [a1, a2, items]
  rw [rngD_map]
  have hb12 : n1 ≠ n2 := fun e => by have := lt_of_at e1; omega
  refine wpS_forGo (fun i ρ S' => Fr [n2] S2 S' ∧ (∃ x, ρ = [some (.ref h), some (picD p), some (.ref n1), some (.ref n2), x]) ∧ S'[n2]? = some (.lst (((((List.range bs.length).map fun (i : Nat) => (i : Int)).take i).filter fun m => decide (m ∉ p.1) && decide (bs.getD m.toNat 0 < loadOf rs p m)).map .int))) _
    (fun i ρ S' hh _ => rfl) (fun i ρ S' x hh hx => ?_) (fun ρ S' hh => ?_) _ 0 _ S2 ⟨Fr.refl, ⟨none, rfl⟩, by simpa using e2⟩ (by simp)
  · obtain ⟨fr, ⟨x1, rfl⟩, en⟩ := hh
    rw [List.getElem?_map, List.getElem?_map] at hx
    cases e : (List.range bs.length)[i]? with
    | none => rw [e] at hx; cases hx
    | some j =>
      rw [e] at hx
      cases hx
      obtain ⟨hi, hj⟩ := List.getElem?_eq_some_iff.mp e
      simp at hi hj
      subst hj
      have ht : ((List.range bs.length).map fun (i : Nat) => (i : Int)).take (i + 1) = ((List.range bs.length).map fun (i : Nat) => (i : Int)).take i ++ [(i : Int)] := by
        rw [List.take_add_one]
        simp [hi]
      refine ⟨_, rfl, ?_⟩
      have H' : HouseAt S' h bs rs := H.thru (f02.trans2 (z := [n2]) fr (by simp) (fun c hc _ => hc)) (fun c hc => by simp at hc; omega)
      have en1 : S'[n1]? = some (.lst (bs.map .int)) := fr.at (f2.at0 e1) (by simp [hb12])
      simp [picD0, wpO_ninT]
      by_cases c1 : (i : Int) ∈ p.1
      · simp [c1]
        refine ⟨fr, ?_⟩
        rw [ht]
        simpa [c1] using en
      · simp [c1]
        refine sp_load_in H' hl fun S3 f3 => ?_
        rw [wpO_ixL (f3.at0 en1) (x := .int (bs.getD i 0)) (by rw [atI_nat, List.getElem?_map]; simp [hi])]
        simp
        have en3 := f3.at0 en
        have fr3 : Fr [n2] S2 S3 := fr.trans f3.nil
        by_cases c2 : bs.getD i 0 < loadOf rs p i
        · have hsz : ((((List.range bs.length).map fun (i : Nat) => (i : Int)).take i).filter fun m => decide (m ∉ p.1) && decide (bs.getD m.toNat 0 < loadOf rs p m)).length ≤ i := Nat.le_trans (List.length_filter_le _ _) (by simp; omega)
          have c2' := c2
          simp at c2'
          simp [c2', wpE_mtL, lstD_ref en3]
          rw [wpO_append en3 (by simp only [List.length_map]; omega)]
          refine .inr ⟨fr3.trans Fr.set, ?_⟩
          rw [set_at (lt_of_at en3), ht]
          simp [c1, c2']
        · have c2' := c2
          simp at c2'
          have c3 : ¬ (bs[i]?.getD 0 < loadOf rs p i) := by omega
          simp [c3]
          rw [ht]
          refine ⟨by omega, fr3, ?_⟩
          simpa [c1, c3] using en3
  · obtain ⟨fr, ⟨x1, rfl⟩, en⟩ := hh
    simp
    have : ((List.range bs.length).map fun (i : Nat) => (i : Int)).take ((((List.range bs.length).map fun (i : Nat) => (i : Int)).map D.int).length) = (List.range bs.length).map fun (i : Nat) => (i : Int) := List.take_of_length_le (by simp)
    rw [this] at en
    rw [wpO_tupleL en]
    exact hQ S' (f02.trans2 fr (by simp) (fun c hc hlt => by simp at hc; omega))
end Dl
set_option Elab.async false
set_option linter.all false
set_option maxRecDepth 100000
set_option maxHeartbeats 2000000
namespace Dl
open PySem PySem.Spec
open L2 (atI ixN)
theorem wpS_while {S : Store} {ρ : Loc} {t : Tv} {u : Sv} {k : Nat} {N : Loc → Store → Prop} {R : D → Store → Prop} (h : wpE (t ρ S) fun b S1 => if b = true then wpS (u ρ S1) (fun ρ2 S2 => wpS (whGo t u k ρ2 S2) N R) R else N ρ S1) : wpS (whGo t u (k + 1) ρ S) N R := by
  unfold whGo
  rw [wpS_run]
  refine wpE.mono h fun b S1 h => ?_
  cases b with
  | false => simpa [wpS] using h
  | true =>
    simp only [if_true] at h ⊢
    match e : u ρ S1, h with
    | some (.nx ρ2, S2), h => exact h
    | some (.rt d, S2), h => exact h
theorem wpO_same {S : Store} {x y : D} {p : PyData} {Q : D → Store → Prop} (hx : toP S 60 x = some p) (hy : toP S 60 y = some p) (hl : p.canLay0 = true) (hQ : Q (.bl true) S) : wpO (eqD x y S) Q := by
  unfold eqD
  rw [hx, hy]
  rw [wpO_def]
  show Q (.bl (PyData.eqv p p)) S
  rw [SeqAt.eqv_refl p hl]
  exact hQ
/-! ## k07 -/
def rs0 : List Svc := [⟨4, [0, 1], "first"⟩, ⟨3, [0], "stay"⟩]
def bs0 : List Int := [9, 9]
def pA : Pic := ([], [0, 0])
def pB : Pic := ([0], [1, -1])
def alt (i : Nat) : Pic := if i % 2 = 0 then pA else pB
def evAt (i : Nat) : Bool × Int := (decide (i % 2 = 0), 0)
def hist (n : Nat) : List (Bool × Int) := (List.range n).map evAt
theorem sort01 : sortI [0] = [0] := rfl
theorem begins0 : begins rs0 = pA := rfl
theorem behindA : behind rs0 pA true 0 = pB := by decide +kernel
theorem behindB : behind rs0 pB false 0 = pA := by decide +kernel
theorem okA : PicOk rs0 pA := ⟨by decide, rfl, by decide⟩
theorem okB : PicOk rs0 pB := ⟨by decide, rfl, by decide⟩
theorem ok_alt (i : Nat) : PicOk rs0 (alt i) := by
  unfold alt
  split
  · exact okA
  · exact okB
theorem alt_next (i : Nat) : behind rs0 (alt i) (evAt i).1 (evAt i).2 = alt (i + 1) := by
  unfold alt evAt
  rcases Nat.mod_two_eq_zero_or_one i with h | h
  · have h2 : (i + 1) % 2 = 1 := by omega
    simp only [h, h2, if_true, decide_true]
    exact behindA
  · have h2 : (i + 1) % 2 = 0 := by omega
    simp only [h, h2, if_true]
    exact behindB
theorem hist_at {n i : Nat} {e : Bool × Int} (h : (hist n)[i]? = some e) : e = evAt i ∧ i < n := by
  unfold hist at h
  rw [List.getElem?_map] at h
  by_cases hi : i < n
  · rw [List.getElem?_range hi] at h
    cases h
    exact ⟨rfl, hi⟩
  · rw [List.getElem?_eq_none (by simpa using hi)] at h
    cases h
theorem hist_len (n : Nat) : (hist n).length = n := by simp [hist]
theorem rs0_ne : ∀ s ∈ rs0, s.o ≠ [] := by decide
theorem rs0_str : ∀ s ∈ rs0, PyData.strOk s.r = true := by decide +kernel
theorem sp_run7 {S : Store} {h c n : Nat} {Q : D → Store → Prop} (H : HouseAt S h bs0 rs0) (hc : S[c]? = some (.lst ((hist n).map evD))) (hn : n < 1000000)
    (hQ : ∀ S' r dn, Fr [] S S' → RunAt S' r h dn (alt n) (hist n) → S.length ≤ r → S.length ≤ dn → Q (.ref r) S') : wpE (m_run_of [.ref h, .ref c] S) Q :=
  sp_run_of (fun i p => p = alt i) H rs0_ne rs0_str (by decide) hc (by rw [hist_len]; exact hn) rfl (fun i p e he hp => by
    obtain ⟨rfl, _⟩ := hist_at he
    subst hp
    exact ⟨ok_alt i, alt_next i⟩) fun S' r dn p f R jp l1 l2 => by
    rw [hist_len] at jp
    subst jp
    exact hQ S' r dn f R l1 l2
theorem place_alt (k : Nat) (hk : k < 2) (i : Nat) : ∃ a b, (alt i).2[k]? = some a ∧ (alt (i + 1)).2[k]? = some b ∧ b ≠ a := by
  have h2 : k = 0 ∨ k = 1 := by omega
  unfold alt
  rcases Nat.mod_two_eq_zero_or_one i with h | h
  · have h3 : (i + 1) % 2 = 1 := by omega
    rcases h2 with rfl | rfl
    · exact ⟨0, 1, by simp [h, pA], by simp [h3, pB], by decide⟩
    · exact ⟨0, -1, by simp [h, pA], by simp [h3, pB], by decide⟩
  · have h3 : (i + 1) % 2 = 0 := by omega
    rcases h2 with rfl | rfl
    · exact ⟨1, 0, by simp [h, pB], by simp [h3, pA], by decide⟩
    · exact ⟨-1, 0, by simp [h, pB], by simp [h3, pA], by decide⟩
theorem sp_moves7 {S : Store} {h c n k : Nat} {Q : D → Store → Prop} (hk : k < 2) (H : HouseAt S h bs0 rs0) (hc : S[c]? = some (.lst ((hist n).map evD))) (hn : n < 1000000)
    (hQ : ∀ S', Fr [] S S' → Q (.int n) S') : wpE (m_moves [.ref h, .int (k : Int), .ref c] S) Q :=
  sp_moves (fun i p m => p = alt i ∧ m = (i : Int)) H rs0_ne rs0_str (by decide) hc (by rw [hist_len]; exact hn) ⟨rfl, rfl⟩ (fun i p m e he hp => by
    obtain ⟨rfl, _⟩ := hist_at he
    obtain ⟨rfl, rfl⟩ := hp
    obtain ⟨a, b, h1, h2, h3⟩ := place_alt k hk i
    rw [← alt_next i] at h2
    refine ⟨ok_alt i, a, b, h1, h2, alt_next i, ?_⟩
    rw [if_neg h3]
    omega) fun S' p m f jp => by
    obtain ⟨_, rfl⟩ := jp
    rw [hist_len]
    exact hQ S' f
/-- history ends -/
def downOf (i : Nat) : List Int := if i % 2 = 0 then [] else [0]
theorem histGo7 (most : Int) (hm : 1 ≤ most) : ∀ (k i : Nat) (es : List (Bool × Int)), histGo 2 most (downOf i) ((List.range' i k).map evAt ++ es) = histGo 2 most (downOf (i + k)) es
  | 0, i, es => rfl
  | k + 1, i, es => by
    rw [List.range'_succ, List.map_cons, List.cons_append, histGo_cons]
    have ih := histGo7 most hm k (i + 1) es
    have e : i + 1 + k = i + (k + 1) := by omega
    rw [e] at ih
    rw [if_neg (by simp [evAt])]
    rcases Nat.mod_two_eq_zero_or_one i with h | h
    · have h3 : (i + 1) % 2 = 1 := by omega
      have e1 : evAt i = (true, 0) := by simp [evAt, h]
      have e2 : downOf i = [] := by simp [downOf, h]
      have e3 : downOf (i + 1) = [0] := by simp [downOf, h3]
      rw [e3] at ih
      rw [e1, e2]
      rw [if_neg (by simp), if_neg (by simp; omega)]
      exact ih
    · have h3 : (i + 1) % 2 = 0 := by omega
      have e1 : evAt i = (false, 0) := by simp [evAt, h]
      have e2 : downOf i = [0] := by simp [downOf, h]
      have e3 : downOf (i + 1) = [] := by simp [downOf, h3]
      rw [e3] at ih
      rw [e1, e2]
      rw [if_neg (by simp), if_neg (by simp; omega)]
      exact ih
theorem hist_ok (most : Int) (hm : 1 ≤ most) (n : Nat) : histGo 2 most [] (hist n) = true := by
  have := histGo7 most hm n 0 []
  rw [List.append_nil] at this
  show histGo 2 most (downOf 0) ((List.range n).map evAt) = true
  rw [List.range_eq_range', this]
  rfl
theorem hist_bad (most : Int) (hm : 1 ≤ most) (m : Nat) : histGo 2 most [] (hist (2 * m) ++ [(false, 0)]) = false := by
  have := histGo7 most hm (2 * m) 0 [(false, 0)]
  show histGo 2 most (downOf 0) ((List.range (2 * m)).map evAt ++ [(false, 0)]) = false
  rw [List.range_eq_range', this]
  have h : downOf (0 + 2 * m) = [] := by simp [downOf]
  rw [h]
  rfl
theorem sp_surge7 {S : Store} {h c m : Nat} {Q : D → Store → Prop} (H : HouseAt S h bs0 rs0) (hc : S[c]? = some (.lst ((hist (2 * m)).map evD))) (hn : 2 * m < 1000000)
    (hQ : ∀ S' n, Fr [] S S' → S'[n]? = some (.lst [.tup [.int 0]]) → Q (.tup [.ref n, picD pB]) S') : wpE (m_surge [.ref h, .ref c, .tup [.int 0]] S) Q := by
  simp only [m_surge, b_surge, wpE_def, startD]
  simp
  refine sp_run7 H hc hn fun S1 r dn f1 R1 l1 l2 => ?_
  have ha : alt (2 * m) = pA := by simp [alt]
  rw [ha] at R1
  refine ⟨⟨_, rfl, _, R1.1⟩, sp_picture R1 ?_⟩
  simp only [m_surge_from, b_surge_from, wpE_def, startD, wpS_seq]
  simp
  refine wpO_newL fun S2 n2 f2 e2 l3 _ => ?_
  have f02 := f1.trans f2
  have H2 := H.to f02
  have z0 : D.tup [D.int 0] = .tup (([0] : List Int).map .int) := rfl
  have z1 : D.tup [] = .tup (([] : List Int).map .int) := rfl
  refine wpS_while (k := 999) ?_
  simp
  rw [z0, z1, wpO_neT]
  simp [wpS_for, itOf, items]
  refine wpS_forGo (fun i ρ S' => Fr [] S2 S' ∧ ∃ p x, (p = if i = 0 then pA else pB) ∧ ρ = [some (.ref h), some (picD p), some (.tup [.int 0]), some (.ref n2), some (.tup [.int 0]), x]) [D.int 0] (fun _ _ _ _ _ => rfl) (fun i ρ S' x hh hx => ?_) (fun ρ S' hh => ?_) 1 0 _ S2 ⟨Fr.refl, pA, none, rfl, rfl⟩ rfl
  · obtain ⟨fr, p, y, hp, rfl⟩ := hh
    cases i with
    | succ i => simp at hx
    | zero =>
      simp at hx hp
      subst hx
      subst hp
      refine ⟨_, rfl, ?_⟩
      simp
      have ev : D.tup [D.str "fall", D.int 0] = evD (true, 0) := rfl
      rw [ev]
      refine sp_behind (H2.to fr) rs0_str (by decide) okA fun S3 f3 => ?_
      rw [behindA]
      exact ⟨fr.trans f3, rfl⟩
  · obtain ⟨fr, p, y, hp, rfl⟩ := hh
    simp at hp
    subst hp
    have e3 := fr.at0 e2
    simp [wpE_mtL, lstD_ref e3]
    rw [wpO_append e3 (by simp)]
    have l4 := lt_of_at e3
    have fs : Fr [n2] S' (S'.set n2 (.lst ([] ++ [D.tup [D.int 0]]))) := Fr.set
    have fr0 : Fr [] S1 (S'.set n2 (.lst ([] ++ [D.tup [D.int 0]]))) := (f2.trans fr).trans2 (y := [n2]) fs (by simp) (fun c hc hlt => by simp at hc; omega)
    refine sp_strained (H.to (f1.trans fr0)) (by decide) (by decide) fun S4 f4 => ?_
    have st : strainedOf bs0 rs0 pB = [] := by decide +kernel
    rw [st]
    refine wpS_while (k := 998) ?_
    simp
    rw [z1, wpO_neT]
    simp
    exact hQ S4 n2 (f1.trans (fr0.trans f4)) (f4.at0 (by rw [set_at l4]; rfl))

/-! ### the desk -/
def stD (h : Nat) (p : Pic) : D := .tup [.ref h, picD p]
def DeskAt (S : Store) (d h : Nat) (ps : List Pic) : Prop := ∃ sl, S[d]? = some (.ins 2 [.int 1, .ref sl]) ∧ S[sl]? = some (.lst (ps.map (stD h)))
theorem DeskAt.to {S S' : Store} {d h : Nat} {ps : List Pic} (K : DeskAt S d h ps) (f : Fr [] S S') : DeskAt S' d h ps := let ⟨sl, h1, h2⟩ := K; ⟨sl, f.at0 h1, f.at0 h2⟩
theorem stD0 {S : Store} {h : Nat} {p : Pic} {Q : D → Store → Prop} : wpO (ixD (stD h p) (.int 0) S) Q ↔ Q (.ref h) S := wpO_ixT (by rw [atI0]; rfl)
theorem stD1 {S : Store} {h : Nat} {p : Pic} {Q : D → Store → Prop} : wpO (ixD (stD h p) (.int 1) S) Q ↔ Q (picD p) S := wpO_ixT (by rw [atI1]; rfl)
theorem atI_last {α : Type} {xs : List α} {a : α} : atI (xs ++ [a]) (-1) = some a := by
  unfold atI ixN
  simp
  rw [if_pos (by omega)]
  have : (-1 + ((xs.length : Int) + 1)).toNat = xs.length := by omega
  simp [this]
theorem sp_desk_init {S : Store} {self h : Nat} {Q : D → Store → Prop} (H : HouseAt S h bs0 rs0) (hs : S[self]? = some (.ins 2 [])) (hQ : ∀ S', Fr [self] S S' → DeskAt S' self h [pA] → Q .non S') : wpE (m_Desk_init0 [.ref self, .ref h, .int 1] S) Q := by
  have hsl := lt_of_at hs
  simp [m_Desk_init0, b_Desk_init0, startD, hs, putD]
  have H1 : HouseAt (S.set self (.ins 2 [.int 1])) h bs0 rs0 := by
    obtain ⟨b, r, h1, h2, h3⟩ := H
    have g : ∀ c v, S[c]? = some v → v ≠ Cell.ins 2 [] → (S.set self (.ins 2 [.int 1]))[c]? = some v := fun c v e ne => (Fr.set (S := S)).at e (by
      simp only [List.mem_singleton]
      intro z
      subst z
      rw [hs] at e
      cases e
      exact ne rfl)
    exact ⟨b, r, g _ _ h1 (by simp), g _ _ h2 (by simp), g _ _ h3 (by simp)⟩
  refine sp_beginning H1 rs0_ne (by decide) fun S1 f1 => ?_
  rw [begins0]
  refine wpO_newL fun S2 n f2 e2 l2 _ => ?_
  have e1 : S2[self]? = some (.ins 2 [.int 1]) := f2.at0 (f1.at0 (set_at hsl))
  have q1 := f1.1
  simp only [List.length_set] at q1
  refine ⟨_, e1, _, rfl, ?_⟩
  refine hQ _ ?_ ⟨n, set_at (lt_of_at e1), Fr.set.at e2 (by simp; omega)⟩
  have a1 : Fr [self] S S1 := Fr.set.trans f1.nil
  exact a1.trans (f2.nil.trans Fr.set)
theorem sp_desk_change {S : Store} {d h : Nat} {ps : List Pic} {p : Pic} {Q : D → Store → Prop} (K : DeskAt S d h ps) (hl : ps.length ≤ 1000) (hQ : ∀ S', Fr [d] S S' → DeskAt S' d h (ps ++ [p]) → Q .non S') : wpE (m_Desk_change [.ref d, .ref h, picD p] S) Q := by
  obtain ⟨sl, h1, h2⟩ := K
  simp [m_Desk_change, b_Desk_change, startD, h1]
  refine wpO_newL fun S1 n1 f1 e1 l1 _ => ?_
  rw [wpO_addL (f1.at0 h2) e1 (by simp; omega)]
  refine wpO_newL fun S2 n2 f2 e2 l2 _ => ?_
  have g := (f1.trans f2).at0 h1
  have hd := lt_of_at h1
  have q1 := f1.1
  simp [g, putD]
  refine hQ _ ((f1.trans f2).nil.trans Fr.set) ⟨n2, set_at (lt_of_at g), Fr.set.at (by rw [e2]; simp [stD]) (by simp; omega)⟩
/-- fall, rise at the desk's last picture -/
theorem sp_desk_fall {S : Store} {d h : Nat} {ps : List Pic} {Q : D → Store → Prop} (H : HouseAt S h bs0 rs0) (K : DeskAt S d h (ps ++ [pA])) (hl : ps.length ≤ 900) (hQ : ∀ S', Fr [d] S S' → DeskAt S' d h (ps ++ [pA] ++ [pB]) → Q .non S') : wpE (m_Desk_fall [.ref d, .int 0] S) Q := by
  obtain ⟨sl, h1, h2⟩ := id K
  have h2' : S[sl]? = some (.lst (ps.map (stD h) ++ [stD h pA])) := by rw [h2]; simp
  obtain ⟨hb, hr, q1, q2, q3⟩ := id H
  simp only [m_Desk_fall, b_Desk_fall, wpE_def, startD, wpS_seq]
  simp [h1]
  rw [wpO_ixL h2' atI_last]
  simp [stD, gsCons, q1]
  refine sp_hlen H ?_
  refine ⟨_, rfl, by decide, by decide, ?_⟩
  refine sp_is_number ?_
  simp [bs0, picD0, pA]
  have z : D.tup [] = .tup (([] : List Int).map .int) := rfl
  rw [z, wpO_inT]
  simp [h1]
  have ev : D.tup [D.str "fall", D.int 0] = evD (true, 0) := rfl
  rw [ev]
  refine sp_behind H rs0_str (by decide) okA fun S1 f1 => ?_
  rw [show behind rs0 ([], [0, 0]) true 0 = pB from behindA]
  exact sp_desk_change (K.to f1) (by simp; omega) fun S2 f2 K2 => hQ S2 (f1.nil.trans f2) K2
theorem sp_desk_rise {S : Store} {d h : Nat} {ps : List Pic} {Q : D → Store → Prop} (H : HouseAt S h bs0 rs0) (K : DeskAt S d h (ps ++ [pB])) (hl : ps.length ≤ 900) (hQ : ∀ S', Fr [d] S S' → DeskAt S' d h (ps ++ [pB] ++ [pA]) → Q .non S') : wpE (m_Desk_rise [.ref d, .int 0] S) Q := by
  obtain ⟨sl, h1, h2⟩ := id K
  have h2' : S[sl]? = some (.lst (ps.map (stD h) ++ [stD h pB])) := by rw [h2]; simp
  obtain ⟨hb, hr, q1, q2, q3⟩ := id H
  simp only [m_Desk_rise, b_Desk_rise, wpE_def, startD, wpS_seq]
  simp [h1]
  rw [wpO_ixL h2' atI_last]
  simp [stD, gsCons, q1]
  refine sp_hlen H ?_
  refine ⟨_, rfl, by decide, by decide, ?_⟩
  refine sp_is_number ?_
  simp [bs0, picD0, pB]
  have z : D.tup [D.int 0] = .tup (([0] : List Int).map .int) := rfl
  rw [z, wpO_ninT]
  simp [h1]
  have ev : D.tup [D.str "rise", D.int 0] = evD (false, 0) := rfl
  rw [ev]
  refine sp_behind H rs0_str (by decide) okB fun S1 f1 => ?_
  rw [show behind rs0 ([0], [1, -1]) false 0 = pA from behindB]
  exact sp_desk_change (K.to f1) (by simp; omega) fun S2 f2 K2 => hQ S2 (f1.nil.trans f2) K2
theorem sp_desk_picture {S : Store} {d h : Nat} {ps : List Pic} {p : Pic} {Q : D → Store → Prop} (K : DeskAt S d h (ps ++ [p])) (hQ : Q (picD p) S) : wpE (m_Desk_picture [.ref d] S) Q := by
  obtain ⟨sl, h1, h2⟩ := id K
  have h2' : S[sl]? = some (.lst (ps.map (stD h) ++ [stD h p])) := by rw [h2]; simp
  simp [m_Desk_picture, b_Desk_picture, startD, h1]
  rw [wpO_ixL h2' atI_last, stD1]
  exact hQ
theorem cut_tail (xs : List D) : cutD xs (some 1) none = xs.drop 1 := by
  unfold cutD HT.sIx
  cases xs with
  | nil => simp
  | cons x xs => simp [List.take_of_length_le]
theorem cut_init (xs : List D) (x : D) : cutD (xs ++ [x]) none (some (-1)) = xs := by
  unfold cutD HT.sIx
  simp
  have : (-1 + ((xs.length : Int) + 1)).toNat = xs.length := by omega
  simp [this]
@[simp] theorem wpE_eSl {ρ : Loc} {S : Store} {f : Ev} {lo hi : Pv'} {Q : D → Store → Prop} : wpE (eSl f lo hi ρ S) Q ↔ wpE (f ρ S) fun x S1 => wpE (lo ρ S1) fun l S2 => wpE (hi ρ S2) fun h S3 => wpO (slD x l h S3) Q := by simp [eSl]
@[simp] theorem wpE_pNo {ρ : Loc} {S : Store} {Q : Option Int → Store → Prop} : wpE (pNo ρ S) Q ↔ Q none S := Iff.rfl
@[simp] theorem wpE_pAt {ρ : Loc} {S : Store} {f : Ev} {Q : Option Int → Store → Prop} : wpE (pAt f ρ S) Q ↔ wpE (f ρ S) fun d S1 => ∃ i, d = .int i ∧ Q (some i) S1 := by
  simp only [pAt, wpE_bnd]
  refine iff_of_eq (congrArg _ (funext fun d => funext fun S1 => propext ?_))
  cases d <;> simp [wpE, ok]
theorem wpO_slL {S : Store} {c : Nat} {xs : List D} {lo hi : Option Int} {Q : D → Store → Prop} (h : S[c]? = some (.lst xs)) : wpO (slD (.ref c) lo hi S) Q ↔ wpO (newL (cutD xs lo hi) S) Q := by
  unfold slD
  simp only [h]
theorem sp_desk_len {S : Store} {d h : Nat} {ps : List Pic} {Q : D → Store → Prop} (K : DeskAt S d h ps) (hQ : ∀ S', Fr [] S S' → Q (.int (ps.length - 1 : Nat)) S') : wpE (m_Desk_len0 [.ref d] S) Q := by
  obtain ⟨sl, h1, h2⟩ := id K
  simp [m_Desk_len0, b_Desk_len0, startD, h1]
  rw [wpO_slL h2, cut_tail]
  refine wpO_newL fun S1 n f e l _ => ?_
  rw [wpO_lenL e]
  simpa using hQ S1 f
theorem sp_desk_undo {S : Store} {d h : Nat} {ps : List Pic} {p : Pic} {Q : D → Store → Prop} (K : DeskAt S d h (ps ++ [p])) (hne : ps ≠ []) (hQ : ∀ S', Fr [d] S S' → DeskAt S' d h ps → Q .non S') : wpE (m_Desk_undo [.ref d] S) Q := by
  obtain ⟨sl, h1, h2⟩ := id K
  have h2' : S[sl]? = some (.lst (ps.map (stD h) ++ [stD h p])) := by rw [h2]; simp
  simp only [m_Desk_undo, b_Desk_undo, wpE_def, startD, wpS_seq]
  simp [h1]
  rw [wpO_lenL h2']
  have hpl : 0 < ps.length := List.length_pos_iff.mpr hne
  have : ¬ ((ps.length : Int) + 1 = 1) := by omega
  simp [this, h1]
  rw [wpO_slL h2', cut_init]
  refine wpO_newL fun S1 n f e l _ => ?_
  have g := f.at0 h1
  have hd := lt_of_at h1
  simp [g, putD]
  exact hQ _ (f.nil.trans Fr.set) ⟨n, set_at (lt_of_at g), Fr.set.at e (by simp; omega)⟩

theorem sp_desk_moved {S : Store} {d h : Nat} {ps : List Pic} {Q : D → Store → Prop} (K : DeskAt S d h ps) (hl : ps.length ≤ 1000) (hp : ∀ p ∈ ps, 1 < p.2.length) (hQ : ∀ S', Fr [] S S' → Q (.int ((((ps.map fun p => p.2.getD 1 0).zip ((ps.map fun p => p.2.getD 1 0).drop 1)).map fun q => if q.1 ≠ q.2 then (1 : Int) else 0).sum)) S') : wpE (m_Desk_moved [.ref d, .int 1] S) Q := by
  obtain ⟨sl, h1, h2⟩ := id K
  simp only [m_Desk_moved, b_Desk_moved, wpE_def, startD, wpS_seq]
  simp [h1, wpE_lc]
  refine ⟨_, itOf_ref h2, _, items_ref h2, by simp; omega, ?_⟩
  refine lc_all ps (by simp) (stD h) (fun p => .int (p.2.getD 1 0)) (fun S' f => items_ref (f.at0 h2)) (fun p S' hm f => ?_) fun S1 f1 => ?_
  · refine ⟨_, rfl, ?_⟩
    have hp1 := hp p hm
    simp [wipeD, picD1]
    rw [wpO_ixT (x := .int (p.2.getD 1 0)) (by rw [atI1, List.getElem?_map]; simp [hp1])]
    simp [Fr.refl]
  refine wpO_newL fun S2 n2 f2 e2 l2 _ => ?_
  rw [wpE_iZp]
  simp
  rw [wpO_slL e2, cut_tail]
  refine wpO_newL fun S3 n3 f3 e3 l3 _ => ?_
  have e2' := f3.at0 e2
  refine ⟨_, _, ⟨rfl, rfl⟩, _, itOf_ref e2', _, itOf_ref e3, ?_⟩
  have e2m : ∀ S', Fr [] S3 S' → S'[n2]? = some (.lst ((ps.map fun p => p.2.getD 1 0).map .int)) := fun S' f => by rw [f.at0 e2']; simp [Function.comp_def]
  have e3m : ∀ S', Fr [] S3 S' → S'[n3]? = some (.lst (((ps.map fun p => p.2.getD 1 0).drop 1).map .int)) := fun S' f => by rw [f.at0 e3]; simp [Function.comp_def]
  have hz : ∀ S' : Store, Fr [] S3 S' → items (.zp (.lst n2) (.lst n3)) S' = some (((ps.map fun p => p.2.getD 1 0).zip ((ps.map fun p => p.2.getD 1 0).drop 1)).map fun q => .wtup [.int q.1, .int q.2]) := fun S' f => by
    simp only [items, e2m S' f, e3m S' f, zipD_map]
  refine ⟨_, hz S3 Fr.refl, by simp; omega, ?_⟩
  refine lc_all _ (by simp) (fun q : Int × Int => .wtup [.int q.1, .int q.2]) (fun q => .int (if q.1 ≠ q.2 then 1 else 0)) hz (fun q S' hq f => ?_) fun S4 f4 => ?_
  · refine ⟨_, rfl, ?_⟩
    simp [wipeD, Fr.refl]
  refine wpO_newL fun S5 n5 f5 e5 l5 _ => ?_
  have e5' : S5[n5]? = some (.lst ((((ps.map fun p => p.2.getD 1 0).zip ((ps.map fun p => p.2.getD 1 0).drop 1)).map fun q => if q.1 ≠ q.2 then (1 : Int) else 0).map .int)) := by rw [e5]; simp [Function.comp_def]
  rw [wpO_sumL e5']
  exact hQ S5 (f1.trans (f2.trans (f3.trans (f4.trans f5))))
theorem cut_at (ns : List Int) (k : Nat) : ∃ ms : List Int, cutD (ns.map D.int) (some (k : Int)) (some ((k : Int) + 1)) = ms.map .int ∧ ms.length ≤ 1 := by
  unfold cutD
  have e : ((k : Int) + 1) = ((k + 1 : Nat) : Int) := by omega
  rw [e, HT.sIx_nat, HT.sIx_nat, ← List.map_drop, ← List.map_take]
  refine ⟨_, rfl, ?_⟩
  simp
  omega
theorem small64_of {k : Nat} (h : k ≤ 1000) : -18446744073709551616 < (k : Int) ∧ (k : Int) < 18446744073709551616 := by omega
theorem sp_feed {S : Store} {ns : List Int} {k : Nat} {Q : D → Store → Prop} (hk : k ≤ 1000) (hQ : ∀ S' n a b, Fr [] S S' → S'[n]? = some (.lst [.int a, .int b]) → S.length ≤ n → Q (.ref n) S') : wpE (m_law_feed [.frz (ns.map .int), .int (k : Int)] S) Q := by
  simp only [m_law_feed, b_law_feed, wpE_def, startD, wpS_seq]
  simp
  show wpO (newL (cutD _ _ _) S) _
  obtain ⟨ms, e, hm⟩ := cut_at ns k
  rw [e]
  refine wpO_newL fun S1 n1 f1 e1 l1 _ => ?_
  rw [wpO_listL e1]
  refine wpO_newL fun S2 n2 f2 e2 l2 _ => ?_
  refine (wpO_mulI (small64_of hk)).mpr ?_
  simp
  refine wpO_newL fun S3 n3 f3 e3 l3 _ => ?_
  rw [wpO_addL (f3.at0 e2) e3 (by simp; omega)]
  refine wpO_newL fun S4 n4 f4 e4 l4 _ => ?_
  obtain ⟨x, hx⟩ : ∃ x : Int, atI (ms.map D.int ++ [D.int (71 * (k : Int) + 23)]) 0 = some (.int x) := by
    rw [atI0]
    cases ms with
    | nil => exact ⟨_, rfl⟩
    | cons m ms => exact ⟨m, rfl⟩
  rw [wpO_ixL e4 hx]
  simp
  refine (wpO_mulI (small64_of hk)).mpr ?_
  simp
  refine wpO_newL fun S5 n5 f5 e5 l5 _ => ?_
  have f04 := f1.trans (f2.trans (f3.trans f4))
  exact hQ S5 n5 _ _ (f04.trans f5) e5 (Nat.le_trans f04.1 l5)
/-! ### the law -/
theorem states_ok : (((((List.range 301).map alt).map fun p => p.2.getD 1 0).zip ((((List.range 301).map alt).map fun p => p.2.getD 1 0).drop 1)).map fun q => if q.1 ≠ q.2 then (1 : Int) else 0).sum = 300 := by decide +kernel
theorem hist_rep : ∀ m : Nat, (List.replicate m [evD (true, 0), evD (false, 0)]).flatten = (hist (2 * m)).map evD
  | 0 => rfl
  | m + 1 => by
    rw [List.replicate_succ', List.flatten_append, hist_rep m]
    have e : 2 * (m + 1) = 2 * m + 1 + 1 := by omega
    rw [e]
    unfold hist
    rw [List.range_succ, List.range_succ]
    have h1 : evAt (2 * m) = (true, 0) := by simp [evAt]
    have h2 : evAt (2 * m + 1) = (false, 0) := by
      unfold evAt
      have : (2 * m + 1) % 2 = 1 := by omega
      simp [this]
    simp [h1, h2]
theorem hist_one (m : Nat) : (hist (2 * m)).map evD ++ [evD (true, 0)] = (hist (2 * m + 1)).map evD := by
  have h1 : evAt (2 * m) = (true, 0) := by simp [evAt]
  unfold hist
  rw [List.range_succ]
  simp [h1]
@[simp] theorem wpO_isB {S : Store} {a b : Bool} {Q : D → Store → Prop} : wpO (isD false (.bl a) (.bl b) S) Q ↔ Q (.bl (decide (a = b))) S := wpO_def
theorem sp_events {S : Store} {r h dn : Nat} {p : Pic} {evs : List (Bool × Int)} {Q : D → Store → Prop} (R : RunAt S r h dn p evs) (hQ : ∀ S' n, Fr [] S S' → S'[n]? = some (.lst (evs.map evD)) → S.length ≤ n → Q (.ref n) S') : wpE (m_Run_events [.ref r] S) Q := by
  simp [m_Run_events, b_Run_events, startD, R.1]
  rw [wpO_listL R.2.1]
  exact wpO_newL fun S' n f e l _ => hQ S' n f e l
theorem sp_run_load {S : Store} {r h dn : Nat} {bs : List Int} {rs : List Svc} {p : Pic} {evs : List (Bool × Int)} {m : Int} {Q : D → Store → Prop} (H : HouseAt S h bs rs) (hl : rs.length ≤ 1000) (R : RunAt S r h dn p evs) (hQ : ∀ S', Fr [] S S' → Q (.int (loadOf rs p m)) S') : wpE (m_Run_load [.ref r, .int m] S) Q := by
  simp [m_Run_load, b_Run_load, startD, R.1]
  exact sp_load_in H hl hQ
theorem RunAt.to0 {S S' : Store} {r h dn : Nat} {p : Pic} {evs : List (Bool × Int)} (R : RunAt S r h dn p evs) (f : Fr [] S S') : RunAt S' r h dn p evs := R.to f (by simp) (by simp)
theorem svcs_ok : ∀ r ∈ rs0, SvcOk bs0.length r := by
  intro r hr
  simp only [rs0, List.mem_cons, List.not_mem_nil, or_false] at hr
  rcases hr with rfl | rfl
  · exact ⟨by decide, ⟨by decide, by decide, by decide, by decide⟩, .inl rfl⟩
  · exact ⟨by decide, ⟨by decide, by decide, by decide, by decide⟩, .inr (.inr rfl)⟩
theorem plain_law (ns : List Int) (hl : ns.length ≤ 63) : ∃ S', m_law [.frz (ns.map .int)] [] = some (.ok (.bl true), S') := by
  suffices h : wpE (m_law [.frz (ns.map .int)] []) fun d _ => d = .bl true by
    obtain ⟨a, S', e, rfl⟩ := h.get
    exact ⟨S', e⟩
  simp only [m_law, b_law, wpE_def, startD, wpS_seq, wpS_set]
  simp only [wpE_eCall, wpE_aCons, wpE_eV, wpE_eC, wpE_aNil]
  simp
  refine sp_feed (k := 0) (by omega) fun S1 n1 a b f1 e1 l1 => ?_
  refine sp_take e1 (by decide) fun a' b' r hr0 hr1 => ?_
  generalize S1.set n1 (.lst [.int a', .int b']) = S2
  rw [wpO_addI]
  obtain ⟨m, hm⟩ : ∃ m : Nat, 550 + r = (m : Int) := ⟨(550 + r).toNat, by omega⟩
  rw [hm]
  have hm1 : m < 600 := by omega
  refine wpO_newL fun S3 n3 f3 e3 l3 _ => ?_
  refine wpO_newL fun S4 n4 f4 e4 l4 _ => ?_
  have f4' : Fr [] S4 (S4 ++ [.ins 0 []]) := Fr.app
  have l4' := lt_of_at e4
  refine sp_house (bs := bs0) (rs := rs0) (by simp) (f4'.at0 (f4.at0 e3)) (f4'.at0 e4) (by decide) (by decide) (by decide) svcs_ok fun S6 f6 H6 => ?_
  refine ⟨rfl, ?_⟩
  generalize S4.length = hh at H6
  refine wpO_newL fun S7 n7 f7 e7 l7 _ => ?_
  rw [wpO_mulL e7 (by constructor; omega; constructor; simp; omega; omega)]
  have hx : (List.replicate (m : Int).toNat [D.tup [D.str "fall", D.int 0], D.tup [D.str "rise", D.int 0]]).flatten = (hist (2 * m)).map evD := by
    rw [Int.toNat_natCast]
    exact hist_rep m
  rw [hx]
  refine wpO_newL fun S8 n8 f8 e8 l8 _ => ?_
  refine wpO_newL fun S9 n9 f9 e9 l9 _ => ?_
  rw [wpO_addL (f9.at0 e8) e9 (by simp [hist_len]; omega)]
  have hy : (hist (2 * m)).map evD ++ [D.tup [D.str "fall", D.int 0]] = (hist (2 * m + 1)).map evD := hist_one m
  rw [hy]
  refine wpO_newL fun S10 n10 f10 e10 l10 _ => ?_
  have H10 : HouseAt S10 hh bs0 rs0 := H6.to (f7.trans (f8.trans (f9.trans f10)))
  have E10 : S10[n8]? = some (.lst ((hist (2 * m)).map evD)) := f10.at0 (f9.at0 e8)
  refine sp_run7 H10 e10 (by omega) fun S11 rr dn f11 R11 l11 l11' => ?_
  have hB : alt (2 * m + 1) = pB := by
    unfold alt
    have : (2 * m + 1) % 2 = 1 := by omega
    simp [this]
  rw [hB] at R11
  refine ⟨⟨_, rfl, _, R11.1⟩, sp_picture R11 ?_⟩
  have pbD : D.tup [D.tup [D.int 0], D.tup [D.int 1, D.int (-1)]] = picD pB := rfl
  rw [pbD]
  refine wpO_same (p := .tuple [.tuple [.int 0], .tuple [.int 1, .int (-1)]]) rfl rfl (by decide) ?_
  refine ⟨⟨_, rfl, _, R11.1⟩, sp_events R11 fun S12 n12 f12 e12 l12 => ?_⟩
  rw [wpO_lenL e12]
  rw [wpO_mulI (by omega)]
  simp [hist_len]
  have R12 := R11.to0 f12
  have H12 := H10.to (f11.trans f12)
  refine ⟨⟨_, R12.1⟩, ?_⟩
  refine sp_run_load H12 (by decide) R12 fun S13 f13 => ?_
  have lB : loadOf rs0 pB 1 = 4 := by decide
  rw [lB]
  simp
  refine wpO_newL fun S14 n14 f14 e14 l14 _ => ?_
  have f1014 := f11.trans (f12.trans (f13.trans f14))
  refine sp_is_history (H10.to f1014) (by decide) (f1014.at0 E10) (by rw [hist_len]; omega) fun S15 f15 => ?_
  rw [show bs0.length = 2 from rfl, hist_ok 1 (by decide)]
  refine wpO_newL fun S16 n16 f16 e16 l16 _ => ?_
  have f1016 := f1014.trans (f15.trans f16)
  rw [wpO_addL (f1016.at0 E10) e16 (by simp [hist_len]; omega)]
  refine wpO_newL fun S17 n17 f17 e17 l17 _ => ?_
  have f1017 := f1016.trans f17
  have e17' : S17[n17]? = some (.lst ((hist (2 * m) ++ [(false, 0)]).map evD)) := by rw [e17]; simp [evD, deed]
  refine sp_is_history (H10.to f1017) (by decide) e17' (by simp [hist_len]; omega) fun S18 f18 => ?_
  rw [show bs0.length = 2 from rfl, hist_bad 5 (by decide)]
  simp
  refine wpO_newL fun S19 n19 f19 e19 l19 _ => ?_
  have f1419 := f15.trans (f16.trans (f17.trans (f18.trans f19)))
  rw [wpO_addL (f1419.at0 e14) e19 (by simp)]
  refine wpO_newL fun S20 n20 f20 e20 l20 _ => ?_
  have f1020 := f1014.trans (f1419.trans f20)
  refine sp_moves7 (k := 0) (by decide) (H10.to f1020) (f1020.at0 E10) (by omega) fun S21 f21 => ?_
  rw [wpO_mulI (by omega)]
  simp
  have f1021 := f1020.trans f21
  rw [wpO_slL (f1021.at0 E10)]
  have cut : cutD ((hist (2 * m)).map evD) (some 1) (some 1) = [] := by
    unfold cutD
    simp [HT.sIx]
  rw [cut]
  refine wpO_newL fun S22 n22 f22 e22 l22 _ => ?_
  have f1022 := f1021.trans f22
  rw [wpO_addL e22 (f1022.at0 E10) (by simp [hist_len]; omega)]
  refine wpO_newL fun S23 n23 f23 e23 l23 _ => ?_
  have f1023 := f1022.trans f23
  rw [List.nil_append] at e23
  refine sp_moves7 (k := 1) (by decide) (H10.to f1023) e23 (by omega) fun S24 f24 => ?_
  rw [wpO_mulI (by omega)]
  simp
  refine wpO_newL fun S25 n25 f25 e25 l25 _ => ?_
  have f2025 := f21.trans (f22.trans (f23.trans (f24.trans f25)))
  rw [wpO_addL (f2025.at0 e20) e25 (by simp)]
  refine wpO_newL fun S26 n26 f26 e26 l26 _ => ?_
  have f1026 := f1020.trans (f2025.trans f26)
  simp [wpE_mtL, lstD_ref e26]
  refine sp_surge7 (H10.to f1026) (f1026.at0 E10) (by omega) fun S27 n27 f27 e27 => ?_
  refine wpO_newL fun S28 n28 f28 e28 l28 _ => ?_
  have e27' : S28[n27]? = some (.lst ([()].map fun _ => D.tup [.int 0])) := f28.at0 e27
  have t1 : toP S28 59 (.ref n27) = some (.list [.tuple [.int 0]]) := toP_lst (k := fun _ => PyData.tuple [.int 0]) e27' fun _ => rfl
  have e28' : S28[n28]? = some (.lst ([()].map fun _ => D.tup [.int 0])) := e28
  have t2 : toP S28 59 (.ref n28) = some (.list [.tuple [.int 0]]) := toP_lst (k := fun _ => PyData.tuple [.int 0]) e28' fun _ => rfl
  have t3 : ∀ x, toP S28 59 x = some (.list [.tuple [.int 0]]) → toP S28 60 (.tup [x, picD pB]) = some (.tuple [.list [.tuple [.int 0]], .tuple [.tuple [.int 0], .tuple [.int 1, .int (-1)]]]) := fun x hx => by
    show (toPs (toP S28 59) [x, picD pB]).map PyData.tuple = _
    simp only [toPs, hx]
    rfl
  refine wpO_same (t3 _ t1) (t3 _ t2) (by decide) ?_
  have e26' := (f27.trans f28).at0 e26
  rw [wpO_append e26' (by simp)]
  simp only [List.cons_append, List.nil_append] at e26' ⊢
  have hn26 : S10.length ≤ n26 := Nat.le_trans (f1020.trans f2025).1 l26
  have g29 : Fr [n26] S10 (S28.set n26 (.lst [.bl true, .bl true, .bl true, .bl true, .bl true, .bl true, .bl true, .bl true])) := ((f1026.trans (f27.trans f28)).nil).trans Fr.set
  have H29 := H10.thru g29 (fun c hc => by simp at hc; omega)
  have e29 : (S28.set n26 (.lst [.bl true, .bl true, .bl true, .bl true, .bl true, .bl true, .bl true, .bl true]))[n26]? = some (.lst [.bl true, .bl true, .bl true, .bl true, .bl true, .bl true, .bl true, .bl true]) := set_at (lt_of_at e26')
  generalize S28.set n26 (.lst [.bl true, .bl true, .bl true, .bl true, .bl true, .bl true, .bl true, .bl true]) = S29 at H29 e29 ⊢
  have f29 : Fr [] S29 (S29 ++ [.ins 2 []]) := Fr.app
  refine sp_desk_init (H29.to f29) (by simp) fun S30 f30 K30 => ?_
  refine ⟨rfl, ?_⟩
  have l29 := lt_of_at e29
  have g30 : Fr [] S29 S30 := f29.trans2 (y := [S29.length]) f30 (by simp) (fun c hc hlt => by simp at hc; omega)
  have H30 := H29.to g30
  have e30 := g30.at0 e29
  have hhl : hh < S29.length := by obtain ⟨_, _, q, _⟩ := H29; exact lt_of_at q
  have hH : ∀ S', Fr [S29.length] S30 S' → HouseAt S' hh bs0 rs0 := fun S' f => H29.thru (g30.trans2 (z := [S29.length]) f (by simp) (fun c hc _ => hc)) (fun c hc => by simp at hc; omega)
  have hE : ∀ S', Fr [S29.length] S30 S' → S'[n26]? = some (.lst [.bl true, .bl true, .bl true, .bl true, .bl true, .bl true, .bl true, .bl true]) := fun S' f => f.at e30 (by simp; omega)
  generalize S29.length = dd at K30 hH hE f30 ⊢
  simp only [wpS_for]
  simp [iRg1, items]
  refine wpS_forGo (fun i ρ S' => Fr [dd] S30 S' ∧ DeskAt S' dd hh ((List.range (2 * i + 1)).map alt) ∧ ∃ x, ρ = [some (.frz (ns.map .int)), some (.ref n1), some (.int m), some (.ref hh), some (.ref n8), some (.ref rr), some (.ref n26), some (.ref dd), x]) _
    (fun _ _ _ _ _ => rfl) (fun i ρ S' x h hx => ?_) (fun ρ S' h => ?_) _ 0 _ S30 ⟨Fr.refl, K30, none, rfl⟩ (by simp)
  · obtain ⟨fr, K, y, rfl⟩ := h
    have hi : i < 150 := by
      have := (List.getElem?_eq_some_iff.mp hx).1
      rw [rngD_length] at this
      simpa using this
    refine ⟨_, rfl, ?_⟩
    obtain ⟨sl, k1, k2⟩ := id K
    simp [k1]
    have ha : alt (2 * i) = pA := by simp [alt]
    have hb : alt (2 * i + 1) = pB := by
      unfold alt
      have : (2 * i + 1) % 2 = 1 := by omega
      simp [this]
    have hc : alt (2 * i + 2) = pA := by
      unfold alt
      have : (2 * i + 2) % 2 = 0 := by omega
      simp [this]
    rw [List.range_succ, List.map_append, List.map_singleton, ha] at K
    refine sp_desk_fall (hH S' fr) K (by simp; omega) fun S2 f2 K2 => ?_
    obtain ⟨sl2, k3, k4⟩ := id K2
    refine ⟨⟨_, k3⟩, ?_⟩
    refine sp_desk_rise (hH S2 (fr.trans f2)) K2 (by simp; omega) fun S3 f3 K3 => ?_
    refine ⟨fr.trans (f2.trans f3), ?_⟩
    have e : (List.range (2 * (i + 1) + 1)).map alt = (List.range (2 * i)).map alt ++ [pA] ++ [pB] ++ [pA] := by
      have : 2 * (i + 1) + 1 = 2 * i + 1 + 1 + 1 := by omega
      rw [this, List.range_succ, List.range_succ, List.range_succ]
      simp [ha, hb, hc]
    rw [e]
    exact K3
  · obtain ⟨fr, K, y, rfl⟩ := h
    rw [rngD_length] at K
    have K300 : DeskAt S' dd hh ((List.range 301).map alt) := K
    have Kl : DeskAt S' dd hh ((List.range 300).map alt ++ [pA]) := by
      have e : (List.range 301).map alt = (List.range 300).map alt ++ [pA] := by
        rw [List.range_succ]
        rfl
      rw [← e]
      exact K300
    obtain ⟨sl, k1, k2⟩ := id K300
    simp [k1]
    refine sp_desk_len K300 fun S31 f31 => ?_
    have k31 := f31.at0 k1
    refine ⟨300, by simp, by decide, by decide, ⟨_, k31⟩, ?_⟩
    refine sp_desk_moved (K300.to f31) (by simp) (fun p hp => ?_) fun S32 f32 => ?_
    · obtain ⟨i, _, rfl⟩ := List.mem_map.mp hp
      unfold alt
      split <;> decide
    rw [states_ok]
    simp
    have k32 := f32.at0 k31
    refine ⟨⟨_, k32⟩, ?_⟩
    refine sp_desk_picture ((Kl.to f31).to f32) ?_
    have paD : D.tup [D.tup [], D.tup [D.int 0, D.int 0]] = picD pA := rfl
    rw [paD]
    refine wpO_same (p := .tuple [.tuple [], .tuple [.int 0, .int 0]]) rfl rfl (by decide) ?_
    refine wpO_newL fun S33 n33 f33 e33 l33 _ => ?_
    have E0 := hE S' fr
    have f3133 := f31.trans (f32.trans f33)
    rw [wpO_addL (f3133.at0 E0) e33 (by simp)]
    refine wpO_newL fun S34 n34 f34 e34 l34 _ => ?_
    have f3134 := f3133.trans f34
    have Kd := K300.to f3134
    have hdd : dd < n34 := by
      have a1 := lt_of_at k1
      have a2 := f3133.1
      omega
    refine wpS_forGo (fun i ρ S2 => Fr [dd] S34 S2 ∧ i ≤ 299 ∧ DeskAt S2 dd hh ((List.range (301 - i)).map alt) ∧ ∃ x, ρ = [some (.frz (ns.map .int)), some (.ref n1), some (.int m), some (.ref hh), some (.ref n8), some (.ref rr), some (.ref n34), some (.ref dd), x]) _
      (fun _ _ _ _ _ => rfl) (fun i ρ S2 x h hx => ?_) (fun ρ S2 h => ?_) _ 0 _ S34 ⟨Fr.refl, by omega, Kd, y, rfl⟩ (by simp)
    · obtain ⟨fr2, hi, K2, y2, rfl⟩ := h
      have hi : i < 299 := by
        have := (List.getElem?_eq_some_iff.mp hx).1
        rw [rngD_length] at this
        simpa using this
      refine ⟨_, rfl, ?_⟩
      obtain ⟨sl2, q1, q2⟩ := id K2
      simp [q1]
      have e : 301 - i = (301 - (i + 1)) + 1 := by omega
      rw [e, List.range_succ, List.map_append, List.map_singleton] at K2
      have hne : (List.range (301 - (i + 1))).map alt ≠ [] := by
        intro z
        have := congrArg List.length z
        simp at this
        omega
      refine sp_desk_undo K2 hne fun S3 f3 K3 => ?_
      have e2 : 301 - (i + 1) = 300 - i := by omega
      rw [e2] at K3
      exact ⟨fr2.trans f3, by omega, K3⟩
    · obtain ⟨fr2, _, K2, y2, rfl⟩ := h
      rw [rngD_length] at K2
      have K2' : DeskAt S2 dd hh ([pA] ++ [pB]) := K2
      obtain ⟨sl2, q1, q2⟩ := id K2'
      have e34' := fr2.at e34 (by simp; omega)
      simp [q1]
      refine sp_desk_picture K2' ?_
      refine wpO_same (p := .tuple [.tuple [.int 0], .tuple [.int 1, .int (-1)]]) rfl rfl (by decide) ?_
      refine ⟨⟨_, q1⟩, ?_⟩
      refine sp_desk_len K2' fun S40 f40 => ?_
      refine ⟨1, by simp, by decide, by decide, ?_⟩
      simp
      refine wpO_newL fun S41 n41 f41 e41 l41 _ => ?_
      rw [wpO_addL ((f40.trans f41).at0 e34') e41 (by simp)]
      refine wpO_newL fun S42 n42 f42 e42 l42 _ => ?_
      refine wpO_newL fun S43 n43 f43 e43 l43 _ => ?_
      rw [wpO_mulL e43 (by simp)]
      refine wpO_newL fun S44 n44 f44 e44 l44 _ => ?_
      have x1 : S44[n42]? = some (.lst ((List.replicate 13 true).map .bl)) := by rw [(f43.trans f44).at0 e42]; rfl
      have x2 : S44[n44]? = some (.lst ((List.replicate 13 true).map .bl)) := by rw [e44]; rfl
      rw [wpO_eq (α := List Bool) (a := List.replicate 13 true) (c := List.replicate 13 true) (toP_lst (n := 59) x1 fun _ => rfl) (toP_lst (n := 59) x2 fun _ => rfl)]
      simp
end Dl
set_option Elab.async false
set_option linter.all false
set_option maxRecDepth 100000
set_option maxHeartbeats 0
namespace Dl
open PySem PySem.Spec PyProof.Rows L2
abbrev Pr : PySem.Program := PySem.Challenge.pw_nextalive_k07_long_histories
def top (i : Nat) : Stmt := Pr.main.body.getD i (.Pass ⟨0, 0, 0, 0⟩)
def clsBody : Stmt → List Stmt
  | .ClassDef _ _ _ b _ _ _ _ _ _ _ => b
  | _ => []
def inn (i j : Nat) : Stmt := (clsBody (top i)).getD j (.Pass ⟨0, 0, 0, 0⟩)
abbrev st_law_feed : Stmt := top 36
abbrev st_law_take : Stmt := top 37
abbrev st_is_number : Stmt := top 14
abbrev st_is_order : Stmt := top 15
abbrev st_is_service : Stmt := top 16
abbrev st_House_init0 : Stmt := inn 17 0
abbrev st_House_services : Stmt := inn 17 4
abbrev st_beginning : Stmt := top 20
abbrev st_Run_init0 : Stmt := inn 24 0
abbrev st_first_living : Stmt := top 19
abbrev st_is_moved : Stmt := top 21
abbrev st_behind_event : Stmt := top 22
abbrev st_Run_change : Stmt := inn 24 4
abbrev st_run_of : Stmt := top 25
abbrev st_load_in : Stmt := top 23
abbrev st_Run_load : Stmt := inn 24 2
abbrev st_Run_events : Stmt := inn 24 3
abbrev st_Run_picture : Stmt := inn 24 1
abbrev st_House_len0 : Stmt := inn 17 1
abbrev st_is_history : Stmt := top 26
abbrev st_moves : Stmt := top 34
abbrev st_House_strengths : Stmt := inn 17 3
abbrev st_strained : Stmt := top 28
abbrev st_surge_from : Stmt := top 29
abbrev st_surge : Stmt := top 30
abbrev st_Desk_init0 : Stmt := inn 32 0
abbrev st_Desk_change : Stmt := inn 32 6
abbrev st_Desk_fall : Stmt := inn 32 7
abbrev st_Desk_rise : Stmt := inn 32 8
abbrev st_Desk_picture : Stmt := inn 32 4
abbrev st_Desk_moved : Stmt := inn 32 11
abbrev st_Desk_len0 : Stmt := inn 32 1
abbrev st_Desk_undo : Stmt := inn 32 10
abbrev st_law : Stmt := top 39
structure Fx (K : PySem.W.Frag) (mg : Str → Option Value) : Prop where
  d_law_feed : ∃ fd, FunD K "_law_feed" "_law_feed" (defArgs st_law_feed) (defBody st_law_feed) (defScope st_law_feed) [] [] (He.ga K "_law_feed") fd
  d_law_take : ∃ fd, FunD K "_law_take" "_law_take" (defArgs st_law_take) (defBody st_law_take) (defScope st_law_take) [] [] (He.ga K "_law_take") fd
  d_is_number : ∃ fd, FunD K "is_number" "is_number" (defArgs st_is_number) (defBody st_is_number) (defScope st_is_number) [] [] (He.ga K "is_number") fd
  d_is_order : ∃ fd, FunD K "is_order" "is_order" (defArgs st_is_order) (defBody st_is_order) (defScope st_is_order) [] [] (He.ga K "is_order") fd
  d_is_service : ∃ fd, FunD K "is_service" "is_service" (defArgs st_is_service) (defBody st_is_service) (defScope st_is_service) [] [] (He.ga K "is_service") fd
  d_House_init0 : ∃ fd, FunD K "__init__" "House.__init__" (defArgs st_House_init0) (defBody st_House_init0) (defScope st_House_init0) [] [] (He.ma K (He.ga K "House") "__init__") fd
  d_House_services : ∃ fd, FunD K "services" "House.services" (defArgs st_House_services) (defBody st_House_services) (defScope st_House_services) [] [] (He.ma K (He.ga K "House") "services") fd
  d_beginning : ∃ fd, FunD K "beginning" "beginning" (defArgs st_beginning) (defBody st_beginning) (defScope st_beginning) [] [] (He.ga K "beginning") fd
  d_Run_init0 : ∃ fd, FunD K "__init__" "Run.__init__" (defArgs st_Run_init0) (defBody st_Run_init0) (defScope st_Run_init0) [] [] (He.ma K (He.ga K "Run") "__init__") fd
  d_first_living : ∃ fd, FunD K "first_living" "first_living" (defArgs st_first_living) (defBody st_first_living) (defScope st_first_living) [] [] (He.ga K "first_living") fd
  d_is_moved : ∃ fd, FunD K "is_moved" "is_moved" (defArgs st_is_moved) (defBody st_is_moved) (defScope st_is_moved) [] [] (He.ga K "is_moved") fd
  d_behind_event : ∃ fd, FunD K "behind_event" "behind_event" (defArgs st_behind_event) (defBody st_behind_event) (defScope st_behind_event) [] [] (He.ga K "behind_event") fd
  d_Run_change : ∃ fd, FunD K "change" "Run.change" (defArgs st_Run_change) (defBody st_Run_change) (defScope st_Run_change) [] [] (He.ma K (He.ga K "Run") "change") fd
  d_run_of : ∃ fd, FunD K "run_of" "run_of" (defArgs st_run_of) (defBody st_run_of) (defScope st_run_of) [] [] (He.ga K "run_of") fd
  d_load_in : ∃ fd, FunD K "load_in" "load_in" (defArgs st_load_in) (defBody st_load_in) (defScope st_load_in) [] [] (He.ga K "load_in") fd
  d_Run_load : ∃ fd, FunD K "load" "Run.load" (defArgs st_Run_load) (defBody st_Run_load) (defScope st_Run_load) [] [] (He.ma K (He.ga K "Run") "load") fd
  d_Run_events : ∃ fd, FunD K "events" "Run.events" (defArgs st_Run_events) (defBody st_Run_events) (defScope st_Run_events) [] [] (He.ma K (He.ga K "Run") "events") fd
  d_Run_picture : ∃ fd, FunD K "picture" "Run.picture" (defArgs st_Run_picture) (defBody st_Run_picture) (defScope st_Run_picture) [] [] (He.ma K (He.ga K "Run") "picture") fd
  d_House_len0 : ∃ fd, FunD K "__len__" "House.__len__" (defArgs st_House_len0) (defBody st_House_len0) (defScope st_House_len0) [] [] (He.ma K (He.ga K "House") "__len__") fd
  d_is_history : ∃ fd, FunD K "is_history" "is_history" (defArgs st_is_history) (defBody st_is_history) (defScope st_is_history) [] [("most", .int 5)] (He.ga K "is_history") fd
  d_moves : ∃ fd, FunD K "moves" "moves" (defArgs st_moves) (defBody st_moves) (defScope st_moves) [] [] (He.ga K "moves") fd
  d_House_strengths : ∃ fd, FunD K "strengths" "House.strengths" (defArgs st_House_strengths) (defBody st_House_strengths) (defScope st_House_strengths) [] [] (He.ma K (He.ga K "House") "strengths") fd
  d_strained : ∃ fd, FunD K "strained" "strained" (defArgs st_strained) (defBody st_strained) (defScope st_strained) [] [] (He.ga K "strained") fd
  d_surge_from : ∃ fd, FunD K "surge_from" "surge_from" (defArgs st_surge_from) (defBody st_surge_from) (defScope st_surge_from) [] [] (He.ga K "surge_from") fd
  d_surge : ∃ fd, FunD K "surge" "surge" (defArgs st_surge) (defBody st_surge) (defScope st_surge) [] [] (He.ga K "surge") fd
  d_Desk_init0 : ∃ fd, FunD K "__init__" "Desk.__init__" (defArgs st_Desk_init0) (defBody st_Desk_init0) (defScope st_Desk_init0) [] [] (He.ma K (He.ga K "Desk") "__init__") fd
  d_Desk_change : ∃ fd, FunD K "change" "Desk.change" (defArgs st_Desk_change) (defBody st_Desk_change) (defScope st_Desk_change) [] [] (He.ma K (He.ga K "Desk") "change") fd
  d_Desk_fall : ∃ fd, FunD K "fall" "Desk.fall" (defArgs st_Desk_fall) (defBody st_Desk_fall) (defScope st_Desk_fall) [] [] (He.ma K (He.ga K "Desk") "fall") fd
  d_Desk_rise : ∃ fd, FunD K "rise" "Desk.rise" (defArgs st_Desk_rise) (defBody st_Desk_rise) (defScope st_Desk_rise) [] [] (He.ma K (He.ga K "Desk") "rise") fd
  d_Desk_picture : ∃ fd, FunD K "picture" "Desk.picture" (defArgs st_Desk_picture) (defBody st_Desk_picture) (defScope st_Desk_picture) [] [] (He.ma K (He.ga K "Desk") "picture") fd
  d_Desk_moved : ∃ fd, FunD K "moved" "Desk.moved" (defArgs st_Desk_moved) (defBody st_Desk_moved) (defScope st_Desk_moved) [] [] (He.ma K (He.ga K "Desk") "moved") fd
  d_Desk_len0 : ∃ fd, FunD K "__len__" "Desk.__len__" (defArgs st_Desk_len0) (defBody st_Desk_len0) (defScope st_Desk_len0) [] [] (He.ma K (He.ga K "Desk") "__len__") fd
  d_Desk_undo : ∃ fd, FunD K "undo" "Desk.undo" (defArgs st_Desk_undo) (defBody st_Desk_undo) (defScope st_Desk_undo) [] [] (He.ma K (He.ga K "Desk") "undo") fd
  d_law : ∃ fd, FunD K "law" "law" (defArgs st_law) (defBody st_law) (defScope st_law) [] [] (He.ga K "law") fd
  g__law_feed : mg "_law_feed" = some (.ref (He.ga K "_law_feed"))
  g__law_take : mg "_law_take" = some (.ref (He.ga K "_law_take"))
  g_beginning : mg "beginning" = some (.ref (He.ga K "beginning"))
  g_behind_event : mg "behind_event" = some (.ref (He.ga K "behind_event"))
  g_first_living : mg "first_living" = some (.ref (He.ga K "first_living"))
  g_is_history : mg "is_history" = some (.ref (He.ga K "is_history"))
  g_is_moved : mg "is_moved" = some (.ref (He.ga K "is_moved"))
  g_is_number : mg "is_number" = some (.ref (He.ga K "is_number"))
  g_is_order : mg "is_order" = some (.ref (He.ga K "is_order"))
  g_is_service : mg "is_service" = some (.ref (He.ga K "is_service"))
  g_load_in : mg "load_in" = some (.ref (He.ga K "load_in"))
  g_moves : mg "moves" = some (.ref (He.ga K "moves"))
  g_run_of : mg "run_of" = some (.ref (He.ga K "run_of"))
  g_strained : mg "strained" = some (.ref (He.ga K "strained"))
  g_surge : mg "surge" = some (.ref (He.ga K "surge"))
  g_surge_from : mg "surge_from" = some (.ref (He.ga K "surge_from"))
  n_abs : mg "abs" = none
  n_all : mg "all" = none
  n_bool : mg "bool" = none
  n_enumerate : mg "enumerate" = none
  n_int : mg "int" = none
  n_isinstance : mg "isinstance" = none
  n_len : mg "len" = none
  n_list : mg "list" = none
  n_max : mg "max" = none
  n_range : mg "range" = none
  n_set : mg "set" = none
  n_sorted : mg "sorted" = none
  n_str : mg "str" = none
  n_sum : mg "sum" = none
  n_tuple : mg "tuple" = none
  n_zip : mg "zip" = none
  i_GREATEST : ∃ t, mg "GREATEST" = some (.int 1000000000 t)
  i_MOST_MACHINES : ∃ t, mg "MOST_MACHINES" = some (.int 5 t)
  i_MOST_SERVICES : ∃ t, mg "MOST_SERVICES" = some (.int 5 t)
  i_STRONGEST : ∃ t, mg "STRONGEST" = some (.int 10000000000 t)
  g_RULES : mg "RULES" = some (.ref (He.ga K "RULES"))
  q_RULES : ∀ H, SqT K H (He.ga K "RULES") ((["first", "home", "stay"] : List Str).map V.str)
  c_Desk : ClsD T0 K mg 2 (He.ga K "Desk")
  c_House : ClsD T0 K mg 0 (He.ga K "House")
  c_Run : ClsD T0 K mg 1 (He.ga K "Run")
  k_Desk : Mk K (He.ga K "Desk") (He.ma K (He.ga K "Desk") "__init__")
  k_House : Mk K (He.ga K "House") (He.ma K (He.ga K "House") "__init__")
  k_Run : Mk K (He.ga K "Run") (He.ma K (He.ga K "Run") "__init__")
  m_Desk_len0 : Meth K (He.ga K "Desk") "__len__" (He.ma K (He.ga K "Desk") "__len__")
  m_Desk_change : Meth K (He.ga K "Desk") "change" (He.ma K (He.ga K "Desk") "change")
  m_Desk_fall : Meth K (He.ga K "Desk") "fall" (He.ma K (He.ga K "Desk") "fall")
  m_Desk_moved : Meth K (He.ga K "Desk") "moved" (He.ma K (He.ga K "Desk") "moved")
  m_Desk_picture : Meth K (He.ga K "Desk") "picture" (He.ma K (He.ga K "Desk") "picture")
  m_Desk_rise : Meth K (He.ga K "Desk") "rise" (He.ma K (He.ga K "Desk") "rise")
  m_Desk_undo : Meth K (He.ga K "Desk") "undo" (He.ma K (He.ga K "Desk") "undo")
  m_House_len0 : Meth K (He.ga K "House") "__len__" (He.ma K (He.ga K "House") "__len__")
  m_House_services : Meth K (He.ga K "House") "services" (He.ma K (He.ga K "House") "services")
  m_House_strengths : Meth K (He.ga K "House") "strengths" (He.ma K (He.ga K "House") "strengths")
  m_Run_change : Meth K (He.ga K "Run") "change" (He.ma K (He.ga K "Run") "change")
  m_Run_events : Meth K (He.ga K "Run") "events" (He.ma K (He.ga K "Run") "events")
  m_Run_load : Meth K (He.ga K "Run") "load" (He.ma K (He.ga K "Run") "load")
  m_Run_picture : Meth K (He.ga K "Run") "picture" (He.ma K (He.ga K "Run") "picture")
section
variable {P : Program} {w : World} {K : PySem.W.Frag} {mg : Str → Option Value} {base : Heap}
theorem sc_law_feed : FnScope ["script", "k", "seed", "digits"] ["script", "k"] (defScope st_law_feed) := ⟨rfl, rfl, rfl, by decide +kernel, rfl, by decide +kernel, by decide +kernel⟩
theorem ok_law_feed (fx : Fx K mg) : OkF P w K mg base 1 (He.ga K "_law_feed") ["script", "k"] 2 m_law_feed := by
  obtain ⟨fd, F⟩ := fx.d_law_feed
  refine ⟨fd, fdAt_of F, F.kp, F.bindsN (fun _ _ _ _ _ _ us hl => match us, hl with | [_, _], _ => rfl), def_ok (k := 0) b_law_feed F sc_law_feed rfl rfl rfl fun cdv A outer s H E hr => ?_⟩
  have u64 := hr.units
  have u65 := room65 hr
  have tk : Takes (cxOf (CX P w) P w K mg base ["script", "k", "seed", "digits"] "_law_feed" (defScope st_law_feed) (He.ga K "_law_feed") cdv A outer s H E) (fun cls d _ H => E cls d H) := L2.takes_of rfl rfl rfl rfl
  exact (ds_cons (d_set (de_ix (de_bin opAdd (de_ty cList rfl fx.n_list (by decide +kernel) (da_cons (de_sl (de_v (i := 0) rfl (.inl rfl)) (dp_at (de_v (i := 1) rfl (.inl rfl))) (dp_at (de_bin opAdd (de_v (i := 1) rfl (.inl rfl)) de_int))) da_nil)) (de_lst (da_cons (de_bin opAdd (de_bin opMul de_int (de_v (i := 1) rfl (.inl rfl))) de_int) da_nil) (by decide) (Ln.ok (.cons .nil)))) de_int) (dg_name (i := 2) sc_law_feed.nd rfl (.inl rfl)))
  (ds_cons (d_set (de_b (cMax2 rfl) rfl fx.n_max (by decide +kernel) (da_cons de_int (da_cons (de_bin opSub (de_b cAbs rfl fx.n_abs (by decide +kernel) (da_cons (de_v (i := 2) rfl (.inl rfl)) da_nil)) (de_bin opPow de_int de_int)) da_nil))) (dg_name (i := 3) sc_law_feed.nd rfl (.inl rfl)))
  (ds_one (d_ret (de_lst (da_cons (de_v (i := 3) rfl (.inl rfl)) (da_cons (de_bin opMod (de_ty cInt rfl fx.n_int (by decide +kernel) (da_cons (de_bin opAdd (de_bin opAdd (de_bin opMul (de_bin opMod (de_ty cInt rfl fx.n_int (by decide +kernel) (da_cons (de_b cAbs rfl fx.n_abs (by decide +kernel) (da_cons (de_v (i := 2) rfl (.inl rfl)) da_nil)) da_nil)) de_int) de_int) (de_bin opMul de_int (de_v (i := 1) rfl (.inl rfl)))) de_int) da_nil)) de_int) da_nil)) (by decide) (Ln.ok (.cons (.cons .nil))))))))
theorem sc_law_take : FnScope ["feed", "many", "digit"] ["feed", "many"] (defScope st_law_take) := ⟨rfl, rfl, rfl, by decide +kernel, rfl, by decide +kernel, by decide +kernel⟩
theorem ok_law_take (fx : Fx K mg) : OkF P w K mg base 1 (He.ga K "_law_take") ["feed", "many"] 2 m_law_take := by
  obtain ⟨fd, F⟩ := fx.d_law_take
  refine ⟨fd, fdAt_of F, F.kp, F.bindsN (fun _ _ _ _ _ _ us hl => match us, hl with | [_, _], _ => rfl), def_ok (k := 0) b_law_take F sc_law_take rfl rfl rfl fun cdv A outer s H E hr => ?_⟩
  have u64 := hr.units
  have u65 := room65 hr
  have tk : Takes (cxOf (CX P w) P w K mg base ["feed", "many", "digit"] "_law_take" (defScope st_law_take) (He.ga K "_law_take") cdv A outer s H E) (fun cls d _ H => E cls d H) := L2.takes_of rfl rfl rfl rfl
  exact (ds_cons (d_if (dt_cmp opGt (de_ix (de_v (i := 0) rfl (.inl rfl)) de_int) de_int) (ds_cons (d_set (de_bin opMod (de_ty cInt rfl fx.n_int (by decide +kernel) (da_cons (de_ix (de_v (i := 0) rfl (.inl rfl)) de_int) da_nil)) (de_v (i := 1) rfl (.inl rfl))) (dg_name (i := 2) sc_law_take.nd rfl (.inl rfl)))
  (ds_cons (d_sub (de_bin opDiv (de_ix (de_v (i := 0) rfl (.inl rfl)) de_int) (de_v (i := 1) rfl (.inl rfl))) (de_v (i := 0) rfl (.inl rfl)) de_int)
  (ds_one (d_ret (de_v (i := 2) rfl (.inl rfl)))))) ds_nil)
  (ds_cons (d_sub (de_bin opMod (de_ty cInt rfl fx.n_int (by decide +kernel) (da_cons (de_bin opAdd (de_bin opMul (de_ix (de_v (i := 0) rfl (.inl rfl)) de_int) de_int) de_int) da_nil)) de_int) (de_v (i := 0) rfl (.inl rfl)) de_int)
  (ds_one (d_ret (de_bin opMod (de_ty cInt rfl fx.n_int (by decide +kernel) (da_cons (de_bin opDiv (de_ix (de_v (i := 0) rfl (.inl rfl)) de_int) de_int) da_nil)) (de_v (i := 1) rfl (.inl rfl)))))))
theorem sc_is_number : FnScope ["value", "least", "greatest"] ["value", "least", "greatest"] (defScope st_is_number) := ⟨rfl, rfl, rfl, by decide +kernel, rfl, by decide +kernel, by decide +kernel⟩
theorem ok_is_number (fx : Fx K mg) : OkF P w K mg base 1 (He.ga K "is_number") ["value", "least", "greatest"] 3 m_is_number := by
  obtain ⟨fd, F⟩ := fx.d_is_number
  refine ⟨fd, fdAt_of F, F.kp, F.bindsN (fun _ _ _ _ _ _ us hl => match us, hl with | [_, _, _], _ => rfl), def_ok (k := 0) b_is_number F sc_is_number rfl rfl rfl fun cdv A outer s H E hr => ?_⟩
  have u64 := hr.units
  have u65 := room65 hr
  have tk : Takes (cxOf (CX P w) P w K mg base ["value", "least", "greatest"] "is_number" (defScope st_is_number) (He.ga K "is_number") cdv A outer s H E) (fun cls d _ H => E cls d H) := L2.takes_of rfl rfl rfl rfl
  exact (ds_one (d_ret (de_and (de_is .tInt rfl fx.n_isinstance (de_v (i := 0) rfl (.inl rfl)) rfl fx.n_int (by decide +kernel)) (de_and (de_not (de_is .tBool rfl fx.n_isinstance (de_v (i := 0) rfl (.inl rfl)) rfl fx.n_bool (by decide +kernel))) (de_one (de_chain opLe opLe (de_v (i := 1) rfl (.inl rfl)) (de_v (i := 0) rfl (.inl rfl)) (de_v (i := 2) rfl (.inl rfl))))))))
theorem sc_is_order : FnScope ["value", "machines", "one"] ["value", "machines"] (defScope st_is_order) := ⟨rfl, rfl, rfl, by decide +kernel, rfl, by decide +kernel, by decide +kernel⟩
theorem ok_is_order (fx : Fx K mg) : OkF P w K mg base 2 (He.ga K "is_order") ["value", "machines"] 2 m_is_order := by
  obtain ⟨fd, F⟩ := fx.d_is_order
  obtain ⟨fd_is_number, _, K_is_number, B_is_number, G_is_number⟩ := ok_is_number (P := P) (w := w) (base := base) fx
  refine ⟨fd, fdAt_of F, F.kp, F.bindsN (fun _ _ _ _ _ _ us hl => match us, hl with | [_, _], _ => rfl), def_ok (k := 1) b_is_order F sc_is_order rfl rfl rfl fun cdv A outer s H E hr => ?_⟩
  have u64 := hr.units
  have u65 := room65 hr
  have tk : Takes (cxOf (CX P w) P w K mg base ["value", "machines", "one"] "is_order" (defScope st_is_order) (He.ga K "is_order") cdv A outer s H E) (fun cls d _ H => E cls d H) := L2.takes_of rfl rfl rfl rfl
  exact (ds_cons (d_if (dt_w (dw_or (dt_not (dt_v (de_is .tTuple rfl fx.n_isinstance (de_v (i := 0) rfl (.inl rfl)) rfl fx.n_tuple (by decide +kernel)))) (dw_or1 (dt_cmp (opEq u64) (de_v (i := 0) rfl (.inl rfl)) (de_tup da_nil (by decide) (Ln.ok .nil)))))) (ds_one (d_ret de_bl)) ds_nil)
  (ds_one (d_ret (de_and (de_b (cAll rfl) rfl fx.n_all (by decide +kernel) (da_cons (de_lc (own := [("one", 2)]) rfl sc_is_order.nd (di_seq (de_v (i := 0) rfl (.inl rfl))) (blkOk_by (N := ["value", "machines", "one"]) (sc := defScope st_is_order) (by decide +kernel)) (by decide) (fun _ _ _ _ _ => (dg_name (i := 2) sc_is_order.nd rfl (.inl rfl))) (fun _ _ _ _ _ => dts_nil) (fun _ _ _ _ _ => (de_call G_is_number (hr.mono (by decide)) rfl fx.g_is_number K_is_number B_is_number takes0 (da_cons (de_v (i := 2) rfl (.inl rfl)) (da_cons de_int (da_cons (de_bin opSub (de_v (i := 1) rfl (by first | exact .inl rfl | exact .inr (.inl rfl) | exact .inr (.inr rfl))) de_int) da_nil))) (.cons (.cons (.cons .nil)))))) da_nil)) (de_one (de_cmp (opEq u64) (de_lenSet rfl rfl fx.n_len rfl fx.n_set (de_v (i := 0) rfl (.inl rfl))) (de_b cLen rfl fx.n_len PySem.boot_len (da_cons (de_v (i := 0) rfl (.inl rfl)) da_nil))))))))
theorem sc_is_service : FnScope ["value", "machines"] ["value", "machines"] (defScope st_is_service) := ⟨rfl, rfl, rfl, by decide +kernel, rfl, by decide +kernel, by decide +kernel⟩
theorem ok_is_service (fx : Fx K mg) : OkF P w K mg base 3 (He.ga K "is_service") ["value", "machines"] 2 m_is_service := by
  obtain ⟨fd, F⟩ := fx.d_is_service
  obtain ⟨fd_is_number, _, K_is_number, B_is_number, G_is_number⟩ := ok_is_number (P := P) (w := w) (base := base) fx
  obtain ⟨fd_is_order, _, K_is_order, B_is_order, G_is_order⟩ := ok_is_order (P := P) (w := w) (base := base) fx
  obtain ⟨tk_GREATEST, t_GREATEST⟩ := fx.i_GREATEST
  refine ⟨fd, fdAt_of F, F.kp, F.bindsN (fun _ _ _ _ _ _ us hl => match us, hl with | [_, _], _ => rfl), def_ok (k := 2) b_is_service F sc_is_service rfl rfl rfl fun cdv A outer s H E hr => ?_⟩
  have u64 := hr.units
  have u65 := room65 hr
  have tk : Takes (cxOf (CX P w) P w K mg base ["value", "machines"] "is_service" (defScope st_is_service) (He.ga K "is_service") cdv A outer s H E) (fun cls d _ H => E cls d H) := L2.takes_of rfl rfl rfl rfl
  exact (ds_cons (d_if (dt_w (dw_or (dt_not (dt_v (de_is .tTuple rfl fx.n_isinstance (de_v (i := 0) rfl (.inl rfl)) rfl fx.n_tuple (by decide +kernel)))) (dw_or (dt_cmp (opNe u64) (de_b cLen rfl fx.n_len PySem.boot_len (da_cons (de_v (i := 0) rfl (.inl rfl)) da_nil)) de_int) (dw_or1 (dt_not (dt_v (de_call G_is_number (hr.mono (by decide)) rfl fx.g_is_number K_is_number B_is_number tk (da_cons (de_ix (de_v (i := 0) rfl (.inl rfl)) de_int) (da_cons de_int (da_cons (de_gint rfl t_GREATEST) da_nil))) (.cons (.cons (.cons .nil)))))))))) (ds_one (d_ret de_bl)) ds_nil)
  (ds_one (d_ret (de_and (de_call G_is_order (hr.mono (by decide)) rfl fx.g_is_order K_is_order B_is_order tk (da_cons (de_ix (de_v (i := 0) rfl (.inl rfl)) de_int) (da_cons (de_v (i := 1) rfl (.inl rfl)) da_nil)) (.cons (.cons .nil))) (de_and (de_is .tStr rfl fx.n_isinstance (de_ix (de_v (i := 0) rfl (.inl rfl)) de_int) rfl fx.n_str (by decide +kernel)) (de_one (de_cmp (opIn u65) (de_ix (de_v (i := 0) rfl (.inl rfl)) de_int) (de_gtup rfl fx.g_RULES fx.q_RULES))))))))
theorem sc_House_init0 : FnScope ["self", "strengths", "services", "number", "service", "one"] ["self", "strengths", "services"] (defScope st_House_init0) := ⟨rfl, rfl, rfl, by decide +kernel, rfl, by decide +kernel, by decide +kernel⟩
theorem ok_House_init0 (fx : Fx K mg) : OkF P w K mg base 4 (He.ma K (He.ga K "House") "__init__") ["self", "strengths", "services"] 3 m_House_init0 := by
  obtain ⟨fd, F⟩ := fx.d_House_init0
  obtain ⟨fd_is_number, _, K_is_number, B_is_number, G_is_number⟩ := ok_is_number (P := P) (w := w) (base := base) fx
  obtain ⟨fd_is_service, _, K_is_service, B_is_service, G_is_service⟩ := ok_is_service (P := P) (w := w) (base := base) fx
  obtain ⟨tk_MOST_MACHINES, t_MOST_MACHINES⟩ := fx.i_MOST_MACHINES
  obtain ⟨tk_MOST_SERVICES, t_MOST_SERVICES⟩ := fx.i_MOST_SERVICES
  obtain ⟨tk_STRONGEST, t_STRONGEST⟩ := fx.i_STRONGEST
  refine ⟨fd, fdAt_of F, F.kp, F.bindsN (fun _ _ _ _ _ _ us hl => match us, hl with | [_, _, _], _ => rfl), def_ok (k := 3) b_House_init0 F sc_House_init0 rfl rfl rfl fun cdv A outer s H E hr => ?_⟩
  have u64 := hr.units
  have u65 := room65 hr
  have tk : Takes (cxOf (CX P w) P w K mg base ["self", "strengths", "services", "number", "service", "one"] "House.__init__" (defScope st_House_init0) (He.ma K (He.ga K "House") "__init__") cdv A outer s H E) (fun cls d _ H => E cls d H) := L2.takes_of rfl rfl rfl rfl
  exact (ds_cons (d_if (dt_w (dw_or (dt_not (dt_v (de_is .tList rfl fx.n_isinstance (de_v (i := 1) rfl (.inl rfl)) rfl fx.n_list (by decide +kernel)))) (dw_or1 (dt_not (dt_chain opLe opLe de_int (de_b cLen rfl fx.n_len PySem.boot_len (da_cons (de_v (i := 1) rfl (.inl rfl)) da_nil)) (de_gint rfl t_MOST_MACHINES)))))) (ds_one d_never) ds_nil)
  (ds_cons (d_if (dt_not (dt_v (de_b (cAll rfl) rfl fx.n_all (by decide +kernel) (da_cons (de_lc (own := [("one", 5)]) rfl sc_House_init0.nd (di_seq (de_v (i := 1) rfl (.inl rfl))) (blkOk_by (N := ["self", "strengths", "services", "number", "service", "one"]) (sc := defScope st_House_init0) (by decide +kernel)) (by decide) (fun _ _ _ _ _ => (dg_name (i := 5) sc_House_init0.nd rfl (.inl rfl))) (fun _ _ _ _ _ => dts_nil) (fun _ _ _ _ _ => (de_call G_is_number (hr.mono (by decide)) rfl fx.g_is_number K_is_number B_is_number takes0 (da_cons (de_v (i := 5) rfl (.inl rfl)) (da_cons de_int (da_cons (de_gint rfl t_STRONGEST) da_nil))) (.cons (.cons (.cons .nil)))))) da_nil)))) (ds_one d_never) ds_nil)
  (ds_cons (d_if (dt_w (dw_or (dt_not (dt_v (de_is .tList rfl fx.n_isinstance (de_v (i := 2) rfl (.inl rfl)) rfl fx.n_list (by decide +kernel)))) (dw_or1 (dt_cmp opGt (de_b cLen rfl fx.n_len PySem.boot_len (da_cons (de_v (i := 2) rfl (.inl rfl)) da_nil)) (de_gint rfl t_MOST_SERVICES))))) (ds_one d_never) ds_nil)
  (ds_cons (d_for (passes_of rfl) rfl (di_enum rfl fx.n_enumerate (da_cons (de_v (i := 2) rfl (.inl rfl)) da_nil)) (dg_seq rfl (dgs_cons (dg_name (i := 3) sc_House_init0.nd rfl (.inl rfl)) (dgs_cons (dg_name (i := 4) sc_House_init0.nd rfl (.inl rfl)) dgs_nil)) (.cons (.cons .nil))) (ds_one (d_if (dt_not (dt_v (de_call G_is_service (hr.mono (by decide)) rfl fx.g_is_service K_is_service B_is_service tk (da_cons (de_v (i := 4) rfl (.inl rfl)) (da_cons (de_b cLen rfl fx.n_len PySem.boot_len (da_cons (de_v (i := 1) rfl (.inl rfl)) da_nil)) da_nil)) (.cons (.cons .nil))))) (ds_one d_never) ds_nil)))
  (ds_cons (d_fldset fx.c_House (de_v (i := 0) rfl (.inl rfl)) (de_ty cList rfl fx.n_list (by decide +kernel) (da_cons (de_v (i := 1) rfl (.inl rfl)) da_nil)) rfl)
  (ds_one (d_fldset fx.c_House (de_v (i := 0) rfl (.inl rfl)) (de_ty cList rfl fx.n_list (by decide +kernel) (da_cons (de_v (i := 2) rfl (.inl rfl)) da_nil)) rfl)))))))
theorem sc_House_services : FnScope ["self"] ["self"] (defScope st_House_services) := ⟨rfl, rfl, rfl, by decide +kernel, rfl, by decide +kernel, by decide +kernel⟩
theorem ok_House_services (fx : Fx K mg) : OkF P w K mg base 1 (He.ma K (He.ga K "House") "services") ["self"] 1 m_House_services := by
  obtain ⟨fd, F⟩ := fx.d_House_services
  refine ⟨fd, fdAt_of F, F.kp, F.bindsN (fun _ _ _ _ _ _ us hl => match us, hl with | [_], _ => rfl), def_ok (k := 0) b_House_services F sc_House_services rfl rfl rfl fun cdv A outer s H E hr => ?_⟩
  have u64 := hr.units
  have u65 := room65 hr
  have tk : Takes (cxOf (CX P w) P w K mg base ["self"] "House.services" (defScope st_House_services) (He.ma K (He.ga K "House") "services") cdv A outer s H E) (fun cls d _ H => E cls d H) := L2.takes_of rfl rfl rfl rfl
  exact (ds_one (d_ret (de_ty cList rfl fx.n_list (by decide +kernel) (da_cons (de_fld fx.c_House (de_v (i := 0) rfl (.inl rfl)) rfl) da_nil))))
theorem sc_beginning : FnScope ["house", "weight", "order", "rule"] ["house"] (defScope st_beginning) := ⟨rfl, rfl, rfl, by decide +kernel, rfl, by decide +kernel, by decide +kernel⟩
theorem ok_beginning (fx : Fx K mg) : OkF P w K mg base 2 (He.ga K "beginning") ["house"] 1 m_beginning := by
  obtain ⟨fd, F⟩ := fx.d_beginning
  obtain ⟨fd_House_services, _, K_House_services, B_House_services, G_House_services⟩ := ok_House_services (P := P) (w := w) (base := base) fx
  refine ⟨fd, fdAt_of F, F.kp, F.bindsN (fun _ _ _ _ _ _ us hl => match us, hl with | [_], _ => rfl), def_ok (k := 1) b_beginning F sc_beginning rfl rfl rfl fun cdv A outer s H E hr => ?_⟩
  have u64 := hr.units
  have u65 := room65 hr
  have tk : Takes (cxOf (CX P w) P w K mg base ["house", "weight", "order", "rule"] "beginning" (defScope st_beginning) (He.ga K "beginning") cdv A outer s H E) (fun cls d _ H => E cls d H) := L2.takes_of rfl rfl rfl rfl
  exact (ds_one (d_ret (de_tup (da_cons (de_tup da_nil (by decide) (Ln.ok .nil)) (da_cons (de_ty cTuple rfl fx.n_tuple (by decide +kernel) (da_cons (de_lc (own := [("weight", 1), ("order", 2), ("rule", 3)]) rfl sc_beginning.nd (di_seq (de_meth0 (pl := _) fx.c_House (de_v (i := 0) rfl (.inl rfl)) fx.m_House_services G_House_services (hr.mono (by decide)) B_House_services tk)) (blkOk_by (N := ["house", "weight", "order", "rule"]) (sc := defScope st_beginning) (by decide +kernel)) (by decide) (fun _ _ _ _ _ => (dg_seq rfl (dgs_cons (dg_name (i := 1) sc_beginning.nd rfl (.inl rfl)) (dgs_cons (dg_name (i := 2) sc_beginning.nd rfl (.inl rfl)) (dgs_cons (dg_name (i := 3) sc_beginning.nd rfl (.inl rfl)) dgs_nil))) (.cons (.cons (.cons .nil))))) (fun _ _ _ _ _ => dts_nil) (fun _ _ _ _ _ => (de_ix (de_v (i := 2) rfl (.inl rfl)) de_int))) da_nil)) da_nil)) (by decide) (Ln.ok (.cons (.cons .nil))))))
theorem sc_Run_init0 : FnScope ["self", "house"] ["self", "house"] (defScope st_Run_init0) := ⟨rfl, rfl, rfl, by decide +kernel, rfl, by decide +kernel, by decide +kernel⟩
theorem ok_Run_init0 (fx : Fx K mg) : OkF P w K mg base 3 (He.ma K (He.ga K "Run") "__init__") ["self", "house"] 2 m_Run_init0 := by
  obtain ⟨fd, F⟩ := fx.d_Run_init0
  obtain ⟨fd_beginning, _, K_beginning, B_beginning, G_beginning⟩ := ok_beginning (P := P) (w := w) (base := base) fx
  refine ⟨fd, fdAt_of F, F.kp, F.bindsN (fun _ _ _ _ _ _ us hl => match us, hl with | [_, _], _ => rfl), def_ok (k := 2) b_Run_init0 F sc_Run_init0 rfl rfl rfl fun cdv A outer s H E hr => ?_⟩
  have u64 := hr.units
  have u65 := room65 hr
  have tk : Takes (cxOf (CX P w) P w K mg base ["self", "house"] "Run.__init__" (defScope st_Run_init0) (He.ma K (He.ga K "Run") "__init__") cdv A outer s H E) (fun cls d _ H => E cls d H) := L2.takes_of rfl rfl rfl rfl
  exact (ds_cons (d_fldset fx.c_Run (de_v (i := 0) rfl (.inl rfl)) (de_v (i := 1) rfl (.inl rfl)) rfl)
  (ds_cons (d_fldset fx.c_Run (de_v (i := 0) rfl (.inl rfl)) (de_call G_beginning (hr.mono (by decide)) rfl fx.g_beginning K_beginning B_beginning tk (da_cons (de_v (i := 1) rfl (.inl rfl)) da_nil) (.cons .nil)) rfl)
  (ds_one (d_fldset fx.c_Run (de_v (i := 0) rfl (.inl rfl)) (de_lst da_nil (by decide) (Ln.ok .nil)) rfl))))
theorem sc_first_living : FnScope ["order", "down", "machine"] ["order", "down"] (defScope st_first_living) := ⟨rfl, rfl, rfl, by decide +kernel, rfl, by decide +kernel, by decide +kernel⟩
theorem ok_first_living (fx : Fx K mg) : OkF P w K mg base 1 (He.ga K "first_living") ["order", "down"] 2 m_first_living := by
  obtain ⟨fd, F⟩ := fx.d_first_living
  refine ⟨fd, fdAt_of F, F.kp, F.bindsN (fun _ _ _ _ _ _ us hl => match us, hl with | [_, _], _ => rfl), def_ok (k := 0) b_first_living F sc_first_living rfl rfl rfl fun cdv A outer s H E hr => ?_⟩
  have u64 := hr.units
  have u65 := room65 hr
  have tk : Takes (cxOf (CX P w) P w K mg base ["order", "down", "machine"] "first_living" (defScope st_first_living) (He.ga K "first_living") cdv A outer s H E) (fun cls d _ H => E cls d H) := L2.takes_of rfl rfl rfl rfl
  exact (ds_cons (d_for (passes_of rfl) rfl (di_seq (de_v (i := 0) rfl (.inl rfl))) (dg_name (i := 2) sc_first_living.nd rfl (.inl rfl)) (ds_one (d_if (dt_cmp (opNotIn u65) (de_v (i := 2) rfl (.inl rfl)) (de_v (i := 1) rfl (.inl rfl))) (ds_one (d_ret (de_v (i := 2) rfl (.inl rfl)))) ds_nil)))
  (ds_one (d_ret (de_un unNeg de_int))))
theorem sc_is_moved : FnScope ["service", "place", "machine", "weight", "order", "rule"] ["service", "place", "machine"] (defScope st_is_moved) := ⟨rfl, rfl, rfl, by decide +kernel, rfl, by decide +kernel, by decide +kernel⟩
theorem ok_is_moved (fx : Fx K mg) : OkF P w K mg base 1 (He.ga K "is_moved") ["service", "place", "machine"] 3 m_is_moved := by
  obtain ⟨fd, F⟩ := fx.d_is_moved
  refine ⟨fd, fdAt_of F, F.kp, F.bindsN (fun _ _ _ _ _ _ us hl => match us, hl with | [_, _, _], _ => rfl), def_ok (k := 0) b_is_moved F sc_is_moved rfl rfl rfl fun cdv A outer s H E hr => ?_⟩
  have u64 := hr.units
  have u65 := room65 hr
  have tk : Takes (cxOf (CX P w) P w K mg base ["service", "place", "machine", "weight", "order", "rule"] "is_moved" (defScope st_is_moved) (He.ga K "is_moved") cdv A outer s H E) (fun cls d _ H => E cls d H) := L2.takes_of rfl rfl rfl rfl
  exact (ds_cons (d_set (de_v (i := 0) rfl (.inl rfl)) (dg_seq rfl (dgs_cons (dg_name (i := 3) sc_is_moved.nd rfl (.inl rfl)) (dgs_cons (dg_name (i := 4) sc_is_moved.nd rfl (.inl rfl)) (dgs_cons (dg_name (i := 5) sc_is_moved.nd rfl (.inl rfl)) dgs_nil))) (.cons (.cons (.cons .nil)))))
  (ds_cons (d_if (dt_cmp (opNotIn u65) (de_v (i := 2) rfl (.inl rfl)) (de_v (i := 4) rfl (.inl rfl))) (ds_one (d_ret de_bl)) ds_nil)
  (ds_cons (d_if (dt_w (dw_or (dt_cmp (opEq u64) (de_v (i := 1) rfl (.inl rfl)) (de_un unNeg de_int)) (dw_or1 (dt_w (dw_and (dt_cmp (opEq u64) (de_v (i := 5) rfl (.inl rfl)) de_str) (dw_and1 (dt_cmp (opEq u64) (de_ix (de_v (i := 4) rfl (.inl rfl)) de_int) (de_v (i := 2) rfl (.inl rfl))))))))) (ds_one (d_ret de_bl)) ds_nil)
  (ds_one (d_ret (de_and (de_cmp (opEq u64) (de_v (i := 5) rfl (.inl rfl)) de_str) (de_one (de_cmp opLt (de_mtT PySem.F.slot_tuple_index PySem.F.type_tuple_index mIndex (de_v (i := 4) rfl (.inl rfl)) (da_cons (de_v (i := 2) rfl (.inl rfl)) da_nil)) (de_mtT PySem.F.slot_tuple_index PySem.F.type_tuple_index mIndex (de_v (i := 4) rfl (.inl rfl)) (da_cons (de_v (i := 1) rfl (.inl rfl)) da_nil))))))))))
theorem sc_behind_event : FnScope ["house", "picture", "event", "down", "places", "deed", "machine", "now", "found", "service", "place", "one"] ["house", "picture", "event"] (defScope st_behind_event) := ⟨rfl, rfl, rfl, by decide +kernel, rfl, by decide +kernel, by decide +kernel⟩
theorem ok_behind_event (fx : Fx K mg) : OkF P w K mg base 2 (He.ga K "behind_event") ["house", "picture", "event"] 3 m_behind_event := by
  obtain ⟨fd, F⟩ := fx.d_behind_event
  obtain ⟨fd_House_services, _, K_House_services, B_House_services, G_House_services⟩ := ok_House_services (P := P) (w := w) (base := base) fx
  obtain ⟨fd_first_living, _, K_first_living, B_first_living, G_first_living⟩ := ok_first_living (P := P) (w := w) (base := base) fx
  obtain ⟨fd_is_moved, _, K_is_moved, B_is_moved, G_is_moved⟩ := ok_is_moved (P := P) (w := w) (base := base) fx
  refine ⟨fd, fdAt_of F, F.kp, F.bindsN (fun _ _ _ _ _ _ us hl => match us, hl with | [_, _, _], _ => rfl), def_ok (k := 1) b_behind_event F sc_behind_event rfl rfl rfl fun cdv A outer s H E hr => ?_⟩
  have u64 := hr.units
  have u65 := room65 hr
  have tk : Takes (cxOf (CX P w) P w K mg base ["house", "picture", "event", "down", "places", "deed", "machine", "now", "found", "service", "place", "one"] "behind_event" (defScope st_behind_event) (He.ga K "behind_event") cdv A outer s H E) (fun cls d _ H => E cls d H) := L2.takes_of rfl rfl rfl rfl
  exact (ds_cons (d_set (de_v (i := 1) rfl (.inl rfl)) (dg_seq rfl (dgs_cons (dg_name (i := 3) sc_behind_event.nd rfl (.inl rfl)) (dgs_cons (dg_name (i := 4) sc_behind_event.nd rfl (.inl rfl)) dgs_nil)) (.cons (.cons .nil))))
  (ds_cons (d_set (de_v (i := 2) rfl (.inl rfl)) (dg_seq rfl (dgs_cons (dg_name (i := 5) sc_behind_event.nd rfl (.inl rfl)) (dgs_cons (dg_name (i := 6) sc_behind_event.nd rfl (.inr rfl)) dgs_nil)) (.cons (.cons .nil))))
  (ds_cons (d_par (i := 7) (j := 8) rfl sc_behind_event.nd rfl rfl (by decide) rfl rfl (da_cons (de_ty cTuple rfl fx.n_tuple (by decide +kernel) (da_cons (de_lc (own := [("one", 11)]) rfl sc_behind_event.nd (di_seq (de_v (i := 3) rfl (.inl rfl))) (blkOk_by (N := ["house", "picture", "event", "down", "places", "deed", "machine", "now", "found", "service", "place", "one"]) (sc := defScope st_behind_event) (by decide +kernel)) (by decide) (fun _ _ _ _ _ => (dg_name (i := 11) sc_behind_event.nd rfl (.inl rfl))) (fun _ _ _ _ _ => (dts_one (dt_cmp (opNe u64) (de_v (i := 11) rfl (.inl rfl)) (de_v (i := 6) rfl (by first | exact .inl rfl | exact .inr (.inl rfl) | exact .inr (.inr rfl)))))) (fun _ _ _ _ _ => (de_v (i := 11) rfl (.inl rfl)))) da_nil)) (da_cons (de_lst da_nil (by decide) (Ln.ok .nil)) da_nil)) rfl)
  (ds_cons (d_if (dt_cmp (opEq u64) (de_v (i := 5) rfl (.inl rfl)) de_str) (ds_one (d_set (de_ty cTuple rfl fx.n_tuple (by decide +kernel) (da_cons (de_b cSortedB rfl fx.n_sorted (by decide +kernel) (da_cons (de_bin opAdd (de_v (i := 3) rfl (.inl rfl)) (de_tup (da_cons (de_v (i := 6) rfl (.inr (.inl rfl))) da_nil) (by decide) (Ln.ok (.cons .nil)))) da_nil)) da_nil)) (dg_name (i := 7) sc_behind_event.nd rfl (.inl rfl)))) ds_nil)
  (ds_cons (d_for (passes_of rfl) rfl (di_zip rfl fx.n_zip (da_cons (de_meth0 (pl := _) fx.c_House (de_v (i := 0) rfl (.inl rfl)) fx.m_House_services G_House_services (hr.mono (by decide)) B_House_services tk) (da_cons (de_v (i := 4) rfl (.inl rfl)) da_nil))) (dg_seq rfl (dgs_cons (dg_name (i := 9) sc_behind_event.nd rfl (.inl rfl)) (dgs_cons (dg_name (i := 10) sc_behind_event.nd rfl (.inl rfl)) dgs_nil)) (.cons (.cons .nil))) (ds_one (d_if (dt_cmp (opEq u64) (de_v (i := 5) rfl (.inl rfl)) de_str) (ds_one (d_expr (de_mtL PySem.F.slot_list_append PySem.F.type_list_append mAppend (de_v (i := 8) rfl (.inl rfl)) (da_cons (de_if (dt_cmp (opEq u64) (de_v (i := 10) rfl (.inl rfl)) (de_v (i := 6) rfl (.inr (.inl rfl)))) (de_call G_first_living (hr.mono (by decide)) rfl fx.g_first_living K_first_living B_first_living tk (da_cons (de_ix (de_v (i := 9) rfl (.inl rfl)) de_int) (da_cons (de_v (i := 7) rfl (.inl rfl)) da_nil)) (.cons (.cons .nil))) (de_v (i := 10) rfl (.inl rfl))) da_nil)))) (ds_one (d_expr (de_mtL PySem.F.slot_list_append PySem.F.type_list_append mAppend (de_v (i := 8) rfl (.inl rfl)) (da_cons (de_if (dt_v (de_call G_is_moved (hr.mono (by decide)) rfl fx.g_is_moved K_is_moved B_is_moved tk (da_cons (de_v (i := 9) rfl (.inl rfl)) (da_cons (de_v (i := 10) rfl (.inl rfl)) (da_cons (de_v (i := 6) rfl (.inr (.inl rfl))) da_nil))) (.cons (.cons (.cons .nil))))) (de_v (i := 6) rfl (.inr (.inl rfl))) (de_v (i := 10) rfl (.inl rfl))) da_nil)))))))
  (ds_one (d_ret (de_tup (da_cons (de_v (i := 7) rfl (.inl rfl)) (da_cons (de_ty cTuple rfl fx.n_tuple (by decide +kernel) (da_cons (de_v (i := 8) rfl (.inl rfl)) da_nil)) da_nil)) (by decide) (Ln.ok (.cons (.cons .nil)))))))))))
theorem sc_Run_change : FnScope ["self", "event"] ["self", "event"] (defScope st_Run_change) := ⟨rfl, rfl, rfl, by decide +kernel, rfl, by decide +kernel, by decide +kernel⟩
theorem ok_Run_change (fx : Fx K mg) : OkF P w K mg base 3 (He.ma K (He.ga K "Run") "change") ["self", "event"] 2 m_Run_change := by
  obtain ⟨fd, F⟩ := fx.d_Run_change
  obtain ⟨fd_behind_event, _, K_behind_event, B_behind_event, G_behind_event⟩ := ok_behind_event (P := P) (w := w) (base := base) fx
  refine ⟨fd, fdAt_of F, F.kp, F.bindsN (fun _ _ _ _ _ _ us hl => match us, hl with | [_, _], _ => rfl), def_ok (k := 2) b_Run_change F sc_Run_change rfl rfl rfl fun cdv A outer s H E hr => ?_⟩
  have u64 := hr.units
  have u65 := room65 hr
  have tk : Takes (cxOf (CX P w) P w K mg base ["self", "event"] "Run.change" (defScope st_Run_change) (He.ma K (He.ga K "Run") "change") cdv A outer s H E) (fun cls d _ H => E cls d H) := L2.takes_of rfl rfl rfl rfl
  exact (ds_cons (d_fldset fx.c_Run (de_v (i := 0) rfl (.inl rfl)) (de_call G_behind_event (hr.mono (by decide)) rfl fx.g_behind_event K_behind_event B_behind_event tk (da_cons (de_fld fx.c_Run (de_v (i := 0) rfl (.inl rfl)) rfl) (da_cons (de_fld fx.c_Run (de_v (i := 0) rfl (.inl rfl)) rfl) (da_cons (de_v (i := 1) rfl (.inl rfl)) da_nil))) (.cons (.cons (.cons .nil)))) rfl)
  (ds_one (d_expr (de_mtL PySem.F.slot_list_append PySem.F.type_list_append mAppend (de_fld fx.c_Run (de_v (i := 0) rfl (.inl rfl)) rfl) (da_cons (de_v (i := 1) rfl (.inl rfl)) da_nil)))))
theorem sc_run_of : FnScope ["house", "history", "found", "event"] ["house", "history"] (defScope st_run_of) := ⟨rfl, rfl, rfl, by decide +kernel, rfl, by decide +kernel, by decide +kernel⟩
theorem ok_run_of (fx : Fx K mg) : OkF P w K mg base 5 (He.ga K "run_of") ["house", "history"] 2 m_run_of := by
  obtain ⟨fd, F⟩ := fx.d_run_of
  obtain ⟨fd_Run_init0, _, K_Run_init0, B_Run_init0, G_Run_init0⟩ := ok_Run_init0 (P := P) (w := w) (base := base) fx
  obtain ⟨fd_Run_change, _, K_Run_change, B_Run_change, G_Run_change⟩ := ok_Run_change (P := P) (w := w) (base := base) fx
  refine ⟨fd, fdAt_of F, F.kp, F.bindsN (fun _ _ _ _ _ _ us hl => match us, hl with | [_, _], _ => rfl), def_ok (k := 4) b_run_of F sc_run_of rfl rfl rfl fun cdv A outer s H E hr => ?_⟩
  have u64 := hr.units
  have u65 := room65 hr
  have tk : Takes (cxOf (CX P w) P w K mg base ["house", "history", "found", "event"] "run_of" (defScope st_run_of) (He.ga K "run_of") cdv A outer s H E) (fun cls d _ H => E cls d H) := L2.takes_of rfl rfl rfl rfl
  exact (ds_cons (d_set (de_make fx.c_Run fx.k_Run G_Run_init0 (hr.mono (by decide)) rfl rfl B_Run_init0 tk (da_cons (de_v (i := 0) rfl (.inl rfl)) da_nil) (.cons .nil)) (dg_name (i := 2) sc_run_of.nd rfl (.inl rfl)))
  (ds_cons (d_for (passes_of rfl) rfl (di_seq (de_v (i := 1) rfl (.inl rfl))) (dg_name (i := 3) sc_run_of.nd rfl (.inl rfl)) (ds_one (d_expr (de_meth (pl := _) fx.c_Run (de_v (i := 2) rfl (.inl rfl)) fx.m_Run_change G_Run_change (hr.mono (by decide)) B_Run_change tk (da_cons (de_v (i := 3) rfl (.inl rfl)) da_nil) (.cons .nil)))))
  (ds_one (d_ret (de_v (i := 2) rfl (.inl rfl))))))
theorem sc_load_in : FnScope ["house", "picture", "machine", "service", "place"] ["house", "picture", "machine"] (defScope st_load_in) := ⟨rfl, rfl, rfl, by decide +kernel, rfl, by decide +kernel, by decide +kernel⟩
theorem ok_load_in (fx : Fx K mg) : OkF P w K mg base 2 (He.ga K "load_in") ["house", "picture", "machine"] 3 m_load_in := by
  obtain ⟨fd, F⟩ := fx.d_load_in
  obtain ⟨fd_House_services, _, K_House_services, B_House_services, G_House_services⟩ := ok_House_services (P := P) (w := w) (base := base) fx
  refine ⟨fd, fdAt_of F, F.kp, F.bindsN (fun _ _ _ _ _ _ us hl => match us, hl with | [_, _, _], _ => rfl), def_ok (k := 1) b_load_in F sc_load_in rfl rfl rfl fun cdv A outer s H E hr => ?_⟩
  have u64 := hr.units
  have u65 := room65 hr
  have tk : Takes (cxOf (CX P w) P w K mg base ["house", "picture", "machine", "service", "place"] "load_in" (defScope st_load_in) (He.ga K "load_in") cdv A outer s H E) (fun cls d _ H => E cls d H) := L2.takes_of rfl rfl rfl rfl
  exact (ds_one (d_ret (de_b (cSum rfl) rfl fx.n_sum (by decide +kernel) (da_cons (de_lc (own := [("service", 3), ("place", 4)]) rfl sc_load_in.nd (di_zip rfl fx.n_zip (da_cons (de_meth0 (pl := _) fx.c_House (de_v (i := 0) rfl (.inl rfl)) fx.m_House_services G_House_services (hr.mono (by decide)) B_House_services tk) (da_cons (de_ix (de_v (i := 1) rfl (.inl rfl)) de_int) da_nil))) (blkOk_by (N := ["house", "picture", "machine", "service", "place"]) (sc := defScope st_load_in) (by decide +kernel)) (by decide) (fun _ _ _ _ _ => (dg_seq rfl (dgs_cons (dg_name (i := 3) sc_load_in.nd rfl (.inl rfl)) (dgs_cons (dg_name (i := 4) sc_load_in.nd rfl (.inl rfl)) dgs_nil)) (.cons (.cons .nil)))) (fun _ _ _ _ _ => (dts_one (dt_cmp (opEq u64) (de_v (i := 4) rfl (.inl rfl)) (de_v (i := 2) rfl (by first | exact .inl rfl | exact .inr (.inl rfl) | exact .inr (.inr rfl)))))) (fun _ _ _ _ _ => (de_ix (de_v (i := 3) rfl (.inl rfl)) de_int))) da_nil))))
theorem sc_Run_load : FnScope ["self", "machine"] ["self", "machine"] (defScope st_Run_load) := ⟨rfl, rfl, rfl, by decide +kernel, rfl, by decide +kernel, by decide +kernel⟩
theorem ok_Run_load (fx : Fx K mg) : OkF P w K mg base 3 (He.ma K (He.ga K "Run") "load") ["self", "machine"] 2 m_Run_load := by
  obtain ⟨fd, F⟩ := fx.d_Run_load
  obtain ⟨fd_load_in, _, K_load_in, B_load_in, G_load_in⟩ := ok_load_in (P := P) (w := w) (base := base) fx
  refine ⟨fd, fdAt_of F, F.kp, F.bindsN (fun _ _ _ _ _ _ us hl => match us, hl with | [_, _], _ => rfl), def_ok (k := 2) b_Run_load F sc_Run_load rfl rfl rfl fun cdv A outer s H E hr => ?_⟩
  have u64 := hr.units
  have u65 := room65 hr
  have tk : Takes (cxOf (CX P w) P w K mg base ["self", "machine"] "Run.load" (defScope st_Run_load) (He.ma K (He.ga K "Run") "load") cdv A outer s H E) (fun cls d _ H => E cls d H) := L2.takes_of rfl rfl rfl rfl
  exact (ds_one (d_ret (de_call G_load_in (hr.mono (by decide)) rfl fx.g_load_in K_load_in B_load_in tk (da_cons (de_fld fx.c_Run (de_v (i := 0) rfl (.inl rfl)) rfl) (da_cons (de_fld fx.c_Run (de_v (i := 0) rfl (.inl rfl)) rfl) (da_cons (de_v (i := 1) rfl (.inl rfl)) da_nil))) (.cons (.cons (.cons .nil))))))
theorem sc_Run_events : FnScope ["self"] ["self"] (defScope st_Run_events) := ⟨rfl, rfl, rfl, by decide +kernel, rfl, by decide +kernel, by decide +kernel⟩
theorem ok_Run_events (fx : Fx K mg) : OkF P w K mg base 1 (He.ma K (He.ga K "Run") "events") ["self"] 1 m_Run_events := by
  obtain ⟨fd, F⟩ := fx.d_Run_events
  refine ⟨fd, fdAt_of F, F.kp, F.bindsN (fun _ _ _ _ _ _ us hl => match us, hl with | [_], _ => rfl), def_ok (k := 0) b_Run_events F sc_Run_events rfl rfl rfl fun cdv A outer s H E hr => ?_⟩
  have u64 := hr.units
  have u65 := room65 hr
  have tk : Takes (cxOf (CX P w) P w K mg base ["self"] "Run.events" (defScope st_Run_events) (He.ma K (He.ga K "Run") "events") cdv A outer s H E) (fun cls d _ H => E cls d H) := L2.takes_of rfl rfl rfl rfl
  exact (ds_one (d_ret (de_ty cList rfl fx.n_list (by decide +kernel) (da_cons (de_fld fx.c_Run (de_v (i := 0) rfl (.inl rfl)) rfl) da_nil))))
theorem sc_Run_picture : FnScope ["self"] ["self"] (defScope st_Run_picture) := ⟨rfl, rfl, rfl, by decide +kernel, rfl, by decide +kernel, by decide +kernel⟩
theorem ok_Run_picture (fx : Fx K mg) : OkF P w K mg base 1 (He.ma K (He.ga K "Run") "picture") ["self"] 1 m_Run_picture := by
  obtain ⟨fd, F⟩ := fx.d_Run_picture
  refine ⟨fd, fdAt_of F, F.kp, F.bindsN (fun _ _ _ _ _ _ us hl => match us, hl with | [_], _ => rfl), def_ok (k := 0) b_Run_picture F sc_Run_picture rfl rfl rfl fun cdv A outer s H E hr => ?_⟩
  have u64 := hr.units
  have u65 := room65 hr
  have tk : Takes (cxOf (CX P w) P w K mg base ["self"] "Run.picture" (defScope st_Run_picture) (He.ma K (He.ga K "Run") "picture") cdv A outer s H E) (fun cls d _ H => E cls d H) := L2.takes_of rfl rfl rfl rfl
  exact (ds_one (d_ret (de_fld fx.c_Run (de_v (i := 0) rfl (.inl rfl)) rfl)))
theorem sc_House_len0 : FnScope ["self"] ["self"] (defScope st_House_len0) := ⟨rfl, rfl, rfl, by decide +kernel, rfl, by decide +kernel, by decide +kernel⟩
theorem ok_House_len0 (fx : Fx K mg) : OkF P w K mg base 1 (He.ma K (He.ga K "House") "__len__") ["self"] 1 m_House_len0 := by
  obtain ⟨fd, F⟩ := fx.d_House_len0
  refine ⟨fd, fdAt_of F, F.kp, F.bindsN (fun _ _ _ _ _ _ us hl => match us, hl with | [_], _ => rfl), def_ok (k := 0) b_House_len0 F sc_House_len0 rfl rfl rfl fun cdv A outer s H E hr => ?_⟩
  have u64 := hr.units
  have u65 := room65 hr
  have tk : Takes (cxOf (CX P w) P w K mg base ["self"] "House.__len__" (defScope st_House_len0) (He.ma K (He.ga K "House") "__len__") cdv A outer s H E) (fun cls d _ H => E cls d H) := L2.takes_of rfl rfl rfl rfl
  exact (ds_one (d_ret (de_b cLen rfl fx.n_len PySem.boot_len (da_cons (de_fld fx.c_House (de_v (i := 0) rfl (.inl rfl)) rfl) da_nil))))
theorem sc_is_history : FnScope ["house", "value", "most", "down", "event", "one"] ["house", "value", "most"] (defScope st_is_history) := ⟨rfl, rfl, rfl, by decide +kernel, rfl, by decide +kernel, by decide +kernel⟩
theorem ok_is_history (fx : Fx K mg) : OkK P w K mg base 3 (He.ga K "is_history") ["house", "value", "most"] 2 ["most"] [5] m_is_history := by
  obtain ⟨fd, F⟩ := fx.d_is_history
  obtain ⟨fd_is_number, _, K_is_number, B_is_number, G_is_number⟩ := ok_is_number (P := P) (w := w) (base := base) fx
  obtain ⟨fd_House_len0, _, K_House_len0, B_House_len0, G_House_len0⟩ := ok_House_len0 (P := P) (w := w) (base := base) fx
  obtain ⟨dsv, hdv, hbv⟩ := FunD.binds0 (ps := ["house", "value", "most"]) F 2 (by decide) rfl (fun D doc pm an cdv ct us ks h1 h2 => match us, ks, h1, h2 with | [_, _], [_], _, _ => ⟨_, _, _, _, _, _, rfl, rfl, rfl⟩)
  refine ⟨fd, dsv, F.kp, hdv, hbv, Dl.FunD.kbind0 F 2 ["most"] (fun _ _ _ _ _ _ us ws h1 h2 => match us, ws, h1, h2 with | [_, _], [_], _, _ => rfl), def_ok (k := 2) b_is_history F sc_is_history rfl rfl rfl fun cdv A outer s H E hr => ?_⟩
  have u64 := hr.units
  have u65 := room65 hr
  have tk : Takes (cxOf (CX P w) P w K mg base ["house", "value", "most", "down", "event", "one"] "is_history" (defScope st_is_history) (He.ga K "is_history") cdv A outer s H E) (fun cls d _ H => E cls d H) := L2.takes_of rfl rfl rfl rfl
  exact (ds_cons (d_if (dt_not (dt_v (de_is .tList rfl fx.n_isinstance (de_v (i := 1) rfl (.inl rfl)) rfl fx.n_list (by decide +kernel)))) (ds_one (d_ret de_bl)) ds_nil)
  (ds_cons (d_set (de_lst da_nil (by decide) (Ln.ok .nil)) (dg_name (i := 3) sc_is_history.nd rfl (.inl rfl)))
  (ds_cons (d_for (passes_of rfl) rfl (di_seq (de_v (i := 1) rfl (.inl rfl))) (dg_name (i := 4) sc_is_history.nd rfl (.inr rfl)) (ds_cons (d_if (dt_w (dw_or (dt_not (dt_v (de_is .tTuple rfl fx.n_isinstance (de_v (i := 4) rfl (.inr (.inl rfl))) rfl fx.n_tuple (by decide +kernel)))) (dw_or (dt_cmp (opNe u64) (de_b cLen rfl fx.n_len PySem.boot_len (da_cons (de_v (i := 4) rfl (.inr (.inl rfl))) da_nil)) de_int) (dw_or1 (dt_not (dt_v (de_is .tStr rfl fx.n_isinstance (de_ix (de_v (i := 4) rfl (.inr (.inl rfl))) de_int) rfl fx.n_str (by decide +kernel)))))))) (ds_one (d_ret de_bl)) ds_nil)
  (ds_cons (d_if (dt_w (dw_or (dt_cmp (opNotIn u65) (de_ix (de_v (i := 4) rfl (.inr (.inl rfl))) de_int) (de_tup (da_cons de_str (da_cons de_str da_nil)) (by decide) (Ln.ok (.cons (.cons .nil))))) (dw_or1 (dt_not (dt_v (de_call G_is_number (hr.mono (by decide)) rfl fx.g_is_number K_is_number B_is_number tk (da_cons (de_ix (de_v (i := 4) rfl (.inr (.inl rfl))) de_int) (da_cons de_int (da_cons (de_bin opSub (de_lenO fx.c_House rfl fx.n_len (de_v (i := 0) rfl (.inl rfl)) fx.m_House_len0 G_House_len0 (hr.mono (by decide)) B_House_len0 tk) de_int) da_nil))) (.cons (.cons (.cons .nil))))))))) (ds_one (d_ret de_bl)) ds_nil)
  (ds_cons (d_if (dt_cmp (opNe u64) (de_cmp (opEq u64) (de_ix (de_v (i := 4) rfl (.inr (.inl rfl))) de_int) de_str) (de_cmp (opIn u65) (de_ix (de_v (i := 4) rfl (.inr (.inl rfl))) de_int) (de_v (i := 3) rfl (.inl rfl)))) (ds_one (d_ret de_bl)) ds_nil)
  (ds_cons (d_set (de_if (dt_cmp (opEq u64) (de_ix (de_v (i := 4) rfl (.inr (.inl rfl))) de_int) de_str) (de_bin opAdd (de_v (i := 3) rfl (.inl rfl)) (de_lst (da_cons (de_ix (de_v (i := 4) rfl (.inr (.inl rfl))) de_int) da_nil) (by decide) (Ln.ok (.cons .nil)))) (de_lc (own := [("one", 5)]) rfl sc_is_history.nd (di_seq (de_v (i := 3) rfl (.inl rfl))) (blkOk_by (N := ["house", "value", "most", "down", "event", "one"]) (sc := defScope st_is_history) (by decide +kernel)) (by decide) (fun _ _ _ _ _ => (dg_name (i := 5) sc_is_history.nd rfl (.inl rfl))) (fun _ _ _ _ _ => (dts_one (dt_cmp (opNe u64) (de_v (i := 5) rfl (.inl rfl)) (de_ix (de_v (i := 4) rfl (by first | exact .inl rfl | exact .inr (.inl rfl) | exact .inr (.inr rfl))) de_int)))) (fun _ _ _ _ _ => (de_v (i := 5) rfl (.inl rfl))))) (dg_name (i := 3) sc_is_history.nd rfl (.inl rfl)))
  (ds_one (d_if (dt_cmp opGt (de_b cLen rfl fx.n_len PySem.boot_len (da_cons (de_v (i := 3) rfl (.inl rfl)) da_nil)) (de_v (i := 2) rfl (.inl rfl))) (ds_one (d_ret de_bl)) ds_nil)))))))
  (ds_one (d_ret de_bl)))))
theorem sc_moves : FnScope ["house", "service", "history", "run", "found", "event", "before"] ["house", "service", "history"] (defScope st_moves) := ⟨rfl, rfl, rfl, by decide +kernel, rfl, by decide +kernel, by decide +kernel⟩
theorem ok_moves (fx : Fx K mg) : OkF P w K mg base 5 (He.ga K "moves") ["house", "service", "history"] 3 m_moves := by
  obtain ⟨fd, F⟩ := fx.d_moves
  obtain ⟨fd_Run_init0, _, K_Run_init0, B_Run_init0, G_Run_init0⟩ := ok_Run_init0 (P := P) (w := w) (base := base) fx
  obtain ⟨fd_Run_picture, _, K_Run_picture, B_Run_picture, G_Run_picture⟩ := ok_Run_picture (P := P) (w := w) (base := base) fx
  obtain ⟨fd_Run_change, _, K_Run_change, B_Run_change, G_Run_change⟩ := ok_Run_change (P := P) (w := w) (base := base) fx
  refine ⟨fd, fdAt_of F, F.kp, F.bindsN (fun _ _ _ _ _ _ us hl => match us, hl with | [_, _, _], _ => rfl), def_ok (k := 4) b_moves F sc_moves rfl rfl rfl fun cdv A outer s H E hr => ?_⟩
  have u64 := hr.units
  have u65 := room65 hr
  have tk : Takes (cxOf (CX P w) P w K mg base ["house", "service", "history", "run", "found", "event", "before"] "moves" (defScope st_moves) (He.ga K "moves") cdv A outer s H E) (fun cls d _ H => E cls d H) := L2.takes_of rfl rfl rfl rfl
  exact (ds_cons (d_par (i := 3) (j := 4) rfl sc_moves.nd rfl rfl (by decide) rfl rfl (da_cons (de_make fx.c_Run fx.k_Run G_Run_init0 (hr.mono (by decide)) rfl rfl B_Run_init0 tk (da_cons (de_v (i := 0) rfl (.inl rfl)) da_nil) (.cons .nil)) (da_cons de_int da_nil)) rfl)
  (ds_cons (d_for (passes_of rfl) rfl (di_seq (de_v (i := 2) rfl (.inl rfl))) (dg_name (i := 5) sc_moves.nd rfl (.inl rfl)) (ds_cons (d_set (de_ix (de_ix (de_meth0 (pl := _) fx.c_Run (de_v (i := 3) rfl (.inl rfl)) fx.m_Run_picture G_Run_picture (hr.mono (by decide)) B_Run_picture tk) de_int) (de_v (i := 1) rfl (.inl rfl))) (dg_name (i := 6) sc_moves.nd rfl (.inl rfl)))
  (ds_cons (d_expr (de_meth (pl := _) fx.c_Run (de_v (i := 3) rfl (.inl rfl)) fx.m_Run_change G_Run_change (hr.mono (by decide)) B_Run_change tk (da_cons (de_v (i := 5) rfl (.inl rfl)) da_nil) (.cons .nil)))
  (ds_one (d_aug (i := 4) sc_moves.nd rfl (.inl rfl) (de_ty cInt rfl fx.n_int (by decide +kernel) (da_cons (de_cmp (opNe u64) (de_ix (de_ix (de_meth0 (pl := _) fx.c_Run (de_v (i := 3) rfl (.inl rfl)) fx.m_Run_picture G_Run_picture (hr.mono (by decide)) B_Run_picture tk) de_int) (de_v (i := 1) rfl (.inl rfl))) (de_v (i := 6) rfl (.inl rfl))) da_nil)))))))
  (ds_one (d_ret (de_v (i := 4) rfl (.inl rfl))))))
theorem sc_House_strengths : FnScope ["self"] ["self"] (defScope st_House_strengths) := ⟨rfl, rfl, rfl, by decide +kernel, rfl, by decide +kernel, by decide +kernel⟩
theorem ok_House_strengths (fx : Fx K mg) : OkF P w K mg base 1 (He.ma K (He.ga K "House") "strengths") ["self"] 1 m_House_strengths := by
  obtain ⟨fd, F⟩ := fx.d_House_strengths
  refine ⟨fd, fdAt_of F, F.kp, F.bindsN (fun _ _ _ _ _ _ us hl => match us, hl with | [_], _ => rfl), def_ok (k := 0) b_House_strengths F sc_House_strengths rfl rfl rfl fun cdv A outer s H E hr => ?_⟩
  have u64 := hr.units
  have u65 := room65 hr
  have tk : Takes (cxOf (CX P w) P w K mg base ["self"] "House.strengths" (defScope st_House_strengths) (He.ma K (He.ga K "House") "strengths") cdv A outer s H E) (fun cls d _ H => E cls d H) := L2.takes_of rfl rfl rfl rfl
  exact (ds_one (d_ret (de_ty cList rfl fx.n_list (by decide +kernel) (da_cons (de_fld fx.c_House (de_v (i := 0) rfl (.inl rfl)) rfl) da_nil))))
theorem sc_strained : FnScope ["house", "picture", "strengths", "found", "machine"] ["house", "picture"] (defScope st_strained) := ⟨rfl, rfl, rfl, by decide +kernel, rfl, by decide +kernel, by decide +kernel⟩
theorem ok_strained (fx : Fx K mg) : OkF P w K mg base 3 (He.ga K "strained") ["house", "picture"] 2 m_strained := by
  obtain ⟨fd, F⟩ := fx.d_strained
  obtain ⟨fd_House_strengths, _, K_House_strengths, B_House_strengths, G_House_strengths⟩ := ok_House_strengths (P := P) (w := w) (base := base) fx
  obtain ⟨fd_House_len0, _, K_House_len0, B_House_len0, G_House_len0⟩ := ok_House_len0 (P := P) (w := w) (base := base) fx
  obtain ⟨fd_load_in, _, K_load_in, B_load_in, G_load_in⟩ := ok_load_in (P := P) (w := w) (base := base) fx
  refine ⟨fd, fdAt_of F, F.kp, F.bindsN (fun _ _ _ _ _ _ us hl => match us, hl with | [_, _], _ => rfl), def_ok (k := 2) b_strained F sc_strained rfl rfl rfl fun cdv A outer s H E hr => ?_⟩
  have u64 := hr.units
  have u65 := room65 hr
  have tk : Takes (cxOf (CX P w) P w K mg base ["house", "picture", "strengths", "found", "machine"] "strained" (defScope st_strained) (He.ga K "strained") cdv A outer s H E) (fun cls d _ H => E cls d H) := L2.takes_of rfl rfl rfl rfl
  exact (ds_cons (d_par (i := 2) (j := 3) rfl sc_strained.nd rfl rfl (by decide) rfl rfl (da_cons (de_meth0 (pl := _) fx.c_House (de_v (i := 0) rfl (.inl rfl)) fx.m_House_strengths G_House_strengths (hr.mono (by decide)) B_House_strengths tk) (da_cons (de_lst da_nil (by decide) (Ln.ok .nil)) da_nil)) rfl)
  (ds_cons (d_for (passes_of rfl) rfl (di_range1 rfl fx.n_range (da_cons (de_lenO fx.c_House rfl fx.n_len (de_v (i := 0) rfl (.inl rfl)) fx.m_House_len0 G_House_len0 (hr.mono (by decide)) B_House_len0 tk) da_nil)) (dg_name (i := 4) sc_strained.nd rfl (.inl rfl)) (ds_one (d_if (dt_w (dw_and (dt_cmp (opNotIn u65) (de_v (i := 4) rfl (.inl rfl)) (de_ix (de_v (i := 1) rfl (.inl rfl)) de_int)) (dw_and1 (dt_cmp opGt (de_call G_load_in (hr.mono (by decide)) rfl fx.g_load_in K_load_in B_load_in tk (da_cons (de_v (i := 0) rfl (.inl rfl)) (da_cons (de_v (i := 1) rfl (.inl rfl)) (da_cons (de_v (i := 4) rfl (.inl rfl)) da_nil))) (.cons (.cons (.cons .nil)))) (de_ix (de_v (i := 2) rfl (.inl rfl)) (de_v (i := 4) rfl (.inl rfl))))))) (ds_one (d_expr (de_mtL PySem.F.slot_list_append PySem.F.type_list_append mAppend (de_v (i := 3) rfl (.inl rfl)) (da_cons (de_v (i := 4) rfl (.inl rfl)) da_nil)))) ds_nil)))
  (ds_one (d_ret (de_ty cTuple rfl fx.n_tuple (by decide +kernel) (da_cons (de_v (i := 3) rfl (.inl rfl)) da_nil))))))
theorem sc_surge_from : FnScope ["house", "picture", "machines", "rounds", "now", "machine"] ["house", "picture", "machines"] (defScope st_surge_from) := ⟨rfl, rfl, rfl, by decide +kernel, rfl, by decide +kernel, by decide +kernel⟩
theorem ok_surge_from (fx : Fx K mg) : OkF P w K mg base 4 (He.ga K "surge_from") ["house", "picture", "machines"] 3 m_surge_from := by
  obtain ⟨fd, F⟩ := fx.d_surge_from
  obtain ⟨fd_behind_event, _, K_behind_event, B_behind_event, G_behind_event⟩ := ok_behind_event (P := P) (w := w) (base := base) fx
  obtain ⟨fd_strained, _, K_strained, B_strained, G_strained⟩ := ok_strained (P := P) (w := w) (base := base) fx
  refine ⟨fd, fdAt_of F, F.kp, F.bindsN (fun _ _ _ _ _ _ us hl => match us, hl with | [_, _, _], _ => rfl), def_ok (k := 3) b_surge_from F sc_surge_from rfl rfl rfl fun cdv A outer s H E hr => ?_⟩
  have u64 := hr.units
  have u65 := room65 hr
  have tk : Takes (cxOf (CX P w) P w K mg base ["house", "picture", "machines", "rounds", "now", "machine"] "surge_from" (defScope st_surge_from) (He.ga K "surge_from") cdv A outer s H E) (fun cls d _ H => E cls d H) := L2.takes_of rfl rfl rfl rfl
  exact (ds_cons (d_par (i := 3) (j := 4) rfl sc_surge_from.nd rfl rfl (by decide) rfl rfl (da_cons (de_lst da_nil (by decide) (Ln.ok .nil)) (da_cons (de_v (i := 2) rfl (.inl rfl)) da_nil)) rfl)
  (ds_cons (d_while 1000 (passes_of rfl) (dt_cmp (opNe u64) (de_v (i := 4) rfl (.inl rfl)) (de_tup da_nil (by decide) (Ln.ok .nil))) (ds_cons (d_for (passes_of rfl) rfl (di_seq (de_v (i := 4) rfl (.inl rfl))) (dg_name (i := 5) sc_surge_from.nd rfl (.inl rfl)) (ds_one (d_set (de_call G_behind_event (hr.mono (by decide)) rfl fx.g_behind_event K_behind_event B_behind_event tk (da_cons (de_v (i := 0) rfl (.inl rfl)) (da_cons (de_v (i := 1) rfl (.inl rfl)) (da_cons (de_tup (da_cons de_str (da_cons (de_v (i := 5) rfl (.inl rfl)) da_nil)) (by decide) (Ln.ok (.cons (.cons .nil)))) da_nil))) (.cons (.cons (.cons .nil)))) (dg_name (i := 1) sc_surge_from.nd rfl (.inl rfl)))))
  (ds_cons (d_expr (de_mtL PySem.F.slot_list_append PySem.F.type_list_append mAppend (de_v (i := 3) rfl (.inl rfl)) (da_cons (de_v (i := 4) rfl (.inl rfl)) da_nil)))
  (ds_one (d_set (de_call G_strained (hr.mono (by decide)) rfl fx.g_strained K_strained B_strained tk (da_cons (de_v (i := 0) rfl (.inl rfl)) (da_cons (de_v (i := 1) rfl (.inl rfl)) da_nil)) (.cons (.cons .nil))) (dg_name (i := 4) sc_surge_from.nd rfl (.inl rfl)))))))
  (ds_one (d_ret (de_tup (da_cons (de_v (i := 3) rfl (.inl rfl)) (da_cons (de_v (i := 1) rfl (.inl rfl)) da_nil)) (by decide) (Ln.ok (.cons (.cons .nil))))))))
theorem sc_surge : FnScope ["house", "history", "machines"] ["house", "history", "machines"] (defScope st_surge) := ⟨rfl, rfl, rfl, by decide +kernel, rfl, by decide +kernel, by decide +kernel⟩
theorem ok_surge (fx : Fx K mg) : OkF P w K mg base 6 (He.ga K "surge") ["house", "history", "machines"] 3 m_surge := by
  obtain ⟨fd, F⟩ := fx.d_surge
  obtain ⟨fd_surge_from, _, K_surge_from, B_surge_from, G_surge_from⟩ := ok_surge_from (P := P) (w := w) (base := base) fx
  obtain ⟨fd_Run_picture, _, K_Run_picture, B_Run_picture, G_Run_picture⟩ := ok_Run_picture (P := P) (w := w) (base := base) fx
  obtain ⟨fd_run_of, _, K_run_of, B_run_of, G_run_of⟩ := ok_run_of (P := P) (w := w) (base := base) fx
  refine ⟨fd, fdAt_of F, F.kp, F.bindsN (fun _ _ _ _ _ _ us hl => match us, hl with | [_, _, _], _ => rfl), def_ok (k := 5) b_surge F sc_surge rfl rfl rfl fun cdv A outer s H E hr => ?_⟩
  have u64 := hr.units
  have u65 := room65 hr
  have tk : Takes (cxOf (CX P w) P w K mg base ["house", "history", "machines"] "surge" (defScope st_surge) (He.ga K "surge") cdv A outer s H E) (fun cls d _ H => E cls d H) := L2.takes_of rfl rfl rfl rfl
  exact (ds_one (d_ret (de_call G_surge_from (hr.mono (by decide)) rfl fx.g_surge_from K_surge_from B_surge_from tk (da_cons (de_v (i := 0) rfl (.inl rfl)) (da_cons (de_meth0 (pl := _) fx.c_Run (de_call G_run_of (hr.mono (by decide)) rfl fx.g_run_of K_run_of B_run_of tk (da_cons (de_v (i := 0) rfl (.inl rfl)) (da_cons (de_v (i := 1) rfl (.inl rfl)) da_nil)) (.cons (.cons .nil))) fx.m_Run_picture G_Run_picture (hr.mono (by decide)) B_Run_picture tk) (da_cons (de_v (i := 2) rfl (.inl rfl)) da_nil))) (.cons (.cons (.cons .nil))))))
theorem sc_Desk_init0 : FnScope ["self", "house", "most"] ["self", "house", "most"] (defScope st_Desk_init0) := ⟨rfl, rfl, rfl, by decide +kernel, rfl, by decide +kernel, by decide +kernel⟩
theorem ok_Desk_init0 (fx : Fx K mg) : OkF P w K mg base 3 (He.ma K (He.ga K "Desk") "__init__") ["self", "house", "most"] 3 m_Desk_init0 := by
  obtain ⟨fd, F⟩ := fx.d_Desk_init0
  obtain ⟨fd_beginning, _, K_beginning, B_beginning, G_beginning⟩ := ok_beginning (P := P) (w := w) (base := base) fx
  refine ⟨fd, fdAt_of F, F.kp, F.bindsN (fun _ _ _ _ _ _ us hl => match us, hl with | [_, _, _], _ => rfl), def_ok (k := 2) b_Desk_init0 F sc_Desk_init0 rfl rfl rfl fun cdv A outer s H E hr => ?_⟩
  have u64 := hr.units
  have u65 := room65 hr
  have tk : Takes (cxOf (CX P w) P w K mg base ["self", "house", "most"] "Desk.__init__" (defScope st_Desk_init0) (He.ma K (He.ga K "Desk") "__init__") cdv A outer s H E) (fun cls d _ H => E cls d H) := L2.takes_of rfl rfl rfl rfl
  exact (ds_cons (d_fldset fx.c_Desk (de_v (i := 0) rfl (.inl rfl)) (de_v (i := 2) rfl (.inl rfl)) rfl)
  (ds_one (d_fldset fx.c_Desk (de_v (i := 0) rfl (.inl rfl)) (de_lst (da_cons (de_tup (da_cons (de_v (i := 1) rfl (.inl rfl)) (da_cons (de_call G_beginning (hr.mono (by decide)) rfl fx.g_beginning K_beginning B_beginning tk (da_cons (de_v (i := 1) rfl (.inl rfl)) da_nil) (.cons .nil)) da_nil)) (by decide) (Ln.ok (.cons (.cons .nil)))) da_nil) (by decide) (Ln.ok (.cons .nil))) rfl)))
theorem sc_Desk_change : FnScope ["self", "house", "picture"] ["self", "house", "picture"] (defScope st_Desk_change) := ⟨rfl, rfl, rfl, by decide +kernel, rfl, by decide +kernel, by decide +kernel⟩
theorem ok_Desk_change (fx : Fx K mg) : OkF P w K mg base 1 (He.ma K (He.ga K "Desk") "change") ["self", "house", "picture"] 3 m_Desk_change := by
  obtain ⟨fd, F⟩ := fx.d_Desk_change
  refine ⟨fd, fdAt_of F, F.kp, F.bindsN (fun _ _ _ _ _ _ us hl => match us, hl with | [_, _, _], _ => rfl), def_ok (k := 0) b_Desk_change F sc_Desk_change rfl rfl rfl fun cdv A outer s H E hr => ?_⟩
  have u64 := hr.units
  have u65 := room65 hr
  have tk : Takes (cxOf (CX P w) P w K mg base ["self", "house", "picture"] "Desk.change" (defScope st_Desk_change) (He.ma K (He.ga K "Desk") "change") cdv A outer s H E) (fun cls d _ H => E cls d H) := L2.takes_of rfl rfl rfl rfl
  exact (ds_one (d_fldset fx.c_Desk (de_v (i := 0) rfl (.inl rfl)) (de_bin opAdd (de_fld fx.c_Desk (de_v (i := 0) rfl (.inl rfl)) rfl) (de_lst (da_cons (de_tup (da_cons (de_v (i := 1) rfl (.inl rfl)) (da_cons (de_v (i := 2) rfl (.inl rfl)) da_nil)) (by decide) (Ln.ok (.cons (.cons .nil)))) da_nil) (by decide) (Ln.ok (.cons .nil)))) rfl))
theorem sc_Desk_fall : FnScope ["self", "machine", "house", "picture"] ["self", "machine"] (defScope st_Desk_fall) := ⟨rfl, rfl, rfl, by decide +kernel, rfl, by decide +kernel, by decide +kernel⟩
theorem ok_Desk_fall (fx : Fx K mg) : OkF P w K mg base 3 (He.ma K (He.ga K "Desk") "fall") ["self", "machine"] 2 m_Desk_fall := by
  obtain ⟨fd, F⟩ := fx.d_Desk_fall
  obtain ⟨fd_is_number, _, K_is_number, B_is_number, G_is_number⟩ := ok_is_number (P := P) (w := w) (base := base) fx
  obtain ⟨fd_House_len0, _, K_House_len0, B_House_len0, G_House_len0⟩ := ok_House_len0 (P := P) (w := w) (base := base) fx
  obtain ⟨fd_Desk_change, _, K_Desk_change, B_Desk_change, G_Desk_change⟩ := ok_Desk_change (P := P) (w := w) (base := base) fx
  obtain ⟨fd_behind_event, _, K_behind_event, B_behind_event, G_behind_event⟩ := ok_behind_event (P := P) (w := w) (base := base) fx
  refine ⟨fd, fdAt_of F, F.kp, F.bindsN (fun _ _ _ _ _ _ us hl => match us, hl with | [_, _], _ => rfl), def_ok (k := 2) b_Desk_fall F sc_Desk_fall rfl rfl rfl fun cdv A outer s H E hr => ?_⟩
  have u64 := hr.units
  have u65 := room65 hr
  have tk : Takes (cxOf (CX P w) P w K mg base ["self", "machine", "house", "picture"] "Desk.fall" (defScope st_Desk_fall) (He.ma K (He.ga K "Desk") "fall") cdv A outer s H E) (fun cls d _ H => E cls d H) := L2.takes_of rfl rfl rfl rfl
  exact (ds_cons (d_set (de_ix (de_fld fx.c_Desk (de_v (i := 0) rfl (.inl rfl)) rfl) (de_un unNeg de_int)) (dg_seq rfl (dgs_cons (dg_name (i := 2) sc_Desk_fall.nd rfl (.inl rfl)) (dgs_cons (dg_name (i := 3) sc_Desk_fall.nd rfl (.inl rfl)) dgs_nil)) (.cons (.cons .nil))))
  (ds_cons (d_if (dt_w (dw_or (dt_not (dt_v (de_call G_is_number (hr.mono (by decide)) rfl fx.g_is_number K_is_number B_is_number tk (da_cons (de_v (i := 1) rfl (.inl rfl)) (da_cons de_int (da_cons (de_bin opSub (de_lenO fx.c_House rfl fx.n_len (de_v (i := 2) rfl (.inl rfl)) fx.m_House_len0 G_House_len0 (hr.mono (by decide)) B_House_len0 tk) de_int) da_nil))) (.cons (.cons (.cons .nil)))))) (dw_or1 (dt_cmp (opIn u65) (de_v (i := 1) rfl (.inl rfl)) (de_ix (de_v (i := 3) rfl (.inl rfl)) de_int))))) (ds_one d_never) ds_nil)
  (ds_cons (d_if (dt_cmp opGe (de_b cLen rfl fx.n_len PySem.boot_len (da_cons (de_ix (de_v (i := 3) rfl (.inl rfl)) de_int) da_nil)) (de_fld fx.c_Desk (de_v (i := 0) rfl (.inl rfl)) rfl)) (ds_one d_never) ds_nil)
  (ds_one (d_expr (de_meth (pl := _) fx.c_Desk (de_v (i := 0) rfl (.inl rfl)) fx.m_Desk_change G_Desk_change (hr.mono (by decide)) B_Desk_change tk (da_cons (de_v (i := 2) rfl (.inl rfl)) (da_cons (de_call G_behind_event (hr.mono (by decide)) rfl fx.g_behind_event K_behind_event B_behind_event tk (da_cons (de_v (i := 2) rfl (.inl rfl)) (da_cons (de_v (i := 3) rfl (.inl rfl)) (da_cons (de_tup (da_cons de_str (da_cons (de_v (i := 1) rfl (.inl rfl)) da_nil)) (by decide) (Ln.ok (.cons (.cons .nil)))) da_nil))) (.cons (.cons (.cons .nil)))) da_nil)) (.cons (.cons .nil))))))))
theorem sc_Desk_rise : FnScope ["self", "machine", "house", "picture"] ["self", "machine"] (defScope st_Desk_rise) := ⟨rfl, rfl, rfl, by decide +kernel, rfl, by decide +kernel, by decide +kernel⟩
theorem ok_Desk_rise (fx : Fx K mg) : OkF P w K mg base 3 (He.ma K (He.ga K "Desk") "rise") ["self", "machine"] 2 m_Desk_rise := by
  obtain ⟨fd, F⟩ := fx.d_Desk_rise
  obtain ⟨fd_is_number, _, K_is_number, B_is_number, G_is_number⟩ := ok_is_number (P := P) (w := w) (base := base) fx
  obtain ⟨fd_House_len0, _, K_House_len0, B_House_len0, G_House_len0⟩ := ok_House_len0 (P := P) (w := w) (base := base) fx
  obtain ⟨fd_Desk_change, _, K_Desk_change, B_Desk_change, G_Desk_change⟩ := ok_Desk_change (P := P) (w := w) (base := base) fx
  obtain ⟨fd_behind_event, _, K_behind_event, B_behind_event, G_behind_event⟩ := ok_behind_event (P := P) (w := w) (base := base) fx
  refine ⟨fd, fdAt_of F, F.kp, F.bindsN (fun _ _ _ _ _ _ us hl => match us, hl with | [_, _], _ => rfl), def_ok (k := 2) b_Desk_rise F sc_Desk_rise rfl rfl rfl fun cdv A outer s H E hr => ?_⟩
  have u64 := hr.units
  have u65 := room65 hr
  have tk : Takes (cxOf (CX P w) P w K mg base ["self", "machine", "house", "picture"] "Desk.rise" (defScope st_Desk_rise) (He.ma K (He.ga K "Desk") "rise") cdv A outer s H E) (fun cls d _ H => E cls d H) := L2.takes_of rfl rfl rfl rfl
  exact (ds_cons (d_set (de_ix (de_fld fx.c_Desk (de_v (i := 0) rfl (.inl rfl)) rfl) (de_un unNeg de_int)) (dg_seq rfl (dgs_cons (dg_name (i := 2) sc_Desk_rise.nd rfl (.inl rfl)) (dgs_cons (dg_name (i := 3) sc_Desk_rise.nd rfl (.inl rfl)) dgs_nil)) (.cons (.cons .nil))))
  (ds_cons (d_if (dt_w (dw_or (dt_not (dt_v (de_call G_is_number (hr.mono (by decide)) rfl fx.g_is_number K_is_number B_is_number tk (da_cons (de_v (i := 1) rfl (.inl rfl)) (da_cons de_int (da_cons (de_bin opSub (de_lenO fx.c_House rfl fx.n_len (de_v (i := 2) rfl (.inl rfl)) fx.m_House_len0 G_House_len0 (hr.mono (by decide)) B_House_len0 tk) de_int) da_nil))) (.cons (.cons (.cons .nil)))))) (dw_or1 (dt_cmp (opNotIn u65) (de_v (i := 1) rfl (.inl rfl)) (de_ix (de_v (i := 3) rfl (.inl rfl)) de_int))))) (ds_one d_never) ds_nil)
  (ds_one (d_expr (de_meth (pl := _) fx.c_Desk (de_v (i := 0) rfl (.inl rfl)) fx.m_Desk_change G_Desk_change (hr.mono (by decide)) B_Desk_change tk (da_cons (de_v (i := 2) rfl (.inl rfl)) (da_cons (de_call G_behind_event (hr.mono (by decide)) rfl fx.g_behind_event K_behind_event B_behind_event tk (da_cons (de_v (i := 2) rfl (.inl rfl)) (da_cons (de_v (i := 3) rfl (.inl rfl)) (da_cons (de_tup (da_cons de_str (da_cons (de_v (i := 1) rfl (.inl rfl)) da_nil)) (by decide) (Ln.ok (.cons (.cons .nil)))) da_nil))) (.cons (.cons (.cons .nil)))) da_nil)) (.cons (.cons .nil)))))))
theorem sc_Desk_picture : FnScope ["self"] ["self"] (defScope st_Desk_picture) := ⟨rfl, rfl, rfl, by decide +kernel, rfl, by decide +kernel, by decide +kernel⟩
theorem ok_Desk_picture (fx : Fx K mg) : OkF P w K mg base 1 (He.ma K (He.ga K "Desk") "picture") ["self"] 1 m_Desk_picture := by
  obtain ⟨fd, F⟩ := fx.d_Desk_picture
  refine ⟨fd, fdAt_of F, F.kp, F.bindsN (fun _ _ _ _ _ _ us hl => match us, hl with | [_], _ => rfl), def_ok (k := 0) b_Desk_picture F sc_Desk_picture rfl rfl rfl fun cdv A outer s H E hr => ?_⟩
  have u64 := hr.units
  have u65 := room65 hr
  have tk : Takes (cxOf (CX P w) P w K mg base ["self"] "Desk.picture" (defScope st_Desk_picture) (He.ma K (He.ga K "Desk") "picture") cdv A outer s H E) (fun cls d _ H => E cls d H) := L2.takes_of rfl rfl rfl rfl
  exact (ds_one (d_ret (de_ix (de_ix (de_fld fx.c_Desk (de_v (i := 0) rfl (.inl rfl)) rfl) (de_un unNeg de_int)) de_int)))
theorem sc_Desk_moved : FnScope ["self", "service", "places", "house", "picture", "one", "other"] ["self", "service"] (defScope st_Desk_moved) := ⟨rfl, rfl, rfl, by decide +kernel, rfl, by decide +kernel, by decide +kernel⟩
theorem ok_Desk_moved (fx : Fx K mg) : OkF P w K mg base 1 (He.ma K (He.ga K "Desk") "moved") ["self", "service"] 2 m_Desk_moved := by
  obtain ⟨fd, F⟩ := fx.d_Desk_moved
  refine ⟨fd, fdAt_of F, F.kp, F.bindsN (fun _ _ _ _ _ _ us hl => match us, hl with | [_, _], _ => rfl), def_ok (k := 0) b_Desk_moved F sc_Desk_moved rfl rfl rfl fun cdv A outer s H E hr => ?_⟩
  have u64 := hr.units
  have u65 := room65 hr
  have tk : Takes (cxOf (CX P w) P w K mg base ["self", "service", "places", "house", "picture", "one", "other"] "Desk.moved" (defScope st_Desk_moved) (He.ma K (He.ga K "Desk") "moved") cdv A outer s H E) (fun cls d _ H => E cls d H) := L2.takes_of rfl rfl rfl rfl
  exact (ds_cons (d_setLc (i := 2) (own := [("house", 3), ("picture", 4)]) rfl sc_Desk_moved.nd rfl rfl rfl (di_seq (de_fld fx.c_Desk (de_v (i := 0) rfl (.inl rfl)) rfl)) (blkOk_by (N := ["self", "service", "places", "house", "picture", "one", "other"]) (sc := defScope st_Desk_moved) (by decide +kernel)) (by decide) (fun _ _ _ _ _ => (dg_seq rfl (dgs_cons (dg_name (i := 3) sc_Desk_moved.nd rfl (.inl rfl)) (dgs_cons (dg_name (i := 4) sc_Desk_moved.nd rfl (.inl rfl)) dgs_nil)) (.cons (.cons .nil)))) (fun _ _ _ _ _ => dts_nil) (fun _ _ _ _ _ => (de_ix (de_ix (de_v (i := 4) rfl (.inl rfl)) de_int) (de_v (i := 1) rfl (by first | exact .inl rfl | exact .inr (.inl rfl) | exact .inr (.inr rfl))))))
  (ds_one (d_ret (de_b (cSum rfl) rfl fx.n_sum (by decide +kernel) (da_cons (de_lc (own := [("one", 5), ("other", 6)]) rfl sc_Desk_moved.nd (di_zip rfl fx.n_zip (da_cons (de_v (i := 2) rfl (.inl rfl)) (da_cons (de_sl (de_v (i := 2) rfl (.inl rfl)) (dp_at de_int) dp_no) da_nil))) (blkOk_by (N := ["self", "service", "places", "house", "picture", "one", "other"]) (sc := defScope st_Desk_moved) (by decide +kernel)) (by decide) (fun _ _ _ _ _ => (dg_seq rfl (dgs_cons (dg_name (i := 5) sc_Desk_moved.nd rfl (.inl rfl)) (dgs_cons (dg_name (i := 6) sc_Desk_moved.nd rfl (.inl rfl)) dgs_nil)) (.cons (.cons .nil)))) (fun _ _ _ _ _ => dts_nil) (fun _ _ _ _ _ => (de_ty cInt rfl fx.n_int (by decide +kernel) (da_cons (de_cmp (opNe u64) (de_v (i := 5) rfl (.inl rfl)) (de_v (i := 6) rfl (.inl rfl))) da_nil)))) da_nil)))))
theorem sc_Desk_len0 : FnScope ["self"] ["self"] (defScope st_Desk_len0) := ⟨rfl, rfl, rfl, by decide +kernel, rfl, by decide +kernel, by decide +kernel⟩
theorem ok_Desk_len0 (fx : Fx K mg) : OkF P w K mg base 1 (He.ma K (He.ga K "Desk") "__len__") ["self"] 1 m_Desk_len0 := by
  obtain ⟨fd, F⟩ := fx.d_Desk_len0
  refine ⟨fd, fdAt_of F, F.kp, F.bindsN (fun _ _ _ _ _ _ us hl => match us, hl with | [_], _ => rfl), def_ok (k := 0) b_Desk_len0 F sc_Desk_len0 rfl rfl rfl fun cdv A outer s H E hr => ?_⟩
  have u64 := hr.units
  have u65 := room65 hr
  have tk : Takes (cxOf (CX P w) P w K mg base ["self"] "Desk.__len__" (defScope st_Desk_len0) (He.ma K (He.ga K "Desk") "__len__") cdv A outer s H E) (fun cls d _ H => E cls d H) := L2.takes_of rfl rfl rfl rfl
  exact (ds_one (d_ret (de_b cLen rfl fx.n_len PySem.boot_len (da_cons (de_sl (de_fld fx.c_Desk (de_v (i := 0) rfl (.inl rfl)) rfl) (dp_at de_int) dp_no) da_nil))))
theorem sc_Desk_undo : FnScope ["self"] ["self"] (defScope st_Desk_undo) := ⟨rfl, rfl, rfl, by decide +kernel, rfl, by decide +kernel, by decide +kernel⟩
theorem ok_Desk_undo (fx : Fx K mg) : OkF P w K mg base 1 (He.ma K (He.ga K "Desk") "undo") ["self"] 1 m_Desk_undo := by
  obtain ⟨fd, F⟩ := fx.d_Desk_undo
  refine ⟨fd, fdAt_of F, F.kp, F.bindsN (fun _ _ _ _ _ _ us hl => match us, hl with | [_], _ => rfl), def_ok (k := 0) b_Desk_undo F sc_Desk_undo rfl rfl rfl fun cdv A outer s H E hr => ?_⟩
  have u64 := hr.units
  have u65 := room65 hr
  have tk : Takes (cxOf (CX P w) P w K mg base ["self"] "Desk.undo" (defScope st_Desk_undo) (He.ma K (He.ga K "Desk") "undo") cdv A outer s H E) (fun cls d _ H => E cls d H) := L2.takes_of rfl rfl rfl rfl
  exact (ds_cons (d_if (dt_cmp (opEq u64) (de_b cLen rfl fx.n_len PySem.boot_len (da_cons (de_fld fx.c_Desk (de_v (i := 0) rfl (.inl rfl)) rfl) da_nil)) de_int) (ds_one d_never) ds_nil)
  (ds_one (d_fldset fx.c_Desk (de_v (i := 0) rfl (.inl rfl)) (de_sl (de_fld fx.c_Desk (de_v (i := 0) rfl (.inl rfl)) rfl) dp_no (dp_at (de_un unNeg de_int))) rfl)))
theorem sc_law : FnScope ["script", "feed", "many", "house", "history", "run", "found", "desk", "turn"] ["script"] (defScope st_law) := ⟨rfl, rfl, rfl, by decide +kernel, rfl, by decide +kernel, by decide +kernel⟩
theorem ok_law (fx : Fx K mg) : OkF P w K mg base 7 (He.ga K "law") ["script"] 1 m_law := by
  obtain ⟨fd, F⟩ := fx.d_law
  obtain ⟨fd_law_feed, _, K_law_feed, B_law_feed, G_law_feed⟩ := ok_law_feed (P := P) (w := w) (base := base) fx
  obtain ⟨fd_law_take, _, K_law_take, B_law_take, G_law_take⟩ := ok_law_take (P := P) (w := w) (base := base) fx
  obtain ⟨fd_House_init0, _, K_House_init0, B_House_init0, G_House_init0⟩ := ok_House_init0 (P := P) (w := w) (base := base) fx
  obtain ⟨fd_run_of, _, K_run_of, B_run_of, G_run_of⟩ := ok_run_of (P := P) (w := w) (base := base) fx
  obtain ⟨fd_Run_load, _, K_Run_load, B_Run_load, G_Run_load⟩ := ok_Run_load (P := P) (w := w) (base := base) fx
  obtain ⟨fd_Run_events, _, K_Run_events, B_Run_events, G_Run_events⟩ := ok_Run_events (P := P) (w := w) (base := base) fx
  obtain ⟨fd_Run_picture, _, K_Run_picture, B_Run_picture, G_Run_picture⟩ := ok_Run_picture (P := P) (w := w) (base := base) fx
  obtain ⟨fd_is_history, ds_is_history, K_is_history, V_is_history, B_is_history, KB_is_history, G_is_history⟩ := ok_is_history (P := P) (w := w) (base := base) fx
  obtain ⟨fd_moves, _, K_moves, B_moves, G_moves⟩ := ok_moves (P := P) (w := w) (base := base) fx
  obtain ⟨fd_surge, _, K_surge, B_surge, G_surge⟩ := ok_surge (P := P) (w := w) (base := base) fx
  obtain ⟨fd_Desk_init0, _, K_Desk_init0, B_Desk_init0, G_Desk_init0⟩ := ok_Desk_init0 (P := P) (w := w) (base := base) fx
  obtain ⟨fd_Desk_fall, _, K_Desk_fall, B_Desk_fall, G_Desk_fall⟩ := ok_Desk_fall (P := P) (w := w) (base := base) fx
  obtain ⟨fd_Desk_rise, _, K_Desk_rise, B_Desk_rise, G_Desk_rise⟩ := ok_Desk_rise (P := P) (w := w) (base := base) fx
  obtain ⟨fd_Desk_picture, _, K_Desk_picture, B_Desk_picture, G_Desk_picture⟩ := ok_Desk_picture (P := P) (w := w) (base := base) fx
  obtain ⟨fd_Desk_moved, _, K_Desk_moved, B_Desk_moved, G_Desk_moved⟩ := ok_Desk_moved (P := P) (w := w) (base := base) fx
  obtain ⟨fd_Desk_len0, _, K_Desk_len0, B_Desk_len0, G_Desk_len0⟩ := ok_Desk_len0 (P := P) (w := w) (base := base) fx
  obtain ⟨fd_Desk_undo, _, K_Desk_undo, B_Desk_undo, G_Desk_undo⟩ := ok_Desk_undo (P := P) (w := w) (base := base) fx
  refine ⟨fd, fdAt_of F, F.kp, F.bindsN (fun _ _ _ _ _ _ us hl => match us, hl with | [_], _ => rfl), def_ok (k := 6) b_law F sc_law rfl rfl rfl fun cdv A outer s H E hr => ?_⟩
  have u64 := hr.units
  have u65 := room65 hr
  have tk : Takes (cxOf (CX P w) P w K mg base ["script", "feed", "many", "house", "history", "run", "found", "desk", "turn"] "law" (defScope st_law) (He.ga K "law") cdv A outer s H E) (fun cls d _ H => E cls d H) := L2.takes_of rfl rfl rfl rfl
  exact (ds_cons (d_set (de_call G_law_feed (hr.mono (by decide)) rfl fx.g__law_feed K_law_feed B_law_feed tk (da_cons (de_v (i := 0) rfl (.inl rfl)) (da_cons de_int da_nil)) (.cons (.cons .nil))) (dg_name (i := 1) sc_law.nd rfl (.inl rfl)))
  (ds_cons (d_set (de_bin opAdd de_int (de_call G_law_take (hr.mono (by decide)) rfl fx.g__law_take K_law_take B_law_take tk (da_cons (de_v (i := 1) rfl (.inl rfl)) (da_cons de_int da_nil)) (.cons (.cons .nil)))) (dg_name (i := 2) sc_law.nd rfl (.inl rfl)))
  (ds_cons (d_set (de_make fx.c_House fx.k_House G_House_init0 (hr.mono (by decide)) rfl rfl B_House_init0 tk (da_cons (de_lst (da_cons de_int (da_cons de_int da_nil)) (by decide) (Ln.ok (.cons (.cons .nil)))) (da_cons (de_lst (da_cons (de_tup (da_cons de_int (da_cons (de_tup (da_cons de_int (da_cons de_int da_nil)) (by decide) (Ln.ok (.cons (.cons .nil)))) (da_cons de_str da_nil))) (by decide) (Ln.ok (.cons (.cons (.cons .nil))))) (da_cons (de_tup (da_cons de_int (da_cons (de_tup (da_cons de_int da_nil) (by decide) (Ln.ok (.cons .nil))) (da_cons de_str da_nil))) (by decide) (Ln.ok (.cons (.cons (.cons .nil))))) da_nil)) (by decide) (Ln.ok (.cons (.cons .nil)))) da_nil)) (.cons (.cons .nil))) (dg_name (i := 3) sc_law.nd rfl (.inl rfl)))
  (ds_cons (d_set (de_bin opMul (de_lst (da_cons (de_tup (da_cons de_str (da_cons de_int da_nil)) (by decide) (Ln.ok (.cons (.cons .nil)))) (da_cons (de_tup (da_cons de_str (da_cons de_int da_nil)) (by decide) (Ln.ok (.cons (.cons .nil)))) da_nil)) (by decide) (Ln.ok (.cons (.cons .nil)))) (de_v (i := 2) rfl (.inl rfl))) (dg_name (i := 4) sc_law.nd rfl (.inl rfl)))
  (ds_cons (d_set (de_call G_run_of (hr.mono (by decide)) rfl fx.g_run_of K_run_of B_run_of tk (da_cons (de_v (i := 3) rfl (.inl rfl)) (da_cons (de_bin opAdd (de_v (i := 4) rfl (.inl rfl)) (de_lst (da_cons (de_tup (da_cons de_str (da_cons de_int da_nil)) (by decide) (Ln.ok (.cons (.cons .nil)))) da_nil) (by decide) (Ln.ok (.cons .nil)))) da_nil)) (.cons (.cons .nil))) (dg_name (i := 5) sc_law.nd rfl (.inl rfl)))
  (ds_cons (d_set (de_lst (da_cons (de_cmp (opEq u64) (de_meth0 (pl := _) fx.c_Run (de_v (i := 5) rfl (.inl rfl)) fx.m_Run_picture G_Run_picture (hr.mono (by decide)) B_Run_picture tk) (de_tup (da_cons (de_tup (da_cons de_int da_nil) (by decide) (Ln.ok (.cons .nil))) (da_cons (de_tup (da_cons de_int (da_cons (de_un unNeg de_int) da_nil)) (by decide) (Ln.ok (.cons (.cons .nil)))) da_nil)) (by decide) (Ln.ok (.cons (.cons .nil))))) (da_cons (de_cmp (opEq u64) (de_b cLen rfl fx.n_len PySem.boot_len (da_cons (de_meth0 (pl := _) fx.c_Run (de_v (i := 5) rfl (.inl rfl)) fx.m_Run_events G_Run_events (hr.mono (by decide)) B_Run_events tk) da_nil)) (de_bin opAdd (de_bin opMul de_int (de_v (i := 2) rfl (.inl rfl))) de_int)) (da_cons (de_cmp (opEq u64) (de_meth (pl := _) fx.c_Run (de_v (i := 5) rfl (.inl rfl)) fx.m_Run_load G_Run_load (hr.mono (by decide)) B_Run_load tk (da_cons de_int da_nil) (.cons .nil)) de_int) da_nil))) (by decide) (Ln.ok (.cons (.cons (.cons .nil))))) (dg_name (i := 6) sc_law.nd rfl (.inl rfl)))
  (ds_cons (d_set (de_bin opAdd (de_v (i := 6) rfl (.inl rfl)) (de_lst (da_cons (de_callK (n := 2) G_is_history (hr.mono (by decide)) rfl fx.g_is_history K_is_history KB_is_history tk (da_cons (de_v (i := 3) rfl (.inl rfl)) (da_cons (de_v (i := 4) rfl (.inl rfl)) da_nil)) (dk_cons de_int dk_nil) (.cons (.cons .nil)) (.cons .nil)) (da_cons (de_cmp opIs (de_callD (n := 2) (ns := [5]) G_is_history (hr.mono (by decide)) rfl fx.g_is_history K_is_history V_is_history B_is_history tk (da_cons (de_v (i := 3) rfl (.inl rfl)) (da_cons (de_bin opAdd (de_v (i := 4) rfl (.inl rfl)) (de_lst (da_cons (de_tup (da_cons de_str (da_cons de_int da_nil)) (by decide) (Ln.ok (.cons (.cons .nil)))) da_nil) (by decide) (Ln.ok (.cons .nil)))) da_nil)) (.cons (.cons .nil))) de_bl) da_nil)) (by decide) (Ln.ok (.cons (.cons .nil))))) (dg_name (i := 6) sc_law.nd rfl (.inl rfl)))
  (ds_cons (d_set (de_bin opAdd (de_v (i := 6) rfl (.inl rfl)) (de_lst (da_cons (de_cmp (opEq u64) (de_call G_moves (hr.mono (by decide)) rfl fx.g_moves K_moves B_moves tk (da_cons (de_v (i := 3) rfl (.inl rfl)) (da_cons de_int (da_cons (de_v (i := 4) rfl (.inl rfl)) da_nil))) (.cons (.cons (.cons .nil)))) (de_bin opMul de_int (de_v (i := 2) rfl (.inl rfl)))) (da_cons (de_cmp (opEq u64) (de_call G_moves (hr.mono (by decide)) rfl fx.g_moves K_moves B_moves tk (da_cons (de_v (i := 3) rfl (.inl rfl)) (da_cons de_int (da_cons (de_bin opAdd (de_sl (de_v (i := 4) rfl (.inl rfl)) (dp_at de_int) (dp_at de_int)) (de_v (i := 4) rfl (.inl rfl))) da_nil))) (.cons (.cons (.cons .nil)))) (de_bin opMul de_int (de_v (i := 2) rfl (.inl rfl)))) da_nil)) (by decide) (Ln.ok (.cons (.cons .nil))))) (dg_name (i := 6) sc_law.nd rfl (.inl rfl)))
  (ds_cons (d_expr (de_mtL PySem.F.slot_list_append PySem.F.type_list_append mAppend (de_v (i := 6) rfl (.inl rfl)) (da_cons (de_cmp (opEq u64) (de_call G_surge (hr.mono (by decide)) rfl fx.g_surge K_surge B_surge tk (da_cons (de_v (i := 3) rfl (.inl rfl)) (da_cons (de_v (i := 4) rfl (.inl rfl)) (da_cons (de_tup (da_cons de_int da_nil) (by decide) (Ln.ok (.cons .nil))) da_nil))) (.cons (.cons (.cons .nil)))) (de_tup (da_cons (de_lst (da_cons (de_tup (da_cons de_int da_nil) (by decide) (Ln.ok (.cons .nil))) da_nil) (by decide) (Ln.ok (.cons .nil))) (da_cons (de_tup (da_cons (de_tup (da_cons de_int da_nil) (by decide) (Ln.ok (.cons .nil))) (da_cons (de_tup (da_cons de_int (da_cons (de_un unNeg de_int) da_nil)) (by decide) (Ln.ok (.cons (.cons .nil)))) da_nil)) (by decide) (Ln.ok (.cons (.cons .nil)))) da_nil)) (by decide) (Ln.ok (.cons (.cons .nil))))) da_nil)))
  (ds_cons (d_set (de_make fx.c_Desk fx.k_Desk G_Desk_init0 (hr.mono (by decide)) rfl rfl B_Desk_init0 tk (da_cons (de_v (i := 3) rfl (.inl rfl)) (da_cons de_int da_nil)) (.cons (.cons .nil))) (dg_name (i := 7) sc_law.nd rfl (.inl rfl)))
  (ds_cons (d_for (passes_of rfl) rfl (di_range1 rfl fx.n_range (da_cons de_int da_nil)) (dg_name (i := 8) sc_law.nd rfl (.inl rfl)) (ds_cons (d_expr (de_meth (pl := _) fx.c_Desk (de_v (i := 7) rfl (.inl rfl)) fx.m_Desk_fall G_Desk_fall (hr.mono (by decide)) B_Desk_fall tk (da_cons de_int da_nil) (.cons .nil)))
  (ds_one (d_expr (de_meth (pl := _) fx.c_Desk (de_v (i := 7) rfl (.inl rfl)) fx.m_Desk_rise G_Desk_rise (hr.mono (by decide)) B_Desk_rise tk (da_cons de_int da_nil) (.cons .nil))))))
  (ds_cons (d_set (de_bin opAdd (de_v (i := 6) rfl (.inl rfl)) (de_lst (da_cons (de_cmp (opEq u64) (de_lenO fx.c_Desk rfl fx.n_len (de_v (i := 7) rfl (.inl rfl)) fx.m_Desk_len0 G_Desk_len0 (hr.mono (by decide)) B_Desk_len0 tk) de_int) (da_cons (de_cmp (opEq u64) (de_meth (pl := _) fx.c_Desk (de_v (i := 7) rfl (.inl rfl)) fx.m_Desk_moved G_Desk_moved (hr.mono (by decide)) B_Desk_moved tk (da_cons de_int da_nil) (.cons .nil)) de_int) (da_cons (de_cmp (opEq u64) (de_meth0 (pl := _) fx.c_Desk (de_v (i := 7) rfl (.inl rfl)) fx.m_Desk_picture G_Desk_picture (hr.mono (by decide)) B_Desk_picture tk) (de_tup (da_cons (de_tup da_nil (by decide) (Ln.ok .nil)) (da_cons (de_tup (da_cons de_int (da_cons de_int da_nil)) (by decide) (Ln.ok (.cons (.cons .nil)))) da_nil)) (by decide) (Ln.ok (.cons (.cons .nil))))) da_nil))) (by decide) (Ln.ok (.cons (.cons (.cons .nil)))))) (dg_name (i := 6) sc_law.nd rfl (.inl rfl)))
  (ds_cons (d_for (passes_of rfl) rfl (di_range1 rfl fx.n_range (da_cons de_int da_nil)) (dg_name (i := 8) sc_law.nd rfl (.inl rfl)) (ds_one (d_expr (de_meth0 (pl := _) fx.c_Desk (de_v (i := 7) rfl (.inl rfl)) fx.m_Desk_undo G_Desk_undo (hr.mono (by decide)) B_Desk_undo tk))))
  (ds_one (d_ret (de_cmp (opEq u64) (de_bin opAdd (de_v (i := 6) rfl (.inl rfl)) (de_lst (da_cons (de_cmp (opEq u64) (de_meth0 (pl := _) fx.c_Desk (de_v (i := 7) rfl (.inl rfl)) fx.m_Desk_picture G_Desk_picture (hr.mono (by decide)) B_Desk_picture tk) (de_tup (da_cons (de_tup (da_cons de_int da_nil) (by decide) (Ln.ok (.cons .nil))) (da_cons (de_tup (da_cons de_int (da_cons (de_un unNeg de_int) da_nil)) (by decide) (Ln.ok (.cons (.cons .nil)))) da_nil)) (by decide) (Ln.ok (.cons (.cons .nil))))) (da_cons (de_cmp (opEq u64) (de_lenO fx.c_Desk rfl fx.n_len (de_v (i := 7) rfl (.inl rfl)) fx.m_Desk_len0 G_Desk_len0 (hr.mono (by decide)) B_Desk_len0 tk) de_int) da_nil)) (by decide) (Ln.ok (.cons (.cons .nil))))) (de_bin opMul (de_lst (da_cons de_bl da_nil) (by decide) (Ln.ok (.cons .nil))) de_int)))))))))))))))))
end
end Dl
set_option Elab.async false
set_option linter.all false
set_option maxRecDepth 100000
set_option maxHeartbeats 0
namespace Dl
open PySem PySem.Spec PyProof.Rows L2
def dd_law_feed : He.DefD := ⟨("_law_feed", none), "_law_feed", "_law_feed", defArgs st_law_feed, defBody st_law_feed, defScope st_law_feed, [], []⟩
def dd_law_take : He.DefD := ⟨("_law_take", none), "_law_take", "_law_take", defArgs st_law_take, defBody st_law_take, defScope st_law_take, [], []⟩
def dd_is_number : He.DefD := ⟨("is_number", none), "is_number", "is_number", defArgs st_is_number, defBody st_is_number, defScope st_is_number, [], []⟩
def dd_is_order : He.DefD := ⟨("is_order", none), "is_order", "is_order", defArgs st_is_order, defBody st_is_order, defScope st_is_order, [], []⟩
def dd_is_service : He.DefD := ⟨("is_service", none), "is_service", "is_service", defArgs st_is_service, defBody st_is_service, defScope st_is_service, [], []⟩
def dd_House_init0 : He.DefD := ⟨("House", some "__init__"), "__init__", "House.__init__", defArgs st_House_init0, defBody st_House_init0, defScope st_House_init0, [], []⟩
def dd_House_services : He.DefD := ⟨("House", some "services"), "services", "House.services", defArgs st_House_services, defBody st_House_services, defScope st_House_services, [], []⟩
def dd_beginning : He.DefD := ⟨("beginning", none), "beginning", "beginning", defArgs st_beginning, defBody st_beginning, defScope st_beginning, [], []⟩
def dd_Run_init0 : He.DefD := ⟨("Run", some "__init__"), "__init__", "Run.__init__", defArgs st_Run_init0, defBody st_Run_init0, defScope st_Run_init0, [], []⟩
def dd_first_living : He.DefD := ⟨("first_living", none), "first_living", "first_living", defArgs st_first_living, defBody st_first_living, defScope st_first_living, [], []⟩
def dd_is_moved : He.DefD := ⟨("is_moved", none), "is_moved", "is_moved", defArgs st_is_moved, defBody st_is_moved, defScope st_is_moved, [], []⟩
def dd_behind_event : He.DefD := ⟨("behind_event", none), "behind_event", "behind_event", defArgs st_behind_event, defBody st_behind_event, defScope st_behind_event, [], []⟩
def dd_Run_change : He.DefD := ⟨("Run", some "change"), "change", "Run.change", defArgs st_Run_change, defBody st_Run_change, defScope st_Run_change, [], []⟩
def dd_run_of : He.DefD := ⟨("run_of", none), "run_of", "run_of", defArgs st_run_of, defBody st_run_of, defScope st_run_of, [], []⟩
def dd_load_in : He.DefD := ⟨("load_in", none), "load_in", "load_in", defArgs st_load_in, defBody st_load_in, defScope st_load_in, [], []⟩
def dd_Run_load : He.DefD := ⟨("Run", some "load"), "load", "Run.load", defArgs st_Run_load, defBody st_Run_load, defScope st_Run_load, [], []⟩
def dd_Run_events : He.DefD := ⟨("Run", some "events"), "events", "Run.events", defArgs st_Run_events, defBody st_Run_events, defScope st_Run_events, [], []⟩
def dd_Run_picture : He.DefD := ⟨("Run", some "picture"), "picture", "Run.picture", defArgs st_Run_picture, defBody st_Run_picture, defScope st_Run_picture, [], []⟩
def dd_House_len0 : He.DefD := ⟨("House", some "__len__"), "__len__", "House.__len__", defArgs st_House_len0, defBody st_House_len0, defScope st_House_len0, [], []⟩
def dd_is_history : He.DefD := ⟨("is_history", none), "is_history", "is_history", defArgs st_is_history, defBody st_is_history, defScope st_is_history, [], [("most", .int 5)]⟩
def dd_moves : He.DefD := ⟨("moves", none), "moves", "moves", defArgs st_moves, defBody st_moves, defScope st_moves, [], []⟩
def dd_House_strengths : He.DefD := ⟨("House", some "strengths"), "strengths", "House.strengths", defArgs st_House_strengths, defBody st_House_strengths, defScope st_House_strengths, [], []⟩
def dd_strained : He.DefD := ⟨("strained", none), "strained", "strained", defArgs st_strained, defBody st_strained, defScope st_strained, [], []⟩
def dd_surge_from : He.DefD := ⟨("surge_from", none), "surge_from", "surge_from", defArgs st_surge_from, defBody st_surge_from, defScope st_surge_from, [], []⟩
def dd_surge : He.DefD := ⟨("surge", none), "surge", "surge", defArgs st_surge, defBody st_surge, defScope st_surge, [], []⟩
def dd_Desk_init0 : He.DefD := ⟨("Desk", some "__init__"), "__init__", "Desk.__init__", defArgs st_Desk_init0, defBody st_Desk_init0, defScope st_Desk_init0, [], []⟩
def dd_Desk_change : He.DefD := ⟨("Desk", some "change"), "change", "Desk.change", defArgs st_Desk_change, defBody st_Desk_change, defScope st_Desk_change, [], []⟩
def dd_Desk_fall : He.DefD := ⟨("Desk", some "fall"), "fall", "Desk.fall", defArgs st_Desk_fall, defBody st_Desk_fall, defScope st_Desk_fall, [], []⟩
def dd_Desk_rise : He.DefD := ⟨("Desk", some "rise"), "rise", "Desk.rise", defArgs st_Desk_rise, defBody st_Desk_rise, defScope st_Desk_rise, [], []⟩
def dd_Desk_picture : He.DefD := ⟨("Desk", some "picture"), "picture", "Desk.picture", defArgs st_Desk_picture, defBody st_Desk_picture, defScope st_Desk_picture, [], []⟩
def dd_Desk_moved : He.DefD := ⟨("Desk", some "moved"), "moved", "Desk.moved", defArgs st_Desk_moved, defBody st_Desk_moved, defScope st_Desk_moved, [], []⟩
def dd_Desk_len0 : He.DefD := ⟨("Desk", some "__len__"), "__len__", "Desk.__len__", defArgs st_Desk_len0, defBody st_Desk_len0, defScope st_Desk_len0, [], []⟩
def dd_Desk_undo : He.DefD := ⟨("Desk", some "undo"), "undo", "Desk.undo", defArgs st_Desk_undo, defBody st_Desk_undo, defScope st_Desk_undo, [], []⟩
def dd_law : He.DefD := ⟨("law", none), "law", "law", defArgs st_law, defBody st_law, defScope st_law, [], []⟩
def fn : List He.DefD := [dd_law_feed, dd_law_take, dd_is_number, dd_is_order, dd_is_service, dd_House_init0, dd_House_services, dd_beginning, dd_Run_init0, dd_first_living, dd_is_moved, dd_behind_event, dd_Run_change, dd_run_of, dd_load_in, dd_Run_load, dd_Run_events, dd_Run_picture, dd_House_len0, dd_is_history, dd_moves, dd_House_strengths, dd_strained, dd_surge_from, dd_surge, dd_Desk_init0, dd_Desk_change, dd_Desk_fall, dd_Desk_rise, dd_Desk_picture, dd_Desk_moved, dd_Desk_len0, dd_Desk_undo, dd_law]
def fa : List He.Fa := [.glo "_law_feed", .glo "_law_take", .glo "beginning", .glo "behind_event", .glo "first_living", .glo "is_history", .glo "is_moved", .glo "is_number", .glo "is_order", .glo "is_service", .glo "load_in", .glo "moves", .glo "run_of", .glo "strained", .glo "surge", .glo "surge_from", .free "abs", .free "all", .free "bool", .free "enumerate", .free "int", .free "isinstance", .free "len", .free "list", .free "max", .free "range", .free "set", .free "sorted", .free "str", .free "sum", .free "tuple", .free "zip", .int "GREATEST" 1000000000, .int "MOST_MACHINES" 5, .int "MOST_SERVICES" 5, .int "STRONGEST" 10000000000, .glo "RULES", .noat "Desk" "states", .noat "Desk" "most", .glo "Desk", .cls "Desk", .noat "House" "runs", .noat "House" "bears", .glo "House", .cls "House", .noat "Run" "done", .noat "Run" "now", .noat "Run" "house", .glo "Run", .cls "Run", .mkr "Desk", .mkr "House", .mkr "Run", .meth "Desk" "__len__", .meth "Desk" "change", .meth "Desk" "fall", .meth "Desk" "moved", .meth "Desk" "picture", .meth "Desk" "rise", .meth "Desk" "undo", .meth "House" "__len__", .meth "House" "services", .meth "House" "strengths", .meth "Run" "change", .meth "Run" "events", .meth "Run" "load", .meth "Run" "picture", .glo "law"]
def tu : List Tu := [("RULES", [.str "first", .str "home", .str "stay"])]
abbrev Rw : PySem.W.OpenRow := PySem.W.OpenLaw.row PySem.Challenge.rw_nextalive_k07_long_histories
abbrev hk : PySem.W.Hook := hookX 4 fa fn tu
def ob (s : PySem.W.SharedT) : He.AlD := obsXG 4 fa fn tu (HandSHeadRun.getT s)
theorem ob_eq (s : PySem.W.SharedT) : ob s = hk.obs s.abs := obsXG_eq (HandSHeadRun.getT_eq s)
def loose : List Str := (["_wall", "__name__", "HouseError", "BadHouse", "NoFall", "NoRise", "TooManyDown", "NothingDone", "MOST_MACHINES", "MOST_SERVICES", "GREATEST", "STRONGEST", "RULES", "is_number", "is_order", "is_service"] : List Str) ++ (["House", "first_living", "beginning", "is_moved", "behind_event", "load_in", "Run", "run_of", "is_history", "strained", "surge_from", "surge", "Desk", "moves", "_law_feed", "_law_take"] : List Str) ++ (["_law_pick"] : List Str)
theorem run_ (w : World) : HandSHeadRun.RunEq Rw (PySem.W.view Rw.prog [39]) hk ob 6000 loose w := by
  intro os
  kernel_rfl
theorem fx_of {K : PySem.W.Frag} {h : Heap} {mg : Str → Option Value} (X : K.In h) (G : h.Ns mainGlobals mg) (c : SaysX fa fn tu K) : Fx K mg where
  d_law_feed := c.def_ 0 (d := dd_law_feed) rfl
  d_law_take := c.def_ 1 (d := dd_law_take) rfl
  d_is_number := c.def_ 2 (d := dd_is_number) rfl
  d_is_order := c.def_ 3 (d := dd_is_order) rfl
  d_is_service := c.def_ 4 (d := dd_is_service) rfl
  d_House_init0 := c.def_ 5 (d := dd_House_init0) rfl
  d_House_services := c.def_ 6 (d := dd_House_services) rfl
  d_beginning := c.def_ 7 (d := dd_beginning) rfl
  d_Run_init0 := c.def_ 8 (d := dd_Run_init0) rfl
  d_first_living := c.def_ 9 (d := dd_first_living) rfl
  d_is_moved := c.def_ 10 (d := dd_is_moved) rfl
  d_behind_event := c.def_ 11 (d := dd_behind_event) rfl
  d_Run_change := c.def_ 12 (d := dd_Run_change) rfl
  d_run_of := c.def_ 13 (d := dd_run_of) rfl
  d_load_in := c.def_ 14 (d := dd_load_in) rfl
  d_Run_load := c.def_ 15 (d := dd_Run_load) rfl
  d_Run_events := c.def_ 16 (d := dd_Run_events) rfl
  d_Run_picture := c.def_ 17 (d := dd_Run_picture) rfl
  d_House_len0 := c.def_ 18 (d := dd_House_len0) rfl
  d_is_history := c.def_ 19 (d := dd_is_history) rfl
  d_moves := c.def_ 20 (d := dd_moves) rfl
  d_House_strengths := c.def_ 21 (d := dd_House_strengths) rfl
  d_strained := c.def_ 22 (d := dd_strained) rfl
  d_surge_from := c.def_ 23 (d := dd_surge_from) rfl
  d_surge := c.def_ 24 (d := dd_surge) rfl
  d_Desk_init0 := c.def_ 25 (d := dd_Desk_init0) rfl
  d_Desk_change := c.def_ 26 (d := dd_Desk_change) rfl
  d_Desk_fall := c.def_ 27 (d := dd_Desk_fall) rfl
  d_Desk_rise := c.def_ 28 (d := dd_Desk_rise) rfl
  d_Desk_picture := c.def_ 29 (d := dd_Desk_picture) rfl
  d_Desk_moved := c.def_ 30 (d := dd_Desk_moved) rfl
  d_Desk_len0 := c.def_ 31 (d := dd_Desk_len0) rfl
  d_Desk_undo := c.def_ 32 (d := dd_Desk_undo) rfl
  d_law := c.def_ 33 (d := dd_law) rfl
  g__law_feed := He.glo_ok X G (c.fact 0 (f := .glo "_law_feed") rfl)
  g__law_take := He.glo_ok X G (c.fact 1 (f := .glo "_law_take") rfl)
  g_beginning := He.glo_ok X G (c.fact 2 (f := .glo "beginning") rfl)
  g_behind_event := He.glo_ok X G (c.fact 3 (f := .glo "behind_event") rfl)
  g_first_living := He.glo_ok X G (c.fact 4 (f := .glo "first_living") rfl)
  g_is_history := He.glo_ok X G (c.fact 5 (f := .glo "is_history") rfl)
  g_is_moved := He.glo_ok X G (c.fact 6 (f := .glo "is_moved") rfl)
  g_is_number := He.glo_ok X G (c.fact 7 (f := .glo "is_number") rfl)
  g_is_order := He.glo_ok X G (c.fact 8 (f := .glo "is_order") rfl)
  g_is_service := He.glo_ok X G (c.fact 9 (f := .glo "is_service") rfl)
  g_load_in := He.glo_ok X G (c.fact 10 (f := .glo "load_in") rfl)
  g_moves := He.glo_ok X G (c.fact 11 (f := .glo "moves") rfl)
  g_run_of := He.glo_ok X G (c.fact 12 (f := .glo "run_of") rfl)
  g_strained := He.glo_ok X G (c.fact 13 (f := .glo "strained") rfl)
  g_surge := He.glo_ok X G (c.fact 14 (f := .glo "surge") rfl)
  g_surge_from := He.glo_ok X G (c.fact 15 (f := .glo "surge_from") rfl)
  n_abs := He.free_ok X G (c.fact 16 (f := .free "abs") rfl)
  n_all := He.free_ok X G (c.fact 17 (f := .free "all") rfl)
  n_bool := He.free_ok X G (c.fact 18 (f := .free "bool") rfl)
  n_enumerate := He.free_ok X G (c.fact 19 (f := .free "enumerate") rfl)
  n_int := He.free_ok X G (c.fact 20 (f := .free "int") rfl)
  n_isinstance := He.free_ok X G (c.fact 21 (f := .free "isinstance") rfl)
  n_len := He.free_ok X G (c.fact 22 (f := .free "len") rfl)
  n_list := He.free_ok X G (c.fact 23 (f := .free "list") rfl)
  n_max := He.free_ok X G (c.fact 24 (f := .free "max") rfl)
  n_range := He.free_ok X G (c.fact 25 (f := .free "range") rfl)
  n_set := He.free_ok X G (c.fact 26 (f := .free "set") rfl)
  n_sorted := He.free_ok X G (c.fact 27 (f := .free "sorted") rfl)
  n_str := He.free_ok X G (c.fact 28 (f := .free "str") rfl)
  n_sum := He.free_ok X G (c.fact 29 (f := .free "sum") rfl)
  n_tuple := He.free_ok X G (c.fact 30 (f := .free "tuple") rfl)
  n_zip := He.free_ok X G (c.fact 31 (f := .free "zip") rfl)
  i_GREATEST := He.int_ok X G (c.fact 32 (f := .int "GREATEST" 1000000000) rfl)
  i_MOST_MACHINES := He.int_ok X G (c.fact 33 (f := .int "MOST_MACHINES" 5) rfl)
  i_MOST_SERVICES := He.int_ok X G (c.fact 34 (f := .int "MOST_SERVICES" 5) rfl)
  i_STRONGEST := He.int_ok X G (c.fact 35 (f := .int "STRONGEST" 10000000000) rfl)
  g_RULES := He.glo_ok X G (c.fact 36 (f := .glo "RULES") rfl)
  q_RULES := fun H => c.tup 0 (q := ("RULES", [.str "first", .str "home", .str "stay"])) rfl H
  c_Desk := ⟨He.glo_ok X G (c.fact 39 (f := .glo "Desk") rfl), He.cls_ok (c.fact 40 (f := .cls "Desk") rfl), by decide, (no_cons (He.noat_ok (c.fact 38 (f := .noat "Desk" "most") rfl)) (no_cons (He.noat_ok (c.fact 37 (f := .noat "Desk" "states") rfl)) no_nil))⟩
  c_House := ⟨He.glo_ok X G (c.fact 43 (f := .glo "House") rfl), He.cls_ok (c.fact 44 (f := .cls "House") rfl), by decide, (no_cons (He.noat_ok (c.fact 42 (f := .noat "House" "bears") rfl)) (no_cons (He.noat_ok (c.fact 41 (f := .noat "House" "runs") rfl)) no_nil))⟩
  c_Run := ⟨He.glo_ok X G (c.fact 48 (f := .glo "Run") rfl), He.cls_ok (c.fact 49 (f := .cls "Run") rfl), by decide, (no_cons (He.noat_ok (c.fact 47 (f := .noat "Run" "house") rfl)) (no_cons (He.noat_ok (c.fact 46 (f := .noat "Run" "now") rfl)) (no_cons (He.noat_ok (c.fact 45 (f := .noat "Run" "done") rfl)) no_nil)))⟩
  k_Desk := He.mkr_ok (c.fact 50 (f := .mkr "Desk") rfl)
  k_House := He.mkr_ok (c.fact 51 (f := .mkr "House") rfl)
  k_Run := He.mkr_ok (c.fact 52 (f := .mkr "Run") rfl)
  m_Desk_len0 := He.meth_ok (c.fact 53 (f := .meth "Desk" "__len__") rfl)
  m_Desk_change := He.meth_ok (c.fact 54 (f := .meth "Desk" "change") rfl)
  m_Desk_fall := He.meth_ok (c.fact 55 (f := .meth "Desk" "fall") rfl)
  m_Desk_moved := He.meth_ok (c.fact 56 (f := .meth "Desk" "moved") rfl)
  m_Desk_picture := He.meth_ok (c.fact 57 (f := .meth "Desk" "picture") rfl)
  m_Desk_rise := He.meth_ok (c.fact 58 (f := .meth "Desk" "rise") rfl)
  m_Desk_undo := He.meth_ok (c.fact 59 (f := .meth "Desk" "undo") rfl)
  m_House_len0 := He.meth_ok (c.fact 60 (f := .meth "House" "__len__") rfl)
  m_House_services := He.meth_ok (c.fact 61 (f := .meth "House" "services") rfl)
  m_House_strengths := He.meth_ok (c.fact 62 (f := .meth "House" "strengths") rfl)
  m_Run_change := He.meth_ok (c.fact 63 (f := .meth "Run" "change") rfl)
  m_Run_events := He.meth_ok (c.fact 64 (f := .meth "Run" "events") rfl)
  m_Run_load := He.meth_ok (c.fact 65 (f := .meth "Run" "load") rfl)
  m_Run_picture := He.meth_ok (c.fact 66 (f := .meth "Run" "picture") rfl)
end Dl
set_option Elab.async false
set_option linter.all false
set_option maxRecDepth 100000
set_option maxHeartbeats 0
open PySem PySem.W PySem.Calls PyProof.Rows
theorem PySem.Challenge.cw_nextalive_k07_long_histories_holds : PySem.Challenge.rw_nextalive_k07_long_histories.Holds := by
  w_on; o_law
  refine HandSHeadRun.head_any (r := OpenLaw.row PySem.Challenge.rw_nextalive_k07_long_histories) (q := view (OpenLaw.row PySem.Challenge.rw_nextalive_k07_long_histories).prog [39]) (H := Dl.hk) (ob := Dl.ob) (M := 6000) (loose := Dl.loose) (d := HandSHeadRun.topDef (OpenLaw.row PySem.Challenge.rw_nextalive_k07_long_histories).prog 39) (kwd := []) Dl.ob_eq
    (by kernel_rfl) (fun s => by kernel_rfl) Dl.run_ (by kernel_rfl) (by kernel_rfl) (by kernel_rfl) (by rfl) (by first | assumption | decide +kernel) (by decide +kernel) ⟨rfl, rfl, rfl, rfl, rfl, by decide +kernel⟩ ?hw ?hc
  case hw => w_witness2
  case hc =>
    refine Dl.walk_ofX (l := PySem.Challenge.rw_nextalive_k07_long_histories) (n := 63) (k := 7) (x := "script") (CX := fun w => L2.CX (PySem.Challenge.rw_nextalive_k07_long_histories).prog w) rfl (by decide) (by kernel_rfl) ⟨rfl, by decide, by decide⟩ ?F (fun w H s e s' => Dl.noCX H s e s')
    intro w mg fa h Y G hmg0
    obtain ⟨K, KX, c⟩ := Y
    have hmg : mg ("law" : PySem.Str) = some (.ref fa) := by
      have e : (HandSHeadRun.topDef (OpenLaw.row PySem.Challenge.rw_nextalive_k07_long_histories).prog 39).name = ("law" : PySem.Str) := by kernel_rfl
      rw [← e]
      exact hmg0
    have fx := Dl.fx_of KX G c
    have e := hmg.symm.trans (He.glo_ok KX G (c.fact 67 (f := .glo "law") rfl))
    cases e
    obtain ⟨fd, F⟩ := fx.d_law
    have b := L2.FunD.bindsA (ps := ["script"]) F fun _ _ _ _ _ _ us hl => match us, hl with | [_], _ => rfl
    refine ⟨K, fd, Dl.spD Dl.T0 K mg 1 Dl.m_law, KX, fun s u => b s [u] rfl, fun H a ns hl o hS => Dl.sp_of (Dl.plain_law ns hl) o hS, fun base _ _ => ?_⟩
    obtain ⟨fd', at', _, _, ok⟩ := Dl.ok_law (P := (PySem.Challenge.rw_nextalive_k07_long_histories).prog) (w := w) (base := base) fx
    rw [(Dl.fdAt_of F).inj at']
    exact ok
