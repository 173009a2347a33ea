import PyProof.Rows.All
import Wide.All
import OpenK.AllK
import Wide.FinOn
import HandS.ForMost
import HandS.TupAny
import HandS.IsInst
import HandS.TupLe
import HandS.Style
import HandS.Walk
import HandS.Rev
import HandS.Zip
import HandS.Conv
import KE.KDictZip
import HandS.ExcValue
import PySem.Challenge.RW_onewordeach_k03_whole_cancelling_in_any
set_option Elab.async false
set_option linter.all false
set_option maxRecDepth 100000
set_option maxHeartbeats 8000000
/-! G0: data by value, owned objects, what a slot holds, and the readings tE, tT, tA, tI, tS over them. -/
namespace Gx
open PySem L2

/-! ### the part of the heap that nobody here may change -/
open Classical in
noncomputable def mask (H : Hp) (α : Nat → List Addr) (T : List Addr) : Hp := fun p => if (∃ i, p ∈ α i) ∨ p ∈ T then none else H p
theorem mask_iff {H : Hp} {α : Nat → List Addr} {T : List Addr} {p : Addr} {o : HO} : mask H α T p = some o ↔ H p = some o ∧ (∀ i, p ∉ α i) ∧ p ∉ T := by
  unfold mask
  split
  · rename_i h
    refine ⟨fun z => (by cases z), fun ⟨_, h1, h2⟩ => ?_⟩
    rcases h with ⟨i, h⟩ | h
    · exact absurd h (h1 i)
    · exact absurd h h2
  · rename_i h
    exact ⟨fun z => ⟨z, fun i hi => h (.inl ⟨i, hi⟩), fun hp => h (.inr hp)⟩, fun z => z.1⟩
theorem mask_sub {H : Hp} {α : Nat → List Addr} {T : List Addr} : Same (mask H α T) H := fun p o h => (mask_iff.mp h).1
theorem mask_mono {H : Hp} {α β : Nat → List Addr} {T U : List Addr} (h1 : ∀ i p, p ∈ β i → (∃ j, p ∈ α j) ∨ p ∈ T) (h2 : ∀ p ∈ U, (∃ j, p ∈ α j) ∨ p ∈ T) : Same (mask H α T) (mask H β U) := fun p o h => by
  obtain ⟨e, a, t⟩ := mask_iff.mp h
  refine mask_iff.mpr ⟨e, fun i hi => ?_, fun hp => ?_⟩
  · rcases h1 i p hi with ⟨j, z⟩ | z
    · exact a j z
    · exact t z
  · rcases h2 p hp with ⟨j, z⟩ | z
    · exact a j z
    · exact t z

/-! ### data -/
mutual
inductive FD (K : PySem.W.Frag) (F : Hp) : V → PyData → Prop
  | non : FD K F .non .none
  | bl (b : Bool) : FD K F (.bl b) (.bool b)
  | int (i : Int) : FD K F (.int i) (.int i)
  | str (x : Str) : FD K F (.str x) (.str x)
  | lst {a : Addr} {xs : List V} {ds : List PyData} : SqL K F a xs → FDs K F xs ds → FD K F (.ref a) (.list ds)
  | tup {a : Addr} {xs : List V} {ds : List PyData} : SqT K F a xs → FDs K F xs ds → FD K F (.ref a) (.tuple ds)
inductive FDs (K : PySem.W.Frag) (F : Hp) : List V → List PyData → Prop
  | nil : FDs K F [] []
  | cons {v : V} {vs : List V} {d : PyData} {ds : List PyData} : FD K F v d → FDs K F vs ds → FDs K F (v :: vs) (d :: ds)
end
section
variable {K : PySem.W.Frag} {F F' H : Hp}
theorem same_tup {a : Addr} {xs : List V} (e : Same F F') (h : SqT K F a xs) : SqT K F' a xs := by
  rcases h with (h | ⟨o, h⟩) | h
  · exact .inl (.inl (e _ _ h))
  · exact .inl (.inr ⟨o, e _ _ h⟩)
  · exact .inr h
mutual
theorem FD.mono (e : Same F F') : ∀ {v : V} {d : PyData}, FD K F v d → FD K F' v d
  | _, _, .non => .non
  | _, _, .bl b => .bl b
  | _, _, .int i => .int i
  | _, _, .str x => .str x
  | _, _, .lst h hs => .lst (e.seq h) (FDs.mono e hs)
  | _, _, .tup h hs => .tup (same_tup e h) (FDs.mono e hs)
theorem FDs.mono (e : Same F F') : ∀ {v : List V} {d : List PyData}, FDs K F v d → FDs K F' v d
  | _, _, .nil => .nil
  | _, _, .cons h hs => .cons (FD.mono e h) (FDs.mono e hs)
end
theorem FDs.length : ∀ {vs : List V} {ds : List PyData}, FDs K F vs ds → vs.length = ds.length
  | _, _, .nil => rfl
  | _, _, .cons _ hs => by rw [List.length_cons, List.length_cons, hs.length]
theorem FDs.get : ∀ {vs : List V} {ds : List PyData} {i : Nat} {d : PyData}, FDs K F vs ds → ds[i]? = some d → ∃ v, vs[i]? = some v ∧ FD K F v d
  | _, _, _, _, .nil, e => by simp at e
  | _, _, 0, _, .cons h _, e => by
    simp at e
    subst e
    exact ⟨_, rfl, h⟩
  | _, _, i + 1, _, .cons _ hs, e => by
    obtain ⟨v, h1, h2⟩ := hs.get (i := i) (by simpa using e)
    exact ⟨v, by simpa using h1, h2⟩
theorem FDs.get' : ∀ {vs : List V} {ds : List PyData} {i : Nat} {v : V}, FDs K F vs ds → vs[i]? = some v → ∃ d, ds[i]? = some d ∧ FD K F v d
  | _, _, _, _, .nil, e => by simp at e
  | _, _, 0, _, .cons h _, e => by
    simp at e
    subst e
    exact ⟨_, rfl, h⟩
  | _, _, i + 1, _, .cons _ hs, e => by
    obtain ⟨v, h1, h2⟩ := hs.get' (i := i) (by simpa using e)
    exact ⟨v, by simpa using h1, h2⟩
theorem FDs.append : ∀ {vs ws : List V} {ds es : List PyData}, FDs K F vs ds → FDs K F ws es → FDs K F (vs ++ ws) (ds ++ es)
  | _, _, _, _, .nil, h => h
  | _, _, _, _, .cons h hs, g => .cons h (hs.append g)
theorem FDs.take : ∀ {vs : List V} {ds : List PyData} (n : Nat), FDs K F vs ds → FDs K F (vs.take n) (ds.take n)
  | _, _, 0, _ => .nil
  | _, _, _ + 1, .nil => .nil
  | _, _, n + 1, .cons h hs => .cons h (hs.take n)
theorem FDs.drop : ∀ {vs : List V} {ds : List PyData} (n : Nat), FDs K F vs ds → FDs K F (vs.drop n) (ds.drop n)
  | _, _, 0, h => h
  | _, _, _ + 1, .nil => .nil
  | _, _, n + 1, .cons _ hs => hs.drop n
theorem FDs.set : ∀ {vs : List V} {ds : List PyData} {v : V} {d : PyData} (n : Nat), FD K F v d → FDs K F vs ds → FDs K F (vs.set n v) (ds.set n d)
  | _, _, _, _, _, _, .nil => .nil
  | _, _, _, _, 0, g, .cons h hs => .cons g hs
  | _, _, _, _, n + 1, g, .cons h hs => .cons h (hs.set n g)
theorem FDs.reverse {vs : List V} {ds : List PyData} (h : FDs K F vs ds) : FDs K F vs.reverse ds.reverse := by
  induction vs generalizing ds with
  | nil => cases h; exact .nil
  | cons v vs ih =>
    cases h with
    | cons h hs =>
      rw [List.reverse_cons, List.reverse_cons]
      exact (ih hs).append (.cons h .nil)
theorem FDs.erase : ∀ {vs : List V} {ds : List PyData} (n : Nat), FDs K F vs ds → FDs K F (vs.eraseIdx n) (ds.eraseIdx n)
  | _, _, 0, .nil => .nil
  | _, _, _ + 1, .nil => .nil
  | _, _, 0, .cons h hs => hs
  | _, _, n + 1, .cons h hs => .cons h (hs.erase n)
theorem FDs.dropLast : ∀ {vs : List V} {ds : List PyData}, FDs K F vs ds → FDs K F vs.dropLast ds.dropLast
  | _, _, .nil => .nil
  | _, _, .cons h .nil => .nil
  | _, _, .cons h (.cons h2 hs) => .cons h (FDs.dropLast (.cons h2 hs))
theorem FDs.ints : ∀ (ns : List Int), FDs K F (ns.map V.int) (ns.map PyData.int)
  | [] => .nil
  | n :: ns => .cons (.int n) (FDs.ints ns)
theorem FDs.of_ints : ∀ {vs : List V} {ns : List Int}, FDs K F vs (ns.map PyData.int) → vs = ns.map V.int
  | _, [], .nil => rfl
  | _, n :: ns, .cons (.int _) hs => by rw [FDs.of_ints hs]; rfl
theorem FDs.of_bools : ∀ {vs : List V} {ns : List Bool}, FDs K F vs (ns.map PyData.bool) → vs = ns.map V.bl
  | _, [], .nil => rfl
  | _, n :: ns, .cons (.bl _) hs => by rw [FDs.of_bools hs]; rfl
mutual
theorem FD.reads {X : Cx} {pins : List (Addr × Obj)} {σ : St} {s : Shared} (I : Inv X pins σ H s) : ∀ {v : V} {d : PyData} {u : Value}, FD X.K H v d → RelV v u → ∃ as, Reads s.heap u d as
  | _, _, _, .non, r => by
    cases r
    exact ⟨_, .none⟩
  | _, _, _, .bl b, r => by
    cases r
    exact ⟨_, .bool b⟩
  | _, _, _, .int i, r => by
    obtain ⟨t, rfl⟩ := r
    exact ⟨_, .int i t⟩
  | _, _, _, .str i, r => by
    obtain ⟨t, rfl⟩ := r
    exact ⟨_, .str i t⟩
  | _, _, _, .lst h hs, r => by
    cases r
    obtain ⟨its, rv, ⟨o, n, ho, hc, _, hd⟩, _⟩ := I.list h
    obtain ⟨as, hr⟩ := FDs.reads I hs rv
    exact ⟨_, .list ho hc hd hr⟩
  | _, _, _, .tup h hs, r => by
    cases r
    obtain ⟨its, rv, ⟨o, ho, hc, n, hd⟩, _⟩ := I.tuple h
    obtain ⟨as, hr⟩ := FDs.reads I hs rv
    exact ⟨_, .tuple ho hc hd hr⟩
theorem FDs.reads {X : Cx} {pins : List (Addr × Obj)} {σ : St} {s : Shared} (I : Inv X pins σ H s) : ∀ {vs : List V} {ds : List PyData} {us : List Value}, FDs X.K H vs ds → Vals vs us → ∃ as, ReadsAll s.heap us ds as
  | _, _, _, .nil, .nil => ⟨_, .nil⟩
  | _, _, _, .cons h hs, .cons r rs => by
    obtain ⟨as, q1⟩ := FD.reads I h r
    obtain ⟨bs, q2⟩ := FDs.reads I hs rs
    exact ⟨_, .cons q1 q2⟩
end
end

/-! ### what a slot holds -/
/-- a field of a box: data, or a list of the box's own -/
inductive Fld where
  | val (d : PyData) | lst (xs : List PyData)
/-- an object that one slot (or one value on its way) alone may reach -/
inductive Ob where
  | lst (xs : List PyData) | box (fs : List (Str × Fld))
/-- a slot: nothing known, data, an own object (b: it is the caller's, handed by reference) -/
inductive SV where
  | un | val (d : PyData) | own (b : Bool) (o : Ob)
abbrev Lo := List SV
/-- a value on its way: data, a new object, what the i-th slot holds -/
inductive Rs where
  | val (d : PyData) | new (o : Ob) | slot (i : Nat)

inductive BoxAt (K : PySem.W.Frag) (H F : Hp) : List Addr → List (Key × V) → List (Str × Fld) → Prop
  | nil : BoxAt K H F [] [] []
  | val {qs : List Addr} {n : Str} {v : V} {d : PyData} {kvs : List (Key × V)} {fs : List (Str × Fld)} : FD K F v d → BoxAt K H F qs kvs fs → BoxAt K H F qs ((.inr n, v) :: kvs) ((n, .val d) :: fs)
  | lst {q : Addr} {qs : List Addr} {n : Str} {vs : List V} {ds : List PyData} {kvs : List (Key × V)} {fs : List (Str × Fld)} : H q = some (.lst vs) → FDs K F vs ds → BoxAt K H F qs kvs fs → BoxAt K H F (q :: qs) ((.inr n, .ref q) :: kvs) ((n, .lst ds) :: fs)
/-- the object o at the addresses ps, the first one its own -/
inductive OwnAt (K : PySem.W.Frag) (H F : Hp) : List Addr → V → Ob → Prop
  | lst {p : Addr} {vs : List V} {ds : List PyData} : H p = some (.lst vs) → FDs K F vs ds → OwnAt K H F [p] (.ref p) (.lst ds)
  | box {p : Addr} {qs : List Addr} {kvs : List (Key × V)} {fs : List (Str × Fld)} : H p = some (.dK kvs) → BoxAt K H F qs kvs fs → (p :: qs).Nodup → OwnAt K H F (p :: qs) (.ref p) (.box fs)
section
variable {K : PySem.W.Frag} {F F' H H' : Hp}
theorem BoxAt.stay (e : Same F F') : ∀ {qs : List Addr} {kvs : List (Key × V)} {fs : List (Str × Fld)}, (∀ q ∈ qs, H' q = H q) → BoxAt K H F qs kvs fs → BoxAt K H' F' qs kvs fs
  | _, _, _, _, .nil => .nil
  | _, _, _, h, .val g b => .val (g.mono e) (b.stay e h)
  | _, _, _, h, .lst g1 g2 b => .lst ((h _ (List.mem_cons_self ..)).trans g1) (g2.mono e) (b.stay e fun q hq => h q (List.mem_cons_of_mem _ hq))
theorem OwnAt.stay {ps : List Addr} {v : V} {o : Ob} (e : Same F F') (h : ∀ q ∈ ps, H' q = H q) : OwnAt K H F ps v o → OwnAt K H' F' ps v o
  | .lst g1 g2 => .lst ((h _ (List.mem_cons_self ..)).trans g1) (g2.mono e)
  | .box g1 g2 g3 => .box ((h _ (List.mem_cons_self ..)).trans g1) (g2.stay e fun q hq => h q (List.mem_cons_of_mem _ hq)) g3
theorem BoxAt.there : ∀ {qs : List Addr} {kvs : List (Key × V)} {fs : List (Str × Fld)}, BoxAt K H F qs kvs fs → ∀ q ∈ qs, H q ≠ none
  | _, _, _, .nil, _, h => by cases h
  | _, _, _, .val _ b, q, h => b.there q h
  | _, _, _, .lst g _ b, q, h => by
    rcases List.mem_cons.mp h with e | h
    · rw [e, g]; exact fun z => nomatch z
    · exact b.there q h
theorem OwnAt.there {ps : List Addr} {v : V} {o : Ob} : OwnAt K H F ps v o → ∀ q ∈ ps, H q ≠ none
  | .lst g _, q, h => by
    rw [List.mem_singleton.mp h, g]; exact fun z => nomatch z
  | .box g b _, q, h => by
    rcases List.mem_cons.mp h with e | h
    · rw [e, g]; exact fun z => nomatch z
    · exact b.there q h
theorem OwnAt.list {ps : List Addr} {v : V} {ds : List PyData} (h : OwnAt K H F ps v (.lst ds)) : ∃ p vs, ps = [p] ∧ v = .ref p ∧ H p = some (.lst vs) ∧ FDs K F vs ds := by
  cases h with
  | lst g1 g2 => exact ⟨_, _, rfl, rfl, g1, g2⟩
theorem OwnAt.nd {ps : List Addr} {v : V} {o : Ob} : OwnAt K H F ps v o → ps.Nodup
  | .lst _ _ => by simp
  | .box _ _ h => h
end

def SR (K : PySem.W.Frag) (H F : Hp) (io : Option V) (a : List Addr) (x : Option V) : SV → Prop
  | .un => a = []
  | .val d => a = [] ∧ ∃ v, x = some v ∧ FD K F v d
  | .own b o => ∃ v, x = some v ∧ (b = true → io = some v) ∧ OwnAt K H F a v o

/-- the slots: ι the objects by reference, α who owns what, T what is on its way -/
structure LR (K : PySem.W.Frag) (ι : Nat → Option V) (α : Nat → List Addr) (T : List Addr) (e : Lo) (σ : St) (H : Hp) : Prop where
  len : e.length = σ.length
  dis : ∀ i j p, p ∈ α i → p ∈ α j → i = j
  out : ∀ i, e.length ≤ i → α i = []
  hT : ∀ i p, p ∈ α i → p ∉ T
  tT : ∀ p ∈ T, H p ≠ none
  slot : ∀ i sv, e[i]? = some sv → SR K H (mask H α T) (ι i) (α i) (σ.getD i none) sv

/-- what changes meanwhile -/
structure Stp (α : Nat → List Addr) (T : List Addr) (H : Hp) (α' : Nat → List Addr) (T' : List Addr) (H' : Hp) : Prop where
  vis : Same (mask H α T) (mask H' α' T')
  own : ∀ i p, p ∈ α' i → p ∈ α i ∨ H p = none
  held : ∀ p ∈ T, H' p = H p
  non : ∀ p, H' p = none → H p = none

def RV (K : PySem.W.Frag) (H F : Hp) (σ : St) (ps : List Addr) (v : V) : Rs → Prop
  | .val d => ps = [] ∧ FD K F v d
  | .new o => OwnAt K H F ps v o
  | .slot i => ps = [] ∧ σ.getD i none = some v

/-- behind an expression -/
structure Aft (K : PySem.W.Frag) (ι : Nat → Option V) (α : Nat → List Addr) (T : List Addr) (σ : St) (H : Hp) (r : Rs) (e' : Lo) (α' : Nat → List Addr) (ps : List Addr) (H' : Hp) (v : V) : Prop where
  lr : LR K ι α' (ps ++ T) e' σ H'
  st : Stp α T H α' (ps ++ T) H'
  nw : ∀ p ∈ ps, H p = none
  rv : RV K H' (mask H' α' (ps ++ T)) σ ps v r

abbrev M (β : Type) := Lo → Option (β × Lo)
def tE (K : PySem.W.Frag) (m : M Rs) : TE := fun σ H Q => ∃ ι α T e r e', LR K ι α T e σ H ∧ m e = some (r, e') ∧ ∀ α' ps H' v, Aft K ι α T σ H r e' α' ps H' v → Q v H'
def tT (K : PySem.W.Frag) (m : M Bool) : TT := fun σ H Q => ∃ ι α T e b e', LR K ι α T e σ H ∧ m e = some (b, e') ∧ ∀ α' H', LR K ι α' T e' σ H' → Stp α T H α' T H' → Q b H'

section
variable {K : PySem.W.Frag} {ι : Nat → Option V} {α α1 α2 : Nat → List Addr} {T T1 T2 ps qs : List Addr} {e e1 : Lo} {σ : St} {H H1 H2 : Hp} {r : Rs} {v : V}
theorem Stp.refl : Stp α T H α T H := ⟨fun _ _ h => h, fun _ _ h => .inl h, fun _ _ => rfl, fun _ h => h⟩
theorem Stp.trans (a : Stp α T H α1 T1 H1) (b : Stp α1 T1 H1 α2 T2 H2) (hT : ∀ p ∈ T, p ∈ T1) : Stp α T H α2 T2 H2 where
  vis := a.vis.trans b.vis
  own := fun i p h => (b.own i p h).elim (a.own i p) fun z => .inr (a.non p z)
  held := fun p h => (b.held p (hT p h)).trans (a.held p h)
  non := fun p h => a.non p (b.non p h)
theorem LR.there (L : LR K ι α T e σ H) {i : Nat} {p : Addr} (h : p ∈ α i) : H p ≠ none := by
  by_cases hi : i < e.length
  · have q := L.slot i e[i] (List.getElem?_eq_getElem hi)
    cases hs : e[i] with
    | un =>
      rw [hs] at q
      rw [show α i = [] from q] at h
      cases h
    | val d =>
      rw [hs] at q
      rw [show α i = [] from q.1] at h
      cases h
    | own b o =>
      rw [hs] at q
      obtain ⟨_, _, _, q⟩ := q
      exact q.there p h
  · rw [L.out i (by omega)] at h
    cases h
theorem SR.stay {F F' : Hp} {io x : Option V} {a : List Addr} (e : Same F F') (h : ∀ q ∈ a, H1 q = H q) : ∀ {sv : SV}, SR K H F io a x sv → SR K H1 F' io a x sv
  | .un, q => q
  | .val d, ⟨q, v, e1, g⟩ => ⟨q, v, e1, g.mono e⟩
  | .own b o, ⟨v, e1, e2, g⟩ => ⟨v, e1, e2, g.stay e h⟩
/-- what was on its way is let go -/
theorem LR.drop (L : LR K ι α (ps ++ T) e σ H) : LR K ι α T e σ H :=
  ⟨L.len, L.dis, L.out, fun i p h => fun z => L.hT i p h (List.mem_append_right _ z), fun p h => L.tT p (List.mem_append_right _ h), fun i sv h => (L.slot i sv h).stay (mask_mono (fun i p h => .inl ⟨i, h⟩) fun p h => .inr (List.mem_append_right _ h)) fun _ _ => rfl⟩
theorem Stp.drop (a : Stp α T H α1 (ps ++ T1) H1) : Stp α T H α1 T1 H1 :=
  ⟨a.vis.trans (mask_mono (fun i p h => .inl ⟨i, h⟩) fun p h => .inr (List.mem_append_right _ h)), a.own, a.held, a.non⟩
/-- data as they stand: the node now, its items for good -/
def TD (K : PySem.W.Frag) (H F : Hp) (v : V) : PyData → Prop
  | .list ds => ∃ a xs, v = .ref a ∧ SqL K H a xs ∧ FDs K F xs ds
  | .tuple ds => ∃ a xs, v = .ref a ∧ SqT K F a xs ∧ FDs K F xs ds
  | d => FD K F v d
theorem FD.td {F : Hp} (hF : Same F H) : ∀ {v : V} {d : PyData}, FD K F v d → TD K H F v d
  | _, .none, h => h
  | _, .bool _, h => h
  | _, .int _, h => h
  | _, .str _, h => h
  | _, .dict _, h => h
  | _, .list _, .lst h hs => ⟨_, _, rfl, hF.seq h, hs⟩
  | _, .tuple _, .tup h hs => ⟨_, _, rfl, h, hs⟩
theorem TD.fd {F : Hp} (hF : Same F H) : ∀ {v : V} {d : PyData}, TD K H F v d → FD K H v d
  | _, .none, h => FD.mono hF h
  | _, .bool _, h => FD.mono hF h
  | _, .int _, h => FD.mono hF h
  | _, .str _, h => FD.mono hF h
  | _, .dict _, h => FD.mono hF h
  | _, .list _, ⟨_, _, rfl, h, hs⟩ => .lst h (hs.mono hF)
  | _, .tuple _, ⟨_, _, rfl, h, hs⟩ => .tup (same_tup hF h) (hs.mono hF)
/-- the data that a value on its way is now -/
@[simp] def svw : Option SV → Option PyData
  | some (.val d) => some d
  | some (.own _ (.lst xs)) => some (.list xs)
  | _ => none
@[simp] def vw (e : Lo) : Rs → Option PyData
  | .val d => some d
  | .new (.lst xs) => some (.list xs)
  | .new (.box _) => none
  | .slot i => svw e[i]?
theorem TD.mono {F F' : Hp} (hF : Same F F') : ∀ {d : PyData}, TD K H F v d → TD K H F' v d
  | .none, h => FD.mono hF h
  | .bool _, h => FD.mono hF h
  | .int _, h => FD.mono hF h
  | .str _, h => FD.mono hF h
  | .dict _, h => FD.mono hF h
  | .list _, ⟨_, _, e, h, hs⟩ => ⟨_, _, e, h, hs.mono hF⟩
  | .tuple _, ⟨_, _, e, h, hs⟩ => ⟨_, _, e, same_tup hF h, hs.mono hF⟩
theorem RV.view (L : LR K ι α T e σ H) (q : RV K H (mask H α T) σ ps v r) {d : PyData} (h : vw e r = some d) : TD K H (mask H α T) v d := by
  cases r with
  | val d' =>
    cases h
    exact FD.td mask_sub q.2
  | new o =>
    cases o with
    | box fs => cases h
    | lst xs =>
      cases h
      cases q with
      | lst g1 g2 => exact ⟨_, _, rfl, .of g1, g2⟩
  | slot i =>
    obtain ⟨_, q⟩ := q
    have h : svw e[i]? = some d := h
    cases hs : e[i]? with
    | none => rw [hs] at h; cases h
    | some sv =>
      rw [hs] at h
      have g := L.slot i sv hs
      cases sv with
      | un => cases h
      | val d' =>
        cases h
        obtain ⟨_, w, e1, g⟩ := g
        rw [q] at e1
        cases e1
        exact FD.td mask_sub g
      | own b o =>
        obtain ⟨w, e1, _, g⟩ := g
        rw [q] at e1
        cases e1
        cases o with
        | box fs => cases h
        | lst xs =>
          cases h
          obtain ⟨p, vs, _, e2, g1, g2⟩ := g.list
          exact ⟨_, _, e2, .of g1, g2⟩
/-- a value on its way stays while another one comes -/
theorem RV.stay (q : RV K H1 (mask H1 α1 T1) σ ps v r) (s : Stp α1 T1 H1 α2 T2 H2) (hp : ∀ p ∈ ps, p ∈ T1) : RV K H2 (mask H2 α2 T2) σ ps v r := by
  cases r with
  | val d => exact ⟨q.1, q.2.mono s.vis⟩
  | new o => exact OwnAt.stay s.vis (fun p h => s.held p (hp p h)) q
  | slot i => exact q
end
end Gx
/-! G1: expressions. -/
namespace Gx
open PySem L2
section
variable {X : Cx} {a b c : Expr} {pos : Pos}
theorem PE_imp {e : Expr} {t t' : TE} (h : PE X e t) (hi : ∀ σ H Q, t' σ H Q → t σ H Q) : PE X e t' := ⟨fun pins s σ H Q I q => h.run pins s σ H Q I (hi σ H Q q)⟩
theorem PT_imp {e : Expr} {t t' : TT} (h : PT X e t) (hi : ∀ σ H Q, t' σ H Q → t σ H Q) : PT X e t' := ⟨fun pins s σ H Q I q => h.run pins s σ H Q I (hi σ H Q q)⟩
theorem PW_imp {e : Expr} {t t' : TT} (h : PW X e t) (hi : ∀ σ H Q, t' σ H Q → t σ H Q) : PW X e t' := ⟨fun wh pins s σ H Q I q => h.run wh pins s σ H Q I (hi σ H Q q)⟩
theorem PA_imp {es : List Expr} {t t' : TA} (h : PA X es t) (hi : ∀ σ H Q, t' σ H Q → t σ H Q) : PA X es t' := ⟨fun p pins s σ H Q I q => h.run p pins s σ H Q I (hi σ H Q q)⟩
theorem PI_imp {tg e : Expr} {t t' : TI} (h : PI X tg e t) (hi : ∀ σ H Q, t' σ H Q → t σ H Q) : PI X tg e t' := ⟨fun pins s σ H Q I q => h.run pins s σ H Q I (hi σ H Q q)⟩
theorem PS_imp {st : Stmt} {t t' : TS} (h : PS X st t) (hi : ∀ D σ H, t' D σ H → t D σ H) : PS X st t' := ⟨fun pins s σ H D I q => h.run pins s σ H D I (hi D σ H q)⟩
theorem PSs_imp {st : List Stmt} {t t' : TS} (h : PSs X st t) (hi : ∀ D σ H, t' D σ H → t D σ H) : PSs X st t' := ⟨fun pins s σ H D I q => h.run pins s σ H D I (hi D σ H q)⟩
abbrev SE (X : Cx) (e : Expr) (m : M Rs) : Prop := PE X e (tE X.K m)
abbrev ST (X : Cx) (e : Expr) (m : M Bool) : Prop := PT X e (tT X.K m)
abbrev SW (X : Cx) (e : Expr) (m : M Bool) : Prop := PW X e (tT X.K m)
end

def lim : Nat := 1000000
theorem lim_le {n : Nat} (h : n ≤ lim) : n ≤ sizeLine := by
  unfold lim at h
  rw [sizeLine_eq]
  omega
theorem lim_lt {n : Nat} (h : n ≤ lim) : n < sizeLine := by
  unfold lim at h
  rw [sizeLine_eq]
  omega

section
variable {K : PySem.W.Frag} {ι : Nat → Option V} {α α1 α2 : Nat → List Addr} {T T1 T2 ps qs : List Addr} {e e1 e2 : Lo} {σ : St} {H H1 H2 H' : Hp} {r r1 r2 : Rs} {v : V} {d1 d2 : PyData} {F F' : Hp}

/-- what an operation on data hands back -/
inductive Res (K : PySem.W.Frag) (H F : Hp) : Rs → List Addr → Hp → V → Prop
  | val {d : PyData} {v : V} : FD K F v d → Res K H F (.val d) [] H v
  | tup {p : Addr} {vs : List V} {ds : List PyData} : H p = none → FDs K F vs ds → Res K H F (.val (.tuple ds)) [] (upd H p (.tup vs)) (.ref p)
  | lst {p : Addr} {vs : List V} {ds : List PyData} : H p = none → FDs K F vs ds → Res K H F (.new (.lst ds)) [p] (upd H p (.lst vs)) (.ref p)
  | tt {p q : Addr} {vs : List V} {ds : List PyData} {i : Int} : H p = none → H q = none → p ≠ q → FDs K F vs ds → Res K H F (.val (.tuple [.int i, .tuple ds])) [] (upd (upd H p (.tup vs)) q (.tup [.int i, .ref p])) (.ref q)

theorem mask_upd {p : Addr} {o : HO} (h : H p = none) (hp : ∀ q ∈ ps, q = p) : Same (mask H α T) (mask (upd H p o) α (ps ++ T)) := fun q u e => by
  obtain ⟨h1, h2, h3⟩ := mask_iff.mp e
  have ne : q ≠ p := ne_of_none h1 h
  refine mask_iff.mpr ⟨by rw [upd_ne ne]; exact h1, h2, fun z => ?_⟩
  rcases List.mem_append.mp z with z | z
  · exact ne (hp q z)
  · exact h3 z
/-- a new object is laid -/
theorem LR.laid (L : LR K ι α T e σ H) {p : Addr} {o : HO} (h : H p = none) (hp : ∀ q ∈ ps, q = p) : LR K ι α (ps ++ T) e σ (upd H p o) where
  len := L.len
  dis := L.dis
  out := L.out
  hT := fun i q hq z => by
    rcases List.mem_append.mp z with z | z
    · rw [hp q z] at hq
      exact L.there hq h
    · exact L.hT i q hq z
  tT := fun q z => by
    rcases List.mem_append.mp z with z | z
    · rw [hp q z, upd_same]
      exact fun z => nomatch z
    · have := L.tT q z
      rw [upd_ne (fun e => this (by rw [e]; exact h))]
      exact this
  slot := fun i sv hs => (L.slot i sv hs).stay (mask_upd h hp) fun q hq => upd_ne fun e => L.there hq (by rw [e]; exact h)
theorem Stp.laid {p : Addr} {o : HO} (h : H p = none) (hT : ∀ q ∈ T, H q ≠ none) (hp : ∀ q ∈ ps, q = p) : Stp α T H α (ps ++ T) (upd H p o) where
  vis := mask_upd h hp
  own := fun i q hq => .inl hq
  held := fun q hq => upd_ne fun e => hT q hq (by rw [e]; exact h)
  non := fun q hq => by
    by_cases e : q = p
    · rw [e, upd_same] at hq
      cases hq
    · rw [upd_ne e] at hq
      exact hq
theorem Stp.nonT (s : Stp α T H α1 T1 H1) (hn : H1 v' = none) : H v' = none := s.non _ hn
theorem upd_same' {p : Addr} {o : HO} (h : H p = none) : Same H (upd H p o) := fun q u e => by
  rw [upd_ne (ne_of_none e h)]
  exact e
/-- behind an operation -/
theorem Aft.of_res (L : LR K ι α1 T e σ H1) (s : Stp α T H α1 T H1) (q : Res K H1 (mask H1 α1 T) r ps H' v) : Aft K ι α T σ H r e α1 ps H' v := by
  cases q with
  | val g => exact ⟨L, s, fun _ h => (by cases h), rfl, g⟩
  | tup h g =>
    refine ⟨L.laid (ps := []) h (by simp), s.trans (Stp.laid (ps := []) h L.tT (by simp)) fun p h => h, fun _ h => (by cases h), rfl, ?_⟩
    rename_i p vs ds
    have sm : Same (mask H1 α1 T) (mask (upd H1 p (.tup vs)) α1 T) := mask_upd (ps := []) h (by simp)
    refine .tup (.of (mask_iff.mpr ⟨upd_same, fun i hi => L.there hi h, fun z => L.tT p z h⟩)) (g.mono sm)
  | lst h g =>
    rename_i p vs ds
    have hp : ∀ q ∈ [p], q = p := by simp
    refine ⟨L.laid h hp, s.trans (Stp.laid h L.tT hp) fun p h => h, fun q hq => ?_, ?_⟩
    · rw [hp q hq]
      exact s.non p h
    · exact .lst upd_same (g.mono (mask_upd h hp))
  | tt h h2 hn g =>
    rename_i p q vs ds i
    have h2' : upd H1 p (.tup vs) q = none := by rw [upd_ne hn.symm]; exact h2
    have LA := L.laid (ps := []) (o := .tup vs) h (by simp)
    have SA := s.trans (Stp.laid (ps := []) (o := .tup vs) h L.tT (by simp)) fun p h => h
    have smA : Same (mask H1 α1 T) (mask (upd H1 p (.tup vs)) α1 T) := mask_upd (ps := []) h (by simp)
    have smB : Same (mask (upd H1 p (.tup vs)) α1 T) (mask (upd (upd H1 p (.tup vs)) q (.tup [.int i, .ref p])) α1 T) := mask_upd (ps := []) h2' (by simp)
    refine ⟨LA.laid (ps := []) h2' (by simp), SA.trans (Stp.laid (ps := []) h2' LA.tT (by simp)) fun p h => h, fun _ h => (by cases h), rfl, ?_⟩
    have f1 : FD K (mask (upd H1 p (.tup vs)) α1 T) (.ref p) (.tuple ds) := .tup (.of (mask_iff.mpr ⟨upd_same, fun i hi => L.there hi h, fun z => L.tT p z h⟩)) (g.mono smA)
    exact .tup (.of (mask_iff.mpr ⟨upd_same, fun i hi => L.there hi h2, fun z => L.tT q z h2⟩)) (.cons (.int i) (.cons (f1.mono smB) .nil))

/-- a value on its way, then another one -/
theorem two {ma mb : M Rs} (L : LR K ι α T e σ H) (ea : ma e = some (r1, e1)) (eb : mb e1 = some (r2, e2)) {G : V → V → Hp → Prop}
    (h : ∀ α' ps qs H2 x y, LR K ι α' (qs ++ (ps ++ T)) e2 σ H2 → Stp α T H α' (qs ++ (ps ++ T)) H2 → RV K H2 (mask H2 α' (qs ++ (ps ++ T))) σ ps x r1 → RV K H2 (mask H2 α' (qs ++ (ps ++ T))) σ qs y r2 →
      (∀ p ∈ ps, H p = none) → (∀ p ∈ qs, H p = none) → G x y H2) : tE K ma σ H fun x H1 => tE K mb σ H1 fun y H2 => G x y H2 :=
  ⟨ι, α, T, e, r1, e1, L, ea, fun α1 ps H1 x A1 => ⟨ι, α1, ps ++ T, e1, r2, e2, A1.lr, eb, fun α2 qs H2 y A2 =>
    h α2 ps qs H2 x y A2.lr (A1.st.trans A2.st fun p hp => List.mem_append_right _ hp) (A1.rv.stay A2.st fun p hp => List.mem_append_left _ hp) A2.rv A1.nw fun p hp => A1.st.non p (A2.nw p hp)⟩⟩
/-- .. as data -/
theorem two_view {ma mb : M Rs} (L : LR K ι α T e σ H) (ea : ma e = some (r1, e1)) (eb : mb e1 = some (r2, e2)) (v1 : vw e2 r1 = some d1) (v2 : vw e2 r2 = some d2) {G : V → V → Hp → Prop}
    (h : ∀ α' H2 x y, LR K ι α' T e2 σ H2 → Stp α T H α' T H2 → TD K H2 (mask H2 α' T) x d1 → TD K H2 (mask H2 α' T) y d2 → G x y H2) : tE K ma σ H fun x H1 => tE K mb σ H1 fun y H2 => G x y H2 :=
  two L ea eb fun α' ps qs H2 x y L2' s q1 q2 _ _ => by
    have m1 : Same (mask H2 α' (qs ++ (ps ++ T))) (mask H2 α' T) := mask_mono (fun i p h => .inl ⟨i, h⟩) fun p h => .inr (List.mem_append_right _ (List.mem_append_right _ h))
    exact h α' H2 x y L2'.drop.drop s.drop.drop ((q1.view L2' v1).mono m1) ((q2.view L2' v2).mono m1)
theorem one_view {ma : M Rs} (L : LR K ι α T e σ H) (ea : ma e = some (r1, e1)) (v1 : vw e1 r1 = some d1) {G : V → Hp → Prop}
    (h : ∀ α' H2 x, LR K ι α' T e1 σ H2 → Stp α T H α' T H2 → TD K H2 (mask H2 α' T) x d1 → G x H2) : tE K ma σ H fun x H1 => G x H1 :=
  ⟨ι, α, T, e, r1, e1, L, ea, fun α1 ps H1 x A1 => by
    have m1 : Same (mask H1 α1 (ps ++ T)) (mask H1 α1 T) := mask_mono (fun i p h => .inl ⟨i, h⟩) fun p h => .inr (List.mem_append_right _ h)
    exact h α1 H1 x A1.lr.drop A1.st.drop ((A1.rv.view A1.lr v1).mono m1)⟩
end

/-! ### names and constants -/
def mVar (i : Nat) : M Rs := fun e => match e[i]? with
  | some (.val d) => some (.val d, e)
  | some (.own _ _) => some (.slot i, e)
  | _ => none
def mC (d : PyData) : M Rs := fun e => some (.val d, e)
section
variable {X : Cx} {a b c : Expr} {pos : Pos}
theorem se_var (i : Nat) {x : Str} (hN : X.N[i]? = some x := by rfl) (hv : Vis X.env.scope x := by first | exact Or.inl rfl | exact Or.inr (Or.inl rfl) | exact Or.inr (Or.inr rfl)) (hd : (x == ("__debug__" : Str)) = false := by decide)
    (hcd : (x == ("__classdict__" : Str)) = false := by decide) : SE X (.Name x pos) (mVar i) := by
  refine PE_imp (pe_var hN hv hd hcd) fun σ H Q ⟨ι, α, T, e, r, e', L, em, k⟩ => ?_
  unfold mVar at em
  cases hs : e[i]? with
  | none =>
    rw [hs] at em
    cases em
  | some sv =>
    rw [hs] at em
    have g := L.slot i sv hs
    have get : ∀ {v : V}, σ.getD i none = some v → σ[i]? = some (some v) := fun {v} h => by
      rw [List.getD_eq_getElem?_getD] at h
      cases q : σ[i]? with
      | none =>
        rw [q] at h
        cases h
      | some w =>
        rw [q] at h
        exact congrArg some h
    cases sv with
    | un => cases em
    | val d =>
      cases em
      obtain ⟨_, v, e1, g⟩ := g
      exact ⟨v, get e1, k α [] H v ⟨L, Stp.refl, fun _ h => (by cases h), rfl, g⟩⟩
    | own bb o =>
      cases em
      obtain ⟨v, e1, _, g⟩ := g
      exact ⟨v, get e1, k α [] H v ⟨L, Stp.refl, fun _ h => (by cases h), rfl, e1⟩⟩
theorem tE_const {v : V} {d : PyData} (g : ∀ F, FD X.K F v d) {σ : St} {H : Hp} {Q : VK} (h : tE X.K (mC d) σ H Q) : Q v H := by
  obtain ⟨ι, α, T, e, r, e', L, em, k⟩ := h
  cases em
  exact k α [] H v ⟨L, Stp.refl, fun _ h => (by cases h), rfl, g _⟩
theorem se_int {i : Int} {j} : SE X (.Constant (.int i) j pos) (mC (.int i)) := PE_imp pe_int fun σ H Q h => tE_const (fun F => .int i) h
theorem se_bl {i : Bool} {j} : SE X (.Constant (.bool i) j pos) (mC (.bool i)) := PE_imp pe_bl fun σ H Q h => tE_const (fun F => .bl i) h
theorem se_non {j} : SE X (.Constant .none j pos) (mC .none) := PE_imp pe_non fun σ H Q h => tE_const (fun F => .non) h
theorem se_str {x : Str} {j} : SE X (.Constant (.str x) j pos) (mC (.str x)) := PE_imp pe_str fun σ H Q h => tE_const (fun F => .str x) h
end

/-! ### operations on data -/
def OpF (K : PySem.W.Frag) (r : R2) (f : PyData → PyData → Option Rs) : Prop :=
  ∀ (H F : Hp) (x y : V) (d1 d2 : PyData) (res : Rs) (Q : VK), Same F H → TD K H F x d1 → TD K H F y d2 → f d1 d2 = some res → (∀ ps H' v, Res K H F res ps H' v → Q v H') → r x y H Q
def UnF (K : PySem.W.Frag) (r : V → Hp → VK → Prop) (f : PyData → Option Rs) : Prop :=
  ∀ (H F : Hp) (x : V) (d1 : PyData) (res : Rs) (Q : VK), Same F H → TD K H F x d1 → f d1 = some res → (∀ ps H' v, Res K H F res ps H' v → Q v H') → r x H Q
def mOp2 (f : PyData → PyData → Option Rs) (ma mb : M Rs) : M Rs := fun e =>
  (ma e).bind fun p => (mb p.2).bind fun q => (vw q.2 p.1).bind fun d1 => (vw q.2 q.1).bind fun d2 => (f d1 d2).bind fun r => some (r, q.2)
def mOp1 (f : PyData → Option Rs) (ma : M Rs) : M Rs := fun e =>
  (ma e).bind fun p => (vw p.2 p.1).bind fun d1 => (f d1).bind fun r => some (r, p.2)
section
variable {X : Cx} {a b c : Expr} {pos : Pos} {ma mb mc : M Rs}
theorem imp2 {K : PySem.W.Frag} {r : R2} {f : PyData → PyData → Option Rs} (hf : OpF K r f) {σ : St} {H : Hp} {Q : VK} (h : tE K (mOp2 f ma mb) σ H Q) : tOp r (tE K ma) (tE K mb) σ H Q := by
  obtain ⟨ι, α, T, e, r', e', L, em, k⟩ := h
  simp only [mOp2, Option.bind_eq_some_iff] at em
  obtain ⟨⟨r1, e1⟩, h1, ⟨r2, e2⟩, h2, d1, h3, d2, h4, r3, h5, h6⟩ := em
  cases h6
  exact two_view L h1 h2 h3 h4 fun α' H2 x y L2' s t1 t2 => hf H2 _ x y d1 d2 r' Q mask_sub t1 t2 h5 fun ps H' v q => k α' ps H' v (Aft.of_res L2' s q)
theorem imp1 {K : PySem.W.Frag} {r : V → Hp → VK → Prop} {f : PyData → Option Rs} (hf : UnF K r f) {σ : St} {H : Hp} {Q : VK} (h : tE K (mOp1 f ma) σ H Q) : tUn r (tE K ma) σ H Q := by
  obtain ⟨ι, α, T, e, r', e', L, em, k⟩ := h
  simp only [mOp1, Option.bind_eq_some_iff] at em
  obtain ⟨⟨r1, e1⟩, h1, d1, h3, r3, h5, h6⟩ := em
  cases h6
  exact one_view L h1 h3 fun α' H2 x L2' s t1 => hf H2 _ x d1 r' Q mask_sub t1 h5 fun ps H' v q => k α' ps H' v (Aft.of_res L2' s q)
theorem se_op {op : Operator} {r : R2} {f : PyData → PyData → Option Rs} (ho : OpR X (binaryOp op) r) (hf : OpF X.K r f) (ha : SE X a ma) (hb : SE X b mb) : SE X (.BinOp a op b pos) (mOp2 f ma mb) :=
  PE_imp (pe_op ho ha hb) fun σ H Q h => imp2 hf h
theorem se_un {op : UnaryOp} {r : V → Hp → VK → Prop} {f : PyData → Option Rs} (ho : UnR X (unaryOp op) r) (hf : UnF X.K r f) (ha : SE X a ma) : SE X (.UnaryOp op a pos) (mOp1 f ma) :=
  PE_imp (pe_un ho ha) fun σ H Q h => imp1 hf h
theorem se_cmp {op : CmpOp} {r : R2} {f : PyData → PyData → Option Rs} (ho : OpR X (compareOp op) r) (hf : OpF X.K r f) (hm : behindInMarks op b = false) (ha : SE X a ma) (hb : SE X b mb) : SE X (.Compare a [op] [b] pos) (mOp2 f ma mb) :=
  PE_imp (pe_cmpR ho ha hb hm) fun σ H Q h => imp2 hf h
/-- a value that is a bool, as a test -/
def mB (m : M Rs) : M Bool := fun e => (m e).bind fun p => match p.1 with
  | .val (.bool c) => some (c, p.2)
  | _ => none
theorem tT_B {K : PySem.W.Frag} {m : M Rs} {t : TE} (hi : ∀ σ H Q, tE K m σ H Q → t σ H Q) {σ : St} {H : Hp} {Q : Bool → Hp → Prop} (h : tT K (mB m) σ H Q) : t σ H fun x H1 => ∃ c, x = .bl c ∧ Q c H1 := by
  obtain ⟨ι, α, T, e, c, e', L, em, k⟩ := h
  simp only [mB, Option.bind_eq_some_iff] at em
  obtain ⟨⟨r1, e1⟩, h1, em⟩ := em
  refine hi _ _ _ ⟨ι, α, T, e, r1, e1, L, h1, fun α' ps H' v A => ?_⟩
  split at em
  · cases em
    rename_i z
    have z' : r1 = .val (.bool c) := z
    subst z'
    obtain ⟨rfl, g⟩ := A.rv
    cases g
    exact ⟨c, rfl, k α' H' A.lr A.st⟩
  · cases em
theorem st_cmp {op : CmpOp} {r : R2} {f : PyData → PyData → Option Rs} (ho : OpR X (compareOp op) r) (hf : OpF X.K r f) (hm : behindInMarks op b = false) (ha : SE X a ma) (hb : SE X b mb) : ST X (.Compare a [op] [b] pos) (mB (mOp2 f ma mb)) :=
  PT_imp (pt_cmpR ho ha hb hm) fun σ H Q h => tT_B (fun σ H Q h => imp2 hf h) h
/-- any other expression whose value is a bool -/
theorem st_val {m : M Rs} (h : SE X a m) (he : ∀ whole, isTrue a X.env whole = (do let v ← whole; standAt a.pos; holding [v] (truthy v)) := by intro _; rfl) : ST X a (mB m) :=
  PT_imp (pt_val h he) fun σ H Q h => tT_B (fun _ _ _ h => h) h

/-! ### ints -/
@[simp] def fI (g : Int → Int → Int) : PyData → PyData → Option Rs
  | .int i, .int j => some (.val (.int (g i j)))
  | _, _ => none
@[simp] def fB (g : Int → Int → Bool) : PyData → PyData → Option Rs
  | .int i, .int j => some (.val (.bool (g i j)))
  | _, _ => none
@[simp] def fIC (C : Int → Int → Bool) (g : Int → Int → Int) : PyData → PyData → Option Rs
  | .int i, .int j => if C i j = true then some (.val (.int (g i j))) else none
  | _, _ => none
theorem of_I {K : PySem.W.Frag} {g : Int → Int → Int} : OpF K (rI0 fun i j => .int (g i j)) (fI g) := by
  intro H F x y d1 d2 res Q _ t1 t2 h k
  unfold fI at h
  split at h
  · cases h
    cases t1
    cases t2
    exact ⟨_, _, rfl, rfl, k _ _ _ (.val (.int _))⟩
  · cases h
theorem of_B {K : PySem.W.Frag} {g : Int → Int → Bool} : OpF K (rI0 fun i j => .bl (g i j)) (fB g) := by
  intro H F x y d1 d2 res Q _ t1 t2 h k
  unfold fB at h
  split at h
  · cases h
    cases t1
    cases t2
    exact ⟨_, _, rfl, rfl, k _ _ _ (.val (.bl _))⟩
  · cases h
theorem of_IC {K : PySem.W.Frag} {C : Int → Int → Bool} {D : Int → Int → Prop} {g : Int → Int → Int} (hC : ∀ i j, C i j = true → D i j) : OpF K (rI D fun i j => .int (g i j)) (fIC C g) := by
  intro H F x y d1 d2 res Q _ t1 t2 h k
  unfold fIC at h
  split at h
  · split at h
    · cases h
      cases t1
      cases t2
      rename_i q
      exact ⟨_, _, rfl, rfl, hC _ _ q, k _ _ _ (.val (.int _))⟩
    · cases h
  · cases h
theorem OpF_or {K : PySem.W.Frag} {r r' : R2} {f : PyData → PyData → Option Rs} {g : PyData → PyData → Option Rs} (h : OpF K r f) (h' : OpF K r' g) : OpF K (fun x y H Q => r x y H Q ∨ r' x y H Q) (fun a b => (f a b).or (g a b)) := by
  intro H F x y d1 d2 res Q hs t1 t2 e k
  have e : (f d1 d2).or (g d1 d2) = some res := e
  cases hf : f d1 d2 with
  | some r0 =>
    rw [hf] at e
    exact .inl (h H F x y d1 d2 res Q hs t1 t2 (hf.trans (by simpa using e)) k)
  | none =>
    rw [hf] at e
    exact .inr (h' H F x y d1 d2 res Q hs t1 t2 (by simpa using e) k)
def cDiv (i j : Int) : Bool := decide (0 < j ∧ j < 1073741824)
def cMod (i j : Int) : Bool := decide (0 < j)
def cMul (i j : Int) : Bool := decide (i.natAbs < 18446744073709551616 ∨ j.natAbs < 18446744073709551616)
def cPow (i j : Int) : Bool := decide (0 ≤ j ∧ j ≤ 1000000 ∧ i.natAbs < 18446744073709551616)

/-! ### sequences -/
/-- t + u, xs + ys -/
@[simp] def fCat : PyData → PyData → Option Rs
  | .tuple xs, .tuple ys => if xs.length + ys.length ≤ lim then some (.val (.tuple (xs ++ ys))) else none
  | _, _ => none
@[simp] def fCatL : PyData → PyData → Option Rs
  | .list xs, .list ys => if xs.length + ys.length ≤ lim then some (.new (.lst (xs ++ ys))) else none
  | _, _ => none
theorem of_cat {K : PySem.W.Frag} : OpF K (rCatA K) fCat := by
  intro H F x y d1 d2 res Q hs t1 t2 h k
  unfold fCat at h
  split at h
  · split at h
    · cases h
      rename_i xs ys hz
      obtain ⟨a, vs, rfl, ha, ga⟩ := t1
      obtain ⟨b, ws, rfl, hb, gb⟩ := t2
      refine ⟨a, b, vs, ws, rfl, rfl, same_tup hs ha, same_tup hs hb, by rw [ga.length, gb.length]; exact lim_le hz, fun e => ?_, fun e1 e2 => ?_, fun _ _ p hp => ?_⟩
      · subst e
        cases ga
        exact k _ _ _ (.val (.tup hb gb))
      · subst e2
        cases gb
        rw [List.append_nil] at k
        exact k _ _ _ (.val (.tup ha ga))
      · exact k _ _ _ (.tup hp (ga.append gb))
    · cases h
  · cases h
/-- xs + ys of lists that are read -/
def rCatS (K : PySem.W.Frag) : R2 := fun x y H Q => ∃ l b xs zs, x = .ref l ∧ y = .ref b ∧ SqL K H l xs ∧ SqL K H b zs ∧ xs.length + zs.length ≤ sizeLine ∧ ∀ p, H p = none → Q (.ref p) (upd H p (.lst (xs ++ zs)))
theorem op_catS : OpR X (binaryOp .Add) (rCatS X.K) := by
  intro pins s σ H x y v u Q I rx ry h
  obtain ⟨l, b, xs, zs, rfl, rfl, hL, hB, hz, q⟩ := h
  cases rx
  cases ry
  obtain ⟨its, r, ⟨⟨c1, i1, t1, l1⟩, n, ho, hc, hd, ht⟩, _⟩ := I.list hL
  obtain ⟨its2, r2, ⟨⟨c2, i2, t2, l2⟩, n2, ho2, hc2, hd2, ht2⟩, _⟩ := I.list hB
  simp only at hc hd ht hc2 hd2 ht2
  subst hc hd ht hc2 hd2 ht2
  have e1 : its.toArray ++ its2.toArray = (its ++ its2).toArray := by simp
  have h1 := r.length
  have h2 := r2.length
  refine concat_meets ⟨_, ho, rfl⟩ ⟨_, ho2, rfl⟩ noFill_list_add seq_list_add
    PySem.F.slot_list_add PySem.F.entry_list_add (PySem.F.args_list_add_2 _ _)
    (PyProof.Rows.list_addW l b its.toArray its2.toArray n n2 none none l1 l2 (by rw [List.size_toArray, List.size_toArray]; omega)) ⟨ho, ho2, ?_⟩
  rw [e1]
  exact ⟨.ref _, _, I.lnew (t' := s.toks) (r.append r2) (by rw [List.length_append]; omega), rfl, q _ I.fresh⟩
theorem of_catL {K : PySem.W.Frag} : OpF K (rCatS K) fCatL := by
  intro H F x y d1 d2 res Q hs t1 t2 h k
  unfold fCatL at h
  split at h
  · split at h
    · cases h
      rename_i xs ys hz
      obtain ⟨a, vs, rfl, ha, ga⟩ := t1
      obtain ⟨b, ws, rfl, hb, gb⟩ := t2
      exact ⟨a, b, vs, ws, rfl, rfl, ha, hb, by rw [ga.length, gb.length]; exact lim_le hz, fun p hp => k _ _ _ (.lst hp (ga.append gb))⟩
    · cases h
  · cases h
end
end Gx
/-! G1b: more expressions. -/
namespace Gx
open PySem L2

/-! ### built-ins by views -/
def CaF1 (K : PySem.W.Frag) (r : List V → Hp → VK → Prop) (f : PyData → Option Rs) : Prop :=
  ∀ (H F : Hp) (x : V) (d : PyData) (res : Rs) (Q : VK), Same F H → TD K H F x d → f d = some res → (∀ ps H' v, Res K H F res ps H' v → Q v H') → r [x] H Q
def CaF2 (K : PySem.W.Frag) (r : List V → Hp → VK → Prop) (f : PyData → PyData → Option Rs) : Prop :=
  ∀ (H F : Hp) (x y : V) (d1 d2 : PyData) (res : Rs) (Q : VK), Same F H → TD K H F x d1 → TD K H F y d2 → f d1 d2 = some res → (∀ ps H' v, Res K H F res ps H' v → Q v H') → r [x, y] H Q
section
variable {X : Cx} {a b c : Expr} {pos p : Pos} {ma mb mc : M Rs} {x : Str} {id T : String} {r : List V → Hp → VK → Prop} {f : PyData → Option Rs} {g : PyData → PyData → Option Rs}
theorem se_callB (hc : CallR X (.builtin id) r) (hf : CaF1 X.K r f) (hg : Gl X x) (hm : X.mg x = none) (hv : bootBuiltins x = some (.builtin id)) (ha : SE X a ma) (hn : x ≠ "__name__" := by decide) (hdb : (x == ("__debug__" : Str)) = false := by decide)
    (he : starEach [a] X.env = (false, eval a X.env) :: starEach [] X.env := by rfl) (hpl : (backTo pos (starEach [] X.env)).any (·.1) = false := by rfl) : SE X (.Call (.Name x p) [a] [] pos) (mOp1 f ma) := by
  refine PE_imp (pe_callB hc hg hm hv (pa_cons ha pa_nil he) hn hdb he hpl) fun σ H Q ⟨ι, α, T, e, r', e', L, em, k⟩ => ?_
  simp only [mOp1, Option.bind_eq_some_iff] at em
  obtain ⟨⟨r1, e1⟩, h1, d1, h3, r3, h5, h6⟩ := em
  cases h6
  show tE X.K ma σ H fun x H1 => r [x] H1 Q
  exact one_view L h1 h3 fun α' H2 x L2' s t1 => hf H2 _ x d1 r' Q mask_sub t1 h5 fun ps H' v q => k α' ps H' v (Aft.of_res L2' s q)
theorem se_callT (hc : CallR X (.type T) r) (hf : CaF1 X.K r f) (hg : Gl X x) (hm : X.mg x = none) (hv : bootBuiltins x = some (.type T)) (ha : SE X a ma) (hn : x ≠ "__name__" := by decide) (hdb : (x == ("__debug__" : Str)) = false := by decide)
    (he : starEach [a] X.env = (false, eval a X.env) :: starEach [] X.env := by rfl) (hpl : (backTo pos (starEach [] X.env)).any (·.1) = false := by rfl) : SE X (.Call (.Name x p) [a] [] pos) (mOp1 f ma) := by
  refine PE_imp (pe_callTy hc hg hm hv (pa_cons ha pa_nil he) hn hdb he hpl) fun σ H Q ⟨ι, α, T, e, r', e', L, em, k⟩ => ?_
  simp only [mOp1, Option.bind_eq_some_iff] at em
  obtain ⟨⟨r1, e1⟩, h1, d1, h3, r3, h5, h6⟩ := em
  cases h6
  show tE X.K ma σ H fun x H1 => r [x] H1 Q
  exact one_view L h1 h3 fun α' H2 x L2' s t1 => hf H2 _ x d1 r' Q mask_sub t1 h5 fun ps H' v q => k α' ps H' v (Aft.of_res L2' s q)
theorem se_callB2 (hc : CallR X (.builtin id) r) (hf : CaF2 X.K r g) (hg : Gl X x) (hm : X.mg x = none) (hv : bootBuiltins x = some (.builtin id)) (ha : SE X a ma) (hb : SE X b mb) (hn : x ≠ "__name__" := by decide) (hdb : (x == ("__debug__" : Str)) = false := by decide)
    (he : starEach [a, b] X.env = (false, eval a X.env) :: starEach [b] X.env := by rfl) (he2 : starEach [b] X.env = (false, eval b X.env) :: starEach [] X.env := by rfl) (hpl : (backTo pos (starEach [b] X.env)).any (·.1) = false := by rfl) : SE X (.Call (.Name x p) [a, b] [] pos) (mOp2 g ma mb) := by
  refine PE_imp (pe_callB hc hg hm hv (pa_cons ha (pa_cons hb pa_nil he2) he) hn hdb he hpl) fun σ H Q ⟨ι, α, T, e, r', e', L, em, k⟩ => ?_
  simp only [mOp2, Option.bind_eq_some_iff] at em
  obtain ⟨⟨r1, e1⟩, h1, ⟨r2, e2⟩, h2, d1, h3, d2, h4, r3, h5, h6⟩ := em
  cases h6
  show tE X.K ma σ H fun x H1 => tE X.K mb σ H1 fun y H2 => r [x, y] H2 Q
  exact two_view L h1 h2 h3 h4 fun α' H2 x y L2' s t1 t2 => hf H2 _ x y d1 d2 r' Q mask_sub t1 t2 h5 fun ps H' v q => k α' ps H' v (Aft.of_res L2' s q)

@[simp] def fLen : PyData → Option Rs
  | .tuple xs => some (.val (.int xs.length))
  | .list xs => some (.val (.int xs.length))
  | _ => none
theorem cf_len {K : PySem.W.Frag} : CaF1 K (fun xs H Q => ∃ p ys, xs = [.ref p] ∧ (SqL K H p ys ∨ SqT K H p ys) ∧ Q (.int ys.length) H) fLen := by
  intro H F x d res Q hs t h k
  unfold fLen at h
  split at h
  · cases h
    obtain ⟨a, vs, rfl, ha, ga⟩ := t
    exact ⟨a, vs, rfl, .inr (same_tup hs ha), by rw [ga.length]; exact k _ _ _ (.val (.int _))⟩
  · cases h
    obtain ⟨a, vs, rfl, ha, ga⟩ := t
    exact ⟨a, vs, rfl, .inl ha, by rw [ga.length]; exact k _ _ _ (.val (.int _))⟩
  · cases h
/-- list(x), tuple(x) of a list or a tuple -/
@[simp] def fList : PyData → Option Rs
  | .tuple xs => some (.new (.lst xs))
  | .list xs => some (.new (.lst xs))
  | _ => none
@[simp] def fTuple : PyData → Option Rs
  | .tuple xs => some (.val (.tuple xs))
  | .list xs => some (.val (.tuple xs))
  | _ => none
theorem cf_list {K : PySem.W.Frag} : CaF1 K (fun xs H Q => ∃ p ys, xs = [.ref p] ∧ (SqL K H p ys ∨ SqT K H p ys) ∧ ∀ l, H l = none → Q (.ref l) (upd H l (.lst ys))) fList := by
  intro H F x d res Q hs t h k
  unfold fList at h
  split at h
  · cases h
    obtain ⟨a, vs, rfl, ha, ga⟩ := t
    exact ⟨a, vs, rfl, .inr (same_tup hs ha), fun l hl => k _ _ _ (.lst hl ga)⟩
  · cases h
    obtain ⟨a, vs, rfl, ha, ga⟩ := t
    exact ⟨a, vs, rfl, .inl ha, fun l hl => k _ _ _ (.lst hl ga)⟩
  · cases h
theorem cf_tuple {K : PySem.W.Frag} : CaF1 K (fun xs H Q => ∃ p ys, xs = [.ref p] ∧ ((SqL K H p ys ∧ ∀ l, H l = none → Q (.ref l) (upd H l (.tup ys))) ∨ (SqT K H p ys ∧ Q (.ref p) H))) fTuple := by
  intro H F x d res Q hs t h k
  unfold fTuple at h
  split at h
  · cases h
    obtain ⟨a, vs, rfl, ha, ga⟩ := t
    exact ⟨a, vs, rfl, .inr ⟨same_tup hs ha, k _ _ _ (.val (.tup ha ga))⟩⟩
  · cases h
    obtain ⟨a, vs, rfl, ha, ga⟩ := t
    exact ⟨a, vs, rfl, .inl ⟨ha, fun l hl => k _ _ _ (.tup hl ga)⟩⟩
  · cases h
@[simp] def fInt : PyData → Option Rs
  | .int i => some (.val (.int i))
  | .bool b => some (.val (.int (if b then 1 else 0)))
  | _ => none
theorem cf_int {K : PySem.W.Frag} : CaF1 K (fun xs H Q => (∃ i, xs = [.int i] ∧ Q (.int i) H) ∨ ∃ k, xs = [.bl k] ∧ Q (.int (if k then 1 else 0)) H) fInt := by
  intro H F x d res Q hs t h k
  unfold fInt at h
  split at h
  · cases h
    cases t
    exact .inl ⟨_, rfl, k _ _ _ (.val (.int _))⟩
  · cases h
    cases t
    exact .inr ⟨_, rfl, k _ _ _ (.val (.int _))⟩
  · cases h
@[simp] def bools : List PyData → Option (List Bool)
  | [] => some []
  | .bool b :: r => (bools r).bind fun l => some (b :: l)
  | _ :: _ => none
theorem bools_eq : ∀ {ds : List PyData} {bs : List Bool}, bools ds = some bs → ds = bs.map PyData.bool
  | [], bs, h => by
    cases h
    rfl
  | .bool b :: r, bs, h => by
    simp only [bools, Option.bind_eq_some_iff] at h
    obtain ⟨l, h1, h2⟩ := h
    cases h2
    rw [List.map_cons, ← bools_eq h1]
  | .none :: r, bs, h => by cases h
  | .int _ :: r, bs, h => by cases h
  | .str _ :: r, bs, h => by cases h
  | .list _ :: r, bs, h => by cases h
  | .tuple _ :: r, bs, h => by cases h
  | .dict _ :: r, bs, h => by cases h
theorem bools_map : ∀ bs : List Bool, bools (bs.map PyData.bool) = some bs
  | [] => rfl
  | b :: bs => by simp only [List.map_cons, bools, bools_map bs, Option.bind_some]
def fAll : PyData → Option Rs
  | .list xs => (bools xs).bind fun bs => some (.val (.bool (bs.all _root_.id)))
  | _ => none
def fAny : PyData → Option Rs
  | .list xs => (bools xs).bind fun bs => some (.val (.bool (bs.any _root_.id)))
  | _ => none
theorem cf_all {K : PySem.W.Frag} : CaF1 K (rAll K) fAll := by
  intro H F x d res Q hs t h k
  unfold fAll at h
  split at h
  · obtain ⟨bs, h1, h2⟩ := Option.bind_eq_some_iff.mp h
    cases h2
    obtain ⟨a, vs, rfl, ha, ga⟩ := t
    rw [bools_eq h1] at ga
    rw [ga.of_bools] at ha
    exact ⟨a, bs, rfl, ha, k _ _ _ (.val (.bl _))⟩
  · cases h
theorem cf_any {K : PySem.W.Frag} : CaF1 K (rAny K) fAny := by
  intro H F x d res Q hs t h k
  unfold fAny at h
  split at h
  · obtain ⟨bs, h1, h2⟩ := Option.bind_eq_some_iff.mp h
    cases h2
    obtain ⟨a, vs, rfl, ha, ga⟩ := t
    rw [bools_eq h1] at ga
    rw [ga.of_bools] at ha
    exact ⟨a, bs, rfl, ha, k _ _ _ (.val (.bl _))⟩
  · cases h
theorem cf_max2 {K : PySem.W.Frag} : CaF2 K (fun xs H Q => ∃ i j, xs = [.int i, .int j] ∧ Q (.int (if j > i then j else i)) H) (fI fun i j => if j > i then j else i) := by
  intro H F x y d1 d2 res Q hs t1 t2 h k
  unfold fI at h
  split at h
  · cases h
    cases t1
    cases t2
    exact ⟨_, _, rfl, k _ _ _ (.val (.int _))⟩
  · cases h
theorem cf_min2 {K : PySem.W.Frag} : CaF2 K (fun xs H Q => ∃ i j, xs = [.int i, .int j] ∧ Q (.int (if j < i then j else i)) H) (fI fun i j => if j < i then j else i) := by
  intro H F x y d1 d2 res Q hs t1 t2 h k
  unfold fI at h
  split at h
  · cases h
    cases t1
    cases t2
    exact ⟨_, _, rfl, k _ _ _ (.val (.int _))⟩
  · cases h

/-! ### isinstance(x, T) -/
@[simp] def tyN : PyData → String
  | .none => "NoneType"
  | .bool _ => "bool"
  | .int _ => "int"
  | .str _ => "str"
  | .list _ => "list"
  | .tuple _ => "tuple"
  | .dict _ => "dict"
def fIsi (T : String) (d : PyData) : Option Rs := (kitB (tyN d) T).bind fun b => some (.val (.bool b))
theorem TD.ty {K : PySem.W.Frag} {H F : Hp} (hs : Same F H) : ∀ {v : V} {d : PyData}, TD K H F v d → TyX K H v (.type (tyN d))
  | _, .none, .non => .base .non
  | _, .bool _, .bl b => .base (.bl b)
  | _, .int _, .int i => .base (.int i)
  | _, .str _, .str x => .base (.str x)
  | _, .list _, ⟨a, xs, e, h, _⟩ => by
    subst e
    rcases h with (h | ⟨o, h⟩) | ⟨o, its, n, h, hc, _⟩
    · exact .base (.lst h)
    · exact .base (.frz h)
    · exact .kList h hc
  | _, .tuple _, ⟨a, xs, e, h, _⟩ => by
    subst e
    rcases same_tup hs h with (h | ⟨o, h⟩) | ⟨o, its, n, h, hc, _⟩
    · exact .base (.tup h)
    · exact .fTuple h
    · exact .kTuple h hc
theorem se_isi {T : String} {x : Str} {p1 p2 : Pos} (hg : Gl X "isinstance") (hm : X.mg "isinstance" = none) (hgT : Gl X x) (hmT : X.mg x = none) (hvT : bootBuiltins x = some (.type T)) (ha : SE X a ma)
    (hnT : x ≠ "__name__" := by decide) (hdT : (x == ("__debug__" : Str)) = false := by decide)
    (he : starEach [a, .Name x p2] X.env = (false, eval a X.env) :: starEach [.Name x p2] X.env := by rfl) (he2 : starEach [.Name x p2] X.env = (false, eval (.Name x p2) X.env) :: starEach [] X.env := by rfl)
    (hpl : (backTo pos (starEach [.Name x p2] X.env)).any (·.1) = false := by rfl) (hv : bootBuiltins "isinstance" = some (.builtin "isinstance") := by decide +kernel) : SE X (.Call (.Name "isinstance" p1) [a, .Name x p2] [] pos) (mOp1 (fIsi T) ma) := by
  refine PE_imp (pe_callB call_isi hg hm hv (pa_cons ha (pa_cons (pe_bltn (v := .ty T) hgT hmT hvT rfl hnT hdT) pa_nil he2) he) (by decide) (by decide) he hpl) fun σ H Q ⟨ι, α, T', e, r', e', L, em, k⟩ => ?_
  simp only [mOp1, Option.bind_eq_some_iff, fIsi] at em
  obtain ⟨⟨r1, e1⟩, h1, d1, h3, r3, ⟨b, h5, h7⟩, h6⟩ := em
  cases h6
  cases h7
  show tE X.K ma σ H fun x H1 => rIsi X.K [x, .ty T] H1 Q
  exact one_view L h1 h3 fun α' H2 x L2' s t1 => ⟨x, .ty T, _, _, b, rfl, .ty T, t1.ty mask_sub, kit_ty h5, k α' [] H2 (.bl b) (Aft.of_res L2' s (.val (.bl b)))⟩

/-! ### == and != -/
def fEq (d1 d2 : PyData) : Option Rs := if SeqAt.shaped d1 = true ∧ SeqAt.shaped d2 = true then some (.val (.bool (PyData.eqv d1 d2))) else none
def fNe (d1 d2 : PyData) : Option Rs := if SeqAt.shaped d1 = true ∧ SeqAt.shaped d2 = true then some (.val (.bool (!PyData.eqv d1 d2))) else none
mutual
theorem FD.dp {K : PySem.W.Frag} {H : Hp} : ∀ {v : V} {d : PyData}, FD K H v d → Dp K H v d
  | _, _, .non => .non
  | _, _, .bl b => .bl b
  | _, _, .int i => .int i
  | _, _, .str x => .str x
  | _, _, .lst h hs => .lst h (FDs.dp hs)
  | _, _, .tup h hs => .tup h (FDs.dp hs)
theorem FDs.dp {K : PySem.W.Frag} {H : Hp} : ∀ {v : List V} {d : List PyData}, FDs K H v d → DpAll K H v d
  | _, _, .nil => .nil
  | _, _, .cons h hs => .cons (FD.dp h) (FDs.dp hs)
end
theorem of_eq {K : PySem.W.Frag} : OpF K (rEqD K) fEq := by
  intro H F x y d1 d2 res Q hs t1 t2 h k
  unfold fEq at h
  split at h
  · rename_i q
    cases h
    exact ⟨d1, d2, (t1.fd hs).dp, (t2.fd hs).dp, q.1, q.2, k _ _ _ (.val (.bl _))⟩
  · cases h
theorem of_ne {K : PySem.W.Frag} : OpF K (rNeD K) fNe := by
  intro H F x y d1 d2 res Q hs t1 t2 h k
  unfold fNe at h
  split at h
  · rename_i q
    cases h
    exact ⟨d1, d2, (t1.fd hs).dp, (t2.fd hs).dp, q.1, q.2, k _ _ _ (.val (.bl _))⟩
  · cases h
@[simp] def isN : PyData → Bool
  | .none => true
  | _ => false
@[simp] def fIsN : PyData → PyData → Option Rs
  | d, .none => some (.val (.bool (isN d)))
  | _, _ => none
@[simp] def fNotN : PyData → PyData → Option Rs
  | d, .none => some (.val (.bool (!isN d)))
  | _, _ => none
theorem TD.non_iff {K : PySem.W.Frag} {H F : Hp} {v : V} {d : PyData} (t : TD K H F v d) : decide (v = .non) = (isN d) := by
  cases d with
  | none => cases t; rfl
  | bool _ => cases t; rfl
  | int _ => cases t; rfl
  | str _ => cases t; rfl
  | list _ =>
    obtain ⟨_, _, rfl, _⟩ := t
    rfl
  | tuple _ =>
    obtain ⟨_, _, rfl, _⟩ := t
    rfl
  | dict _ => cases t
theorem of_isN {K : PySem.W.Frag} : OpF K (fun x y H Q => y = .non ∧ Q (.bl (decide (x = .non))) H) fIsN := by
  intro H F x y d1 d2 res Q hs t1 t2 h k
  unfold fIsN at h
  split at h
  · cases h
    cases t2
    refine ⟨rfl, ?_⟩
    rw [t1.non_iff]
    exact k _ _ _ (.val (.bl _))
  · cases h
theorem of_notN {K : PySem.W.Frag} : OpF K (fun x y H Q => y = .non ∧ Q (.bl (!decide (x = .non))) H) fNotN := by
  intro H F x y d1 d2 res Q hs t1 t2 h k
  unfold fNotN at h
  split at h
  · cases h
    cases t2
    refine ⟨rfl, ?_⟩
    rw [t1.non_iff]
    exact k _ _ _ (.val (.bl _))
  · cases h

/-! ### items and slices -/
@[simp] def fIx : PyData → PyData → Option Rs
  | .tuple xs, .int i => (atI xs i).bind fun d => some (.val d)
  | .list xs, .int i => (atI xs i).bind fun d => some (.val d)
  | _, _ => none
theorem atI_fd {K : PySem.W.Frag} {F : Hp} {vs : List V} {ds : List PyData} {i : Int} {d : PyData} (g : FDs K F vs ds) (h : atI ds i = some d) : ∃ v, atI vs i = some v ∧ FD K F v d := by
  unfold atI at h ⊢
  obtain ⟨j, h1, h2⟩ := Option.bind_eq_some_iff.mp h
  obtain ⟨v, h3, h4⟩ := g.get h2
  rw [g.length, h1]
  exact ⟨v, h3, h4⟩
def rIx2 (K : PySem.W.Frag) : R2 := fun x y H Q => rIxT K x y H Q ∨ rIxL K x y H Q
theorem ix_two : IxR X (rIx2 X.K) := ix_tup.or ix_list
theorem of_ix {K : PySem.W.Frag} : OpF K (rIx2 K) fIx := by
  intro H F x y d1 d2 res Q hs t1 t2 h k
  unfold fIx at h
  split at h
  · obtain ⟨d, h1, h2⟩ := Option.bind_eq_some_iff.mp h
    cases h2
    obtain ⟨a, vs, rfl, ha, ga⟩ := t1
    cases t2
    obtain ⟨v, h3, h4⟩ := atI_fd ga h1
    exact .inl ⟨a, vs, _, v, rfl, rfl, same_tup hs ha, h3, k _ _ _ (.val h4)⟩
  · obtain ⟨d, h1, h2⟩ := Option.bind_eq_some_iff.mp h
    cases h2
    obtain ⟨a, vs, rfl, ha, ga⟩ := t1
    cases t2
    obtain ⟨v, h3, h4⟩ := atI_fd ga h1
    exact .inr ⟨a, vs, _, v, rfl, rfl, ha, h3, k _ _ _ (.val h4)⟩
  · cases h
theorem se_ix (ha : SE X a ma) (hb : SE X b mb) (hs : PlainIx b) : SE X (.Subscript a b pos) (mOp2 fIx ma mb) := PE_imp (pe_ix ix_two ha hb hs) fun σ H Q h => imp2 of_ix h

/-! ### a part of a slice -/
abbrev MO := Lo → Option (Option Int × Lo)
def oNo : MO := fun e => some (none, e)
def oSome (m : M Rs) : MO := fun e => (m e).bind fun p => match p.1 with
  | .val (.int i) => some (some i, p.2)
  | _ => none
def tO (K : PySem.W.Frag) (m : MO) : TO := fun σ H Q => ∃ ι α T e b e', LR K ι α T e σ H ∧ m e = some (b, e') ∧ ∀ α' H', LR K ι α' T e' σ H' → Stp α T H α' T H' → Q b H'
theorem PO_imp {e : Option Expr} {t t' : TO} (h : PO X e t) (hi : ∀ σ H Q, t' σ H Q → t σ H Q) : PO X e t' := ⟨fun pins s σ H Q I q => h.run pins s σ H Q I (hi σ H Q q)⟩
theorem so_no : PO X none (tO X.K oNo) := PO_imp po_none fun σ H Q ⟨ι, α, T, e, b, e', L, em, k⟩ => by
  cases em
  exact k α H L Stp.refl
theorem so_some (h : SE X a ma) : PO X (some a) (tO X.K (oSome ma)) := PO_imp (po_some h) fun σ H Q ⟨ι, α, T, e, b, e', L, em, k⟩ => by
  simp only [oSome, Option.bind_eq_some_iff] at em
  obtain ⟨⟨r1, e1⟩, h1, em⟩ := em
  refine ⟨ι, α, T, e, r1, e1, L, h1, fun α' ps H' v A => ?_⟩
  split at em
  · cases em
    rename_i i z
    have z' : r1 = .val (.int i) := z
    subst z'
    obtain ⟨rfl, g⟩ := A.rv
    cases g
    exact ⟨i, rfl, k α' H' A.lr A.st⟩
  · cases em
def cutD (xs : List PyData) (lo hi : Option Int) : List PyData := (xs.drop (HT.sIx xs.length 0 lo)).take (HT.sIx xs.length xs.length hi - HT.sIx xs.length 0 lo)
theorem cut_fd {K : PySem.W.Frag} {F : Hp} {vs : List V} {ds : List PyData} (g : FDs K F vs ds) (lo hi : Option Int) : FDs K F (cutV vs lo hi) (cutD ds lo hi) := by
  unfold cutV cutD
  rw [g.length]
  exact (g.drop _).take _
@[simp] def fSl (d : PyData) (lo hi : Option Int) : Option Rs := match d with
  | .tuple xs => some (.val (.tuple (cutD xs lo hi)))
  | .list xs => some (.new (.lst (cutD xs lo hi)))
  | _ => none
def mSl (ma : M Rs) (ml mh : MO) : M Rs := fun e => (ma e).bind fun p => (ml p.2).bind fun l => (mh l.2).bind fun h => (vw h.2 p.1).bind fun d => (fSl d l.1 h.1).bind fun r => some (r, h.2)
def rSl2 (K : PySem.W.Frag) : V → Option Int → Option Int → Hp → VK → Prop := fun x lo hi H Q => rSlA K x lo hi H Q ∨ rSlL K x lo hi H Q
theorem se_slice {lo hi : Option Expr} {ml mh : MO} {p2 : Pos} (ha : SE X a ma) (hl : PO X lo (tO X.K ml)) (hh : PO X hi (tO X.K mh)) : SE X (.Subscript a (.Slice lo hi none p2) pos) (mSl ma ml mh) := by
  refine PE_imp (pe_slice (r := rSl2 X.K) (sl_tupA.or sl_list) ha hl hh) fun σ H Q ⟨ι, α, T, e, r', e', L, em, k⟩ => ?_
  simp only [mSl, Option.bind_eq_some_iff] at em
  obtain ⟨⟨r1, e1⟩, h1, ⟨l, e2⟩, h2, ⟨u, e3⟩, h3, d, h4, r3, h5, h6⟩ := em
  cases h6
  refine ⟨ι, α, T, e, r1, e1, L, h1, fun α1 ps H1 x A1 => ⟨ι, α1, ps ++ T, e1, l, e2, A1.lr, h2, fun α2 H2 L2' S2 => ⟨ι, α2, ps ++ T, e2, u, e3, L2', h3, fun α3 H3 L3 S3 => ?_⟩⟩⟩
  have S := S2.trans S3 fun p hp => hp
  have rv := A1.rv.stay S fun p hp => List.mem_append_left _ hp
  have m1 : Same (mask H3 α3 (ps ++ T)) (mask H3 α3 T) := mask_mono (fun i p h => .inl ⟨i, h⟩) fun p h => .inr (List.mem_append_right _ h)
  have t := (rv.view L3 h4).mono m1
  have S' := (A1.st.trans S fun p hp => List.mem_append_right _ hp).drop
  have k' : ∀ qs H' v, Res X.K H3 (mask H3 α3 T) r' qs H' v → Q v H' := fun qs H' v q => k α3 qs H' v (Aft.of_res L3.drop S' q)
  unfold fSl at h5
  split at h5
  · cases h5
    rename_i xs
    obtain ⟨a, vs, rfl, hq, ga⟩ := t
    refine .inl ⟨a, vs, rfl, same_tup mask_sub hq, fun ⟨z1, z2⟩ => ?_, fun _ p hp => k' _ _ _ (.tup hp (cut_fd ga l u))⟩
    have ez : cutD xs l u = xs := by
      unfold cutD
      rw [← ga.length, z1, z2, List.drop_zero, Nat.sub_zero, ga.length, List.take_length]
    rw [ez] at k'
    exact k' _ _ _ (.val (.tup hq ga))
  · cases h5
    obtain ⟨a, vs, rfl, hq, ga⟩ := t
    exact .inr ⟨a, vs, rfl, hq, fun p hp => k' _ _ _ (.lst hp (cut_fd ga l u))⟩
  · cases h5

/-! ### tests and choices -/
def mTr (m : M Rs) : M Bool := fun e => (m e).bind fun p => (vw p.2 p.1).bind fun d => match d with
  | .none => some (false, p.2)
  | .bool c => some (c, p.2)
  | .int i => some (i != 0, p.2)
  | .list xs => some (!xs.isEmpty, p.2)
  | .tuple xs => some (!xs.isEmpty, p.2)
  | _ => none
def mNot (m : M Bool) : M Bool := fun e => (m e).bind fun p => some (!p.1, p.2)
def mAnd (m n : M Bool) : M Bool := fun e => (m e).bind fun p => if p.1 = true then n p.2 else some (false, p.2)
def mOr (m n : M Bool) : M Bool := fun e => (m e).bind fun p => if p.1 = true then some (true, p.2) else n p.2
def mIf (t : M Bool) (m n : M Rs) : M Rs := fun e => (t e).bind fun p => if p.1 = true then m p.2 else n p.2
/-- a test as a value -/
def mV (m : M Bool) : M Rs := fun e => (m e).bind fun p => some (.val (.bool p.1), p.2)
def mAndV (m n : M Rs) : M Rs := fun e => (mB m e).bind fun p => if p.1 = true then n p.2 else some (.val (.bool false), p.2)
def mOrV (m n : M Rs) : M Rs := fun e => (mB m e).bind fun p => if p.1 = true then some (.val (.bool true), p.2) else n p.2
def mNotV (m : M Rs) : M Rs := fun e => (mB m e).bind fun p => some (.val (.bool (!p.1)), p.2)
section
variable {ta tb : M Bool} {es : List Expr}
theorem FDs.empty {K : PySem.W.Frag} {F : Hp} {vs : List V} {ds : List PyData} (g : FDs K F vs ds) : (!ds.isEmpty) = !vs.isEmpty := by cases g <;> rfl
theorem st_truth (ha : SE X a ma) (he : ∀ whole, isTrue a X.env whole = (do let v ← whole; standAt a.pos; holding [v] (truthy v)) := by intro _; rfl) : ST X a (mTr ma) := by
  refine PT_imp (pt_truth ha he) fun σ H Q ⟨ι, α, T, e, c, e', L, em, k⟩ => ?_
  simp only [mTr, Option.bind_eq_some_iff] at em
  obtain ⟨⟨r1, e1⟩, h1, d, h2, em⟩ := em
  refine one_view L h1 h2 fun α' H2 x L2' s t1 => ?_
  cases d with
  | none =>
    cases em
    cases t1
    exact ⟨_, rfl, k _ _ L2' s⟩
  | bool b =>
    cases em
    cases t1
    exact ⟨_, rfl, k _ _ L2' s⟩
  | int b =>
    cases em
    cases t1
    exact ⟨_, rfl, k _ _ L2' s⟩
  | str b => cases em
  | dict b => cases em
  | list xs =>
    cases em
    obtain ⟨p, vs, rfl, hq, ga⟩ := t1
    exact ⟨_, .inl ⟨vs, hq, ga.empty⟩, k _ _ L2' s⟩
  | tuple xs =>
    cases em
    obtain ⟨p, vs, rfl, hq, ga⟩ := t1
    exact ⟨_, .inr (.inl ⟨vs, same_tup mask_sub hq, ga.empty⟩), k _ _ L2' s⟩
theorem st_not (ha : ST X a ta) : ST X (.UnaryOp .Not a pos) (mNot ta) := PT_imp (pt_not ha) fun σ H Q ⟨ι, α, T, e, c, e', L, em, k⟩ => by
  simp only [mNot, Option.bind_eq_some_iff] at em
  obtain ⟨⟨r1, e1⟩, h1, em⟩ := em
  cases em
  exact ⟨ι, α, T, e, r1, e1, L, h1, k⟩
theorem tAnd_imp {K : PySem.W.Frag} {σ : St} {H : Hp} {Q : Bool → Hp → Prop} (h : tT K (mAnd ta tb) σ H Q) : tAnd (tT K ta) (tT K tb) σ H Q := by
  obtain ⟨ι, α, T, e, c, e', L, em, k⟩ := h
  simp only [mAnd, Option.bind_eq_some_iff] at em
  obtain ⟨⟨r1, e1⟩, h1, em⟩ := em
  refine ⟨ι, α, T, e, r1, e1, L, h1, fun α' H' L' S => ?_⟩
  cases r1 with
  | true => exact iteT ⟨ι, α', T, e1, c, e', L', em, fun α2 H2 L2' S2 => k α2 H2 L2' (S.trans S2 fun p h => h)⟩
  | false =>
    cases em
    exact iteF (k α' H' L' S)
theorem tOr_imp {K : PySem.W.Frag} {σ : St} {H : Hp} {Q : Bool → Hp → Prop} (h : tT K (mOr ta tb) σ H Q) : tOr (tT K ta) (tT K tb) σ H Q := by
  obtain ⟨ι, α, T, e, c, e', L, em, k⟩ := h
  simp only [mOr, Option.bind_eq_some_iff] at em
  obtain ⟨⟨r1, e1⟩, h1, em⟩ := em
  refine ⟨ι, α, T, e, r1, e1, L, h1, fun α' H' L' S => ?_⟩
  cases r1 with
  | false => exact iteF ⟨ι, α', T, e1, c, e', L', em, fun α2 H2 L2' S2 => k α2 H2 L2' (S.trans S2 fun p h => h)⟩
  | true =>
    cases em
    exact iteT (k α' H' L' S)
theorem sw_and1 (ha : ST X a ta) : SW X (.BoolOp .And [a] pos) ta := pw_and1 ha
theorem sw_or1 (ha : ST X a ta) : SW X (.BoolOp .Or [a] pos) ta := pw_or1 ha
theorem sw_and (ha : ST X a ta) (hb : SW X (.BoolOp .And (b :: es) pos) tb) : SW X (.BoolOp .And (a :: b :: es) pos) (mAnd ta tb) := PW_imp (pw_and ha hb) fun σ H Q h => tAnd_imp h
theorem sw_or (ha : ST X a ta) (hb : SW X (.BoolOp .Or (b :: es) pos) tb) : SW X (.BoolOp .Or (a :: b :: es) pos) (mOr ta tb) := PW_imp (pw_or ha hb) fun σ H Q h => tOr_imp h
theorem sw_st (h : SW X a ta) : ST X a ta := h.pt
theorem se_if (hc : ST X c ta) (ha : SE X a ma) (hb : SE X b mb) : SE X (.IfExp c a b pos) (mIf ta ma mb) := PE_imp (pe_ifExp hc ha hb) fun σ H Q ⟨ι, α, T, e, r, e', L, em, k⟩ => by
  simp only [mIf, Option.bind_eq_some_iff] at em
  obtain ⟨⟨r1, e1⟩, h1, em⟩ := em
  refine ⟨ι, α, T, e, r1, e1, L, h1, fun α' H' L' S => ?_⟩
  cases r1 with
  | true => exact iteT ⟨ι, α', T, e1, r, e', L', em, fun α2 ps H2 v A => k α2 ps H2 v ⟨A.lr, S.trans A.st fun p h => h, fun p hp => S.non p (A.nw p hp), A.rv⟩⟩
  | false => exact iteF ⟨ι, α', T, e1, r, e', L', em, fun α2 ps H2 v A => k α2 ps H2 v ⟨A.lr, S.trans A.st fun p h => h, fun p hp => S.non p (A.nw p hp), A.rv⟩⟩
theorem se_one {op} (ha : SE X a ma) : SE X (.BoolOp op [a] pos) ma := pe_one ha
theorem mB_run {K : PySem.W.Frag} {m : M Rs} {ι : Nat → Option V} {α : Nat → List Addr} {T : List Addr} {e e1 : Lo} {σ : St} {H : Hp} {c : Bool} {G : V → Hp → Prop} (L : LR K ι α T e σ H) (h : mB m e = some (c, e1))
    (k : ∀ α' H', LR K ι α' T e1 σ H' → Stp α T H α' T H' → G (.bl c) H') : tE K m σ H G := by
  simp only [mB, Option.bind_eq_some_iff] at h
  obtain ⟨⟨r1, e2⟩, h1, em⟩ := h
  refine ⟨ι, α, T, e, r1, e2, L, h1, fun α' ps H' v A => ?_⟩
  split at em
  · cases em
    rename_i z
    have z' : r1 = .val (.bool c) := z
    subst z'
    obtain ⟨rfl, g⟩ := A.rv
    cases g
    exact k α' H' A.lr A.st
  · cases em
theorem Aft.bool {K : PySem.W.Frag} {ι : Nat → Option V} {α α' : Nat → List Addr} {T : List Addr} {e1 : Lo} {σ : St} {H H' : Hp} {c : Bool} (L : LR K ι α' T e1 σ H') (S : Stp α T H α' T H') : Aft K ι α T σ H (.val (.bool c)) e1 α' [] H' (.bl c) :=
  ⟨L, S, fun _ h => (by cases h), rfl, .bl c⟩
theorem se_and (ha : SE X a ma) (hb : SE X (.BoolOp .And (b :: es) pos) mb) : SE X (.BoolOp .And (a :: b :: es) pos) (mAndV ma mb) := PE_imp (pe_and ha hb) fun σ H Q ⟨ι, α, T, e, r, e', L, em, k⟩ => by
  simp only [mAndV, Option.bind_eq_some_iff] at em
  obtain ⟨⟨c, e1⟩, h1, em⟩ := em
  refine mB_run L h1 fun α' H' L' S => ⟨c, rfl, ?_⟩
  cases c with
  | true => exact iteT ⟨ι, α', T, e1, r, e', L', em, fun α2 ps H2 v A => k α2 ps H2 v ⟨A.lr, S.trans A.st fun p h => h, fun p hp => S.non p (A.nw p hp), A.rv⟩⟩
  | false =>
    cases em
    exact iteF (k _ _ _ _ (Aft.bool L' S))
theorem se_or (ha : SE X a ma) (hb : SE X (.BoolOp .Or (b :: es) pos) mb) : SE X (.BoolOp .Or (a :: b :: es) pos) (mOrV ma mb) := PE_imp (pe_or ha hb) fun σ H Q ⟨ι, α, T, e, r, e', L, em, k⟩ => by
  simp only [mOrV, Option.bind_eq_some_iff] at em
  obtain ⟨⟨c, e1⟩, h1, em⟩ := em
  refine mB_run L h1 fun α' H' L' S => ⟨c, rfl, ?_⟩
  cases c with
  | false => exact iteF ⟨ι, α', T, e1, r, e', L', em, fun α2 ps H2 v A => k α2 ps H2 v ⟨A.lr, S.trans A.st fun p h => h, fun p hp => S.non p (A.nw p hp), A.rv⟩⟩
  | true =>
    cases em
    exact iteT (k _ _ _ _ (Aft.bool L' S))
theorem se_not (ha : SE X a ma) : SE X (.UnaryOp .Not a pos) (mNotV ma) := PE_imp (pe_not ha) fun σ H Q ⟨ι, α, T, e, r, e', L, em, k⟩ => by
  simp only [mNotV, Option.bind_eq_some_iff] at em
  obtain ⟨⟨c, e1⟩, h1, em⟩ := em
  cases em
  exact mB_run L h1 fun α' H' L' S => ⟨c, rfl, k _ _ _ _ (Aft.bool L' S)⟩
end
end
end Gx
/-! G2: arguments, displays, what a def promises, calls, repr. -/
namespace Gx
open PySem L2

/-! ### a value is handed on: it stands from then on -/
@[simp] def sfz (e : Lo) (i : Nat) : Option SV → Option (PyData × Lo)
  | some (.val d) => some (d, e)
  | some (.own false (.lst xs)) => some (.list xs, e.set i (.val (.list xs)))
  | _ => none
@[simp] def fz (e : Lo) : Rs → Option (PyData × Lo)
  | .val d => some (d, e)
  | .new (.lst xs) => some (.list xs, e)
  | .new (.box _) => none
  | .slot i => sfz e i e[i]?
section
variable {K : PySem.W.Frag} {ι : Nat → Option V} {α α1 α2 : Nat → List Addr} {T T1 T2 ps qs : List Addr} {e e1 e2 : Lo} {σ : St} {H H1 H2 H' : Hp} {r r1 r2 : Rs} {v : V} {d1 d2 : PyData} {F F' : Hp}
/-- a slot's own object is let go -/
def off (α : Nat → List Addr) (i : Nat) : Nat → List Addr := fun j => if j = i then [] else α j
theorem off_sub {i j : Nat} {p : Addr} (h : p ∈ off α i j) : p ∈ α j := by
  unfold off at h
  split at h
  · cases h
  · exact h
theorem mask_off {i : Nat} : Same (mask H α T) (mask H (off α i) T) := mask_mono (fun j p h => .inl ⟨j, off_sub h⟩) fun p h => .inr h
theorem LR.release (L : LR K ι α T e σ H) {i : Nat} {sv : SV} (hs : SR K H (mask H (off α i) T) (ι i) [] (σ.getD i none) sv) : LR K ι (off α i) T (e.set i sv) σ H where
  len := by rw [List.length_set]; exact L.len
  dis := fun j k p h1 h2 => L.dis j k p (off_sub h1) (off_sub h2)
  out := fun j h => by
    unfold off
    split
    · rfl
    · exact L.out j (by rw [List.length_set] at h; exact h)
  hT := fun j p h => L.hT j p (off_sub h)
  tT := L.tT
  slot := fun j sv' h => by
    by_cases e1 : j = i
    · subst e1
      rw [List.getElem?_set] at h
      simp only [if_true] at h
      split at h
      · cases h
        have z : off α j j = [] := by unfold off; rw [if_pos rfl]
        rw [z]
        exact hs
      · cases h
    · rw [List.getElem?_set_ne (fun z => e1 z.symm)] at h
      have z : off α i j = α j := by unfold off; rw [if_neg e1]
      rw [z]
      exact (L.slot j sv' h).stay mask_off fun _ _ => rfl
theorem Stp.off {i : Nat} (s : Stp α T H α1 T1 H1) : Stp α T H (off α1 i) T1 H1 := ⟨s.vis.trans mask_off, fun j p h => s.own j p (off_sub h), s.held, s.non⟩
theorem fz_ok (L : LR K ι α (ps ++ T) e σ H) (q : RV K H (mask H α (ps ++ T)) σ ps v r) {d : PyData} {e' : Lo} (h : fz e r = some (d, e')) (s : Stp α1 T1 H1 α (ps ++ T) H) (hd : ∀ p ∈ ps, p ∉ T) :
    ∃ α', LR K ι α' T e' σ H ∧ Stp α1 T1 H1 α' T H ∧ FD K (mask H α' T) v d := by
  have m1 : Same (mask H α (ps ++ T)) (mask H α T) := mask_mono (fun i p h => .inl ⟨i, h⟩) fun p h => .inr (List.mem_append_right _ h)
  cases r with
  | val d' =>
    cases h
    exact ⟨α, L.drop, s.drop, q.2.mono m1⟩
  | new o =>
    cases o with
    | box fs => cases h
    | lst xs =>
      cases h
      obtain ⟨p, vs, rfl, rfl, g1, g2⟩ := OwnAt.list q
      refine ⟨α, L.drop, s.drop, .lst (.of (mask_iff.mpr ⟨g1, fun i hi => L.hT i p hi (by simp), hd p (by simp)⟩)) (g2.mono m1)⟩
  | slot i =>
    obtain ⟨rfl, q⟩ := q
    have h : sfz e i e[i]? = some (d, e') := h
    cases hs : e[i]? with
    | none =>
      rw [hs] at h
      cases h
    | some sv =>
      rw [hs] at h
      have g := L.slot i sv hs
      cases sv with
      | un => cases h
      | val d' =>
        cases h
        obtain ⟨_, w, e1, g⟩ := g
        rw [q] at e1
        cases e1
        exact ⟨α, L.drop, s.drop, g.mono m1⟩
      | own b o =>
        cases b with
        | true => cases h
        | false =>
          cases o with
          | box fs => cases h
          | lst xs =>
            cases h
            obtain ⟨w, e1, _, g⟩ := g
            obtain ⟨p, vs, ep, rfl, g1, g2⟩ := g.list
            rw [q] at e1
            cases e1
            have fd : FD K (mask H (off α i) T) (.ref p) (.list xs) := by
              refine .lst (.of (mask_iff.mpr ⟨g1, fun j hj => ?_, fun z => ?_⟩)) (g2.mono (m1.trans mask_off))
              · have h1 := off_sub hj
                have h2 := L.dis j i p h1 (by rw [ep]; simp)
                subst h2
                unfold off at hj
                rw [if_pos rfl] at hj
                cases hj
              · exact L.hT i p (by rw [ep]; simp) (List.mem_append_right _ z)
            exact ⟨off α i, L.drop.release ⟨rfl, _, q, fd⟩, s.drop.off, fd⟩
theorem Aft.apart (L : LR K ι α T e σ H) {e' : Lo} {α' : Nat → List Addr} (A : Aft K ι α T σ H r e' α' ps H' v) : ∀ p ∈ ps, p ∉ T := fun p hp hT => L.tT p hT (A.nw p hp)
end

/-! ### argument lists -/
abbrev MA := M (List PyData)
def tAs (K : PySem.W.Frag) (m : MA) : TA := fun σ H Q => ∃ ι α T e ds e', LR K ι α T e σ H ∧ m e = some (ds, e') ∧ ∀ α' H' vs, LR K ι α' T e' σ H' → Stp α T H α' T H' → FDs K (mask H' α' T) vs ds → Q vs H'
abbrev SA (X : Cx) (es : List Expr) (m : MA) : Prop := PA X es (tAs X.K m)
def aNil : MA := fun e => some ([], e)
def aCons (m : M Rs) (ms : MA) : MA := fun e => (m e).bind fun p => (fz p.2 p.1).bind fun q => (ms q.2).bind fun l => some (q.1 :: l.1, l.2)
section
variable {X : Cx} {a b : Expr} {es : List Expr} {pos : Pos} {m : M Rs} {ms : MA}
theorem sa_nil : SA X [] aNil := PA_imp pa_nil fun σ H Q ⟨ι, α, T, e, ds, e', L, em, k⟩ => by
  cases em
  exact k α H [] L Stp.refl .nil
theorem tAs_cons {K : PySem.W.Frag} {σ : St} {H : Hp} {Q : List V → Hp → Prop} (h : tAs K (aCons m ms) σ H Q) : tCons (tE K m) (tAs K ms) σ H Q := by
  obtain ⟨ι, α, T, e, ds, e', L, em, k⟩ := h
  simp only [aCons, Option.bind_eq_some_iff] at em
  obtain ⟨⟨r1, e1⟩, h1, ⟨d, e2⟩, h2, ⟨l, e3⟩, h3, h4⟩ := em
  cases h4
  refine ⟨ι, α, T, e, r1, e1, L, h1, fun α1 ps H1 x A1 => ?_⟩
  obtain ⟨α2, L2', S2, g⟩ := fz_ok A1.lr A1.rv h2 A1.st (Aft.apart L A1)
  exact ⟨ι, α2, T, e2, l, _, L2', h3, fun α3 H3 vs L3 S3 gs => k α3 H3 (x :: vs) L3 (S2.trans S3 fun p h => h) (.cons (g.mono S3.vis) gs)⟩
theorem sa_cons (ha : SE X a m) (hr : SA X es ms) (hs : starEach (a :: es) X.env = (false, eval a X.env) :: starEach es X.env := by rfl) : SA X (a :: es) (aCons m ms) := PA_imp (pa_cons ha hr hs) fun σ H Q h => tAs_cons h

/-! ### displays -/
def mTup (ms : MA) : M Rs := fun e => (ms e).bind fun p => if p.1.length ≤ lim then some (.val (.tuple p.1), p.2) else none
def mLst (ms : MA) : M Rs := fun e => (ms e).bind fun p => if p.1.length ≤ lim then some (.new (.lst p.1), p.2) else none
theorem se_tup {k : Nat} (h : SA X es ms) : SE X (.Tuple es k pos) (mTup ms) := PE_imp (pe_tup h) fun σ H Q ⟨ι, α, T, e, r, e', L, em, k⟩ => by
  simp only [mTup, Option.bind_eq_some_iff] at em
  obtain ⟨⟨ds, e1⟩, h1, em⟩ := em
  split at em
  · cases em
    rename_i hz
    exact ⟨ι, α, T, e, ds, e1, L, h1, fun α' H' vs L' S gs => ⟨by rw [gs.length]; exact lim_le hz, fun p hp => k _ _ _ _ (Aft.of_res L' S (.tup hp gs))⟩⟩
  · cases em
theorem se_lst (h : SA X es ms) : SE X (.List es pos) (mLst ms) := PE_imp (pe_lst h) fun σ H Q ⟨ι, α, T, e, r, e', L, em, k⟩ => by
  simp only [mLst, Option.bind_eq_some_iff] at em
  obtain ⟨⟨ds, e1⟩, h1, em⟩ := em
  split at em
  · cases em
    rename_i hz
    exact ⟨ι, α, T, e, ds, e1, L, h1, fun α' H' vs L' S gs => ⟨by rw [gs.length]; exact lim_le hz, fun p hp => k _ _ _ _ (Aft.of_res L' S (.lst hp gs))⟩⟩
  · cases em
end

/-! ### what a def promises: f, from the arguments to what it hands back and its own objects behind it -/
abbrev Fn := Lo → Option (Rs × Lo)
@[simp] def okR : Rs → Bool
  | .slot _ => false
  | _ => true
def spF (K : PySem.W.Frag) (n : Nat) (f : Fn) : Sp := fun vs H Q _ => vs.length = n ∧ ∃ α T e r e', LR K (fun i => vs[i]?) α T e (vs.map some) H ∧ f e = some (r, e') ∧ okR r = true ∧
  ∀ α' ps H' v, Aft K (fun i => vs[i]?) α T (vs.map some) H r e' α' ps H' v → Q v H'
/-- a def that keeps a promise where nothing is being shown -/
structure FnG (P : Program) (w : World) (K : PySem.W.Frag) (mg : Str → Option Value) (base : Heap) (k : Nat) (f : Addr) (fd : FuncData) (ps : List Str) (sp : Sp) : Prop where
  run : ∀ (A : Around) (outer : List Env) (s : Shared) (H : Hp) (args : Args) (us : List Value) (vs : List V) (Q : VK), Room k A → A.guards = some [] → Env0 P w K mg base A outer s H →
    BindsTo s fd args (ps.zip us) → Vals vs us → sp vs H Q E0 → codeAny (model P w) A (.call (.ref f) args) (CR CX0 outer P w H s Q E0) s
theorem FnG.mono {P : Program} {w : World} {K : PySem.W.Frag} {mg : Str → Option Value} {base : Heap} {j k : Nat} {f : Addr} {fd : FuncData} {ps : List Str} {sp : Sp} (F : FnG P w K mg base j f fd ps sp) (h : j ≤ k) : FnG P w K mg base k f fd ps sp :=
  ⟨fun A outer s H args us vs Q hr => F.run A outer s H args us vs Q (hr.mono h)⟩

/-- which of the written arguments stands where -/
@[simp] def pick {β : Type} (is : List Nat) (xs : List β) : List β := is.filterMap fun i => xs[i]?
theorem pick_vals {vs : List V} {us : List Value} (r : Vals vs us) : ∀ is : List Nat, Vals (pick is vs) (pick is us)
  | [] => .nil
  | i :: is => by
    unfold pick
    rw [List.filterMap_cons, List.filterMap_cons]
    cases h : vs[i]? with
    | none =>
      rw [r.none_of h]
      exact pick_vals r is
    | some v =>
      obtain ⟨u, h1, h2⟩ := r.get h
      rw [h1]
      exact .cons h2 (pick_vals r is)
theorem pick_fds {K : PySem.W.Frag} {F : Hp} {vs : List V} {ds : List PyData} (g : FDs K F vs ds) : ∀ is : List Nat, FDs K F (pick is vs) (pick is ds)
  | [] => .nil
  | i :: is => by
    unfold pick
    rw [List.filterMap_cons, List.filterMap_cons]
    cases h : vs[i]? with
    | none =>
      have h' : ds[i]? = none := List.getElem?_eq_none_iff.mpr (by rw [← g.length]; exact List.getElem?_eq_none_iff.mp h)
      rw [h']
      exact pick_fds g is
    | some v =>
      obtain ⟨u, h1, h2⟩ := g.get' h
      rw [h1]
      exact .cons h2 (pick_fds g is)
/-- how a call's nu positional arguments and its keywords ks come to the parameters -/
def BindG (K : PySem.W.Frag) (fd : FuncData) (ps ks : List Str) (is : List Nat) (nu : Nat) : Prop :=
  ∀ (s : Shared) (us ws : List Value), K.In s.heap → us.length = nu → ws.length = ks.length → BindsTo s fd ⟨us, ks.zip ws⟩ (ps.zip (pick is (us ++ ws)))

section
variable {X : Cx} {k : Nat} {f : Addr} {fd : FuncData} {ps ks : List Str} {sp : Sp} {x : Str} {p pos : Pos} {e : Expr} {es : List Expr} {kws : List Keyword} {is : List Nat} {nu : Nat}
theorem run_g {pins : List (Addr × Obj)} {σ : St} {H : Hp} {s : Shared} {Q : VK} {us ws : List Value} {vs zs : List V} (F : FnG X.prog X.w X.K X.mg X.base k f fd ps sp) (hr : Room k X.A) (hgd : X.A.guards = some [])
    (hb : BindG X.K fd ps ks is nu) (I : Inv X pins σ H s) (r : Vals vs us) (rz : Vals zs ws) (hl : vs.length = nu) (hz : zs.length = ks.length) (h : sp (pick is (vs ++ zs)) H Q E0) :
    wpAny (model X.prog X.w) X.A (call (.ref f) us (ks.zip ws)) (EP X pins σ Q) X.xe s := by
  have bd := hb s us ws I.kIn (by rw [← r.length]; exact hl) (by rw [← rz.length]; exact hz)
  refine wpAny_call (codeAny_mono (F.run X.A X.stack s H ⟨us, ks.zip ws⟩ _ _ Q hr hgd I.env0 bd (pick_vals (r.append rz) is) h) fun r s' hq => ?_)
  cases r with
  | error e => exact False.elim hq
  | ok fl =>
    cases fl with
    | ret u => exact I.after hq
    | next | brk | cont => exact False.elim hq
/-- f(e, ..): by place -/
def tCallG (sp : Sp) (is : List Nat) (nu : Nat) (t : TA) : TE := fun σ H Q => t σ H fun vs H1 => vs.length = nu ∧ sp (pick is (vs ++ [])) H1 Q E0
def tCallGK (sp : Sp) (is : List Nat) (nu nk : Nat) (t tk : TA) : TE := fun σ H Q => t σ H fun vs H1 => tk σ H1 fun zs H2 => vs.length = nu ∧ zs.length = nk ∧ sp (pick is (vs ++ zs)) H2 Q E0
variable {t tk : TA}
theorem pe_callG (F : FnG X.prog X.w X.K X.mg X.base k f fd ps sp) (hr : Room k X.A) (hgd : X.A.guards = some []) (hg : Gl X x) (hm : X.mg x = some (.ref f)) (hk : PySem.W.keepIn X.K (.ref f) = true) (hb : BindG X.K fd ps [] is nu)
    (ha : PA X (e :: es) t) (hdb : (x == ("__debug__" : Str)) = false := by decide) (he : starEach (e :: es) X.env = (false, eval e X.env) :: starEach es X.env := by rfl) (hpl : (backTo pos (starEach es X.env)).any (·.1) = false := by rfl) :
    PE X (.Call (.Name x p) (e :: es) [] pos) (tCallG sp is nu t) := by
  refine ⟨fun pins s σ H Q I h => wpAny_Call_Name_kw (ld_glob I hg hm ?_ hdb)⟩
  refine PySem.W.callWith_K (h₀ := X.base) I.ok.mod.kin hk ?_ he hpl
  refine thn (ha.run pos pins s σ H _ I h) fun us s1 ⟨vs, H1, I1, r, q⟩ => ⟨I1.kIn, ?_⟩
  exact run_g (ws := []) (zs := []) F hr hgd hb I1 r .nil q.1 rfl q.2
theorem pe_callG0 (F : FnG X.prog X.w X.K X.mg X.base k f fd ps sp) (hr : Room k X.A) (hgd : X.A.guards = some []) (hg : Gl X x) (hm : X.mg x = some (.ref f)) (hk : PySem.W.keepIn X.K (.ref f) = true) (hb : BindG X.K fd ps [] is 0)
    (hdb : (x == ("__debug__" : Str)) = false := by decide) : PE X (.Call (.Name x p) [] [] pos) (tCallG sp is 0 tNil) := by
  refine ⟨fun pins s σ H Q I h => wpAny_Call_Name_kw (ld_glob I hg hm ?_ hdb)⟩
  exact PySem.W.callWith_K0 I.kIn hk (run_g (us := []) (ws := []) (zs := []) F hr hgd hb I .nil .nil h.1 rfl h.2)
theorem pe_callGK (F : FnG X.prog X.w X.K X.mg X.base k f fd ps sp) (hr : Room k X.A) (hgd : X.A.guards = some []) (hg : Gl X x) (hm : X.mg x = some (.ref f)) (hk : PySem.W.keepIn X.K (.ref f) = true) (hb : BindG X.K fd ps ks is nu)
    (ha : PA X (e :: es) t) (hkw : PK X kws tk) (hks : (backToKw pos (keywordEach kws X.env)).filterMap (·.1) = ks := by rfl) (hall : (backToKw pos (keywordEach kws X.env)).all (·.1.isSome) = true := by rfl)
    (hdb : (x == ("__debug__" : Str)) = false := by decide) (he : starEach (e :: es) X.env = (false, eval e X.env) :: starEach es X.env := by rfl)
    (hpl : ((backTo pos (starEach (e :: es) X.env)).any (·.1) || (backToKw pos (keywordEach kws X.env)).any (·.1.isNone)) = false := by rfl) :
    PE X (.Call (.Name x p) (e :: es) kws pos) (tCallGK sp is nu ks.length t tk) := by
  refine ⟨fun pins s σ H Q I h => wpAny_Call_Name_kw (ld_glob I hg hm ?_ hdb)⟩
  refine PySem.W.callWith_KW (h₀ := X.base) I.ok.mod.kin hk hall ?_ hpl he
  refine thn (ha.run pos pins s σ H _ I h) fun us s1 ⟨vs, H1, I1, r, q⟩ => ?_
  refine thn (hkw.run pos pins s1 σ H1 _ I1 q) fun ws s2 ⟨zs, H2, I2, rz, q2⟩ => ⟨I2.kIn, ?_⟩
  rw [hks]
  exact run_g F hr hgd hb I2 r rz q2.1 q2.2.1 q2.2.2
theorem pe_callGK0 (F : FnG X.prog X.w X.K X.mg X.base k f fd ps sp) (hr : Room k X.A) (hgd : X.A.guards = some []) (hg : Gl X x) (hm : X.mg x = some (.ref f)) (hk : PySem.W.keepIn X.K (.ref f) = true) (hb : BindG X.K fd ps ks is 0)
    (hkw : PK X kws tk) (hks : (backToKw pos (keywordEach kws X.env)).filterMap (·.1) = ks := by rfl) (hall : (backToKw pos (keywordEach kws X.env)).all (·.1.isSome) = true := by rfl)
    (hdb : (x == ("__debug__" : Str)) = false := by decide)
    (hpl : ((backTo pos (starEach [] X.env)).any (·.1) || (backToKw pos (keywordEach kws X.env)).any (·.1.isNone)) = false := by rfl) :
    PE X (.Call (.Name x p) [] kws pos) (tCallGK sp is 0 ks.length tNil tk) := by
  refine ⟨fun pins s σ H Q I h => wpAny_Call_Name_kw (ld_glob I hg hm ?_ hdb)⟩
  refine PySem.W.callWith_KW0 (h₀ := X.base) I.ok.mod.kin hk hall ?_ hpl
  refine thn (hkw.run pos pins s σ H _ I h) fun ws s2 ⟨zs, H2, I2, rz, q2⟩ => ⟨I2.kIn, ?_⟩
  rw [hks]
  exact run_g (us := []) F hr hgd hb I2 .nil rz q2.1 q2.2.1 q2.2.2
end

/-! ### .. by data -/
@[simp] def vals (ds : List PyData) : Lo := ds.map SV.val
/-- f called with data alone -/
def mCall (f : Fn) (ms : MA) : M Rs := fun e => (ms e).bind fun p => (f (vals p.1)).bind fun q => if okR q.1 = true then some (q.1, p.2) else none
def aPick (is : List Nat) (nu n : Nat) (ms : MA) : MA := fun e => (ms e).bind fun p => if p.1.length = nu ∧ is.length = n ∧ (pick is p.1).length = n then some (pick is p.1, p.2) else none
def aPickK (is : List Nat) (nu nk n : Nat) (ms mk : MA) : MA := fun e => (ms e).bind fun p => (mk p.2).bind fun q => if p.1.length = nu ∧ q.1.length = nk ∧ (pick is (p.1 ++ q.1)).length = n then some (pick is (p.1 ++ q.1), q.2) else none
section
variable {K : PySem.W.Frag} {ι : Nat → Option V} {α α1 α2 : Nat → List Addr} {T T1 T2 ps qs : List Addr} {e e1 e2 : Lo} {σ : St} {H H1 H2 H' : Hp} {r r1 r2 : Rs} {v : V}
/-- who else owns what, of n slots -/
def rest (α : Nat → List Addr) (n : Nat) (T : List Addr) : List Addr := (List.range n).flatMap α ++ T
theorem mem_rest {n : Nat} {p : Addr} : p ∈ rest α n T ↔ (∃ i, i < n ∧ p ∈ α i) ∨ p ∈ T := by
  unfold rest
  rw [List.mem_append, List.mem_flatMap]
  simp only [List.mem_range]
theorem LR.at (L : LR K ι α T e σ H) {i : Nat} {p : Addr} (h : p ∈ α i) : i < e.length := by
  by_cases hi : i < e.length
  · exact hi
  · rw [L.out i (by omega)] at h
    cases h
/-- the slots of a call with data alone -/
theorem LR.call (L : LR K ι α T e σ H) {vs : List V} {ds : List PyData} (g : FDs K (mask H α T) vs ds) : LR K (fun i => vs[i]?) (fun _ => []) (rest α e.length T) (vals ds) (vs.map some) H where
  len := by unfold vals; rw [List.length_map, List.length_map, g.length]
  dis := fun i j p h _ => by cases h
  out := fun i _ => rfl
  hT := fun i p h => by cases h
  tT := fun p h => by
    rcases mem_rest.mp h with ⟨i, _, h⟩ | h
    · exact L.there h
    · exact L.tT p h
  slot := fun i sv h => by
    unfold vals at h
    rw [List.getElem?_map] at h
    cases hd : ds[i]? with
    | none =>
      rw [hd] at h
      cases h
    | some d =>
      rw [hd] at h
      cases h
      obtain ⟨v, h1, h2⟩ := g.get hd
      refine ⟨rfl, v, ?_, h2.mono (mask_mono (fun j p hp => by cases hp) fun p hp => ?_)⟩
      · rw [List.getD_eq_getElem?_getD, List.getElem?_map, h1]
        rfl
      · rcases mem_rest.mp hp with ⟨j, _, hj⟩ | hj
        · exact .inl ⟨j, hj⟩
        · exact .inr hj
theorem call_back {vs : List V} {f' : Lo} {β : Nat → List Addr} (L : LR K ι α T e σ H) (A : Aft K (fun i => vs[i]?) (fun _ => []) (rest α e.length T) (vs.map some) H r f' β ps H' v) (ok : okR r = true) : Aft K ι α T σ H r e α ps H' v := by
  have held : ∀ {q : Addr}, q ∈ rest α e.length T → H' q = H q := fun {q} h => A.st.held q h
  have inR : ∀ i q, q ∈ α i → q ∈ rest α e.length T := fun i q h => mem_rest.mpr (.inl ⟨i, L.at h, h⟩)
  have fr : ∀ i q, q ∈ α i → q ∉ ps := fun i q h z => L.there h (A.nw q z)
  have vis : Same (mask H α T) (mask H' α (ps ++ T)) := fun q o h => by
    obtain ⟨h1, h2, h3⟩ := mask_iff.mp h
    have h4 : mask H (fun _ => []) (rest α e.length T) q = some o := mask_iff.mpr ⟨h1, fun i z => (by cases z), fun z => by
      rcases mem_rest.mp z with ⟨i, _, z⟩ | z
      · exact h2 i z
      · exact h3 z⟩
    obtain ⟨h5, _, h7⟩ := mask_iff.mp (A.st.vis q o h4)
    refine mask_iff.mpr ⟨h5, h2, fun z => ?_⟩
    rcases List.mem_append.mp z with z | z
    · exact h7 (List.mem_append_left _ z)
    · exact h3 z
  have back : Same (mask H' β (ps ++ rest α e.length T)) (mask H' α (ps ++ T)) := mask_mono (fun i q h => .inr (List.mem_append_right _ (inR i q h))) fun q h => .inr (by
    rcases List.mem_append.mp h with z | z
    · exact List.mem_append_left _ z
    · exact List.mem_append_right _ (mem_rest.mpr (.inr z)))
  refine ⟨⟨L.len, L.dis, L.out, fun i q h z => ?_, fun q h => ?_, fun i sv h => (L.slot i sv h).stay vis fun q hq => held (inR i q hq)⟩, ⟨vis, fun i q h => .inl h, fun q h => held (mem_rest.mpr (.inr h)), A.st.non⟩, A.nw, ?_⟩
  · rcases List.mem_append.mp z with z | z
    · exact fr i q h z
    · exact L.hT i q h z
  · rcases List.mem_append.mp h with z | z
    · exact A.lr.tT q (List.mem_append_left _ z)
    · rw [held (mem_rest.mpr (.inr z))]
      exact L.tT q z
  · cases r with
    | val d => exact ⟨A.rv.1, A.rv.2.mono back⟩
    | new o => exact OwnAt.stay back (fun _ _ => rfl) A.rv
    | slot i => cases ok
theorem Aft.after {e' : Lo} {α' : Nat → List Addr} (s : Stp α T H α1 T H1) (A : Aft K ι α1 T σ H1 r e' α' ps H' v) : Aft K ι α T σ H r e' α' ps H' v :=
  ⟨A.lr, s.trans A.st fun p h => h, fun p hp => s.non p (A.nw p hp), A.rv⟩
/-- the promise of a def met by data -/
theorem sp_met {n : Nat} {f : Fn} {vs : List V} {ds : List PyData} {fl : Lo} {Q : VK} (L : LR K ι α T e σ H) (g : FDs K (mask H α T) vs ds) (hn : ds.length = n) (hf : f (vals ds) = some (r, fl)) (ok : okR r = true)
    (k : ∀ ps H' v, Aft K ι α T σ H r e α ps H' v → Q v H') : spF K n f vs H Q E0 :=
  ⟨g.length.trans hn, _, _, _, r, fl, L.call g, hf, ok, fun α' ps H' v A => k ps H' v (call_back L A ok)⟩
end
section
variable {X : Cx} {k : Nat} {f : Addr} {fd : FuncData} {ps ks : List Str} {g : Fn} {x : Str} {p pos : Pos} {a : Expr} {es : List Expr} {kws : List Keyword} {is : List Nat} {nu n : Nat} {ms mk : MA}
theorem se_call (F : FnG X.prog X.w X.K X.mg X.base k f fd ps (spF X.K n g)) (hr : Room k X.A) (hgd : X.A.guards = some []) (hg : Gl X x) (hm : X.mg x = some (.ref f)) (hk : PySem.W.keepIn X.K (.ref f) = true) (hb : BindG X.K fd ps [] is nu)
    (ha : SA X (a :: es) ms) (hdb : (x == ("__debug__" : Str)) = false := by decide) (he : starEach (a :: es) X.env = (false, eval a X.env) :: starEach es X.env := by rfl) (hpl : (backTo pos (starEach es X.env)).any (·.1) = false := by rfl) :
    SE X (.Call (.Name x p) (a :: es) [] pos) (mCall g (aPick is nu n ms)) := by
  refine PE_imp (pe_callG F hr hgd hg hm hk hb ha hdb he hpl) fun σ H Q ⟨ι, α, T, e, r, e', L, em, k⟩ => ?_
  simp only [mCall, aPick, Option.bind_eq_some_iff] at em
  obtain ⟨⟨ds, e1⟩, ⟨⟨ds0, e0⟩, h0, h1⟩, ⟨r2, fl⟩, h2, h3⟩ := em
  split at h1
  · cases h1
    rename_i hc
    split at h3
    · cases h3
      rename_i ok
      refine ⟨ι, α, T, e, ds0, _, L, h0, fun α' H' vs L' S gs => ⟨by rw [gs.length]; exact hc.1, ?_⟩⟩
      rw [List.append_nil]
      exact sp_met L' (pick_fds gs is) hc.2.2 h2 ok fun ps H2 v A => k _ _ _ _ (A.after S)
    · cases h3
  · cases h1
theorem se_callK0 (F : FnG X.prog X.w X.K X.mg X.base k f fd ps (spF X.K n g)) (hr : Room k X.A) (hgd : X.A.guards = some []) (hg : Gl X x) (hm : X.mg x = some (.ref f)) (hk : PySem.W.keepIn X.K (.ref f) = true) (hb : BindG X.K fd ps ks is 0)
    (hkw : PK X kws (tAs X.K mk)) (hks : (backToKw pos (keywordEach kws X.env)).filterMap (·.1) = ks := by rfl) (hall : (backToKw pos (keywordEach kws X.env)).all (·.1.isSome) = true := by rfl)
    (hdb : (x == ("__debug__" : Str)) = false := by decide)
    (hpl : ((backTo pos (starEach [] X.env)).any (·.1) || (backToKw pos (keywordEach kws X.env)).any (·.1.isNone)) = false := by rfl) :
    SE X (.Call (.Name x p) [] kws pos) (mCall g (aPick is ks.length n mk)) := by
  refine PE_imp (pe_callGK0 F hr hgd hg hm hk hb hkw hks hall hdb hpl) fun σ H Q ⟨ι, α, T, e, r, e', L, em, k⟩ => ?_
  simp only [mCall, aPick, Option.bind_eq_some_iff] at em
  obtain ⟨⟨ds, e1⟩, ⟨⟨ds0, e0⟩, h0, h1⟩, ⟨r2, fl⟩, h2, h3⟩ := em
  split at h1
  · cases h1
    rename_i hc
    split at h3
    · cases h3
      rename_i ok
      refine ⟨ι, α, T, e, ds0, _, L, h0, fun α' H' vs L' S gs => ⟨rfl, by rw [gs.length]; exact hc.1, ?_⟩⟩
      rw [List.nil_append]
      exact sp_met L' (pick_fds gs is) hc.2.2 h2 ok fun ps H2 v A => k _ _ _ _ (A.after S)
    · cases h3
  · cases h1
theorem se_callK (F : FnG X.prog X.w X.K X.mg X.base k f fd ps (spF X.K n g)) (hr : Room k X.A) (hgd : X.A.guards = some []) (hg : Gl X x) (hm : X.mg x = some (.ref f)) (hk : PySem.W.keepIn X.K (.ref f) = true) (hb : BindG X.K fd ps ks is nu)
    (ha : SA X (a :: es) ms) (hkw : PK X kws (tAs X.K mk)) (hks : (backToKw pos (keywordEach kws X.env)).filterMap (·.1) = ks := by rfl) (hall : (backToKw pos (keywordEach kws X.env)).all (·.1.isSome) = true := by rfl)
    (hdb : (x == ("__debug__" : Str)) = false := by decide) (he : starEach (a :: es) X.env = (false, eval a X.env) :: starEach es X.env := by rfl)
    (hpl : ((backTo pos (starEach (a :: es) X.env)).any (·.1) || (backToKw pos (keywordEach kws X.env)).any (·.1.isNone)) = false := by rfl) :
    SE X (.Call (.Name x p) (a :: es) kws pos) (mCall g (aPickK is nu ks.length n ms mk)) := by
  refine PE_imp (pe_callGK F hr hgd hg hm hk hb ha hkw hks hall hdb he hpl) fun σ H Q ⟨ι, α, T, e, r, e', L, em, k⟩ => ?_
  simp only [mCall, aPickK, Option.bind_eq_some_iff] at em
  obtain ⟨⟨ds, e1⟩, ⟨⟨ds0, e0⟩, h0, ⟨ds1, e3⟩, h4, h1⟩, ⟨r2, fl⟩, h2, h3⟩ := em
  split at h1
  · cases h1
    rename_i hc
    split at h3
    · cases h3
      rename_i ok
      refine ⟨ι, α, T, e, ds0, e0, L, h0, fun α1 H1 vs L1 S1 gs => ⟨ι, α1, T, e0, ds1, _, L1, h4, fun α' H' zs L' S2 gz => ⟨by rw [gs.length]; exact hc.1, by rw [gz.length]; exact hc.2.1, ?_⟩⟩⟩
      exact sp_met L' (pick_fds ((FDs.mono S2.vis gs).append gz) is) hc.2.2 h2 ok fun ps H2 v A => k _ _ _ _ (A.after (S1.trans S2 fun p h => h))
    · cases h3
  · cases h1
theorem sk_nil : PK X [] (tAs X.K aNil) := ⟨fun pos pins s σ H Q I h => pk_nil.run pos pins s σ H Q I (by
  obtain ⟨ι, α, T, e, ds, e', L, em, k⟩ := h
  cases em
  exact k α H [] L Stp.refl .nil)⟩
theorem sk_cons {m : M Rs} {nm : Option Str} {kpos : Pos} (ha : SE X a m) (hr : PK X kws (tAs X.K ms)) : PK X (⟨nm, a, kpos⟩ :: kws) (tAs X.K (aCons m ms)) := ⟨fun pos pins s σ H Q I h => (pk_cons ha hr).run pos pins s σ H Q I (tAs_cons h)⟩
end
end Gx
/-! G3: calls that hand an object on, methods of own lists, boxes, statements, loops. -/
namespace Gx
open PySem L2

section
variable {K : PySem.W.Frag} {ι : Nat → Option V} {α α1 α2 : Nat → List Addr} {T T1 T2 ps qs : List Addr} {e e1 e2 : Lo} {σ : St} {H H1 H2 H' : Hp} {r r1 r2 : Rs} {v x : V} {o : Ob} {i : Nat} {b : Bool}
def one (α : Nat → List Addr) (i : Nat) : Nat → List Addr := fun j => if j = 0 then α i else []
theorem mem_one {j : Nat} {p : Addr} (h : p ∈ one α i j) : p ∈ α i ∧ j = 0 := by
  unfold one at h
  split at h
  · exact ⟨h, by assumption⟩
  · cases h
theorem LR.own (L : LR K ι α T e σ H) (h : e[i]? = some (.own b o)) : ∃ v, σ.getD i none = some v ∧ (b = true → ι i = some v) ∧ OwnAt K H (mask H α T) (α i) v o := L.slot i _ h
theorem mem_restoff {n : Nat} {p : Addr} (h : p ∈ rest (off α i) n T) : (∃ j, j ≠ i ∧ p ∈ α j) ∨ p ∈ T := by
  rcases mem_rest.mp h with ⟨j, _, h⟩ | h
  · unfold off at h
    split at h
    · cases h
    · exact .inl ⟨j, by assumption, h⟩
  · exact .inr h
/-- the slots of a call that hands the object at slot i on -/
theorem LR.callD (L : LR K ι α T e σ H) (h : e[i]? = some (.own b o)) (hx : σ.getD i none = some x) {vs : List V} {ds : List PyData} (g : FDs K (mask H α T) vs ds) :
    LR K (fun j => (x :: vs)[j]?) (one α i) (rest (off α i) e.length T) (.own true o :: vals ds) ((x :: vs).map some) H where
  len := by unfold vals; rw [List.length_cons, List.length_map, List.length_map, List.length_cons, g.length]
  dis := fun j k p h1 h2 => (mem_one h1).2.trans (mem_one h2).2.symm
  out := fun j hj => by
    unfold one
    rw [if_neg]
    rw [List.length_cons] at hj
    omega
  hT := fun j p h1 z => by
    rcases mem_restoff z with ⟨k, hk, z⟩ | z
    · exact hk (L.dis k i p z (mem_one h1).1)
    · exact L.hT i p (mem_one h1).1 z
  tT := fun p hp => by
    rcases mem_restoff hp with ⟨k, hk, z⟩ | z
    · exact L.there z
    · exact L.tT p z
  slot := fun j sv hs => by
    have mm : Same (mask H α T) (mask H (one α i) (rest (off α i) e.length T)) := mask_mono (fun j p hp => .inl ⟨i, (mem_one hp).1⟩) fun p hp => by
      rcases mem_restoff hp with ⟨k, hk, z⟩ | z
      · exact .inl ⟨k, z⟩
      · exact .inr z
    cases j with
    | zero =>
      cases hs
      obtain ⟨w, e1, _, g1⟩ := L.own h
      rw [hx] at e1
      cases e1
      exact ⟨x, rfl, fun _ => rfl, g1.stay mm fun _ _ => rfl⟩
    | succ j =>
      unfold vals at hs
      rw [List.getElem?_cons_succ, List.getElem?_map] at hs
      cases hd : ds[j]? with
      | none =>
        rw [hd] at hs
        cases hs
      | some d =>
        rw [hd] at hs
        cases hs
        obtain ⟨v, h1, h2⟩ := g.get hd
        refine ⟨by unfold one; rw [if_neg (by omega)], v, ?_, h2.mono mm⟩
        rw [List.getD_eq_getElem?_getD, List.getElem?_map, List.getElem?_cons_succ, h1]
        rfl
def put (α : Nat → List Addr) (i : Nat) (ps : List Addr) : Nat → List Addr := fun j => if j = i then ps else α j
theorem put_same : put α i ps i = ps := if_pos rfl
theorem put_ne {j : Nat} (h : j ≠ i) : put α i ps j = α j := if_neg h
theorem callD_back {vs : List V} {f' : Lo} {β : Nat → List Addr} {o' : Ob} (L : LR K ι α T e σ H) (h : e[i]? = some (.own b o)) (hx : σ.getD i none = some x)
    (A : Aft K (fun j => (x :: vs)[j]?) (one α i) (rest (off α i) e.length T) ((x :: vs).map some) H r f' β ps H' v) (h0 : f'[0]? = some (.own true o')) (ok : okR r = true) :
    Aft K ι α T σ H r (e.set i (.own b o')) (put α i (β 0)) ps H' v := by
  have hi : i < e.length := (List.getElem?_eq_some_iff.mp h).1
  have inR : ∀ j q, j ≠ i → q ∈ α j → q ∈ rest (off α i) e.length T := fun j q hj hq => mem_rest.mpr (.inl ⟨j, L.at hq, by unfold off; rw [if_neg hj]; exact hq⟩)
  have inT : ∀ q, q ∈ T → q ∈ rest (off α i) e.length T := fun q hq => mem_rest.mpr (.inr hq)
  have own0 : ∀ q, q ∈ β 0 → q ∈ α i ∨ H q = none := fun q hq => A.st.own 0 q hq
  obtain ⟨w, e1, e2, g0⟩ := A.lr.own h0
  have back : Same (mask H' β (ps ++ rest (off α i) e.length T)) (mask H' (put α i (β 0)) (ps ++ T)) := mask_mono (fun j q hq => by
    by_cases hj : j = i
    · subst hj
      rw [put_same] at hq
      exact .inl ⟨0, hq⟩
    · rw [put_ne hj] at hq
      exact .inr (List.mem_append_right _ (inR j q hj hq))) fun q hq => .inr (by
    rcases List.mem_append.mp hq with z | z
    · exact List.mem_append_left _ z
    · exact List.mem_append_right _ (inT q z))
  have vis : Same (mask H α T) (mask H' (put α i (β 0)) (ps ++ T)) := fun q u hq => by
    obtain ⟨h1, h2, h3⟩ := mask_iff.mp hq
    refine back q u (A.st.vis q u (mask_iff.mpr ⟨h1, fun j z => h2 i (mem_one z).1, fun z => ?_⟩))
    rcases mem_restoff z with ⟨k, hk, z⟩ | z
    · exact h2 k z
    · exact h3 z
  have cross : ∀ j q, j ≠ i → q ∈ α j → q ∉ β 0 := fun j q hj hq z => by
    rcases own0 q z with z | z
    · exact hj (L.dis j i q hq z)
    · exact L.there hq z
  refine ⟨⟨by rw [List.length_set]; exact L.len, fun j k q h1 h2 => ?_, fun j hj => ?_, fun j q h1 z => ?_, fun q hq => ?_, fun j sv hs => ?_⟩, ⟨vis, fun j q hq => ?_, fun q hq => A.st.held q (inT q hq), A.st.non⟩, A.nw, ?_⟩
  · by_cases hj : j = i
    · by_cases hk : k = i
      · rw [hj, hk]
      · rw [hj, put_same] at h1
        rw [put_ne hk] at h2
        exact absurd h1 (cross k q hk h2)
    · rw [put_ne hj] at h1
      by_cases hk : k = i
      · rw [hk, put_same] at h2
        exact absurd h2 (cross j q hj h1)
      · rw [put_ne hk] at h2
        exact L.dis j k q h1 h2
  · rw [List.length_set] at hj
    rw [put_ne (by omega)]
    exact L.out j hj
  · by_cases hj : j = i
    · rw [hj, put_same] at h1
      rcases List.mem_append.mp z with z | z
      · exact A.lr.hT 0 q h1 (List.mem_append_left _ z)
      · exact A.lr.hT 0 q h1 (List.mem_append_right _ (inT q z))
    · rw [put_ne hj] at h1
      rcases List.mem_append.mp z with z | z
      · exact L.there h1 (A.nw q z)
      · exact L.hT j q h1 z
  · rcases List.mem_append.mp hq with z | z
    · exact A.lr.tT q (List.mem_append_left _ z)
    · rw [A.st.held q (inT q z)]
      exact L.tT q z
  · by_cases hj : j = i
    · subst hj
      rw [List.getElem?_set_self hi] at hs
      cases hs
      obtain ⟨w2, e3, e4, _⟩ := L.own h
      rw [hx] at e3
      cases e3
      have ew : x = w := by
        have z : ((x :: vs).map some).getD 0 none = some x := rfl
        rw [z] at e1
        exact Option.some.inj e1
      subst ew
      rw [put_same]
      exact ⟨x, hx, e4, g0.stay back fun _ _ => rfl⟩
    · rw [List.getElem?_set_ne (Ne.symm hj)] at hs
      rw [put_ne hj]
      exact (L.slot j sv hs).stay vis fun q hq => A.st.held q (inR j q hj hq)
  · by_cases hj : j = i
    · rw [hj, put_same] at hq
      rw [hj]
      exact own0 q hq
    · rw [put_ne hj] at hq
      exact .inl hq
  · cases r with
    | val d => exact ⟨A.rv.1, A.rv.2.mono back⟩
    | new o => exact OwnAt.stay back (fun _ _ => rfl) A.rv
    | slot i => cases ok
end

/-! what stands at a slot, what a value is -/
@[simp] def gOwn (e : Lo) (i : Nat) : Option (Bool × Ob) := match e[i]? with
  | some (.own b o) => some (b, o)
  | _ => none
@[simp] def gLst (e : Lo) (i : Nat) : Option (Bool × List PyData) := match e[i]? with
  | some (.own b (.lst xs)) => some (b, xs)
  | _ => none
@[simp] def gBox (e : Lo) (i : Nat) : Option (Bool × List (Str × Fld)) := match e[i]? with
  | some (.own b (.box xs)) => some (b, xs)
  | _ => none
@[simp] def gInt : Rs → Option Int
  | .val (.int i) => some i
  | _ => none
@[simp] def gList : PyData → Option (List PyData)
  | .list xs => some xs
  | _ => none
@[simp] def gItems : PyData → Option (List PyData)
  | .list xs => some xs
  | .tuple xs => some xs
  | _ => none
theorem gOwn_iff {e : Lo} {i : Nat} {b : Bool} {o : Ob} (h : gOwn e i = some (b, o)) : e[i]? = some (.own b o) := by
  unfold gOwn at h
  split at h
  · cases h
    assumption
  · cases h
theorem gLst_iff {e : Lo} {i : Nat} {b : Bool} {o : List PyData} (h : gLst e i = some (b, o)) : e[i]? = some (.own b (.lst o)) := by
  unfold gLst at h
  split at h
  · cases h
    assumption
  · cases h
theorem gBox_iff {e : Lo} {i : Nat} {b : Bool} {o : List (Str × Fld)} (h : gBox e i = some (b, o)) : e[i]? = some (.own b (.box o)) := by
  unfold gBox at h
  split at h
  · cases h
    assumption
  · cases h
theorem gInt_iff {r : Rs} {i : Int} (h : gInt r = some i) : r = .val (.int i) := by
  unfold gInt at h
  split at h
  · cases h
    rfl
  · cases h
theorem gList_iff {r : PyData} {i : List PyData} (h : gList r = some i) : r = .list i := by
  unfold gList at h
  split at h
  · cases h
    rfl
  · cases h
theorem gItems_iff {r : PyData} {i : List PyData} (h : gItems r = some i) : r = .list i ∨ r = .tuple i := by
  unfold gItems at h
  split at h
  · cases h
    exact .inl rfl
  · cases h
    exact .inr rfl
  · cases h
/-- f called with the object at slot i and data -/
def mCallD (f : Fn) (i n : Nat) (ms : MA) : M Rs := fun e => (gOwn e i).bind fun _ => (ms e).bind fun p => (gOwn p.2 i).bind fun o =>
  if p.1.length + 1 = n then (f (.own true o.2 :: vals p.1)).bind fun q => (gOwn q.2 0).bind fun o' => if okR q.1 = true ∧ o'.1 = true then some (q.1, p.2.set i (.own o.1 o'.2)) else none
  else none
section
variable {X : Cx} {k : Nat} {f : Addr} {fd : FuncData} {ps : List Str} {g : Fn} {x y : Str} {p py pos : Pos} {a : Expr} {es : List Expr} {n i : Nat} {ms : MA}
theorem pick_range {β : Type} : ∀ xs : List β, pick (List.range xs.length) xs = xs := fun xs => by
  unfold pick
  apply List.ext_getElem?
  intro j
  have h : ∀ (m : Nat), m ≤ xs.length → (List.range m).filterMap (fun i => xs[i]?) = xs.take m := by
    intro m
    induction m with
    | zero => intro _; rfl
    | succ m ih =>
      intro hm
      rw [List.range_succ, List.filterMap_append, ih (by omega)]
      have : xs[m]? = some xs[m] := List.getElem?_eq_getElem (by omega)
      simp only [List.filterMap_cons, this, List.filterMap_nil]
      rw [List.take_add_one, this]
      rfl
  rw [h _ (Nat.le_refl _), List.take_length]
theorem se_callD (F : FnG X.prog X.w X.K X.mg X.base k f fd ps (spF X.K n g)) (hr : Room k X.A) (hgd : X.A.guards = some []) (hg : Gl X x) (hm : X.mg x = some (.ref f)) (hk : PySem.W.keepIn X.K (.ref f) = true) (hb : BindG X.K fd ps [] (List.range n) n)
    (i : Nat) (ha : SA X es ms) (hN : X.N[i]? = some y := by rfl) (hv : Vis X.env.scope y := by first | exact Or.inl rfl | exact Or.inr (Or.inl rfl) | exact Or.inr (Or.inr rfl))
    (hdy : (y == ("__debug__" : Str)) = false := by decide) (hcd : (y == ("__classdict__" : Str)) = false := by decide) (hdb : (x == ("__debug__" : Str)) = false := by decide)
    (he : starEach (.Name y py :: es) X.env = (false, eval (.Name y py) X.env) :: starEach es X.env := by rfl) (hpl : (backTo pos (starEach es X.env)).any (·.1) = false := by rfl) :
    SE X (.Call (.Name x p) (.Name y py :: es) [] pos) (mCallD g i n ms) := by
  refine PE_imp (pe_callG F hr hgd hg hm hk hb (pa_cons (pe_var hN hv hdy hcd) ha he) hdb he hpl) fun σ H Q ⟨ι, α, T, e, r, e', L, em, k⟩ => ?_
  simp only [mCallD, Option.bind_eq_some_iff] at em
  obtain ⟨⟨b0, o0⟩, h0, ⟨ds, e1⟩, h1, ⟨b, o⟩, h2, em⟩ := em
  split at em
  · rename_i hn
    simp only [Option.bind_eq_some_iff] at em
    obtain ⟨⟨r2, fl⟩, h3, ⟨b', o'⟩, h4, em⟩ := em
    split at em
    · rename_i ok
      obtain ⟨ok, rfl⟩ := ok
      cases em
      have h0 := gOwn_iff h0
      have h2 := gOwn_iff h2
      have h4 := gOwn_iff h4
      obtain ⟨w, hw, _, _⟩ := L.own h0
      have hw' : σ[i]? = some (some w) := by
        have hw2 := hw
        rw [List.getD_eq_getElem?_getD] at hw2
        cases q : σ[i]? with
        | none =>
          rw [q] at hw2
          cases hw2
        | some z =>
          rw [q] at hw2
          exact congrArg some hw2
      refine ⟨w, hw', ι, α, T, e, ds, e1, L, h1, fun α' H' vs L' S gs => ?_⟩
      have hl : (w :: vs).length = n := by rw [List.length_cons, gs.length]; exact hn
      refine ⟨hl, ?_⟩
      rw [List.append_nil, ← hl, pick_range, hl]
      exact ⟨hl, _, _, _, _, fl, L'.callD h2 hw gs, h3, ok, fun β ps H2 v A => k _ _ _ _ ((callD_back L' h2 hw A h4 ok).after S)⟩
    · cases em
  · cases em
end

/-! ### own lists and their methods -/
section
variable {K : PySem.W.Frag} {ι : Nat → Option V} {α α1 α2 : Nat → List Addr} {T T1 T2 ps qs : List Addr} {e e1 e2 : Lo} {σ : St} {H H1 H2 H' : Hp} {r r1 r2 : Rs} {v x : V} {o : Ob} {i : Nat} {b : Bool}
theorem mask_own {p : Addr} {u : HO} (h : p ∈ α i) : mask (upd H p u) α T = mask H α T := by
  funext q
  unfold mask
  split
  · rfl
  · rename_i hq
    exact upd_ne fun z => hq (.inl ⟨i, by rw [z]; exact h⟩)
/-- the object at slot i is changed at one of its addresses -/
theorem LR.change (L : LR K ι α T e σ H) (h : e[i]? = some (.own b o)) {p : Addr} {u : HO} {o' : Ob} (hp : p ∈ α i) (hn : ∀ v, OwnAt K H (mask H α T) (α i) v o → OwnAt K (upd H p u) (mask H α T) (α i) v o') :
    LR K ι α T (e.set i (.own b o')) σ (upd H p u) where
  len := by rw [List.length_set]; exact L.len
  dis := L.dis
  out := fun j hj => L.out j (by rw [List.length_set] at hj; exact hj)
  hT := L.hT
  tT := fun q hq => by
    by_cases z : q = p
    · rw [z, upd_same]
      exact fun z => nomatch z
    · rw [upd_ne z]
      exact L.tT q hq
  slot := fun j sv hs => by
    rw [mask_own hp]
    by_cases hj : j = i
    · subst hj
      have hi : j < e.length := (List.getElem?_eq_some_iff.mp h).1
      rw [List.getElem?_set_self hi] at hs
      cases hs
      obtain ⟨w, e1, e2, g⟩ := L.own h
      exact ⟨w, e1, e2, hn w g⟩
    · rw [List.getElem?_set_ne (Ne.symm hj)] at hs
      exact (L.slot j sv hs).stay (fun _ _ z => z) fun q hq => upd_ne fun z => hj (L.dis j i p (by rw [← z]; exact hq) hp)
theorem Stp.change {p : Addr} {u : HO} (hp : p ∈ α i) (hT : p ∉ T) : Stp α T H α T (upd H p u) :=
  ⟨fun q o h => by rw [mask_own hp]; exact h, fun _ _ h => .inl h, fun q hq => upd_ne fun z => hT (by rw [← z]; exact hq), fun q h => by
    by_cases z : q = p
    · rw [z, upd_same] at h
      cases h
    · rw [upd_ne z] at h
      exact h⟩
theorem LR.slotV (L : LR K ι α T e σ H) (h : e[i]? = some (.own b o)) : ∃ p, σ[i]? = some (some (.ref p)) ∧ σ.getD i none = some (.ref p) ∧ p ∈ α i := by
  obtain ⟨w, e1, _, g⟩ := L.own h
  have hw' : σ[i]? = some (some w) := by
    have hw := e1
    rw [List.getD_eq_getElem?_getD] at hw
    cases q : σ[i]? with
    | none =>
      rw [q] at hw
      cases hw
    | some z =>
      rw [q] at hw
      exact congrArg some hw
  generalize hps : α i = ps at g ⊢
  cases g with
  | lst _ _ => exact ⟨_, hw', e1, by simp⟩
  | box _ _ _ => exact ⟨_, hw', e1, by simp⟩
theorem LR.listAt (L : LR K ι α T e σ H) {xs : List PyData} (h : e[i]? = some (.own b (.lst xs))) {p : Addr} (hp : σ.getD i none = some (.ref p)) : ∃ vs, α i = [p] ∧ H p = some (.lst vs) ∧ FDs K (mask H α T) vs xs := by
  obtain ⟨w, e1, _, g⟩ := L.own h
  rw [hp] at e1
  cases e1
  obtain ⟨q, vs, h1, h2, h3, h4⟩ := g.list
  cases h2
  exact ⟨vs, h1, h3, h4⟩
theorem LR.relist (L : LR K ι α T e σ H) {xs ys : List PyData} (h : e[i]? = some (.own b (.lst xs))) {p : Addr} {ws : List V} (hp : α i = [p]) (g : FDs K (mask H α T) ws ys) :
    LR K ι α T (e.set i (.own b (.lst ys))) σ (upd H p (.lst ws)) ∧ Stp α T H α T (upd H p (.lst ws)) := by
  have hm : p ∈ α i := by rw [hp]; simp
  refine ⟨L.change h hm fun v q => ?_, Stp.change hm (L.hT i p hm)⟩
  obtain ⟨q, vs, h1, h2, h3, h4⟩ := q.list
  rw [hp] at h1
  cases h1
  rw [hp, h2]
  exact .lst upd_same g
end
/-- xs.append(e) -/
def mAppend (i : Nat) (m : M Rs) : M Rs := fun e => (gLst e i).bind fun _ => (m e).bind fun p => (fz p.2 p.1).bind fun q => (gLst q.2 i).bind fun l =>
  if l.2.length < lim then some (.val .none, q.2.set i (.own l.1 (.lst (l.2 ++ [q.1])))) else none
/-- the list that a value on its way is, an object that nobody else changes meanwhile -/
@[simp] def gNew (e : Lo) (i : Nat) : Rs → Option (List PyData)
  | .new (.lst xs) => some xs
  | .slot j => if j = i then none else (gLst e j).bind fun l => some l.2
  | _ => none
/-- xs.extend(ys), ys a list -/
def mExtend (i : Nat) (m : M Rs) : M Rs := fun e => (gLst e i).bind fun _ => (m e).bind fun p => (gNew p.2 i p.1).bind fun ys => (gLst p.2 i).bind fun l =>
  if l.2.length + ys.length ≤ lim then some (.val .none, p.2.set i (.own l.1 (.lst (l.2 ++ ys)))) else none
/-- xs.pop() -/
def mPop (i : Nat) : M Rs := fun e => (gLst e i).bind fun l => (l.2[l.2.length - 1]?).bind fun d => some (.val d, e.set i (.own l.1 (.lst l.2.dropLast)))
/-- xs.pop(k) -/
def mPopAt (i : Nat) (m : M Rs) : M Rs := fun e => (gLst e i).bind fun _ => (m e).bind fun p => (gInt p.1).bind fun j => (gLst p.2 i).bind fun l =>
  if l.2.length ≤ lim ∧ 0 ≤ j ∧ j < l.2.length then (l.2[j.toNat]?).bind fun d => some (.val d, p.2.set i (.own l.1 (.lst (l.2.eraseIdx j.toNat)))) else none
section
variable {X : Cx} {a : Expr} {m : M Rs} {i : Nat}
theorem se_append (h : PE X a (tBM X.K "list" rAppend (tVar i) (tCons (tE X.K m) tNil))) : SE X a (mAppend i m) := by
  refine PE_imp h fun σ H Q ⟨ι, α, T, e, r, e', L, em, k⟩ => ?_
  simp only [mAppend, Option.bind_eq_some_iff] at em
  obtain ⟨⟨b0, xs0⟩, h0, ⟨r1, e1⟩, h1, ⟨d, e2⟩, h2, ⟨b, xs⟩, h3, em⟩ := em
  split at em
  · rename_i hz
    cases em
    have h0 := gLst_iff h0
    have h3 := gLst_iff h3
    obtain ⟨p, hp, hp', hm⟩ := L.slotV h0
    obtain ⟨vs0, _, hH, _⟩ := L.listAt h0 hp'
    refine ⟨_, hp, .inl ⟨rfl, _, SqL.of hH⟩, ι, α, T, e, r1, e1, L, h1, fun α1 ps H1 y A1 => ?_⟩
    obtain ⟨α2, L2', S2, g⟩ := fz_ok A1.lr A1.rv h2 A1.st (Aft.apart L A1)
    obtain ⟨vs, ea, hH2, gs⟩ := L2'.listAt h3 hp'
    obtain ⟨L3, S3⟩ := L2'.relist h3 ea (gs.append (.cons g .nil))
    exact ⟨p, vs, y, rfl, rfl, hH2, by rw [gs.length]; exact lim_lt (Nat.le_of_lt hz), k α2 [] _ _ ⟨L3, S2.trans S3 fun p h => h, fun _ z => (by cases z), rfl, .non⟩⟩
  · cases em
theorem gNew_ok {K : PySem.W.Frag} {ι : Nat → Option V} {α : Nat → List Addr} {T ps : List Addr} {e : Lo} {σ : St} {H : Hp} {v : V} {r : Rs} {ys : List PyData} (L : LR K ι α (ps ++ T) e σ H) (q : RV K H (mask H α (ps ++ T)) σ ps v r) (h : gNew e i r = some ys) :
    ∃ b vs, v = .ref b ∧ H b = some (.lst vs) ∧ FDs K (mask H α (ps ++ T)) vs ys := by
  cases r with
  | val d => cases h
  | new o =>
    cases o with
    | box _ => cases h
    | lst xs =>
      cases h
      obtain ⟨p, vs, _, h2, h3, h4⟩ := OwnAt.list q
      exact ⟨p, vs, h2, h3, h4⟩
  | slot j =>
    unfold gNew at h
    simp only at h
    split at h
    · cases h
    · obtain ⟨⟨b, xs⟩, h1, h2⟩ := Option.bind_eq_some_iff.mp h
      cases h2
      have h1 := gLst_iff h1
      obtain ⟨p, _, hp, _⟩ := L.slotV h1
      obtain ⟨vs, _, h3, h4⟩ := L.listAt h1 hp
      have e2 := q.2
      rw [hp] at e2
      cases e2
      exact ⟨p, vs, rfl, h3, h4⟩
theorem se_extend (h : PE X a (tBM X.K "list" rExtend (tVar i) (tCons (tE X.K m) tNil))) : SE X a (mExtend i m) := by
  refine PE_imp h fun σ H Q ⟨ι, α, T, e, r, e', L, em, k⟩ => ?_
  simp only [mExtend, Option.bind_eq_some_iff] at em
  obtain ⟨⟨b0, xs0⟩, h0, ⟨r1, e1⟩, h1, ys, h2, ⟨b, xs⟩, h3, em⟩ := em
  split at em
  · rename_i hz
    cases em
    have h0 := gLst_iff h0
    have h3 := gLst_iff h3
    obtain ⟨p, hp, hp', hm⟩ := L.slotV h0
    obtain ⟨vs0, _, hH, _⟩ := L.listAt h0 hp'
    refine ⟨_, hp, .inl ⟨rfl, _, SqL.of hH⟩, ι, α, T, e, r1, e1, L, h1, fun α1 ps H1 y A1 => ?_⟩
    obtain ⟨q, ws, rfl, hq, gw⟩ := gNew_ok A1.lr A1.rv h2
    obtain ⟨vs, ea, hH2, gs⟩ := A1.lr.listAt h3 hp'
    have m1 : Same (mask H1 α1 (ps ++ T)) (mask H1 α1 T) := mask_mono (fun i p h => .inl ⟨i, h⟩) fun p h => .inr (List.mem_append_right _ h)
    obtain ⟨L3, S3⟩ := A1.lr.drop.relist h3 ea ((gs.append gw).mono m1)
    exact ⟨p, q, vs, ws, rfl, rfl, hH2, hq, by rw [gs.length, gw.length]; exact lim_le hz, k α1 [] _ _ ⟨L3, A1.st.drop.trans S3 fun p h => h, fun _ z => (by cases z), rfl, .non⟩⟩
  · cases em
theorem se_pop (h : PE X a (tBM0 X.K "list" rPop (tVar i))) : SE X a (mPop i) := by
  refine PE_imp h fun σ H Q ⟨ι, α, T, e, r, e', L, em, k⟩ => ?_
  simp only [mPop, Option.bind_eq_some_iff] at em
  obtain ⟨⟨b, xs⟩, h0, d, h1, em⟩ := em
  cases em
  have h0 := gLst_iff h0
  obtain ⟨p, hp, hp', hm⟩ := L.slotV h0
  obtain ⟨vs, ea, hH, gs⟩ := L.listAt h0 hp'
  obtain ⟨v, h2, g⟩ := gs.get h1
  obtain ⟨L3, S3⟩ := L.relist h0 ea gs.dropLast
  exact ⟨_, hp, .inl ⟨rfl, _, SqL.of hH⟩, p, vs, v, rfl, rfl, hH, by rw [gs.length]; exact h2, k α [] _ _ ⟨L3, S3, fun _ z => (by cases z), rfl, g.mono S3.vis⟩⟩
theorem se_popAt (h : PE X a (tBM X.K "list" rPopAt (tVar i) (tCons (tE X.K m) tNil))) : SE X a (mPopAt i m) := by
  refine PE_imp h fun σ H Q ⟨ι, α, T, e, r, e', L, em, k⟩ => ?_
  simp only [mPopAt, Option.bind_eq_some_iff] at em
  obtain ⟨⟨b0, xs0⟩, h0, ⟨r1, e1⟩, h1, j, hj, ⟨b, xs⟩, h3, em⟩ := em
  split at em
  · rename_i hz
    obtain ⟨d, h4, em⟩ := Option.bind_eq_some_iff.mp em
    cases em
    have hj := gInt_iff hj
    have h0 := gLst_iff h0
    have h3 := gLst_iff h3
    obtain ⟨p, hp, hp', hm⟩ := L.slotV h0
    obtain ⟨vs0, _, hH, _⟩ := L.listAt h0 hp'
    refine ⟨_, hp, .inl ⟨rfl, _, SqL.of hH⟩, ι, α, T, e, _, e1, L, h1, fun α1 ps H1 y A1 => ?_⟩
    have rv := A1.rv
    subst hj
    obtain ⟨rfl, gy⟩ := rv
    cases gy
    obtain ⟨vs, ea, hH2, gs⟩ := A1.lr.listAt h3 hp'
    obtain ⟨v, h5, g⟩ := gs.get h4
    obtain ⟨L3, S3⟩ := A1.lr.relist h3 ea (gs.erase j.toNat)
    have h6 := hz.1
    have h8 := hz.2.2
    have h9 := hz.2.1
    simp only at h6 h8
    unfold lim at h6
    have ix : seqIndex? j vs.length = some j.toNat := (ixN_seq (n := vs.length) (i := j) (j := j.toNat) (by
      unfold ixN
      rw [if_pos hz.2.1, if_pos (by rw [gs.length]; exact hz.2.2)])).1
    exact ⟨p, vs, j, j.toNat, v, rfl, rfl, hH2, by omega, by omega, ix, h5, k α1 [] _ _ ⟨L3, A1.st.trans S3 fun p h => h, fun _ z => (by cases z), rfl, g.mono S3.vis⟩⟩
  · cases em
end
end Gx
/-! G4: statements. -/
namespace Gx
open PySem L2

inductive Out where
  | nx (e : Lo) | bk (e : Lo) | ct (e : Lo) | rt (r : Rs) (e : Lo)
abbrev MS := Lo → Option Out
def Fin (K : PySem.W.Frag) (ι : Nat → Option V) (α : Nat → List Addr) (T : List Addr) (H : Hp) (D : Ends) : Out → Prop
  | .nx e' => ∀ α' σ' H', LR K ι α' T e' σ' H' → Stp α T H α' T H' → D.nx σ' H'
  | .bk e' => ∀ α' σ' H', LR K ι α' T e' σ' H' → Stp α T H α' T H' → D.bk σ' H'
  | .ct e' => ∀ α' σ' H', LR K ι α' T e' σ' H' → Stp α T H α' T H' → D.ct σ' H'
  | .rt r e' => ∀ α' σ' ps H' v, LR K ι α' (ps ++ T) e' σ' H' → Stp α T H α' (ps ++ T) H' → (∀ p ∈ ps, H p = none) → RV K H' (mask H' α' (ps ++ T)) σ' ps v r → D.rt v H'
def tS (K : PySem.W.Frag) (m : MS) : TS := fun D σ H => ∃ ι α T e o, LR K ι α T e σ H ∧ m e = some o ∧ Fin K ι α T H D o
abbrev SS (X : Cx) (st : Stmt) (m : MS) : Prop := PS X st (tS X.K m)
abbrev SSs (X : Cx) (st : List Stmt) (m : MS) : Prop := PSs X st (tS X.K m)
section
variable {K : PySem.W.Frag} {ι : Nat → Option V} {α α1 α2 : Nat → List Addr} {T T1 T2 ps qs : List Addr} {e e1 e2 : Lo} {σ : St} {H H1 H2 H' : Hp} {r r1 r2 : Rs} {v x : V} {o : Ob} {i : Nat} {b : Bool} {D : Ends}
theorem Fin.after {o : Out} (h : Fin K ι α T H D o) (s : Stp α T H α1 T H1) : Fin K ι α1 T H1 D o := by
  cases o with
  | nx e' => exact fun α' σ' H' L S => h α' σ' H' L (s.trans S fun _ z => z)
  | bk e' => exact fun α' σ' H' L S => h α' σ' H' L (s.trans S fun _ z => z)
  | ct e' => exact fun α' σ' H' L S => h α' σ' H' L (s.trans S fun _ z => z)
  | rt r e' => exact fun α' σ' ps H' v L S n q => h α' σ' ps H' v L (s.trans S fun _ z => z) (fun p hp => s.non p (n p hp)) q
/-- a new thing at a slot -/
theorem LR.store (L : LR K ι α (ps ++ T) e σ H) (hi : i < e.length) (hd : ∀ p ∈ ps, p ∉ T) {sv : SV} (hs : SR K H (mask H (put α i ps) T) (ι i) ps (some v) sv) : LR K ι (put α i ps) T (e.set i sv) (σ.set i (some v)) H := by
  have back : Same (mask H α (ps ++ T)) (mask H (put α i ps) T) := mask_mono (fun j q hq => by
    by_cases hj : j = i
    · rw [hj, put_same] at hq
      exact .inr (List.mem_append_left _ hq)
    · rw [put_ne hj] at hq
      exact .inl ⟨j, hq⟩) fun q hq => .inr (List.mem_append_right _ hq)
  refine ⟨by rw [List.length_set, List.length_set]; exact L.len, fun j k q h1 h2 => ?_, fun j hj => ?_, fun j q hq z => ?_, fun q hq => L.tT q (List.mem_append_right _ hq), fun j sv' h => ?_⟩
  · by_cases hj : j = i
    · by_cases hk : k = i
      · rw [hj, hk]
      · rw [hj, put_same] at h1
        rw [put_ne hk] at h2
        exact absurd (List.mem_append_left _ h1) (L.hT k q h2)
    · rw [put_ne hj] at h1
      by_cases hk : k = i
      · rw [hk, put_same] at h2
        exact absurd (List.mem_append_left _ h2) (L.hT j q h1)
      · rw [put_ne hk] at h2
        exact L.dis j k q h1 h2
  · rw [List.length_set] at hj
    rw [put_ne (by omega)]
    exact L.out j hj
  · by_cases hj : j = i
    · rw [hj, put_same] at hq
      exact hd q hq z
    · rw [put_ne hj] at hq
      exact L.hT j q hq (List.mem_append_right _ z)
  · by_cases hj : j = i
    · subst hj
      rw [List.getElem?_set_self hi] at h
      cases h
      rw [put_same]
      have z : (σ.set j (some v)).getD j none = some v := by
        rw [List.getD_eq_getElem?_getD, List.getElem?_set_self (by rw [← L.len]; exact hi)]
        rfl
      rw [z]
      exact hs
    · rw [List.getElem?_set_ne (Ne.symm hj)] at h
      rw [put_ne hj]
      have z : (σ.set i (some v)).getD j none = σ.getD j none := by
        rw [List.getD_eq_getElem?_getD, List.getD_eq_getElem?_getD, List.getElem?_set_ne (Ne.symm hj)]
      rw [z]
      exact (L.slot j sv' h).stay back fun _ _ => rfl
theorem Stp.store (s : Stp α1 T H1 α (ps ++ T) H) (hn : ∀ p ∈ ps, H1 p = none) : Stp α1 T H1 (put α i ps) T H where
  vis := s.vis.trans (mask_mono (fun j q hq => by
    by_cases hj : j = i
    · rw [hj, put_same] at hq
      exact .inr (List.mem_append_left _ hq)
    · rw [put_ne hj] at hq
      exact .inl ⟨j, hq⟩) fun q hq => .inr (List.mem_append_right _ hq))
  own := fun j q hq => by
    by_cases hj : j = i
    · rw [hj, put_same] at hq
      exact .inr (hn q hq)
    · rw [put_ne hj] at hq
      exact s.own j q hq
  held := s.held
  non := s.non
/-- what a slot turns into -/
@[simp] def nrm (e : Lo) : Rs → Option (Rs × Lo)
  | .val d => some (.val d, e)
  | .new o => some (.new o, e)
  | .slot i => (sfz e i e[i]?).bind fun q => some (.val q.1, q.2)
@[simp] def toSV : Rs → SV
  | .val d => .val d
  | .new o => .own false o
  | .slot _ => .un
def free? (e : Lo) (i : Nat) : Bool := match e[i]? with
  | some (.own true _) => false
  | some _ => true
  | none => false
@[simp] def setS (i : Nat) (r : Rs) (e : Lo) : Option Lo := if free? e i = true then some (e.set i (toSV r)) else none
theorem free_lt (h : free? e i = true) : i < e.length := by
  unfold free? at h
  split at h
  · cases h
  · rename_i q
    exact (List.getElem?_eq_some_iff.mp q).1
  · cases h
theorem nrm_ok (L : LR K ι α (ps ++ T) e σ H) (q : RV K H (mask H α (ps ++ T)) σ ps v r) (h : nrm e r = some (r1, e1)) (hd : ∀ p ∈ ps, p ∉ T) :
    ∃ α', LR K ι α' (ps ++ T) e1 σ H ∧ Stp α (ps ++ T) H α' (ps ++ T) H ∧ RV K H (mask H α' (ps ++ T)) σ ps v r1 ∧ okR r1 = true := by
  cases r with
  | val d =>
    cases h
    exact ⟨α, L, Stp.refl, q, rfl⟩
  | new o =>
    cases h
    exact ⟨α, L, Stp.refl, q, rfl⟩
  | slot i =>
    obtain ⟨rfl, q⟩ := q
    obtain ⟨⟨d, e'⟩, h1, h2⟩ := Option.bind_eq_some_iff.mp h
    cases h2
    obtain ⟨α', L', S', g⟩ := fz_ok (α1 := α) (T1 := T) (H1 := H) (r := .slot i) L ⟨rfl, q⟩ h1 Stp.refl hd
    exact ⟨α', L', S', ⟨rfl, g⟩, rfl⟩
/-- a value comes to a slot -/
theorem set_ok (L : LR K ι α (ps ++ T) e σ H) (q : RV K H (mask H α (ps ++ T)) σ ps v r) (ok : okR r = true) (h : setS i r e = some e1) (hd : ∀ p ∈ ps, p ∉ T) : LR K ι (put α i ps) T e1 (σ.set i (some v)) H := by
  unfold setS at h
  split at h
  · rename_i hf
    cases h
    have back : Same (mask H α (ps ++ T)) (mask H (put α i ps) T) := mask_mono (fun j q hq => by
      by_cases hj : j = i
      · rw [hj, put_same] at hq
        exact .inr (List.mem_append_left _ hq)
      · rw [put_ne hj] at hq
        exact .inl ⟨j, hq⟩) fun q hq => .inr (List.mem_append_right _ hq)
    refine L.store (free_lt hf) hd ?_
    cases r with
    | val d =>
      obtain ⟨rfl, g⟩ := q
      exact ⟨rfl, v, rfl, g.mono back⟩
    | new o => exact ⟨v, rfl, fun z => (by cases z), OwnAt.stay back (fun _ _ => rfl) q⟩
    | slot j => cases ok
  · cases h
end

/-! ### blocks, tests, ends -/
def sNil : MS := fun e => some (.nx e)
def sSeq (m n : MS) : MS := fun e => (m e).bind fun o => match o with
  | .nx e' => n e'
  | o => some o
def sExpr (m : M Rs) : MS := fun e => (m e).bind fun p => some (.nx p.2)
def sRet (m : M Rs) : MS := fun e => (m e).bind fun p => some (.rt p.1 p.2)
def sRetN : MS := fun e => some (.rt (.val .none) e)
def sIf (t : M Bool) (m n : MS) : MS := fun e => (t e).bind fun p => if p.1 = true then m p.2 else n p.2
def sBreak : MS := fun e => some (.bk e)
def sCont : MS := fun e => some (.ct e)
def sNever : MS := fun _ => none
def sSet (i : Nat) (m : M Rs) : MS := fun e => (m e).bind fun p => (nrm p.2 p.1).bind fun q => (setS i q.1 q.2).bind fun e' => some (.nx e')
section
variable {X : Cx} {a c : Expr} {st : Stmt} {rest sa sb : List Stmt} {m : M Rs} {t : M Bool} {n n1 n2 : MS} {pos : Pos}
theorem ss_nil : SSs X [] sNil := PSs_imp pss_nil fun D σ H ⟨ι, α, T, e, o, L, em, k⟩ => by
  cases em
  exact k α σ H L Stp.refl
theorem ss_cons (h1 : SS X st n1) (h2 : SSs X rest n2) : SSs X (st :: rest) (sSeq n1 n2) := PSs_imp (pss_cons h1 h2) fun D σ H ⟨ι, α, T, e, o, L, em, k⟩ => by
  obtain ⟨o1, h1, em⟩ := Option.bind_eq_some_iff.mp em
  refine ⟨ι, α, T, e, o1, L, h1, ?_⟩
  cases o1 with
  | nx e' => exact fun α' σ' H' L' S => ⟨ι, α', T, e', o, L', em, k.after S⟩
  | bk e' =>
    cases em
    exact k
  | ct e' =>
    cases em
    exact k
  | rt r e' =>
    cases em
    exact k
theorem ss_one (h1 : SS X st n1) : SSs X [st] n1 := pss_one h1
theorem s_pass : SS X (.Pass pos) sNil := PS_imp ps_pass fun D σ H ⟨ι, α, T, e, o, L, em, k⟩ => by
  cases em
  exact k α σ H L Stp.refl
theorem s_break : SS X (.Break pos) sBreak := PS_imp ps_break fun D σ H ⟨ι, α, T, e, o, L, em, k⟩ => by
  cases em
  exact k α σ H L Stp.refl
theorem s_cont : SS X (.Continue pos) sCont := PS_imp ps_continue fun D σ H ⟨ι, α, T, e, o, L, em, k⟩ => by
  cases em
  exact k α σ H L Stp.refl
theorem s_never : SS X st sNever := PS_imp ps_never fun D σ H ⟨ι, α, T, e, o, L, em, k⟩ => by cases em
theorem s_expr (h : SE X a m) (hs : swapsWith a none pos.line X.env = pure false := by rfl) : SS X (.Expr a pos) (sExpr m) := PS_imp (ps_expr h hs) fun D σ H ⟨ι, α, T, e, o, L, em, k⟩ => by
  obtain ⟨⟨r, e'⟩, h1, em⟩ := Option.bind_eq_some_iff.mp em
  cases em
  exact ⟨ι, α, T, e, r, e', L, h1, fun α' ps H' v A => k α' σ H' A.lr.drop A.st.drop⟩
theorem s_ret (h : SE X a m) : SS X (.Return (some a) pos) (sRet m) := PS_imp (ps_ret h) fun D σ H ⟨ι, α, T, e, o, L, em, k⟩ => by
  obtain ⟨⟨r, e'⟩, h1, em⟩ := Option.bind_eq_some_iff.mp em
  cases em
  exact ⟨ι, α, T, e, r, e', L, h1, fun α' ps H' v A => k α' σ ps H' v A.lr A.st A.nw A.rv⟩
theorem s_retN : SS X (.Return none pos) sRetN := PS_imp ps_retN fun D σ H ⟨ι, α, T, e, o, L, em, k⟩ => by
  cases em
  exact k α σ [] H .non L Stp.refl (fun _ h => by cases h) ⟨rfl, .non⟩
theorem s_if (hc : ST X c t) (ha : SSs X sa n1) (hb : SSs X sb n2) : SS X (.If c sa sb pos) (sIf t n1 n2) := PS_imp (ps_if hc ha hb) fun D σ H ⟨ι, α, T, e, o, L, em, k⟩ => by
  obtain ⟨⟨b, e'⟩, h1, em⟩ := Option.bind_eq_some_iff.mp em
  refine ⟨ι, α, T, e, b, e', L, h1, fun α' H' L' S => ?_⟩
  cases b with
  | true => exact iteT ⟨ι, α', T, e', o, L', em, k.after S⟩
  | false => exact iteF ⟨ι, α', T, e', o, L', em, k.after S⟩
theorem tSet_imp {K : PySem.W.Frag} {i : Nat} {D : Ends} {σ : St} {H : Hp} (h : tS K (sSet i m) D σ H) : tE K m σ H fun x H1 => D.nx (σ.set i (some x)) H1 := by
  obtain ⟨ι, α, T, e, o, L, em, k⟩ := h
  simp only [sSet, Option.bind_eq_some_iff] at em
  obtain ⟨⟨r, e1⟩, h1, ⟨r', e2⟩, h2, e3, h3, em⟩ := em
  cases em
  refine ⟨ι, α, T, e, r, e1, L, h1, fun α' ps H' v A => ?_⟩
  have ap := Aft.apart L A
  obtain ⟨β, L', S', q', ok⟩ := nrm_ok A.lr A.rv h2 ap
  exact k _ _ H' (set_ok L' q' ok h3 ap) ((A.st.trans S' fun p h => List.mem_append_right _ h).store A.nw)
theorem s_set {x : Str} {px : Pos} (i : Nat) (hN : X.N.Nodup) (h : SE X a m) (hi : X.N[i]? = some x := by rfl) (hx : Loc X.env.scope x := by first | exact Or.inl rfl | exact Or.inr rfl)
    (hs : swapsWith a (some (.Name x px)) pos.line X.env = pure false := by rfl) (hf : X.fn x = true ∨ X.env.scope.names.lookup x = some .local := by first | exact .inl rfl | exact .inr rfl) :
    SS X (.Assign [.Name x px] a pos) (sSet i m) := PS_imp (ps_set hN hi hx h hs hf) fun D σ H q => tSet_imp q
/-- a, b = x, y: two plain local names -/
def sPar (i j : Nat) (ma mb : M Rs) : MS := fun e => (ma e).bind fun p => (nrm p.2 p.1).bind fun p' => (mb p'.2).bind fun q => (nrm q.2 q.1).bind fun q' => (setS j q'.1 q'.2).bind fun e2 => (setS i p'.1 e2).bind fun e3 => some (.nx e3)
end
section
variable {K : PySem.W.Frag} {ι : Nat → Option V} {α α1 α2 : Nat → List Addr} {T T1 T2 ps qs : List Addr} {e e1 e2 : Lo} {σ : St} {H H1 H2 H' : Hp} {r r1 r2 : Rs} {v x : V} {o : Ob} {i j : Nat} {b : Bool} {D : Ends} {ma mb : M Rs}
theorem RV.set (q : RV K H F σ ps v r) (ok : okR r = true) {σ' : St} {F' : Hp} (h : Same F F') : RV K H F' σ' ps v r := by
  cases r with
  | val d => exact ⟨q.1, q.2.mono h⟩
  | new o => exact OwnAt.stay h (fun _ _ => rfl) q
  | slot i => cases ok
theorem tPar_imp (hij : i ≠ j) (h : tS K (sPar i j ma mb) D σ H) : tE K ma σ H fun x H1 => tE K mb σ H1 fun y H2 => D.nx ((σ.set i (some x)).set j (some y)) H2 := by
  obtain ⟨ι, α, T, e, o, L, em, k⟩ := h
  simp only [sPar, Option.bind_eq_some_iff] at em
  obtain ⟨⟨r1, e1⟩, h1, ⟨r1', e1'⟩, n1, ⟨r2, e2⟩, h2, ⟨r2', e2'⟩, n2, e3, s2, e4, s1, em⟩ := em
  cases em
  refine ⟨ι, α, T, e, r1, e1, L, h1, fun α1 ps H1 x A1 => ?_⟩
  have ap := Aft.apart L A1
  obtain ⟨β1, L1, S1, q1, ok1⟩ := nrm_ok A1.lr A1.rv n1 ap
  refine ⟨ι, β1, ps ++ T, e1', r2, e2, L1, h2, fun α2 qs H2 y A2 => ?_⟩
  have ap2 := Aft.apart L1 A2
  obtain ⟨β2, L2', S2, q2, ok2⟩ := nrm_ok A2.lr A2.rv n2 ap2
  have L3 := set_ok L2' q2 ok2 s2 ap2
  have S12 := A2.st.trans S2 fun p h => List.mem_append_right _ h
  have S3 : Stp β1 (ps ++ T) H1 (put β2 j qs) (ps ++ T) H2 := S12.store A2.nw
  have rv1 : RV K H2 (mask H2 (put β2 j qs) (ps ++ T)) (σ.set j (some y)) ps x r1' := (q1.stay S3 fun p h => List.mem_append_left _ h).set ok1 fun _ _ z => z
  have L4 := set_ok L3 rv1 ok1 s1 ap
  have e : (σ.set j (some y)).set i (some x) = (σ.set i (some x)).set j (some y) := List.set_comm _ _ (Ne.symm hij)
  rw [e] at L4
  exact k _ _ H2 L4 (((A1.st.trans S1 fun p h => List.mem_append_right _ h).trans S3 fun p h => List.mem_append_right _ h).store A1.nw)
end
section
variable {X : Cx} {a b c : Expr} {ma mb : M Rs} {pos : Pos}
theorem s_par {x y : Str} {px py pt : Pos} {kt k2 pt2} (hN : X.N.Nodup) (hc : X.calm = true) (i j : Nat) (ha : SE X a ma) (hb : SE X b mb) (hi : X.N[i]? = some x := by rfl) (hj : X.N[j]? = some y := by rfl) (hij : i ≠ j := by decide)
    (hx : X.env.scope.names.lookup x = some .local := by rfl) (hy : X.env.scope.names.lookup y = some .local := by rfl)
    (h1 : starEach [a, b] X.env = (false, eval a X.env) :: starEach [b] X.env := by rfl) (h2 : starEach [b] X.env = (false, eval b X.env) :: starEach [] X.env := by rfl)
    (hw : swappedStores [.Tuple [.Name x px, .Name y py] kt pt] (.Tuple [a, b] k2 pt2) X.env = pure (some [x, y]) := by rfl)
    (hs : swapsWithSole [.Tuple [.Name x px, .Name y py] kt pt] (.Tuple [a, b] k2 pt2) pos.line X.env = pure false := by rfl) :
    SS X (.Assign [.Tuple [.Name x px, .Name y py] kt pt] (.Tuple [a, b] k2 pt2) pos) (sPar i j ma mb) :=
  PS_imp (ps_par hc hN hi hj hij hx hy (pa_cons ha (pa_cons hb pa_nil h2) h1) hw hs) fun D σ H q => by
    obtain ⟨ι, α, T, e, r, e', L, em, k⟩ := tPar_imp hij q
    refine ⟨ι, α, T, e, r, e', L, em, fun α1 ps H1 x1 A => ?_⟩
    obtain ⟨ι2, α2, T2, e2, r2, e2', L2', em2, k2⟩ := k α1 ps H1 x1 A
    exact ⟨ι2, α2, T2, e2, r2, e2', L2', em2, fun α3 ps3 H3 y3 A3 => ⟨x1, y3, rfl, k2 α3 ps3 H3 y3 A3⟩⟩
end

/-! ### targets -/
abbrev MG := PyData → Lo → Option Lo
/-- σ' is σ but for the slots in W -/
def Alike (W : List Nat) (σ σ' : St) : Prop := σ'.length = σ.length ∧ ∀ j, j ∉ W → σ'[j]? = σ[j]?
theorem Alike.refl {W : List Nat} {σ : St} : Alike W σ σ := ⟨rfl, fun _ _ => rfl⟩
def tGd (K : PySem.W.Frag) (W : List Nat) (g : MG) : TG := fun v σ H Q => ∃ ι α T e d e', LR K ι α T e σ H ∧ FD K (mask H α T) v d ∧ g d e = some e' ∧ ∀ α' σ', LR K ι α' T e' σ' H → Stp α T H α' T H → Alike W σ σ' → Q σ' H
abbrev MGs := List PyData → Lo → Option Lo
def tGs (K : PySem.W.Frag) (W : List Nat) (g : MGs) : TGs := fun vs σ H Q => ∃ ι α T e ds e', LR K ι α T e σ H ∧ FDs K (mask H α T) vs ds ∧ g ds e = some e' ∧ ∀ α' σ', LR K ι α' T e' σ' H → Stp α T H α' T H → Alike W σ σ' → Q σ' H
def gNm (i : Nat) : MG := fun d e => setS i (.val d) e
def gsNil : MGs := fun ds e => match ds with
  | [] => some e
  | _ => none
def gsCons (g : MG) (gs : MGs) : MGs := fun ds e => match ds with
  | d :: ds => (g d e).bind fun e1 => gs ds e1
  | _ => none
def gTu (n : Nat) (gs : MGs) : MG := fun d e => match d with
  | .tuple ds => if ds.length = n then gs ds e else none
  | _ => none
abbrev SG (X : Cx) (tg : Expr) (W : List Nat) (g : MG) : Prop := PG X tg (tGd X.K W g)
abbrev SGs (X : Cx) (tg : List Expr) (W : List Nat) (g : MGs) : Prop := PGs X tg (tGs X.K W g)
theorem PG_imp {X : Cx} {tg : Expr} {t t' : TG} (h : PG X tg t) (hi : ∀ v σ H Q, t' v σ H Q → t v σ H Q) : PG X tg t' := ⟨fun pins s σ H v u Q I r q => h.run pins s σ H v u Q I r (hi _ _ _ _ q)⟩
theorem PGs_imp {X : Cx} {tg : List Expr} {t t' : TGs} (h : PGs X tg t) (hi : ∀ v σ H Q, t' v σ H Q → t v σ H Q) : PGs X tg t' := ⟨fun pins s σ H v u Q I r q => h.run pins s σ H v u Q I r (hi _ _ _ _ q)⟩
section
variable {X : Cx} {a : Expr} {es : List Expr} {W : List Nat} {g : MG} {gs : MGs} {pos : Pos} {m : M Rs}
theorem sg_name {x : Str} (i : Nat) (hN : X.N.Nodup) (hW : i ∈ W) (hi : X.N[i]? = some x := by rfl) (hx : Loc X.env.scope x := by first | exact Or.inl rfl | exact Or.inr rfl)
    (hf : X.fn x = true ∨ X.env.scope.names.lookup x = some .local := by first | exact .inl rfl | exact .inr rfl) : SG X (.Name x pos) W (gNm i) := PG_imp (pg_name hN hi hx hf) fun v σ H Q ⟨ι, α, T, e, d, e', L, f, em, k⟩ => by
  have L' := set_ok (ps := []) (v := v) (r := .val d) L ⟨rfl, f⟩ rfl em fun _ z => (by cases z)
  exact k _ _ L' (Stp.store (ps := []) Stp.refl fun _ z => (by cases z)) ⟨List.length_set .., fun j hj => List.getElem?_set_ne fun z => hj (by rw [← z]; exact hW)⟩
theorem sgs_nil : SGs X [] W gsNil := PGs_imp pgs_nil fun v σ H Q ⟨ι, α, T, e, d, e', L, f, em, k⟩ => by
  unfold gsNil at em
  split at em
  · cases em
    cases f
    exact ⟨rfl, k α σ L Stp.refl Alike.refl⟩
  · cases em
theorem sgs_cons (h1 : SG X a W g) (h2 : SGs X es W gs) (hs : (assignEach (a :: es) X.env).map (·.2) = assign a X.env :: (assignEach es X.env).map (·.2) := by rfl) : SGs X (a :: es) W (gsCons g gs) :=
  PGs_imp (pgs_cons h1 h2 hs) fun v σ H Q ⟨ι, α, T, e, d, e', L, f, em, k⟩ => by
    unfold gsCons at em
    split at em
    · obtain ⟨e1, h3, h4⟩ := Option.bind_eq_some_iff.mp em
      cases f with
      | cons f1 f2 => exact ⟨_, _, rfl, ι, α, T, e, _, e1, L, f1, h3, fun α1 σ1 L1 S1 A1 => ⟨ι, α1, T, e1, _, e', L1, f2.mono S1.vis, h4, fun α2 σ2 L2' S2 A2 => k α2 σ2 L2' (S1.trans S2 fun _ z => z) ⟨A2.1.trans A1.1, fun j hj => (A2.2 j hj).trans (A1.2 j hj)⟩⟩⟩
    · cases em
theorem sg_tup {k n : Nat} (hc : X.calm = true) (h : SGs X es W gs) (hn : (assignEach es X.env).length = n := by rfl) (hst : (assignEach es X.env).findIdx? (·.1) = none := by rfl) : SG X (.Tuple es k pos) W (gTu n gs) :=
  PG_imp (pg_tup hc h hn hst) fun v σ H Q ⟨ι, α, T, e, d, e', L, f, em, k⟩ => by
    unfold gTu at em
    split at em
    · split at em
      · rename_i hl
        cases f with
        | tup h1 h2 => exact ⟨_, _, rfl, same_tup mask_sub h1, by rw [h2.length]; exact hl, ι, α, T, e, _, e', L, h2, em, k⟩
      · cases em
    · cases em
/-- target = e -/
def sAsg (g : MG) (m : M Rs) : MS := fun e => (m e).bind fun p => (fz p.2 p.1).bind fun q => (g q.1 q.2).bind fun e' => some (.nx e')
theorem s_asg {tg : Expr} (hg : SG X tg W g) (he : SE X a m) (hs : swapsWithSole [tg] a pos.line X.env = pure false := by rfl) (hw : swappedStores [tg] a X.env = pure none := by rfl)
    (h1 : (assignEach [tg] X.env).map (·.2) = [assign tg X.env] := by rfl) : SS X (.Assign [tg] a pos) (sAsg g m) := PS_imp (ps_asg he hg hs hw h1) fun D σ H ⟨ι, α, T, e, o, L, em, k⟩ => by
  simp only [sAsg, Option.bind_eq_some_iff] at em
  obtain ⟨⟨r, e1⟩, h1, ⟨d, e2⟩, h2, e3, h3, em⟩ := em
  cases em
  refine ⟨ι, α, T, e, r, e1, L, h1, fun α' ps H' v A => ?_⟩
  obtain ⟨β, L', S', f⟩ := fz_ok A.lr A.rv h2 A.st (Aft.apart L A)
  exact ⟨ι, β, T, e2, d, e3, L', f, h3, fun α2 σ2 L2' S2 _ => k α2 σ2 H' L2' (S'.trans S2 fun _ z => z)⟩
/-- xs[k] = e, xs an own list -/
def sSetIx (i : Nat) (mk m : M Rs) : MS := fun e => (m e).bind fun p => (fz p.2 p.1).bind fun q => (gLst q.2 i).bind fun _ => (mk q.2).bind fun l => (gInt l.1).bind fun k => (gLst l.2 i).bind fun x => (ixN x.2.length k).bind fun j =>
  some (.nx (l.2.set i (.own x.1 (.lst (x.2.set j q.1)))))
theorem s_setIx {o ix : Expr} {i : Nat} {mk : M Rs} {p2 : Pos} (he : SE X a m) (ho : PE X o (tVar i)) (hk : SE X ix mk) (hs : swapsWithSole [.Subscript o ix p2] a pos.line X.env = pure false := by rfl) (hw : swappedStores [.Subscript o ix p2] a X.env = pure none := by rfl)
    (h1 : (assignEach [.Subscript o ix p2] X.env).map (·.2) = [assign (.Subscript o ix p2) X.env] := by rfl)
    (ha : ∀ v, assign (.Subscript o ix p2) X.env v = (do
      let ov ← holding [v] (eval o X.env)
      let iv ← holding [v, ov] (eval ix X.env)
      standAt p2
      holding [v, ov, iv] (setItem ov iv v)
      release [v, ov, iv] []) := by intro _; rfl) : SS X (.Assign [.Subscript o ix p2] a pos) (sSetIx i mk m) := PS_imp (ps_asg he (pg_sub ho hk set_list ha) hs hw h1) fun D σ H ⟨ι, α, T, e, o, L, em, k⟩ => by
  simp only [sSetIx, Option.bind_eq_some_iff] at em
  obtain ⟨⟨r, e1⟩, h1, ⟨d, e2⟩, h2, ⟨b0, x0⟩, h0, ⟨r3, e3⟩, h3, n, h4, ⟨b, xs⟩, h5, j, h6, em⟩ := em
  cases em
  have h0 := gLst_iff h0
  have h5 := gLst_iff h5
  have h4 := gInt_iff h4
  refine ⟨ι, α, T, e, r, e1, L, h1, fun α' ps H' v A => ?_⟩
  obtain ⟨β, L', S', f⟩ := fz_ok A.lr A.rv h2 A.st (Aft.apart L A)
  obtain ⟨p, hp, hp', _⟩ := L'.slotV h0
  refine ⟨_, hp, ι, β, T, e2, r3, e3, L', h3, fun α3 ps3 H3 y A3 => ?_⟩
  have rv := A3.rv
  subst h4
  obtain ⟨rfl, gy⟩ := rv
  cases gy
  obtain ⟨vs, ea, hH, gs⟩ := A3.lr.listAt h5 hp'
  obtain ⟨L4, S4⟩ := A3.lr.relist h5 ea (gs.set j (f.mono A3.st.vis))
  refine ⟨p, vs, n, j, rfl, rfl, hH, by rw [gs.length]; exact h6, k _ _ _ L4 ((S'.trans A3.st fun _ z => z).trans S4 fun _ z => z)⟩
end
end Gx
/-! G5: what is walked, for, while, comprehensions. -/
namespace Gx
open PySem L2

/-! ### what is walked -/
def Fol (K : PySem.W.Frag) (F : Hp) (J : It) (its : List PyData) : Prop := ∀ (H F' : Hp), Same F F' → Same F' H → (∀ i, its.length ≤ i → J.stop i H) ∧
  ∀ i d, its[i]? = some d → J.go i H ∧ ∀ x H', J.yld i H x H' → Res K H F' (.val d) [] H' x
theorem Fol.mono {K : PySem.W.Frag} {F F1 : Hp} {J : It} {its : List PyData} (h : Fol K F J its) (s : Same F F1) : Fol K F1 J its := fun H F' s1 s2 => h H F' (s.trans s1) s2
abbrev MI := M (List PyData)
def tIt (K : PySem.W.Frag) (m : MI) : TI := fun σ H R => ∃ ι α T e its e', LR K ι α T e σ H ∧ m e = some (its, e') ∧ ∀ α' H' J, LR K ι α' T e' σ H' → Stp α T H α' T H' → Fol K (mask H' α' T) J its → R J H'
abbrev SI (X : Cx) (tg e : Expr) (m : MI) : Prop := PI X tg e (tIt X.K m)
def iSeq (m : M Rs) : MI := fun e => (m e).bind fun p => (fz p.2 p.1).bind fun q => (gItems q.1).bind fun its => some (its, q.2)
def iRng (m : M Rs) : MI := fun e => (m e).bind fun p => (gInt p.1).bind fun n => if n ≤ lim ∧ -1000000 ≤ n then some ((List.range n.toNat).map fun (i : Nat) => .int i, p.2) else none
def iRng2 (ma mb : M Rs) : MI := fun e => (ma e).bind fun p => (mb p.2).bind fun q => (gInt p.1).bind fun a => (gInt q.1).bind fun b => if -1000000 ≤ a ∧ a ≤ lim ∧ b ≤ lim ∧ -1000000 ≤ b then some ((List.range (b - a).toNat).map fun (i : Nat) => .int (a + i), q.2) else none
def iRevS (m : M Rs) : MI := fun e => (m e).bind fun p => (fz p.2 p.1).bind fun q => (gItems q.1).bind fun its => some (its.reverse, q.2)
@[simp] def enumD (its : List PyData) : List PyData := its.mapIdx fun i d => .tuple [.int i, d]
@[simp] def zipD (xs ys : List PyData) : List PyData := (xs.zip ys).map fun p => .tuple [p.1, p.2]
section
variable {K : PySem.W.Frag} {F H : Hp} {a b : Addr} {xs ys : List V} {ds es : List PyData}
theorem fol_list (h : SqL K F a xs) (g : FDs K F xs ds) : Fol K F (Itl K a) ds := fun H F' s1 s2 => by
  have hq := s2.seq (s1.seq h)
  have g' := g.mono s1
  refine ⟨fun i hi => ⟨xs, hq, by rw [g.length]; exact hi⟩, fun i d hd => ?_⟩
  obtain ⟨v, h1, h2⟩ := g'.get hd
  refine ⟨⟨xs, v, hq, h1⟩, fun x H' y => ?_⟩
  obtain ⟨rfl, y2⟩ := y
  have := y2 xs hq
  rw [h1] at this
  cases this
  exact .val h2
theorem fol_tup (h : SqT K F a xs) (g : FDs K F xs ds) : Fol K F (Itt K a) ds := fun H F' s1 s2 => by
  have hq := same_tup s2 (same_tup s1 h)
  have g' := g.mono s1
  refine ⟨fun i hi => ⟨xs, hq, by rw [g.length]; exact hi⟩, fun i d hd => ?_⟩
  obtain ⟨v, h1, h2⟩ := g'.get hd
  refine ⟨⟨xs, v, hq, h1⟩, fun x H' y => ?_⟩
  obtain ⟨rfl, y2⟩ := y
  have := y2 xs hq
  rw [h1] at this
  cases this
  exact .val h2
theorem fol_range {lo : Int} {n : Nat} : Fol K F (Itr lo n) ((List.range n).map fun (i : Nat) => .int (lo + i)) := fun H F' s1 s2 => by
  refine ⟨fun i hi => by rw [List.length_map, List.length_range] at hi; exact hi, fun i d hd => ?_⟩
  have hi : i < n := by
    have := (List.getElem?_eq_some_iff.mp hd).1
    rw [List.length_map, List.length_range] at this
    exact this
  have e : d = .int (lo + i) := by
    rw [List.getElem?_map, List.getElem?_range hi] at hd
    exact (Option.some.inj hd).symm
  subst e
  refine ⟨hi, fun x H' y => ?_⟩
  obtain ⟨rfl, rfl⟩ := y
  exact .val (.int _)
theorem fol_enum (h : SqL K F a xs) (g : FDs K F xs ds) : Fol K F (Ite K a) (enumD ds) := fun H F' s1 s2 => by
  have hq := s2.seq (s1.seq h)
  have g' := g.mono s1
  refine ⟨fun i hi => ⟨xs, hq, by rw [g.length]; unfold enumD at hi; rw [List.length_mapIdx] at hi; exact hi⟩, fun i d hd => ?_⟩
  unfold enumD at hd
  rw [List.getElem?_mapIdx] at hd
  obtain ⟨d0, hd0, rfl⟩ := Option.map_eq_some_iff.mp hd
  obtain ⟨v, h1, h2⟩ := g'.get hd0
  refine ⟨⟨xs, v, hq, h1⟩, fun x H' y => ?_⟩
  obtain ⟨T, z, rfl, hT, rfl, y2⟩ := y
  have := y2 xs hq
  rw [h1] at this
  cases this
  exact .tup hT (.cons (.int _) (.cons h2 .nil))
theorem fol_zipT (h1 : SqT K F a xs) (g1 : FDs K F xs ds) (h2 : SqT K F b ys) (g2 : FDs K F ys es) : Fol K F (RZ.ItzT K a b) (zipD ds es) := fun H F' s1 s2 => by
  have q1 := same_tup s2 (same_tup s1 h1)
  have q2 := same_tup s2 (same_tup s1 h2)
  have k1 := g1.mono s1
  have k2 := g2.mono s1
  refine ⟨fun i hi => ⟨xs, ys, q1, q2, ?_⟩, fun i d hd => ?_⟩
  · unfold zipD at hi
    rw [List.length_map, List.length_zip] at hi
    rw [g1.length, g2.length]
    omega
  · unfold zipD at hd
    rw [List.getElem?_map] at hd
    obtain ⟨⟨d1, d2⟩, hp, rfl⟩ := Option.map_eq_some_iff.mp hd
    obtain ⟨e1, e2⟩ := List.getElem?_zip_eq_some.mp hp
    obtain ⟨v, h3, h4⟩ := k1.get e1
    obtain ⟨w, h5, h6⟩ := k2.get e2
    refine ⟨⟨xs, ys, v, w, q1, q2, h3, h5⟩, fun x H' y => ?_⟩
    obtain ⟨T, z1, z2, rfl, hT, rfl, y1, y2⟩ := y
    have e3 := y1 xs q1
    have e4 := y2 ys q2
    rw [h3] at e3
    rw [h5] at e4
    cases e3
    cases e4
    exact .tup hT (.cons h4 (.cons h6 .nil))
theorem fol_zipL (h1 : SqL K F a xs) (g1 : FDs K F xs ds) (h2 : SqL K F b ys) (g2 : FDs K F ys es) : Fol K F (Itz K a b) (zipD ds es) := fun H F' s1 s2 => by
  have q1 := s2.seq (s1.seq h1)
  have q2 := s2.seq (s1.seq h2)
  have k1 := g1.mono s1
  have k2 := g2.mono s1
  refine ⟨fun i hi => ⟨xs, ys, q1, q2, ?_⟩, fun i d hd => ?_⟩
  · unfold zipD at hi
    rw [List.length_map, List.length_zip] at hi
    rw [g1.length, g2.length]
    omega
  · unfold zipD at hd
    rw [List.getElem?_map] at hd
    obtain ⟨⟨d1, d2⟩, hp, rfl⟩ := Option.map_eq_some_iff.mp hd
    obtain ⟨e1, e2⟩ := List.getElem?_zip_eq_some.mp hp
    obtain ⟨v, h3, h4⟩ := k1.get e1
    obtain ⟨w, h5, h6⟩ := k2.get e2
    refine ⟨⟨xs, ys, v, w, q1, q2, h3, h5⟩, fun x H' y => ?_⟩
    obtain ⟨T, z1, z2, rfl, hT, rfl, y1, y2⟩ := y
    have e3 := y1 xs q1
    have e4 := y2 ys q2
    rw [h3] at e3
    rw [h5] at e4
    cases e3
    cases e4
    exact .tup hT (.cons h4 (.cons h6 .nil))
theorem fol_revL (h : SqL K F a xs) (g : FDs K F xs ds) : Fol K F (Itv K a xs.length) ds.reverse := fun H F' s1 s2 => by
  have hq := s2.seq (s1.seq h)
  have g' := g.mono s1
  have W := walk_rev (K := K) (a := a) (xs := xs)
  refine ⟨fun i hi => ?_, fun i d hd => ?_⟩
  · rw [List.length_reverse, ← g.length] at hi
    exact hi
  · have hi : i < xs.length := by
      have := (List.getElem?_eq_some_iff.mp hd).1
      rw [List.length_reverse, ← g.length] at this
      exact this
    rw [List.getElem?_reverse (by rw [← g.length]; exact hi), ← g.length] at hd
    obtain ⟨v, h1, h2⟩ := g'.get hd
    refine ⟨W.goes i H hi hq, fun x H' y => ?_⟩
    obtain ⟨rfl, y2⟩ := W.yields i H x H' hi hq y
    rw [h1] at y2
    cases y2
    exact .val h2
theorem fol_revT (h : SqT K F a xs) (g : FDs K F xs ds) : Fol K F (RT.ItvT K a xs.length) ds.reverse := fun H F' s1 s2 => by
  have hq := same_tup s2 (same_tup s1 h)
  have g' := g.mono s1
  refine ⟨fun i hi => ?_, fun i d hd => ?_⟩
  · rw [List.length_reverse, ← g.length] at hi
    exact hi
  · have hi : i < xs.length := by
      have := (List.getElem?_eq_some_iff.mp hd).1
      rw [List.length_reverse, ← g.length] at this
      exact this
    rw [List.getElem?_reverse (by rw [← g.length]; exact hi), ← g.length] at hd
    obtain ⟨v, h1, h2⟩ := g'.get hd
    refine ⟨⟨hi, xs, v, hq, h1⟩, fun x H' y => ?_⟩
    obtain ⟨rfl, y2⟩ := y
    have := y2 xs hq
    rw [h1] at this
    cases this
    exact .val h2
end
section
variable {X : Cx} {tg a b : Expr} {m ma mb : M Rs} {p pos : Pos}
/-- over a list or a tuple -/
theorem pi_seq {tl : TE} (hl : PE X a tl) : PI X tg a (fun σ H R => tl σ H fun x H1 => ∃ q, x = .ref q ∧ (((∃ xs, SqL X.K H1 q xs) ∧ R (Itl X.K q) H1) ∨ ((∃ xs, SqT X.K H1 q xs) ∧ R (Itt X.K q) H1))) := by
  refine ⟨fun pins s σ H R I h => ?_⟩
  refine thn (hl.run pins s σ H _ I h) fun v s1 ⟨x, H1, I1, r1, q, e, q1⟩ => ?_
  subst e
  cases r1
  have fresh : ∀ b ∈ [s1.heap.objs.size], FpOk X pins H1 b := fun b hb => by
    have e : b = s1.heap.objs.size := by simpa using hb
    subst e
    exact I1.fpOk (Nat.le_refl _) (I1.hok.fresh (Nat.le_refl _))
  rcases q1 with ⟨⟨xs, hq⟩, k⟩ | ⟨⟨xs, hq⟩, k⟩
  · obtain ⟨its, rv, pl, hz⟩ := I1.list hq
    exact wpAny_pyIter_list pl.isList ⟨_, [s1.heap.objs.size], _, _, H1, rfl, I1.kept (t' := s1.toks) fun b o e => Heap.get?_push_of_some _ e, turn_list q _, ⟨_, Heap.get?_push_size _ rfl, rfl, rfl⟩, fresh, k⟩
  · obtain ⟨its, rv, pl, hz⟩ := I1.tuple hq
    exact wpAny_pyIter_tuple (show s1.heap.IsTuple q its.toArray from pl) ⟨_, [s1.heap.objs.size], _, _, H1, rfl, I1.kept (t' := s1.toks) fun b o e => Heap.get?_push_of_some _ e, turn_tuple q _, ⟨_, Heap.get?_push_size _ rfl, rfl, rfl⟩, fresh, k⟩
theorem si_seq (h : SE X a m) : SI X tg a (iSeq m) := PI_imp (pi_seq h) fun σ H R ⟨ι, α, T, e, its, e', L, em, k⟩ => by
  simp only [iSeq, Option.bind_eq_some_iff] at em
  obtain ⟨⟨r, e1⟩, h1, ⟨d, e2⟩, h2, its', h3, em⟩ := em
  cases em
  refine ⟨ι, α, T, e, r, e1, L, h1, fun α' ps H' v A => ?_⟩
  obtain ⟨β, L', S', f⟩ := fz_ok A.lr A.rv h2 A.st (Aft.apart L A)
  rcases gItems_iff h3 with z | z
  · subst z
    cases f with
    | lst hs gs => exact ⟨_, rfl, .inl ⟨⟨_, mask_sub.seq hs⟩, k β H' _ L' S' (fol_list hs gs)⟩⟩
  · subst z
    cases f with
    | tup hs gs => exact ⟨_, rfl, .inr ⟨⟨_, same_tup mask_sub hs⟩, k β H' _ L' S' (fol_tup hs gs)⟩⟩
theorem gInt_run {K : PySem.W.Frag} {ι : Nat → Option V} {α : Nat → List Addr} {T : List Addr} {e e1 : Lo} {σ : St} {H : Hp} {r : Rs} {n : Int} {G : V → Hp → Prop} (L : LR K ι α T e σ H) (h1 : m e = some (r, e1)) (h2 : gInt r = some n)
    (k : ∀ α' H', LR K ι α' T e1 σ H' → Stp α T H α' T H' → G (.int n) H') : tE K m σ H G := by
  refine ⟨ι, α, T, e, r, e1, L, h1, fun α' ps H' v A => ?_⟩
  have z := gInt_iff h2
  subst z
  obtain ⟨rfl, g⟩ := A.rv
  cases g
  exact k α' H' A.lr A.st
theorem si_rng (hg : Gl X "range") (hm : X.mg "range" = none) (h : SE X a m) (hs : starEach [a] X.env = [(false, eval a X.env)] := by rfl) (he : starEach [a] X.env = (false, eval a X.env) :: starEach [] X.env := by rfl) :
    SI X tg (.Call (.Name "range" p) [a] [] pos) (iRng m) := PI_imp (pi_range1 hg hm (pa_cons h pa_nil he) hs) fun σ H R ⟨ι, α, T, e, its, e', L, em, k⟩ => by
  simp only [iRng, Option.bind_eq_some_iff] at em
  obtain ⟨⟨r, e1⟩, h1, n, h2, em⟩ := em
  split at em
  · rename_i hz
    cases em
    show tE X.K m σ H fun x H1 => ∃ j : Int, [x] = [V.int j] ∧ -(2 ^ 62) ≤ j ∧ j < 2 ^ 62 ∧ R (Itr 0 j.toNat) H1
    refine gInt_run L h1 h2 fun α' H' L' S => ⟨n, rfl, ?_, ?_, k α' H' _ L' S ?_⟩
    · have := hz.2
      omega
    · have := hz.1
      unfold lim at this
      omega
    · have f := fol_range (K := X.K) (F := mask H' α' T) (lo := 0) (n := n.toNat)
      have e : ((List.range n.toNat).map fun (i : Nat) => PyData.int (0 + i)) = (List.range n.toNat).map fun (i : Nat) => PyData.int i := List.map_congr_left fun i _ => by rw [Int.zero_add]
      rw [e] at f
      exact f
  · cases em
theorem si_rng2 (hg : Gl X "range") (hm : X.mg "range" = none) (ha : SE X a ma) (hb : SE X b mb) (hs : starEach [a, b] X.env = [(false, eval a X.env), (false, eval b X.env)] := by rfl) (hs2 : starEach [b] X.env = [(false, eval b X.env)] := by rfl)
    (he : starEach [a, b] X.env = (false, eval a X.env) :: starEach [b] X.env := by rfl) (he2 : starEach [b] X.env = (false, eval b X.env) :: starEach [] X.env := by rfl) :
    SI X tg (.Call (.Name "range" p) [a, b] [] pos) (iRng2 ma mb) := PI_imp (pi_range2 hg hm (pa_cons ha (pa_cons hb pa_nil he2) he) hs hs2) fun σ H R ⟨ι, α, T, e, its, e', L, em, k⟩ => by
  simp only [iRng2, Option.bind_eq_some_iff] at em
  obtain ⟨⟨r, e1⟩, h1, ⟨r2, e2⟩, h3, i, h2, j, h4, em⟩ := em
  split at em
  · rename_i hz
    cases em
    show tE X.K ma σ H fun x H1 => tE X.K mb σ H1 fun y H2 => ∃ i j : Int, [x, y] = [V.int i, V.int j] ∧ (-(2 ^ 62) ≤ i ∧ i < 2 ^ 62 ∧ -(2 ^ 62) ≤ j ∧ j < 2 ^ 62) ∧ R (Itr i (j - i).toNat) H2
    refine gInt_run L h1 h2 fun α1 H1 L1 S1 => gInt_run L1 h3 h4 fun α' H' L' S => ⟨i, j, rfl, ?_, k α' H' _ L' (S1.trans S fun _ z => z) fol_range⟩
    unfold lim at hz
    omega
  · cases em
theorem si_rev (hg : Gl X "reversed") (hm : X.mg "reversed" = none) (h : SE X a m) (hs : starEach [a] X.env = (false, eval a X.env) :: starEach [] X.env := by rfl) : SI X tg (.Call (.Name "reversed" p) [a] [] pos) (iRevS m) :=
  PI_imp (RT.pi_revA hg hm h hs) fun σ H R ⟨ι, α, T, e, its, e', L, em, k⟩ => by
    simp only [iRevS, Option.bind_eq_some_iff] at em
    obtain ⟨⟨r, e1⟩, h1, ⟨d, e2⟩, h2, its', h3, em⟩ := em
    cases em
    refine ⟨ι, α, T, e, r, e1, L, h1, fun α' ps H' v A => ?_⟩
    obtain ⟨β, L', S', f⟩ := fz_ok A.lr A.rv h2 A.st (Aft.apart L A)
    rcases gItems_iff h3 with z | z
    · subst z
      cases f with
      | lst hs gs => exact ⟨_, _, rfl, .inl ⟨mask_sub.seq hs, k β H' _ L' S' (fol_revL hs gs)⟩⟩
    · subst z
      cases f with
      | tup hs gs => exact ⟨_, _, rfl, .inr ⟨same_tup mask_sub hs, k β H' _ L' S' (fol_revT hs gs)⟩⟩
end

/-! ### for, while -/
def forL (g : MG) (b : MS) : List PyData → Lo → Option Out
  | [], e => some (.nx e)
  | d :: ds, e => (g d e).bind fun e1 => (b e1).bind fun o => match o with
    | .nx e2 => forL g b ds e2
    | .ct e2 => forL g b ds e2
    | .bk e2 => some (.nx e2)
    | .rt r e2 => some (.rt r e2)
def sFor (mi : MI) (g : MG) (b : MS) : MS := fun e => (mi e).bind fun p => forL g b p.1 p.2
def whL (t : M Bool) (b : MS) : Nat → Lo → Option Out
  | 0, _ => none
  | n + 1, e => (t e).bind fun p => if p.1 = true then (b p.2).bind fun o => match o with
      | .nx e2 => whL t b n e2
      | .ct e2 => whL t b n e2
      | .bk e2 => some (.nx e2)
      | .rt r e2 => some (.rt r e2)
    else some (.nx p.2)
def sWhile (n : Nat) (t : M Bool) (b : MS) : MS := fun e => whL t b n e
section
variable {X : Cx} {tg it c : Expr} {W : List Nat} {body : List Stmt} {mi : MI} {g : MG} {b : MS} {t : M Bool} {pos : Pos}
theorem Res.lr {K : PySem.W.Frag} {ι : Nat → Option V} {α : Nat → List Addr} {T : List Addr} {e : Lo} {σ : St} {H H' : Hp} {d : PyData} {x : V} (L : LR K ι α T e σ H) (q : Res K H (mask H α T) (.val d) [] H' x) :
    LR K ι α T e σ H' ∧ Stp α T H α T H' ∧ FD K (mask H' α T) x d := by
  have A := Aft.of_res L Stp.refl q
  exact ⟨A.lr, A.st, A.rv.2⟩
theorem s_for (hp : PassesOwn (model X.prog X.w) X.A X.env X.xe) (hc : X.calm = true) (hi : SI X tg it mi) (hg : SG X tg W g) (hb : SSs X body b) (hs : ∀ x, foldedSetIterable it X.env x = pure x := by intro _; rfl) :
    SS X (.For tg it body [] pos) (sFor mi g b) := PS_imp (ps_for hp hc hi hg hb hs) fun D σ H ⟨ι, α, T, e, o, L, em, k⟩ => by
  obtain ⟨⟨its, e1⟩, h1, em⟩ := Option.bind_eq_some_iff.mp em
  refine ⟨ι, α, T, e, its, e1, L, h1, fun α0 H0 J L0 S0 fol => ?_⟩
  refine ⟨fun i m σ' H' => ∃ α' e', m = its.length - i ∧ LR X.K ι α' T e' σ' H' ∧ Stp α T H α' T H' ∧ Same (mask H0 α0 T) (mask H' α' T) ∧ forL g b (its.drop i) e' = some o, ⟨_, α0, e1, rfl, L0, S0, fun _ _ z => z, em⟩, ?_⟩
  rintro i m σ' H' ⟨α', e', rfl, L', S', sm, run⟩
  obtain ⟨fs, fg⟩ := fol H' (mask H' α' T) sm mask_sub
  by_cases hi : i < its.length
  · refine .inr ?_
    have hd : its[i]? = some its[i] := List.getElem?_eq_getElem hi
    obtain ⟨go, yl⟩ := fg i its[i] hd
    have e2 : its.drop i = its[i] :: its.drop (i + 1) := (List.getElem_cons_drop hi).symm
    rw [e2] at run
    simp only [forL, Option.bind_eq_some_iff] at run
    obtain ⟨e3, h3, o1, h4, run⟩ := run
    refine ⟨go, fun σ2 H2 => ∃ α2 e2, LR X.K ι α2 T e2 σ2 H2 ∧ Stp α T H α2 T H2 ∧ Same (mask H0 α0 T) (mask H2 α2 T) ∧ forL g b (its.drop (i + 1)) e2 = some o, fun σ2 H2 ⟨α2, e2, q1, q2, q3, q4⟩ => ⟨its.length - (i + 1), by omega, α2, e2, rfl, q1, q2, q3, q4⟩, fun x H1 y => ?_⟩
    obtain ⟨L1, S1, f1⟩ := Res.lr L' (yl x H1 y)
    refine ⟨ι, α', T, e', its[i], e3, L1, f1, h3, fun α2 σ2 L2' S2 _ => ⟨ι, α2, T, e3, o1, L2', h4, ?_⟩⟩
    have S12 := S1.trans S2 fun _ z => z
    have SS := S'.trans S12 fun _ z => z
    cases o1 with
    | nx e4 => exact fun α4 σ4 H4 L4 S4 => ⟨α4, e4, L4, SS.trans S4 fun _ z => z, (sm.trans S12.vis).trans S4.vis, run⟩
    | ct e4 => exact fun α4 σ4 H4 L4 S4 => ⟨α4, e4, L4, SS.trans S4 fun _ z => z, (sm.trans S12.vis).trans S4.vis, run⟩
    | bk e4 =>
      cases run
      exact fun α4 σ4 H4 L4 S4 => k α4 σ4 H4 L4 (SS.trans S4 fun _ z => z)
    | rt r e4 =>
      cases run
      exact k.after SS
  · refine .inl ⟨fs i (by omega), ?_⟩
    rw [List.drop_eq_nil_of_le (by omega)] at run
    cases run
    exact k α' σ' H' L' S'
theorem s_while (n : Nat) (hp : PassesOwn (model X.prog X.w) X.A X.env X.xe) (hc : ST X c t) (hb : SSs X body b) : SS X (.While c body [] pos) (sWhile n t b) := PS_imp (ps_while hp hc hb) fun D σ H ⟨ι, α, T, e, o, L, em, k⟩ => by
  refine ⟨fun m σ' H' => ∃ α' e', LR X.K ι α' T e' σ' H' ∧ Stp α T H α' T H' ∧ whL t b m e' = some o, ⟨n, α, e, L, Stp.refl, em⟩, ?_⟩
  rintro m σ' H' ⟨α', e', L', S', run⟩
  cases m with
  | zero => cases run
  | succ m =>
    obtain ⟨⟨c, e1⟩, h1, run⟩ := Option.bind_eq_some_iff.mp run
    refine ⟨ι, α', T, e', c, e1, L', h1, fun α1 H1 L1 S1 => ?_⟩
    have SS1 := S'.trans S1 fun _ z => z
    cases c with
    | false =>
      cases run
      exact iteF (k α1 σ' H1 L1 SS1)
    | true =>
      obtain ⟨o1, h2, run⟩ := Option.bind_eq_some_iff.mp run
      refine iteT ⟨fun σ2 H2 => ∃ α2 e2, LR X.K ι α2 T e2 σ2 H2 ∧ Stp α T H α2 T H2 ∧ whL t b m e2 = some o, fun σ2 H2 q => ⟨m, by omega, q⟩, ι, α1, T, e1, o1, L1, h2, ?_⟩
      cases o1 with
      | nx e4 => exact fun α4 σ4 H4 L4 S4 => ⟨α4, e4, L4, SS1.trans S4 fun _ z => z, run⟩
      | ct e4 => exact fun α4 σ4 H4 L4 S4 => ⟨α4, e4, L4, SS1.trans S4 fun _ z => z, run⟩
      | bk e4 =>
        cases run
        exact fun α4 σ4 H4 L4 S4 => k α4 σ4 H4 L4 (SS1.trans S4 fun _ z => z)
      | rt r e4 =>
        cases run
        exact k.after SS1
end
end Gx
/-! G6: comprehensions, repr, what a def's body promises. -/
namespace Gx
open PySem L2

/-! ### comprehensions -/
@[simp] def wipeE (e : Lo) : List Nat → Lo
  | [] => e
  | v :: vs => (wipeE e vs).set v .un
def compL (g : MG) (t : M Bool) (m : M Rs) (vs : List Nat) : List PyData → Lo → List PyData → Option (List PyData × Lo)
  | [], e, acc => some (acc, e)
  | d :: ds, e, acc => (g d e).bind fun e1 => (t e1).bind fun p => if p.1 = true then (m p.2).bind fun q => (fz q.2 q.1).bind fun w => if acc.length < lim ∧ vs.all (free? w.2) = true then compL g t m vs ds (wipeE w.2 vs) (acc ++ [w.1]) else none
      else if vs.all (free? p.2) = true then compL g t m vs ds (wipeE p.2 vs) acc else none
def mComp (mi : MI) (g : MG) (t : M Bool) (m : M Rs) (vs : List Nat) : M Rs := fun e => (mi e).bind fun p => if vs.all (free? p.2) = true then (compL g t m vs p.1 (wipeE p.2 vs) []).bind fun q => some (.new (.lst q.1), wipeE q.2 vs) else none
def tYesM : M Bool := fun e => some (true, e)
section
variable {K : PySem.W.Frag} {ι : Nat → Option V} {α α1 α2 : Nat → List Addr} {T T1 T2 ps qs : List Addr} {e e1 e2 : Lo} {σ σ' : St} {H H1 H2 H' : Hp} {r r1 r2 : Rs} {v x : V} {o : Ob} {i j : Nat} {b : Bool}
theorem wipeE_length : ∀ vs : List Nat, (wipeE e vs).length = e.length
  | [] => rfl
  | v :: vs => by unfold wipeE; rw [List.length_set, wipeE_length vs]
theorem wipeE_at : ∀ {vs : List Nat} {j : Nat} {sv : SV}, (wipeE e vs)[j]? = some sv → (j ∈ vs ∧ sv = .un) ∨ (j ∉ vs ∧ e[j]? = some sv)
  | [], j, sv, h => .inr ⟨by simp, h⟩
  | v :: vs, j, sv, h => by
    unfold wipeE at h
    by_cases z : j = v
    · subst z
      rw [List.getElem?_set] at h
      simp only [if_true] at h
      split at h
      · cases h
        exact .inl ⟨List.mem_cons_self .., rfl⟩
      · cases h
    · rw [List.getElem?_set_ne (Ne.symm z)] at h
      rcases wipeE_at h with ⟨h1, h2⟩ | ⟨h1, h2⟩
      · exact .inl ⟨List.mem_cons_of_mem _ h1, h2⟩
      · exact .inr ⟨fun q => (List.mem_cons.mp q).elim z h1, h2⟩
theorem wipe_at : ∀ {vs : List Nat} {j : Nat}, j ∉ vs → (wipe σ vs)[j]? = σ[j]?
  | [], j, _ => rfl
  | v :: vs, j, h => by
    unfold wipe
    rw [List.getElem?_set_ne (fun z => h (by rw [← z]; exact List.mem_cons_self ..)), wipe_at fun q => h (List.mem_cons_of_mem _ q)]
theorem wipe_same : ∀ {vs : List Nat}, σ'.length = σ.length → (∀ j, j ∉ vs → σ'[j]? = σ[j]?) → wipe σ' vs = wipe σ vs := fun {vs} hl h => by
  apply List.ext_getElem?
  intro j
  by_cases hj : j ∈ vs
  · have get : ∀ (τ : St) (us : List Nat), j ∈ us → (wipe τ us)[j]? = if j < τ.length then some none else none := by
      intro τ us
      induction us with
      | nil => intro q; cases q
      | cons u us ih =>
        intro q
        unfold wipe
        rw [List.getElem?_set]
        by_cases z : u = j
        · rw [if_pos z, wipe_length, z]
        · rw [if_neg z]
          exact ih ((List.mem_cons.mp q).elim (fun w => absurd w.symm z) fun w => w)
    rw [get _ _ hj, get _ _ hj, hl]
  · rw [wipe_at hj, wipe_at hj]
    exact h j hj
def offs (α : Nat → List Addr) (vs : List Nat) : Nat → List Addr := fun j => if j ∈ vs then [] else α j
theorem offs_sub {vs : List Nat} {p : Addr} (h : p ∈ offs α vs j) : p ∈ α j := by
  unfold offs at h
  split at h
  · cases h
  · exact h
theorem mask_offs {vs : List Nat} : Same (mask H α T) (mask H (offs α vs) T) := mask_mono (fun j p h => .inl ⟨j, offs_sub h⟩) fun p h => .inr h
theorem Stp.offs {vs : List Nat} (s : Stp α T H α1 T1 H1) : Stp α T H (Gx.offs α1 vs) T1 H1 := ⟨s.vis.trans mask_offs, fun j p h => s.own j p (offs_sub h), s.held, s.non⟩
/-- the slots vs are forgotten; what σ' says there is free -/
theorem LR.wiped (L : LR K ι α T e σ H) {vs : List Nat} (hl : σ'.length = σ.length) (h : ∀ j, j ∉ vs → σ'[j]? = σ[j]?) : LR K ι (Gx.offs α vs) T (wipeE e vs) σ' H where
  len := by rw [wipeE_length, hl]; exact L.len
  dis := fun j k p h1 h2 => L.dis j k p (offs_sub h1) (offs_sub h2)
  out := fun j hj => by
    unfold Gx.offs
    split
    · rfl
    · exact L.out j (by rw [wipeE_length] at hj; exact hj)
  hT := fun j p h1 => L.hT j p (offs_sub h1)
  tT := L.tT
  slot := fun j sv hs => by
    rcases wipeE_at hs with ⟨h1, rfl⟩ | ⟨h1, h2⟩
    · show Gx.offs α vs j = []
      unfold Gx.offs
      rw [if_pos h1]
    · have z : Gx.offs α vs j = α j := by unfold Gx.offs; rw [if_neg h1]
      have z2 : σ'.getD j none = σ.getD j none := by rw [List.getD_eq_getElem?_getD, List.getD_eq_getElem?_getD, h j h1]
      rw [z, z2]
      exact (L.slot j sv h2).stay mask_offs fun _ _ => rfl
theorem LR.heldUpd {D : Addr} {u : HO} (L : LR K ι α (D :: T) e σ H) : LR K ι α (D :: T) e σ (upd H D u) ∧ mask (upd H D u) α (D :: T) = mask H α (D :: T) := by
  have em : mask (upd H D u) α (D :: T) = mask H α (D :: T) := by
    funext q
    unfold mask
    split
    · rfl
    · rename_i hq
      exact upd_ne fun z => hq (.inr (by rw [z]; exact List.mem_cons_self ..))
  refine ⟨⟨L.len, L.dis, L.out, L.hT, fun q hq => ?_, fun j sv hs => ?_⟩, em⟩
  · by_cases z : q = D
    · rw [z, upd_same]
      exact fun z => nomatch z
    · rw [upd_ne z]
      exact L.tT q hq
  · rw [em]
    exact (L.slot j sv hs).stay (fun _ _ z => z) fun q hq => upd_ne fun z => L.hT j q hq (by rw [z]; exact List.mem_cons_self ..)
theorem tLc_imp {mi : MI} {g : MG} {t : M Bool} {m : M Rs} {W vs : List Nat} {Q : VK} (hW : ∀ w ∈ W, w ∈ vs) (h : tE K (mComp mi g t m vs) σ H Q) : tLc (tIt K mi) (tGd K W g) (tT K t) (tE K m) vs σ H Q := by
  obtain ⟨ι, α, T, e, r, e', L, em, k⟩ := h
  obtain ⟨⟨its, e1⟩, h1, em⟩ := Option.bind_eq_some_iff.mp em
  simp only at em
  split at em
  · obtain ⟨⟨out, e2⟩, h2, em⟩ := Option.bind_eq_some_iff.mp em
    cases em
    refine ⟨ι, α, T, e, its, e1, L, h1, fun α0 H0 J L0 S0 fol D hD => ?_⟩
    have wl : (wipe σ vs).length = σ.length := wipe_length σ vs
    have L1 : LR K ι (offs α0 vs) T (wipeE e1 vs) (wipe σ vs) H0 := L0.wiped wl fun j hj => wipe_at hj
    have hp : ∀ q ∈ [D], q = D := by simp
    have LD : LR K ι (offs α0 vs) (D :: T) (wipeE e1 vs) (wipe σ vs) (upd H0 D (.lst [])) := L1.laid (ps := [D]) hD hp
    have S1 : Stp α T H (offs α0 vs) T H0 := S0.offs
    have SD : Stp α T H (offs α0 vs) (D :: T) (upd H0 D (.lst [])) := S1.trans (Stp.laid (ps := [D]) hD L1.tT hp) fun _ z => z
    have visD : Same (mask H0 α0 T) (mask (upd H0 D (.lst [])) (offs α0 vs) (D :: T)) := mask_offs.trans (mask_upd (ps := [D]) hD hp)
    refine ⟨fun i m' H' => ∃ α' e' acc va, m' = its.length - i ∧ LR K ι α' (D :: T) e' (wipe σ vs) H' ∧ Stp α T H α' (D :: T) H' ∧ H' D = some (.lst va) ∧ FDs K (mask H' α' (D :: T)) va acc ∧ Same (mask H0 α0 T) (mask H' α' (D :: T)) ∧
        compL g t m vs (its.drop i) e' acc = some (out, e2), ⟨_, _, _, [], [], rfl, LD, SD, upd_same, .nil, visD, h2⟩, ?_⟩
    rintro i m' H' ⟨α', e', acc, va, rfl, L', S', hva, gva, sm, run⟩
    obtain ⟨fs, fg⟩ := fol H' (mask H' α' (D :: T)) sm mask_sub
    by_cases hi : i < its.length
    · refine .inr ?_
      have hd : its[i]? = some its[i] := List.getElem?_eq_getElem hi
      obtain ⟨go, yl⟩ := fg i its[i] hd
      have ed : its.drop i = its[i] :: its.drop (i + 1) := (List.getElem_cons_drop hi).symm
      rw [ed] at run
      simp only [compL, Option.bind_eq_some_iff] at run
      obtain ⟨e3, h3, ⟨b, e4⟩, h4, run⟩ := run
      refine ⟨go, fun H2 => ∃ α2 e2' acc2 va2, LR K ι α2 (D :: T) e2' (wipe σ vs) H2 ∧ Stp α T H α2 (D :: T) H2 ∧ H2 D = some (.lst va2) ∧ FDs K (mask H2 α2 (D :: T)) va2 acc2 ∧ Same (mask H0 α0 T) (mask H2 α2 (D :: T)) ∧
        compL g t m vs (its.drop (i + 1)) e2' acc2 = some (out, e2), fun H2 ⟨α2, e2', acc2, va2, q1, q2, q3, q4, q5, q6⟩ => ⟨its.length - (i + 1), by omega, α2, e2', acc2, va2, rfl, q1, q2, q3, q4, q5, q6⟩, fun x H1 y => ?_⟩
      obtain ⟨L1', S1', f1⟩ := Res.lr L' (yl x H1 y)
      refine ⟨ι, α', D :: T, e', its[i], e3, L1', f1, h3, fun α3 σ3 L3 S3 A3 => ?_⟩
      have A3' : ∀ j, j ∉ vs → σ3[j]? = (wipe σ vs)[j]? := fun j hj => A3.2 j fun z => hj (hW j z)
      have ww : wipe σ3 vs = wipe σ vs := (wipe_same A3.1 A3').trans (wipe_same wl fun j hj => wipe_at hj)
      refine ⟨ww, ι, α3, D :: T, e3, b, e4, L3, h4, fun α4 H4 L4 S4 => ?_⟩
      have S14 := (S1'.trans S3 fun _ z => z).trans S4 fun _ z => z
      have hD4 : H4 D = some (.lst va) := (S14.held D (List.mem_cons_self ..)).trans hva
      have wl3 : (wipe σ vs).length = σ3.length := A3.1.symm
      have sameT : ∀ p ∈ T, p ∈ D :: T := fun p hp => List.mem_cons_of_mem _ hp
      cases b with
      | true =>
        simp only [if_true, Option.bind_eq_some_iff] at run
        obtain ⟨⟨r5, e5⟩, h5, ⟨d6, e6⟩, h6, run⟩ := run
        split at run
        · rename_i hz
          refine iteT ⟨ι, α4, D :: T, e4, r5, e5, L4, h5, fun α5 ps H5 y A5 => ?_⟩
          obtain ⟨α6, L6, S6, f6⟩ := fz_ok A5.lr A5.rv h6 A5.st (Aft.apart L4 A5)
          have hD6 : H5 D = some (.lst va) := (S6.held D (List.mem_cons_self ..)).trans hD4
          have S16 := S14.trans S6 fun _ z => z
          have L7 := L6.wiped (σ' := wipe σ vs) wl3 fun j hj => (A3' j hj).symm
          obtain ⟨L8, em8⟩ := L7.heldUpd (u := .lst (va ++ [y]))
          have m78 : Same (mask H5 α6 (D :: T)) (mask (upd H5 D (.lst (va ++ [y]))) (offs α6 vs) (D :: T)) := by
            rw [em8]
            exact mask_offs
          have gv2 := gva.mono S16.vis
          have S18 : Stp α T H (offs α6 vs) (D :: T) (upd H5 D (.lst (va ++ [y]))) := by
            have q := (S'.trans S16 sameT)
            exact ⟨q.vis.trans m78, fun j p hp => q.own j p (offs_sub hp), fun p hp => by
              have ne : p ≠ D := fun z => by
                have t1 := L.tT p hp
                rw [z] at t1
                exact t1 (S0.non D hD)
              rw [upd_ne ne]
              exact q.held p hp, fun p hp => by
              by_cases z : p = D
              · rw [z, upd_same] at hp
                cases hp
              · rw [upd_ne z] at hp
                exact q.non p hp⟩
          refine ⟨va, hD6, by rw [gva.length]; exact lim_lt (Nat.le_of_lt hz.1), offs α6 vs, wipeE e6 vs, acc ++ [d6], va ++ [y], L8, S18, upd_same, (gv2.append (.cons f6 .nil)).mono m78, (sm.trans S16.vis).trans m78, run⟩
        · cases run
      | false =>
        simp only [Bool.false_eq_true, if_false] at run
        split at run
        · refine iteF ⟨offs α4 vs, wipeE e4 vs, acc, va, L4.wiped wl3 fun j hj => (A3' j hj).symm, (S'.trans S14 sameT).offs, hD4, (gva.mono S14.vis).mono mask_offs, (sm.trans S14.vis).trans mask_offs, run⟩
        · cases run
    · refine .inl ⟨fs i (by omega), ?_⟩
      rw [List.drop_eq_nil_of_le (by omega)] at run
      cases run
      have hn : H D = none := S0.non D hD
      have L9 : LR K ι (offs α' vs) (D :: T) (wipeE e2 vs) σ H' := L'.wiped wl.symm fun j hj => (wipe_at hj).symm
      exact k (offs α' vs) [D] H' (.ref D) ⟨L9, S'.offs, fun p hq => by rw [hp p hq]; exact hn, .lst hva (gva.mono mask_offs)⟩
  · cases em
end
section
variable {X : Cx} {elt tg iter c : Expr} {ifs : List Expr} {scope : Scope} {own : List (Str × Nat)} {pos : Pos} {mi : MI} {g : MG} {t : M Bool} {m : M Rs} {W : List Nat}
theorem PTs_imp {t t' : TT} (h : PTs X ifs t) (hi : ∀ σ H Q, t' σ H Q → t σ H Q) : PTs X ifs t' := ⟨fun pins s σ H Q I q => h.run pins s σ H Q I (hi σ H Q q)⟩
theorem sts_nil : PTs X [] (tT X.K tYesM) := PTs_imp pts_nil fun σ H Q ⟨ι, α, T, e, b, e', L, em, k⟩ => by
  cases em
  exact k α H L Stp.refl
theorem sts_one (h : ST X c t) : PTs X [c] (tT X.K t) := pts_one h
theorem se_lc (hc : X.calm = true) (hN : X.N.Nodup) (hi : SI X tg iter mi) (ok : BlkOk X.N X.env.scope scope own) (hW : ∀ w ∈ W, w ∈ own.map (·.2))
    (hg : ∀ (s : Shared) (H : Hp) (C : Addr) (cl : List (Str × Addr)) (fp : List Addr), SG (X.blk s H scope (compEnvC scope cl C X.env) fp) tg W g)
    (ht : ∀ (s : Shared) (H : Hp) (C : Addr) (cl : List (Str × Addr)) (fp : List Addr), PTs (X.blk s H scope (compEnvC scope cl C X.env) fp) ifs (tT X.K t))
    (he : ∀ (s : Shared) (H : Hp) (C : Addr) (cl : List (Str × Addr)) (fp : List Addr), SE (X.blk s H scope (compEnvC scope cl C X.env) fp) elt m) (hs : ∀ x, foldedSetIterable iter X.env x = pure x := by intro _; rfl) :
    SE X (.ListComp elt [⟨tg, iter, ifs, 0⟩] scope pos) (mComp mi g t m (own.map (·.2))) := PE_imp (pe_lc hc hN hi ok hg ht he hs) fun σ H Q h => tLc_imp hW h
theorem s_setLc {y : Str} {py spos : Pos} (i : Nat) (hc : X.calm = true) (hN : X.N.Nodup) (hi : SI X tg iter mi) (ok : BlkOk X.N X.env.scope scope own) (hW : ∀ w ∈ W, w ∈ own.map (·.2))
    (hg : ∀ (s : Shared) (H : Hp) (C : Addr) (cl : List (Str × Addr)) (fp : List Addr), SG (X.blk s H scope (compEnvC scope cl C X.env) fp) tg W g)
    (ht : ∀ (s : Shared) (H : Hp) (C : Addr) (cl : List (Str × Addr)) (fp : List Addr), PTs (X.blk s H scope (compEnvC scope cl C X.env) fp) ifs (tT X.K t))
    (he : ∀ (s : Shared) (H : Hp) (C : Addr) (cl : List (Str × Addr)) (fp : List Addr), SE (X.blk s H scope (compEnvC scope cl C X.env) fp) elt m)
    (hsw : swapsWith (.ListComp elt [⟨tg, iter, ifs, 0⟩] scope pos) (some (.Name y py)) spos.line X.env = pure true) (hy : X.N[i]? = some y := by rfl) (hyl : X.env.scope.names.lookup y = some .local := by rfl)
    (hs : ∀ x, foldedSetIterable iter X.env x = pure x := by intro _; rfl) :
    SS X (.Assign [.Name y py] (.ListComp elt [⟨tg, iter, ifs, 0⟩] scope pos) spos) (sSet i (mComp mi g t m (own.map (·.2)))) :=
  PS_imp (ps_setLc hc hN hy hyl hsw hi ok hg ht he hs) fun D σ H h => tLc_imp hW (tSet_imp h)
end

/-! ### zip, enumerate -/
def iZip (ma mb : M Rs) : MI := fun e => (ma e).bind fun p => (fz p.2 p.1).bind fun p' => (mb p'.2).bind fun q => (fz q.2 q.1).bind fun q' => match p'.1, q'.1 with
  | .tuple xs, .tuple ys => some (zipD xs ys, q'.2)
  | .list xs, .list ys => some (zipD xs ys, q'.2)
  | _, _ => none
def iEnumL (m : M Rs) : MI := fun e => (m e).bind fun p => (fz p.2 p.1).bind fun q => (gList q.1).bind fun its => some (enumD its, q.2)
section
variable {X : Cx} {a b : Expr} {elts : List Expr} {kk : Nat} {m ma mb : M Rs} {p pos tpos : Pos}
theorem si_zip (hg : Gl X "zip") (hm : X.mg "zip" = none) (ha : SE X a ma) (hb : SE X b mb) (h1 : starEach [a, b] X.env = (false, eval a X.env) :: starEach [b] X.env := by rfl) (h2 : starEach [b] X.env = (false, eval b X.env) :: starEach [] X.env := by rfl)
    (h : ∀ ta : TA, PA X [a, b] ta → PI X (.Tuple elts kk tpos) (.Call (.Name "zip" p) [a, b] [] pos) (RZ.iZipA X.K ta) := by exact fun ta ha => RZ.pi_zipA hg hm ha) : SI X (.Tuple elts kk tpos) (.Call (.Name "zip" p) [a, b] [] pos) (iZip ma mb) :=
  PI_imp (h _ (pa_cons ha (pa_cons hb pa_nil h2) h1)) fun σ H R ⟨ι, α, T, e, its, e', L, em, k⟩ => by
    simp only [iZip, Option.bind_eq_some_iff] at em
    obtain ⟨⟨r, e1⟩, h1, ⟨d, e2⟩, h2, ⟨r3, e3⟩, h3, ⟨d4, e4⟩, h4, em⟩ := em
    refine ⟨ι, α, T, e, r, e1, L, h1, fun α1 ps H1 x A1 => ?_⟩
    obtain ⟨β1, L1, S1, f1⟩ := fz_ok A1.lr A1.rv h2 A1.st (Aft.apart L A1)
    refine ⟨ι, β1, T, e2, r3, e3, L1, h3, fun α2 qs H2 y A2 => ?_⟩
    obtain ⟨β2, L2', S2, f2⟩ := fz_ok A2.lr A2.rv h4 A2.st (Aft.apart L1 A2)
    have f1' := f1.mono S2.vis
    simp only at em
    split at em
    · cases em
      cases f1' with
      | tup hs gs =>
        cases f2 with
        | tup hs2 gs2 => exact ⟨_, _, _, _, rfl, .inr ⟨same_tup mask_sub hs, same_tup mask_sub hs2, k β2 H2 _ L2' (S1.trans S2 fun _ z => z) (fol_zipT hs gs hs2 gs2)⟩⟩
    · cases em
      cases f1' with
      | lst hs gs =>
        cases f2 with
        | lst hs2 gs2 => exact ⟨_, _, _, _, rfl, .inl ⟨mask_sub.seq hs, mask_sub.seq hs2, k β2 H2 _ L2' (S1.trans S2 fun _ z => z) (fol_zipL hs gs hs2 gs2)⟩⟩
    · cases em
theorem si_enumL (hg : Gl X "enumerate") (hm : X.mg "enumerate" = none) (h : SE X a m) (hs : starEach [a] X.env = [(false, eval a X.env)] := by rfl) (he : starEach [a] X.env = (false, eval a X.env) :: starEach [] X.env := by rfl) :
    SI X (.Tuple elts kk tpos) (.Call (.Name "enumerate" p) [a] [] pos) (iEnumL m) := PI_imp (pi_enum hg hm (pa_cons h pa_nil he) hs) fun σ H R ⟨ι, α, T, e, its, e', L, em, k⟩ => by
  simp only [iEnumL, Option.bind_eq_some_iff] at em
  obtain ⟨⟨r, e1⟩, h1, ⟨d, e2⟩, h2, its', h3, em⟩ := em
  cases em
  show tE X.K m σ H fun x H1 => ∃ a xs, [x] = [V.ref a] ∧ SqL X.K H1 a xs ∧ R (Ite X.K a) H1
  refine ⟨ι, α, T, e, r, e1, L, h1, fun α' ps H' v A => ?_⟩
  obtain ⟨β, L', S', f⟩ := fz_ok A.lr A.rv h2 A.st (Aft.apart L A)
  have z := gList_iff h3
  subst z
  cases f with
  | lst hs gs => exact ⟨_, _, rfl, mask_sub.seq hs, k β H' _ L' S' (fol_enum hs gs)⟩
end

/-! ### list(range(..)) -/
def mLrg (mi : MI) : M Rs := fun e => (mi e).bind fun p => if p.1.length ≤ lim then some (.new (.lst p.1), p.2) else none

/-! ### repr -/
def okShow (d : PyData) : Bool := d.showable && !d.hasDict && decide (d.depth ≤ 64) && decide (d.shown.length ≤ lim)
def fRepr (d : PyData) : Option Rs := if okShow d = true then some (.val (.str d.shown)) else none
def rRepr (K : PySem.W.Frag) : List V → Hp → VK → Prop := fun xs H Q => ∃ x d, xs = [x] ∧ FD K H x d ∧ okShow d = true ∧ Q (.str d.shown) H
theorem call_repr {X : Cx} {k : Nat} (hr : Room k X.A) (hgd : X.A.guards = some []) : CallR X (.builtin "repr") (rRepr X.K) := by
  intro pins s σ H xs us Q I r h
  obtain ⟨x, d, rfl, f, ok, q⟩ := h
  obtain ⟨u, rfl, ru⟩ := Vals.one r
  simp only [okShow, Bool.and_eq_true, decide_eq_true_eq, Bool.not_eq_true'] at ok
  obtain ⟨⟨⟨o1, o2⟩, o3⟩, o4⟩ := ok
  have hu := hr.un
  have big : ∀ {a : Addr}, x = .ref a → wpAny (model X.prog X.w) X.A (call (.builtin "repr") [u]) (EP X pins σ Q) X.xe s := fun {a} e => by
    subst e
    obtain ⟨as, rd⟩ := FD.reads I f ru
    cases ru
    refine repr_of_reads' rd o1 (fun z => by rw [o2] at z; cases z) hgd (by omega) (fun _ _ z => z) (fun h' v tk hk => ?_) (lim_le o4)
    exact ⟨.str d.shown, H, I.kept (h' := h') (t' := tk) hk, ⟨v, rfl⟩, q⟩
  cases f with
  | non =>
    cases ru
    exact PySem.P.repr_of_none ⟨.str _, H, I.tok _, ⟨_, rfl⟩, by rw [PyData.shown_none] at q; exact q⟩
  | bl b =>
    cases ru
    exact PySem.P.repr_of_bool ⟨.str _, H, I.tok _, ⟨_, rfl⟩, by rw [PyData.shown_bool] at q; exact q⟩
  | int i =>
    obtain ⟨t, rfl⟩ := ru
    exact PySem.P.repr_of_int (of_decide_eq_true o1) ⟨.str _, H, I.tok _, ⟨_, rfl⟩, by rw [PyData.shown_int] at q; exact q⟩
  | str z =>
    obtain ⟨t, rfl⟩ := ru
    refine PySem.P.repr_of_str ⟨.str _, H, I.tok _, ⟨_, rfl⟩, by rw [PyData.shown_str] at q; exact q⟩ ?_
    rw [PyData.shown_str] at o4
    exact lim_le o4
  | lst _ _ => exact big rfl
  | tup _ _ => exact big rfl
theorem cf_repr {K : PySem.W.Frag} : CaF1 K (rRepr K) fRepr := by
  intro H F x d res Q hs t h k
  unfold fRepr at h
  split at h
  · rename_i ok
    cases h
    exact ⟨x, d, rfl, t.fd hs, ok, k _ _ _ (.val (.str _))⟩
  · cases h

/-! ### a def's body -/
@[simp] def keepIO : SV → SV
  | .own true o => .own true o
  | _ => .un
@[simp] def outs (k : Nat) (e : Lo) : Lo := (e.take k).map keepIO
@[simp] def notOwn (e : Lo) (i : Nat) : Bool := match e[i]? with
  | some (.own _ _) => false
  | _ => true
@[simp] def retS (k : Nat) (a e : Lo) (i : Nat) : Option SV → Option (Rs × Lo)
  | some (.val d) => some (.val d, outs k e)
  | some (.own false o) => if notOwn a i = true then some (.new o, outs k e) else none
  | _ => none
@[simp] def retV (k : Nat) (a e : Lo) : Rs → Option (Rs × Lo)
  | .val d => some (.val d, outs k e)
  | .new o => some (.new o, outs k e)
  | .slot i => retS k a e i e[i]?
@[simp] def leave (k : Nat) (a : Lo) : Out → Option (Rs × Lo)
  | .rt r e => if k ≤ e.length then retV k a e r else none
  | .nx e => if k ≤ e.length then some (.val .none, outs k e) else none
  | _ => none
def mFn (k n : Nat) (m : MS) : Fn := fun args => if args.length = k then (m (args ++ List.replicate (n - k) .un)).bind (leave k args) else none
section
variable {K : PySem.W.Frag} {ι : Nat → Option V} {α α1 α2 : Nat → List Addr} {T T1 T2 ps qs : List Addr} {e e1 e2 : Lo} {σ σ' : St} {H H1 H2 H' : Hp} {r r1 r2 : Rs} {v x : V} {o : Ob} {i j : Nat} {b : Bool}
theorem LR.start (L : LR K ι α T e σ H) (n : Nat) : LR K ι α T (e ++ List.replicate n .un) (σ ++ List.replicate n none) H where
  len := by rw [List.length_append, List.length_append, List.length_replicate, List.length_replicate, L.len]
  dis := L.dis
  out := fun j hj => L.out j (by rw [List.length_append] at hj; omega)
  hT := L.hT
  tT := L.tT
  slot := fun j sv h => by
    by_cases hj : j < e.length
    · rw [List.getElem?_append_left hj] at h
      have z : (σ ++ List.replicate n none).getD j none = σ.getD j none := by
        rw [List.getD_eq_getElem?_getD, List.getD_eq_getElem?_getD, List.getElem?_append_left (by rw [← L.len]; exact hj)]
      rw [z]
      exact L.slot j sv h
    · rw [List.getElem?_append_right (by omega), List.getElem?_replicate] at h
      split at h
      · cases h
        exact L.out j (by omega)
      · cases h
def keepA (α : Nat → List Addr) (k : Nat) (e : Lo) : Nat → List Addr := fun j => if j < k then (match e[j]? with
  | some (.own true _) => α j
  | _ => []) else []
theorem keepA_sub {k : Nat} {p : Addr} (h : p ∈ keepA α k e j) : p ∈ α j := by
  unfold keepA at h
  split at h
  · split at h
    · exact h
    · cases h
  · cases h
/-- a body is left: its own slots are gone -/
theorem LR.exit {vs : List V} (L : LR K (fun i => vs[i]?) α T e σ H) (hk : vs.length ≤ e.length) (hT : ∀ p ∈ T1, (∃ j, p ∈ α j) ∨ p ∈ T) (hn : ∀ i p, p ∈ keepA α vs.length e i → p ∉ T1) :
    LR K (fun i => vs[i]?) (keepA α vs.length e) T1 (outs vs.length e) (vs.map some) H ∧ Same (mask H α T) (mask H (keepA α vs.length e) T1) := by
  have sm : Same (mask H α T) (mask H (keepA α vs.length e) T1) := mask_mono (fun j p h => .inl ⟨j, keepA_sub h⟩) hT
  refine ⟨⟨?_, fun j k p h1 h2 => L.dis j k p (keepA_sub h1) (keepA_sub h2), fun j hj => ?_, hn, fun p hp => ?_, fun j sv h => ?_⟩, sm⟩
  · unfold outs
    rw [List.length_map, List.length_take, List.length_map]
    omega
  · unfold outs at hj
    rw [List.length_map, List.length_take] at hj
    unfold keepA
    rw [if_neg (by omega)]
  · rcases hT p hp with ⟨j, z⟩ | z
    · exact L.there z
    · exact L.tT p z
  · unfold outs at h
    rw [List.getElem?_map] at h
    obtain ⟨sv0, h0, rfl⟩ := Option.map_eq_some_iff.mp h
    have hj : j < vs.length := by
      have := (List.getElem?_eq_some_iff.mp h0).1
      rw [List.length_take] at this
      omega
    rw [List.getElem?_take_of_lt hj] at h0
    have g := L.slot j sv0 h0
    have ka : keepA α vs.length e j = (match some sv0 with
        | some (.own true _) => α j
        | _ => []) := by
      unfold keepA
      rw [if_pos hj, h0]
    cases sv0 with
    | un => exact ka
    | val d => exact ka
    | own b o =>
      cases b with
      | false => exact ka
      | true =>
        obtain ⟨w, e1, e2, g⟩ := g
        refine ⟨w, ?_, fun _ => e2 rfl, ?_⟩
        · have q : vs[j]? = some w := e2 rfl
          rw [List.getD_eq_getElem?_getD, List.getElem?_map, q]
          rfl
        · rw [ka]
          exact g.stay sm fun _ _ => rfl
end
section
variable {P : Program} {w : World} {K : PySem.W.Frag} {mg : Str → Option Value} {base : Heap}
/-- the body's reading, from the promise -/
theorem body_met {k n : Nat} {N : List Str} {m : MS} {vs : List V} {H : Hp} {Q : VK} (hN : N.length = n) (hk : k ≤ n) (h : spF K k (mFn k n m) vs H Q E0) : tS K m { nx := fun _ H' => Q .non H', rt := Q } (L2.start N vs) H := by
  obtain ⟨hl, α, T, e, r, e', L, em, ok, kk⟩ := h
  have le : e.length = k := by rw [L.len, List.length_map, hl]
  have em : (if e.length = k then (m (e ++ List.replicate (n - k) .un)).bind (leave k e) else none) = some (r, e') := em
  rw [if_pos le] at em
  obtain ⟨o, h1, em⟩ := Option.bind_eq_some_iff.mp em
  have st : L2.start N vs = vs.map some ++ List.replicate (n - k) none := by
    unfold L2.start
    rw [hN, hl]
  rw [st]
  refine ⟨_, α, T, _, o, L.start (n - k), h1, ?_⟩
  have fin : ∀ {α' : Nat → List Addr} {σ' : St} {H' : Hp} {e1 : Lo} {ps : List Addr} {r' : Rs} {v : V}, LR K (fun i => vs[i]?) α' (ps ++ T) e1 σ' H' → Stp α T H α' (ps ++ T) H' → (∀ p ∈ ps, H p = none) → RV K H' (mask H' α' (ps ++ T)) σ' ps v r' →
      okR r' = true → r = r' → e' = outs k e1 → vs.length ≤ e1.length → Q v H' := by
    intro α' σ' H' e1 ps r' v L' S' hn q ok' er ee hle
    subst er ee
    have X := L'.exit (T1 := ps ++ T) hle (fun p hp => .inr hp) fun i p hp => L'.hT i p (keepA_sub hp)
    rw [hl] at X
    exact kk _ ps H' v ⟨X.1, ⟨S'.vis.trans X.2, fun i p hp => S'.own i p (keepA_sub hp), S'.held, S'.non⟩, hn, q.set ok' X.2⟩
  cases o with
  | bk e1 => cases em
  | ct e1 => cases em
  | nx e1 =>
    have em : (if k ≤ e1.length then some ((.val .none : Rs), outs k e1) else none) = some (r, e') := em
    split at em
    · rename_i hle
      cases em
      exact fun α' σ' H' L' S' => fin (ps := []) (r' := .val .none) L' S' (fun _ z => by cases z) ⟨rfl, .non⟩ rfl rfl rfl (by rw [hl]; exact hle)
    · cases em
  | rt r0 e1 =>
    have em : (if k ≤ e1.length then retV k e e1 r0 else none) = some (r, e') := em
    split at em
    · rename_i hle
      intro α' σ' ps H' v L' S' hn q
      have hle' : vs.length ≤ e1.length := by rw [hl]; exact hle
      cases r0 with
      | val d =>
        cases em
        exact fin L' S' hn q rfl rfl rfl hle'
      | new o =>
        cases em
        exact fin L' S' hn q rfl rfl rfl hle'
      | slot i =>
        obtain ⟨rfl, q⟩ := q
        have em : retS k e e1 i e1[i]? = some (r, e') := em
        cases hs : e1[i]? with
        | none =>
          rw [hs] at em
          cases em
        | some sv =>
          rw [hs] at em
          cases sv with
          | un => cases em
          | val d =>
            cases em
            obtain ⟨_, w, e2, g⟩ := L'.slot i _ hs
            rw [q] at e2
            cases e2
            exact fin (ps := []) (r' := .val d) L' S' hn ⟨rfl, g⟩ rfl rfl rfl hle'
          | own b o =>
            cases b with
            | true => cases em
            | false =>
              have em : (if notOwn e i = true then some ((.new o : Rs), outs k e1) else none) = some (r, e') := em
              split at em
              · rename_i hno
                cases em
                obtain ⟨w, e2, _, g⟩ := L'.own hs
                rw [q] at e2
                cases e2
                have kn : ∀ j p, p ∈ keepA α' vs.length e1 j → p ∉ α' i := fun j p hp z => by
                  have h1 := L'.dis j i p (keepA_sub hp) z
                  subst h1
                  unfold keepA at hp
                  rw [hs] at hp
                  simp only at hp
                  split at hp
                  · cases hp
                  · cases hp
                have ai : α i = [] := by
                  by_cases hi : i < e.length
                  · have g0 := L.slot i e[i] (List.getElem?_eq_getElem hi)
                    unfold notOwn at hno
                    rw [List.getElem?_eq_getElem hi] at hno
                    cases hsv : e[i] with
                    | un =>
                      rw [hsv] at g0
                      exact g0
                    | val d =>
                      rw [hsv] at g0
                      exact g0.1
                    | own b' o' =>
                      rw [hsv] at hno
                      cases hno
                  · exact L.out i (by omega)
                have X := L'.exit (T1 := α' i ++ T) hle' (fun p hp => (List.mem_append.mp hp).elim (fun z => .inl ⟨i, z⟩) fun z => .inr z) fun j p hp z => (List.mem_append.mp z).elim (kn j p hp) fun z => L'.hT j p (keepA_sub hp) z
                rw [hl] at X
                refine kk _ (α' i) H' v ⟨X.1, ⟨S'.vis.trans X.2, fun j p hp => S'.own j p (keepA_sub hp), S'.held, S'.non⟩, fun p hp => ?_, g.stay X.2 fun _ _ => rfl⟩
                rcases S'.own i p hp with z | z
                · rw [ai] at z
                  cases z
                · exact z
              · cases em
    · cases em
end
end Gx
/-! G7: a def by its body; the law's own call. -/
namespace Gx
open PySem L2 PySem.Spec PyProof.Rows
section
variable {P : Program} {w : World} {K : PySem.W.Frag} {mg : Str → Option Value} {base : Heap}
theorem fnG_of {x qual : Str} {st : Stmt} {f : Addr} {fd : FuncData} {N ps : List Str} {k : Nat} {m : MS} (F : Fun K x qual st f fd) (S : FnScope N ps (defScope st))
    (hbody : ∀ (cdv : Value) (A : Around) (outer : List Env) (s : Shared) (H : Hp), Room k (A.deeper (envOfC qual (defScope st) s.heap.objs.size f cdv)) → A.guards = some [] →
      SSs (cxOf CX0 P w K mg base N qual (defScope st) f cdv A outer s H E0).nox (defBody st) m) : FnG P w K mg base (k + 1) f fd ps (spF K ps.length (mFn ps.length N.length m)) := by
  obtain ⟨oc, od, kV, doc, pm, an, cdv, ct, osl, rfl, lk, hcd⟩ := F.ex
  refine ⟨fun A outer s H args us vs Q hr hgd e0 hb r hsp => ?_⟩
  have hl : vs.length = ps.length := hsp.1
  have stay : ∀ b o, base.get? b = some o → s.heap.get? b = some o := fun b o e => (e0.bs b o e).1
  have KX := e0.mod.kin.keeps stay
  have lim := e0.mod.nolimit.keeps stay
  refine codeAny_call_function hr.depth (KX _ _ lk) rfl S.co S.gen rfl (PySem.W.codeRec_of KX hcd) (hb _ _ _ _ ?_)
  refine wpAny_newFunctionEnv_cells S.kind (fun y hy => ?_) fun env he s1 z => ?_
  · rcases S.par y.1 (List.of_mem_zip hy).1 with q | q
    · exact .inl q
    · exact .inr ⟨q, PySem.W.cellsFrom_some _ _ _ (.inl q)⟩
  · subst he
    refine ⟨lim.keeps z.toInCall.keep, codeAny_func ?_⟩
    have I := inv_start (CX := CX0) (P := P) (w := w) (K := K) (mg := mg) (base := base) (E := E0) S hr.hd e0 hl r z
    have hpl : ps.length ≤ N.length := by
      have q := congrArg List.length S.pre
      rw [List.length_take] at q
      omega
    have body := (hbody cdv A outer s H (hr.deeper _) hgd).nox
    refine wpAny_mono (body.run [] s1 (L2.start N vs) H _ I (body_met rfl hpl hsp)) (fun fl s' hs => ?_) fun e s' hs => hs
    cases fl with
    | ret u =>
      obtain ⟨v, σ', H', J, rv, q⟩ := hs
      exact ⟨v, H', J.os, J.bare, J.base, J.hok, rv, q⟩
    | next =>
      obtain ⟨σ', H', J, q⟩ := hs
      exact ⟨.non, H', J.os, J.bare, J.base, J.hok, rfl, q⟩
    | brk | cont =>
      obtain ⟨_, _, _, q⟩ := hs
      cases q

/-- the law's call, from a heap in which at most the script is tracked -/
theorem call_core {CX : CXT} {k : Nat} {fa a : Addr} {fd : FuncData} {x : Str} {f : Fn} {s₁ : Shared} {vs : List Value} {ns : List Int} {mb : Str → Option Value} {H : Hp}
    (KX : K.In s₁.heap) (hns : s₁.heap.Ns mainGlobals mg) (hb : s₁.heap.Ns builtinsNs mb) (hbb : ∀ x : Str, x ≠ "__name__" → mb x = bootBuiltins x) (hlim : s₁.heap.NoLimit) (hg : s₁.gens = #[])
    (ha : s₁.heap.get? a = some { cls := .type "list", data := .seq vs.toArray }) (hr : Room k callerA)
    (F : ∀ base : Heap, K.In base → base.Ns mainGlobals mg → FnG P w K mg base k fa fd [x] (spF K 1 f)) (hbind : ∀ (s : Shared) (u : Value), BindsTo s fd ⟨[u], []⟩ [(x, u)])
    (hf : f [.val (.list (ns.map .int))] = some (.val (.bool true), [.un]))
    (hO : Only H) (hS : SqL K H a (ns.map V.int)) (ok : HOk P w H s₁.heap) (hA : ∀ b, H b ≠ none → b = a) (hK : H a ≠ none → K.lookup a = none) :
    codeAny (model P w) callerA (.call (.ref fa) ⟨[.ref a], []⟩) (fun r s' => r = .ok (.ret (.bool true)) ∧ OldK s₁.heap s'.heap ∧ s'.os = s₁.os ∧ AllBare s'.gens) s₁ := by
  -- a tracked thing is the script, a list
  have only : ∀ {b : Addr} {o : Obj}, s₁.heap.get? b = some o → H b ≠ none → ∃ v n, o.data = .seq v n := fun {b o} e n => by
    have q := hA b n
    subst q
    rw [ha] at e
    cases e
    exact ⟨_, _, rfl⟩
  have under : ∀ {b : Addr} {m : Str → Option Value}, s₁.heap.Ns b m → (hidT s₁.heap H).Ns b m := fun {b m} ⟨o, es, ep, e, d, r⟩ => ⟨o, es, ep, hidT_get e (by
    cases q : H b with
    | none => rfl
    | some u =>
      obtain ⟨v, n, d2⟩ := only e (by rw [q]; exact fun z => nomatch z)
      rw [d] at d2
      cases d2), d, r⟩
  have KB : K.In (hidT s₁.heap H) := fun b o e => hidT_get (KX b o e) (by
    cases q : H b with
    | none => rfl
    | some u =>
      have z : H b ≠ none := by rw [q]; exact fun z => nomatch z
      have q2 := hA b z
      subst q2
      rw [hK z] at e
      cases e)
  have M : Mod K mg (hidT s₁.heap H) := ⟨KB, under hns, ⟨mb, under hb, hbb⟩, (let ⟨mc, h1, h2⟩ := hlim; ⟨mc, under h1, h2⟩)⟩
  have noFrs : ∀ b, b ∉ frs [] := fun b z => by cases z
  have e0 : Env0 P w K mg (hidT s₁.heap H) callerA [] s₁ H := ⟨rfl, M, fun b o e => of_hidT e, Nat.le_of_eq (hidT_size _ _), trivial, fun b z => absurd z (noFrs b), ok, .of_eq hg⟩
  have noAny : ∀ (i : Nat) (p : Addr), p ∉ (fun _ : Nat => ([] : List Addr)) i := fun _ _ z => by cases z
  have hm : mask H (fun _ => []) [] = H := by
    funext p
    unfold mask
    rw [if_neg]
    rintro (⟨i, z⟩ | z)
    · cases z
    · cases z
  have L : LR K (fun i => [V.ref a][i]?) (fun _ => []) [] [.val (.list (ns.map .int))] ([V.ref a].map some) H := ⟨rfl, fun i j p z _ => absurd z (noAny i p), fun _ _ => rfl, fun i p z => absurd z (noAny i p), fun p z => (by cases z), fun i sv h => by
    cases i with
    | zero =>
      cases h
      exact ⟨rfl, _, rfl, by rw [hm]; exact .lst hS (FDs.ints ns)⟩
    | succ i => cases h⟩
  refine codeAny_mono ((F _ KB (under hns)).run callerA [] s₁ H ⟨[.ref a], []⟩ [.ref a] [.ref a] (fun v _ => v = .bl true) hr rfl e0 (hbind s₁ (.ref a)) (.cons rfl .nil)
    ⟨rfl, _, _, _, _, _, L, hf, rfl, fun α' ps H' v A => by
      obtain ⟨_, g⟩ := A.rv
      cases g
      rfl⟩) fun r s' h => ?_
  cases r with
  | error e => cases h
  | ok fl =>
    cases fl with
    | next | brk | cont => cases h
    | ret u =>
      obtain ⟨v, H', os, bare, un, hok', r', q⟩ := h
      subst q
      obtain rfl : u = Value.bool true := r'
      refine ⟨rfl, OldK.of_keep fun b o e => ?_, os, bare⟩
      cases q : H b with
      | none => exact un.keep b o e q (noFrs b) (fun z => by cases z)
      | some u =>
        rcases hO b with z | ⟨ob, xs, z⟩
        · rw [q] at z
          cases z
        · obtain ⟨e1, _⟩ := ok b _ z
          obtain ⟨e2, _⟩ := hok' b _ (un.frzs b ob _ z)
          rw [e] at e1
          cases e1
          exact e2
theorem law_callG {k : Nat} {fa a : Addr} {fd : FuncData} {x : Str} {f : Fn} {s₁ : Shared} {vs : List Value} {ns : List Int} {mb : Str → Option Value}
    (KX : K.In s₁.heap) (hns : s₁.heap.Ns mainGlobals mg) (hb : s₁.heap.Ns builtinsNs mb) (hbb : ∀ x : Str, x ≠ "__name__" → mb x = bootBuiltins x) (hlim : s₁.heap.NoLimit) (hg : s₁.gens = #[])
    (ha : s₁.heap.get? a = some { cls := .type "list", data := .seq vs.toArray }) (hi : PyProof.Rows.IntsAre vs ns) (hl : ns.length ≤ sizeLine) (hr : Room k callerA)
    (F : ∀ base : Heap, K.In base → base.Ns mainGlobals mg → FnG P w K mg base k fa fd [x] (spF K 1 f)) (hbind : ∀ (s : Shared) (u : Value), BindsTo s fd ⟨[u], []⟩ [(x, u)])
    (hf : f [.val (.list (ns.map .int))] = some (.val (.bool true), [.un])) :
    codeAny (model P w) callerA (.call (.ref fa) ⟨[.ref a], []⟩) (fun r s' => r = .ok (.ret (.bool true)) ∧ OldK s₁.heap s'.heap ∧ s'.os = s₁.os ∧ AllBare s'.gens) s₁ := by
  have rv := vals_ints hi
  have lv := hi.length
  cases hk : K.lookup a with
  | some o =>
    have e := KX a o hk
    rw [ha] at e
    cases e
    refine call_core (CX := CX0) (H := fun _ => none) KX hns hb hbb hlim hg ha hr F hbind hf (fun _ => .inl rfl) (.inr ⟨_, vs.toArray, _, hk, rfl, rfl, rfl, ?_, rv⟩) (fun b u z => by cases z) (fun b z => absurd rfl z) fun z => absurd rfl z
    rw [List.size_toArray, lv]
    exact hl
  | none =>
    have at_ : ∀ {b : Addr} {u : HO}, (if b = a then some (HO.frz { cls := .type "list", data := .seq vs.toArray } (.lst (ns.map V.int))) else none) = some u → b = a ∧ u = .frz { cls := .type "list", data := .seq vs.toArray } (.lst (ns.map V.int)) := fun {b u} z => by
      split at z
      · cases z
        exact ⟨by assumption, rfl⟩
      · cases z
    refine call_core (CX := CX0) (H := fun b => if b = a then some (.frz { cls := .type "list", data := .seq vs.toArray } (.lst (ns.map V.int))) else none) KX hns hb hbb hlim hg ha hr F hbind hf (fun b => ?_) (.inl (.inr ⟨_, if_pos rfl⟩))
      (fun b u z => ?_) (fun b z => ?_) fun _ => hk
    · by_cases q : b = a
      · exact .inr ⟨_, _, if_pos q⟩
      · exact .inl (if_neg q)
    · obtain ⟨q, rfl⟩ := at_ z
      subst q
      exact ⟨ha, by rw [List.length_map]; exact hl, vs, _, rv, ha⟩
    · by_cases q : b = a
      · exact q
      · exact absurd (if_neg q) z
end
/-- the goal that the head leaves, from the law's def -/
theorem walkG {l : PySem.W.OpenLaw} {n k : Nat} {q : Program} {loose : List Str} {XP : (Str → Option Value) → Heap → Prop} {YP : World → Heap → Prop} {d : DefRec} {K : Params → PySem.W.Frag} {f : Fn} {x : Str}
    (hn : l.most = some n) (hn2 : n ≤ sizeLine) (hdf : d.params.defaults = []) (hr : Room k callerA) (hY : ∀ (w : World) (h : Heap), YP w h → (K w.params).In h)
    (F : ∀ (w : World) (mg : Str → Option Value) (fa : Addr) (h : Heap), (K w.params).In h → h.Ns mainGlobals mg → mg d.name = some (.ref fa) →
      ∃ fd : FuncData, (∀ (s : Shared) (u : Value), BindsTo s fd ⟨[u], []⟩ [(x, u)]) ∧ ∀ base : Heap, (K w.params).In base → base.Ns mainGlobals mg → FnG l.prog w (K w.params) mg base k fa fd [x] (spF (K w.params) 1 f))
    (hf : ∀ ns : List Int, ns.length ≤ n → f [.val (.list (ns.map .int))] = some (.val (.bool true), [.un])) : PySem.W.WalkO q loose XP YP l.row.toRowW d [] (fun f vs => PySem.call f vs) := by
  refine Att.attach_call hn hdf fun w s₀ s₁ mg mb fa o pm cd doc a vs ns G Y ho hd hcd hmg hobj hints hlen hg => ?_
  have KX := hY w _ Y
  obtain ⟨fd, hb, hF⟩ := F w mg fa _ KX G.T.g hmg
  exact law_callG KX G.T.g G.T.b G.T.builtins G.T.nolimit hg hobj hints (Nat.le_trans hlen hn2) hr hF hb (hf ns hlen)
end Gx
/-! G8: plain ints, boxes (dicts of named fields), ranges as lists. -/
namespace Gx
open PySem L2

/-! ### expressions of ints that change nothing -/
abbrev PI0 := Lo → Option Int
def tP (K : PySem.W.Frag) (m : PI0) : TE := fun σ H Q => ∃ ι α T e i, LR K ι α T e σ H ∧ m e = some i ∧ Q (.int i) H
abbrev SP (X : Cx) (e : Expr) (m : PI0) : Prop := PE X e (tP X.K m)
def pC (i : Int) : PI0 := fun _ => some i
@[simp] def sint : Option SV → Option Int
  | some (.val (.int i)) => some i
  | _ => none
def pVar (i : Nat) : PI0 := fun e => sint e[i]?
def pOp (f : Int → Int → Option Int) (ma mb : PI0) : PI0 := fun e => (ma e).bind fun i => (mb e).bind fun j => f i j
@[simp] def pAdd (i j : Int) : Option Int := some (i + j)
@[simp] def pSub (i j : Int) : Option Int := some (i - j)
@[simp] def pMul (i j : Int) : Option Int := if cMul i j = true then some (i * j) else none
@[simp] def pDiv (i j : Int) : Option Int := if cDiv i j = true then some (i / j) else none
@[simp] def pMod (i j : Int) : Option Int := if cMod i j = true then some (i % j) else none
@[simp] def pPow (i j : Int) : Option Int := if cPow i j = true then some (i ^ j.toNat) else none
def mP (m : PI0) : M Rs := fun e => (m e).bind fun i => some (.val (.int i), e)
theorem cMul_ok {i j : Int} (h : cMul i j = true) : CMul i j := by
  unfold cMul at h
  have h := of_decide_eq_true h
  unfold CMul
  omega
theorem cPow_ok {i j : Int} (h : cPow i j = true) : CPow i j := by
  unfold cPow at h
  have h := of_decide_eq_true h
  unfold CPow
  omega
section
variable {X : Cx} {a b : Expr} {ma mb : PI0} {pos p : Pos}
theorem sp_int {i : Int} {j} : SP X (.Constant (.int i) j pos) (pC i) := PE_imp pe_int fun σ H Q ⟨ι, α, T, e, k, L, em, q⟩ => by
  cases em
  exact q
theorem sp_var (i : Nat) {x : Str} (hN : X.N[i]? = some x := by rfl) (hv : Vis X.env.scope x := by first | exact Or.inl rfl | exact Or.inr (Or.inl rfl) | exact Or.inr (Or.inr rfl)) (hd : (x == ("__debug__" : Str)) = false := by decide)
    (hcd : (x == ("__classdict__" : Str)) = false := by decide) : SP X (.Name x pos) (pVar i) := PE_imp (pe_var hN hv hd hcd) fun σ H Q ⟨ι, α, T, e, k, L, em, q⟩ => by
  unfold pVar at em
  cases hs : e[i]? with
  | none =>
    rw [hs] at em
    cases em
  | some sv =>
    rw [hs] at em
    cases sv with
    | un => cases em
    | own b o => cases em
    | val d =>
      cases d with
      | int n =>
        cases em
        obtain ⟨_, v, e1, g⟩ := L.slot i _ hs
        cases g
        refine ⟨.int k, ?_, q⟩
        rw [List.getD_eq_getElem?_getD] at e1
        cases h : σ[i]? with
        | none =>
          rw [h] at e1
          cases e1
        | some w =>
          rw [h] at e1
          exact congrArg some e1
      | none => cases em
      | bool _ => cases em
      | str _ => cases em
      | list _ => cases em
      | tuple _ => cases em
      | dict _ => cases em
theorem sp_op {op : Operator} {C : Int → Int → Prop} {g : Int → Int → Int} {f : Int → Int → Option Int} (ho : OpR X (binaryOp op) (rI C fun i j => .int (g i j))) (hf : ∀ i j k, f i j = some k → C i j ∧ k = g i j) (ha : SP X a ma) (hb : SP X b mb) :
    SP X (.BinOp a op b pos) (pOp f ma mb) := PE_imp (pe_op ho ha hb) fun σ H Q ⟨ι, α, T, e, k, L, em, q⟩ => by
  simp only [pOp, Option.bind_eq_some_iff] at em
  obtain ⟨i, h1, j, h2, h3⟩ := em
  obtain ⟨hc, rfl⟩ := hf i j k h3
  exact ⟨ι, α, T, e, i, L, h1, ι, α, T, e, j, L, h2, i, j, rfl, rfl, hc, q⟩
theorem opC {f : Value → Value → Sem Value} {g : Int → Int → V} (h : OpR X f (rI0 g)) : OpR X f (rI (fun _ _ => True) g) := fun pins s σ H x y v u Q I rx ry ⟨i, j, e1, e2, _, q⟩ => h pins s σ H x y v u Q I rx ry ⟨i, j, e1, e2, q⟩
theorem sp_add (ha : SP X a ma) (hb : SP X b mb) : SP X (.BinOp a .Add b pos) (pOp pAdd ma mb) := sp_op (opC op_add) (fun i j k h => ⟨trivial, (Option.some.inj h).symm⟩) ha hb
theorem sp_sub (ha : SP X a ma) (hb : SP X b mb) : SP X (.BinOp a .Sub b pos) (pOp pSub ma mb) := sp_op (opC op_sub) (fun i j k h => ⟨trivial, (Option.some.inj h).symm⟩) ha hb
theorem sp_mul (ha : SP X a ma) (hb : SP X b mb) : SP X (.BinOp a .Mult b pos) (pOp pMul ma mb) := sp_op op_mul (fun i j k h => by
  unfold pMul at h
  split at h
  · rename_i q
    exact ⟨cMul_ok q, (Option.some.inj h).symm⟩
  · cases h) ha hb
theorem sp_div (ha : SP X a ma) (hb : SP X b mb) : SP X (.BinOp a .FloorDiv b pos) (pOp pDiv ma mb) := sp_op op_fdiv (fun i j k h => by
  unfold pDiv at h
  split at h
  · rename_i q
    exact ⟨(of_decide_eq_true q : 0 < j ∧ j < 1073741824), (Option.some.inj h).symm⟩
  · cases h) ha hb
theorem sp_mod (ha : SP X a ma) (hb : SP X b mb) : SP X (.BinOp a .Mod b pos) (pOp pMod ma mb) := sp_op op_mod (fun i j k h => by
  unfold pMod at h
  split at h
  · rename_i q
    exact ⟨of_decide_eq_true q, (Option.some.inj h).symm⟩
  · cases h) ha hb
theorem sp_pow (ha : SP X a ma) (hb : SP X b mb) : SP X (.BinOp a .Pow b pos) (pOp pPow ma mb) := sp_op op_pow (fun i j k h => by
  unfold pPow at h
  split at h
  · rename_i q
    exact ⟨cPow_ok q, (Option.some.inj h).symm⟩
  · cases h) ha hb
theorem sp_intc (hg : Gl X "int") (hm : X.mg "int" = none) (ha : SP X a ma) (he : starEach [a] X.env = (false, eval a X.env) :: starEach [] X.env := by rfl) (hv : bootBuiltins "int" = some (.type "int") := by decide +kernel) :
    SP X (.Call (.Name "int" p) [a] [] pos) ma := PE_imp (pe_callTy call_int1 hg hm hv (pa_cons ha pa_nil he) (by decide) (by decide) he (by rfl)) fun σ H Q ⟨ι, α, T, e, k, L, em, q⟩ => ⟨ι, α, T, e, k, L, em, .inl ⟨k, rfl, q⟩⟩
@[simp] def pMax (i j : Int) : Option Int := some (if j > i then j else i)
theorem sp_max (hc : X.calm = true) (hg : Gl X "max") (hm : X.mg "max" = none) (ha : SP X a ma) (hb : SP X b mb) (he : starEach [a, b] X.env = (false, eval a X.env) :: starEach [b] X.env := by rfl) (he2 : starEach [b] X.env = (false, eval b X.env) :: starEach [] X.env := by rfl)
    (hpl : (backTo pos (starEach [b] X.env)).any (·.1) = false := by rfl) (hv : bootBuiltins "max" = some (.builtin "max") := by decide +kernel) : SP X (.Call (.Name "max" p) [a, b] [] pos) (pOp pMax ma mb) :=
  PE_imp (pe_callB (call_max2 hc) hg hm hv (pa_cons ha (pa_cons hb pa_nil he2) he) (by decide) (by decide) he hpl) fun σ H Q ⟨ι, α, T, e, k, L, em, q⟩ => by
    simp only [pOp, Option.bind_eq_some_iff] at em
    obtain ⟨i, h1, j, h2, h3⟩ := em
    cases h3
    exact ⟨ι, α, T, e, i, L, h1, ι, α, T, e, j, L, h2, i, j, rfl, q⟩
theorem se_p (h : SP X a ma) : SE X a (mP ma) := PE_imp h fun σ H Q ⟨ι, α, T, e, r, e', L, em, k⟩ => by
  obtain ⟨i, h1, h2⟩ := Option.bind_eq_some_iff.mp em
  cases h2
  exact ⟨ι, α, T, e, i, L, h1, k α [] H (.int i) ⟨L, Stp.refl, fun _ z => (by cases z), rfl, .int i⟩⟩
end

/-! ### boxes -/
@[simp] def fget : List (Str × Fld) → Str → Option Fld
  | [], _ => none
  | (k, f) :: r, n => if k = n then some f else fget r n
@[simp] def fset : List (Str × Fld) → Str → Fld → List (Str × Fld)
  | [], _, _ => []
  | (k, f) :: r, n, g => if k = n then (k, g) :: r else (k, f) :: fset r n g
@[simp] def names (fs : List (Str × Fld)) : List Str := fs.map (·.1)
section
variable {K : PySem.W.Frag} {F F' H H' : Hp}
theorem BoxAt.getV : ∀ {qs : List Addr} {kvs : List (Key × V)} {fs : List (Str × Fld)} {n : Str} {d : PyData}, BoxAt K H F qs kvs fs → fget fs n = some (.val d) → ∃ v, valV kvs (.inr n) = some v ∧ FD K F v d
  | _, _, _, n, d, .nil, h => by cases h
  | _, _, _, n, d, .val (n := k) g b, h => by
    unfold fget at h
    split at h
    · rename_i z
      cases h
      subst z
      exact ⟨_, valV_pos rfl, g⟩
    · rename_i z
      obtain ⟨v, h1, h2⟩ := b.getV h
      exact ⟨v, (valV_neg (fun q => z (Sum.inr.inj q))).trans h1, h2⟩
  | _, _, _, n, d, .lst (n := k) g1 g2 b, h => by
    unfold fget at h
    split at h
    · cases h
    · rename_i z
      obtain ⟨v, h1, h2⟩ := b.getV h
      exact ⟨v, (valV_neg (fun q => z (Sum.inr.inj q))).trans h1, h2⟩
theorem BoxAt.getL : ∀ {qs : List Addr} {kvs : List (Key × V)} {fs : List (Str × Fld)} {n : Str} {ds : List PyData}, BoxAt K H F qs kvs fs → fget fs n = some (.lst ds) → qs.Nodup →
    ∃ q vs, valV kvs (.inr n) = some (.ref q) ∧ q ∈ qs ∧ H q = some (.lst vs) ∧ FDs K F vs ds ∧ ∀ vs' ds', FDs K F vs' ds' → BoxAt K (upd H q (.lst vs')) F qs kvs (fset fs n (.lst ds'))
  | _, _, _, n, d, .nil, h, _ => by cases h
  | _, _, _, n, d, .val (n := k) g b, h, nd => by
    unfold fget at h
    split at h
    · cases h
    · rename_i z
      obtain ⟨q, vs, h1, h2, h3, h4, h5⟩ := b.getL h nd
      refine ⟨q, vs, (valV_neg (fun q => z (Sum.inr.inj q))).trans h1, h2, h3, h4, fun vs' ds' g' => ?_⟩
      unfold fset
      rw [if_neg z]
      exact .val g (h5 vs' ds' g')
  | _, _, _, n, d, .lst (q := q0) (qs := qs) (n := k) g1 g2 b, h, nd => by
    obtain ⟨nd1, nd2⟩ := List.nodup_cons.mp nd
    unfold fget at h
    split at h
    · rename_i z
      cases h
      subst z
      refine ⟨q0, _, valV_pos rfl, List.mem_cons_self .., g1, g2, fun vs' ds' g' => ?_⟩
      unfold fset
      rw [if_pos rfl]
      exact .lst upd_same g' (b.stay (fun _ _ z => z) fun q hq => upd_ne fun z => nd1 (by rw [← z]; exact hq))
    · rename_i z
      obtain ⟨q, vs, h1, h2, h3, h4, h5⟩ := b.getL h nd2
      refine ⟨q, vs, (valV_neg (fun q => z (Sum.inr.inj q))).trans h1, List.mem_cons_of_mem _ h2, h3, h4, fun vs' ds' g' => ?_⟩
      unfold fset
      rw [if_neg z]
      exact .lst (by rw [upd_ne (fun z => nd1 (by rw [z]; exact h2))]; exact g1) g2 (h5 vs' ds' g')
theorem BoxAt.keys : ∀ {qs : List Addr} {kvs : List (Key × V)} {fs : List (Str × Fld)}, BoxAt K H F qs kvs fs → kvs.map (·.1) = (names fs).map Sum.inr
  | _, _, _, .nil => rfl
  | _, _, _, .val g b => by
    show _ :: _ = _ :: _
    rw [b.keys]
    rfl
  | _, _, _, .lst g1 g2 b => by
    show _ :: _ = _ :: _
    rw [b.keys]
    rfl
theorem BoxAt.putV : ∀ {qs : List Addr} {kvs : List (Key × V)} {fs : List (Str × Fld)} {n : Str} {d d' : PyData} {v : V}, BoxAt K H F qs kvs fs → fget fs n = some (.val d) → (names fs).Nodup → FD K F v d' →
    BoxAt K H F qs (kvs.map fun kv => if kv.1 = .inr n then (kv.1, v) else kv) (fset fs n (.val d'))
  | _, _, _, n, d, d', v, .nil, h, _, _ => by cases h
  | _, _, _, n, d, d', v, .val (n := k) (kvs := kvs) (fs := fs) g b, h, nd, gv => by
    obtain ⟨nd1, nd2⟩ := List.nodup_cons.mp nd
    unfold fget at h
    unfold fset
    rw [List.map_cons]
    by_cases z : k = n
    · subst z
      rw [if_pos rfl, if_pos rfl]
      have e : kvs.map (fun kv => if kv.1 = (.inr k : Key) then (kv.1, v) else kv) = kvs := by
        have h1 : ∀ kv ∈ kvs, kv.1 ≠ (.inr k : Key) := fun kv hk q => nd1 (by
          have : (.inr k : Key) ∈ kvs.map (·.1) := List.mem_map.mpr ⟨kv, hk, q⟩
          rw [b.keys] at this
          obtain ⟨x, hx, e⟩ := List.mem_map.mp this
          cases e
          exact hx)
        exact (List.map_congr_left fun kv hk => if_neg (h1 kv hk)).trans (List.map_id _)
      rw [e]
      exact .val gv b
    · rw [if_neg z] at h
      rw [if_neg (show ¬ (Sum.inr k : Key) = Sum.inr n from fun q => z (Sum.inr.inj q)), if_neg z]
      exact .val g (b.putV h nd2 gv)
  | _, _, _, n, d, d', v, .lst (n := k) g1 g2 b, h, nd, gv => by
    obtain ⟨nd1, nd2⟩ := List.nodup_cons.mp nd
    unfold fget at h
    unfold fset
    rw [List.map_cons]
    by_cases z : k = n
    · rw [if_pos z] at h
      cases h
    · rw [if_neg z] at h
      rw [if_neg (show ¬ (Sum.inr k : Key) = Sum.inr n from fun q => z (Sum.inr.inj q)), if_neg z]
      exact .lst g1 g2 (b.putV h nd2 gv)
theorem valV_any {kvs : List (Key × V)} {k : Key} {v : V} (h : valV kvs k = some v) : (kvs.any fun kv => decide (kv.1 = k)) = true := by
  unfold valV at h
  obtain ⟨kv, h1, _⟩ := Option.map_eq_some_iff.mp h
  have h2 := List.find?_some h1
  exact List.any_eq_true.mpr ⟨kv, List.mem_of_find?_eq_some h1, h2⟩
end
@[simp] def fint : Fld → Option Int
  | .val (.int i) => some i
  | _ => none
@[simp] def flst : Fld → Option (List PyData)
  | .lst ds => some ds
  | _ => none
/-- x['n'], an int -/
def pFld (i : Nat) (n : Str) : PI0 := fun e => (gBox e i).bind fun b => (fget b.2 n).bind fint
section
variable {K : PySem.W.Frag} {ι : Nat → Option V} {α α1 α2 : Nat → List Addr} {T T1 T2 ps qs : List Addr} {e e1 e2 : Lo} {σ : St} {H H1 H2 H' : Hp} {i : Nat} {b : Bool}
theorem LR.boxAt (L : LR K ι α T e σ H) {fs : List (Str × Fld)} (h : e[i]? = some (.own b (.box fs))) : ∃ p kvs qs, σ[i]? = some (some (.ref p)) ∧ α i = p :: qs ∧ H p = some (.dK kvs) ∧ BoxAt K H (mask H α T) qs kvs fs ∧ (p :: qs).Nodup ∧
    σ.getD i none = some (.ref p) := by
  obtain ⟨p, h1, h2, _⟩ := L.slotV h
  obtain ⟨w, e1, _, g⟩ := L.own h
  rw [h2] at e1
  cases e1
  generalize hps : α i = ps at g
  cases g with
  | box g1 g2 g3 => exact ⟨_, _, _, h1, rfl, g1, g2, g3, h2⟩
theorem LR.rebox (L : LR K ι α T e σ H) {fs fs' : List (Str × Fld)} (h : e[i]? = some (.own b (.box fs))) {p : Addr} {qs : List Addr} (ha : α i = p :: qs) (nd : (p :: qs).Nodup) {q : Addr} {u : HO} {kvs' : List (Key × V)} (hq : q ∈ α i)
    (hp : upd H q u p = some (.dK kvs')) (g : BoxAt K (upd H q u) (mask H α T) qs kvs' fs') : LR K ι α T (e.set i (.own b (.box fs'))) σ (upd H q u) ∧ Stp α T H α T (upd H q u) := by
  refine ⟨L.change h hq fun v w => ?_, Stp.change hq (L.hT i q hq)⟩
  obtain ⟨p', k1, k2, _⟩ := L.slotV h
  obtain ⟨w', e1, _, g0⟩ := L.own h
  rw [ha] at w ⊢
  cases w with
  | box w1 w2 w3 => exact .box hp g nd
end
section
variable {X : Cx} {a : Expr} {m : PI0} {i : Nat} {n : Str} {pos p2 : Pos} {td : TE}
/-- x['n'] read: what stands there -/
def tFld (i : Nat) (n : Str) : TE := tDGet (tVar i) (tC (.str n))
theorem fld_run {K : PySem.W.Frag} {ι : Nat → Option V} {α : Nat → List Addr} {T : List Addr} {e : Lo} {σ : St} {H : Hp} {fs : List (Str × Fld)} {b : Bool} {Q : VK} (L : LR K ι α T e σ H) (h : e[i]? = some (.own b (.box fs))) {v : V}
    (hv : ∀ p kvs qs, H p = some (.dK kvs) → BoxAt K H (mask H α T) qs kvs fs → α i = p :: qs → (p :: qs).Nodup → ∃ v, valV kvs (.inr n) = some v ∧ Q v H) : tFld i n σ H Q := by
  obtain ⟨p, kvs, qs, h1, h2, h3, h4, h5, _⟩ := L.boxAt h
  obtain ⟨v, e1, q⟩ := hv p kvs qs h3 h4 h2 h5
  refine ⟨_, h1, p, v, rfl, ?_, q⟩
  have := DGet.k (k := .inr n) h3
  rw [e1] at this
  exact this
theorem sp_fld (h : PE X a (tFld i n)) : SP X a (pFld i n) := PE_imp h fun σ H Q ⟨ι, α, T, e, k, L, em, q⟩ => by
  simp only [pFld, Option.bind_eq_some_iff] at em
  obtain ⟨⟨b, fs⟩, h1, f, h2, h3⟩ := em
  refine fld_run (v := .non) L (gBox_iff h1) fun p kvs qs hp hb _ _ => ?_
  unfold fint at h3
  split at h3
  · cases h3
    obtain ⟨v, e1, g⟩ := hb.getV h2
    cases g
    exact ⟨_, e1, q⟩
  · cases h3
/-- x['n'].pop() -/
def mFldPop (i : Nat) (n : Str) : M Rs := fun e => (gBox e i).bind fun b => ((fget b.2 n).bind flst).bind fun ds => (ds[ds.length - 1]?).bind fun d => some (.val d, e.set i (.own b.1 (.box (fset b.2 n (.lst ds.dropLast)))))
/-- x['n'].append(e) -/
def mFldApp (i : Nat) (n : Str) (m : PI0) : M Rs := fun e => (gBox e i).bind fun b => ((fget b.2 n).bind flst).bind fun ds => (m e).bind fun k => if ds.length < lim then some (.val .none, e.set i (.own b.1 (.box (fset b.2 n (.lst (ds ++ [.int k])))))) else none
/-- x['n'] != [] -/
def tFldNe (i : Nat) (n : Str) : M Bool := fun e => (gBox e i).bind fun b => ((fget b.2 n).bind flst).bind fun ds => if SeqAt.shaped (.list ds) = true then some (!PyData.eqv (.list ds) (.list []), e) else none
/-- x['n'] = e -/
def sFldSet (i : Nat) (n : Str) (m : PI0) : MS := fun e => (m e).bind fun k => (gBox e i).bind fun b => ((fget b.2 n).bind fint).bind fun _ => if (names b.2).Nodup ∧ b.2.length ≤ 100 then some (.nx (e.set i (.own b.1 (.box (fset b.2 n (.val (.int k))))))) else none
theorem flst_iff {f : Fld} {ds : List PyData} (h : flst f = some ds) : f = .lst ds := by
  unfold flst at h
  split at h
  · cases h
    rfl
  · cases h
theorem fint_iff {f : Fld} {i : Int} (h : fint f = some i) : f = .val (.int i) := by
  unfold fint at h
  split at h
  · cases h
    rfl
  · cases h
theorem se_fldPop (h : PE X a (tBM0 X.K "list" rPop (tFld i n))) : SE X a (mFldPop i n) := PE_imp h fun σ H Q ⟨ι, α, T, e, r, e', L, em, k⟩ => by
  simp only [mFldPop, Option.bind_eq_some_iff] at em
  obtain ⟨⟨b, fs⟩, h1, ds, ⟨f, h2, h3⟩, d, h4, em⟩ := em
  cases em
  have h1 := gBox_iff h1
  have h3 := flst_iff h3
  subst h3
  refine fld_run (v := .non) L h1 fun p kvs qs hp hb ha nd => ?_
  obtain ⟨q, vs, e1, hq, hH, gs, fn⟩ := hb.getL h2 (List.nodup_cons.mp nd).2
  obtain ⟨v, hv, g⟩ := gs.get h4
  have ne : p ≠ q := fun z => (List.nodup_cons.mp nd).1 (by rw [z]; exact hq)
  obtain ⟨L2', S2⟩ := L.rebox (q := q) h1 ha nd (by rw [ha]; exact List.mem_cons_of_mem _ hq) (by rw [upd_ne ne]; exact hp) (fn _ _ gs.dropLast)
  exact ⟨.ref q, e1, .inl ⟨rfl, _, SqL.of hH⟩, q, vs, v, rfl, rfl, hH, by rw [gs.length]; exact hv, k α [] _ _ ⟨L2', S2, fun _ z => (by cases z), rfl, g.mono S2.vis⟩⟩
theorem se_fldApp (h : PE X a (tBM X.K "list" rAppend (tFld i n) (tCons (tP X.K m) tNil))) : SE X a (mFldApp i n m) := PE_imp h fun σ H Q ⟨ι, α, T, e, r, e', L, em, k⟩ => by
  simp only [mFldApp, Option.bind_eq_some_iff] at em
  obtain ⟨⟨b, fs⟩, h1, ds, ⟨f, h2, h3⟩, j, h4, em⟩ := em
  split at em
  · rename_i hz
    cases em
    have h1 := gBox_iff h1
    have h3 := flst_iff h3
    subst h3
    refine fld_run (v := .non) L h1 fun p kvs qs hp hb ha nd => ?_
    obtain ⟨q, vs, e1, hq, hH, gs, fn⟩ := hb.getL h2 (List.nodup_cons.mp nd).2
    have ne : p ≠ q := fun z => (List.nodup_cons.mp nd).1 (by rw [z]; exact hq)
    obtain ⟨L2', S2⟩ := L.rebox (q := q) h1 ha nd (by rw [ha]; exact List.mem_cons_of_mem _ hq) (by rw [upd_ne ne]; exact hp) (fn _ _ (gs.append (.cons (.int j) .nil)))
    exact ⟨.ref q, e1, .inl ⟨rfl, _, SqL.of hH⟩, ι, α, T, e, j, L, h4, q, vs, .int j, rfl, rfl, hH, by rw [gs.length]; exact lim_lt (Nat.le_of_lt hz), k α [] _ _ ⟨L2', S2, fun _ z => (by cases z), rfl, .non⟩⟩
  · cases em
theorem st_fldNe (h : PT X a (tTest (tOp (rNeD X.K) (tFld i n) (tLst tNil)))) : ST X a (tFldNe i n) := PT_imp h fun σ H Q ⟨ι, α, T, e, c, e', L, em, k⟩ => by
  simp only [tFldNe, Option.bind_eq_some_iff] at em
  obtain ⟨⟨b, fs⟩, h1, ds, ⟨f, h2, h3⟩, em⟩ := em
  split at em
  · rename_i hz
    cases em
    have h1 := gBox_iff h1
    have h3 := flst_iff h3
    subst h3
    refine fld_run (v := .non) L h1 fun p kvs qs hp hb ha nd => ?_
    obtain ⟨q, vs, e1, hq, hH, gs, fn⟩ := hb.getL h2 (List.nodup_cons.mp nd).2
    refine ⟨.ref q, e1, Nat.zero_le _, fun l hl => ?_⟩
    have sm : Same H (upd H l (.lst [])) := upd_same' hl
    refine ⟨.list ds, .list [], ((FD.lst (.of hH) (gs.mono mask_sub)).mono sm).dp, (FD.lst (K := X.K) (.of upd_same) .nil).dp, hz, by decide, _, rfl, ?_⟩
    exact k α _ (L.laid (ps := []) hl (by simp)) (Stp.laid (ps := []) hl L.tT (by simp))
  · cases em
theorem s_fldSet {st : Stmt} (h : PS X st (sDPut (tVar i) (tC (.str n)) (tP X.K m))) : SS X st (sFldSet i n m) := PS_imp h fun D σ H ⟨ι, α, T, e, o, L, em, k⟩ => by
  simp only [sFldSet, Option.bind_eq_some_iff] at em
  obtain ⟨j, h4, ⟨b, fs⟩, h1, k0, ⟨f, h2, h3⟩, em⟩ := em
  split at em
  · rename_i hz
    cases em
    have h1 := gBox_iff h1
    have h3 := fint_iff h3
    subst h3
    obtain ⟨p, kvs, qs, e1, ha, hp, hb, nd, _⟩ := L.boxAt h1
    obtain ⟨v0, e2, _⟩ := hb.getV h2
    have hl : kvs.length = fs.length := by
      have := congrArg List.length hb.keys
      rw [List.length_map, List.length_map] at this
      rw [this]
      unfold names
      rw [List.length_map]
    have ep : putK kvs (.inr n) (.int j) = kvs.map fun kv => if kv.1 = .inr n then (kv.1, .int j) else kv := by
      unfold putK
      rw [if_pos (valV_any e2)]
    obtain ⟨L2', S2⟩ := L.rebox (q := p) (u := .dK (putK kvs (.inr n) (.int j))) h1 ha nd (by rw [ha]; exact List.mem_cons_self ..) upd_same (by
      rw [ep]
      exact (hb.putV h2 hz.1 (.int j)).stay (fun _ _ z => z) fun q hq => upd_ne fun z => (List.nodup_cons.mp nd).1 (by rw [← z]; exact hq))
    exact ⟨ι, α, T, e, j, L, h4, _, e1, p, _, rfl, DPut.k (k := .inr n) hp (by rw [hl]; exact Nat.lt_of_le_of_lt hz.2 (by decide)), k α σ _ L2' S2⟩
  · cases em
/-- {'a': a new list, 'b': an int, 'c': an int} -/
def mBox3 (n1 n2 n3 : Str) (m1 : M Rs) (m2 m3 : PI0) : M Rs := fun e => (m1 e).bind fun p => match p.1 with
  | .new (.lst ds) => (m2 p.2).bind fun i => (m3 p.2).bind fun j => some (.new (.box [(n1, .lst ds), (n2, .val (.int i)), (n3, .val (.int j))]), p.2)
  | _ => none
theorem se_box3 {n1 n2 n3 : Str} {m1 : M Rs} {m2 m3 : PI0} (h12 : n1 ≠ n2) (h13 : n1 ≠ n3) (h23 : n2 ≠ n3) (h : PE X a (tDisp [(tC (.str n1), tE X.K m1), (tC (.str n2), tP X.K m2), (tC (.str n3), tP X.K m3)])) : SE X a (mBox3 n1 n2 n3 m1 m2 m3) :=
  PE_imp h fun σ H Q ⟨ι, α, T, e, r, e', L, em, k⟩ => by
    obtain ⟨⟨r1, e1⟩, h1, em⟩ := Option.bind_eq_some_iff.mp em
    simp only at em
    split at em
    · rename_i ds
      simp only [Option.bind_eq_some_iff] at em
      obtain ⟨i2, h2, i3, h3, em⟩ := em
      cases em
      intro p hp
      have hpp : ∀ q ∈ [p], q = p := by simp
      have Lp := L.laid (ps := [p]) (o := .dK []) hp hpp
      have Sp := Stp.laid (α := α) (T := T) (ps := [p]) (o := .dK []) hp L.tT hpp
      refine ⟨ι, α, [p] ++ T, e, _, _, Lp, h1, fun α' ps H' v A => ?_⟩
      obtain ⟨q, vs, rfl, rfl, g1, g2⟩ := OwnAt.list A.rv
      refine ⟨ι, α', [q] ++ ([p] ++ T), _, i2, A.lr, h2, ι, α', [q] ++ ([p] ++ T), _, i3, A.lr, h3, ?_⟩
      have hHp : H' p = some (.dK []) := (A.st.held p (by simp)).trans upd_same
      have npq : p ≠ q := fun z => by
        have := A.nw q (by simp)
        rw [← z, upd_same] at this
        cases this
      refine ⟨hHp, [(.inr n1, .ref q), (.inr n2, .int i2), (.inr n3, .int i3)], rfl, by show 3 ≤ 15; omega, ?_⟩
      have em : mergeK [] [((.inr n1 : Key), V.ref q), (.inr n2, .int i2), (.inr n3, .int i3)] = [((.inr n1 : Key), V.ref q), (.inr n2, .int i2), (.inr n3, .int i3)] := by
        simp [mergeK, putK, h12, h13, h23]
      rw [em]
      have Lq : LR X.K ι α' (p :: ([q] ++ T)) e' σ H' := ⟨A.lr.len, A.lr.dis, A.lr.out, fun j z h1 h2 => A.lr.hT j z h1 (by
        rcases List.mem_cons.mp h2 with e | h2
        · rw [e]; simp
        · rcases List.mem_append.mp h2 with h2 | h2
          · rw [List.mem_singleton.mp h2]; simp
          · simp [h2]), fun z h2 => A.lr.tT z (by
        rcases List.mem_cons.mp h2 with e | h2
        · rw [e]; simp
        · rcases List.mem_append.mp h2 with h2 | h2
          · rw [List.mem_singleton.mp h2]; simp
          · simp [h2]), fun j sv hs => (A.lr.slot j sv hs).stay (mask_mono (fun i z h => .inl ⟨i, h⟩) fun z h2 => .inr (by
        rcases List.mem_cons.mp h2 with e | h2
        · rw [e]; simp
        · rcases List.mem_append.mp h2 with h2 | h2
          · rw [List.mem_singleton.mp h2]; simp
          · simp [h2])) fun _ _ => rfl⟩
      obtain ⟨L3, em3⟩ := Lq.heldUpd (u := .dK [((.inr n1 : Key), V.ref q), (.inr n2, .int i2), (.inr n3, .int i3)])
      have m0 : Same (mask H' α' ([q] ++ ([p] ++ T))) (mask (upd H' p (.dK [((.inr n1 : Key), V.ref q), (.inr n2, .int i2), (.inr n3, .int i3)])) α' (p :: ([q] ++ T))) := by
        rw [em3]
        refine mask_mono (fun i z h => .inl ⟨i, h⟩) fun z h2 => .inr ?_
        rcases List.mem_cons.mp h2 with e | h2
        · rw [e]; simp
        · rcases List.mem_append.mp h2 with h2 | h2
          · rw [List.mem_singleton.mp h2]; simp
          · simp [h2]
      have hq0 : H q = none := Sp.non q (A.nw q (by simp))
      refine k α' [p, q] _ (.ref p) ⟨L3, ⟨(Sp.vis.trans A.st.vis).trans m0, fun i z hz => ?_, fun z hz => ?_, fun z hz => ?_⟩, fun z hz => ?_, .box upd_same (.lst ?_ (g2.mono m0) (.val (.int i2) (.val (.int i3) .nil))) (by simp [npq])⟩
      · exact (A.st.own i z hz).imp id fun w => Sp.non z w
      · have ne : z ≠ p := fun w => L.tT z hz (by rw [w]; exact hp)
        rw [upd_ne ne, A.st.held z (by simp [hz]), upd_ne ne]
      · by_cases w : z = p
        · rw [w, upd_same] at hz
          cases hz
        · rw [upd_ne w] at hz
          exact Sp.non z (A.st.non z hz)
      · rcases List.mem_cons.mp hz with w | hz
        · rw [w]; exact hp
        · rw [List.mem_singleton.mp hz]; exact hq0
      · rw [upd_ne (Ne.symm npq)]
        exact g1
    · cases em
end

/-! ### list(range(..)) -/
def mLRng (m : M Rs) : M Rs := fun e => (m e).bind fun p => (gInt p.1).bind fun n => if n ≤ lim ∧ -1000000 ≤ n then some (.new (.lst ((List.range n.toNat).map fun (i : Nat) => .int i)), p.2) else none
def mLRng2 (ma mb : M Rs) : M Rs := fun e => (ma e).bind fun p => (mb p.2).bind fun q => (gInt p.1).bind fun a => (gInt q.1).bind fun b => if 0 ≤ a ∧ a ≤ lim ∧ b ≤ lim ∧ 0 ≤ b then some (.new (.lst ((List.range (b - a).toNat).map fun (i : Nat) => .int (a + i))), q.2) else none
section
variable {X : Cx} {a b : Expr} {m ma mb : M Rs} {p pos p2 pos2 : Pos}
theorem rgV_fds {K : PySem.W.Frag} {F : Hp} (a : Int) : ∀ n : Nat, FDs K F ((List.range n).map fun (i : Nat) => V.int (a + i)) ((List.range n).map fun (i : Nat) => PyData.int (a + i))
  | 0 => .nil
  | n + 1 => by
    rw [List.range_succ, List.map_append, List.map_append]
    exact (rgV_fds a n).append (.cons (.int _) .nil)
theorem se_lrng (hc : X.calm = true) (hg : Gl X "list") (hm : X.mg "list" = none) (hg2 : Gl X "range") (hm2 : X.mg "range" = none) (h : SE X a m) (na : starEach [a] X.env = (false, eval a X.env) :: starEach [] X.env := by rfl)
    (na2 : starEach [.Call (.Name "range" p2) [a] [] pos2] X.env = (false, eval (.Call (.Name "range" p2) [a] [] pos2) X.env) :: starEach [] X.env := by rfl) : SE X (.Call (.Name "list" p) [.Call (.Name "range" p2) [a] [] pos2] [] pos) (mLRng m) :=
  PE_imp (pe_listRg hc hg hm (prg_1 hg2 hm2 h na) na2) fun σ H Q ⟨ι, α, T, e, r, e', L, em, k⟩ => by
    simp only [mLRng, Option.bind_eq_some_iff] at em
    obtain ⟨⟨r1, e1⟩, h1, n, h2, em⟩ := em
    split at em
    · rename_i hz
      cases em
      refine gInt_run L h1 h2 fun α' H' L' S => ⟨n, rfl, ?_, fun q hq => ?_⟩
      · unfold lim at hz
        exact ⟨by omega, by omega, by omega, by omega, by omega⟩
      · refine k _ _ _ _ (Aft.of_res L' S (.lst hq ?_))
        have g := rgV_fds (K := X.K) (F := mask H' α' T) 0 n.toNat
        have e2 : ((List.range n.toNat).map fun (i : Nat) => PyData.int (0 + i)) = (List.range n.toNat).map fun (i : Nat) => PyData.int i := List.map_congr_left fun i _ => by rw [Int.zero_add]
        rw [e2] at g
        unfold rgV
        rw [Int.sub_zero]
        exact g
    · cases em
theorem se_lrng2 (hc : X.calm = true) (hg : Gl X "list") (hm : X.mg "list" = none) (hg2 : Gl X "range") (hm2 : X.mg "range" = none) (ha : SE X a ma) (hb : SE X b mb) (na : starEach [a, b] X.env = (false, eval a X.env) :: starEach [b] X.env := by rfl)
    (nb : starEach [b] X.env = (false, eval b X.env) :: starEach [] X.env := by rfl)
    (na2 : starEach [.Call (.Name "range" p2) [a, b] [] pos2] X.env = (false, eval (.Call (.Name "range" p2) [a, b] [] pos2) X.env) :: starEach [] X.env := by rfl)
    (hpl : (backTo pos2 (starEach [b] X.env)).any (·.1) = false := by rfl) : SE X (.Call (.Name "list" p) [.Call (.Name "range" p2) [a, b] [] pos2] [] pos) (mLRng2 ma mb) :=
  PE_imp (pe_listRg hc hg hm (prg_2 hg2 hm2 ha hb na nb hpl) na2) fun σ H Q ⟨ι, α, T, e, r, e', L, em, k⟩ => by
    simp only [mLRng2, Option.bind_eq_some_iff] at em
    obtain ⟨⟨r1, e1⟩, h1, ⟨r2, e2⟩, h2, i, h3, j, h4, em⟩ := em
    split at em
    · rename_i hz
      cases em
      refine gInt_run L h1 h3 fun α1 H1 L1 S1 => gInt_run L1 h2 h4 fun α' H' L' S => ⟨i, j, rfl, rfl, ?_, fun q hq => k _ _ _ _ (Aft.of_res L' (S1.trans S fun _ z => z) (.lst hq (rgV_fds i _)))⟩
      unfold lim at hz
      exact ⟨by omega, by omega, by omega, by omega, by omega⟩
    · cases em
end

/-! ### backwards -/
@[simp] def fRevL : PyData → Option Rs
  | .list xs => some (.new (.lst xs.reverse))
  | _ => none
section
variable {X : Cx} {a : Expr} {m : M Rs} {k : Nat} {p1 p2 p3 pos : Pos}
theorem se_revL (h : SE X a m) : SE X (.Subscript a (.Slice none none (some (.UnaryOp .USub (.Constant (.int 1) k p1) p2)) p3) pos) (mOp1 fRevL m) := PE_imp (pe_revL h) fun σ H Q ⟨ι, α, T, e, r, e', L, em, k⟩ => by
  simp only [mOp1, Option.bind_eq_some_iff] at em
  obtain ⟨⟨r1, e1⟩, h1, d1, h3, r3, h5, h6⟩ := em
  cases h6
  refine one_view L h1 h3 fun α' H2 x L2' s t1 => ?_
  unfold fRevL at h5
  split at h5
  · cases h5
    obtain ⟨q, vs, rfl, hq, gs⟩ := t1
    exact ⟨q, vs, rfl, hq, fun p hp => k _ _ _ _ (Aft.of_res L2' s (.lst hp gs.reverse))⟩
  · cases h5
end
end Gx
/-! G9: the rules as one writes them. -/
namespace Gx
open PySem L2

@[simp] def fAdd : PyData → PyData → Option Rs
  | .int i, .int j => some (.val (.int (i + j)))
  | .tuple xs, .tuple ys => if xs.length + ys.length ≤ lim then some (.val (.tuple (xs ++ ys))) else none
  | .list xs, .list ys => if xs.length + ys.length ≤ lim then some (.new (.lst (xs ++ ys))) else none
  | _, _ => none
def fSub : PyData → PyData → Option Rs := fI fun i j => i - j
def fFdiv : PyData → PyData → Option Rs := fIC cDiv fun i j => i / j
def fMod : PyData → PyData → Option Rs := fIC cMod fun i j => i % j
def fPow : PyData → PyData → Option Rs := fIC cPow fun i j => i ^ j.toNat
/-- i * j -/
def fMul : PyData → PyData → Option Rs := fIC cMul fun i j => i * j
@[simp] def fNeg : PyData → Option Rs
  | .int i => some (.val (.int (-i)))
  | _ => none
def fLt : PyData → PyData → Option Rs := fB fun i j => decide (i < j)
def fLe : PyData → PyData → Option Rs := fB fun i j => decide (i ≤ j)
def fGt : PyData → PyData → Option Rs := fB fun i j => decide (j < i)
def fGe : PyData → PyData → Option Rs := fB fun i j => decide (j ≤ i)
def fMax : PyData → PyData → Option Rs := fI fun i j => if j > i then j else i
def fMin : PyData → PyData → Option Rs := fI fun i j => if j < i then j else i
def rAddA (K : PySem.W.Frag) : R2 := fun x y H Q => rI0 (fun i j => .int (i + j)) x y H Q ∨ rCatA K x y H Q ∨ rCatS K x y H Q
theorem of_addA {K : PySem.W.Frag} : OpF K (rAddA K) fAdd := by
  intro H F x y d1 d2 res Q hs t1 t2 h k
  unfold fAdd at h
  split at h
  · exact .inl (of_I (g := fun i j => i + j) H F x y _ _ res Q hs t1 t2 h k)
  · exact .inr (.inl (of_cat H F x y _ _ res Q hs t1 t2 h k))
  · exact .inr (.inr (of_catL H F x y _ _ res Q hs t1 t2 h k))
  · cases h
/-- xs * k of a list that is read -/
def rRepS (K : PySem.W.Frag) : R2 := fun x y H Q => ∃ l k xs, x = .ref l ∧ y = .int k ∧ H l = some (.lst xs) ∧ 0 ≤ k ∧ k ≤ 1000 ∧ xs.length ≤ 1000 ∧ ∀ p, H p = none → Q (.ref p) (upd H p (.lst (List.replicate k.toNat xs).flatten))
section
variable {X : Cx} {a b c : Expr} {ma mb mc : M Rs} {pos p : Pos}
theorem op_addA : OpR X (binaryOp .Add) (rAddA X.K) := op_add.or (op_catA.or op_catS)
theorem se_add (ha : SE X a ma) (hb : SE X b mb) : SE X (.BinOp a .Add b pos) (mOp2 fAdd ma mb) := se_op op_addA of_addA ha hb
theorem se_sub (ha : SE X a ma) (hb : SE X b mb) : SE X (.BinOp a .Sub b pos) (mOp2 fSub ma mb) := se_op op_sub of_I ha hb
theorem se_fdiv (ha : SE X a ma) (hb : SE X b mb) : SE X (.BinOp a .FloorDiv b pos) (mOp2 fFdiv ma mb) := se_op op_fdiv (of_IC fun i j h => (of_decide_eq_true h : 0 < j ∧ j < 1073741824)) ha hb
theorem se_mod (ha : SE X a ma) (hb : SE X b mb) : SE X (.BinOp a .Mod b pos) (mOp2 fMod ma mb) := se_op op_mod (of_IC fun i j h => (of_decide_eq_true h : 0 < j)) ha hb
theorem se_pow (ha : SE X a ma) (hb : SE X b mb) : SE X (.BinOp a .Pow b pos) (mOp2 fPow ma mb) := se_op op_pow (of_IC fun i j h => cPow_ok h) ha hb
theorem op_repS : OpR X (binaryOp .Mult) (rRepS X.K) := by
  intro pins s σ H x y v u Q I rx ry h
  obtain ⟨l, k, xs, e1, e2, hH, h1, h2, h3, q⟩ := h
  refine op_rep pins s σ H x y v u Q I rx ry ⟨l, k, xs, e1, e2, hH, by omega, by omega, ?_, q⟩
  have h4 : k.toNat ≤ 1000 := by omega
  have h5 := Nat.mul_le_mul h3 h4
  rw [sizeLine_eq]
  omega
theorem se_mul (ha : SE X a ma) (hb : SE X b mb) : SE X (.BinOp a .Mult b pos) (mOp2 fMul ma mb) := se_op op_mul (of_IC fun i j h => cMul_ok h) ha hb
/-- [..] * k -/
def mRep (ma mb : M Rs) : M Rs := fun e => (ma e).bind fun p => (mb p.2).bind fun q => (gNew q.2 1000000 p.1).bind fun xs => (gInt q.1).bind fun k => if 0 ≤ k ∧ k ≤ 1000 ∧ xs.length ≤ 1000 then some (.new (.lst (List.replicate k.toNat xs).flatten), q.2) else none
theorem rep_fds {K : PySem.W.Frag} {F : Hp} {ws : List V} {xs : List PyData} (gs : FDs K F ws xs) : ∀ m : Nat, FDs K F (List.replicate m ws).flatten (List.replicate m xs).flatten
  | 0 => .nil
  | m + 1 => by
    rw [List.replicate_succ, List.replicate_succ, List.flatten_cons, List.flatten_cons]
    exact gs.append (rep_fds gs m)
theorem se_rep (ha : SE X a ma) (hb : SE X b mb) : SE X (.BinOp a .Mult b pos) (mRep ma mb) := PE_imp (pe_op op_repS ha hb) fun σ H Q ⟨ι, α, T, e, r', e', L, em, k⟩ => by
  simp only [mRep, Option.bind_eq_some_iff] at em
  obtain ⟨⟨r1, e1⟩, h1, ⟨r2, e2⟩, h2, xs, h3, n, h4, em⟩ := em
  split at em
  · rename_i hz
    cases em
    refine two L h1 h2 fun α' ps qs H2 x y L2' s q1 q2 n1 n2 => ?_
    have m1 : Same (mask H2 α' (qs ++ (ps ++ T))) (mask H2 α' T) := mask_mono (fun i p h => .inl ⟨i, h⟩) fun p h => .inr (List.mem_append_right _ (List.mem_append_right _ h))
    have z := gInt_iff h4
    subst z
    obtain ⟨rfl, g⟩ := q2
    cases g
    obtain ⟨l, ws, rfl, hH, gw⟩ := gNew_ok (ps := ps) (T := T) L2' q1 h3
    exact ⟨l, n, ws, rfl, rfl, hH, hz.1, hz.2.1, by rw [gw.length]; exact hz.2.2, fun p hp => k _ _ _ _ (Aft.of_res L2'.drop.drop s.drop.drop (.lst hp ((rep_fds gw n.toNat).mono m1)))⟩
  · cases em
theorem un_negI {K : PySem.W.Frag} : UnF K (rU fun i => .int (-i)) fNeg := by
  intro H F x d res Q hs t h k
  unfold fNeg at h
  split at h
  · cases h
    cases t
    exact ⟨_, rfl, k _ _ _ (.val (.int _))⟩
  · cases h
theorem se_neg (ha : SE X a ma) : SE X (.UnaryOp .USub a pos) (mOp1 fNeg ma) := se_un un_neg un_negI ha
theorem se_eq (hu : X.A.units + 64 < cLine) (ha : SE X a ma) (hb : SE X b mb) : SE X (.Compare a [.Eq] [b] pos) (mOp2 fEq ma mb) := se_cmp (op_eqD hu) of_eq (nomark _) ha hb
theorem se_ne (hu : X.A.units + 64 < cLine) (ha : SE X a ma) (hb : SE X b mb) : SE X (.Compare a [.NotEq] [b] pos) (mOp2 fNe ma mb) := se_cmp (op_neD hu) of_ne (nomark _) ha hb
theorem se_lt (ha : SE X a ma) (hb : SE X b mb) : SE X (.Compare a [.Lt] [b] pos) (mOp2 fLt ma mb) := se_cmp op_lt of_B (nomark _) ha hb
theorem se_le (ha : SE X a ma) (hb : SE X b mb) : SE X (.Compare a [.LtE] [b] pos) (mOp2 fLe ma mb) := se_cmp op_le of_B (nomark _) ha hb
theorem se_gt (ha : SE X a ma) (hb : SE X b mb) : SE X (.Compare a [.Gt] [b] pos) (mOp2 fGt ma mb) := se_cmp op_gt of_B (nomark _) ha hb
theorem se_ge (ha : SE X a ma) (hb : SE X b mb) : SE X (.Compare a [.GtE] [b] pos) (mOp2 fGe ma mb) := se_cmp op_ge of_B (nomark _) ha hb
theorem se_is (ha : SE X a ma) (hb : SE X b mb) : SE X (.Compare a [.Is] [b] pos) (mOp2 fIsN ma mb) := se_cmp op_isN of_isN (nomark _) ha hb
theorem se_isnt (ha : SE X a ma) (hb : SE X b mb) : SE X (.Compare a [.IsNot] [b] pos) (mOp2 fNotN ma mb) := se_cmp op_notN of_notN (nomark _) ha hb
theorem st_eq (hu : X.A.units + 64 < cLine) (ha : SE X a ma) (hb : SE X b mb) : ST X (.Compare a [.Eq] [b] pos) (mB (mOp2 fEq ma mb)) := st_cmp (op_eqD hu) of_eq (nomark _) ha hb
theorem st_ne (hu : X.A.units + 64 < cLine) (ha : SE X a ma) (hb : SE X b mb) : ST X (.Compare a [.NotEq] [b] pos) (mB (mOp2 fNe ma mb)) := st_cmp (op_neD hu) of_ne (nomark _) ha hb
theorem st_lt (ha : SE X a ma) (hb : SE X b mb) : ST X (.Compare a [.Lt] [b] pos) (mB (mOp2 fLt ma mb)) := st_cmp op_lt of_B (nomark _) ha hb
theorem st_le (ha : SE X a ma) (hb : SE X b mb) : ST X (.Compare a [.LtE] [b] pos) (mB (mOp2 fLe ma mb)) := st_cmp op_le of_B (nomark _) ha hb
theorem st_gt (ha : SE X a ma) (hb : SE X b mb) : ST X (.Compare a [.Gt] [b] pos) (mB (mOp2 fGt ma mb)) := st_cmp op_gt of_B (nomark _) ha hb
theorem st_ge (ha : SE X a ma) (hb : SE X b mb) : ST X (.Compare a [.GtE] [b] pos) (mB (mOp2 fGe ma mb)) := st_cmp op_ge of_B (nomark _) ha hb
theorem st_is (ha : SE X a ma) (hb : SE X b mb) : ST X (.Compare a [.Is] [b] pos) (mB (mOp2 fIsN ma mb)) := st_cmp op_isN of_isN (nomark _) ha hb
theorem st_isnt (ha : SE X a ma) (hb : SE X b mb) : ST X (.Compare a [.IsNot] [b] pos) (mB (mOp2 fNotN ma mb)) := st_cmp op_notN of_notN (nomark _) ha hb
/-- a op b op' c, as a value -/
def mChain (f g : PyData → PyData → Option Rs) (ma mb mc : M Rs) : M Rs := fun e => (ma e).bind fun p => (mb p.2).bind fun q => (vw q.2 p.1).bind fun d1 => (vw q.2 q.1).bind fun d2 => (f d1 d2).bind fun r => match r with
  | .val (.bool true) => (mc q.2).bind fun u => (vw u.2 q.1).bind fun d2' => (vw u.2 u.1).bind fun d3 => (g d2' d3).bind fun r' => some (r', u.2)
  | .val (.bool false) => some (.val (.bool false), q.2)
  | _ => none
theorem tChain_imp {K : PySem.W.Frag} {r r' : R2} {f g : PyData → PyData → Option Rs} (hf : OpF K r f) (hg : OpF K r' g) {σ : St} {H : Hp} {Q : VK} (h : tE K (mChain f g ma mb mc) σ H Q) : tChain r r' (tE K ma) (tE K mb) (tE K mc) σ H Q := by
  obtain ⟨ι, α, T, e, r0, e', L, em, k⟩ := h
  simp only [mChain, Option.bind_eq_some_iff] at em
  obtain ⟨⟨r1, e1⟩, h1, ⟨r2, e2⟩, h2, d1, h3, d2, h4, r3, h5, em⟩ := em
  refine two L h1 h2 fun α' ps qs H2 x y L2' s q1 q2 n1 n2 => ?_
  have m1 : Same (mask H2 α' (qs ++ (ps ++ T))) (mask H2 α' (qs ++ T)) := mask_mono (fun i p h => .inl ⟨i, h⟩) fun p h => .inr (by
    rcases List.mem_append.mp h with z | z
    · exact List.mem_append_left _ z
    · exact List.mem_append_right _ (List.mem_append_right _ z))
  have L3 : LR K ι α' (qs ++ T) e2 σ H2 := ⟨L2'.len, L2'.dis, L2'.out, fun i p h z => L2'.hT i p h (by
    rcases List.mem_append.mp z with z | z
    · exact List.mem_append_left _ z
    · exact List.mem_append_right _ (List.mem_append_right _ z)), fun p z => L2'.tT p (by
    rcases List.mem_append.mp z with z | z
    · exact List.mem_append_left _ z
    · exact List.mem_append_right _ (List.mem_append_right _ z)), fun i sv h => (L2'.slot i sv h).stay m1 fun _ _ => rfl⟩
  have q2' : RV K H2 (mask H2 α' (qs ++ T)) σ qs y r2 := by
    cases r2 with
    | val d => exact ⟨q2.1, q2.2.mono m1⟩
    | new o => exact OwnAt.stay m1 (fun _ _ => rfl) q2
    | slot i => exact q2
  have t1 := (q1.view L2' h3).mono m1
  have t2 := q2'.view L3 h4
  have S2 : Stp α T H α' (qs ++ T) H2 := ⟨s.vis.trans m1, s.own, s.held, s.non⟩
  refine hf H2 _ x y d1 d2 r3 _ mask_sub t1 t2 h5 fun ps' H3 v rs => ?_
  have A := Aft.of_res L3 Stp.refl rs
  simp only at em
  split at em
  · simp only [Option.bind_eq_some_iff] at em
    obtain ⟨⟨r4, e4⟩, h6, d2', h7, d3, h8, r5, h9, em⟩ := em
    cases em
    obtain ⟨rfl, gg⟩ := A.rv
    cases gg
    refine ⟨true, rfl, iteT ⟨ι, α', qs ++ T, e2, r4, e4, A.lr, h6, fun α4 us H4 u A4 => ?_⟩⟩
    have q2'' := (q2'.stay A.st fun p h => (by simp [h])).stay A4.st fun p h => (by simp [h])
    have m2 : Same (mask H4 α4 (us ++ (qs ++ T))) (mask H4 α4 T) := mask_mono (fun i p h => .inl ⟨i, h⟩) fun p h => .inr (List.mem_append_right _ (List.mem_append_right _ h))
    have t3 := (q2''.view A4.lr h7).mono m2
    have t4 := (A4.rv.view A4.lr h8).mono m2
    have S4 := ((S2.trans A.st fun p h => (by simp [h])).trans A4.st fun p h => (by simp [h]))
    exact hg H4 _ y u d2' d3 _ _ mask_sub t3 t4 h9 fun ps5 H5 v5 rs5 => k _ _ _ _ (Aft.of_res A4.lr.drop.drop S4.drop.drop rs5)
  · cases em
    obtain ⟨rfl, gg⟩ := A.rv
    cases gg
    exact ⟨false, rfl, iteF (k _ _ _ _ (Aft.bool A.lr.drop.drop (S2.trans A.st fun p h => (by simp [h])).drop.drop))⟩
  · cases em
theorem se_chain {op op' : CmpOp} {r r' : R2} {f g : PyData → PyData → Option Rs} (ho : OpR X (compareOp op) r) (hf : OpF X.K r f) (ho' : OpR X (compareOp op') r') (hg : OpF X.K r' g) (ha : SE X a ma) (hb : SE X b mb) (hc : SE X c mc)
    (hm : lastMarks [op, op'] [b, c] = false := by with_unfolding_all rfl) : SE X (.Compare a [op, op'] [b, c] pos) (mChain f g ma mb mc) := PE_imp (pe_chain ho ho' ha hb hc hm) fun σ H Q h => tChain_imp hf hg h
theorem st_chain {op op' : CmpOp} {r r' : R2} {f g : PyData → PyData → Option Rs} (ho : OpR X (compareOp op) r) (hf : OpF X.K r f) (ho' : OpR X (compareOp op') r') (hg : OpF X.K r' g) (ha : SE X a ma) (hb : SE X b mb) (hc : SE X c mc)
    (hm : lastMarks [op, op'] [b, c] = false := by with_unfolding_all rfl) : ST X (.Compare a [op, op'] [b, c] pos) (mB (mChain f g ma mb mc)) := PT_imp (pt_chain ho ho' ha hb hc hm) fun σ H Q h => tT_B (fun σ H Q h => tChain_imp hf hg h) h
/-! built-ins by name -/
theorem se_len (hg : Gl X "len") (hm : X.mg "len" = none) (ha : SE X a ma) (he : starEach [a] X.env = (false, eval a X.env) :: starEach [] X.env := by rfl) : SE X (.Call (.Name "len" p) [a] [] pos) (mOp1 fLen ma) :=
  se_callB call_len_seq cf_len hg hm (by decide +kernel) ha (by decide) (by decide) he (by rfl)
theorem se_list (hg : Gl X "list") (hm : X.mg "list" = none) (ha : SE X a ma) (he : starEach [a] X.env = (false, eval a X.env) :: starEach [] X.env := by rfl) : SE X (.Call (.Name "list" p) [a] [] pos) (mOp1 fList ma) :=
  se_callT call_list_of cf_list hg hm (by decide +kernel) ha (by decide) (by decide) he (by rfl)
theorem se_tuple (hg : Gl X "tuple") (hm : X.mg "tuple" = none) (ha : SE X a ma) (he : starEach [a] X.env = (false, eval a X.env) :: starEach [] X.env := by rfl) : SE X (.Call (.Name "tuple" p) [a] [] pos) (mOp1 fTuple ma) :=
  se_callT call_tuple_of cf_tuple hg hm (by decide +kernel) ha (by decide) (by decide) he (by rfl)
theorem se_intc (hg : Gl X "int") (hm : X.mg "int" = none) (ha : SE X a ma) (he : starEach [a] X.env = (false, eval a X.env) :: starEach [] X.env := by rfl) : SE X (.Call (.Name "int" p) [a] [] pos) (mOp1 fInt ma) :=
  se_callT call_int1 cf_int hg hm (by decide +kernel) ha (by decide) (by decide) he (by rfl)
theorem se_all (hc : X.calm = true) (hg : Gl X "all") (hm : X.mg "all" = none) (ha : SE X a ma) (he : starEach [a] X.env = (false, eval a X.env) :: starEach [] X.env := by rfl) : SE X (.Call (.Name "all" p) [a] [] pos) (mOp1 fAll ma) :=
  se_callB (cr_all hc) cf_all hg hm (by decide +kernel) ha (by decide) (by decide) he (by rfl)
theorem se_any (hc : X.calm = true) (hg : Gl X "any") (hm : X.mg "any" = none) (ha : SE X a ma) (he : starEach [a] X.env = (false, eval a X.env) :: starEach [] X.env := by rfl) : SE X (.Call (.Name "any" p) [a] [] pos) (mOp1 fAny ma) :=
  se_callB (cr_any hc) cf_any hg hm (by decide +kernel) ha (by decide) (by decide) he (by rfl)
theorem se_repr {k : Nat} (hr : Room k X.A) (hgd : X.A.guards = some []) (hg : Gl X "repr") (hm : X.mg "repr" = none) (ha : SE X a ma) (he : starEach [a] X.env = (false, eval a X.env) :: starEach [] X.env := by rfl) : SE X (.Call (.Name "repr" p) [a] [] pos) (mOp1 fRepr ma) :=
  se_callB (call_repr hr hgd) cf_repr hg hm (by decide +kernel) ha (by decide) (by decide) he (by rfl)
theorem se_max2 (hc : X.calm = true) (hg : Gl X "max") (hm : X.mg "max" = none) (ha : SE X a ma) (hb : SE X b mb) (he : starEach [a, b] X.env = (false, eval a X.env) :: starEach [b] X.env := by rfl) (he2 : starEach [b] X.env = (false, eval b X.env) :: starEach [] X.env := by rfl)
    (hpl : (backTo pos (starEach [b] X.env)).any (·.1) = false := by rfl) : SE X (.Call (.Name "max" p) [a, b] [] pos) (mOp2 fMax ma mb) := se_callB2 (call_max2 hc) cf_max2 hg hm (by decide +kernel) ha hb (by decide) (by decide) he he2 hpl
theorem se_min2 (hc : X.calm = true) (hg : Gl X "min") (hm : X.mg "min" = none) (ha : SE X a ma) (hb : SE X b mb) (he : starEach [a, b] X.env = (false, eval a X.env) :: starEach [b] X.env := by rfl) (he2 : starEach [b] X.env = (false, eval b X.env) :: starEach [] X.env := by rfl)
    (hpl : (backTo pos (starEach [b] X.env)).any (·.1) = false := by rfl) : SE X (.Call (.Name "min" p) [a, b] [] pos) (mOp2 fMin ma mb) := se_callB2 (call_min2 hc) cf_min2 hg hm (by decide +kernel) ha hb (by decide) (by decide) he he2 hpl
end

/-! ### a def as it stands behind the top -/
structure Def (P : Program) (w : World) (K : PySem.W.Frag) (mg : Str → Option Value) (base : Heap) (x : Str) (st : Stmt) (k : Nat) (ps : List Str) (g : Fn) (f : Addr) (fd : FuncData) : Prop where
  fn : Fun K x x st f fd
  at_ : mg x = some (.ref f)
  ok : FnG P w K mg base k f fd ps (spF K ps.length g)
theorem BindG.of {K : PySem.W.Frag} {x qual : Str} {st : Stmt} {f : Addr} {fd : FuncData} {ps ks : List Str} {is : List Nat} {nu : Nat} (F : Fun K x qual st f fd)
    (h : ∀ (kV doc pm : Value) (an : Option Addr) (cdv ct : Value) (us ws : List Value), us.length = nu → ws.length = ks.length →
      bindArgs (PySem.W.fnOf x qual (defArgs st) (defBody st) (defScope st) .none kV doc pm an cdv ct) ⟨us, ks.zip ws⟩ = pure (ps.zip (pick is (us ++ ws)))) : BindG K fd ps ks is nu := by
  obtain ⟨oc, od, kV, doc, pm, an, cdv, ct, osl, rfl, lk, hcd⟩ := F.ex
  exact fun s us ws _ h1 h2 => BindsTo.of_eq (h kV doc pm an cdv ct us ws h1 h2)
end Gx
/-! G10: tuple[::-1], three names at once, enumerate(zip(t, u)). -/
namespace Gz
open PySem L2 PyProof.Rows
open PySem.Sem (wp)

/-! ### zip over two tuples, whatever became of the tuple it gave out -/
/-- f0: nothing is out, or the tuple at some place was given out -/
def ZOut : Value → Prop := fun v => v = .none ∨ ∃ T : Nat, v = rawInt T
abbrev IsZip2 (h : Heap) (z TI TO : Addr) (v : Value) (f : Bool) : Prop :=
  h.get? z = some { cls := .type "zip", dict := none, data := .fields #[v, .bool f, .bool false, .ref TI, .ref TO], slots := #[] }
section
variable {prog : Program} {w : World} {A : Around} {E : Value → Shared → Prop} {s : Shared}
theorem free_zip {z TI TO : Addr} {v : Value} {f : Bool} {Q : Bool → Shared → Prop} (hz : IsZip2 s.heap z TI TO v f) (hv : ZOut v)
    (h : ∀ b h' f', IsZip2 h' z TI TO v f' → Heap.SameBut z s.heap h' → Q b { s with heap := h' }) : wpAny (model prog w) A (Builtin.SmallTypes.ownedTupleIsFree (.ref z)) Q E s := by
  unfold Builtin.SmallTypes.ownedTupleIsFree
  refine wpAny_bind (wpAny_field hz rfl (x := v) rfl ?_)
  rcases hv with e | ⟨T, e⟩
  · subst e
    exact wpAny_pure (h true s.heap f hz (Heap.SameBut.refl _ _))
  · subst e
    show wpAny _ _ (loadIfAlive ((T : Int).toNat) >>= _) _ _ _
    refine wpAny_bind (fun _ _ _ => ?_)
    show wpAny _ _ (if (s.heap.get? (T : Int).toNat).isNone = true then _ else _) _ _ _ 
    by_cases hn : (s.heap.get? (T : Int).toNat).isNone = true
    · rw [if_pos hn]
      exact wpAny_pure (h true s.heap f hz (Heap.SameBut.refl _ _))
    · rw [if_neg hn]
      refine wpAny_bind (wpAny_field hz rfl (x := .bool f) rfl ?_)
      cases f with
      | true =>
        rw [if_neg (show ¬ ((Value.bool true != Value.bool true) = true) from Bool.false_ne_true)]
        exact wpAny_pure (h false s.heap true hz (Heap.SameBut.refl _ _))
      | false =>
        rw [if_pos (show (Value.bool false != Value.bool true) = true from rfl)]
        exact wpAny_bind (wpAny_setField_rec hz (by simp) fun h₁ hz₁ hs₁ => wpAny_pure (h false h₁ true hz₁ hs₁))

theorem zip2_item {z TI TO i1 i2 l1 l2 : Addr} {v0 : Value} {f : Bool} {k : Nat} {xs ys : Array Value} {x y a b : Value} {Q : Value → Shared → Prop} (D : ZipApart z TI TO i1 i2 l1 l2)
    (hz : IsZip2 s.heap z TI TO v0 f) (hv : ZOut v0) (hTI : IsPair s.heap TI (.ref i1) (.ref i2)) (hTO : IsPair s.heap TO a b)
    (h1 : s.heap.IsTupleIter i1 l1 k) (h2 : s.heap.IsTupleIter i2 l2 k) (hl1 : s.heap.IsTuple l1 xs) (hl2 : s.heap.IsTuple l2 ys) (hx : xs[k]? = some x) (hy : ys[k]? = some y)
    (hQ : ∀ h' v' f', IsZip2 h' z TI TO v' f' → ZOut v' → (∃ a b, IsPair h' TO a b) → h'.IsTupleIter i1 l1 (k + 1) → h'.IsTupleIter i2 l2 (k + 1) → IsPair h' s.heap.objs.size x y → h'.objs.size = s.heap.objs.size + 1 →
      (∀ c o, c ≠ z → c ≠ TO → c ≠ i1 → c ≠ i2 → s.heap.get? c = some o → h'.get? c = some o) → Q (.ref s.heap.objs.size) { s with heap := h' }) :
    wpAny (model prog w) A (Builtin.SmallTypes.nextOf (.ref z)) Q E s := by
  have hT : s.TypeIs (.ref z) "zip" := ⟨_, hz, rfl⟩
  unfold Builtin.SmallTypes.nextOf
  refine wpAny_bind (wpAny_callSpecial?_slot (name := Str.ofString "__next__") hT F.slot_zip_next
    (wpAny_call_entry F.slot_zip_next hT F.entry_zip_next ?_ (F.args_zip_next_1 _)))
  show wpAny _ _ (field (.ref z) 2 >>= _) _ _ _
  refine wpAny_bind (wpAny_field hz rfl (x := .bool false) rfl ?_)
  show wpAny _ _ (field (.ref z) 3 >>= _) _ _ _
  refine wpAny_bind (wpAny_field hz rfl (x := .ref TI) rfl ?_)
  refine wpAny_bind (wpAny_seqItems hTI rfl ?_)
  show wpAny _ _ (Builtin.SmallTypes.ownedTupleIsFree (.ref z) >>= _) _ _ _
  refine wpAny_bind (free_zip hz hv fun b0 h₀ f₀ hz₀ hs₀ => ?_)
  cases b0 with
  | true =>
    simp only [if_true]
    refine wpAny_bind (wpAny_rule ?_)
    refine wpAny_bind (wpAny_field hz₀ rfl (x := .ref TO) rfl ?_)
    refine wpAny_bind (wpAny_setField_rec hz₀ (by simp) fun h₁ hz₁ hs₁ => ?_)
    replace hz₁ : IsZip2 h₁ z TI TO .ellipsis f₀ := hz₁
    refine wpAny_bind ?_
    simp only [List.zipIdx_cons, List.zipIdx_nil, List.forIn_cons, List.forIn_nil]
    refine wpAny_bind (wpAny_bind (wpAny_onRaise ?_))
    show wpAny _ _ (Builtin.SmallTypes.nextOf (.ref i1) >>= _) _ _ _
    refine wpAny_bind (RZ.nextOf_tuple_item ((h1.extBut hs₀.extBut D.i1z).extBut hs₁.extBut D.i1z) ((hl1.extBut hs₀.extBut D.l1z).extBut hs₁.extBut D.l1z) hx fun h₂ h1₂ hs₂ => wpAny_pure ?_)
    have hTO₂ : IsPair h₂ TO a b := hs₂.extBut _ _ D.TOi1 (hs₁.extBut _ _ D.TOz (hs₀.extBut _ _ D.TOz hTO))
    refine wpAny_bind (wpAny_seqItems hTO₂ rfl ?_)
    refine wpAny_bind (wpAny_updateSeq_pair hTO₂ fun h₃ hTO₃ hs₃ => ?_)
    replace hTO₃ : IsPair h₃ TO x b := hTO₃
    refine wpAny_bind (wpAny_letGo (wpAny_pure ?_))
    refine wpAny_bind (wpAny_bind (wpAny_onRaise ?_))
    show wpAny _ _ (Builtin.SmallTypes.nextOf (.ref i2) >>= _) _ _ _
    refine wpAny_bind (RZ.nextOf_tuple_item ((((h2.extBut hs₀.extBut D.i2z).extBut hs₁.extBut D.i2z).extBut hs₂.extBut D.i12.symm).extBut hs₃.extBut D.TOi2.symm)
      ((((hl2.extBut hs₀.extBut D.l2z).extBut hs₁.extBut D.l2z).extBut hs₂.extBut D.l2i1).extBut hs₃.extBut D.l2TO) hy fun h₄ h2₄ hs₄ => wpAny_pure ?_)
    have hTO₄ : IsPair h₄ TO x b := hs₄.extBut _ _ D.TOi2 hTO₃
    refine wpAny_bind (wpAny_seqItems hTO₄ rfl ?_)
    refine wpAny_bind (wpAny_updateSeq_pair hTO₄ fun h₅ hTO₅ hs₅ => ?_)
    replace hTO₅ : IsPair h₅ TO x y := hTO₅
    refine wpAny_bind (wpAny_letGo (wpAny_pure (wpAny_pure ?_)))
    refine wpAny_bind (wpAny_seqItems hTO₅ rfl ?_)
    refine wpAny_bind (wpAny_newTuple ?_)
    have hsz : h₅.objs.size = s.heap.objs.size := by rw [hs₅.1, hs₄.1, hs₃.1, hs₂.1, hs₁.1, hs₀.1]
    have hz₅ : IsZip2 h₅ z TI TO .ellipsis f₀ := hs₅.extBut _ _ D.TOz.symm (hs₄.extBut _ _ D.i2z.symm (hs₃.extBut _ _ D.TOz.symm (hs₂.extBut _ _ D.i1z.symm hz₁)))
    have hk₅ : ∀ c o, c ≠ z → c ≠ TO → c ≠ i1 → c ≠ i2 → s.heap.get? c = some o → h₅.get? c = some o := fun c o c1 c2 c3 c4 e =>
      hs₅.extBut _ _ c2 (hs₄.extBut _ _ c4 (hs₃.extBut _ _ c2 (hs₂.extBut _ _ c3 (hs₁.extBut _ _ c1 (hs₀.extBut _ _ c1 e)))))
    have h1₅ : h₅.IsTupleIter i1 l1 (k + 1) := ((h1₂.extBut hs₃.extBut D.TOi1.symm).extBut hs₄.extBut D.i12).extBut hs₅.extBut D.TOi1.symm
    have h2₅ : h₅.IsTupleIter i2 l2 (k + 1) := h2₄.extBut hs₅.extBut D.TOi2.symm
    have hzlt : z < h₅.objs.size := Heap.lt_size hz₅
    show wpAny _ _ (Builtin.SmallTypes.ownedTupleHandOut (.ref z) (.ref h₅.objs.size) >>= _) _ _ _
    refine wpAny_bind ?_
    unfold Builtin.SmallTypes.ownedTupleHandOut
    have hz₆ : IsZip2 (h₅.push { cls := .type "tuple", data := .seq #[x, y] }) z TI TO .ellipsis f₀ := Heap.get?_push_of_some _ hz₅
    refine wpAny_bind (wpAny_setField_rec hz₆ (by simp) fun h₇ hz₇ hs₇ => ?_)
    replace hz₇ : IsZip2 h₇ z TI TO (rawInt h₅.objs.size) f₀ := hz₇
    refine wpAny_setField_rec hz₇ (by simp) fun h₈ hz₈ hs₈ => ?_
    replace hz₈ : IsZip2 h₈ z TI TO (rawInt h₅.objs.size) false := hz₈
    have up : ∀ c o, c ≠ z → h₅.get? c = some o → h₈.get? c = some o := fun c o c1 e => hs₈.extBut _ _ c1 (hs₇.extBut _ _ c1 (Heap.get?_push_of_some _ e))
    have hT₈ : IsPair h₈ h₅.objs.size x y := hs₈.extBut _ _ (Nat.ne_of_gt hzlt) (hs₇.extBut _ _ (Nat.ne_of_gt hzlt) (Heap.get?_push_size _ rfl))
    have hz8 : h₈.objs.size = h₅.objs.size + 1 := by rw [hs₈.1, hs₇.1, Heap.size_push]
    refine wpAny_pure ⟨_, rfl, wpAny_pure ?_⟩
    show Q (.ref h₅.objs.size) _
    rw [hsz] at hT₈ hz8 ⊢
    exact hQ h₈ _ _ hz₈ (.inr ⟨_, rfl⟩) ⟨_, _, up _ _ D.TOz hTO₅⟩ (h1₅.at fun o e => up _ o D.i1z e) (h2₅.at fun o e => up _ o D.i2z e) hT₈ hz8 fun c o c1 c2 c3 c4 e => up c o c1 (hk₅ c o c1 c2 c3 c4 e)
  | false =>
    simp only [Bool.false_eq_true, if_false]
    refine wpAny_bind ?_
    rw [← Array.forIn_toList]
    simp only [List.forIn_cons, List.forIn_nil]
    refine wpAny_bind (wpAny_bind (wpAny_holding ?_))
    show wpAny _ _ (Builtin.SmallTypes.nextOf (.ref i1) >>= _) _ _ _
    refine wpAny_bind (RZ.nextOf_tuple_item (s := { s with heap := h₀ }) (h1.extBut hs₀.extBut D.i1z) (hl1.extBut hs₀.extBut D.l1z) hx fun h₂ h1₂ hs₂ => wpAny_pure ?_)
    refine wpAny_pure ?_
    refine wpAny_bind (wpAny_bind (wpAny_holding ?_))
    show wpAny _ _ (Builtin.SmallTypes.nextOf (.ref i2) >>= _) _ _ _
    refine wpAny_bind (RZ.nextOf_tuple_item (s := { s with heap := h₂ }) ((h2.extBut hs₀.extBut D.i2z).extBut hs₂.extBut D.i12.symm) ((hl2.extBut hs₀.extBut D.l2z).extBut hs₂.extBut D.l2i1) hy fun h₃ h2₃ hs₃ => wpAny_pure ?_)
    refine wpAny_pure (wpAny_pure ?_)
    show wpAny _ _ (newTuple [x, y] >>= _) _ _ _
    refine wpAny_bind (wpAny_newTuple ?_)
    have hsz : h₃.objs.size = s.heap.objs.size := by rw [hs₃.1, hs₂.1, hs₀.1]
    have hz₃ : IsZip2 h₃ z TI TO v0 f₀ := hs₃.extBut _ _ D.i2z.symm (hs₂.extBut _ _ D.i1z.symm hz₀)
    have hk : ∀ c o, c ≠ z → c ≠ i1 → c ≠ i2 → s.heap.get? c = some o → h₃.get? c = some o := fun c o c1 c2 c3 e => hs₃.extBut _ _ c3 (hs₂.extBut _ _ c2 (hs₀.extBut _ _ c1 e))
    have h1₃ : h₃.IsTupleIter i1 l1 (k + 1) := h1₂.extBut hs₃.extBut D.i12
    refine wpAny_pure ⟨_, rfl, wpAny_pure ?_⟩
    show Q (.ref h₃.objs.size) _
    have hp : IsPair (h₃.push { cls := .type "tuple", data := .seq #[x, y] }) h₃.objs.size x y := Heap.get?_push_size _ rfl
    have hz4 : (h₃.push { cls := .type "tuple", data := .seq #[x, y] }).objs.size = h₃.objs.size + 1 := Heap.size_push ..
    rw [hsz] at hp hz4 ⊢
    exact hQ _ _ _ (Heap.get?_push_of_some _ hz₃) hv ⟨_, _, Heap.get?_push_of_some _ (hk _ _ D.TOz D.TOi1 D.TOi2 hTO)⟩ (h1₃.at fun o e => Heap.get?_push_of_some _ e) (h2₃.at fun o e => Heap.get?_push_of_some _ e) hp hz4
      fun c o c1 _ c2 c3 e => Heap.get?_push_of_some _ (hk c o c1 c2 c3 e)

theorem zip2_end {z TI TO i1 i2 l1 l2 : Addr} {v0 : Value} {f : Bool} {k : Nat} {xs ys : Array Value} {a b : Value} {Q : Value → Shared → Prop} (hh : A.handled = none) (D : ZipApart z TI TO i1 i2 l1 l2)
    (hz : IsZip2 s.heap z TI TO v0 f) (hv : ZOut v0) (hTI : IsPair s.heap TI (.ref i1) (.ref i2)) (hTO : IsPair s.heap TO a b)
    (h1 : s.heap.IsTupleIter i1 l1 k) (h2 : s.heap.IsTupleIter i2 l2 k) (hl1 : s.heap.IsTuple l1 xs) (hl2 : s.heap.IsTuple l2 ys) (hend : xs[k]? = none ∨ ys[k]? = none)
    (hE : ∀ h' e, (∀ c o, c ≠ z → c ≠ TO → c ≠ i1 → c ≠ i2 → s.heap.get? c = some o → h'.get? c = some o) → (∃ o, h'.get? e = some o ∧ o.cls = .type "StopIteration") → E (.ref e) { s with heap := h' }) :
    wpAny (model prog w) A (Builtin.SmallTypes.nextOf (.ref z)) Q E s := by
  have hT : s.TypeIs (.ref z) "zip" := ⟨_, hz, rfl⟩
  unfold Builtin.SmallTypes.nextOf
  refine wpAny_bind (wpAny_callSpecial?_slot (name := Str.ofString "__next__") hT F.slot_zip_next
    (wpAny_call_entry F.slot_zip_next hT F.entry_zip_next ?_ (F.args_zip_next_1 _)))
  show wpAny _ _ (field (.ref z) 2 >>= _) _ _ _
  refine wpAny_bind (wpAny_field hz rfl (x := .bool false) rfl ?_)
  show wpAny _ _ (field (.ref z) 3 >>= _) _ _ _
  refine wpAny_bind (wpAny_field hz rfl (x := .ref TI) rfl ?_)
  refine wpAny_bind (wpAny_seqItems hTI rfl ?_)
  show wpAny _ _ (Builtin.SmallTypes.ownedTupleIsFree (.ref z) >>= _) _ _ _
  refine wpAny_bind (free_zip hz hv fun b0 h₀ f₀ hz₀ hs₀ => ?_)
  cases b0 with
  | true =>
    simp only [if_true]
    refine wpAny_bind (wpAny_rule ?_)
    refine wpAny_bind (wpAny_field hz₀ rfl (x := .ref TO) rfl ?_)
    refine wpAny_bind (wpAny_setField_rec hz₀ (by simp) fun h₁ hz₁ hs₁ => ?_)
    replace hz₁ : IsZip2 h₁ z TI TO .ellipsis f₀ := hz₁
    refine wpAny_bind ?_
    simp only [List.zipIdx_cons, List.zipIdx_nil, List.forIn_cons, List.forIn_nil]
    refine wpAny_bind (wpAny_bind (wpAny_onRaise ?_))
    show wpAny _ _ (Builtin.SmallTypes.nextOf (.ref i1) >>= _) _ _ _
    cases hx : xs[k]? with
    | none =>
      refine wpAny_bind (RZ.nextOf_tuple_end hh ((h1.extBut hs₀.extBut D.i1z).extBut hs₁.extBut D.i1z) ((hl1.extBut hs₀.extBut D.l1z).extBut hs₁.extBut D.l1z) hx fun h₂ e hs₂ he => ?_)
      obtain ⟨oe, hoe, hce⟩ := he
      have hz₂ : IsZip2 h₂ z TI TO .ellipsis f₀ := hs₂ _ _ D.i1z.symm hz₁
      have hez : e ≠ z := fun x => by subst x; rw [hz₂] at hoe; cases hoe; simp at hce
      refine wpAny_setField_rec hz₂ (by simp) fun h₃ _ hs₃ => hE h₃ e (fun c o c1 _ c3 _ x => hs₃.extBut _ _ c1 (hs₂ _ _ c3 (hs₁.extBut _ _ c1 (hs₀.extBut _ _ c1 x)))) ⟨oe, hs₃.extBut _ _ hez hoe, hce⟩
    | some x =>
      have hy : ys[k]? = none := by rcases hend with h | h; rw [hx] at h; cases h; exact h
      refine wpAny_bind (RZ.nextOf_tuple_item ((h1.extBut hs₀.extBut D.i1z).extBut hs₁.extBut D.i1z) ((hl1.extBut hs₀.extBut D.l1z).extBut hs₁.extBut D.l1z) hx fun h₂ h1₂ hs₂ => wpAny_pure ?_)
      have hTO₂ : IsPair h₂ TO a b := hs₂.extBut _ _ D.TOi1 (hs₁.extBut _ _ D.TOz (hs₀.extBut _ _ D.TOz hTO))
      refine wpAny_bind (wpAny_seqItems hTO₂ rfl ?_)
      refine wpAny_bind (wpAny_updateSeq_pair hTO₂ fun h₃ hTO₃ hs₃ => ?_)
      refine wpAny_bind (wpAny_letGo (wpAny_pure ?_))
      refine wpAny_bind (wpAny_bind (wpAny_onRaise ?_))
      show wpAny _ _ (Builtin.SmallTypes.nextOf (.ref i2) >>= _) _ _ _
      refine wpAny_bind (RZ.nextOf_tuple_end hh ((((h2.extBut hs₀.extBut D.i2z).extBut hs₁.extBut D.i2z).extBut hs₂.extBut D.i12.symm).extBut hs₃.extBut D.TOi2.symm)
        ((((hl2.extBut hs₀.extBut D.l2z).extBut hs₁.extBut D.l2z).extBut hs₂.extBut D.l2i1).extBut hs₃.extBut D.l2TO) hy fun h₄ e hs₄ he => ?_)
      obtain ⟨oe, hoe, hce⟩ := he
      have hz₄ : IsZip2 h₄ z TI TO .ellipsis f₀ := hs₄ _ _ D.i2z.symm (hs₃.extBut _ _ D.TOz.symm (hs₂.extBut _ _ D.i1z.symm hz₁))
      have hez : e ≠ z := fun x => by subst x; rw [hz₄] at hoe; cases hoe; simp at hce
      refine wpAny_setField_rec hz₄ (by simp) fun h₅ _ hs₅ => hE h₅ e (fun c o c1 c2 c3 c4 x => hs₅.extBut _ _ c1 (hs₄ _ _ c4 (hs₃.extBut _ _ c2 (hs₂.extBut _ _ c3 (hs₁.extBut _ _ c1 (hs₀.extBut _ _ c1 x)))))) ⟨oe, hs₅.extBut _ _ hez hoe, hce⟩
  | false =>
    simp only [Bool.false_eq_true, if_false]
    refine wpAny_bind ?_
    rw [← Array.forIn_toList]
    simp only [List.forIn_cons, List.forIn_nil]
    refine wpAny_bind (wpAny_bind (wpAny_holding ?_))
    show wpAny _ _ (Builtin.SmallTypes.nextOf (.ref i1) >>= _) _ _ _
    cases hx : xs[k]? with
    | none =>
      refine wpAny_bind (RZ.nextOf_tuple_end (s := { s with heap := h₀ }) hh (h1.extBut hs₀.extBut D.i1z) (hl1.extBut hs₀.extBut D.l1z) hx fun h₂ e hs₂ he => ?_)
      exact hE h₂ e (fun c o c1 _ c2 _ x => hs₂ _ _ c2 (hs₀.extBut _ _ c1 x)) he
    | some x =>
      have hy : ys[k]? = none := by rcases hend with h | h; rw [hx] at h; cases h; exact h
      refine wpAny_bind (RZ.nextOf_tuple_item (s := { s with heap := h₀ }) (h1.extBut hs₀.extBut D.i1z) (hl1.extBut hs₀.extBut D.l1z) hx fun h₂ h1₂ hs₂ => wpAny_pure ?_)
      refine wpAny_pure ?_
      refine wpAny_bind (wpAny_bind (wpAny_holding ?_))
      show wpAny _ _ (Builtin.SmallTypes.nextOf (.ref i2) >>= _) _ _ _
      refine wpAny_bind (RZ.nextOf_tuple_end (s := { s with heap := h₂ }) hh ((h2.extBut hs₀.extBut D.i2z).extBut hs₂.extBut D.i12.symm) ((hl2.extBut hs₀.extBut D.l2z).extBut hs₂.extBut D.l2i1) hy fun h₃ e hs₃ he => ?_)
      exact hE h₃ e (fun c o c1 _ c2 c3 x => hs₃ _ _ c3 (hs₂.extBut _ _ c2 (hs₀.extBut _ _ c1 x))) he

structure EApart (e z TO i1 i2 : Addr) : Prop where
  z : e ≠ z
  o : e ≠ TO
  a : e ≠ i1
  b : e ≠ i2
theorem enumZ_item {e z TI TO i1 i2 l1 l2 : Addr} {v0 old : Value} {f : Bool} {k : Nat} {xs ys : Array Value} {x y a b : Value} {Q : Option Value → Shared → Prop} (D : ZipApart z TI TO i1 i2 l1 l2) (De : EApart e z TO i1 i2)
    (he : IsEnum s.heap e z (k : Int) old) (hz : IsZip2 s.heap z TI TO v0 f) (hv : ZOut v0) (hTI : IsPair s.heap TI (.ref i1) (.ref i2)) (hTO : IsPair s.heap TO a b)
    (h1 : s.heap.IsTupleIter i1 l1 k) (h2 : s.heap.IsTupleIter i2 l2 k) (hl1 : s.heap.IsTuple l1 xs) (hl2 : s.heap.IsTuple l2 ys) (hx : xs[k]? = some x) (hy : ys[k]? = some y)
    (hQ : ∀ h' v' f', IsEnumOut h' e z ((k : Int) + 1) (.ref s.heap.objs.size) (s.heap.objs.size + 1) → IsZip2 h' z TI TO v' f' → ZOut v' → (∃ a b, IsPair h' TO a b) → h'.IsTupleIter i1 l1 (k + 1) → h'.IsTupleIter i2 l2 (k + 1) → IsPair h' s.heap.objs.size x y →
      h'.get? (s.heap.objs.size + 1) = some { cls := .type "tuple", data := .seq #[.int k s.toks, .ref s.heap.objs.size] } → h'.objs.size = s.heap.objs.size + 2 →
      (∀ c o, c ≠ e → c ≠ z → c ≠ TO → c ≠ i1 → c ≠ i2 → s.heap.get? c = some o → h'.get? c = some o) → Q (some (.ref (s.heap.objs.size + 1))) { s with heap := h', toks := s.toks + 1 }) :
    wpAny (model prog w) A (pyNext (.ref e)) Q E s := by
  have hTy : s.TypeIs (.ref e) "enumerate" := ⟨_, he, rfl⟩
  unfold pyNext
  refine wpAny_bind (wpAny_attempt (wpAny_callSpecial?_slot (name := Str.ofString "__next__") hTy F.slot_enumerate_next
    (wpAny_call_entry F.slot_enumerate_next hTy F.entry_enumerate_next ?_ (F.args_enumerate_next_1 _))))
  obtain ⟨hp, g, d, tk, os⟩ := s
  show wpAny _ _ (field (.ref e) 2 >>= _) _ _ _
  refine wpAny_bind (wpAny_field he rfl (x := .ref z) rfl ?_)
  refine wpAny_bind (zip2_item D hz hv hTI hTO h1 h2 hl1 hl2 hx hy fun h₁ v₁ f₁ hz₁ hv₁ hTO₁ h1₁ h2₁ hp₁ sz₁ hk₁ => ?_)
  replace hk₁ : ∀ c o, c ≠ z → c ≠ TO → c ≠ i1 → c ≠ i2 → hp.get? c = some o → h₁.get? c = some o := hk₁
  replace hp₁ : IsPair h₁ hp.objs.size x y := hp₁
  replace sz₁ : h₁.objs.size = hp.objs.size + 1 := sz₁
  have he₁ : IsEnum h₁ e z (k : Int) old := hk₁ _ _ De.z De.o De.a De.b he
  show wpAny _ _ (field (.ref e) 3 >>= _) _ _ ⟨h₁, g, d, tk, os⟩
  refine wpAny_bind (wpAny_field he₁ rfl (x := rawInt k) rfl ?_)
  show wpAny _ _ (field (.ref e) 4 >>= _) _ _ ⟨h₁, g, d, tk, os⟩
  refine wpAny_bind (wpAny_field he₁ rfl (x := .none) rfl ?_)
  show wpAny _ _ (mkInt k >>= _) _ _ ⟨h₁, g, d, tk, os⟩
  refine wpAny_bind (wpAny_mkInt ?_)
  show wpAny _ _ (setField (.ref e) 3 (rawInt ((k : Int) + 1)) >>= _) _ _ ⟨h₁, g, d, tk + 1, os⟩
  refine wpAny_bind (wpAny_setField_rec he₁ (by simp) fun h₂ he₂ hs₂ => ?_)
  replace hs₂ : Heap.SameBut e h₁ h₂ := hs₂
  replace he₂ : IsEnum h₂ e z ((k : Int) + 1) old := he₂
  show wpAny _ _ (setField (.ref e) 4 .none >>= _) _ _ ⟨h₂, g, d, tk + 1, os⟩
  refine wpAny_bind (wpAny_setField_rec he₂ (by simp) fun h₃ he₃ hs₃ => ?_)
  replace hs₃ : Heap.SameBut e h₂ h₃ := hs₃
  replace he₃ : IsEnum h₃ e z ((k : Int) + 1) old := he₃
  show wpAny _ _ (newTuple [.int k tk, .ref hp.objs.size] >>= _) _ _ ⟨h₃, g, d, tk + 1, os⟩
  refine wpAny_bind (wpAny_newTuple ?_)
  have he₄ : IsEnum (h₃.push { cls := .type "tuple", data := .seq #[.int k tk, .ref hp.objs.size] }) e z ((k : Int) + 1) old := Heap.get?_push_of_some _ he₃
  generalize hh₄ : h₃.push { cls := .type "tuple", data := .seq #[.int k tk, .ref hp.objs.size] } = h₄ at he₄
  have hsz : h₃.objs.size = hp.objs.size + 1 := by rw [hs₃.1, hs₂.1, sz₁]
  have hel : e < hp.objs.size := Heap.lt_size he
  have ht₄ : h₄.get? (hp.objs.size + 1) = some { cls := .type "tuple", data := .seq #[.int k tk, .ref hp.objs.size] } := by rw [← hh₄, ← hsz]; exact Heap.get?_push_size _ rfl
  have hz₄ : h₄.objs.size = hp.objs.size + 2 := by rw [← hh₄, Heap.size_push, hsz]
  have up : ∀ c o, c ≠ e → h₁.get? c = some o → h₄.get? c = some o := fun c o hc hb => by
    rw [← hh₄]; exact Heap.get?_push_of_some _ (hs₃.extBut c o hc (hs₂.extBut c o hc hb))
  show wpAny _ _ (Builtin.SmallTypes.ownedTupleIsFree (.ref e) >>= _) _ _ ⟨h₄, g, d, tk + 1, os⟩
  rw [hsz]
  clear hh₄ he₃ hs₃ he₂ hs₂ hsz h₃ h₂
  refine wpAny_bind ?_
  unfold Builtin.SmallTypes.ownedTupleIsFree
  refine wpAny_bind (wpAny_field he₄ rfl (x := .none) rfl (wpAny_pure ?_))
  simp only [if_true]
  refine wpAny_bind (wpAny_rule ?_)
  refine wpAny_bind (wpAny_field he₄ rfl (x := old) rfl ?_)
  refine wpAny_bind (wpAny_setField_rec he₄ (by simp) fun h₅ he₅ hs₅ => ?_)
  replace hs₅ : Heap.SameBut e h₄ h₅ := hs₅
  replace he₅ : IsEnum h₅ e z ((k : Int) + 1) (.ref hp.objs.size) := he₅
  show wpAny _ _ (Builtin.SmallTypes.ownedTupleHandOut (.ref e) (.ref (hp.objs.size + 1)) >>= _) _ _ ⟨h₅, g, d, tk + 1, os⟩
  refine wpAny_bind ?_
  unfold Builtin.SmallTypes.ownedTupleHandOut
  refine wpAny_bind (wpAny_setField_rec he₅ (by simp) fun h₆ he₆ hs₆ => ?_)
  replace hs₆ : Heap.SameBut e h₅ h₆ := hs₆
  replace he₆ : IsEnumOut h₆ e z ((k : Int) + 1) (.ref hp.objs.size) (hp.objs.size + 1) := he₆
  refine wpAny_setField_rec he₆ (by simp) fun h₇ he₇ hs₇ => ?_
  replace hs₇ : Heap.SameBut e h₆ h₇ := hs₇
  replace he₇ : IsEnumOut h₇ e z ((k : Int) + 1) (.ref hp.objs.size) (hp.objs.size + 1) := he₇
  have up4 : ∀ c o, c ≠ e → h₄.get? c = some o → h₇.get? c = some o := fun c o hc hb => hs₇.extBut c o hc (hs₆.extBut c o hc (hs₅.extBut c o hc hb))
  have up7 : ∀ c o, c ≠ e → h₁.get? c = some o → h₇.get? c = some o := fun c o hc hb => up4 c o hc (up c o hc hb)
  refine wpAny_bind (wpAny_letGo (wpAny_pure ⟨_, rfl, wpAny_pure ?_⟩))
  obtain ⟨a', b', hTO₁⟩ := hTO₁
  refine hQ h₇ v₁ f₁ he₇ (up7 _ _ De.z.symm hz₁) hv₁ ⟨a', b', up7 _ _ De.o.symm hTO₁⟩ (h1₁.at fun o q => up7 _ o De.a.symm q) (h2₁.at fun o q => up7 _ o De.b.symm q) (up7 _ _ (Nat.ne_of_gt hel) hp₁)
    (up4 _ _ (Nat.ne_of_gt (Nat.lt_succ_of_lt hel)) ht₄) ?_ fun c o c0 c1 c2 c3 c4 q => up7 c o c0 (hk₁ c o c1 c2 c3 c4 q)
  show h₇.objs.size = hp.objs.size + 2
  rw [hs₇.1, hs₆.1, hs₅.1, hz₄]
theorem enumZ_end {e z TI TO i1 i2 l1 l2 : Addr} {v0 old : Value} {f : Bool} {k : Nat} {xs ys : Array Value} {a b : Value} {Q : Option Value → Shared → Prop} (hh : A.handled = none) (D : ZipApart z TI TO i1 i2 l1 l2)
    (he : IsEnum s.heap e z (k : Int) old) (hz : IsZip2 s.heap z TI TO v0 f) (hv : ZOut v0) (hTI : IsPair s.heap TI (.ref i1) (.ref i2)) (hTO : IsPair s.heap TO a b)
    (h1 : s.heap.IsTupleIter i1 l1 k) (h2 : s.heap.IsTupleIter i2 l2 k) (hl1 : s.heap.IsTuple l1 xs) (hl2 : s.heap.IsTuple l2 ys) (hend : xs[k]? = none ∨ ys[k]? = none)
    (hQ : ∀ h', (∀ c o, c ≠ z → c ≠ TO → c ≠ i1 → c ≠ i2 → s.heap.get? c = some o → h'.get? c = some o) → Q none { s with heap := h' }) : wpAny (model prog w) A (pyNext (.ref e)) Q E s := by
  have hTy : s.TypeIs (.ref e) "enumerate" := ⟨_, he, rfl⟩
  unfold pyNext
  refine wpAny_bind (wpAny_attempt (wpAny_callSpecial?_slot (name := Str.ofString "__next__") hTy F.slot_enumerate_next
    (wpAny_call_entry F.slot_enumerate_next hTy F.entry_enumerate_next ?_ (F.args_enumerate_next_1 _))))
  show wpAny _ _ (field (.ref e) 2 >>= _) _ _ _
  refine wpAny_bind (wpAny_field he rfl (x := .ref z) rfl ?_)
  refine wpAny_bind (zip2_end hh D hz hv hTI hTO h1 h2 hl1 hl2 hend fun h' e' hk he' => ?_)
  obtain ⟨o, ho, hc⟩ := he'
  refine wpAny_bind (wpAny_isInstance (T := "StopIteration") (b := true) ⟨o, ho, hc⟩ isSubtype_stop ?_)
  exact wpAny_pure (hQ _ hk)
theorem meets_enum_zip (z TI TO : Addr) :
    Meets (Builtin.«enumerate.__new__» ⟨[.type "enumerate", .ref z], []⟩) (fun _ R s => IsZip s.heap z TI TO .none ∧
      R (.ok (.ret (.ref s.heap.objs.size))) { s with heap := s.heap.push { cls := .type "enumerate", data := .fields #[.none, .bool false, .ref z, rawInt 0, .none, .none] } }) :=
  .of_wp fun prog w A R s h => by
    obtain ⟨hp, g, d, tk, os⟩ := s; obtain ⟨hl, h⟩ := h
    have hsub := sub_enumerate
    have q1 : ∀ {A' : Around} {E : Value → Shared → Prop} {Q : Value → Shared → Prop}, Q (.ref z) ⟨hp, g, d, tk, os⟩ → wpAny (model prog w) A' (pyIter (.ref z)) Q E ⟨hp, g, d, tk, os⟩ :=
      fun q => wpAny_pyIter_zip (s := ⟨hp, g, d, tk, os⟩) hl q
    wp_walk using q1
    refine wpAny_stack_any fun st => wpAny_pure ?_
    split
    · rename_i c _ _ _ _ _
      cases (c == Value.type "enumerate")
      · wp_walk using q1
        exact ⟨_, rfl, h⟩
      · wp_walk using q1
        exact ⟨_, rfl, h⟩
    · wp_walk using q1
      exact ⟨_, rfl, h⟩
theorem call_enum_zip {z TI TO : Addr} {Q : Value → Shared → Prop} (hz : IsZip s.heap z TI TO .none)
    (h : ∀ h', IsEnum h' s.heap.objs.size z 0 .none → h'.objs.size = s.heap.objs.size + 1 → (∀ b o, s.heap.get? b = some o → h'.get? b = some o) → Q (.ref s.heap.objs.size) { s with heap := h' }) :
    wpAny (model prog w) A (call (.type "enumerate") [.ref z]) Q E s := by
  refine callType_new F.called_enumerate (by decide) (F.typeCall_enumerate_1 _) (F.newCall_enumerate_1 _) (fun obj => F.args_object_init_2 obj _) F.entry_enumerate_new
    (meets_enum_zip z TI TO) ⟨hz, ?_⟩
  have he : IsEnum (s.heap.push { cls := .type "enumerate", data := .fields #[.none, .bool false, .ref z, rawInt 0, .none, .none] }) s.heap.objs.size z 0 .none := Heap.get?_push_size s.heap (o := { cls := .type "enumerate", data := .fields #[.none, .bool false, .ref z, rawInt 0, .none, .none] }) rfl
  exact ⟨⟨_, he, rfl⟩, h _ he (Heap.size_push ..) fun b o x => Heap.get?_push_of_some _ x⟩
end
end Gz
/-! G11: enumerate(zip(t, u)) as what is walked; tuple[::-1]; three names at once. -/
namespace Gz
open PySem L2 PyProof.Rows
/-- the tuples at a and b: the number and a new pair, in a new pair -/
def Itez (K : PySem.W.Frag) (a b : Addr) : It :=
  ⟨fun i H => ∃ (xs ys : List V) (x y : V), SqT K H a xs ∧ SqT K H b ys ∧ xs[i]? = some x ∧ ys[i]? = some y,
    fun i H v H' => ∃ T U x y, v = .ref U ∧ H T = none ∧ H U = none ∧ T ≠ U ∧ H' = upd (upd H T (.tup [x, y])) U (.tup [.int (i : Nat), .ref T]) ∧ (∀ xs, SqT K H a xs → xs[i]? = some x) ∧ ∀ ys, SqT K H b ys → ys[i]? = some y,
    fun i H => ∃ xs ys : List V, SqT K H a xs ∧ SqT K H b ys ∧ (xs.length ≤ i ∨ ys.length ≤ i)⟩
def EzSt (e z TI TO i1 i2 a b : Addr) (i : Nat) (h : Heap) : Prop :=
  (∃ old, IsEnum h e z ((i : Nat) : Int) old) ∧ (∃ v f, IsZip2 h z TI TO v f ∧ ZOut v) ∧ IsPair h TI (.ref i1) (.ref i2) ∧ (∃ x y, IsPair h TO x y) ∧ h.IsTupleIter i1 a i ∧ h.IsTupleIter i2 b i
theorem turn_ez {P : Program} {w : World} {K : PySem.W.Frag} {elts : List Expr} {kk : Nat} {tpos : Pos} {a b e z TI TO i1 i2 : Addr} (D : ZipApart z TI TO i1 i2 a b) (De : EApart e z TO i1 i2) (hTe : TI ≠ e) :
    Turn P w K (.Tuple elts kk tpos) (Itez K a b) [e, z, TI, TO, i1, i2] e (EzSt e z TI TO i1 i2 a b) where
  mem := by simp
  obj := fun i h st c hc => by
    obtain ⟨⟨old, he⟩, ⟨v, f, hz, hv⟩, hTI, ⟨x, y, hTO⟩, ⟨o1, e1, _, d1⟩, ⟨o2, e2, _, d2⟩⟩ := st
    have e' : c = e ∨ c = z ∨ c = TI ∨ c = TO ∨ c = i1 ∨ c = i2 := by simpa using hc
    rcases e' with q | q | q | q | q | q
    · rw [q]; exact ⟨_, he, fun v q => nomatch q⟩
    · rw [q]; exact ⟨_, hz, fun v q => nomatch q⟩
    · rw [q]; exact ⟨_, hTI, fun v q => nomatch q⟩
    · rw [q]; exact ⟨_, hTO, fun v q => nomatch q⟩
    · rw [q]; exact ⟨o1, e1, fun v q => by rw [d1] at q; cases q⟩
    · rw [q]; exact ⟨o2, e2, fun v q => by rw [d2] at q; cases q⟩
  keep := fun i h h' st k => by
    obtain ⟨⟨old, he⟩, ⟨v, f, hz, hv⟩, hTI, ⟨x, y, hTO⟩, h1, h2⟩ := st
    exact ⟨⟨old, k e (by simp) _ he⟩, ⟨v, f, k z (by simp) _ hz, hv⟩, k TI (by simp) _ hTI, ⟨x, y, k TO (by simp) _ hTO⟩, h1.at fun o q => k i1 (by simp) o q, h2.at fun o q => k i2 (by simp) o q⟩
  item := by
    intro X hP hw hK hc i pins s σ H E I hf st hg
    subst hP hw hK
    obtain ⟨⟨old, he⟩, ⟨v, f, hz, hv⟩, hTI, ⟨x0, y0, hTO⟩, h1, h2⟩ := st
    obtain ⟨xs, ys, x, y, hqx, hqy, hx, hy⟩ := hg
    obtain ⟨its, rv, p, _⟩ := I.tuple hqx
    obtain ⟨its2, rv2, p2, _⟩ := I.tuple hqy
    obtain ⟨u, hu, ru⟩ := rv.get hx
    obtain ⟨u2, hu2, ru2⟩ := rv2.get hy
    have hel : e < s.heap.objs.size := Heap.lt_size he
    have hzl : z < s.heap.objs.size := Heap.lt_size hz
    have hTIl : TI < s.heap.objs.size := Heap.lt_size hTI
    have hTOl : TO < s.heap.objs.size := Heap.lt_size hTO
    have h1l : i1 < s.heap.objs.size := by obtain ⟨_, e1, _⟩ := h1; exact Heap.lt_size e1
    have h2l : i2 < s.heap.objs.size := by obtain ⟨_, e2, _⟩ := h2; exact Heap.lt_size e2
    refine enumZ_item D De he hz hv hTI hTO h1 h2 p p2 (x := u) (y := u2) (by simpa using hu) (by simpa using hu2) fun h' v' f' ho z' hv' TO' h1' h2' hT hU hsz hk => ?_
    refine ⟨_, rfl, wpAny_letOwnedTupleGo_enum (s := { s with heap := h', toks := s.toks + 1 }) ho fun h'' he' sb => ?_⟩
    replace sb : Heap.SameBut e h' h'' := sb
    have hT2 : h''.get? s.heap.objs.size = some { cls := .type "tuple", data := .seq #[u, u2] } := (sb.2 _ (Nat.ne_of_gt hel)).trans hT
    have hU2 : h''.get? (s.heap.objs.size + 1) = some { cls := .type "tuple", data := .seq #[.int i s.toks, .ref s.heap.objs.size] } := (sb.2 _ (Nat.ne_of_gt (Nat.lt_succ_of_lt hel))).trans hU
    have new : ObjOk X.prog X.w (upd H s.heap.objs.size (.tup [x, y])) h'' s.heap.objs.size (.tup [x, y]) :=
      ⟨by show 2 ≤ sizeLine; decide, [u, u2], .cons ru (.cons ru2 .nil), ⟨_, hT2, rfl, _, rfl⟩⟩
    have hn0 : H s.heap.objs.size = none := I.hok.fresh (Nat.le_refl _)
    have hn1 : H (s.heap.objs.size + 1) = none := I.hok.fresh (Nat.le_succ _)
    have ne : s.heap.objs.size + 1 ≠ s.heap.objs.size := Nat.succ_ne_self _
    obtain ⟨G, g1, g2⟩ := restrict h'' fun b => decide (b ≠ s.heap.objs.size + 1)
    have gk : ∀ c o, c ≠ s.heap.objs.size + 1 → h''.get? c = some o → G.get? c = some o := fun c o hc q => by rw [g1 c (decide_eq_true hc)]; exact q
    have gs : ∀ c o, G.get? c = some o → h''.get? c = some o := fun c o q => by
      by_cases hc : c = s.heap.objs.size + 1
      · rw [hc, g2 _ (decide_eq_false fun z => z rfl)] at q
        cases q
      · rw [← g1 c (decide_eq_true hc)]
        exact q
    have newG : ObjOk X.prog X.w (upd H s.heap.objs.size (.tup [x, y])) G s.heap.objs.size (.tup [x, y]) :=
      ⟨by show 2 ≤ sizeLine; decide, [u, u2], .cons ru (.cons ru2 .nil), ⟨_, gk _ _ ne.symm hT2, rfl, _, rfl⟩⟩
    have I1 : Inv X pins σ (upd H s.heap.objs.size (.tup [x, y])) { s with heap := G, toks := s.toks + 1 } :=
      I.turnedNew (ch := [e, z, TI, TO, i1, i2]) (fun c o hb q => gk c o (fun q' => by rw [q'] at q; exact absurd (Heap.lt_size q) (Nat.not_lt_of_le (Nat.le_succ _))) ((sb.2 c (fun q' => hb (by simp [q']))).trans (hk c o (fun q' => hb (by simp [q'])) (fun q' => hb (by simp [q'])) (fun q' => hb (by simp [q'])) (fun q' => hb (by simp [q'])) (fun q' => hb (by simp [q'])) q))) hf (Nat.le_refl _) newG
    have new2 : ObjOk X.prog X.w (upd (upd H s.heap.objs.size (.tup [x, y])) (s.heap.objs.size + 1) (.tup [.int (i : Nat), .ref s.heap.objs.size])) h'' (s.heap.objs.size + 1) (.tup [.int (i : Nat), .ref s.heap.objs.size]) :=
      ⟨by show 2 ≤ sizeLine; decide, [.int i s.toks, .ref s.heap.objs.size], .cons ⟨_, rfl⟩ (.cons rfl .nil), ⟨_, hU2, rfl, _, rfl⟩⟩
    have I2 : Inv X pins σ (upd (upd H s.heap.objs.size (.tup [x, y])) (s.heap.objs.size + 1) (.tup [.int (i : Nat), .ref s.heap.objs.size])) { s with heap := h'', toks := s.toks + 1 } :=
      I1.laidN (h' := h'') (t' := s.toks + 1) gs (g2 _ (decide_eq_false fun z => z rfl)) (by rw [upd_ne ne]; exact hn1) new2
    have up : ∀ c o, c ≠ e → h'.get? c = some o → h''.get? c = some o := fun c o hc q => (sb.2 c hc).trans q
    obtain ⟨x1, y1, TO'⟩ := TO'
    refine ⟨.ref (s.heap.objs.size + 1), _, I2, rfl, ⟨_, _, x, y, rfl, hn0, hn1, ne.symm, rfl, fun l hl => by rw [I.tuple_inj hl hqx]; exact hx, fun l hl => by rw [I.tuple_inj hl hqy]; exact hy⟩, ⟨⟨.ref s.heap.objs.size, ?_⟩, ⟨v', f', up _ _ De.z.symm z', hv'⟩, ?_, ⟨x1, y1, up _ _ De.o.symm TO'⟩, h1'.at fun o q => up _ o De.a.symm q, h2'.at fun o q => up _ o De.b.symm q⟩, fun c hcm => ?_⟩
    · have e1 : ((i + 1 : Nat) : Int) = (i : Int) + 1 := by omega
      rw [e1]; exact he'
    · exact up _ _ hTe (hk _ _ hTe D.TIz D.TITO D.TIi1 D.TIi2 hTI)
    · have hlt : c < s.heap.objs.size := by
        have e' : c = e ∨ c = z ∨ c = TI ∨ c = TO ∨ c = i1 ∨ c = i2 := by simpa using hcm
        rcases e' with q | q | q | q | q | q
        · rw [q]; exact hel
        · rw [q]; exact hzl
        · rw [q]; exact hTIl
        · rw [q]; exact hTOl
        · rw [q]; exact h1l
        · rw [q]; exact h2l
      rw [upd_ne (Nat.ne_of_lt (Nat.lt_succ_of_lt hlt)), upd_ne (Nat.ne_of_lt hlt)]
      exact (hf c hcm).1
  done := by
    intro X hP hw hK hc i pins s σ H E I hf st hg
    subst hP hw hK
    obtain ⟨⟨old, he⟩, ⟨v, f, hz, hv⟩, hTI, ⟨x0, y0, hTO⟩, h1, h2⟩ := st
    obtain ⟨xs, ys, hqx, hqy, hend⟩ := hg
    obtain ⟨its, rv, p, _⟩ := I.tuple hqx
    obtain ⟨its2, rv2, p2, _⟩ := I.tuple hqy
    have l1 := rv.length
    have l2 := rv2.length
    have he2 : its.toArray[i]? = none ∨ its2.toArray[i]? = none := by
      rcases hend with q | q
      · exact .inl (by simp; omega)
      · exact .inr (by simp; omega)
    exact enumZ_end (I.ok.hd hc) D he hz hv hTI hTO h1 h2 p p2 he2 fun h' hk => ⟨rfl, I.turnedL (t' := s.toks) (ch := [e, z, TI, TO, i1, i2]) (fun c o hb q =>
      hk c o (fun q' => hb (by simp [q'])) (fun q' => hb (by simp [q'])) (fun q' => hb (by simp [q'])) (fun q' => hb (by simp [q'])) q) hf⟩
  self := fun A i s Q E st h => let ⟨⟨_, he⟩, _⟩ := st; wpAny_pyIter_enum he h

def iEzA (K : PySem.W.Frag) (ta : TA) : TI := fun σ H R => ta σ H fun vs H1 => ∃ a b xs ys, vs = [.ref a, .ref b] ∧ SqT K H1 a xs ∧ SqT K H1 b ys ∧ R (Itez K a b) H1
theorem pi_ez {X : Cx} {e e2 : Expr} {ta : TA} {p pos p2 pos2 tpos : Pos} {elts : List Expr} {kk : Nat} (hg : Gl X "zip") (hm : X.mg "zip" = none) (hge : Gl X "enumerate") (hme : X.mg "enumerate" = none) (ha : PA X [e, e2] ta)
    (hs : starEach [e, e2] X.env = (false, eval e X.env) :: starEach [e2] X.env := by rfl) (hpl : (backTo pos (starEach [e2] X.env)).any (·.1) = false := by rfl)
    (hs2 : starEach [.Call (.Name "zip" p) [e, e2] [] pos] X.env = [(false, eval (.Call (.Name "zip" p) [e, e2] [] pos) X.env)] := by rfl) :
    PI X (.Tuple elts kk tpos) (.Call (.Name "enumerate" p2) [.Call (.Name "zip" p) [e, e2] [] pos] [] pos2) (iEzA X.K ta) := by
  refine ⟨fun pins s σ H R I h => ?_⟩
  refine Call_ (ld_blt I hge hme boot_enumerate (PyProof.Rows.callWith_type1 ?_ hs2 rfl))
  rw [hs2]
  show wpAny _ _ (spliced ((false, eval (.Call (.Name "zip" p) [e, e2] [] pos) X.env) :: backTo pos2 [])) _ _ s
  refine Calls.spliced_cons ?_
  refine Call_ (ld_blt I hg hm PyProof.Rows.boot_zip (PyProof.Rows.callWith_type1 (thn (ha.run pos pins s σ H _ I h) fun us s1 ⟨vs, H1, I1, r1, q1⟩ => ?_) hs hpl))
  obtain ⟨a, b, xs, ys, ex, hqx, hqy, q⟩ := q1
  subst ex
  cases r1 with
  | cons r rr =>
    cases rr with
    | cons r' rr =>
      cases rr
      cases r
      cases r'
      have fresh6 : ∀ c, c ∈ [s1.heap.objs.size + 5, s1.heap.objs.size + 4, s1.heap.objs.size + 2, s1.heap.objs.size + 3, s1.heap.objs.size, s1.heap.objs.size + 1] → FpOk X pins H1 c := fun c hcm => by
        have e' : c = s1.heap.objs.size + 5 ∨ c = s1.heap.objs.size + 4 ∨ c = s1.heap.objs.size + 2 ∨ c = s1.heap.objs.size + 3 ∨ c = s1.heap.objs.size ∨ c = s1.heap.objs.size + 1 := by simpa using hcm
        have hle : s1.heap.objs.size ≤ c := by
          rcases e' with z | z | z | z | z | z
          · rw [z]; exact Nat.le_add_right _ _
          · rw [z]; exact Nat.le_add_right _ _
          · rw [z]; exact Nat.le_add_right _ _
          · rw [z]; exact Nat.le_add_right _ _
          · rw [z]; exact Nat.le_refl _
          · rw [z]; exact Nat.le_add_right _ _
        exact I1.fpOk hle (I1.hok.fresh hle)
      obtain ⟨its, rv, p1, _⟩ := I1.tuple hqx
      obtain ⟨its2, rv2, p2, _⟩ := I1.tuple hqy
      obtain ⟨o1, ho1, _⟩ := id p1
      obtain ⟨o2, ho2, _⟩ := id p2
      refine RZ.call_zipT (show s1.heap.IsTuple a its.toArray from p1) (show s1.heap.IsTuple b its2.toArray from p2) fun h' hz hTI hTO h1 h2 hsz hk => Calls.spliced_nil ?_
      refine call_enum_zip (s := { s1 with heap := h' }) hz fun h'' he hsz2 hk2 => wpAny_pyIter_enum he ?_
      replace he : IsEnum h'' h'.objs.size (s1.heap.objs.size + 4) 0 .none := he
      replace hk2 : ∀ c o, h'.get? c = some o → h''.get? c = some o := hk2
      rw [hsz] at he
      have I2 : Inv X pins σ H1 { s1 with heap := h'' } := I1.kept (t' := s1.toks) fun c o q => hk2 c o (hk c o q)
      have la : a < s1.heap.objs.size := Heap.lt_size ho1
      have lb : b < s1.heap.objs.size := Heap.lt_size ho2
      have De : EApart (s1.heap.objs.size + 5) (s1.heap.objs.size + 4) (s1.heap.objs.size + 3) s1.heap.objs.size (s1.heap.objs.size + 1) :=
        ⟨show (s1.heap.objs.size + 5 : Nat) ≠ s1.heap.objs.size + 4 by omega, show (s1.heap.objs.size + 5 : Nat) ≠ s1.heap.objs.size + 3 by omega, show (s1.heap.objs.size + 5 : Nat) ≠ s1.heap.objs.size by omega, show (s1.heap.objs.size + 5 : Nat) ≠ s1.heap.objs.size + 1 by omega⟩
      have q5 : (.ref h'.objs.size : Value) = .ref (s1.heap.objs.size + 5) := by rw [hsz]
      refine ⟨s1.heap.objs.size + 5, [s1.heap.objs.size + 5, s1.heap.objs.size + 4, s1.heap.objs.size + 2, s1.heap.objs.size + 3, s1.heap.objs.size, s1.heap.objs.size + 1], _, _, H1, q5, I2,
        turn_ez (PySem.W.ktu_apart s1.heap.objs.size a b la lb) De (show (s1.heap.objs.size + 2 : Nat) ≠ s1.heap.objs.size + 5 by omega), ?_, fresh6, q⟩
      exact ⟨⟨.none, he⟩, ⟨.none, false, hk2 _ _ hz, .inl rfl⟩, hk2 _ _ hTI, ⟨_, _, hk2 _ _ hTO⟩, h1.at fun o q => hk2 _ o q, h2.at fun o q => hk2 _ o q⟩
end Gz
/-! G12: the readings of tuple[::-1], enumerate(zip(t, u)), a, b, c = x, y, z. -/
namespace Gz
open PySem L2 PyProof.Rows HT
section
variable {prog : Program} {w : World} {A : Around} {E : Value → Shared → Prop} {s : Shared}
theorem sliceApplied_rev {sl : Addr} {vs : Value} {n : Nat} {Q : Int × Int × Nat → Shared → Prop} (hs : s.heap.IsSliceOf sl .none .none vs) (ps : IsPart vs (some (-1)))
    (h : Q ((n : Int) - 1, -1, n) s) : wpAny (model prog w) A (Builtin.Slice.sliceApplied (.ref sl) (pure (n : Int))) Q E s := by
  obtain ⟨os, hos, hcs, hds⟩ := id hs
  unfold Builtin.Slice.sliceApplied Builtin.Slice.sliceFields
  refine wpAny_bind (wpAny_bind (wpAny_field hos hds (x := .none) rfl (wpAny_bind (wpAny_field hos hds (x := .none) rfl (wpAny_bind (wpAny_field hos hds (x := vs) rfl (wpAny_pure ?_)))))))
  refine wpAny_bind (slicePart_ ps ?_)
  show wpAny _ _ (if ((-1 : Int) == 0) = true then _ else _) _ _ s
  rw [if_neg (by decide)]
  refine wpAny_bind (slicePart_ .none (wpAny_bind (slicePart_ .none (wpAny_bind (wpAny_pure ?_)))))
  have e1 : Builtin.Slice.sliceAdjust none none (-1) (n : Int) = ((n : Int) - 1, -1) := rfl
  have e2 : Builtin.Slice.slicePlaces ((n : Int) - 1) (-1) (-1) = n := by
    show (if (-1 : Int) > 0 then _ else (if (n : Int) - 1 > -1 then ((n : Int) - 1 - -1 - 1) / (- -1) + 1 else 0)).toNat = n
    rw [if_neg (by decide)]
    have e3 : (- -1 : Int) = 1 := rfl
    rw [e3, Int.ediv_one]
    split <;> omega
  show wpAny _ _ (match Builtin.Slice.sliceAdjust none none (-1) (n : Int) with | (lo, hi) => pure (lo, (-1 : Int), Builtin.Slice.slicePlaces lo hi (-1))) _ _ s
  rw [e1]
  show wpAny _ _ (pure ((n : Int) - 1, (-1 : Int), Builtin.Slice.slicePlaces ((n : Int) - 1) (-1) (-1))) _ _ s
  rw [e2]
  exact wpAny_pure h
theorem pick_rev (xs : Array Value) : ((List.range xs.size).filterMap fun (k : Nat) => xs[((xs.size : Int) - 1 + (k : Int) * -1).toNat]?) = xs.toList.reverse := by
  have e : ∀ k ∈ List.range xs.size, xs[((xs.size : Int) - 1 + (k : Int) * -1).toNat]? = xs.toList.reverse[k]? := fun k hk => by
    have hk' := List.mem_range.mp hk
    have e1 : ((xs.size : Int) - 1 + (k : Int) * -1).toNat = xs.size - 1 - k := by omega
    rw [e1, List.getElem?_reverse (by simpa using hk')]
    simp
  have := PySem.W.krv_all xs.toList.reverse.toArray
  rw [show ∀ l : List Nat, (∀ k ∈ l, k ∈ List.range xs.size) → (l.filterMap fun (k : Nat) => xs[((xs.size : Int) - 1 + (k : Int) * -1).toNat]?) = l.filterMap fun k => xs.toList.reverse[k]? from fun l hl => by
    induction l with
    | nil => rfl
    | cons a l ih => rw [List.filterMap_cons, List.filterMap_cons, e a (hl a (List.mem_cons_self ..)), ih fun k hk => hl k (List.mem_cons_of_mem _ hk)]]
  · simpa using this
  · exact fun k hk => hk
theorem getItem_tuple_rev {t sl : Addr} {items : Array Value} {vs : Value} {Q : Value → Shared → Prop} (ht : IsTup s.heap t items) (hs : s.heap.IsSliceOf sl .none .none vs) (ps : IsPart vs (some (-1)))
    (h : Q (.ref s.heap.objs.size) { s with heap := s.heap.push { cls := .type "tuple", data := .seq items.toList.reverse.toArray } }) (hsz : items.size ≤ sizeLine) : wpAny (model prog w) A (getItem (.ref t) (.ref sl)) Q E s := by
  obtain ⟨os, hos, hcs, hds⟩ := id hs
  have hTs : s.TypeIs (.ref sl) "slice" := ⟨os, hos, hcs⟩
  have hfit : sizeOk (.seq items.toList.reverse.toArray) := by
    show items.toList.reverse.toArray.size ≤ sizeLine
    simpa using hsz
  unfold getItem
  try with_reducible refine wpAny_holding ?_
  first | refine wpAny_bind (wpAny_pure ?_) | skip
  refine wpAny_bind (wpAny_sequenceKey ht.typeIs (by decide) ?_)
  refine wpAny_bind (wpAny_callSpecial?_slot (name := Str.ofString "__getitem__") ht.typeIs PyProof.Rows.slot_tuple_getitem
    (wpAny_call_entry PyProof.Rows.slot_tuple_getitem ht.typeIs entry_tuple_getitem ?_ (args_tuple_getitem _ _)))
  show wpAny _ _ (Builtin.Tuple.tupleItemsOf (.ref t) >>= _) _ _ s
  refine wpAny_bind (tupleItemsOf_ ht ?_)
  refine wpAny_bind (wpAny_typeOf hTs ?_)
  rw [if_pos (by decide)]
  refine wpAny_bind (sliceApplied_rev hs ps ?_)
  have hno : ¬ ((((items.size : Int) - 1) == 0 && (-1 : Int) == 1 && items.size == items.size) = true) := by
    intro q
    rw [Bool.and_eq_true, Bool.and_eq_true] at q
    exact absurd q.1.2 (by decide)
  show wpAny _ _ (if (((items.size : Int) - 1) == 0 && (-1 : Int) == 1 && items.size == items.size) = true then _ else _) _ _ s
  rw [if_neg hno, pick_rev]
  first
    | exact wpAny_bind (m := Builtin.Tuple.tupleExact _) (wpAny_newObj_type (wpAny_pure ⟨_, rfl, wpAny_pure h⟩) hfit)
    | exact wpAny_bind (m := Builtin.Tuple.tupleExact _) (wpAny_newObj_type (wpAny_bind (wpAny_pure (wpAny_pure ⟨_, rfl, wpAny_pure h⟩))) hfit)
    | exact wpAny_bind (wpAny_bind (m := Builtin.Tuple.tupleExact _) (wpAny_newObj_type (wpAny_pure (wpAny_pure ⟨_, rfl, wpAny_pure h⟩)) hfit))
    | exact wpAny_bind (wpAny_bind (m := Builtin.Tuple.tupleExact _) (wpAny_newObj_type (wpAny_pure ⟨_, rfl, wpAny_pure h⟩) hfit))
end
def tRevT (K : PySem.W.Frag) (te : TE) : TE := fun σ H Q => te σ H fun x H1 => ∃ a xs, x = .ref a ∧ SqT K H1 a xs ∧ ∀ p, H1 p = none → Q (.ref p) (upd H1 p (.tup xs.reverse))
theorem pe_revT {X : Cx} {e : Expr} {te : TE} {k : Nat} {p1 p2 p3 pos : Pos} (he : PE X e te) : PE X (.Subscript e (.Slice none none (some (.UnaryOp .USub (.Constant (.int 1) k p1) p2)) p3) pos) (tRevT X.K te) := by
  refine ⟨fun pins s σ H Q I h => ?_⟩
  refine Subscript_ (thn (he.run pins s σ H _ I h) fun v s1 ⟨x, H1, I1, r1, q1⟩ => ?_)
  obtain ⟨a, xs, ex, hx, q⟩ := q1
  subst ex
  cases r1
  have hst : PO X (some (.UnaryOp .USub (.Constant (.int 1) k p1) p2)) (tPart (tUn (rU fun i => .int (-i)) (tC (.int 1)))) := po_some (pe_un un_neg pe_int)
  refine wpAny_Slice ?_
  rw [evalPart_none]
  refine wpAny_pure ?_
  show wpAny (model X.prog X.w) X.A (pure Value.none) _ _ _
  refine wpAny_pure ?_
  refine thn (hst.run pins s1 σ H1 (fun o H4 => o = some (-1) ∧ H4 = H1) I1 ⟨1, rfl, -1, rfl, rfl, rfl⟩) fun vs s4 ⟨o, H4, I4, ps, eo, e4⟩ => ?_
  subst eo e4
  have I5 : Inv X pins σ H4 { s4 with heap := s4.heap.push { cls := .type "slice", data := .fields #[.none, .none, vs] } } := I4.kept (t' := s4.toks) fun b ob q => Heap.get?_push_of_some _ q
  obtain ⟨its, r, ht, hz⟩ := I5.tuple hx
  have hlen := r.length
  show wpAny (model X.prog X.w) X.A (subscriptTail e (.Slice none none (some (.UnaryOp .USub (.Constant (.int 1) k p1) p2)) p3) (.ref a) (.ref s4.heap.objs.size)) (EP X pins σ Q) X.xe { s4 with heap := s4.heap.push { cls := .type "slice", data := .fields #[.none, .none, vs] } }
  refine tail_any (ops := [.ref a, .ref s4.heap.objs.size]) ht.typeIs PyProof.Rows.slot_tuple_getitem.lookup ?_ (by with_unfolding_all rfl)
  refine getItem_tuple_rev ht (Heap.IsSliceOf.new _ .none .none vs) ps ?_ (by rw [List.size_toArray]; omega)
  refine ⟨.ref _, _, I5.laid (t' := s4.toks) (o := .tup xs.reverse) (fun b ob q => Heap.get?_push_of_some _ q) (Nat.le_refl _) ?_, rfl, q _ (I5.hok.fresh (Nat.le_refl _))⟩
  exact ⟨by rw [List.length_reverse]; exact hz, _, r.reverse, ⟨_, Heap.get?_push_size _ rfl, rfl, _, rfl⟩⟩
end Gz
namespace Gx
open PySem L2
/-! ### backwards -/
@[simp] def fRevT : PyData → Option Rs
  | .tuple xs => some (.val (.tuple xs.reverse))
  | _ => none
section
variable {X : Cx} {a : Expr} {m : M Rs} {k : Nat} {p1 p2 p3 pos : Pos}
theorem se_revT (h : SE X a m) : SE X (.Subscript a (.Slice none none (some (.UnaryOp .USub (.Constant (.int 1) k p1) p2)) p3) pos) (mOp1 fRevT m) := PE_imp (Gz.pe_revT h) fun σ H Q ⟨ι, α, T, e, r, e', L, em, k⟩ => by
  simp only [mOp1, Option.bind_eq_some_iff] at em
  obtain ⟨⟨r1, e1⟩, h1, d1, h3, r3, h5, h6⟩ := em
  cases h6
  refine one_view L h1 h3 fun α' H2 x L2' s t1 => ?_
  unfold fRevT at h5
  split at h5
  · cases h5
    obtain ⟨q, vs, rfl, hq, gs⟩ := t1
    exact ⟨q, vs, rfl, same_tup mask_sub hq, fun p hp => k _ _ _ _ (Aft.of_res L2' s (.tup hp gs.reverse))⟩
  · cases h5
end

/-! ### enumerate(zip(t, u)) -/
def iEnumZip (ma mb : M Rs) : MI := fun e => (ma e).bind fun p => (fz p.2 p.1).bind fun p' => (mb p'.2).bind fun q => (fz q.2 q.1).bind fun q' => match p'.1, q'.1 with
  | .tuple xs, .tuple ys => some (enumD (zipD xs ys), q'.2)
  | _, _ => none
theorem fol_ez {K : PySem.W.Frag} {F : Hp} {a b : Addr} {xs ys : List V} {ds es : List PyData} (h1 : SqT K F a xs) (g1 : FDs K F xs ds) (h2 : SqT K F b ys) (g2 : FDs K F ys es) : Fol K F (Gz.Itez K a b) (enumD (zipD ds es)) := fun H F' s1 s2 => by
  have q1 := same_tup s2 (same_tup s1 h1)
  have q2 := same_tup s2 (same_tup s1 h2)
  have k1 := g1.mono s1
  have k2 := g2.mono s1
  have hl : (enumD (zipD ds es)).length = min ds.length es.length := by simp [enumD, zipD]
  refine ⟨fun i hi => ⟨xs, ys, q1, q2, ?_⟩, fun i d hd => ?_⟩
  · rw [hl] at hi
    rw [g1.length, g2.length]
    omega
  · unfold enumD at hd
    rw [List.getElem?_mapIdx] at hd
    obtain ⟨d0, hd0, rfl⟩ := Option.map_eq_some_iff.mp hd
    unfold zipD at hd0
    rw [List.getElem?_map] at hd0
    obtain ⟨⟨d1, d2⟩, hp, rfl⟩ := Option.map_eq_some_iff.mp hd0
    obtain ⟨e1, e2⟩ := List.getElem?_zip_eq_some.mp hp
    obtain ⟨v, h3, h4⟩ := k1.get e1
    obtain ⟨w, h5, h6⟩ := k2.get e2
    refine ⟨⟨xs, ys, v, w, q1, q2, h3, h5⟩, fun x H' y => ?_⟩
    obtain ⟨T, U, z1, z2, rfl, hT, hU, hTU, rfl, y1, y2⟩ := y
    have e3 := y1 xs q1
    have e4 := y2 ys q2
    rw [h3] at e3
    rw [h5] at e4
    cases e3
    cases e4
    exact .tt hT hU hTU (.cons h4 (.cons h6 .nil))
section
variable {X : Cx} {a b : Expr} {elts : List Expr} {kk : Nat} {m ma mb : M Rs} {p p2 pos pos2 tpos : Pos}
theorem si_enumZip (hge : Gl X "enumerate") (hme : X.mg "enumerate" = none) (hg : Gl X "zip") (hm : X.mg "zip" = none) (ha : SE X a ma) (hb : SE X b mb) (h1 : starEach [a, b] X.env = (false, eval a X.env) :: starEach [b] X.env := by rfl) (h2 : starEach [b] X.env = (false, eval b X.env) :: starEach [] X.env := by rfl)
    (hpl : (backTo pos (starEach [b] X.env)).any (·.1) = false := by rfl) (hs2 : starEach [.Call (.Name "zip" p) [a, b] [] pos] X.env = [(false, eval (.Call (.Name "zip" p) [a, b] [] pos) X.env)] := by rfl) : SI X (.Tuple elts kk tpos) (.Call (.Name "enumerate" p2) [.Call (.Name "zip" p) [a, b] [] pos] [] pos2) (iEnumZip ma mb) :=
  PI_imp (Gz.pi_ez hg hm hge hme (pa_cons ha (pa_cons hb pa_nil h2) h1) h1 hpl hs2) fun σ H R ⟨ι, α, T, e, its, e', L, em, k⟩ => by
    simp only [iEnumZip, Option.bind_eq_some_iff] at em
    obtain ⟨⟨r, e1⟩, h1, ⟨d, e2⟩, h2, ⟨r3, e3⟩, h3, ⟨d4, e4⟩, h4, em⟩ := em
    refine ⟨ι, α, T, e, r, e1, L, h1, fun α1 ps H1 x A1 => ?_⟩
    obtain ⟨β1, L1, S1, f1⟩ := fz_ok A1.lr A1.rv h2 A1.st (Aft.apart L A1)
    refine ⟨ι, β1, T, e2, r3, e3, L1, h3, fun α2 qs H2 y A2 => ?_⟩
    obtain ⟨β2, L2', S2, f2⟩ := fz_ok A2.lr A2.rv h4 A2.st (Aft.apart L1 A2)
    have f1' := f1.mono S2.vis
    simp only at em
    split at em
    · cases em
      cases f1' with
      | tup hs gs =>
        cases f2 with
        | tup hs2 gs2 => exact ⟨_, _, _, _, rfl, same_tup mask_sub hs, same_tup mask_sub hs2, k β2 H2 _ L2' (S1.trans S2 fun _ z => z) (fol_ez hs gs hs2 gs2)⟩
    · cases em
end

/-! ### a, b, c = x, y, z -/
def sPar3 (i j l : Nat) (ma mb mc : M Rs) : MS := fun e => (ma e).bind fun p => (nrm p.2 p.1).bind fun p' => (mb p'.2).bind fun q => (nrm q.2 q.1).bind fun q' => (mc q'.2).bind fun r => (nrm r.2 r.1).bind fun r' =>
  (setS l r'.1 r'.2).bind fun e2 => (setS j q'.1 e2).bind fun e3 => (setS i p'.1 e3).bind fun e4 => some (.nx e4)
section
variable {K : PySem.W.Frag} {ι : Nat → Option V} {α α1 α2 : Nat → List Addr} {T T1 T2 ps qs : List Addr} {e e1 e2 : Lo} {σ : St} {H H1 H2 H' : Hp} {r r1 r2 : Rs} {v x : V} {o : Ob} {i j l : Nat} {b : Bool} {D : Ends} {ma mb mc : M Rs}
theorem tPar3_imp (hij : i ≠ j) (hil : i ≠ l) (hjl : j ≠ l) (h : tS K (sPar3 i j l ma mb mc) D σ H) : tE K ma σ H fun x H1 => tE K mb σ H1 fun y H2 => tE K mc σ H2 fun z H3 => D.nx (((σ.set i (some x)).set j (some y)).set l (some z)) H3 := by
  obtain ⟨ι, α, T, e, o, L, em, k⟩ := h
  simp only [sPar3, Option.bind_eq_some_iff] at em
  obtain ⟨⟨r1, e1⟩, h1, ⟨r1', e1'⟩, n1, ⟨r2, e2⟩, h2, ⟨r2', e2'⟩, n2, ⟨r3, e3⟩, h3, ⟨r3', e3'⟩, n3, e4, s3, e5, s2, e6, s1, em⟩ := em
  cases em
  refine ⟨ι, α, T, e, r1, e1, L, h1, fun α1 ps H1 x A1 => ?_⟩
  have ap := Aft.apart L A1
  obtain ⟨β1, L1, S1, q1, ok1⟩ := nrm_ok A1.lr A1.rv n1 ap
  refine ⟨ι, β1, ps ++ T, e1', r2, e2, L1, h2, fun α2 qs H2 y A2 => ?_⟩
  have ap2 := Aft.apart L1 A2
  obtain ⟨β2, L2', S2, q2, ok2⟩ := nrm_ok A2.lr A2.rv n2 ap2
  refine ⟨ι, β2, qs ++ (ps ++ T), e2', r3, e3, L2', h3, fun α3 rs H3 z A3 => ?_⟩
  have ap3 := Aft.apart L2' A3
  obtain ⟨β3, L3', S3, q3, ok3⟩ := nrm_ok A3.lr A3.rv n3 ap3
  have S12 := A2.st.trans S2 fun p h => List.mem_append_right _ h
  have S23 := A3.st.trans S3 fun p h => List.mem_append_right _ h
  have L4 := set_ok L3' q3 ok3 s3 ap3
  have S4 : Stp β2 (qs ++ (ps ++ T)) H2 (put β3 l rs) (qs ++ (ps ++ T)) H3 := S23.store A3.nw
  have rv2 : RV K H3 (mask H3 (put β3 l rs) (qs ++ (ps ++ T))) (σ.set l (some z)) qs y r2' := (q2.stay S4 fun p h => List.mem_append_left _ h).set ok2 fun _ _ z => z
  have L5 := set_ok L4 rv2 ok2 s2 ap2
  have S24 : Stp β1 (ps ++ T) H1 (put β3 l rs) (qs ++ (ps ++ T)) H3 := S12.trans S4 fun p h => List.mem_append_right _ h
  have S5 : Stp β1 (ps ++ T) H1 (put (put β3 l rs) j qs) (ps ++ T) H3 := S24.store A2.nw
  have rv1 : RV K H3 (mask H3 (put (put β3 l rs) j qs) (ps ++ T)) ((σ.set l (some z)).set j (some y)) ps x r1' := (q1.stay S5 fun p h => List.mem_append_left _ h).set ok1 fun _ _ z => z
  have L6 := set_ok L5 rv1 ok1 s1 ap
  have e : ((σ.set l (some z)).set j (some y)).set i (some x) = ((σ.set i (some x)).set j (some y)).set l (some z) := by
    rw [List.set_comm _ _ (Ne.symm hjl), List.set_comm _ _ (Ne.symm hil), List.set_comm _ _ (Ne.symm hij)]
  rw [e] at L6
  exact k _ _ H3 L6 (((A1.st.trans S1 fun p h => List.mem_append_right _ h).trans S5 fun p h => List.mem_append_right _ h).store A1.nw)
end
section
variable {X : Cx} {a b c : Expr} {ma mb mc : M Rs} {pos : Pos}
theorem s_par3 {x y z : Str} {px py pz pt : Pos} {kt k2 pt2} (hN : X.N.Nodup) (hc : X.calm = true) (i j l : Nat) (ha : SE X a ma) (hb : SE X b mb) (hcc : SE X c mc) (hi : X.N[i]? = some x := by rfl) (hj : X.N[j]? = some y := by rfl) (hl : X.N[l]? = some z := by rfl) (hij : i ≠ j := by decide) (hil : i ≠ l := by decide) (hjl : j ≠ l := by decide)
    (hx : X.env.scope.names.lookup x = some .local := by rfl) (hy : X.env.scope.names.lookup y = some .local := by rfl) (hz : X.env.scope.names.lookup z = some .local := by rfl)
    (h1 : starEach [a, b, c] X.env = (false, eval a X.env) :: starEach [b, c] X.env := by rfl) (h2 : starEach [b, c] X.env = (false, eval b X.env) :: starEach [c] X.env := by rfl) (h3 : starEach [c] X.env = (false, eval c X.env) :: starEach [] X.env := by rfl)
    (hw : swappedStores [.Tuple [.Name x px, .Name y py, .Name z pz] kt pt] (.Tuple [a, b, c] k2 pt2) X.env = pure (some [x, y, z]) := by rfl)
    (hs : swapsWithSole [.Tuple [.Name x px, .Name y py, .Name z pz] kt pt] (.Tuple [a, b, c] k2 pt2) pos.line X.env = pure false := by rfl) :
    SS X (.Assign [.Tuple [.Name x px, .Name y py, .Name z pz] kt pt] (.Tuple [a, b, c] k2 pt2) pos) (sPar3 i j l ma mb mc) :=
  PS_imp (ps_par3 hc hN hi hj hl hij hil hjl hx hy hz (pa_cons ha (pa_cons hb (pa_cons hcc pa_nil h3) h2) h1) hw hs) fun D σ H q => by
    obtain ⟨ι, α, T, e, r, e', L, em, k⟩ := tPar3_imp hij hil hjl q
    refine ⟨ι, α, T, e, r, e', L, em, fun α1 ps H1 x1 A => ?_⟩
    obtain ⟨ι2, α2, T2, e2, r2, e2', L2', em2, k2⟩ := k α1 ps H1 x1 A
    refine ⟨ι2, α2, T2, e2, r2, e2', L2', em2, fun α3 ps3 H3 y3 A3 => ?_⟩
    obtain ⟨ι4, α4, T4, e4, r4, e4', L4', em4, k4⟩ := k2 α3 ps3 H3 y3 A3
    exact ⟨ι4, α4, T4, e4, r4, e4', L4', em4, fun α5 ps5 H5 z5 A5 => ⟨x1, y3, z5, rfl, k4 α5 ps5 H5 z5 A5⟩⟩
end
end Gx
/-! M0: the combinators, evaluated at a known environment. -/
namespace Gx
open PySem L2
section
variable (a0 : SV) (l0 : Lo)
@[simp] theorem ev_mVar (i : Nat) : mVar i (a0 :: l0) = (fun e : Lo => match e[i]? with
  | some (.val d) => some (.val d, e)
  | some (.own _ _) => some (.slot i, e)
  | _ => none) (a0 :: l0) := rfl
@[simp] theorem ev_mC (d : PyData) : mC d (a0 :: l0) = (fun e : Lo => some (.val d, e)) (a0 :: l0) := rfl
@[simp] theorem ev_mOp2 (f : PyData → PyData → Option Rs) (ma mb : M Rs) : mOp2 f ma mb (a0 :: l0) = (fun e : Lo => 
  (ma e).bind fun p => (mb p.2).bind fun q => (vw q.2 p.1).bind fun d1 => (vw q.2 q.1).bind fun d2 => (f d1 d2).bind fun r => some (r, q.2)) (a0 :: l0) := rfl
@[simp] theorem ev_mOp1 (f : PyData → Option Rs) (ma : M Rs) : mOp1 f ma (a0 :: l0) = (fun e : Lo => 
  (ma e).bind fun p => (vw p.2 p.1).bind fun d1 => (f d1).bind fun r => some (r, p.2)) (a0 :: l0) := rfl
@[simp] theorem ev_mB (m : M Rs) : mB m (a0 :: l0) = (fun e : Lo => (m e).bind fun p => match p.1 with
  | .val (.bool c) => some (c, p.2)
  | _ => none) (a0 :: l0) := rfl
@[simp] theorem ev_oNo : oNo  (a0 :: l0) = (fun e : Lo => some (none, e)) (a0 :: l0) := rfl
@[simp] theorem ev_oSome (m : M Rs) : oSome m (a0 :: l0) = (fun e : Lo => (m e).bind fun p => match p.1 with
  | .val (.int i) => some (some i, p.2)
  | _ => none) (a0 :: l0) := rfl
@[simp] theorem ev_mSl (ma : M Rs) (ml mh : MO) : mSl ma ml mh (a0 :: l0) = (fun e : Lo => (ma e).bind fun p => (ml p.2).bind fun l => (mh l.2).bind fun h => (vw h.2 p.1).bind fun d => (fSl d l.1 h.1).bind fun r => some (r, h.2)) (a0 :: l0) := rfl
@[simp] theorem ev_mTr (m : M Rs) : mTr m (a0 :: l0) = (fun e : Lo => (m e).bind fun p => (vw p.2 p.1).bind fun d => match d with
  | .none => some (false, p.2)
  | .bool c => some (c, p.2)
  | .int i => some (i != 0, p.2)
  | .list xs => some (!xs.isEmpty, p.2)
  | .tuple xs => some (!xs.isEmpty, p.2)
  | _ => none) (a0 :: l0) := rfl
@[simp] theorem ev_mNot (m : M Bool) : mNot m (a0 :: l0) = (fun e : Lo => (m e).bind fun p => some (!p.1, p.2)) (a0 :: l0) := rfl
@[simp] theorem ev_mAnd (m n : M Bool) : mAnd m n (a0 :: l0) = (fun e : Lo => (m e).bind fun p => if p.1 = true then n p.2 else some (false, p.2)) (a0 :: l0) := rfl
@[simp] theorem ev_mOr (m n : M Bool) : mOr m n (a0 :: l0) = (fun e : Lo => (m e).bind fun p => if p.1 = true then some (true, p.2) else n p.2) (a0 :: l0) := rfl
@[simp] theorem ev_mIf (t : M Bool) (m n : M Rs) : mIf t m n (a0 :: l0) = (fun e : Lo => (t e).bind fun p => if p.1 = true then m p.2 else n p.2) (a0 :: l0) := rfl
@[simp] theorem ev_mV (m : M Bool) : mV m (a0 :: l0) = (fun e : Lo => (m e).bind fun p => some (.val (.bool p.1), p.2)) (a0 :: l0) := rfl
@[simp] theorem ev_mAndV (m n : M Rs) : mAndV m n (a0 :: l0) = (fun e : Lo => (mB m e).bind fun p => if p.1 = true then n p.2 else some (.val (.bool false), p.2)) (a0 :: l0) := rfl
@[simp] theorem ev_mOrV (m n : M Rs) : mOrV m n (a0 :: l0) = (fun e : Lo => (mB m e).bind fun p => if p.1 = true then some (.val (.bool true), p.2) else n p.2) (a0 :: l0) := rfl
@[simp] theorem ev_mNotV (m : M Rs) : mNotV m (a0 :: l0) = (fun e : Lo => (mB m e).bind fun p => some (.val (.bool (!p.1)), p.2)) (a0 :: l0) := rfl
@[simp] theorem ev_aNil : aNil  (a0 :: l0) = (fun e : Lo => some ([], e)) (a0 :: l0) := rfl
@[simp] theorem ev_aCons (m : M Rs) (ms : MA) : aCons m ms (a0 :: l0) = (fun e : Lo => (m e).bind fun p => (fz p.2 p.1).bind fun q => (ms q.2).bind fun l => some (q.1 :: l.1, l.2)) (a0 :: l0) := rfl
@[simp] theorem ev_mTup (ms : MA) : mTup ms (a0 :: l0) = (fun e : Lo => (ms e).bind fun p => if p.1.length ≤ lim then some (.val (.tuple p.1), p.2) else none) (a0 :: l0) := rfl
@[simp] theorem ev_mLst (ms : MA) : mLst ms (a0 :: l0) = (fun e : Lo => (ms e).bind fun p => if p.1.length ≤ lim then some (.new (.lst p.1), p.2) else none) (a0 :: l0) := rfl
@[simp] theorem ev_mCall (f : Fn) (ms : MA) : mCall f ms (a0 :: l0) = (fun e : Lo => (ms e).bind fun p => (f (vals p.1)).bind fun q => if okR q.1 = true then some (q.1, p.2) else none) (a0 :: l0) := rfl
@[simp] theorem ev_aPick (is : List Nat) (nu n : Nat) (ms : MA) : aPick is nu n ms (a0 :: l0) = (fun e : Lo => (ms e).bind fun p => if p.1.length = nu ∧ is.length = n ∧ (pick is p.1).length = n then some (pick is p.1, p.2) else none) (a0 :: l0) := rfl
@[simp] theorem ev_aPickK (is : List Nat) (nu nk n : Nat) (ms mk : MA) : aPickK is nu nk n ms mk (a0 :: l0) = (fun e : Lo => (ms e).bind fun p => (mk p.2).bind fun q => if p.1.length = nu ∧ q.1.length = nk ∧ (pick is (p.1 ++ q.1)).length = n then some (pick is (p.1 ++ q.1), q.2) else none) (a0 :: l0) := rfl
@[simp] theorem ev_mCallD (f : Fn) (i n : Nat) (ms : MA) : mCallD f i n ms (a0 :: l0) = (fun e : Lo => (gOwn e i).bind fun _ => (ms e).bind fun p => (gOwn p.2 i).bind fun o =>
  if p.1.length + 1 = n then (f (.own true o.2 :: vals p.1)).bind fun q => (gOwn q.2 0).bind fun o' => if okR q.1 = true ∧ o'.1 = true then some (q.1, p.2.set i (.own o.1 o'.2)) else none
  else none) (a0 :: l0) := rfl
@[simp] theorem ev_mAppend (i : Nat) (m : M Rs) : mAppend i m (a0 :: l0) = (fun e : Lo => (gLst e i).bind fun _ => (m e).bind fun p => (fz p.2 p.1).bind fun q => (gLst q.2 i).bind fun l =>
  if l.2.length < lim then some (.val .none, q.2.set i (.own l.1 (.lst (l.2 ++ [q.1])))) else none) (a0 :: l0) := rfl
@[simp] theorem ev_mExtend (i : Nat) (m : M Rs) : mExtend i m (a0 :: l0) = (fun e : Lo => (gLst e i).bind fun _ => (m e).bind fun p => (gNew p.2 i p.1).bind fun ys => (gLst p.2 i).bind fun l =>
  if l.2.length + ys.length ≤ lim then some (.val .none, p.2.set i (.own l.1 (.lst (l.2 ++ ys)))) else none) (a0 :: l0) := rfl
@[simp] theorem ev_mPop (i : Nat) : mPop i (a0 :: l0) = (fun e : Lo => (gLst e i).bind fun l => (l.2[l.2.length - 1]?).bind fun d => some (.val d, e.set i (.own l.1 (.lst l.2.dropLast)))) (a0 :: l0) := rfl
@[simp] theorem ev_mPopAt (i : Nat) (m : M Rs) : mPopAt i m (a0 :: l0) = (fun e : Lo => (gLst e i).bind fun _ => (m e).bind fun p => (gInt p.1).bind fun j => (gLst p.2 i).bind fun l =>
  if l.2.length ≤ lim ∧ 0 ≤ j ∧ j < l.2.length then (l.2[j.toNat]?).bind fun d => some (.val d, p.2.set i (.own l.1 (.lst (l.2.eraseIdx j.toNat)))) else none) (a0 :: l0) := rfl
@[simp] theorem ev_sNil : sNil  (a0 :: l0) = (fun e : Lo => some (.nx e)) (a0 :: l0) := rfl
@[simp] theorem ev_sSeq (m n : MS) : sSeq m n (a0 :: l0) = (fun e : Lo => (m e).bind fun o => match o with
  | .nx e' => n e'
  | o => some o) (a0 :: l0) := rfl
@[simp] theorem ev_sExpr (m : M Rs) : sExpr m (a0 :: l0) = (fun e : Lo => (m e).bind fun p => some (.nx p.2)) (a0 :: l0) := rfl
@[simp] theorem ev_sRet (m : M Rs) : sRet m (a0 :: l0) = (fun e : Lo => (m e).bind fun p => some (.rt p.1 p.2)) (a0 :: l0) := rfl
@[simp] theorem ev_sRetN : sRetN  (a0 :: l0) = (fun e : Lo => some (.rt (.val .none) e)) (a0 :: l0) := rfl
@[simp] theorem ev_sIf (t : M Bool) (m n : MS) : sIf t m n (a0 :: l0) = (fun e : Lo => (t e).bind fun p => if p.1 = true then m p.2 else n p.2) (a0 :: l0) := rfl
@[simp] theorem ev_sBreak : sBreak  (a0 :: l0) = (fun e : Lo => some (.bk e)) (a0 :: l0) := rfl
@[simp] theorem ev_sCont : sCont  (a0 :: l0) = (fun e : Lo => some (.ct e)) (a0 :: l0) := rfl
@[simp] theorem ev_sNever : sNever  (a0 :: l0) = (fun e : Lo => none) (a0 :: l0) := rfl
@[simp] theorem ev_sSet (i : Nat) (m : M Rs) : sSet i m (a0 :: l0) = (fun e : Lo => (m e).bind fun p => (nrm p.2 p.1).bind fun q => (setS i q.1 q.2).bind fun e' => some (.nx e')) (a0 :: l0) := rfl
@[simp] theorem ev_sPar (i j : Nat) (ma mb : M Rs) : sPar i j ma mb (a0 :: l0) = (fun e : Lo => (ma e).bind fun p => (nrm p.2 p.1).bind fun p' => (mb p'.2).bind fun q => (nrm q.2 q.1).bind fun q' => (setS j q'.1 q'.2).bind fun e2 => (setS i p'.1 e2).bind fun e3 => some (.nx e3)) (a0 :: l0) := rfl
@[simp] theorem ev_sAsg (g : MG) (m : M Rs) : sAsg g m (a0 :: l0) = (fun e : Lo => (m e).bind fun p => (fz p.2 p.1).bind fun q => (g q.1 q.2).bind fun e' => some (.nx e')) (a0 :: l0) := rfl
@[simp] theorem ev_sSetIx (i : Nat) (mk m : M Rs) : sSetIx i mk m (a0 :: l0) = (fun e : Lo => (m e).bind fun p => (fz p.2 p.1).bind fun q => (gLst q.2 i).bind fun _ => (mk q.2).bind fun l => (gInt l.1).bind fun k => (gLst l.2 i).bind fun x => (ixN x.2.length k).bind fun j =>
  some (.nx (l.2.set i (.own x.1 (.lst (x.2.set j q.1)))))) (a0 :: l0) := rfl
@[simp] theorem ev_iSeq (m : M Rs) : iSeq m (a0 :: l0) = (fun e : Lo => (m e).bind fun p => (fz p.2 p.1).bind fun q => (gItems q.1).bind fun its => some (its, q.2)) (a0 :: l0) := rfl
@[simp] theorem ev_iRng (m : M Rs) : iRng m (a0 :: l0) = (fun e : Lo => (m e).bind fun p => (gInt p.1).bind fun n => if n ≤ lim ∧ -1000000 ≤ n then some ((List.range n.toNat).map fun (i : Nat) => .int i, p.2) else none) (a0 :: l0) := rfl
@[simp] theorem ev_iRng2 (ma mb : M Rs) : iRng2 ma mb (a0 :: l0) = (fun e : Lo => (ma e).bind fun p => (mb p.2).bind fun q => (gInt p.1).bind fun a => (gInt q.1).bind fun b => if -1000000 ≤ a ∧ a ≤ lim ∧ b ≤ lim ∧ -1000000 ≤ b then some ((List.range (b - a).toNat).map fun (i : Nat) => .int (a + i), q.2) else none) (a0 :: l0) := rfl
@[simp] theorem ev_iRevS (m : M Rs) : iRevS m (a0 :: l0) = (fun e : Lo => (m e).bind fun p => (fz p.2 p.1).bind fun q => (gItems q.1).bind fun its => some (its.reverse, q.2)) (a0 :: l0) := rfl
@[simp] theorem ev_sFor (mi : MI) (g : MG) (b : MS) : sFor mi g b (a0 :: l0) = (fun e : Lo => (mi e).bind fun p => forL g b p.1 p.2) (a0 :: l0) := rfl
@[simp] theorem ev_sWhile (n : Nat) (t : M Bool) (b : MS) : sWhile n t b (a0 :: l0) = (fun e : Lo => whL t b n e) (a0 :: l0) := rfl
@[simp] theorem ev_mComp (mi : MI) (g : MG) (t : M Bool) (m : M Rs) (vs : List Nat) : mComp mi g t m vs (a0 :: l0) = (fun e : Lo => (mi e).bind fun p => if vs.all (free? p.2) = true then (compL g t m vs p.1 (wipeE p.2 vs) []).bind fun q => some (.new (.lst q.1), wipeE q.2 vs) else none) (a0 :: l0) := rfl
@[simp] theorem ev_tYesM : tYesM  (a0 :: l0) = (fun e : Lo => some (true, e)) (a0 :: l0) := rfl
@[simp] theorem ev_iZip (ma mb : M Rs) : iZip ma mb (a0 :: l0) = (fun e : Lo => (ma e).bind fun p => (fz p.2 p.1).bind fun p' => (mb p'.2).bind fun q => (fz q.2 q.1).bind fun q' => match p'.1, q'.1 with
  | .tuple xs, .tuple ys => some (zipD xs ys, q'.2)
  | .list xs, .list ys => some (zipD xs ys, q'.2)
  | _, _ => none) (a0 :: l0) := rfl
@[simp] theorem ev_iEnumL (m : M Rs) : iEnumL m (a0 :: l0) = (fun e : Lo => (m e).bind fun p => (fz p.2 p.1).bind fun q => (gList q.1).bind fun its => some (enumD its, q.2)) (a0 :: l0) := rfl
@[simp] theorem ev_mLrg (mi : MI) : mLrg mi (a0 :: l0) = (fun e : Lo => (mi e).bind fun p => if p.1.length ≤ lim then some (.new (.lst p.1), p.2) else none) (a0 :: l0) := rfl
@[simp] theorem ev_pC (i : Int) : pC i (a0 :: l0) = (fun e : Lo => some i) (a0 :: l0) := rfl
@[simp] theorem ev_pVar (i : Nat) : pVar i (a0 :: l0) = (fun e : Lo => sint e[i]?) (a0 :: l0) := rfl
@[simp] theorem ev_pOp (f : Int → Int → Option Int) (ma mb : PI0) : pOp f ma mb (a0 :: l0) = (fun e : Lo => (ma e).bind fun i => (mb e).bind fun j => f i j) (a0 :: l0) := rfl
@[simp] theorem ev_mP (m : PI0) : mP m (a0 :: l0) = (fun e : Lo => (m e).bind fun i => some (.val (.int i), e)) (a0 :: l0) := rfl
@[simp] theorem ev_pFld (i : Nat) (n : Str) : pFld i n (a0 :: l0) = (fun e : Lo => (gBox e i).bind fun b => (fget b.2 n).bind fint) (a0 :: l0) := rfl
@[simp] theorem ev_mFldPop (i : Nat) (n : Str) : mFldPop i n (a0 :: l0) = (fun e : Lo => (gBox e i).bind fun b => ((fget b.2 n).bind flst).bind fun ds => (ds[ds.length - 1]?).bind fun d => some (.val d, e.set i (.own b.1 (.box (fset b.2 n (.lst ds.dropLast)))))) (a0 :: l0) := rfl
@[simp] theorem ev_mFldApp (i : Nat) (n : Str) (m : PI0) : mFldApp i n m (a0 :: l0) = (fun e : Lo => (gBox e i).bind fun b => ((fget b.2 n).bind flst).bind fun ds => (m e).bind fun k => if ds.length < lim then some (.val .none, e.set i (.own b.1 (.box (fset b.2 n (.lst (ds ++ [.int k])))))) else none) (a0 :: l0) := rfl
@[simp] theorem ev_tFldNe (i : Nat) (n : Str) : tFldNe i n (a0 :: l0) = (fun e : Lo => (gBox e i).bind fun b => ((fget b.2 n).bind flst).bind fun ds => if SeqAt.shaped (.list ds) = true then some (!PyData.eqv (.list ds) (.list []), e) else none) (a0 :: l0) := rfl
@[simp] theorem ev_sFldSet (i : Nat) (n : Str) (m : PI0) : sFldSet i n m (a0 :: l0) = (fun e : Lo => (m e).bind fun k => (gBox e i).bind fun b => ((fget b.2 n).bind fint).bind fun _ => if (names b.2).Nodup ∧ b.2.length ≤ 100 then some (.nx (e.set i (.own b.1 (.box (fset b.2 n (.val (.int k))))))) else none) (a0 :: l0) := rfl
@[simp] theorem ev_mBox3 (n1 n2 n3 : Str) (m1 : M Rs) (m2 m3 : PI0) : mBox3 n1 n2 n3 m1 m2 m3 (a0 :: l0) = (fun e : Lo => (m1 e).bind fun p => match p.1 with
  | .new (.lst ds) => (m2 p.2).bind fun i => (m3 p.2).bind fun j => some (.new (.box [(n1, .lst ds), (n2, .val (.int i)), (n3, .val (.int j))]), p.2)
  | _ => none) (a0 :: l0) := rfl
@[simp] theorem ev_mLRng (m : M Rs) : mLRng m (a0 :: l0) = (fun e : Lo => (m e).bind fun p => (gInt p.1).bind fun n => if n ≤ lim ∧ -1000000 ≤ n then some (.new (.lst ((List.range n.toNat).map fun (i : Nat) => .int i)), p.2) else none) (a0 :: l0) := rfl
@[simp] theorem ev_mLRng2 (ma mb : M Rs) : mLRng2 ma mb (a0 :: l0) = (fun e : Lo => (ma e).bind fun p => (mb p.2).bind fun q => (gInt p.1).bind fun a => (gInt q.1).bind fun b => if 0 ≤ a ∧ a ≤ lim ∧ b ≤ lim ∧ 0 ≤ b then some (.new (.lst ((List.range (b - a).toNat).map fun (i : Nat) => .int (a + i))), q.2) else none) (a0 :: l0) := rfl
@[simp] theorem ev_mRep (ma mb : M Rs) : mRep ma mb (a0 :: l0) = (fun e : Lo => (ma e).bind fun p => (mb p.2).bind fun q => (gNew q.2 1000000 p.1).bind fun xs => (gInt q.1).bind fun k => if 0 ≤ k ∧ k ≤ 1000 ∧ xs.length ≤ 1000 then some (.new (.lst (List.replicate k.toNat xs).flatten), q.2) else none) (a0 :: l0) := rfl
@[simp] theorem ev_mChain (f g : PyData → PyData → Option Rs) (ma mb mc : M Rs) : mChain f g ma mb mc (a0 :: l0) = (fun e : Lo => (ma e).bind fun p => (mb p.2).bind fun q => (vw q.2 p.1).bind fun d1 => (vw q.2 q.1).bind fun d2 => (f d1 d2).bind fun r => match r with
  | .val (.bool true) => (mc q.2).bind fun u => (vw u.2 q.1).bind fun d2' => (vw u.2 u.1).bind fun d3 => (g d2' d3).bind fun r' => some (r', u.2)
  | .val (.bool false) => some (.val (.bool false), q.2)
  | _ => none) (a0 :: l0) := rfl
@[simp] theorem ev_iEnumZip (ma mb : M Rs) : iEnumZip ma mb (a0 :: l0) = (fun e : Lo => (ma e).bind fun p => (fz p.2 p.1).bind fun p' => (mb p'.2).bind fun q => (fz q.2 q.1).bind fun q' => match p'.1, q'.1 with
  | .tuple xs, .tuple ys => some (enumD (zipD xs ys), q'.2)
  | _, _ => none) (a0 :: l0) := rfl
@[simp] theorem ev_sPar3 (i j l : Nat) (ma mb mc : M Rs) : sPar3 i j l ma mb mc (a0 :: l0) = (fun e : Lo => (ma e).bind fun p => (nrm p.2 p.1).bind fun p' => (mb p'.2).bind fun q => (nrm q.2 q.1).bind fun q' => (mc q'.2).bind fun r => (nrm r.2 r.1).bind fun r' =>
  (setS l r'.1 r'.2).bind fun e2 => (setS j q'.1 e2).bind fun e3 => (setS i p'.1 e3).bind fun e4 => some (.nx e4)) (a0 :: l0) := rfl
end
section
variable {i j : Int} {d : PyData} {ds xs : List PyData} {n : Nat} {g : MG} {gs : MGs} {e : Lo} {a0 : SV} {l0 : Lo}
@[simp] theorem fSub_i : fSub (.int i) (.int j) = some (.val (.int (i - j))) := rfl
@[simp] theorem fFdiv_i : fFdiv (.int i) (.int j) = if cDiv i j = true then some (.val (.int (i / j))) else none := rfl
@[simp] theorem fMod_i : fMod (.int i) (.int j) = if cMod i j = true then some (.val (.int (i % j))) else none := rfl
@[simp] theorem fPow_i : fPow (.int i) (.int j) = if cPow i j = true then some (.val (.int (i ^ j.toNat))) else none := rfl
@[simp] theorem fMul_i : fMul (.int i) (.int j) = if cMul i j = true then some (.val (.int (i * j))) else none := rfl
@[simp] theorem fLt_i : fLt (.int i) (.int j) = some (.val (.bool (decide (i < j)))) := rfl
@[simp] theorem fLe_i : fLe (.int i) (.int j) = some (.val (.bool (decide (i ≤ j)))) := rfl
@[simp] theorem fGt_i : fGt (.int i) (.int j) = some (.val (.bool (decide (j < i)))) := rfl
@[simp] theorem fGe_i : fGe (.int i) (.int j) = some (.val (.bool (decide (j ≤ i)))) := rfl
@[simp] theorem fMax_i : fMax (.int i) (.int j) = some (.val (.int (if j > i then j else i))) := rfl
@[simp] theorem fMin_i : fMin (.int i) (.int j) = some (.val (.int (if j < i then j else i))) := rfl
@[simp] theorem gNm_c : gNm n d (a0 :: l0) = setS n (.val d) (a0 :: l0) := rfl
@[simp] theorem gTu_t : gTu n gs (.tuple ds) e = if ds.length = n then gs ds e else none := rfl
@[simp] theorem gsNil_n : gsNil [] e = some e := rfl
@[simp] theorem gsCons_c : gsCons g gs (d :: ds) e = (g d e).bind fun e1 => gs ds e1 := rfl
@[simp] theorem forL_nil {b : MS} : forL g b [] e = some (.nx e) := rfl
theorem forL_cons {b : MS} : forL g b (d :: ds) e = (g d e).bind fun e1 => (b e1).bind fun o => match o with
    | .nx e2 => forL g b ds e2
    | .ct e2 => forL g b ds e2
    | .bk e2 => some (.nx e2)
    | .rt r e2 => some (.rt r e2) := rfl
@[simp] theorem compL_nil {t : M Bool} {m : M Rs} {vs : List Nat} {acc : List PyData} : compL g t m vs [] e acc = some (acc, e) := rfl
theorem compL_cons {t : M Bool} {m : M Rs} {vs : List Nat} {acc : List PyData} : compL g t m vs (d :: ds) e acc = (g d e).bind fun e1 => (t e1).bind fun p => if p.1 = true then (m p.2).bind fun q => (fz q.2 q.1).bind fun w => if acc.length < lim ∧ vs.all (free? w.2) = true then compL g t m vs ds (wipeE w.2 vs) (acc ++ [w.1]) else none
    else if vs.all (free? p.2) = true then compL g t m vs ds (wipeE p.2 vs) acc else none := rfl
theorem kb_ii : kitB "int" "int" = some true := by decide +kernel
@[simp] theorem fIsi_int_int : fIsi "int" (.int i) = some (.val (.bool true)) := by unfold fIsi; rw [show tyN (.int i) = "int" from rfl, kb_ii]; rfl
theorem kb_ib : kitB "int" "bool" = some false := by decide +kernel
@[simp] theorem fIsi_bool_int : fIsi "bool" (.int i) = some (.val (.bool false)) := by unfold fIsi; rw [show tyN (.int i) = "int" from rfl, kb_ib]; rfl
theorem kb_tt : kitB "tuple" "tuple" = some true := by decide +kernel
@[simp] theorem fIsi_tuple_tuple : fIsi "tuple" (.tuple xs) = some (.val (.bool true)) := by unfold fIsi; rw [show tyN (.tuple xs) = "tuple" from rfl, kb_tt]; rfl
end
section
/-- a slot that may be stored to -/
def fr : SV → Bool
  | .own true _ => false
  | _ => true
variable {e : Lo} {i : Nat} {d : PyData} {o : Ob}
@[simp] theorem fr_un : fr .un = true := rfl
@[simp] theorem fr_val : fr (.val d) = true := rfl
@[simp] theorem fr_own : fr (.own false o) = true := rfl
@[simp] theorem fr_own' : fr (.own true o) = false := rfl
def frO : Option SV → Bool
  | some sv => fr sv
  | none => false
@[simp] theorem frO_some {sv : SV} : frO (some sv) = fr sv := rfl
@[simp] theorem free_eq : free? e i = frO e[i]? := by
  unfold free? frO fr
  cases e[i]? with
  | none => rfl
  | some sv => cases sv with
    | un => rfl
    | val _ => rfl
    | own b _ => cases b <;> rfl
theorem fr_toSV {r : Rs} : fr (toSV r) = true := by cases r <;> rfl
end

end Gx
/-! M1: plain data (bools, ints of at most twelve digits, nested): their text, equality. -/
namespace Gx
open PySem L2 PyProof.Rows
mutual
def pl : PyData → Bool
  | .none => true
  | .bool _ => true
  | .int i => decide (i.natAbs < 10 ^ 12)
  | .list xs => plAll xs
  | .tuple xs => plAll xs
  | .str _ => false
  | .dict _ => false
def plAll : List PyData → Bool
  | [] => true
  | x :: xs => pl x && plAll xs
end
mutual
def sz : PyData → Nat
  | .list xs => szAll xs
  | .tuple xs => szAll xs
  | _ => 0
def szAll : List PyData → Nat
  | [] => 0
  | x :: xs => sz x + 1 + szAll xs
end
theorem log_small {i : Int} (h : i.natAbs < 10 ^ 12) : i.natAbs.log2 < 40 := by
  by_cases h0 : i.natAbs = 0
  · rw [h0]; decide
  · exact (Nat.log2_lt h0).mpr (Nat.lt_of_lt_of_le h (by decide))
mutual
theorem pl_leaves : ∀ d : PyData, pl d = true → d.leavesShort 13 = true
  | .none, _ => rfl
  | .bool _, _ => rfl
  | .int i, h => by
    have h' : i.natAbs < 10 ^ 12 := of_decide_eq_true (by simpa only [pl] using h)
    simp only [PyData.leavesShort, decide_eq_true_eq]
    exact PyData.shown_int_le h'
  | .list xs, h => by
    simp only [PyData.leavesShort]
    exact plAll_leaves xs (by simpa only [pl] using h)
  | .tuple xs, h => by
    simp only [PyData.leavesShort]
    exact plAll_leaves xs (by simpa only [pl] using h)
  | .str _, h => by simp [pl] at h
  | .dict _, h => by simp [pl] at h
theorem plAll_leaves : ∀ xs : List PyData, plAll xs = true → PyData.leavesShortAll 13 xs = true
  | [], _ => rfl
  | x :: xs, h => by
    have h' : pl x = true ∧ plAll xs = true := by simpa only [plAll, Bool.and_eq_true] using h
    simp only [PyData.leavesShortAll, pl_leaves x h'.1, plAll_leaves xs h'.2, Bool.and_self]
end
mutual
theorem pl_showable : ∀ d : PyData, pl d = true → d.showable = true
  | .none, _ => rfl
  | .bool _, _ => rfl
  | .int i, h => by
    have h' : i.natAbs < 10 ^ 12 := of_decide_eq_true (by simpa only [pl] using h)
    simp only [PyData.showable, decide_eq_true_eq]
    have := log_small h'
    omega
  | .list xs, h => by
    simp only [PyData.showable]
    exact plAll_showable xs (by simpa only [pl] using h)
  | .tuple xs, h => by
    simp only [PyData.showable]
    exact plAll_showable xs (by simpa only [pl] using h)
  | .str _, h => by simp [pl] at h
  | .dict _, h => by simp [pl] at h
theorem plAll_showable : ∀ xs : List PyData, plAll xs = true → PyData.showableAll xs = true
  | [], _ => rfl
  | x :: xs, h => by
    have h' : pl x = true ∧ plAll xs = true := by simpa only [plAll, Bool.and_eq_true] using h
    simp only [PyData.showableAll, pl_showable x h'.1, plAll_showable xs h'.2, Bool.and_self]
end
mutual
theorem pl_canLay : ∀ d : PyData, pl d = true → d.canLay0 = true
  | .none, _ => by simp only [PyData.canLay0]
  | .bool _, _ => by simp only [PyData.canLay0]
  | .int i, h => by simp only [PyData.canLay0]
  | .list xs, h => by
    simp only [PyData.canLay0]
    exact plAll_canLay xs (by simpa only [pl] using h)
  | .tuple xs, h => by
    simp only [PyData.canLay0]
    exact plAll_canLay xs (by simpa only [pl] using h)
  | .str _, h => by simp [pl] at h
  | .dict _, h => by simp [pl] at h
theorem plAll_canLay : ∀ xs : List PyData, plAll xs = true → PyData.canLayAll0 xs = true
  | [], _ => by simp only [PyData.canLayAll0]
  | x :: xs, h => by
    have h' : pl x = true ∧ plAll xs = true := by simpa only [plAll, Bool.and_eq_true] using h
    simp only [PyData.canLayAll0, pl_canLay x h'.1, plAll_canLay xs h'.2, Bool.and_self]
end
mutual
theorem pl_weight : ∀ d : PyData, pl d = true → d.weight ≤ 41 * sz d + 40
  | .none, _ => by simp [PyData.weight]
  | .bool _, _ => by simp [PyData.weight]
  | .int i, h => by
    have h' : i.natAbs < 10 ^ 12 := of_decide_eq_true (by simpa only [pl] using h)
    have := log_small h'
    simp only [PyData.weight]
    split <;> omega
  | .list xs, h => by
    have := plAll_weight xs (by simpa only [pl] using h)
    simp only [PyData.weight, sz]
    omega
  | .tuple xs, h => by
    have := plAll_weight xs (by simpa only [pl] using h)
    simp only [PyData.weight, sz]
    omega
  | .str _, h => by simp [pl] at h
  | .dict _, h => by simp [pl] at h
theorem plAll_weight : ∀ xs : List PyData, plAll xs = true → PyData.weightAll xs ≤ 41 * szAll xs
  | [], _ => by simp [PyData.weightAll]
  | x :: xs, h => by
    have h' : pl x = true ∧ plAll xs = true := by simpa only [plAll, Bool.and_eq_true] using h
    have h1 := pl_weight x h'.1
    have h2 := plAll_weight xs h'.2
    simp only [PyData.weightAll, szAll]
    omega
end
theorem join_ascii {sep : Str} (hs : ∀ c ∈ sep.cps.toList, c < 128) {ts : List Str} (ht : ∀ t ∈ ts, ∀ c ∈ t.cps.toList, c < 128) : ∀ c ∈ (Str.join sep ts).cps.toList, c < 128 := fun c hc => by
  rcases (mem_join sep c ts).mp hc with ⟨t, h1, h2⟩ | ⟨_, h⟩
  · exact ht t h1 c h2
  · exact hs c h
theorem lit_ascii {s : String} (h : (s.toList.all fun ch => decide (ch.toNat < 128)) = true) : ∀ c ∈ (Str.ofString s).cps.toList, c < 128 := fun c hc => by
  rw [signs_ofString] at hc
  obtain ⟨ch, h1, rfl⟩ := List.mem_map.mp hc
  exact of_decide_eq_true (List.all_eq_true.mp h ch h1)
mutual
theorem pl_ascii : ∀ d : PyData, pl d = true → ∀ c ∈ d.shown.cps.toList, c < 128
  | .none, _ => by
    rw [PyData.shown_none]
    exact lit_ascii (by decide)
  | .bool b, _ => by
    rw [PyData.shown_bool]
    cases b
    · exact lit_ascii (s := "False") (by decide)
    · exact lit_ascii (s := "True") (by decide)
  | .int i, h => fun c hc => by
    rw [PyData.shown_int] at hc
    by_cases z : c < 128
    · exact z
    · exact absurd hc (int_text_free' c (by omega) i)
  | .list xs, h => fun c hc => by
    rw [PyData.shown_list, mem_cps_append, mem_cps_append] at hc
    rcases hc with (hc | hc) | hc
    · exact lit_ascii (s := "[") (by decide) c hc
    · exact join_ascii (lit_ascii (by decide)) (plAll_ascii xs (by simpa only [pl] using h)) c hc
    · exact lit_ascii (s := "]") (by decide) c hc
  | .tuple xs, h => fun c hc => by
    rw [PyData.shown_tuple, mem_cps_append, mem_cps_append] at hc
    rcases hc with (hc | hc) | hc
    · exact lit_ascii (s := "(") (by decide) c hc
    · exact join_ascii (lit_ascii (by decide)) (plAll_ascii xs (by simpa only [pl] using h)) c hc
    · revert hc
      split
      · exact lit_ascii (s := ",)") (by decide) c
      · exact lit_ascii (s := ")") (by decide) c
  | .str _, h => by simp [pl] at h
  | .dict _, h => by simp [pl] at h
theorem plAll_ascii : ∀ xs : List PyData, plAll xs = true → ∀ t ∈ PyData.shownAll xs, ∀ c ∈ t.cps.toList, c < 128
  | [], _ => fun t ht => by simp [PyData.shownAll] at ht
  | x :: xs, h => fun t ht => by
    have h' : pl x = true ∧ plAll xs = true := by simpa only [plAll, Bool.and_eq_true] using h
    rw [PyData.shownAll_cons] at ht
    rcases List.mem_cons.mp ht with e | ht
    · rw [e]; exact pl_ascii x h'.1
    · exact plAll_ascii xs h'.2 t ht
end
theorem pl_okShow {d : PyData} (h : pl d = true) (hs : sz d ≤ 1500) (hd : d.depth ≤ 64) : okShow d = true := by
  have w := pl_weight d h
  have l := PyData.shown_le 13 (by decide) d (pl_leaves d h)
  have q : d.shown.length ≤ lim := by
    unfold lim
    omega
  unfold okShow
  rw [pl_showable d h, PyData.hasDict_of_canLay d (pl_canLay d h), decide_eq_true hd, decide_eq_true q]
  rfl
theorem fRepr_pl {d : PyData} (h : pl d = true) (hs : sz d ≤ 1500) (hd : d.depth ≤ 64) : fRepr d = some (.val (.str d.shown)) := by
  unfold fRepr
  rw [if_pos (pl_okShow h hs hd)]
theorem strOk_pl {d : PyData} (h : pl d = true) : SeqAt.shaped (.str d.shown) = true := by
  have q : PyData.strOk d.shown = true := by
    unfold PyData.strOk
    rw [Array.all_eq_true']
    intro c hc
    have := pl_ascii d h c (Array.mem_toList_iff.mpr hc)
    exact decide_eq_true (by omega)
  unfold SeqAt.shaped
  rw [show (PyData.str d.shown).canLay0 = true from by simp only [PyData.canLay0]; exact q]
  simp [PyData.depth]
theorem fEq_pl {d e : PyData} (h : pl d = true) (g : pl e = true) : fEq (.str d.shown) (.str e.shown) = some (.val (.bool (d.shown == e.shown))) := by
  unfold fEq
  rw [if_pos ⟨strOk_pl h, strOk_pl g⟩]
  simp only [PyData.eqv]
theorem fNe_pl {d e : PyData} (h : pl d = true) (g : pl e = true) : fNe (.str d.shown) (.str e.shown) = some (.val (.bool (!(d.shown == e.shown)))) := by
  unfold fNe
  rw [if_pos ⟨strOk_pl h, strOk_pl g⟩]
  simp only [PyData.eqv]
theorem eqv_nil (l : List PyData) : PyData.eqv (.list l) (.list []) = l.isEmpty := by
  cases l <;> simp [PyData.eqv, PyData.eqvAll]
theorem eqvT_nil (l : List PyData) : PyData.eqv (.tuple l) (.tuple []) = l.isEmpty := by
  cases l <;> simp [PyData.eqv, PyData.eqvAll]
theorem shaped_nil : SeqAt.shaped (.list []) = true := by
  simp [SeqAt.shaped, PyData.canLay0, PyData.canLayAll0, PyData.depth, PyData.depthAll]
theorem shapedT_nil : SeqAt.shaped (.tuple []) = true := by
  simp [SeqAt.shaped, PyData.canLay0, PyData.canLayAll0, PyData.depth, PyData.depthAll]
/-- ints -/
theorem ints_canLay : ∀ l : List Int, PyData.canLayAll0 (l.map .int) = true
  | [] => by simp [PyData.canLayAll0]
  | x :: l => by simp only [List.map_cons, PyData.canLayAll0, PyData.canLay0, ints_canLay l, Bool.and_self]
theorem ints_depth : ∀ l : List Int, PyData.depthAll (l.map .int) = 0
  | [] => by simp [PyData.depthAll]
  | x :: l => by simp [PyData.depthAll, PyData.depth, ints_depth l]
theorem shaped_ints (l : List Int) : SeqAt.shaped (.list (l.map .int)) = true := by
  simp [SeqAt.shaped, PyData.canLay0, ints_canLay, PyData.depth, ints_depth]
theorem shapedT_ints (l : List Int) : SeqAt.shaped (.tuple (l.map .int)) = true := by
  simp [SeqAt.shaped, PyData.canLay0, ints_canLay, PyData.depth, ints_depth]
theorem shaped_int (i : Int) : SeqAt.shaped (.int i) = true := by
  simp [SeqAt.shaped, PyData.canLay0, PyData.depth]
@[simp] theorem fEq_ii (i j : Int) : fEq (.int i) (.int j) = some (.val (.bool (i == j))) := by
  unfold fEq
  rw [if_pos ⟨shaped_int i, shaped_int j⟩]
  simp only [PyData.eqv]
@[simp] theorem fNe_ii (i j : Int) : fNe (.int i) (.int j) = some (.val (.bool (!(i == j)))) := by
  unfold fNe
  rw [if_pos ⟨shaped_int i, shaped_int j⟩]
  simp only [PyData.eqv]
theorem eqvAll_ints : ∀ l m : List Int, PyData.eqvAll (l.map .int) (m.map .int) = (l == m)
  | [], [] => by simp [PyData.eqvAll]
  | [], _ :: _ => by simp [PyData.eqvAll]
  | _ :: _, [] => by simp [PyData.eqvAll]
  | x :: l, y :: m => by simp [PyData.eqvAll, PyData.eqv, eqvAll_ints l m]

/-! ### words: tuples of naturals -/
abbrev dI (n : Nat) : PyData := .int (n : Int)
abbrev dW (w : List Nat) : List PyData := w.map dI
theorem dW_ints (w : List Nat) : dW w = (w.map fun (n : Nat) => (n : Int)).map .int := by simp [dW]
theorem natInt_inj {v w : List Nat} (h : (v.map fun (n : Nat) => (n : Int)) = w.map fun (n : Nat) => (n : Int)) : v = w := by
  induction v generalizing w with
  | nil => cases w with
    | nil => rfl
    | cons _ _ => simp at h
  | cons a v ih => cases w with
    | nil => simp at h
    | cons b w =>
      simp only [List.map_cons, List.cons.injEq] at h
      rw [ih h.2]
      congr 1
      omega
theorem eqvAll_dW (v w : List Nat) : PyData.eqvAll (dW v) (dW w) = (v == w) := by
  rw [dW_ints, dW_ints, eqvAll_ints, Bool.eq_iff_iff, beq_iff_eq, beq_iff_eq]
  exact ⟨natInt_inj, fun h => by rw [h]⟩
theorem fEq_tt (v w : List Nat) : fEq (.tuple (dW v)) (.tuple (dW w)) = some (.val (.bool (v == w))) := by
  unfold fEq
  rw [if_pos ⟨by rw [dW_ints]; exact shapedT_ints _, by rw [dW_ints]; exact shapedT_ints _⟩]
  simp only [PyData.eqv]
  rw [eqvAll_dW]
theorem fNe_tt (v w : List Nat) : fNe (.tuple (dW v)) (.tuple (dW w)) = some (.val (.bool (!(v == w)))) := by
  unfold fNe
  rw [if_pos ⟨by rw [dW_ints]; exact shapedT_ints _, by rw [dW_ints]; exact shapedT_ints _⟩]
  simp only [PyData.eqv]
  rw [eqvAll_dW]
theorem fEq_tn (v : List Nat) : fEq (.tuple (dW v)) (.tuple []) = some (.val (.bool v.isEmpty)) := by
  have := fEq_tt v []
  simp only [dW, List.map_nil] at this
  rw [this]
  cases v <;> rfl
theorem fNe_tn (v : List Nat) : fNe (.tuple (dW v)) (.tuple []) = some (.val (.bool (!v.isEmpty))) := by
  have := fNe_tt v []
  simp only [dW, List.map_nil] at this
  rw [this]
  cases v <;> rfl
theorem fEq_ln (v : List Nat) : fEq (.list (dW v)) (.list []) = some (.val (.bool v.isEmpty)) := by
  unfold fEq
  rw [if_pos ⟨by rw [dW_ints]; exact shaped_ints _, shaped_nil⟩, eqv_nil]
  cases v <;> rfl
theorem fNe_ln (v : List Nat) : fNe (.list (dW v)) (.list []) = some (.val (.bool (!v.isEmpty))) := by
  unfold fNe
  rw [if_pos ⟨by rw [dW_ints]; exact shaped_ints _, shaped_nil⟩, eqv_nil]
  cases v <;> rfl
theorem pl_dW : ∀ {w : List Nat}, (∀ a ∈ w, a < 1000000) → plAll (dW w) = true
  | [], _ => by simp [plAll]
  | a :: w, h => by
    have h1 : a < 1000000 := h a (List.mem_cons_self ..)
    have h2 : ((a : Int)).natAbs < 10 ^ 12 := by
      rw [Int.natAbs_natCast]
      exact Nat.lt_trans h1 (by decide)
    have h3 := pl_dW (w := w) fun b hb => h b (List.mem_cons_of_mem _ hb)
    show plAll (dI a :: dW w) = true
    simp only [plAll, pl, decide_eq_true h2, h3, Bool.and_self]
theorem pl_tW {w : List Nat} (h : ∀ a ∈ w, a < 1000000) : pl (.tuple (dW w)) = true := by
  simp only [pl]
  exact pl_dW h
theorem szAll_dW : ∀ w : List Nat, szAll (dW w) = w.length
  | [] => by simp [szAll]
  | a :: w => by
    have := szAll_dW w
    show szAll (dI a :: dW w) = _
    simp only [szAll, sz, this, List.length_cons]
    omega
theorem sz_tW (w : List Nat) : sz (.tuple (dW w)) = w.length := by
  simp only [sz]
  exact szAll_dW w
theorem depthAll_dW (w : List Nat) : PyData.depthAll (dW w) = 0 := by rw [dW_ints]; exact ints_depth _
theorem depth_tW (w : List Nat) : (PyData.tuple (dW w)).depth = 1 := by simp only [PyData.depth]; rw [depthAll_dW]
/-- the digits of the text of a word of digits -/
def isDg (c : Nat) : Bool := decide (48 ≤ c ∧ c ≤ 57)
theorem dig_text {n : Nat} (h : n < 10) : (((toString (n : Int) : String) : Str).cps.toList) = [48 + n] := by
  have : n = 0 ∨ n = 1 ∨ n = 2 ∨ n = 3 ∨ n = 4 ∨ n = 5 ∨ n = 6 ∨ n = 7 ∨ n = 8 ∨ n = 9 := by omega
  rcases this with rfl | rfl | rfl | rfl | rfl | rfl | rfl | rfl | rfl | rfl <;> decide
theorem join_cons2 (sep a b : Str) (r : List Str) : Str.join sep (a :: b :: r) = a ++ sep ++ Str.join sep (b :: r) := rfl
theorem join_digs : ∀ {w : List Nat}, (∀ a ∈ w, a < 10) → ((Str.join ", " (PyData.shownAll (dW w))).cps.toList.filter isDg) = w.map (48 + ·)
  | [], _ => by decide
  | [a], h => by
    have e : PyData.shownAll (dW [a]) = [((toString (a : Int) : String) : Str)] := by simp [dW, PyData.shownAll, PyData.shown]
    rw [e]
    have e2 : Str.join ", " [((toString (a : Int) : String) : Str)] = ((toString (a : Int) : String) : Str) := rfl
    have ha := h a (List.mem_cons_self ..)
    rw [e2, dig_text ha]
    have e3 : isDg (48 + a) = true := by unfold isDg; exact decide_eq_true (by omega)
    simp [List.filter, e3]
  | a :: b :: w, h => by
    have ih := join_digs (w := b :: w) fun c hc => h c (List.mem_cons_of_mem _ hc)
    have e : PyData.shownAll (dW (a :: b :: w)) = ((toString (a : Int) : String) : Str) :: PyData.shown (dI b) :: PyData.shownAll (dW w) := by simp [dW, PyData.shownAll, PyData.shown]
    have e0 : PyData.shownAll (dW (b :: w)) = PyData.shown (dI b) :: PyData.shownAll (dW w) := by simp [dW, PyData.shownAll]
    have ha := h a (List.mem_cons_self ..)
    have e3 : isDg (48 + a) = true := by unfold isDg; exact decide_eq_true (by omega)
    rw [e, join_cons2, ← e0, cps_toList_append, cps_toList_append, List.filter_append, List.filter_append, ih, dig_text ha]
    have e4 : ((Str.ofString ", ").cps.toList.filter isDg) = [] := by decide
    rw [e4]
    simp [List.filter, e3]
theorem shown_digs {w : List Nat} (h : ∀ a ∈ w, a < 10) : ((PyData.tuple (dW w)).shown.cps.toList.filter isDg) = w.map (48 + ·) := by
  rw [PyData.shown_tuple, cps_toList_append, cps_toList_append, List.filter_append, List.filter_append, join_digs h]
  have e1 : ((Str.ofString "(").cps.toList.filter isDg) = [] := by decide
  have e2 : ((Str.ofString (if ((dW w).length == 1) = true then ",)" else ")")).cps.toList.filter isDg) = [] := by split <;> decide
  rw [e1, e2]
  simp
theorem shown_inj {v w : List Nat} (hv : ∀ a ∈ v, a < 10) (hw : ∀ a ∈ w, a < 10) : ((PyData.tuple (dW v)).shown == (PyData.tuple (dW w)).shown) = (v == w) := by
  rw [Bool.eq_iff_iff, beq_iff_eq, beq_iff_eq]
  refine ⟨fun e => ?_, fun e => by rw [e]⟩
  have h1 := shown_digs hv
  rw [e, shown_digs hw] at h1
  have inj : ∀ {v w : List Nat}, w.map (48 + ·) = v.map (48 + ·) → v = w := by
    intro v
    induction v with
    | nil => intro w h; cases w with
      | nil => rfl
      | cons _ _ => simp at h
    | cons a v ih => intro w h; cases w with
      | nil => simp at h
      | cons b w =>
        simp only [List.map_cons, List.cons.injEq] at h
        rw [ih h.2]
        congr 1
        omega
  exact inj h1
end Gx
/-! M2: comprehensions, turn by turn. -/
namespace Gx
open PySem L2
/-- one turn of a comprehension -/
def turn (g : MG) (t : M Bool) (m : M Rs) (vs : List Nat) (d : PyData) (e : Lo) : Option (Option PyData × Lo) :=
  (g d e).bind fun e1 => (t e1).bind fun p => if p.1 = true then (m p.2).bind fun q => (fz q.2 q.1).bind fun w => if vs.all (free? w.2) = true then some (some w.1, wipeE w.2 vs) else none
    else if vs.all (free? p.2) = true then some (none, wipeE p.2 vs) else none
section
variable {g : MG} {t : M Bool} {m : M Rs} {vs : List Nat} {d : PyData} {ds acc : List PyData} {e e' : Lo} {x : PyData}
theorem compL_one (h : turn g t m vs d e = some (some x, e')) (hl : acc.length < lim) : compL g t m vs (d :: ds) e acc = compL g t m vs ds e' (acc ++ [x]) := by
  unfold turn at h
  simp only [Option.bind_eq_some_iff] at h
  obtain ⟨e1, h1, p, h2, h3⟩ := h
  rw [compL_cons, h1, Option.bind_some, h2, Option.bind_some]
  by_cases hp : p.1 = true
  · rw [if_pos hp] at h3 ⊢
    obtain ⟨q, h4, h5⟩ := Option.bind_eq_some_iff.mp h3
    obtain ⟨w, h6, h7⟩ := Option.bind_eq_some_iff.mp h5
    rw [h4, Option.bind_some, h6, Option.bind_some]
    by_cases hf : vs.all (free? w.2) = true
    · rw [if_pos hf] at h7
      cases h7
      rw [if_pos ⟨hl, hf⟩]
    · rw [if_neg hf] at h7
      cases h7
  · rw [if_neg hp] at h3
    split at h3 <;> cases h3
theorem compL_skip (h : turn g t m vs d e = some (none, e')) : compL g t m vs (d :: ds) e acc = compL g t m vs ds e' acc := by
  unfold turn at h
  simp only [Option.bind_eq_some_iff] at h
  obtain ⟨e1, h1, p, h2, h3⟩ := h
  rw [compL_cons, h1, Option.bind_some, h2, Option.bind_some]
  by_cases hp : p.1 = true
  · rw [if_pos hp] at h3
    obtain ⟨q, h4, h5⟩ := Option.bind_eq_some_iff.mp h3
    obtain ⟨w, h6, h7⟩ := Option.bind_eq_some_iff.mp h5
    split at h7 <;> cases h7
  · rw [if_neg hp] at h3 ⊢
    by_cases hf : vs.all (free? p.2) = true
    · rw [if_pos hf] at h3 ⊢
      cases h3
      rfl
    · rw [if_neg hf] at h3
      cases h3
theorem compL_fm (F : PyData → Option PyData) : ∀ {ds acc : List PyData}, (∀ d ∈ ds, turn g t m vs d e = some (F d, e)) → acc.length + ds.length ≤ lim → compL g t m vs ds e acc = some (acc ++ ds.filterMap F, e)
  | [], acc, _, _ => by simp
  | d :: ds, acc, h, hl => by
    have h1 := h d (List.mem_cons_self ..)
    have h2 := fun d' hd => h d' (List.mem_cons_of_mem _ hd)
    simp only [List.length_cons] at hl
    cases hF : F d with
    | none =>
      rw [hF] at h1
      rw [compL_skip h1, compL_fm F h2 (by omega), List.filterMap_cons_none hF]
    | some y =>
      rw [hF] at h1
      rw [compL_one h1 (by omega), compL_fm F h2 (by rw [List.length_append]; simp only [List.length_cons, List.length_nil]; omega), List.filterMap_cons_some hF, List.append_assoc]
      rfl
theorem compL_map (F : PyData → PyData) (h : ∀ d ∈ ds, turn g t m vs d e = some (some (F d), e)) (hl : acc.length + ds.length ≤ lim) : compL g t m vs ds e acc = some (acc ++ ds.map F, e) := by
  rw [compL_fm (fun d => some (F d)) h hl]
  congr 2
  induction ds with
  | nil => rfl
  | cons a r ih => simp
end
theorem bools_all {β : Type} (f : β → Bool) : ∀ l : List β, bools (l.map fun b => .bool (f b)) = some (l.map f)
  | [] => rfl
  | b :: l => by simp [bools_all f l]
theorem lim_eq : lim = 1000000 := rfl
theorem atI_dW {w : List Nat} {i : Nat} (h : i < w.length) : atI (dW w) (i : Int) = some (dI (w.getD i 0)) := by
  unfold atI ixN
  have h1 : (0 : Int) ≤ (i : Int) := by omega
  have h2 : (i : Int) < ((dW w).length : Int) := by simp only [dW, List.length_map]; omega
  rw [if_pos h1, if_pos h2]
  simp only [Option.bind_some, Int.toNat_natCast]
  rw [List.getD_eq_getElem?_getD, List.getElem?_map, List.getElem?_eq_getElem h]
  rfl
theorem atI_last {w : List Nat} {a : Nat} : atI (dW (w ++ [a])) (-1) = some (dI a) := by
  unfold atI ixN
  have e : (dW (w ++ [a])).length = w.length + 1 := by simp [dW]
  rw [if_neg (by decide), if_pos (by rw [e]; omega), e]
  simp only [Option.bind_some]
  have e2 : (-1 + ((w.length + 1 : Nat) : Int)).toNat = w.length := by omega
  rw [e2]
  simp [dW]
theorem ixN_ok {n i : Nat} (h : i < n) : ixN n (i : Int) = some i := by
  unfold ixN
  rw [if_pos (by omega), if_pos (by omega)]
  simp
end Gx
namespace Gx
open PySem L2
/-- all([..]) where each item is True -/
theorem fAll_true : ∀ {xs : List PyData}, (∀ x ∈ xs, x = .bool true) → fAll (.list xs) = some (.val (.bool true)) := fun {xs} h => by
  have e : bools xs = some (xs.map fun _ => true) := by
    induction xs with
    | nil => rfl
    | cons a r ih =>
      rw [h a (List.mem_cons_self ..)]
      simp [ih fun x hx => h x (List.mem_cons_of_mem _ hx)]
  show ((bools xs).bind fun bs => some (Rs.val (.bool (bs.all id)))) = _
  rw [e]
  simp
theorem comp_all {g : MG} {t : M Bool} {m : M Rs} {vs : List Nat} {e : Lo} {ds : List PyData} (h : ∀ d ∈ ds, turn g t m vs d e = some (some (.bool true), e)) (hl : ds.length ≤ lim) :
    ∃ xs, fAll (.list xs) = some (.val (.bool true)) ∧ compL g t m vs ds e [] = some (xs, e) :=
  ⟨_, fAll_true fun x hx => by
    obtain ⟨_, _, q⟩ := List.mem_map.mp hx
    exact q.symm, compL_map (acc := []) (fun _ => .bool true) h (by simpa using hl)⟩
end Gx
/-! M3: loops by what stays, slices of words. -/
namespace Gx
open PySem L2
def okO (P B : Lo → Prop) : Out → Prop
  | .nx e => P e
  | .ct e => P e
  | .bk e => B e
  | .rt _ _ => False
theorem forL_ex {g : MG} {b : MS} {I : Nat → Lo → Prop} {B : Lo → Prop} : ∀ {ds : List PyData} {e : Lo} {i : Nat}, I i e → (∀ j d e, d ∈ ds → i ≤ j → j < i + ds.length → I j e → ∃ e1 o, g d e = some e1 ∧ b e1 = some o ∧ okO (I (j + 1)) B o) →
    ∃ e', forL g b ds e = some (.nx e') ∧ (I (i + ds.length) e' ∨ B e')
  | [], e, i, h, _ => ⟨e, rfl, .inl h⟩
  | d :: ds, e, i, h, st => by
    obtain ⟨e1, o, h1, h2, h3⟩ := st i d e (List.mem_cons_self ..) (Nat.le_refl _) (by simp) h
    rw [forL_cons, h1, Option.bind_some, h2, Option.bind_some]
    have next : ∀ e2, I (i + 1) e2 → ∃ e', forL g b ds e2 = some (.nx e') ∧ (I (i + (d :: ds).length) e' ∨ B e') := fun e2 q => by
      have := forL_ex (g := g) (b := b) (B := B) (ds := ds) q fun j d e hd hj hl => st j d e (List.mem_cons_of_mem _ hd) (by omega) (by simp only [List.length_cons]; omega)
      simp only [List.length_cons]
      rw [show i + (ds.length + 1) = i + 1 + ds.length by omega]
      exact this
    cases o with
    | nx e2 => exact next e2 h3
    | ct e2 => exact next e2 h3
    | bk e2 => exact ⟨e2, rfl, .inr h3⟩
    | rt r e2 => exact h3.elim
theorem cut_to {w : List Nat} {i : Nat} : cutD (dW w) none (some (i : Int)) = dW (w.take i) := by
  unfold cutD
  rw [HT.sIx_none, HT.sIx_nat]
  simp only [List.drop_zero, Nat.sub_zero, dW, List.length_map]
  rw [← List.map_take]
  congr 1
  by_cases h : i ≤ w.length
  · rw [Nat.min_eq_left h]
  · rw [Nat.min_eq_right (by omega), List.take_length, List.take_of_length_le (by omega)]
theorem cut_from {w : List Nat} {i : Nat} : cutD (dW w) (some (i : Int)) none = dW (w.drop i) := by
  unfold cutD
  rw [HT.sIx_none, HT.sIx_nat]
  simp only [dW, List.length_map]
  rw [← List.map_drop]
  by_cases h : i ≤ w.length
  · rw [Nat.min_eq_left h, List.take_of_length_le (by simp)]
  · rw [Nat.min_eq_right (by omega), Nat.sub_self, List.take_zero, List.drop_of_length_le (by omega)]
    rfl
theorem cut_mid {w : List Nat} {i j : Nat} : cutD (dW w) (some (i : Int)) (some (j : Int)) = dW ((w.take j).drop i) := by
  unfold cutD
  rw [HT.sIx_nat, HT.sIx_nat]
  simp only [dW, List.length_map]
  rw [← List.map_drop, ← List.map_take]
  congr 1
  rw [List.drop_take]
  by_cases hi : i ≤ w.length
  · rw [Nat.min_eq_left hi]
    by_cases hj : j ≤ w.length
    · rw [Nat.min_eq_left hj]
    · rw [Nat.min_eq_right (by omega), List.take_of_length_le (by simp), List.take_of_length_le (by simp; omega)]
  · rw [Nat.min_eq_right (show w.length ≤ i by omega), List.drop_length, List.take_nil, List.drop_of_length_le (show w.length ≤ i by omega), List.take_nil]
/-- numbers out of data -/
theorem as_dW {P : Nat → Prop} : ∀ {xs : List PyData}, (∀ x ∈ xs, ∃ i, x = dI i ∧ P i) → ∃ ys, xs = dW ys ∧ ∀ i ∈ ys, P i
  | [], _ => ⟨[], rfl, fun i h => by cases h⟩
  | x :: xs, h => by
    obtain ⟨i, e, hi⟩ := h x (List.mem_cons_self ..)
    obtain ⟨ys, e2, hy⟩ := as_dW (xs := xs) fun y hy => h y (List.mem_cons_of_mem _ hy)
    exact ⟨i :: ys, by rw [e, e2]; rfl, fun j hj => by
      rcases List.mem_cons.mp hj with q | q
      · rw [q]; exact hi
      · exact hy j q⟩
end Gx
/-! M4: the text of lists and tuples of plain data. -/
namespace Gx
open PySem L2
theorem plAll_of : ∀ {xs : List PyData}, (∀ x ∈ xs, pl x = true) → plAll xs = true
  | [], _ => by simp [plAll]
  | x :: xs, h => by
    simp only [plAll, h x (List.mem_cons_self ..), plAll_of fun y hy => h y (List.mem_cons_of_mem _ hy), Bool.and_self]
theorem szAll_of {n : Nat} : ∀ {xs : List PyData}, (∀ x ∈ xs, sz x ≤ n) → szAll xs ≤ (n + 1) * xs.length
  | [], _ => by simp [szAll]
  | x :: xs, h => by
    have h1 := h x (List.mem_cons_self ..)
    have h2 := szAll_of fun y hy => h y (List.mem_cons_of_mem _ hy)
    simp only [szAll, List.length_cons, Nat.mul_succ]
    omega
theorem depthAll_of {n : Nat} : ∀ {xs : List PyData}, (∀ x ∈ xs, x.depth ≤ n) → PyData.depthAll xs ≤ n
  | [], _ => by simp [PyData.depthAll]
  | x :: xs, h => by
    have h1 := h x (List.mem_cons_self ..)
    have h2 := depthAll_of fun y hy => h y (List.mem_cons_of_mem _ hy)
    simp only [PyData.depthAll]
    omega
/-- a small piece of plain data -/
structure Sm (n k : Nat) (d : PyData) : Prop where
  pl : pl d = true
  sz : sz d ≤ n
  dp : d.depth ≤ k
theorem Sm.list {n k m : Nat} {xs : List PyData} (h : ∀ x ∈ xs, Sm n k x) (hl : (n + 1) * xs.length ≤ m) : Sm m (k + 1) (.list xs) :=
  ⟨by simp only [Gx.pl]; exact plAll_of fun x hx => (h x hx).pl, by
    have := szAll_of (n := n) fun x hx => (h x hx).sz
    simp only [Gx.sz]
    omega, by
    have := depthAll_of (n := k) fun x hx => (h x hx).dp
    simp only [PyData.depth]
    omega⟩
theorem Sm.tuple {n k m : Nat} {xs : List PyData} (h : ∀ x ∈ xs, Sm n k x) (hl : (n + 1) * xs.length ≤ m) : Sm m (k + 1) (.tuple xs) :=
  ⟨by simp only [Gx.pl]; exact plAll_of fun x hx => (h x hx).pl, by
    have := szAll_of (n := n) fun x hx => (h x hx).sz
    simp only [Gx.sz]
    omega, by
    have := depthAll_of (n := k) fun x hx => (h x hx).dp
    simp only [PyData.depth]
    omega⟩
theorem Sm.repr {n k : Nat} {d : PyData} (h : Sm n k d) (hn : n ≤ 1500) (hk : k ≤ 64) : fRepr d = some (.val (.str d.shown)) := fRepr_pl h.pl (by have := h.sz; omega) (by have := h.dp; omega)
theorem Sm.bool {b : Bool} : Sm 0 0 (.bool b) := ⟨rfl, Nat.le_refl _, by simp [PyData.depth]⟩
theorem Sm.word {w : List Nat} {n : Nat} (h : ∀ a ∈ w, a < 1000000) (hl : w.length ≤ n) : Sm n 1 (.tuple (dW w)) := ⟨pl_tW h, by rw [sz_tW]; exact hl, by rw [depth_tW]; omega⟩
end Gx
/-! R1: free reduction of words over letters with inverses: no data, no program. -/
namespace Rd
def step (iv : Nat → Nat) (s : List Nat) (a : Nat) : List Nat :=
  match s with
  | [] => [a]
  | t :: s' => if iv t = a then s' else a :: t :: s'
def run (iv : Nat → Nat) (s w : List Nat) : List Nat := w.foldl (step iv) s
def red (iv : Nat → Nat) (w : List Nat) : List Nat := (run iv [] w).reverse
def opp (iv : Nat → Nat) (w : List Nat) : List Nat := w.reverse.map iv
/-- a stack (its top first) with no two letters that cancel -/
def RS (iv : Nat → Nat) : List Nat → Prop
  | [] => True
  | a :: s => (∀ b r, s = b :: r → iv b ≠ a) ∧ RS iv s
def Wd (k : Nat) (w : List Nat) : Prop := ∀ a ∈ w, a < k
structure Inv (iv : Nat → Nat) (k : Nat) : Prop where
  lt : ∀ a, a < k → iv a < k
  inv : ∀ a, a < k → iv (iv a) = a
section
variable {iv : Nat → Nat} {k : Nat} {a b c : Nat} {s w u v x y : List Nat}
theorem Wd.nil : Wd k [] := fun a h => by cases h
theorem Wd.cons (h : a < k) (hw : Wd k w) : Wd k (a :: w) := fun b hb => by
  rcases List.mem_cons.mp hb with e | hb
  · rw [e]; exact h
  · exact hw b hb
theorem Wd.head (h : Wd k (a :: w)) : a < k := h a (List.mem_cons_self ..)
theorem Wd.tail (h : Wd k (a :: w)) : Wd k w := fun b hb => h b (List.mem_cons_of_mem _ hb)
theorem Wd.app (h : Wd k u) (g : Wd k v) : Wd k (u ++ v) := fun b hb => (List.mem_append.mp hb).elim (h b) (g b)
theorem Wd.left (h : Wd k (u ++ v)) : Wd k u := fun b hb => h b (List.mem_append_left _ hb)
theorem Wd.right (h : Wd k (u ++ v)) : Wd k v := fun b hb => h b (List.mem_append_right _ hb)
theorem Wd.rev (h : Wd k w) : Wd k w.reverse := fun b hb => h b (List.mem_reverse.mp hb)
theorem Wd.take (n : Nat) (h : Wd k w) : Wd k (w.take n) := fun b hb => h b (List.mem_of_mem_take hb)
theorem Wd.drop (n : Nat) (h : Wd k w) : Wd k (w.drop n) := fun b hb => h b (List.mem_of_mem_drop hb)
theorem Wd.opp (I : Inv iv k) (h : Wd k w) : Wd k (opp iv w) := fun b hb => by
  obtain ⟨a, h1, rfl⟩ := List.mem_map.mp hb
  exact I.lt a (h a (List.mem_reverse.mp h1))
theorem Wd.step (h : Wd k s) (ha : a < k) : Wd k (step iv s a) := by
  cases s with
  | nil => exact .cons ha .nil
  | cons t s' =>
    unfold Rd.step
    simp only
    split
    · exact h.tail
    · exact .cons ha h
theorem run_nil : run iv s [] = s := rfl
theorem run_cons : run iv s (a :: w) = run iv (step iv s a) w := rfl
theorem run_app : run iv s (u ++ v) = run iv (run iv s u) v := List.foldl_append
theorem Wd.run (h : Wd k s) (hw : Wd k w) : Wd k (run iv s w) := by
  induction w generalizing s with
  | nil => exact h
  | cons a w ih => exact ih (h.step hw.head) hw.tail
theorem Wd.red (hw : Wd k w) : Wd k (red iv w) := (Wd.run .nil hw).rev
theorem RS.step (h : RS iv s) : RS iv (step iv s a) := by
  cases s with
  | nil => exact ⟨(fun b r e => by cases e), trivial⟩
  | cons t s' =>
    unfold Rd.step
    simp only
    split
    · exact h.2
    · rename_i hn
      exact ⟨fun b r e => by cases e; exact hn, h⟩
theorem RS.run (h : RS iv s) : RS iv (run iv s w) := by
  induction w generalizing s with
  | nil => exact h
  | cons a w ih => exact ih h.step
/-- a letter, then its inverse -/
theorem step_step (I : Inv iv k) (h : RS iv s) (hs : Wd k s) (ha : a < k) : step iv (step iv s a) (iv a) = s := by
  cases s with
  | nil =>
    show (if iv a = iv a then [] else _) = _
    rw [if_pos rfl]
  | cons t s' =>
    by_cases e : iv t = a
    · have e1 : Rd.step iv (t :: s') a = s' := by unfold Rd.step; simp only [e, if_true]
      rw [e1]
      have e2 : iv a = t := by rw [← e]; exact I.inv t hs.head
      rw [e2]
      cases s' with
      | nil => rfl
      | cons q r =>
        unfold Rd.step
        simp only
        rw [if_neg (h.1 q r rfl)]
    · have e1 : Rd.step iv (t :: s') a = a :: t :: s' := by unfold Rd.step; simp only [e, if_false]
      rw [e1]
      unfold Rd.step
      simp only [if_true]
/-- .. the other way round -/
theorem step_step' (I : Inv iv k) (h : RS iv s) (hs : Wd k s) (ha : a < k) : step iv (step iv s (iv a)) a = s := by
  have := step_step I h hs (I.lt a ha)
  rw [I.inv a ha] at this
  exact this
theorem run_pair (I : Inv iv k) (h : RS iv s) (hs : Wd k s) (ha : a < k) : run iv s (a :: iv a :: w) = run iv s w := by
  rw [run_cons, run_cons, step_step I h hs ha]
theorem red_pair (I : Inv iv k) (hu : Wd k u) (ha : a < k) : red iv (u ++ a :: iv a :: v) = red iv (u ++ v) := by
  unfold red
  rw [run_app, run_app, run_pair I (RS.run (s := []) trivial) (Wd.run .nil hu) ha]
/-- a stack laid again -/
theorem run_rev (h : RS iv s) : run iv [] s.reverse = s := by
  induction s with
  | nil => rfl
  | cons t s ih =>
    rw [List.reverse_cons, run_app, ih h.2]
    show Rd.step iv s t = _
    cases s with
    | nil => rfl
    | cons q r =>
      unfold Rd.step
      simp only
      rw [if_neg (h.1 q r rfl)]
theorem red_rev (h : RS iv s) : red iv s.reverse = s.reverse := by
  unfold red
  rw [run_rev h]
/-- a reduced word -/
def Rw (iv : Nat → Nat) (w : List Nat) : Prop := RS iv w.reverse
theorem Rw.red (h : Rw iv w) : red iv w = w := by
  have := red_rev h
  rw [List.reverse_reverse] at this
  exact this
theorem rw_red : Rw iv (red iv w) := by
  unfold Rw Rd.red
  rw [List.reverse_reverse]
  exact RS.run trivial
theorem red_red : red iv (red iv w) = red iv w := rw_red.red
theorem red_left : red iv (red iv u ++ v) = red iv (u ++ v) := by
  unfold red
  rw [run_app, run_app, run_rev (RS.run (s := []) trivial)]
/-- the same by a stack of one's own -/
theorem run_red (I : Inv iv k) (h : RS iv s) (hs : Wd k s) (hv : Wd k v) : run iv s (red iv v) = run iv s v := by
  have key : ∀ n (v : List Nat), v.length = n → Wd k v → run iv s (red iv v) = run iv s v := by
    intro n
    induction n with
    | zero =>
      intro v hl _
      rw [List.length_eq_zero_iff.mp hl]
      rfl
    | succ n ih =>
      intro v hl hv
      rcases List.eq_nil_or_concat v with e | ⟨v', a, e⟩
      · rw [e] at hl; cases hl
      · subst e
        rw [List.concat_eq_append] at *
        have hv' := hv.left
        have ha : a < k := hv a (List.mem_append_right _ (List.mem_cons_self ..))
        have hl' : v'.length = n := by rw [List.length_append] at hl; exact Nat.succ.inj hl
        have ih' := ih v' hl' hv'
        rw [run_app, ← ih']
        show run iv s (red iv (v' ++ [a])) = Rd.step iv (run iv s (red iv v')) a
        have e1 : red iv (v' ++ [a]) = (Rd.step iv (run iv [] v') a).reverse := by unfold Rd.red; rw [run_app]; rfl
        have e2 : red iv v' = (run iv [] v').reverse := rfl
        rw [e1, e2]
        have hw : Wd k (run iv [] v') := Wd.run .nil hv'
        cases hq : run iv [] v' with
        | nil => rfl
        | cons t s' =>
          by_cases e : iv t = a
          · have e3 : Rd.step iv (t :: s') a = s' := by unfold Rd.step; simp only [e, if_true]
            rw [e3, List.reverse_cons, run_app]
            rw [hq] at hw
            show _ = Rd.step iv (Rd.step iv (run iv s s'.reverse) t) a
            rw [← e, step_step I (RS.run h) (Wd.run hs hw.tail.rev) hw.head]
          · have e3 : Rd.step iv (t :: s') a = a :: t :: s' := by unfold Rd.step; simp only [e, if_false]
            rw [e3, List.reverse_cons, run_app]
            rfl
  exact key _ v rfl hv
theorem red_right (I : Inv iv k) (hu : Wd k u) (hv : Wd k v) : red iv (u ++ red iv v) = red iv (u ++ v) := by
  unfold red
  rw [run_app, run_app]
  have := run_red I (RS.run (s := []) (w := u) trivial) (Wd.run .nil hu) hv
  unfold red at this
  rw [this]
theorem red_both (I : Inv iv k) (hu : Wd k u) (hv : Wd k v) : red iv (red iv u ++ red iv v) = red iv (u ++ v) := by
  rw [red_left, red_right I hu hv]
theorem red_congr (I : Inv iv k) (h : red iv u = red iv v) (hx : Wd k x) (hu : Wd k u) (hv : Wd k v) : red iv (x ++ u ++ y) = red iv (x ++ v ++ y) := by
  rw [← red_left (u := x ++ u), ← red_right I hx hu, h, red_right I hx hv, red_left]

/-! ### opposites -/
theorem opp_app : opp iv (u ++ v) = opp iv v ++ opp iv u := by
  unfold opp
  rw [List.reverse_append, List.map_append]
theorem opp_cons : opp iv (a :: u) = opp iv u ++ [iv a] := by
  unfold opp
  rw [List.reverse_cons, List.map_append]
  rfl
theorem opp_one : opp iv [a] = [iv a] := rfl
theorem opp_opp (I : Inv iv k) (h : Wd k w) : opp iv (opp iv w) = w := by
  induction w with
  | nil => rfl
  | cons a w ih =>
    rw [opp_cons, opp_app, ih h.tail, opp_one, I.inv a h.head]
    rfl
theorem opp_length : (opp iv w).length = w.length := by
  unfold opp
  rw [List.length_map, List.length_reverse]
/-- a word, then its opposite -/
theorem red_opp (I : Inv iv k) (hu : Wd k u) (h : Wd k w) : red iv (u ++ (w ++ opp iv w) ++ v) = red iv (u ++ v) := by
  induction w generalizing u v with
  | nil => rw [show ([] : List Nat) ++ opp iv [] = [] from rfl, List.append_nil]
  | cons a w ih =>
    have e : u ++ (a :: w ++ opp iv (a :: w)) ++ v = (u ++ [a]) ++ (w ++ opp iv w) ++ (iv a :: v) := by
      rw [opp_cons]
      simp only [List.append_assoc, List.cons_append, List.nil_append]
    rw [e, ih (hu.app (.cons h.head .nil)) h.tail]
    have e2 : u ++ [a] ++ (iv a :: v) = u ++ a :: iv a :: v := by simp only [List.append_assoc, List.cons_append, List.nil_append]
    rw [e2, red_pair I hu h.head]
theorem red_opp' (I : Inv iv k) (hu : Wd k u) (h : Wd k w) : red iv (u ++ (opp iv w ++ w) ++ v) = red iv (u ++ v) := by
  have := red_opp (v := v) I hu (h.opp I)
  rw [opp_opp I h] at this
  exact this
theorem red_nil : red iv [] = [] := rfl
theorem red_opp0 (I : Inv iv k) (h : Wd k w) : red iv (w ++ opp iv w) = [] := by
  have := red_opp (v := []) I Wd.nil h
  simpa only [List.nil_append, List.append_nil, red_nil] using this
theorem red_opp0' (I : Inv iv k) (h : Wd k w) : red iv (opp iv w ++ w) = [] := by
  have := red_opp' (v := []) I Wd.nil h
  simpa only [List.nil_append, List.append_nil, red_nil] using this
/-- the opposite of a word is reduced to the opposite of the reduced word -/
theorem red_opp_red (I : Inv iv k) (h : Wd k w) : red iv (opp iv (red iv w)) = red iv (opp iv w) := by
  have hr : Wd k (red iv w) := h.red
  have h1 : red iv (opp iv (red iv w) ++ (w ++ opp iv w)) = red iv (opp iv (red iv w)) := by
    have := red_opp (v := []) I (hr.opp I) h
    simpa only [List.append_nil] using this
  have h2 : red iv (opp iv (red iv w) ++ (w ++ opp iv w)) = red iv (opp iv w) := by
    rw [← List.append_assoc, ← red_left, ← red_right I (hr.opp I) h, red_opp0' I hr]
    rfl
  rw [← h1, h2]
theorem rs_chain : ∀ {s : List Nat}, RS iv s ↔ ∀ x a b y, s = x ++ a :: b :: y → iv b ≠ a
  | [] => ⟨fun _ x a b y e => (by cases x <;> cases e), fun _ => trivial⟩
  | t :: s => by
    constructor
    · intro h x a b y e
      cases x with
      | nil =>
        cases e
        exact h.1 b y rfl
      | cons q x =>
        cases e
        exact rs_chain.mp h.2 x a b y rfl
    · intro h
      exact ⟨fun b r e => h [] t b r (by rw [e]; rfl), rs_chain.mpr fun x a b y e => h (t :: x) a b y (by rw [e]; rfl)⟩
/-- a word is reduced if no two neighbours cancel -/
theorem rw_chain : Rw iv w ↔ ∀ x a b y, w = x ++ a :: b :: y → iv a ≠ b := by
  unfold Rw
  rw [rs_chain]
  constructor
  · intro h x a b y e
    exact h y.reverse b a x.reverse (by rw [e]; simp)
  · intro h x a b y e
    exact h y.reverse b a x.reverse (by
      have := congrArg List.reverse e
      rw [List.reverse_reverse] at this
      rw [this]; simp)
theorem Rw.opp (I : Inv iv k) (hw : Wd k w) (h : Rw iv w) : Rw iv (opp iv w) := rw_chain.mpr fun x a b y e => by
  have e1 : w = Rd.opp iv y ++ iv b :: iv a :: Rd.opp iv x := by
    rw [← opp_opp I hw, e, opp_app, opp_cons, opp_cons]
    simp only [List.append_assoc, List.cons_append, List.nil_append]
  have q := rw_chain.mp h _ _ _ _ e1
  have hb : b < k := (hw.opp I) b (by rw [e]; simp)
  intro z
  rw [I.inv b hb] at q
  exact q z.symm
theorem Rw.take (n : Nat) (h : Rw iv w) : Rw iv (w.take n) := rw_chain.mpr fun x a b y e => rw_chain.mp h x a b (y ++ w.drop n) (by
  rw [show x ++ a :: b :: (y ++ w.drop n) = (x ++ a :: b :: y) ++ w.drop n by simp, ← e, List.take_append_drop])
theorem red_opp_eq (I : Inv iv k) (h : Wd k w) : red iv (opp iv w) = opp iv (red iv w) := by
  rw [← red_opp_red I h]
  exact (Rw.opp I h.red rw_red).red
/-- equal reduced words -/
theorem eq_iff (I : Inv iv k) (hu : Wd k u) (hv : Wd k v) : red iv (u ++ opp iv v) = [] ↔ red iv u = red iv v := by
  constructor
  · intro h
    have h1 : red iv (u ++ opp iv v ++ v) = red iv v := by rw [← red_left, h]; rfl
    have h2 : red iv (u ++ opp iv v ++ v) = red iv u := by
      have := red_opp' (v := []) I hu hv
      simpa only [List.append_nil, List.append_assoc] using this
    rw [← h2, h1]
  · intro h
    rw [← red_left, h, red_left]
    exact red_opp0 I hv
theorem eq_iff' (I : Inv iv k) (hu : Wd k u) (hv : Wd k v) : red iv (opp iv v ++ u) = [] ↔ red iv u = red iv v := by
  constructor
  · intro h
    have h1 : red iv (v ++ (opp iv v ++ u)) = red iv v := by rw [← red_right I hv ((hv.opp I).app hu), h, List.append_nil]
    have h2 : red iv (v ++ (opp iv v ++ u)) = red iv u := by
      have := red_opp (u := []) (v := u) I Wd.nil hv
      simpa only [List.nil_append, List.append_assoc] using this
    rw [← h2, h1]
  · intro h
    rw [← red_right I (hv.opp I) hu, h, red_right I (hv.opp I) hv]
    exact red_opp0' I hv
/-- lengths -/
theorem step_par : (step iv s a).length % 2 = (s.length + 1) % 2 := by
  cases s with
  | nil => rfl
  | cons t s' =>
    unfold Rd.step
    simp only
    split
    · simp only [List.length_cons]; omega
    · simp only [List.length_cons]
theorem run_par : (run iv s w).length % 2 = (s.length + w.length) % 2 := by
  induction w generalizing s with
  | nil => rfl
  | cons a w ih =>
    rw [run_cons, ih, List.length_cons]
    have := step_par (iv := iv) (s := s) (a := a)
    omega
theorem red_par : (red iv w).length % 2 = w.length % 2 := by
  unfold red
  rw [List.length_reverse, run_par, List.length_nil, Nat.zero_add]
theorem step_len : (step iv s a).length ≤ s.length + 1 := by
  cases s with
  | nil => exact Nat.le_refl _
  | cons t s' =>
    unfold Rd.step
    simp only
    split
    · simp only [List.length_cons]; omega
    · exact Nat.le_refl _
theorem run_len : (run iv s w).length ≤ s.length + w.length := by
  induction w generalizing s with
  | nil => exact Nat.le_refl _
  | cons a w ih =>
    rw [run_cons, List.length_cons]
    have := step_len (iv := iv) (s := s) (a := a)
    have := ih (s := Rd.step iv s a)
    omega
theorem red_len : (red iv w).length ≤ w.length := by
  unfold red
  rw [List.length_reverse]
  have := run_len (iv := iv) (s := []) (w := w)
  simpa using this
theorem red_one : red iv [a] = [a] := rfl
/-- one letter otherwise -/
theorem red_other (I : Inv iv k) (hu : Wd k u) (hv : Wd k v) (ha : a < k) (hb : b < k) (h : red iv (u ++ a :: v) = red iv (u ++ b :: v)) : a = b := by
  have key : ∀ c, c < k → red iv (opp iv u ++ (u ++ c :: v) ++ opp iv v) = [c] := fun c hc => by
    have e1 : opp iv u ++ (u ++ c :: v) ++ opp iv v = (opp iv u ++ u) ++ [c] ++ (v ++ opp iv v) := by simp
    have h1 : red iv ((opp iv u ++ u) ++ [c] ++ (v ++ opp iv v)) = red iv ((opp iv u ++ u) ++ [c]) := by
      have := red_opp (v := []) I ((hu.opp I).app hu |>.app (Wd.cons hc .nil)) hv
      simpa only [List.append_nil] using this
    have h2 : red iv ((opp iv u ++ u) ++ [c]) = red iv [c] := by
      have := red_opp' (u := []) (v := [c]) I Wd.nil hu
      simpa only [List.nil_append] using this
    rw [e1, h1, h2, red_one]
  have q := red_congr (x := opp iv u) (y := opp iv v) I h (hu.opp I) (hu.app (.cons ha hv)) (hu.app (.cons hb hv))
  rw [key a ha, key b hb] at q
  exact List.cons.inj q |>.1
end
end Rd
/-! The walk: what each def of the text means. -/
namespace K03
open PySem L2 Gx
def topS (i : Nat) : Stmt := PySem.Challenge.pw_onewordeach_k03_whole_cancelling_in_any.main.body.getD i (.Pass ⟨0, 0, 0, 0⟩)
abbrev s_is_integer : Stmt := topS 5
abbrev N_is_integer : List Str := ["thing"]
abbrev P_is_integer : List Str := ["thing"]
theorem sc_is_integer : FnScope N_is_integer P_is_integer (defScope s_is_integer) := ⟨rfl, rfl, rfl, by decide +kernel, rfl, by decide +kernel, by decide +kernel⟩
def body_is_integer : MS := sRet (mAndV (mOp1 (fIsi "int") (mVar 0)) (mNotV (mOp1 (fIsi "bool") (mVar 0))))
def sem_is_integer : Fn := mFn 1 1 body_is_integer
abbrev s_is_between : Stmt := topS 6
abbrev N_is_between : List Str := ["thing", "least", "most"]
abbrev P_is_between : List Str := ["thing", "least", "most"]
theorem sc_is_between : FnScope N_is_between P_is_between (defScope s_is_between) := ⟨rfl, rfl, rfl, by decide +kernel, rfl, by decide +kernel, by decide +kernel⟩
def body_is_between : MS := sRet (mAndV (mCall sem_is_integer (aPick [0] 1 1 (aCons (mVar 0) (aNil)))) (mChain fLe fLe (mVar 1) (mVar 0) (mVar 2)))
def sem_is_between : Fn := mFn 3 3 body_is_between
abbrev s_is_letters_value : Stmt := topS 7
abbrev N_is_letters_value : List Str := ["thing", "a"]
abbrev P_is_letters_value : List Str := ["thing"]
theorem sc_is_letters_value : FnScope N_is_letters_value P_is_letters_value (defScope s_is_letters_value) := ⟨rfl, rfl, rfl, by decide +kernel, rfl, by decide +kernel, by decide +kernel⟩
def ce0_is_letters_value : M Rs := mCall sem_is_between (aPick [0, 1, 2] 3 3 (aCons (mVar 1) (aCons (mC (.int 0)) (aCons (mOp2 fSub (mOp1 fLen (mVar 0)) (mC (.int 1))) (aNil)))))
def ce1_is_letters_value : M Rs := mOp2 fEq (mOp2 fIx (mVar 0) (mOp2 fIx (mVar 0) (mVar 1))) (mVar 1)
def body_is_letters_value : MS := sSeq (sIf (mOr (mNot (mB (mOp1 (fIsi "tuple") (mVar 0)))) (mOr (mB (mOp2 fEq (mVar 0) (mTup (aNil)))) (mNot (mB (mOp1 fAll (mComp (iSeq (mVar 0)) (gNm 1) (tYesM) (ce0_is_letters_value) [1])))))) (sRet (mC (.bool false))) (sNil))
  (sRet (mOp1 fAll (mComp (iRng (mOp1 fLen (mVar 0))) (gNm 1) (tYesM) (ce1_is_letters_value) [1])))
def sem_is_letters_value : Fn := mFn 1 2 body_is_letters_value
abbrev s_is_word_over : Stmt := topS 8
abbrev N_is_word_over : List Str := ["many", "thing", "a"]
abbrev P_is_word_over : List Str := ["many", "thing"]
theorem sc_is_word_over : FnScope N_is_word_over P_is_word_over (defScope s_is_word_over) := ⟨rfl, rfl, rfl, by decide +kernel, rfl, by decide +kernel, by decide +kernel⟩
def ce0_is_word_over : M Rs := mCall sem_is_between (aPick [0, 1, 2] 3 3 (aCons (mVar 2) (aCons (mC (.int 0)) (aCons (mOp2 fSub (mVar 0) (mC (.int 1))) (aNil)))))
def body_is_word_over : MS := sRet (mAndV (mOp1 (fIsi "tuple") (mVar 1)) (mOp1 fAll (mComp (iSeq (mVar 1)) (gNm 2) (tYesM) (ce0_is_word_over) [2])))
def sem_is_word_over : Fn := mFn 2 3 body_is_word_over
abbrev s_need_letters : Stmt := topS 9
abbrev N_need_letters : List Str := ["inverses"]
abbrev P_need_letters : List Str := ["inverses"]
theorem sc_need_letters : FnScope N_need_letters P_need_letters (defScope s_need_letters) := ⟨rfl, rfl, rfl, by decide +kernel, rfl, by decide +kernel, by decide +kernel⟩
def body_need_letters : MS := sIf (mNot (mB (mCall sem_is_letters_value (aPick [0] 1 1 (aCons (mVar 0) (aNil)))))) (sNever) (sNil)
def sem_need_letters : Fn := mFn 1 1 body_need_letters
abbrev s_need_word : Stmt := topS 10
abbrev N_need_word : List Str := ["many", "word"]
abbrev P_need_word : List Str := ["many", "word"]
theorem sc_need_word : FnScope N_need_word P_need_word (defScope s_need_word) := ⟨rfl, rfl, rfl, by decide +kernel, rfl, by decide +kernel, by decide +kernel⟩
def body_need_word : MS := sIf (mNot (mB (mCall sem_is_word_over (aPick [0, 1] 2 2 (aCons (mVar 0) (aCons (mVar 1) (aNil))))))) (sNever) (sNil)
def sem_need_word : Fn := mFn 2 2 body_need_word
abbrev s_inverse_of : Stmt := topS 11
abbrev N_inverse_of : List Str := ["inverses", "word", "a"]
abbrev P_inverse_of : List Str := ["inverses", "word"]
theorem sc_inverse_of : FnScope N_inverse_of P_inverse_of (defScope s_inverse_of) := ⟨rfl, rfl, rfl, by decide +kernel, rfl, by decide +kernel, by decide +kernel⟩
def ce0_inverse_of : M Rs := mOp2 fIx (mVar 0) (mVar 2)
def body_inverse_of : MS := sRet (mOp1 fTuple (mComp (iRevS (mVar 1)) (gNm 2) (tYesM) (ce0_inverse_of) [2]))
def sem_inverse_of : Fn := mFn 2 3 body_inverse_of
abbrev s_reduced_of : Stmt := topS 12
abbrev N_reduced_of : List Str := ["inverses", "word", "found", "a"]
abbrev P_reduced_of : List Str := ["inverses", "word"]
theorem sc_reduced_of : FnScope N_reduced_of P_reduced_of (defScope s_reduced_of) := ⟨rfl, rfl, rfl, by decide +kernel, rfl, by decide +kernel, by decide +kernel⟩
def lp0_reduced_of : MS := sIf (mAnd (mB (mOp2 fNe (mVar 2) (mLst (aNil)))) (mB (mOp2 fEq (mOp2 fIx (mVar 0) (mOp2 fIx (mVar 2) (mOp1 fNeg (mC (.int 1))))) (mVar 3)))) (sExpr (mPop 2)) (sExpr (mAppend 2 (mVar 3)))
def body_reduced_of : MS := sSeq (sSet 2 (mLst (aNil)))
  (sSeq (sFor (iSeq (mVar 1)) (gNm 3) (lp0_reduced_of))
  (sRet (mOp1 fTuple (mVar 2))))
def sem_reduced_of : Fn := mFn 2 4 body_reduced_of
abbrev s_inverse : Stmt := topS 14
abbrev N_inverse : List Str := ["inverses", "word"]
abbrev P_inverse : List Str := ["inverses", "word"]
theorem sc_inverse : FnScope N_inverse P_inverse (defScope s_inverse) := ⟨rfl, rfl, rfl, by decide +kernel, rfl, by decide +kernel, by decide +kernel⟩
def body_inverse : MS := sSeq (sExpr (mCall sem_need_letters (aPick [0] 1 1 (aCons (mVar 0) (aNil)))))
  (sSeq (sExpr (mCall sem_need_word (aPick [0, 1] 2 2 (aCons (mOp1 fLen (mVar 0)) (aCons (mVar 1) (aNil))))))
  (sRet (mCall sem_inverse_of (aPick [0, 1] 2 2 (aCons (mVar 0) (aCons (mVar 1) (aNil)))))))
def sem_inverse : Fn := mFn 2 2 body_inverse
abbrev s_reduced : Stmt := topS 15
abbrev N_reduced : List Str := ["inverses", "word"]
abbrev P_reduced : List Str := ["inverses", "word"]
theorem sc_reduced : FnScope N_reduced P_reduced (defScope s_reduced) := ⟨rfl, rfl, rfl, by decide +kernel, rfl, by decide +kernel, by decide +kernel⟩
def body_reduced : MS := sSeq (sExpr (mCall sem_need_letters (aPick [0] 1 1 (aCons (mVar 0) (aNil)))))
  (sSeq (sExpr (mCall sem_need_word (aPick [0, 1] 2 2 (aCons (mOp1 fLen (mVar 0)) (aCons (mVar 1) (aNil))))))
  (sRet (mCall sem_reduced_of (aPick [0, 1] 2 2 (aCons (mVar 0) (aCons (mVar 1) (aNil)))))))
def sem_reduced : Fn := mFn 2 2 body_reduced
abbrev s__law_deck : Stmt := topS 17
abbrev N__law_deck : List Str := ["script", "mixed", "cell"]
abbrev P__law_deck : List Str := ["script"]
theorem sc__law_deck : FnScope N__law_deck P__law_deck (defScope s__law_deck) := ⟨rfl, rfl, rfl, by decide +kernel, rfl, by decide +kernel, by decide +kernel⟩
def lp0__law_deck : MS := sSet 1 (mOp2 fMod (mOp1 fInt (mOp2 fAdd (mOp2 fAdd (mOp2 fMul (mVar 1) (mC (.int 40014))) (mOp2 fMod (mOp1 fInt (mVar 2)) (mC (.int 2147483399)))) (mC (.int 67)))) (mC (.int 2147483563)))
def body__law_deck : MS := sSeq (sSet 1 (mC (.int 15373030)))
  (sSeq (sFor (iSeq (mSl (mVar 0) (oNo) (oSome (mC (.int 63))))) (gNm 2) (lp0__law_deck))
  (sRet (mBox3 "left" "mixed" "draws" (mOp1 fRevL (mOp1 fList (mSl (mVar 0) (oNo) (oSome (mC (.int 63)))))) (pVar 1) (pC 0))))
def sem__law_deck : Fn := mFn 1 3 body__law_deck
abbrev s__law_draw : Stmt := topS 18
abbrev N__law_draw : List Str := ["deck", "many", "mark", "cell"]
abbrev P__law_draw : List Str := ["deck", "many"]
theorem sc__law_draw : FnScope N__law_draw P__law_draw (defScope s__law_draw) := ⟨rfl, rfl, rfl, by decide +kernel, rfl, by decide +kernel, by decide +kernel⟩
def body__law_draw : MS := sSeq (sFldSet 0 "draws" (pOp pAdd (pFld 0 "draws") (pC 1)))
  (sSeq (sIf (tFldNe 0 "left") (sSeq (sSet 3 (mFldPop 0 "left"))
  (sSeq (sIf (mB (mOp2 fGe (mVar 3) (mOp2 fPow (mC (.int 10)) (mC (.int 18))))) (sSeq (sExpr (mFldApp 0 "left" (pOp pDiv (pVar 3) (pOp pMax (pC 2) (pVar 1)))))
  (sRet (mOp2 fMod (mOp1 fInt (mVar 3)) (mVar 1)))) (sNil))
  (sFldSet 0 "mixed" (pOp pMod (pOp pAdd (pOp pAdd (pOp pMul (pFld 0 "mixed") (pC 39373)) (pOp pMod (pVar 3) (pC 2147483587))) (pC 23)) (pC 2147483629))))) (sNil))
  (sSeq (sSet 2 (mOp2 fMod (mOp1 fInt (mOp2 fAdd (mP (pFld 0 "mixed")) (mOp2 fMul (mC (.int 52173)) (mP (pFld 0 "draws"))))) (mC (.int 2147483647))))
  (sSeq (sSet 2 (mOp2 fMod (mOp1 fInt (mOp2 fAdd (mOp2 fAdd (mOp2 fMul (mVar 2) (mVar 2)) (mOp2 fMul (mC (.int 48271)) (mP (pFld 0 "draws")))) (mC (.int 29)))) (mC (.int 2147483563))))
  (sRet (mOp2 fMod (mOp1 fInt (mOp2 fFdiv (mOp2 fMod (mOp1 fInt (mOp2 fAdd (mOp2 fMul (mVar 2) (mC (.int 16807))) (mC (.int 61)))) (mC (.int 2147483587))) (mC (.int 64)))) (mVar 1))))))
def sem__law_draw : Fn := mFn 2 4 body__law_draw
abbrev s__law_pick : Stmt := topS 19
abbrev N__law_pick : List Str := ["deck", "some"]
abbrev P__law_pick : List Str := ["deck", "some"]
theorem sc__law_pick : FnScope N__law_pick P__law_pick (defScope s__law_pick) := ⟨rfl, rfl, rfl, by decide +kernel, rfl, by decide +kernel, by decide +kernel⟩
def body__law_pick : MS := sRet (mOp2 fIx (mVar 1) (mCallD sem__law_draw 0 2 (aCons (mOp1 fLen (mVar 1)) (aNil))))
def sem__law_pick : Fn := mFn 2 2 body__law_pick
abbrev s__law_order : Stmt := topS 20
abbrev N__law_order : List Str := ["deck", "many", "left", "found"]
abbrev P__law_order : List Str := ["deck", "many"]
theorem sc__law_order : FnScope N__law_order P__law_order (defScope s__law_order) := ⟨rfl, rfl, rfl, by decide +kernel, rfl, by decide +kernel, by decide +kernel⟩
def wt0__law_order : M Bool := mB (mOp2 fNe (mVar 2) (mLst (aNil)))
def wb1__law_order : MS := sExpr (mAppend 3 (mPopAt 2 (mCallD sem__law_draw 0 2 (aCons (mOp1 fLen (mVar 2)) (aNil)))))
def body__law_order : MS := sSeq (sPar 2 3 (mLRng (mVar 1)) (mLst (aNil)))
  (sSeq (sWhile 100000 (wt0__law_order) (wb1__law_order))
  (sRet (mVar 3)))
def sem__law_order : Fn := mFn 2 4 body__law_order
abbrev s__law_letters : Stmt := topS 21
abbrev N__law_letters : List Str := ["deck", "sizes", "order", "found", "at", "one", "other"]
abbrev P__law_letters : List Str := ["deck", "sizes"]
theorem sc__law_letters : FnScope N__law_letters P__law_letters (defScope s__law_letters) := ⟨rfl, rfl, rfl, by decide +kernel, rfl, by decide +kernel, by decide +kernel⟩
def lp0__law_letters : MS := sSeq (sPar 5 6 (mOp2 fIx (mVar 2) (mOp2 fMul (mC (.int 2)) (mVar 4))) (mOp2 fIx (mVar 2) (mOp2 fAdd (mOp2 fMul (mC (.int 2)) (mVar 4)) (mC (.int 1)))))
  (sIf (mB (mOp2 fGt (mCallD sem__law_draw 0 2 (aCons (mC (.int 3)) (aNil))) (mC (.int 0)))) (sSeq (sSetIx 3 (mVar 5) (mVar 6))
  (sSetIx 3 (mVar 6) (mVar 5))) (sNil))
def body__law_letters : MS := sSeq (sSet 2 (mCallD sem__law_order 0 2 (aCons (mCallD sem__law_pick 0 2 (aCons (mVar 1) (aNil))) (aNil))))
  (sSeq (sSet 3 (mLRng (mOp1 fLen (mVar 2))))
  (sSeq (sFor (iRng (mOp2 fFdiv (mOp1 fLen (mVar 2)) (mC (.int 2)))) (gNm 4) (lp0__law_letters))
  (sRet (mOp1 fTuple (mVar 3)))))
def sem__law_letters : Fn := mFn 2 7 body__law_letters
abbrev s__law_inverse : Stmt := topS 22
abbrev N__law_inverse : List Str := ["inverses", "word", "a"]
abbrev P__law_inverse : List Str := ["inverses", "word"]
theorem sc__law_inverse : FnScope N__law_inverse P__law_inverse (defScope s__law_inverse) := ⟨rfl, rfl, rfl, by decide +kernel, rfl, by decide +kernel, by decide +kernel⟩
def ce0__law_inverse : M Rs := mOp2 fIx (mVar 0) (mVar 2)
def body__law_inverse : MS := sRet (mOp1 fTuple (mComp (iSeq (mOp1 fRevT (mVar 1))) (gNm 2) (tYesM) (ce0__law_inverse) [2]))
def sem__law_inverse : Fn := mFn 2 3 body__law_inverse
abbrev s__law_reduced : Stmt := topS 23
abbrev N__law_reduced : List Str := ["inverses", "word", "left", "a"]
abbrev P__law_reduced : List Str := ["inverses", "word"]
theorem sc__law_reduced : FnScope N__law_reduced P__law_reduced (defScope s__law_reduced) := ⟨rfl, rfl, rfl, by decide +kernel, rfl, by decide +kernel, by decide +kernel⟩
def lp0__law_reduced : MS := sIf (mAnd (mB (mOp2 fNe (mVar 2) (mLst (aNil)))) (mB (mOp2 fEq (mOp2 fIx (mVar 0) (mOp2 fIx (mVar 2) (mOp1 fNeg (mC (.int 1))))) (mVar 3)))) (sExpr (mPop 2)) (sExpr (mAppend 2 (mVar 3)))
def body__law_reduced : MS := sSeq (sSet 2 (mLst (aNil)))
  (sSeq (sFor (iSeq (mVar 1)) (gNm 3) (lp0__law_reduced))
  (sRet (mOp1 fTuple (mVar 2))))
def sem__law_reduced : Fn := mFn 2 4 body__law_reduced
abbrev s__law_free : Stmt := topS 24
abbrev N__law_free : List Str := ["deck", "inverses", "most", "found", "turn", "some", "a"]
abbrev P__law_free : List Str := ["deck", "inverses", "most"]
theorem sc__law_free : FnScope N__law_free P__law_free (defScope s__law_free) := ⟨rfl, rfl, rfl, by decide +kernel, rfl, by decide +kernel, by decide +kernel⟩
def ct0__law_free : M Bool := mOr (mB (mOp2 fEq (mVar 3) (mLst (aNil)))) (mB (mOp2 fNe (mOp2 fIx (mVar 1) (mOp2 fIx (mVar 3) (mOp1 fNeg (mC (.int 1))))) (mVar 6)))
def lp1__law_free : MS := sSeq (sSet 5 (mComp (iRng (mOp1 fLen (mVar 1))) (gNm 6) (ct0__law_free) (mVar 6) [6]))
  (sSeq (sIf (mB (mOp2 fEq (mVar 5) (mLst (aNil)))) (sBreak) (sNil))
  (sExpr (mAppend 3 (mCallD sem__law_pick 0 2 (aCons (mVar 5) (aNil))))))
def body__law_free : MS := sSeq (sSet 3 (mLst (aNil)))
  (sSeq (sFor (iRng (mCallD sem__law_draw 0 2 (aCons (mOp2 fAdd (mVar 2) (mC (.int 1))) (aNil)))) (gNm 4) (lp1__law_free))
  (sRet (mOp1 fTuple (mVar 3))))
def sem__law_free : Fn := mFn 3 7 body__law_free
abbrev s__law_filled : Stmt := topS 25
abbrev N__law_filled : List Str := ["deck", "inverses", "word", "most", "turn", "at", "a"]
abbrev P__law_filled : List Str := ["deck", "inverses", "word", "most"]
theorem sc__law_filled : FnScope N__law_filled P__law_filled (defScope s__law_filled) := ⟨rfl, rfl, rfl, by decide +kernel, rfl, by decide +kernel, by decide +kernel⟩
def lp0__law_filled : MS := sSeq (sPar 5 6 (mCallD sem__law_draw 0 2 (aCons (mOp2 fAdd (mOp1 fLen (mVar 2)) (mC (.int 1))) (aNil))) (mCallD sem__law_draw 0 2 (aCons (mOp1 fLen (mVar 1)) (aNil))))
  (sSet 2 (mOp2 fAdd (mOp2 fAdd (mSl (mVar 2) (oNo) (oSome (mVar 5))) (mTup (aCons (mVar 6) (aCons (mOp2 fIx (mVar 1) (mVar 6)) (aNil))))) (mSl (mVar 2) (oSome (mVar 5)) (oNo))))
def body__law_filled : MS := sSeq (sFor (iRng (mCallD sem__law_draw 0 2 (aCons (mOp2 fAdd (mOp2 fFdiv (mOp2 fMax (mC (.int 0)) (mOp2 fSub (mVar 3) (mOp1 fLen (mVar 2)))) (mC (.int 2))) (mC (.int 1))) (aNil)))) (gNm 4) (lp0__law_filled))
  (sRet (mVar 2))
def sem__law_filled : Fn := mFn 4 7 body__law_filled
abbrev s__law_spots : Stmt := topS 26
abbrev N__law_spots : List Str := ["inverses", "word", "at", "pair"]
abbrev P__law_spots : List Str := ["inverses", "word"]
theorem sc__law_spots : FnScope N__law_spots P__law_spots (defScope s__law_spots) := ⟨rfl, rfl, rfl, by decide +kernel, rfl, by decide +kernel, by decide +kernel⟩
def ct0__law_spots : M Bool := mB (mOp2 fEq (mOp2 fIx (mVar 0) (mOp2 fIx (mVar 3) (mC (.int 0)))) (mOp2 fIx (mVar 3) (mC (.int 1))))
def body__law_spots : MS := sRet (mComp (iEnumZip (mVar 1) (mSl (mVar 1) (oSome (mC (.int 1))) (oNo))) (gTu 2 (gsCons (gNm 2) (gsCons (gNm 3) (gsNil)))) (ct0__law_spots) (mVar 2) [2, 3])
def sem__law_spots : Fn := mFn 2 4 body__law_spots
abbrev s__law_cancelled : Stmt := topS 27
abbrev N__law_cancelled : List Str := ["deck", "inverses", "word", "found", "turn", "spots", "at"]
abbrev P__law_cancelled : List Str := ["deck", "inverses", "word"]
theorem sc__law_cancelled : FnScope N__law_cancelled P__law_cancelled (defScope s__law_cancelled) := ⟨rfl, rfl, rfl, by decide +kernel, rfl, by decide +kernel, by decide +kernel⟩
def lp0__law_cancelled : MS := sSeq (sSet 5 (mCall sem__law_spots (aPick [0, 1] 2 2 (aCons (mVar 1) (aCons (mVar 2) (aNil))))))
  (sSeq (sIf (mB (mOp2 fEq (mVar 5) (mLst (aNil)))) (sBreak) (sNil))
  (sSeq (sSet 6 (mCallD sem__law_pick 0 2 (aCons (mVar 5) (aNil))))
  (sSeq (sSet 2 (mOp2 fAdd (mSl (mVar 2) (oNo) (oSome (mVar 6))) (mSl (mVar 2) (oSome (mOp2 fAdd (mVar 6) (mC (.int 2)))) (oNo))))
  (sExpr (mAppend 3 (mVar 2))))))
def body__law_cancelled : MS := sSeq (sSet 3 (mLst (aCons (mVar 2) (aNil))))
  (sSeq (sFor (iRng (mOp2 fFdiv (mOp1 fLen (mVar 2)) (mC (.int 2)))) (gNm 4) (lp0__law_cancelled))
  (sRet (mVar 3)))
def sem__law_cancelled : Fn := mFn 3 7 body__law_cancelled
abbrev s__law_ends_cancelled : Stmt := topS 28
abbrev N__law_ends_cancelled : List Str := ["inverses", "word", "first", "found", "turn", "spots", "at"]
abbrev P__law_ends_cancelled : List Str := ["inverses", "word", "first"]
theorem sc__law_ends_cancelled : FnScope N__law_ends_cancelled P__law_ends_cancelled (defScope s__law_ends_cancelled) := ⟨rfl, rfl, rfl, by decide +kernel, rfl, by decide +kernel, by decide +kernel⟩
def lp0__law_ends_cancelled : MS := sSeq (sSet 5 (mCall sem__law_spots (aPick [0, 1] 2 2 (aCons (mVar 0) (aCons (mVar 1) (aNil))))))
  (sSeq (sIf (mB (mOp2 fEq (mVar 5) (mLst (aNil)))) (sBreak) (sNil))
  (sSeq (sSet 6 (mIf (mTr (mVar 2)) (mOp2 fIx (mVar 5) (mC (.int 0))) (mOp2 fIx (mVar 5) (mOp1 fNeg (mC (.int 1))))))
  (sSeq (sSet 1 (mOp2 fAdd (mSl (mVar 1) (oNo) (oSome (mVar 6))) (mSl (mVar 1) (oSome (mOp2 fAdd (mVar 6) (mC (.int 2)))) (oNo))))
  (sExpr (mAppend 3 (mVar 1))))))
def body__law_ends_cancelled : MS := sSeq (sSet 3 (mLst (aCons (mVar 1) (aNil))))
  (sSeq (sFor (iRng (mOp2 fFdiv (mOp1 fLen (mVar 1)) (mC (.int 2)))) (gNm 4) (lp0__law_ends_cancelled))
  (sRet (mVar 3)))
def sem__law_ends_cancelled : Fn := mFn 3 7 body__law_ends_cancelled
abbrev s__law_is_reduced_to : Stmt := topS 29
abbrev N__law_is_reduced_to : List Str := ["inverses", "some", "core", "word"]
abbrev P__law_is_reduced_to : List Str := ["inverses", "some", "core"]
theorem sc__law_is_reduced_to : FnScope N__law_is_reduced_to P__law_is_reduced_to (defScope s__law_is_reduced_to) := ⟨rfl, rfl, rfl, by decide +kernel, rfl, by decide +kernel, by decide +kernel⟩
def ct0__law_is_reduced_to : M Bool := mOr (mB (mOp2 fNe (mOp1 fRepr (mCall sem_reduced (aPick [0, 1] 2 2 (aCons (mVar 0) (aCons (mVar 3) (aNil)))))) (mOp1 fRepr (mVar 2)))) (mB (mOp2 fNe (mOp1 fRepr (mCall sem_reduced (aPick [1, 0] 2 2 (aCons (mVar 3) (aCons (mVar 0) (aNil)))))) (mOp1 fRepr (mVar 2))))
def body__law_is_reduced_to : MS := sRet (mOp2 fEq (mComp (iSeq (mVar 1)) (gNm 3) (ct0__law_is_reduced_to) (mC (.int 1)) [3]) (mLst (aNil)))
def sem__law_is_reduced_to : Fn := mFn 3 4 body__law_is_reduced_to
abbrev s__law_are_near_apart : Stmt := topS 30
abbrev N__law_are_near_apart : List Str := ["deck", "inverses", "word", "core", "turn", "near", "k", "some", "at", "told"]
abbrev P__law_are_near_apart : List Str := ["deck", "inverses", "word", "core"]
theorem sc__law_are_near_apart : FnScope N__law_are_near_apart P__law_are_near_apart (defScope s__law_are_near_apart) := ⟨rfl, rfl, rfl, by decide +kernel, rfl, by decide +kernel, by decide +kernel⟩
def lp0__law_are_near_apart : MS := sSeq (sSet 8 (mCallD sem__law_draw 0 2 (aCons (mOp1 fLen (mVar 2)) (aNil))))
  (sSeq (sExpr (mAppend 7 (mOp2 fAdd (mSl (mVar 2) (oNo) (oSome (mVar 8))) (mSl (mVar 2) (oSome (mOp2 fAdd (mVar 8) (mC (.int 1)))) (oNo)))))
  (sSeq (sExpr (mAppend 7 (mOp2 fAdd (mOp2 fAdd (mSl (mVar 2) (oNo) (oSome (mVar 8))) (mTup (aCons (mOp2 fMod (mOp1 fInt (mOp2 fAdd (mOp2 fAdd (mOp2 fIx (mVar 2) (mVar 8)) (mC (.int 1))) (mCallD sem__law_draw 0 2 (aCons (mOp2 fMax (mC (.int 1)) (mOp2 fSub (mVar 6) (mC (.int 1)))) (aNil))))) (mVar 6)) (aNil)))) (mSl (mVar 2) (oSome (mOp2 fAdd (mVar 8) (mC (.int 1)))) (oNo)))))
  (sExpr (mAppend 7 (mOp2 fAdd (mOp2 fAdd (mSl (mVar 2) (oNo) (oSome (mVar 8))) (mTup (aCons (mCallD sem__law_draw 0 2 (aCons (mVar 6) (aNil))) (aNil)))) (mSl (mVar 2) (oSome (mVar 8)) (oNo)))))))
def lp1__law_are_near_apart : MS := sIf (mAnd (mB (mOp2 fNe (mVar 5) (mVar 2))) (mB (mOp2 fLe (mOp1 fLen (mVar 5)) (mC (.int 24))))) (sSeq (sSet 9 (mCall sem_reduced (aPick [0, 1] 2 2 (aCons (mVar 1) (aCons (mVar 5) (aNil))))))
  (sIf (mOr (mB (mOp2 fEq (mOp1 fRepr (mVar 9)) (mOp1 fRepr (mVar 3)))) (mB (mOp2 fNe (mOp1 fRepr (mVar 9)) (mOp1 fRepr (mCall sem__law_reduced (aPick [0, 1] 2 2 (aCons (mVar 1) (aCons (mVar 5) (aNil))))))))) (sRet (mC (.bool false))) (sNil))) (sNil)
def body__law_are_near_apart : MS := sSeq (sPar 6 7 (mOp1 fLen (mVar 1)) (mLst (aNil)))
  (sSeq (sFor (iRng (mIf (mB (mOp2 fNe (mVar 2) (mTup (aNil)))) (mC (.int 4)) (mC (.int 0)))) (gNm 4) (lp0__law_are_near_apart))
  (sSeq (sFor (iSeq (mVar 7)) (gNm 5) (lp1__law_are_near_apart))
  (sRet (mC (.bool true)))))
def sem__law_are_near_apart : Fn := mFn 4 10 body__law_are_near_apart
abbrev s__law_are_joined : Stmt := topS 31
abbrev N__law_are_joined : List Str := ["inverses", "one", "core", "other", "heart", "due", "told", "back", "freely", "both", "alike"]
abbrev P__law_are_joined : List Str := ["inverses", "one", "core", "other", "heart"]
theorem sc__law_are_joined : FnScope N__law_are_joined P__law_are_joined (defScope s__law_are_joined) := ⟨rfl, rfl, rfl, by decide +kernel, rfl, by decide +kernel, by decide +kernel⟩
def body__law_are_joined : MS := sSeq (sPar 9 10 (mOp2 fAdd (mVar 1) (mVar 3)) (mOp2 fEq (mVar 2) (mVar 4)))
  (sSeq (sSet 5 (mCall sem__law_reduced (aPick [0, 1] 2 2 (aCons (mVar 0) (aCons (mOp2 fAdd (mVar 2) (mVar 4)) (aNil))))))
  (sSeq (sSet 6 (mLst (aCons (mCall sem_reduced (aPick [0, 1] 2 2 (aCons (mVar 0) (aCons (mVar 9) (aNil))))) (aCons (mCall sem_reduced (aPick [0, 1] 2 2 (aCons (mVar 0) (aCons (mOp2 fAdd (mVar 2) (mVar 4)) (aNil))))) (aCons (mCall sem_reduced (aPick [0, 1] 2 2 (aCons (mVar 0) (aCons (mOp2 fAdd (mVar 2) (mVar 3)) (aNil))))) (aCons (mCall sem_reduced (aPick [0, 1] 2 2 (aCons (mVar 0) (aCons (mOp2 fAdd (mVar 1) (mVar 4)) (aNil))))) (aNil)))))))
  (sSeq (sExpr (mAppend 6 (mCall sem_reduced (aPick [0, 1] 2 2 (aCons (mVar 0) (aCons (mOp2 fAdd (mCall sem_reduced (aPick [0, 1] 2 2 (aCons (mVar 0) (aCons (mVar 1) (aNil))))) (mCall sem_reduced (aPick [0, 1] 2 2 (aCons (mVar 0) (aCons (mVar 3) (aNil)))))) (aNil)))))))
  (sSeq (sIf (mB (mOp2 fNe (mOp1 fRepr (mVar 6)) (mOp1 fRepr (mRep (mLst (aCons (mVar 5) (aNil))) (mC (.int 5)))))) (sRet (mC (.bool false))) (sNil))
  (sSeq (sSet 7 (mCall sem_inverse (aPick [0, 1] 2 2 (aCons (mVar 0) (aCons (mVar 3) (aNil))))))
  (sSeq (sIf (mOr (mB (mOp2 fNe (mOp1 fRepr (mVar 7)) (mOp1 fRepr (mCall sem__law_inverse (aPick [0, 1] 2 2 (aCons (mVar 0) (aCons (mVar 3) (aNil)))))))) (mB (mOp2 fNe (mOp1 fRepr (mCall sem_inverse (aPick [0, 1] 2 2 (aCons (mVar 0) (aCons (mVar 7) (aNil)))))) (mOp1 fRepr (mVar 3))))) (sRet (mC (.bool false))) (sNil))
  (sSeq (sIf (mB (mOp2 fNe (mOp1 fRepr (mCall sem_inverse (aPick [0, 1] 2 2 (aCons (mVar 0) (aCons (mVar 9) (aNil)))))) (mOp1 fRepr (mOp2 fAdd (mVar 7) (mCall sem_inverse (aPick [1, 0] 2 2 (aCons (mVar 1) (aCons (mVar 0) (aNil))))))))) (sRet (mC (.bool false))) (sNil))
  (sSeq (sIf (mOr (mB (mOp2 fNe (mOp1 fRepr (mCall sem_reduced (aPick [0, 1] 2 2 (aCons (mVar 0) (aCons (mVar 7) (aNil)))))) (mOp1 fRepr (mCall sem__law_inverse (aPick [0, 1] 2 2 (aCons (mVar 0) (aCons (mVar 4) (aNil)))))))) (mB (mOp2 fNe (mOp1 fRepr (mCall sem_inverse (aPick [0, 1] 2 2 (aCons (mVar 0) (aCons (mVar 4) (aNil)))))) (mOp1 fRepr (mCall sem_reduced (aPick [0, 1] 2 2 (aCons (mVar 0) (aCons (mVar 7) (aNil))))))))) (sRet (mC (.bool false))) (sNil))
  (sSeq (sSet 8 (mLst (aCons (mOp2 fEq (mCall sem_reduced (aPick [0, 1] 2 2 (aCons (mVar 0) (aCons (mVar 1) (aNil))))) (mCall sem_reduced (aPick [0, 1] 2 2 (aCons (mVar 0) (aCons (mVar 3) (aNil)))))) (aCons (mOp2 fEq (mCall sem_reduced (aPick [0, 1] 2 2 (aCons (mVar 0) (aCons (mOp2 fAdd (mVar 1) (mVar 7)) (aNil))))) (mTup (aNil))) (aCons (mOp2 fEq (mCall sem_reduced (aPick [0, 1] 2 2 (aCons (mVar 0) (aCons (mOp2 fAdd (mVar 7) (mVar 1)) (aNil))))) (mTup (aNil))) (aNil))))))
  (sRet (mOp2 fEq (mOp1 fRepr (mVar 8)) (mOp1 fRepr (mRep (mLst (aCons (mVar 10) (aNil))) (mC (.int 3)))))))))))))))
def sem__law_are_joined : Fn := mFn 5 11 body__law_are_joined
abbrev s_law : Stmt := topS 32
abbrev N_law : List Str := ["script", "deck", "turn", "inverses", "some", "word", "back", "told", "near", "twin", "case", "core", "heart", "text", "ways", "one", "other", "go"]
abbrev P_law : List Str := ["script"]
theorem sc_law : FnScope N_law P_law (defScope s_law) := ⟨rfl, rfl, rfl, by decide +kernel, rfl, by decide +kernel, by decide +kernel⟩
def ce0_law : M Rs := mCallD sem__law_filled 1 4 (aCons (mVar 3) (aCons (mVar 11) (aCons (mC (.int 24)) (aNil))))
def lp1_law : MS := sSeq (sSet 13 (mOp1 fRepr (mTup (aCons (mVar 3) (aCons (mVar 5) (aNil))))))
  (sSeq (sSet 14 (mOp2 fAdd (mCallD sem__law_cancelled 1 3 (aCons (mVar 3) (aCons (mVar 5) (aNil)))) (mCallD sem__law_cancelled 1 3 (aCons (mVar 3) (aCons (mVar 5) (aNil))))))
  (sSeq (sSet 14 (mOp2 fAdd (mOp2 fAdd (mVar 14) (mCall sem__law_ends_cancelled (aPick [0, 1, 2] 3 3 (aCons (mVar 3) (aCons (mVar 5) (aCons (mC (.bool true)) (aNil))))))) (mCall sem__law_ends_cancelled (aPick [0, 1, 2] 3 3 (aCons (mVar 3) (aCons (mVar 5) (aCons (mC (.bool false)) (aNil))))))))
  (sIf (mOr (mNot (mB (mCall sem__law_is_reduced_to (aPick [0, 1, 2] 3 3 (aCons (mVar 3) (aCons (mVar 14) (aCons (mVar 11) (aNil)))))))) (mB (mOp2 fNe (mOp1 fRepr (mTup (aCons (mVar 3) (aCons (mVar 5) (aNil))))) (mVar 13)))) (sRet (mC (.bool false))) (sNil))))
def lp2_law : MS := sIf (mNot (mB (mCall sem__law_are_joined (aPick [0, 1, 2, 3, 4] 5 5 (aCons (mVar 3) (aCons (mOp2 fIx (mVar 10) (mC (.int 0))) (aCons (mOp2 fIx (mVar 10) (mC (.int 1))) (aCons (mOp2 fIx (mVar 10) (mC (.int 2))) (aCons (mOp2 fIx (mVar 10) (mC (.int 3))) (aNil)))))))))) (sRet (mC (.bool false))) (sNil)
def lp3_law : MS := sSeq (sSet 3 (mCallD sem__law_letters 1 2 (aCons (mLst (aCons (mC (.int 2)) (aCons (mC (.int 4)) (aCons (mC (.int 3)) (aCons (mC (.int 1)) (aNil)))))) (aNil))))
  (sSeq (sAsg (gTu 2 (gsCons (gNm 11) (gsCons (gNm 12) (gsNil)))) (mTup (aCons (mCallD sem__law_free 1 3 (aCons (mVar 3) (aCons (mCallD sem__law_pick 1 2 (aCons (mLst (aCons (mC (.int 4)) (aCons (mC (.int 10)) (aCons (mC (.int 24)) (aCons (mC (.int 0)) (aCons (mC (.int 14)) (aNil))))))) (aNil))) (aNil)))) (aCons (mCallD sem__law_free 1 3 (aCons (mVar 3) (aCons (mC (.int 6)) (aNil)))) (aNil)))))
  (sSeq (sSet 4 (mComp (iRng (mC (.int 3))) (gNm 17) (tYesM) (ce0_law) [17]))
  (sSeq (sFor (iSeq (mVar 4)) (gNm 5) (lp1_law))
  (sSeq (sSet 6 (mCall sem_inverse (aPick [0, 1] 2 2 (aCons (mVar 3) (aCons (mVar 11) (aNil))))))
  (sSeq (sSet 7 (mLst (aCons (mVar 6) (aCons (mCall sem_reduced (aPick [0, 1] 2 2 (aCons (mVar 3) (aCons (mVar 6) (aNil))))) (aCons (mCall sem_inverse (aPick [1, 0] 2 2 (aCons (mOp2 fIx (mVar 4) (mC (.int 1))) (aCons (mVar 3) (aNil))))) (aCons (mCall sem_inverse (aPick [0, 1] 2 2 (aCons (mVar 3) (aCons (mVar 6) (aNil))))) (aNil)))))))
  (sSeq (sIf (mB (mOp2 fNe (mOp1 fRepr (mVar 7)) (mOp1 fRepr (mOp2 fAdd (mRep (mLst (aCons (mCall sem__law_inverse (aPick [0, 1] 2 2 (aCons (mVar 3) (aCons (mVar 11) (aNil))))) (aNil))) (mC (.int 2))) (mLst (aCons (mCall sem__law_inverse (aPick [0, 1] 2 2 (aCons (mVar 3) (aCons (mOp2 fIx (mVar 4) (mC (.int 1))) (aNil))))) (aCons (mVar 11) (aNil)))))))) (sRet (mC (.bool false))) (sNil))
  (sSeq (sIf (mOr (mNot (mB (mCallD sem__law_are_near_apart 1 4 (aCons (mVar 3) (aCons (mOp2 fIx (mVar 4) (mC (.int 0))) (aCons (mVar 11) (aNil))))))) (mNot (mB (mCallD sem__law_are_near_apart 1 4 (aCons (mVar 3) (aCons (mVar 11) (aCons (mVar 11) (aNil)))))))) (sRet (mC (.bool false))) (sNil))
  (sSeq (sSet 8 (mCallD sem__law_pick 1 2 (aCons (mLst (aCons (mVar 12) (aCons (mCall sem__law_inverse (aPick [0, 1] 2 2 (aCons (mVar 3) (aCons (mSl (mVar 11) (oNo) (oSome (mC (.int 6)))) (aNil))))) (aCons (mSl (mVar 11) (oNo) (oSome (mC (.int 6)))) (aCons (mSl (mVar 11) (oSome (mC (.int 1))) (oSome (mC (.int 7)))) (aCons (mOp2 fAdd (mSl (mVar 11) (oNo) (oSome (mC (.int 5)))) (mSl (mVar 12) (oNo) (oSome (mC (.int 1))))) (aNil))))))) (aNil))))
  (sSeq (sSet 8 (mCall sem__law_reduced (aPick [0, 1] 2 2 (aCons (mVar 3) (aCons (mVar 8) (aNil))))))
  (sSeq (sPar 15 16 (mCallD sem__law_filled 1 4 (aCons (mVar 3) (aCons (mSl (mVar 11) (oNo) (oSome (mC (.int 8)))) (aCons (mC (.int 12)) (aNil))))) (mCallD sem__law_filled 1 4 (aCons (mVar 3) (aCons (mVar 8) (aCons (mC (.int 12)) (aNil))))))
  (sSeq (sSet 9 (mCallD sem__law_filled 1 4 (aCons (mVar 3) (aCons (mVar 8) (aCons (mC (.int 12)) (aNil))))))
  (sFor (iSeq (mTup (aCons (mTup (aCons (mVar 15) (aCons (mSl (mVar 11) (oNo) (oSome (mC (.int 8)))) (aCons (mVar 16) (aCons (mVar 8) (aNil)))))) (aCons (mTup (aCons (mVar 16) (aCons (mVar 8) (aCons (mVar 15) (aCons (mSl (mVar 11) (oNo) (oSome (mC (.int 8)))) (aNil)))))) (aCons (mTup (aCons (mVar 16) (aCons (mVar 8) (aCons (mVar 9) (aCons (mVar 8) (aNil)))))) (aCons (mTup (aCons (mVar 15) (aCons (mSl (mVar 11) (oNo) (oSome (mC (.int 8)))) (aCons (mVar 15) (aCons (mSl (mVar 11) (oNo) (oSome (mC (.int 8)))) (aNil)))))) (aNil))))))) (gNm 10) (lp2_law)))))))))))))
def body_law : MS := sSeq (sSet 1 (mCall sem__law_deck (aPick [0] 1 1 (aCons (mVar 0) (aNil)))))
  (sSeq (sFor (iRng (mC (.int 3))) (gNm 2) (lp3_law))
  (sRet (mC (.bool true))))
def sem_law : Fn := mFn 1 18 body_law
structure Txt (mg : Str → Option Value) : Prop where
  b_all : mg "all" = none
  b_bool : mg "bool" = none
  b_enumerate : mg "enumerate" = none
  b_int : mg "int" = none
  b_isinstance : mg "isinstance" = none
  b_len : mg "len" = none
  b_list : mg "list" = none
  b_max : mg "max" = none
  b_range : mg "range" = none
  b_repr : mg "repr" = none
  b_reversed : mg "reversed" = none
  b_tuple : mg "tuple" = none
  b_zip : mg "zip" = none
section
variable {P : Program} {w : World} {K : PySem.W.Frag} {mg : Str → Option Value} {base : Heap}
theorem bd_is_integer_0 {f : Addr} {fd : FuncData} (F : Fun K "is_integer" "is_integer" s_is_integer f fd) : BindG K fd P_is_integer [] [0] 1 := BindG.of F fun _ _ _ _ _ _ us ws h1 h2 => match us, ws, h1, h2 with | [_], [], _, _ => rfl
theorem ok_is_integer {f : Addr} {fd : FuncData} (F : Fun K "is_integer" "is_integer" s_is_integer f fd) (T : Txt mg) : FnG P w K mg base 1 f fd P_is_integer (spF K 1 sem_is_integer) :=
  fnG_of (N := N_is_integer) (ps := P_is_integer) (m := body_is_integer) F sc_is_integer fun cdv A outer s H hr hgd =>
    ss_one (s_ret (se_and (se_isi (by rfl) T.b_isinstance (by rfl) T.b_int (by decide +kernel) (se_var 0)) (se_one (se_not (se_isi (by rfl) T.b_isinstance (by rfl) T.b_bool (by decide +kernel) (se_var 0))))))
theorem bd_is_between_0 {f : Addr} {fd : FuncData} (F : Fun K "is_between" "is_between" s_is_between f fd) : BindG K fd P_is_between [] [0, 1, 2] 3 := BindG.of F fun _ _ _ _ _ _ us ws h1 h2 => match us, ws, h1, h2 with | [_, _, _], [], _, _ => rfl
theorem ok_is_between {f : Addr} {fd : FuncData} (F : Fun K "is_between" "is_between" s_is_between f fd) (T : Txt mg) {a_is_integer : Addr} {fd_is_integer : FuncData} (D_is_integer : Def P w K mg base "is_integer" s_is_integer 1 P_is_integer sem_is_integer a_is_integer fd_is_integer) : FnG P w K mg base 2 f fd P_is_between (spF K 3 sem_is_between) :=
  fnG_of (N := N_is_between) (ps := P_is_between) (m := body_is_between) F sc_is_between fun cdv A outer s H hr hgd =>
    ss_one (s_ret (se_and (se_call (is := [0]) (nu := 1) D_is_integer.ok (hr.mono (by decide)) hgd (by rfl) D_is_integer.at_ D_is_integer.fn.kp (bd_is_integer_0 D_is_integer.fn) (sa_cons (se_var 0) (sa_nil))) (se_one (se_chain op_le of_B op_le of_B (se_var 1) (se_var 0) (se_var 2)))))
theorem bd_is_letters_value_0 {f : Addr} {fd : FuncData} (F : Fun K "is_letters_value" "is_letters_value" s_is_letters_value f fd) : BindG K fd P_is_letters_value [] [0] 1 := BindG.of F fun _ _ _ _ _ _ us ws h1 h2 => match us, ws, h1, h2 with | [_], [], _, _ => rfl
theorem ok_is_letters_value {f : Addr} {fd : FuncData} (F : Fun K "is_letters_value" "is_letters_value" s_is_letters_value f fd) (T : Txt mg) {a_is_between : Addr} {fd_is_between : FuncData} (D_is_between : Def P w K mg base "is_between" s_is_between 2 P_is_between sem_is_between a_is_between fd_is_between) : FnG P w K mg base 3 f fd P_is_letters_value (spF K 1 sem_is_letters_value) :=
  fnG_of (N := N_is_letters_value) (ps := P_is_letters_value) (m := body_is_letters_value) F sc_is_letters_value fun cdv A outer s H hr hgd =>
    ss_cons (s_if (sw_st (sw_or (st_not (st_val (se_isi (by rfl) T.b_isinstance (by rfl) T.b_tuple (by decide +kernel) (se_var 0)))) (sw_or (st_eq hr.units (se_var 0) (se_tup (sa_nil))) (sw_or1 (st_not (st_val (se_all rfl (by rfl) T.b_all (se_lc (own := [("a", 1)]) (W := [1]) rfl sc_is_letters_value.nd (si_seq (se_var 0)) (blkOk_by (N := N_is_letters_value) (sc := (defScope s_is_letters_value)) (own := [("a", 1)]) (by decide +kernel)) (fun _ h => h) (fun _ _ _ _ _ => sg_name 1 sc_is_letters_value.nd (by decide)) (fun _ _ _ _ _ => sts_nil) (fun _ _ _ _ _ => se_call (is := [0, 1, 2]) (nu := 3) D_is_between.ok (hr.mono (by decide)) hgd (by rfl) D_is_between.at_ D_is_between.fn.kp (bd_is_between_0 D_is_between.fn) (sa_cons (se_var 1) (sa_cons (se_int) (sa_cons (se_sub (se_len (by rfl) T.b_len (se_var 0)) (se_int)) (sa_nil))))))))))))) (ss_one (s_ret (se_bl))) (ss_nil))
    (ss_one (s_ret (se_all rfl (by rfl) T.b_all (se_lc (own := [("a", 1)]) (W := [1]) rfl sc_is_letters_value.nd (si_rng (by rfl) T.b_range (se_len (by rfl) T.b_len (se_var 0))) (blkOk_by (N := N_is_letters_value) (sc := (defScope s_is_letters_value)) (own := [("a", 1)]) (by decide +kernel)) (fun _ h => h) (fun _ _ _ _ _ => sg_name 1 sc_is_letters_value.nd (by decide)) (fun _ _ _ _ _ => sts_nil) (fun _ _ _ _ _ => se_eq hr.units (se_ix (se_var 0) (se_ix (se_var 0) (se_var 1) (fun _ _ => rfl)) (fun _ _ => rfl)) (se_var 1))))))
theorem bd_is_word_over_0 {f : Addr} {fd : FuncData} (F : Fun K "is_word_over" "is_word_over" s_is_word_over f fd) : BindG K fd P_is_word_over [] [0, 1] 2 := BindG.of F fun _ _ _ _ _ _ us ws h1 h2 => match us, ws, h1, h2 with | [_, _], [], _, _ => rfl
theorem ok_is_word_over {f : Addr} {fd : FuncData} (F : Fun K "is_word_over" "is_word_over" s_is_word_over f fd) (T : Txt mg) {a_is_between : Addr} {fd_is_between : FuncData} (D_is_between : Def P w K mg base "is_between" s_is_between 2 P_is_between sem_is_between a_is_between fd_is_between) : FnG P w K mg base 3 f fd P_is_word_over (spF K 2 sem_is_word_over) :=
  fnG_of (N := N_is_word_over) (ps := P_is_word_over) (m := body_is_word_over) F sc_is_word_over fun cdv A outer s H hr hgd =>
    ss_one (s_ret (se_and (se_isi (by rfl) T.b_isinstance (by rfl) T.b_tuple (by decide +kernel) (se_var 1)) (se_one (se_all rfl (by rfl) T.b_all (se_lc (own := [("a", 2)]) (W := [2]) rfl sc_is_word_over.nd (si_seq (se_var 1)) (blkOk_by (N := N_is_word_over) (sc := (defScope s_is_word_over)) (own := [("a", 2)]) (by decide +kernel)) (fun _ h => h) (fun _ _ _ _ _ => sg_name 2 sc_is_word_over.nd (by decide)) (fun _ _ _ _ _ => sts_nil) (fun _ _ _ _ _ => se_call (is := [0, 1, 2]) (nu := 3) D_is_between.ok (hr.mono (by decide)) hgd (by rfl) D_is_between.at_ D_is_between.fn.kp (bd_is_between_0 D_is_between.fn) (sa_cons (se_var 2) (sa_cons (se_int) (sa_cons (se_sub (se_var 0) (se_int)) (sa_nil))))))))))
theorem bd_need_letters_0 {f : Addr} {fd : FuncData} (F : Fun K "need_letters" "need_letters" s_need_letters f fd) : BindG K fd P_need_letters [] [0] 1 := BindG.of F fun _ _ _ _ _ _ us ws h1 h2 => match us, ws, h1, h2 with | [_], [], _, _ => rfl
theorem ok_need_letters {f : Addr} {fd : FuncData} (F : Fun K "need_letters" "need_letters" s_need_letters f fd) (T : Txt mg) {a_is_letters_value : Addr} {fd_is_letters_value : FuncData} (D_is_letters_value : Def P w K mg base "is_letters_value" s_is_letters_value 3 P_is_letters_value sem_is_letters_value a_is_letters_value fd_is_letters_value) : FnG P w K mg base 4 f fd P_need_letters (spF K 1 sem_need_letters) :=
  fnG_of (N := N_need_letters) (ps := P_need_letters) (m := body_need_letters) F sc_need_letters fun cdv A outer s H hr hgd =>
    ss_one (s_if (st_not (st_val (se_call (is := [0]) (nu := 1) D_is_letters_value.ok (hr.mono (by decide)) hgd (by rfl) D_is_letters_value.at_ D_is_letters_value.fn.kp (bd_is_letters_value_0 D_is_letters_value.fn) (sa_cons (se_var 0) (sa_nil))))) (ss_one (s_never)) (ss_nil))
theorem bd_need_word_0 {f : Addr} {fd : FuncData} (F : Fun K "need_word" "need_word" s_need_word f fd) : BindG K fd P_need_word [] [0, 1] 2 := BindG.of F fun _ _ _ _ _ _ us ws h1 h2 => match us, ws, h1, h2 with | [_, _], [], _, _ => rfl
theorem ok_need_word {f : Addr} {fd : FuncData} (F : Fun K "need_word" "need_word" s_need_word f fd) (T : Txt mg) {a_is_word_over : Addr} {fd_is_word_over : FuncData} (D_is_word_over : Def P w K mg base "is_word_over" s_is_word_over 3 P_is_word_over sem_is_word_over a_is_word_over fd_is_word_over) : FnG P w K mg base 4 f fd P_need_word (spF K 2 sem_need_word) :=
  fnG_of (N := N_need_word) (ps := P_need_word) (m := body_need_word) F sc_need_word fun cdv A outer s H hr hgd =>
    ss_one (s_if (st_not (st_val (se_call (is := [0, 1]) (nu := 2) D_is_word_over.ok (hr.mono (by decide)) hgd (by rfl) D_is_word_over.at_ D_is_word_over.fn.kp (bd_is_word_over_0 D_is_word_over.fn) (sa_cons (se_var 0) (sa_cons (se_var 1) (sa_nil)))))) (ss_one (s_never)) (ss_nil))
theorem bd_inverse_of_0 {f : Addr} {fd : FuncData} (F : Fun K "inverse_of" "inverse_of" s_inverse_of f fd) : BindG K fd P_inverse_of [] [0, 1] 2 := BindG.of F fun _ _ _ _ _ _ us ws h1 h2 => match us, ws, h1, h2 with | [_, _], [], _, _ => rfl
theorem ok_inverse_of {f : Addr} {fd : FuncData} (F : Fun K "inverse_of" "inverse_of" s_inverse_of f fd) (T : Txt mg) : FnG P w K mg base 1 f fd P_inverse_of (spF K 2 sem_inverse_of) :=
  fnG_of (N := N_inverse_of) (ps := P_inverse_of) (m := body_inverse_of) F sc_inverse_of fun cdv A outer s H hr hgd =>
    ss_one (s_ret (se_tuple (by rfl) T.b_tuple (se_lc (own := [("a", 2)]) (W := [2]) rfl sc_inverse_of.nd (si_rev (by rfl) T.b_reversed (se_var 1)) (blkOk_by (N := N_inverse_of) (sc := (defScope s_inverse_of)) (own := [("a", 2)]) (by decide +kernel)) (fun _ h => h) (fun _ _ _ _ _ => sg_name 2 sc_inverse_of.nd (by decide)) (fun _ _ _ _ _ => sts_nil) (fun _ _ _ _ _ => se_ix (se_var 0) (se_var 2) (fun _ _ => rfl)))))
theorem bd_reduced_of_0 {f : Addr} {fd : FuncData} (F : Fun K "reduced_of" "reduced_of" s_reduced_of f fd) : BindG K fd P_reduced_of [] [0, 1] 2 := BindG.of F fun _ _ _ _ _ _ us ws h1 h2 => match us, ws, h1, h2 with | [_, _], [], _, _ => rfl
theorem ok_reduced_of {f : Addr} {fd : FuncData} (F : Fun K "reduced_of" "reduced_of" s_reduced_of f fd) (T : Txt mg) : FnG P w K mg base 1 f fd P_reduced_of (spF K 2 sem_reduced_of) :=
  fnG_of (N := N_reduced_of) (ps := P_reduced_of) (m := body_reduced_of) F sc_reduced_of fun cdv A outer s H hr hgd =>
    ss_cons (s_set 2 sc_reduced_of.nd (se_lst (sa_nil)))
    (ss_cons (s_for (W := [3]) PassesOwn.never rfl (si_seq (se_var 1)) (sg_name 3 sc_reduced_of.nd (by decide)) (ss_one (s_if (sw_st (sw_and (st_ne hr.units (se_var 2) (se_lst (sa_nil))) (sw_and1 (st_eq hr.units (se_ix (se_var 0) (se_ix (se_var 2) (se_neg (se_int)) (fun _ _ => rfl)) (fun _ _ => rfl)) (se_var 3))))) (ss_one (s_expr (se_pop (pe_bm0 PySem.F.plainAttrs_list PySem.F.slot_list_pop PySem.F.type_list_pop mt_pop (pv 2))))) (ss_one (s_expr (se_append (pe_bm PySem.F.plainAttrs_list PySem.F.slot_list_append PySem.F.type_list_append mt_append (pv 2) (pa_cons (se_var 3) pa_nil))))))))
    (ss_one (s_ret (se_tuple (by rfl) T.b_tuple (se_var 2)))))
theorem bd_inverse_0 {f : Addr} {fd : FuncData} (F : Fun K "inverse" "inverse" s_inverse f fd) : BindG K fd P_inverse [] [0, 1] 2 := BindG.of F fun _ _ _ _ _ _ us ws h1 h2 => match us, ws, h1, h2 with | [_, _], [], _, _ => rfl
theorem bd_inverse_1 {f : Addr} {fd : FuncData} (F : Fun K "inverse" "inverse" s_inverse f fd) : BindG K fd P_inverse ["word", "inverses"] [1, 0] 0 := BindG.of F fun _ _ _ _ _ _ us ws h1 h2 => match us, ws, h1, h2 with | [], [_, _], _, _ => rfl
theorem ok_inverse {f : Addr} {fd : FuncData} (F : Fun K "inverse" "inverse" s_inverse f fd) (T : Txt mg) {a_need_letters : Addr} {fd_need_letters : FuncData} (D_need_letters : Def P w K mg base "need_letters" s_need_letters 4 P_need_letters sem_need_letters a_need_letters fd_need_letters) {a_need_word : Addr} {fd_need_word : FuncData} (D_need_word : Def P w K mg base "need_word" s_need_word 4 P_need_word sem_need_word a_need_word fd_need_word) {a_inverse_of : Addr} {fd_inverse_of : FuncData} (D_inverse_of : Def P w K mg base "inverse_of" s_inverse_of 1 P_inverse_of sem_inverse_of a_inverse_of fd_inverse_of) : FnG P w K mg base 5 f fd P_inverse (spF K 2 sem_inverse) :=
  fnG_of (N := N_inverse) (ps := P_inverse) (m := body_inverse) F sc_inverse fun cdv A outer s H hr hgd =>
    ss_cons (s_expr (se_call (is := [0]) (nu := 1) D_need_letters.ok (hr.mono (by decide)) hgd (by rfl) D_need_letters.at_ D_need_letters.fn.kp (bd_need_letters_0 D_need_letters.fn) (sa_cons (se_var 0) (sa_nil))))
    (ss_cons (s_expr (se_call (is := [0, 1]) (nu := 2) D_need_word.ok (hr.mono (by decide)) hgd (by rfl) D_need_word.at_ D_need_word.fn.kp (bd_need_word_0 D_need_word.fn) (sa_cons (se_len (by rfl) T.b_len (se_var 0)) (sa_cons (se_var 1) (sa_nil)))))
    (ss_one (s_ret (se_call (is := [0, 1]) (nu := 2) D_inverse_of.ok (hr.mono (by decide)) hgd (by rfl) D_inverse_of.at_ D_inverse_of.fn.kp (bd_inverse_of_0 D_inverse_of.fn) (sa_cons (se_var 0) (sa_cons (se_var 1) (sa_nil)))))))
theorem bd_reduced_0 {f : Addr} {fd : FuncData} (F : Fun K "reduced" "reduced" s_reduced f fd) : BindG K fd P_reduced [] [0, 1] 2 := BindG.of F fun _ _ _ _ _ _ us ws h1 h2 => match us, ws, h1, h2 with | [_, _], [], _, _ => rfl
theorem bd_reduced_1 {f : Addr} {fd : FuncData} (F : Fun K "reduced" "reduced" s_reduced f fd) : BindG K fd P_reduced ["word", "inverses"] [1, 0] 0 := BindG.of F fun _ _ _ _ _ _ us ws h1 h2 => match us, ws, h1, h2 with | [], [_, _], _, _ => rfl
theorem ok_reduced {f : Addr} {fd : FuncData} (F : Fun K "reduced" "reduced" s_reduced f fd) (T : Txt mg) {a_need_letters : Addr} {fd_need_letters : FuncData} (D_need_letters : Def P w K mg base "need_letters" s_need_letters 4 P_need_letters sem_need_letters a_need_letters fd_need_letters) {a_need_word : Addr} {fd_need_word : FuncData} (D_need_word : Def P w K mg base "need_word" s_need_word 4 P_need_word sem_need_word a_need_word fd_need_word) {a_reduced_of : Addr} {fd_reduced_of : FuncData} (D_reduced_of : Def P w K mg base "reduced_of" s_reduced_of 1 P_reduced_of sem_reduced_of a_reduced_of fd_reduced_of) : FnG P w K mg base 5 f fd P_reduced (spF K 2 sem_reduced) :=
  fnG_of (N := N_reduced) (ps := P_reduced) (m := body_reduced) F sc_reduced fun cdv A outer s H hr hgd =>
    ss_cons (s_expr (se_call (is := [0]) (nu := 1) D_need_letters.ok (hr.mono (by decide)) hgd (by rfl) D_need_letters.at_ D_need_letters.fn.kp (bd_need_letters_0 D_need_letters.fn) (sa_cons (se_var 0) (sa_nil))))
    (ss_cons (s_expr (se_call (is := [0, 1]) (nu := 2) D_need_word.ok (hr.mono (by decide)) hgd (by rfl) D_need_word.at_ D_need_word.fn.kp (bd_need_word_0 D_need_word.fn) (sa_cons (se_len (by rfl) T.b_len (se_var 0)) (sa_cons (se_var 1) (sa_nil)))))
    (ss_one (s_ret (se_call (is := [0, 1]) (nu := 2) D_reduced_of.ok (hr.mono (by decide)) hgd (by rfl) D_reduced_of.at_ D_reduced_of.fn.kp (bd_reduced_of_0 D_reduced_of.fn) (sa_cons (se_var 0) (sa_cons (se_var 1) (sa_nil)))))))
theorem bd__law_deck_0 {f : Addr} {fd : FuncData} (F : Fun K "_law_deck" "_law_deck" s__law_deck f fd) : BindG K fd P__law_deck [] [0] 1 := BindG.of F fun _ _ _ _ _ _ us ws h1 h2 => match us, ws, h1, h2 with | [_], [], _, _ => rfl
theorem ok__law_deck {f : Addr} {fd : FuncData} (F : Fun K "_law_deck" "_law_deck" s__law_deck f fd) (T : Txt mg) : FnG P w K mg base 1 f fd P__law_deck (spF K 1 sem__law_deck) :=
  fnG_of (N := N__law_deck) (ps := P__law_deck) (m := body__law_deck) F sc__law_deck fun cdv A outer s H hr hgd =>
    ss_cons (s_set 1 sc__law_deck.nd (se_int))
    (ss_cons (s_for (W := [2]) PassesOwn.never rfl (si_seq (se_slice (se_var 0) (so_no) (so_some (se_int)))) (sg_name 2 sc__law_deck.nd (by decide)) (ss_one (s_set 1 sc__law_deck.nd (se_mod (se_intc (by rfl) T.b_int (se_add (se_add (se_mul (se_var 1) (se_int)) (se_mod (se_intc (by rfl) T.b_int (se_var 2)) (se_int))) (se_int))) (se_int)))))
    (ss_one (s_ret (se_box3 (by decide +kernel) (by decide +kernel) (by decide +kernel) (pe_disp (pps_cons pe_str (se_revL (se_list (by rfl) T.b_list (se_slice (se_var 0) (so_no) (so_some (se_int))))) (pps_cons pe_str (sp_var 1) (pps_cons pe_str (sp_int) pps_nil))) (by rfl) (by rfl) (fun z => by cases z) (by decide))))))
theorem bd__law_draw_0 {f : Addr} {fd : FuncData} (F : Fun K "_law_draw" "_law_draw" s__law_draw f fd) : BindG K fd P__law_draw [] (List.range 2) 2 := BindG.of F fun _ _ _ _ _ _ us ws h1 h2 => match us, ws, h1, h2 with | [_, _], [], _, _ => rfl
theorem ok__law_draw {f : Addr} {fd : FuncData} (F : Fun K "_law_draw" "_law_draw" s__law_draw f fd) (T : Txt mg) : FnG P w K mg base 1 f fd P__law_draw (spF K 2 sem__law_draw) :=
  fnG_of (N := N__law_draw) (ps := P__law_draw) (m := body__law_draw) F sc__law_draw fun cdv A outer s H hr hgd =>
    ss_cons (s_fldSet (ps_dput (hu_of hr) (pv 0) pe_str (sp_add (sp_fld (pe_dget (hu_of hr) (pv 0) pe_str (fun _ _ => rfl))) (sp_int)) (by rfl)))
    (ss_cons (s_if (st_fldNe (pt_cmpR (op_neD hr.units) (pe_dget (hu_of hr) (pv 0) pe_str (fun _ _ => rfl)) (pe_lst pa_nil) (nomark _))) (ss_cons (s_set 3 sc__law_draw.nd (se_fldPop (pe_bm0 PySem.F.plainAttrs_list PySem.F.slot_list_pop PySem.F.type_list_pop mt_pop (pe_dget (hu_of hr) (pv 0) pe_str (fun _ _ => rfl)))))
    (ss_cons (s_if (st_ge (se_var 3) (se_pow (se_int) (se_int))) (ss_cons (s_expr (se_fldApp (pe_bm PySem.F.plainAttrs_list PySem.F.slot_list_append PySem.F.type_list_append mt_append (pe_dget (hu_of hr) (pv 0) pe_str (fun _ _ => rfl)) (pa_cons (sp_div (sp_var 3) (sp_max rfl (by rfl) T.b_max (sp_int) (sp_var 1))) pa_nil))))
    (ss_one (s_ret (se_mod (se_intc (by rfl) T.b_int (se_var 3)) (se_var 1))))) (ss_nil))
    (ss_one (s_fldSet (ps_dput (hu_of hr) (pv 0) pe_str (sp_mod (sp_intc (by rfl) T.b_int (sp_add (sp_add (sp_mul (sp_fld (pe_dget (hu_of hr) (pv 0) pe_str (fun _ _ => rfl))) (sp_int)) (sp_mod (sp_intc (by rfl) T.b_int (sp_var 3)) (sp_int))) (sp_int))) (sp_int)) (by rfl)))))) (ss_nil))
    (ss_cons (s_set 2 sc__law_draw.nd (se_mod (se_intc (by rfl) T.b_int (se_add (se_p (sp_fld (pe_dget (hu_of hr) (pv 0) pe_str (fun _ _ => rfl)))) (se_mul (se_int) (se_p (sp_fld (pe_dget (hu_of hr) (pv 0) pe_str (fun _ _ => rfl))))))) (se_int)))
    (ss_cons (s_set 2 sc__law_draw.nd (se_mod (se_intc (by rfl) T.b_int (se_add (se_add (se_mul (se_var 2) (se_var 2)) (se_mul (se_int) (se_p (sp_fld (pe_dget (hu_of hr) (pv 0) pe_str (fun _ _ => rfl)))))) (se_int))) (se_int)))
    (ss_one (s_ret (se_mod (se_intc (by rfl) T.b_int (se_fdiv (se_mod (se_intc (by rfl) T.b_int (se_add (se_mul (se_var 2) (se_int)) (se_int))) (se_int)) (se_int))) (se_var 1)))))))
theorem bd__law_pick_0 {f : Addr} {fd : FuncData} (F : Fun K "_law_pick" "_law_pick" s__law_pick f fd) : BindG K fd P__law_pick [] (List.range 2) 2 := BindG.of F fun _ _ _ _ _ _ us ws h1 h2 => match us, ws, h1, h2 with | [_, _], [], _, _ => rfl
theorem ok__law_pick {f : Addr} {fd : FuncData} (F : Fun K "_law_pick" "_law_pick" s__law_pick f fd) (T : Txt mg) {a__law_draw : Addr} {fd__law_draw : FuncData} (D__law_draw : Def P w K mg base "_law_draw" s__law_draw 1 P__law_draw sem__law_draw a__law_draw fd__law_draw) : FnG P w K mg base 2 f fd P__law_pick (spF K 2 sem__law_pick) :=
  fnG_of (N := N__law_pick) (ps := P__law_pick) (m := body__law_pick) F sc__law_pick fun cdv A outer s H hr hgd =>
    ss_one (s_ret (se_ix (se_var 1) (se_callD D__law_draw.ok (hr.mono (by decide)) hgd (by rfl) D__law_draw.at_ D__law_draw.fn.kp (bd__law_draw_0 D__law_draw.fn) 0 (sa_cons (se_len (by rfl) T.b_len (se_var 1)) (sa_nil))) (fun _ _ => rfl)))
theorem bd__law_order_0 {f : Addr} {fd : FuncData} (F : Fun K "_law_order" "_law_order" s__law_order f fd) : BindG K fd P__law_order [] (List.range 2) 2 := BindG.of F fun _ _ _ _ _ _ us ws h1 h2 => match us, ws, h1, h2 with | [_, _], [], _, _ => rfl
theorem ok__law_order {f : Addr} {fd : FuncData} (F : Fun K "_law_order" "_law_order" s__law_order f fd) (T : Txt mg) {a__law_draw : Addr} {fd__law_draw : FuncData} (D__law_draw : Def P w K mg base "_law_draw" s__law_draw 1 P__law_draw sem__law_draw a__law_draw fd__law_draw) : FnG P w K mg base 2 f fd P__law_order (spF K 2 sem__law_order) :=
  fnG_of (N := N__law_order) (ps := P__law_order) (m := body__law_order) F sc__law_order fun cdv A outer s H hr hgd =>
    ss_cons (s_par sc__law_order.nd rfl 2 3 (se_lrng rfl (by rfl) T.b_list (by rfl) T.b_range (se_var 1)) (se_lst (sa_nil)))
    (ss_cons (s_while 100000 PassesOwn.never (st_ne hr.units (se_var 2) (se_lst (sa_nil))) (ss_one (s_expr (se_append (pe_bm PySem.F.plainAttrs_list PySem.F.slot_list_append PySem.F.type_list_append mt_append (pv 3) (pa_cons (se_popAt (pe_bm PySem.F.plainAttrs_list PySem.F.slot_list_pop PySem.F.type_list_pop mt_popAt (pv 2) (pa_cons (se_callD D__law_draw.ok (hr.mono (by decide)) hgd (by rfl) D__law_draw.at_ D__law_draw.fn.kp (bd__law_draw_0 D__law_draw.fn) 0 (sa_cons (se_len (by rfl) T.b_len (se_var 2)) (sa_nil))) pa_nil))) pa_nil))))))
    (ss_one (s_ret (se_var 3))))
theorem bd__law_letters_0 {f : Addr} {fd : FuncData} (F : Fun K "_law_letters" "_law_letters" s__law_letters f fd) : BindG K fd P__law_letters [] (List.range 2) 2 := BindG.of F fun _ _ _ _ _ _ us ws h1 h2 => match us, ws, h1, h2 with | [_, _], [], _, _ => rfl
theorem ok__law_letters {f : Addr} {fd : FuncData} (F : Fun K "_law_letters" "_law_letters" s__law_letters f fd) (T : Txt mg) {a__law_draw : Addr} {fd__law_draw : FuncData} (D__law_draw : Def P w K mg base "_law_draw" s__law_draw 1 P__law_draw sem__law_draw a__law_draw fd__law_draw) {a__law_pick : Addr} {fd__law_pick : FuncData} (D__law_pick : Def P w K mg base "_law_pick" s__law_pick 2 P__law_pick sem__law_pick a__law_pick fd__law_pick) {a__law_order : Addr} {fd__law_order : FuncData} (D__law_order : Def P w K mg base "_law_order" s__law_order 2 P__law_order sem__law_order a__law_order fd__law_order) : FnG P w K mg base 3 f fd P__law_letters (spF K 2 sem__law_letters) :=
  fnG_of (N := N__law_letters) (ps := P__law_letters) (m := body__law_letters) F sc__law_letters fun cdv A outer s H hr hgd =>
    ss_cons (s_set 2 sc__law_letters.nd (se_callD D__law_order.ok (hr.mono (by decide)) hgd (by rfl) D__law_order.at_ D__law_order.fn.kp (bd__law_order_0 D__law_order.fn) 0 (sa_cons (se_callD D__law_pick.ok (hr.mono (by decide)) hgd (by rfl) D__law_pick.at_ D__law_pick.fn.kp (bd__law_pick_0 D__law_pick.fn) 0 (sa_cons (se_var 1) (sa_nil))) (sa_nil))))
    (ss_cons (s_set 3 sc__law_letters.nd (se_lrng rfl (by rfl) T.b_list (by rfl) T.b_range (se_len (by rfl) T.b_len (se_var 2))))
    (ss_cons (s_for (W := [4]) PassesOwn.never rfl (si_rng (by rfl) T.b_range (se_fdiv (se_len (by rfl) T.b_len (se_var 2)) (se_int))) (sg_name 4 sc__law_letters.nd (by decide)) (ss_cons (s_par sc__law_letters.nd rfl 5 6 (se_ix (se_var 2) (se_mul (se_int) (se_var 4)) (fun _ _ => rfl)) (se_ix (se_var 2) (se_add (se_mul (se_int) (se_var 4)) (se_int)) (fun _ _ => rfl)))
    (ss_one (s_if (st_gt (se_callD D__law_draw.ok (hr.mono (by decide)) hgd (by rfl) D__law_draw.at_ D__law_draw.fn.kp (bd__law_draw_0 D__law_draw.fn) 0 (sa_cons (se_int) (sa_nil))) (se_int)) (ss_cons (s_setIx (se_var 6) (pv 3) (se_var 5))
    (ss_one (s_setIx (se_var 5) (pv 3) (se_var 6)))) (ss_nil)))))
    (ss_one (s_ret (se_tuple (by rfl) T.b_tuple (se_var 3))))))
theorem bd__law_inverse_0 {f : Addr} {fd : FuncData} (F : Fun K "_law_inverse" "_law_inverse" s__law_inverse f fd) : BindG K fd P__law_inverse [] [0, 1] 2 := BindG.of F fun _ _ _ _ _ _ us ws h1 h2 => match us, ws, h1, h2 with | [_, _], [], _, _ => rfl
theorem ok__law_inverse {f : Addr} {fd : FuncData} (F : Fun K "_law_inverse" "_law_inverse" s__law_inverse f fd) (T : Txt mg) : FnG P w K mg base 1 f fd P__law_inverse (spF K 2 sem__law_inverse) :=
  fnG_of (N := N__law_inverse) (ps := P__law_inverse) (m := body__law_inverse) F sc__law_inverse fun cdv A outer s H hr hgd =>
    ss_one (s_ret (se_tuple (by rfl) T.b_tuple (se_lc (own := [("a", 2)]) (W := [2]) rfl sc__law_inverse.nd (si_seq (se_revT (se_var 1))) (blkOk_by (N := N__law_inverse) (sc := (defScope s__law_inverse)) (own := [("a", 2)]) (by decide +kernel)) (fun _ h => h) (fun _ _ _ _ _ => sg_name 2 sc__law_inverse.nd (by decide)) (fun _ _ _ _ _ => sts_nil) (fun _ _ _ _ _ => se_ix (se_var 0) (se_var 2) (fun _ _ => rfl)))))
theorem bd__law_reduced_0 {f : Addr} {fd : FuncData} (F : Fun K "_law_reduced" "_law_reduced" s__law_reduced f fd) : BindG K fd P__law_reduced [] [0, 1] 2 := BindG.of F fun _ _ _ _ _ _ us ws h1 h2 => match us, ws, h1, h2 with | [_, _], [], _, _ => rfl
theorem ok__law_reduced {f : Addr} {fd : FuncData} (F : Fun K "_law_reduced" "_law_reduced" s__law_reduced f fd) (T : Txt mg) : FnG P w K mg base 1 f fd P__law_reduced (spF K 2 sem__law_reduced) :=
  fnG_of (N := N__law_reduced) (ps := P__law_reduced) (m := body__law_reduced) F sc__law_reduced fun cdv A outer s H hr hgd =>
    ss_cons (s_set 2 sc__law_reduced.nd (se_lst (sa_nil)))
    (ss_cons (s_for (W := [3]) PassesOwn.never rfl (si_seq (se_var 1)) (sg_name 3 sc__law_reduced.nd (by decide)) (ss_one (s_if (sw_st (sw_and (st_ne hr.units (se_var 2) (se_lst (sa_nil))) (sw_and1 (st_eq hr.units (se_ix (se_var 0) (se_ix (se_var 2) (se_neg (se_int)) (fun _ _ => rfl)) (fun _ _ => rfl)) (se_var 3))))) (ss_one (s_expr (se_pop (pe_bm0 PySem.F.plainAttrs_list PySem.F.slot_list_pop PySem.F.type_list_pop mt_pop (pv 2))))) (ss_one (s_expr (se_append (pe_bm PySem.F.plainAttrs_list PySem.F.slot_list_append PySem.F.type_list_append mt_append (pv 2) (pa_cons (se_var 3) pa_nil))))))))
    (ss_one (s_ret (se_tuple (by rfl) T.b_tuple (se_var 2)))))
theorem bd__law_free_0 {f : Addr} {fd : FuncData} (F : Fun K "_law_free" "_law_free" s__law_free f fd) : BindG K fd P__law_free [] (List.range 3) 3 := BindG.of F fun _ _ _ _ _ _ us ws h1 h2 => match us, ws, h1, h2 with | [_, _, _], [], _, _ => rfl
theorem ok__law_free {f : Addr} {fd : FuncData} (F : Fun K "_law_free" "_law_free" s__law_free f fd) (T : Txt mg) {a__law_draw : Addr} {fd__law_draw : FuncData} (D__law_draw : Def P w K mg base "_law_draw" s__law_draw 1 P__law_draw sem__law_draw a__law_draw fd__law_draw) {a__law_pick : Addr} {fd__law_pick : FuncData} (D__law_pick : Def P w K mg base "_law_pick" s__law_pick 2 P__law_pick sem__law_pick a__law_pick fd__law_pick) : FnG P w K mg base 3 f fd P__law_free (spF K 3 sem__law_free) :=
  fnG_of (N := N__law_free) (ps := P__law_free) (m := body__law_free) F sc__law_free fun cdv A outer s H hr hgd =>
    ss_cons (s_set 3 sc__law_free.nd (se_lst (sa_nil)))
    (ss_cons (s_for (W := [4]) PassesOwn.never rfl (si_rng (by rfl) T.b_range (se_callD D__law_draw.ok (hr.mono (by decide)) hgd (by rfl) D__law_draw.at_ D__law_draw.fn.kp (bd__law_draw_0 D__law_draw.fn) 0 (sa_cons (se_add (se_var 2) (se_int)) (sa_nil)))) (sg_name 4 sc__law_free.nd (by decide)) (ss_cons (s_setLc (i := 5) (own := [("a", 6)]) (W := [6]) rfl sc__law_free.nd (si_rng (by rfl) T.b_range (se_len (by rfl) T.b_len (se_var 1))) (blkOk_by (N := N__law_free) (sc := (defScope s__law_free)) (own := [("a", 6)]) (by decide +kernel)) (fun _ h => h) (fun _ _ _ _ _ => sg_name 6 sc__law_free.nd (by decide)) (fun _ _ _ _ _ => sts_one (sw_st (sw_or (st_eq hr.units (se_var 3) (se_lst (sa_nil))) (sw_or1 (st_ne hr.units (se_ix (se_var 1) (se_ix (se_var 3) (se_neg (se_int)) (fun _ _ => rfl)) (fun _ _ => rfl)) (se_var 6)))))) (fun _ _ _ _ _ => se_var 6) (sw_true rfl rfl rfl (by decide +kernel)))
    (ss_cons (s_if (st_eq hr.units (se_var 5) (se_lst (sa_nil))) (ss_one (s_break)) (ss_nil))
    (ss_one (s_expr (se_append (pe_bm PySem.F.plainAttrs_list PySem.F.slot_list_append PySem.F.type_list_append mt_append (pv 3) (pa_cons (se_callD D__law_pick.ok (hr.mono (by decide)) hgd (by rfl) D__law_pick.at_ D__law_pick.fn.kp (bd__law_pick_0 D__law_pick.fn) 0 (sa_cons (se_var 5) (sa_nil))) pa_nil))))))))
    (ss_one (s_ret (se_tuple (by rfl) T.b_tuple (se_var 3)))))
theorem bd__law_filled_0 {f : Addr} {fd : FuncData} (F : Fun K "_law_filled" "_law_filled" s__law_filled f fd) : BindG K fd P__law_filled [] (List.range 4) 4 := BindG.of F fun _ _ _ _ _ _ us ws h1 h2 => match us, ws, h1, h2 with | [_, _, _, _], [], _, _ => rfl
theorem ok__law_filled {f : Addr} {fd : FuncData} (F : Fun K "_law_filled" "_law_filled" s__law_filled f fd) (T : Txt mg) {a__law_draw : Addr} {fd__law_draw : FuncData} (D__law_draw : Def P w K mg base "_law_draw" s__law_draw 1 P__law_draw sem__law_draw a__law_draw fd__law_draw) : FnG P w K mg base 2 f fd P__law_filled (spF K 4 sem__law_filled) :=
  fnG_of (N := N__law_filled) (ps := P__law_filled) (m := body__law_filled) F sc__law_filled fun cdv A outer s H hr hgd =>
    ss_cons (s_for (W := [4]) PassesOwn.never rfl (si_rng (by rfl) T.b_range (se_callD D__law_draw.ok (hr.mono (by decide)) hgd (by rfl) D__law_draw.at_ D__law_draw.fn.kp (bd__law_draw_0 D__law_draw.fn) 0 (sa_cons (se_add (se_fdiv (se_max2 rfl (by rfl) T.b_max (se_int) (se_sub (se_var 3) (se_len (by rfl) T.b_len (se_var 2)))) (se_int)) (se_int)) (sa_nil)))) (sg_name 4 sc__law_filled.nd (by decide)) (ss_cons (s_par sc__law_filled.nd rfl 5 6 (se_callD D__law_draw.ok (hr.mono (by decide)) hgd (by rfl) D__law_draw.at_ D__law_draw.fn.kp (bd__law_draw_0 D__law_draw.fn) 0 (sa_cons (se_add (se_len (by rfl) T.b_len (se_var 2)) (se_int)) (sa_nil))) (se_callD D__law_draw.ok (hr.mono (by decide)) hgd (by rfl) D__law_draw.at_ D__law_draw.fn.kp (bd__law_draw_0 D__law_draw.fn) 0 (sa_cons (se_len (by rfl) T.b_len (se_var 1)) (sa_nil))))
    (ss_one (s_set 2 sc__law_filled.nd (se_add (se_add (se_slice (se_var 2) (so_no) (so_some (se_var 5))) (se_tup (sa_cons (se_var 6) (sa_cons (se_ix (se_var 1) (se_var 6) (fun _ _ => rfl)) (sa_nil))))) (se_slice (se_var 2) (so_some (se_var 5)) (so_no)))))))
    (ss_one (s_ret (se_var 2)))
theorem bd__law_spots_0 {f : Addr} {fd : FuncData} (F : Fun K "_law_spots" "_law_spots" s__law_spots f fd) : BindG K fd P__law_spots [] [0, 1] 2 := BindG.of F fun _ _ _ _ _ _ us ws h1 h2 => match us, ws, h1, h2 with | [_, _], [], _, _ => rfl
theorem ok__law_spots {f : Addr} {fd : FuncData} (F : Fun K "_law_spots" "_law_spots" s__law_spots f fd) (T : Txt mg) : FnG P w K mg base 1 f fd P__law_spots (spF K 2 sem__law_spots) :=
  fnG_of (N := N__law_spots) (ps := P__law_spots) (m := body__law_spots) F sc__law_spots fun cdv A outer s H hr hgd =>
    ss_one (s_ret (se_lc (own := [("at", 2), ("pair", 3)]) (W := [2, 3]) rfl sc__law_spots.nd (si_enumZip (by rfl) T.b_enumerate (by rfl) T.b_zip (se_var 1) (se_slice (se_var 1) (so_some (se_int)) (so_no))) (blkOk_by (N := N__law_spots) (sc := (defScope s__law_spots)) (own := [("at", 2), ("pair", 3)]) (by decide +kernel)) (fun _ h => h) (fun _ _ _ _ _ => sg_tup rfl (sgs_cons (sg_name 2 sc__law_spots.nd (by decide)) (sgs_cons (sg_name 3 sc__law_spots.nd (by decide)) (sgs_nil)))) (fun _ _ _ _ _ => sts_one (st_eq hr.units (se_ix (se_var 0) (se_ix (se_var 3) (se_int) (fun _ _ => rfl)) (fun _ _ => rfl)) (se_ix (se_var 3) (se_int) (fun _ _ => rfl)))) (fun _ _ _ _ _ => se_var 2)))
theorem bd__law_cancelled_0 {f : Addr} {fd : FuncData} (F : Fun K "_law_cancelled" "_law_cancelled" s__law_cancelled f fd) : BindG K fd P__law_cancelled [] (List.range 3) 3 := BindG.of F fun _ _ _ _ _ _ us ws h1 h2 => match us, ws, h1, h2 with | [_, _, _], [], _, _ => rfl
theorem ok__law_cancelled {f : Addr} {fd : FuncData} (F : Fun K "_law_cancelled" "_law_cancelled" s__law_cancelled f fd) (T : Txt mg) {a__law_pick : Addr} {fd__law_pick : FuncData} (D__law_pick : Def P w K mg base "_law_pick" s__law_pick 2 P__law_pick sem__law_pick a__law_pick fd__law_pick) {a__law_spots : Addr} {fd__law_spots : FuncData} (D__law_spots : Def P w K mg base "_law_spots" s__law_spots 1 P__law_spots sem__law_spots a__law_spots fd__law_spots) : FnG P w K mg base 3 f fd P__law_cancelled (spF K 3 sem__law_cancelled) :=
  fnG_of (N := N__law_cancelled) (ps := P__law_cancelled) (m := body__law_cancelled) F sc__law_cancelled fun cdv A outer s H hr hgd =>
    ss_cons (s_set 3 sc__law_cancelled.nd (se_lst (sa_cons (se_var 2) (sa_nil))))
    (ss_cons (s_for (W := [4]) PassesOwn.never rfl (si_rng (by rfl) T.b_range (se_fdiv (se_len (by rfl) T.b_len (se_var 2)) (se_int))) (sg_name 4 sc__law_cancelled.nd (by decide)) (ss_cons (s_set 5 sc__law_cancelled.nd (se_call (is := [0, 1]) (nu := 2) D__law_spots.ok (hr.mono (by decide)) hgd (by rfl) D__law_spots.at_ D__law_spots.fn.kp (bd__law_spots_0 D__law_spots.fn) (sa_cons (se_var 1) (sa_cons (se_var 2) (sa_nil)))))
    (ss_cons (s_if (st_eq hr.units (se_var 5) (se_lst (sa_nil))) (ss_one (s_break)) (ss_nil))
    (ss_cons (s_set 6 sc__law_cancelled.nd (se_callD D__law_pick.ok (hr.mono (by decide)) hgd (by rfl) D__law_pick.at_ D__law_pick.fn.kp (bd__law_pick_0 D__law_pick.fn) 0 (sa_cons (se_var 5) (sa_nil))))
    (ss_cons (s_set 2 sc__law_cancelled.nd (se_add (se_slice (se_var 2) (so_no) (so_some (se_var 6))) (se_slice (se_var 2) (so_some (se_add (se_var 6) (se_int))) (so_no))))
    (ss_one (s_expr (se_append (pe_bm PySem.F.plainAttrs_list PySem.F.slot_list_append PySem.F.type_list_append mt_append (pv 3) (pa_cons (se_var 2) pa_nil))))))))))
    (ss_one (s_ret (se_var 3))))
theorem bd__law_ends_cancelled_0 {f : Addr} {fd : FuncData} (F : Fun K "_law_ends_cancelled" "_law_ends_cancelled" s__law_ends_cancelled f fd) : BindG K fd P__law_ends_cancelled [] [0, 1, 2] 3 := BindG.of F fun _ _ _ _ _ _ us ws h1 h2 => match us, ws, h1, h2 with | [_, _, _], [], _, _ => rfl
theorem ok__law_ends_cancelled {f : Addr} {fd : FuncData} (F : Fun K "_law_ends_cancelled" "_law_ends_cancelled" s__law_ends_cancelled f fd) (T : Txt mg) {a__law_spots : Addr} {fd__law_spots : FuncData} (D__law_spots : Def P w K mg base "_law_spots" s__law_spots 1 P__law_spots sem__law_spots a__law_spots fd__law_spots) : FnG P w K mg base 2 f fd P__law_ends_cancelled (spF K 3 sem__law_ends_cancelled) :=
  fnG_of (N := N__law_ends_cancelled) (ps := P__law_ends_cancelled) (m := body__law_ends_cancelled) F sc__law_ends_cancelled fun cdv A outer s H hr hgd =>
    ss_cons (s_set 3 sc__law_ends_cancelled.nd (se_lst (sa_cons (se_var 1) (sa_nil))))
    (ss_cons (s_for (W := [4]) PassesOwn.never rfl (si_rng (by rfl) T.b_range (se_fdiv (se_len (by rfl) T.b_len (se_var 1)) (se_int))) (sg_name 4 sc__law_ends_cancelled.nd (by decide)) (ss_cons (s_set 5 sc__law_ends_cancelled.nd (se_call (is := [0, 1]) (nu := 2) D__law_spots.ok (hr.mono (by decide)) hgd (by rfl) D__law_spots.at_ D__law_spots.fn.kp (bd__law_spots_0 D__law_spots.fn) (sa_cons (se_var 0) (sa_cons (se_var 1) (sa_nil)))))
    (ss_cons (s_if (st_eq hr.units (se_var 5) (se_lst (sa_nil))) (ss_one (s_break)) (ss_nil))
    (ss_cons (s_set 6 sc__law_ends_cancelled.nd (se_if (st_truth (se_var 2)) (se_ix (se_var 5) (se_int) (fun _ _ => rfl)) (se_ix (se_var 5) (se_neg (se_int)) (fun _ _ => rfl))))
    (ss_cons (s_set 1 sc__law_ends_cancelled.nd (se_add (se_slice (se_var 1) (so_no) (so_some (se_var 6))) (se_slice (se_var 1) (so_some (se_add (se_var 6) (se_int))) (so_no))))
    (ss_one (s_expr (se_append (pe_bm PySem.F.plainAttrs_list PySem.F.slot_list_append PySem.F.type_list_append mt_append (pv 3) (pa_cons (se_var 1) pa_nil))))))))))
    (ss_one (s_ret (se_var 3))))
theorem bd__law_is_reduced_to_0 {f : Addr} {fd : FuncData} (F : Fun K "_law_is_reduced_to" "_law_is_reduced_to" s__law_is_reduced_to f fd) : BindG K fd P__law_is_reduced_to [] [0, 1, 2] 3 := BindG.of F fun _ _ _ _ _ _ us ws h1 h2 => match us, ws, h1, h2 with | [_, _, _], [], _, _ => rfl
theorem ok__law_is_reduced_to {f : Addr} {fd : FuncData} (F : Fun K "_law_is_reduced_to" "_law_is_reduced_to" s__law_is_reduced_to f fd) (T : Txt mg) {a_reduced : Addr} {fd_reduced : FuncData} (D_reduced : Def P w K mg base "reduced" s_reduced 5 P_reduced sem_reduced a_reduced fd_reduced) : FnG P w K mg base 6 f fd P__law_is_reduced_to (spF K 3 sem__law_is_reduced_to) :=
  fnG_of (N := N__law_is_reduced_to) (ps := P__law_is_reduced_to) (m := body__law_is_reduced_to) F sc__law_is_reduced_to fun cdv A outer s H hr hgd =>
    ss_one (s_ret (se_eq hr.units (se_lc (own := [("word", 3)]) (W := [3]) rfl sc__law_is_reduced_to.nd (si_seq (se_var 1)) (blkOk_by (N := N__law_is_reduced_to) (sc := (defScope s__law_is_reduced_to)) (own := [("word", 3)]) (by decide +kernel)) (fun _ h => h) (fun _ _ _ _ _ => sg_name 3 sc__law_is_reduced_to.nd (by decide)) (fun _ _ _ _ _ => sts_one (sw_st (sw_or (st_ne hr.units (se_repr hr hgd (by rfl) T.b_repr (se_call (is := [0, 1]) (nu := 2) D_reduced.ok (hr.mono (by decide)) hgd (by rfl) D_reduced.at_ D_reduced.fn.kp (bd_reduced_0 D_reduced.fn) (sa_cons (se_var 0) (sa_cons (se_var 3) (sa_nil))))) (se_repr hr hgd (by rfl) T.b_repr (se_var 2))) (sw_or1 (st_ne hr.units (se_repr hr hgd (by rfl) T.b_repr (se_callK0 D_reduced.ok (hr.mono (by decide)) hgd (by rfl) D_reduced.at_ D_reduced.fn.kp (bd_reduced_1 D_reduced.fn) (sk_cons (se_var 3) (sk_cons (se_var 0) (sk_nil))))) (se_repr hr hgd (by rfl) T.b_repr (se_var 2))))))) (fun _ _ _ _ _ => se_int)) (se_lst (sa_nil))))
theorem bd__law_are_near_apart_0 {f : Addr} {fd : FuncData} (F : Fun K "_law_are_near_apart" "_law_are_near_apart" s__law_are_near_apart f fd) : BindG K fd P__law_are_near_apart [] (List.range 4) 4 := BindG.of F fun _ _ _ _ _ _ us ws h1 h2 => match us, ws, h1, h2 with | [_, _, _, _], [], _, _ => rfl
theorem ok__law_are_near_apart {f : Addr} {fd : FuncData} (F : Fun K "_law_are_near_apart" "_law_are_near_apart" s__law_are_near_apart f fd) (T : Txt mg) {a_reduced : Addr} {fd_reduced : FuncData} (D_reduced : Def P w K mg base "reduced" s_reduced 5 P_reduced sem_reduced a_reduced fd_reduced) {a__law_draw : Addr} {fd__law_draw : FuncData} (D__law_draw : Def P w K mg base "_law_draw" s__law_draw 1 P__law_draw sem__law_draw a__law_draw fd__law_draw) {a__law_reduced : Addr} {fd__law_reduced : FuncData} (D__law_reduced : Def P w K mg base "_law_reduced" s__law_reduced 1 P__law_reduced sem__law_reduced a__law_reduced fd__law_reduced) : FnG P w K mg base 6 f fd P__law_are_near_apart (spF K 4 sem__law_are_near_apart) :=
  fnG_of (N := N__law_are_near_apart) (ps := P__law_are_near_apart) (m := body__law_are_near_apart) F sc__law_are_near_apart fun cdv A outer s H hr hgd =>
    ss_cons (s_par sc__law_are_near_apart.nd rfl 6 7 (se_len (by rfl) T.b_len (se_var 1)) (se_lst (sa_nil)))
    (ss_cons (s_for (W := [4]) PassesOwn.never rfl (si_rng (by rfl) T.b_range (se_if (st_ne hr.units (se_var 2) (se_tup (sa_nil))) (se_int) (se_int))) (sg_name 4 sc__law_are_near_apart.nd (by decide)) (ss_cons (s_set 8 sc__law_are_near_apart.nd (se_callD D__law_draw.ok (hr.mono (by decide)) hgd (by rfl) D__law_draw.at_ D__law_draw.fn.kp (bd__law_draw_0 D__law_draw.fn) 0 (sa_cons (se_len (by rfl) T.b_len (se_var 2)) (sa_nil))))
    (ss_cons (s_expr (se_append (pe_bm PySem.F.plainAttrs_list PySem.F.slot_list_append PySem.F.type_list_append mt_append (pv 7) (pa_cons (se_add (se_slice (se_var 2) (so_no) (so_some (se_var 8))) (se_slice (se_var 2) (so_some (se_add (se_var 8) (se_int))) (so_no))) pa_nil))))
    (ss_cons (s_expr (se_append (pe_bm PySem.F.plainAttrs_list PySem.F.slot_list_append PySem.F.type_list_append mt_append (pv 7) (pa_cons (se_add (se_add (se_slice (se_var 2) (so_no) (so_some (se_var 8))) (se_tup (sa_cons (se_mod (se_intc (by rfl) T.b_int (se_add (se_add (se_ix (se_var 2) (se_var 8) (fun _ _ => rfl)) (se_int)) (se_callD D__law_draw.ok (hr.mono (by decide)) hgd (by rfl) D__law_draw.at_ D__law_draw.fn.kp (bd__law_draw_0 D__law_draw.fn) 0 (sa_cons (se_max2 rfl (by rfl) T.b_max (se_int) (se_sub (se_var 6) (se_int))) (sa_nil))))) (se_var 6)) (sa_nil)))) (se_slice (se_var 2) (so_some (se_add (se_var 8) (se_int))) (so_no))) pa_nil))))
    (ss_one (s_expr (se_append (pe_bm PySem.F.plainAttrs_list PySem.F.slot_list_append PySem.F.type_list_append mt_append (pv 7) (pa_cons (se_add (se_add (se_slice (se_var 2) (so_no) (so_some (se_var 8))) (se_tup (sa_cons (se_callD D__law_draw.ok (hr.mono (by decide)) hgd (by rfl) D__law_draw.at_ D__law_draw.fn.kp (bd__law_draw_0 D__law_draw.fn) 0 (sa_cons (se_var 6) (sa_nil))) (sa_nil)))) (se_slice (se_var 2) (so_some (se_var 8)) (so_no))) pa_nil)))))))))
    (ss_cons (s_for (W := [5]) PassesOwn.never rfl (si_seq (se_var 7)) (sg_name 5 sc__law_are_near_apart.nd (by decide)) (ss_one (s_if (sw_st (sw_and (st_ne hr.units (se_var 5) (se_var 2)) (sw_and1 (st_le (se_len (by rfl) T.b_len (se_var 5)) (se_int))))) (ss_cons (s_set 9 sc__law_are_near_apart.nd (se_call (is := [0, 1]) (nu := 2) D_reduced.ok (hr.mono (by decide)) hgd (by rfl) D_reduced.at_ D_reduced.fn.kp (bd_reduced_0 D_reduced.fn) (sa_cons (se_var 1) (sa_cons (se_var 5) (sa_nil)))))
    (ss_one (s_if (sw_st (sw_or (st_eq hr.units (se_repr hr hgd (by rfl) T.b_repr (se_var 9)) (se_repr hr hgd (by rfl) T.b_repr (se_var 3))) (sw_or1 (st_ne hr.units (se_repr hr hgd (by rfl) T.b_repr (se_var 9)) (se_repr hr hgd (by rfl) T.b_repr (se_call (is := [0, 1]) (nu := 2) D__law_reduced.ok (hr.mono (by decide)) hgd (by rfl) D__law_reduced.at_ D__law_reduced.fn.kp (bd__law_reduced_0 D__law_reduced.fn) (sa_cons (se_var 1) (sa_cons (se_var 5) (sa_nil))))))))) (ss_one (s_ret (se_bl))) (ss_nil)))) (ss_nil))))
    (ss_one (s_ret (se_bl)))))
theorem bd__law_are_joined_0 {f : Addr} {fd : FuncData} (F : Fun K "_law_are_joined" "_law_are_joined" s__law_are_joined f fd) : BindG K fd P__law_are_joined [] [0, 1, 2, 3, 4] 5 := BindG.of F fun _ _ _ _ _ _ us ws h1 h2 => match us, ws, h1, h2 with | [_, _, _, _, _], [], _, _ => rfl
theorem ok__law_are_joined {f : Addr} {fd : FuncData} (F : Fun K "_law_are_joined" "_law_are_joined" s__law_are_joined f fd) (T : Txt mg) {a_inverse : Addr} {fd_inverse : FuncData} (D_inverse : Def P w K mg base "inverse" s_inverse 5 P_inverse sem_inverse a_inverse fd_inverse) {a_reduced : Addr} {fd_reduced : FuncData} (D_reduced : Def P w K mg base "reduced" s_reduced 5 P_reduced sem_reduced a_reduced fd_reduced) {a__law_inverse : Addr} {fd__law_inverse : FuncData} (D__law_inverse : Def P w K mg base "_law_inverse" s__law_inverse 1 P__law_inverse sem__law_inverse a__law_inverse fd__law_inverse) {a__law_reduced : Addr} {fd__law_reduced : FuncData} (D__law_reduced : Def P w K mg base "_law_reduced" s__law_reduced 1 P__law_reduced sem__law_reduced a__law_reduced fd__law_reduced) : FnG P w K mg base 6 f fd P__law_are_joined (spF K 5 sem__law_are_joined) :=
  fnG_of (N := N__law_are_joined) (ps := P__law_are_joined) (m := body__law_are_joined) F sc__law_are_joined fun cdv A outer s H hr hgd =>
    ss_cons (s_par sc__law_are_joined.nd rfl 9 10 (se_add (se_var 1) (se_var 3)) (se_eq hr.units (se_var 2) (se_var 4)))
    (ss_cons (s_set 5 sc__law_are_joined.nd (se_call (is := [0, 1]) (nu := 2) D__law_reduced.ok (hr.mono (by decide)) hgd (by rfl) D__law_reduced.at_ D__law_reduced.fn.kp (bd__law_reduced_0 D__law_reduced.fn) (sa_cons (se_var 0) (sa_cons (se_add (se_var 2) (se_var 4)) (sa_nil)))))
    (ss_cons (s_set 6 sc__law_are_joined.nd (se_lst (sa_cons (se_call (is := [0, 1]) (nu := 2) D_reduced.ok (hr.mono (by decide)) hgd (by rfl) D_reduced.at_ D_reduced.fn.kp (bd_reduced_0 D_reduced.fn) (sa_cons (se_var 0) (sa_cons (se_var 9) (sa_nil)))) (sa_cons (se_call (is := [0, 1]) (nu := 2) D_reduced.ok (hr.mono (by decide)) hgd (by rfl) D_reduced.at_ D_reduced.fn.kp (bd_reduced_0 D_reduced.fn) (sa_cons (se_var 0) (sa_cons (se_add (se_var 2) (se_var 4)) (sa_nil)))) (sa_cons (se_call (is := [0, 1]) (nu := 2) D_reduced.ok (hr.mono (by decide)) hgd (by rfl) D_reduced.at_ D_reduced.fn.kp (bd_reduced_0 D_reduced.fn) (sa_cons (se_var 0) (sa_cons (se_add (se_var 2) (se_var 3)) (sa_nil)))) (sa_cons (se_call (is := [0, 1]) (nu := 2) D_reduced.ok (hr.mono (by decide)) hgd (by rfl) D_reduced.at_ D_reduced.fn.kp (bd_reduced_0 D_reduced.fn) (sa_cons (se_var 0) (sa_cons (se_add (se_var 1) (se_var 4)) (sa_nil)))) (sa_nil)))))))
    (ss_cons (s_expr (se_append (pe_bm PySem.F.plainAttrs_list PySem.F.slot_list_append PySem.F.type_list_append mt_append (pv 6) (pa_cons (se_call (is := [0, 1]) (nu := 2) D_reduced.ok (hr.mono (by decide)) hgd (by rfl) D_reduced.at_ D_reduced.fn.kp (bd_reduced_0 D_reduced.fn) (sa_cons (se_var 0) (sa_cons (se_add (se_call (is := [0, 1]) (nu := 2) D_reduced.ok (hr.mono (by decide)) hgd (by rfl) D_reduced.at_ D_reduced.fn.kp (bd_reduced_0 D_reduced.fn) (sa_cons (se_var 0) (sa_cons (se_var 1) (sa_nil)))) (se_call (is := [0, 1]) (nu := 2) D_reduced.ok (hr.mono (by decide)) hgd (by rfl) D_reduced.at_ D_reduced.fn.kp (bd_reduced_0 D_reduced.fn) (sa_cons (se_var 0) (sa_cons (se_var 3) (sa_nil))))) (sa_nil)))) pa_nil))))
    (ss_cons (s_if (st_ne hr.units (se_repr hr hgd (by rfl) T.b_repr (se_var 6)) (se_repr hr hgd (by rfl) T.b_repr (se_rep (se_lst (sa_cons (se_var 5) (sa_nil))) (se_int)))) (ss_one (s_ret (se_bl))) (ss_nil))
    (ss_cons (s_set 7 sc__law_are_joined.nd (se_call (is := [0, 1]) (nu := 2) D_inverse.ok (hr.mono (by decide)) hgd (by rfl) D_inverse.at_ D_inverse.fn.kp (bd_inverse_0 D_inverse.fn) (sa_cons (se_var 0) (sa_cons (se_var 3) (sa_nil)))))
    (ss_cons (s_if (sw_st (sw_or (st_ne hr.units (se_repr hr hgd (by rfl) T.b_repr (se_var 7)) (se_repr hr hgd (by rfl) T.b_repr (se_call (is := [0, 1]) (nu := 2) D__law_inverse.ok (hr.mono (by decide)) hgd (by rfl) D__law_inverse.at_ D__law_inverse.fn.kp (bd__law_inverse_0 D__law_inverse.fn) (sa_cons (se_var 0) (sa_cons (se_var 3) (sa_nil)))))) (sw_or1 (st_ne hr.units (se_repr hr hgd (by rfl) T.b_repr (se_call (is := [0, 1]) (nu := 2) D_inverse.ok (hr.mono (by decide)) hgd (by rfl) D_inverse.at_ D_inverse.fn.kp (bd_inverse_0 D_inverse.fn) (sa_cons (se_var 0) (sa_cons (se_var 7) (sa_nil))))) (se_repr hr hgd (by rfl) T.b_repr (se_var 3)))))) (ss_one (s_ret (se_bl))) (ss_nil))
    (ss_cons (s_if (st_ne hr.units (se_repr hr hgd (by rfl) T.b_repr (se_call (is := [0, 1]) (nu := 2) D_inverse.ok (hr.mono (by decide)) hgd (by rfl) D_inverse.at_ D_inverse.fn.kp (bd_inverse_0 D_inverse.fn) (sa_cons (se_var 0) (sa_cons (se_var 9) (sa_nil))))) (se_repr hr hgd (by rfl) T.b_repr (se_add (se_var 7) (se_callK0 D_inverse.ok (hr.mono (by decide)) hgd (by rfl) D_inverse.at_ D_inverse.fn.kp (bd_inverse_1 D_inverse.fn) (sk_cons (se_var 1) (sk_cons (se_var 0) (sk_nil))))))) (ss_one (s_ret (se_bl))) (ss_nil))
    (ss_cons (s_if (sw_st (sw_or (st_ne hr.units (se_repr hr hgd (by rfl) T.b_repr (se_call (is := [0, 1]) (nu := 2) D_reduced.ok (hr.mono (by decide)) hgd (by rfl) D_reduced.at_ D_reduced.fn.kp (bd_reduced_0 D_reduced.fn) (sa_cons (se_var 0) (sa_cons (se_var 7) (sa_nil))))) (se_repr hr hgd (by rfl) T.b_repr (se_call (is := [0, 1]) (nu := 2) D__law_inverse.ok (hr.mono (by decide)) hgd (by rfl) D__law_inverse.at_ D__law_inverse.fn.kp (bd__law_inverse_0 D__law_inverse.fn) (sa_cons (se_var 0) (sa_cons (se_var 4) (sa_nil)))))) (sw_or1 (st_ne hr.units (se_repr hr hgd (by rfl) T.b_repr (se_call (is := [0, 1]) (nu := 2) D_inverse.ok (hr.mono (by decide)) hgd (by rfl) D_inverse.at_ D_inverse.fn.kp (bd_inverse_0 D_inverse.fn) (sa_cons (se_var 0) (sa_cons (se_var 4) (sa_nil))))) (se_repr hr hgd (by rfl) T.b_repr (se_call (is := [0, 1]) (nu := 2) D_reduced.ok (hr.mono (by decide)) hgd (by rfl) D_reduced.at_ D_reduced.fn.kp (bd_reduced_0 D_reduced.fn) (sa_cons (se_var 0) (sa_cons (se_var 7) (sa_nil))))))))) (ss_one (s_ret (se_bl))) (ss_nil))
    (ss_cons (s_set 8 sc__law_are_joined.nd (se_lst (sa_cons (se_eq hr.units (se_call (is := [0, 1]) (nu := 2) D_reduced.ok (hr.mono (by decide)) hgd (by rfl) D_reduced.at_ D_reduced.fn.kp (bd_reduced_0 D_reduced.fn) (sa_cons (se_var 0) (sa_cons (se_var 1) (sa_nil)))) (se_call (is := [0, 1]) (nu := 2) D_reduced.ok (hr.mono (by decide)) hgd (by rfl) D_reduced.at_ D_reduced.fn.kp (bd_reduced_0 D_reduced.fn) (sa_cons (se_var 0) (sa_cons (se_var 3) (sa_nil))))) (sa_cons (se_eq hr.units (se_call (is := [0, 1]) (nu := 2) D_reduced.ok (hr.mono (by decide)) hgd (by rfl) D_reduced.at_ D_reduced.fn.kp (bd_reduced_0 D_reduced.fn) (sa_cons (se_var 0) (sa_cons (se_add (se_var 1) (se_var 7)) (sa_nil)))) (se_tup (sa_nil))) (sa_cons (se_eq hr.units (se_call (is := [0, 1]) (nu := 2) D_reduced.ok (hr.mono (by decide)) hgd (by rfl) D_reduced.at_ D_reduced.fn.kp (bd_reduced_0 D_reduced.fn) (sa_cons (se_var 0) (sa_cons (se_add (se_var 7) (se_var 1)) (sa_nil)))) (se_tup (sa_nil))) (sa_nil))))))
    (ss_one (s_ret (se_eq hr.units (se_repr hr hgd (by rfl) T.b_repr (se_var 8)) (se_repr hr hgd (by rfl) T.b_repr (se_rep (se_lst (sa_cons (se_var 10) (sa_nil))) (se_int)))))))))))))))
theorem ok_law {f : Addr} {fd : FuncData} (F : Fun K "law" "law" s_law f fd) (T : Txt mg) {a_inverse : Addr} {fd_inverse : FuncData} (D_inverse : Def P w K mg base "inverse" s_inverse 5 P_inverse sem_inverse a_inverse fd_inverse) {a_reduced : Addr} {fd_reduced : FuncData} (D_reduced : Def P w K mg base "reduced" s_reduced 5 P_reduced sem_reduced a_reduced fd_reduced) {a__law_deck : Addr} {fd__law_deck : FuncData} (D__law_deck : Def P w K mg base "_law_deck" s__law_deck 1 P__law_deck sem__law_deck a__law_deck fd__law_deck) {a__law_pick : Addr} {fd__law_pick : FuncData} (D__law_pick : Def P w K mg base "_law_pick" s__law_pick 2 P__law_pick sem__law_pick a__law_pick fd__law_pick) {a__law_letters : Addr} {fd__law_letters : FuncData} (D__law_letters : Def P w K mg base "_law_letters" s__law_letters 3 P__law_letters sem__law_letters a__law_letters fd__law_letters) {a__law_inverse : Addr} {fd__law_inverse : FuncData} (D__law_inverse : Def P w K mg base "_law_inverse" s__law_inverse 1 P__law_inverse sem__law_inverse a__law_inverse fd__law_inverse) {a__law_reduced : Addr} {fd__law_reduced : FuncData} (D__law_reduced : Def P w K mg base "_law_reduced" s__law_reduced 1 P__law_reduced sem__law_reduced a__law_reduced fd__law_reduced) {a__law_free : Addr} {fd__law_free : FuncData} (D__law_free : Def P w K mg base "_law_free" s__law_free 3 P__law_free sem__law_free a__law_free fd__law_free) {a__law_filled : Addr} {fd__law_filled : FuncData} (D__law_filled : Def P w K mg base "_law_filled" s__law_filled 2 P__law_filled sem__law_filled a__law_filled fd__law_filled) {a__law_cancelled : Addr} {fd__law_cancelled : FuncData} (D__law_cancelled : Def P w K mg base "_law_cancelled" s__law_cancelled 3 P__law_cancelled sem__law_cancelled a__law_cancelled fd__law_cancelled) {a__law_ends_cancelled : Addr} {fd__law_ends_cancelled : FuncData} (D__law_ends_cancelled : Def P w K mg base "_law_ends_cancelled" s__law_ends_cancelled 2 P__law_ends_cancelled sem__law_ends_cancelled a__law_ends_cancelled fd__law_ends_cancelled) {a__law_is_reduced_to : Addr} {fd__law_is_reduced_to : FuncData} (D__law_is_reduced_to : Def P w K mg base "_law_is_reduced_to" s__law_is_reduced_to 6 P__law_is_reduced_to sem__law_is_reduced_to a__law_is_reduced_to fd__law_is_reduced_to) {a__law_are_near_apart : Addr} {fd__law_are_near_apart : FuncData} (D__law_are_near_apart : Def P w K mg base "_law_are_near_apart" s__law_are_near_apart 6 P__law_are_near_apart sem__law_are_near_apart a__law_are_near_apart fd__law_are_near_apart) {a__law_are_joined : Addr} {fd__law_are_joined : FuncData} (D__law_are_joined : Def P w K mg base "_law_are_joined" s__law_are_joined 6 P__law_are_joined sem__law_are_joined a__law_are_joined fd__law_are_joined) : FnG P w K mg base 7 f fd P_law (spF K 1 sem_law) :=
  fnG_of (N := N_law) (ps := P_law) (m := body_law) F sc_law fun cdv A outer s H hr hgd =>
    ss_cons (s_set 1 sc_law.nd (se_call (is := [0]) (nu := 1) D__law_deck.ok (hr.mono (by decide)) hgd (by rfl) D__law_deck.at_ D__law_deck.fn.kp (bd__law_deck_0 D__law_deck.fn) (sa_cons (se_var 0) (sa_nil))))
    (ss_cons (s_for (W := [2]) PassesOwn.never rfl (si_rng (by rfl) T.b_range (se_int)) (sg_name 2 sc_law.nd (by decide)) (ss_cons (s_set 3 sc_law.nd (se_callD D__law_letters.ok (hr.mono (by decide)) hgd (by rfl) D__law_letters.at_ D__law_letters.fn.kp (bd__law_letters_0 D__law_letters.fn) 1 (sa_cons (se_lst (sa_cons (se_int) (sa_cons (se_int) (sa_cons (se_int) (sa_cons (se_int) (sa_nil)))))) (sa_nil))))
    (ss_cons (s_asg (W := [11, 12]) (sg_tup rfl (sgs_cons (sg_name 11 sc_law.nd (by decide)) (sgs_cons (sg_name 12 sc_law.nd (by decide)) (sgs_nil)))) (se_tup (sa_cons (se_callD D__law_free.ok (hr.mono (by decide)) hgd (by rfl) D__law_free.at_ D__law_free.fn.kp (bd__law_free_0 D__law_free.fn) 1 (sa_cons (se_var 3) (sa_cons (se_callD D__law_pick.ok (hr.mono (by decide)) hgd (by rfl) D__law_pick.at_ D__law_pick.fn.kp (bd__law_pick_0 D__law_pick.fn) 1 (sa_cons (se_lst (sa_cons (se_int) (sa_cons (se_int) (sa_cons (se_int) (sa_cons (se_int) (sa_cons (se_int) (sa_nil))))))) (sa_nil))) (sa_nil)))) (sa_cons (se_callD D__law_free.ok (hr.mono (by decide)) hgd (by rfl) D__law_free.at_ D__law_free.fn.kp (bd__law_free_0 D__law_free.fn) 1 (sa_cons (se_var 3) (sa_cons (se_int) (sa_nil)))) (sa_nil)))))
    (ss_cons (s_setLc (i := 4) (own := [("go", 17)]) (W := [17]) rfl sc_law.nd (si_rng (by rfl) T.b_range (se_int)) (blkOk_by (N := N_law) (sc := (defScope s_law)) (own := [("go", 17)]) (by decide +kernel)) (fun _ h => h) (fun _ _ _ _ _ => sg_name 17 sc_law.nd (by decide)) (fun _ _ _ _ _ => sts_nil) (fun _ _ _ _ _ => se_callD D__law_filled.ok (hr.mono (by decide)) hgd (by rfl) D__law_filled.at_ D__law_filled.fn.kp (bd__law_filled_0 D__law_filled.fn) 1 (sa_cons (se_var 3) (sa_cons (se_var 11) (sa_cons (se_int) (sa_nil))))) (sw_true rfl rfl rfl (by decide +kernel)))
    (ss_cons (s_for (W := [5]) PassesOwn.never rfl (si_seq (se_var 4)) (sg_name 5 sc_law.nd (by decide)) (ss_cons (s_set 13 sc_law.nd (se_repr hr hgd (by rfl) T.b_repr (se_tup (sa_cons (se_var 3) (sa_cons (se_var 5) (sa_nil))))))
    (ss_cons (s_set 14 sc_law.nd (se_add (se_callD D__law_cancelled.ok (hr.mono (by decide)) hgd (by rfl) D__law_cancelled.at_ D__law_cancelled.fn.kp (bd__law_cancelled_0 D__law_cancelled.fn) 1 (sa_cons (se_var 3) (sa_cons (se_var 5) (sa_nil)))) (se_callD D__law_cancelled.ok (hr.mono (by decide)) hgd (by rfl) D__law_cancelled.at_ D__law_cancelled.fn.kp (bd__law_cancelled_0 D__law_cancelled.fn) 1 (sa_cons (se_var 3) (sa_cons (se_var 5) (sa_nil))))))
    (ss_cons (s_set 14 sc_law.nd (se_add (se_add (se_var 14) (se_call (is := [0, 1, 2]) (nu := 3) D__law_ends_cancelled.ok (hr.mono (by decide)) hgd (by rfl) D__law_ends_cancelled.at_ D__law_ends_cancelled.fn.kp (bd__law_ends_cancelled_0 D__law_ends_cancelled.fn) (sa_cons (se_var 3) (sa_cons (se_var 5) (sa_cons (se_bl) (sa_nil)))))) (se_call (is := [0, 1, 2]) (nu := 3) D__law_ends_cancelled.ok (hr.mono (by decide)) hgd (by rfl) D__law_ends_cancelled.at_ D__law_ends_cancelled.fn.kp (bd__law_ends_cancelled_0 D__law_ends_cancelled.fn) (sa_cons (se_var 3) (sa_cons (se_var 5) (sa_cons (se_bl) (sa_nil)))))))
    (ss_one (s_if (sw_st (sw_or (st_not (st_val (se_call (is := [0, 1, 2]) (nu := 3) D__law_is_reduced_to.ok (hr.mono (by decide)) hgd (by rfl) D__law_is_reduced_to.at_ D__law_is_reduced_to.fn.kp (bd__law_is_reduced_to_0 D__law_is_reduced_to.fn) (sa_cons (se_var 3) (sa_cons (se_var 14) (sa_cons (se_var 11) (sa_nil))))))) (sw_or1 (st_ne hr.units (se_repr hr hgd (by rfl) T.b_repr (se_tup (sa_cons (se_var 3) (sa_cons (se_var 5) (sa_nil))))) (se_var 13))))) (ss_one (s_ret (se_bl))) (ss_nil)))))))
    (ss_cons (s_set 6 sc_law.nd (se_call (is := [0, 1]) (nu := 2) D_inverse.ok (hr.mono (by decide)) hgd (by rfl) D_inverse.at_ D_inverse.fn.kp (bd_inverse_0 D_inverse.fn) (sa_cons (se_var 3) (sa_cons (se_var 11) (sa_nil)))))
    (ss_cons (s_set 7 sc_law.nd (se_lst (sa_cons (se_var 6) (sa_cons (se_call (is := [0, 1]) (nu := 2) D_reduced.ok (hr.mono (by decide)) hgd (by rfl) D_reduced.at_ D_reduced.fn.kp (bd_reduced_0 D_reduced.fn) (sa_cons (se_var 3) (sa_cons (se_var 6) (sa_nil)))) (sa_cons (se_callK0 D_inverse.ok (hr.mono (by decide)) hgd (by rfl) D_inverse.at_ D_inverse.fn.kp (bd_inverse_1 D_inverse.fn) (sk_cons (se_ix (se_var 4) (se_int) (fun _ _ => rfl)) (sk_cons (se_var 3) (sk_nil)))) (sa_cons (se_call (is := [0, 1]) (nu := 2) D_inverse.ok (hr.mono (by decide)) hgd (by rfl) D_inverse.at_ D_inverse.fn.kp (bd_inverse_0 D_inverse.fn) (sa_cons (se_var 3) (sa_cons (se_var 6) (sa_nil)))) (sa_nil)))))))
    (ss_cons (s_if (st_ne hr.units (se_repr hr hgd (by rfl) T.b_repr (se_var 7)) (se_repr hr hgd (by rfl) T.b_repr (se_add (se_rep (se_lst (sa_cons (se_call (is := [0, 1]) (nu := 2) D__law_inverse.ok (hr.mono (by decide)) hgd (by rfl) D__law_inverse.at_ D__law_inverse.fn.kp (bd__law_inverse_0 D__law_inverse.fn) (sa_cons (se_var 3) (sa_cons (se_var 11) (sa_nil)))) (sa_nil))) (se_int)) (se_lst (sa_cons (se_call (is := [0, 1]) (nu := 2) D__law_inverse.ok (hr.mono (by decide)) hgd (by rfl) D__law_inverse.at_ D__law_inverse.fn.kp (bd__law_inverse_0 D__law_inverse.fn) (sa_cons (se_var 3) (sa_cons (se_ix (se_var 4) (se_int) (fun _ _ => rfl)) (sa_nil)))) (sa_cons (se_var 11) (sa_nil))))))) (ss_one (s_ret (se_bl))) (ss_nil))
    (ss_cons (s_if (sw_st (sw_or (st_not (st_val (se_callD D__law_are_near_apart.ok (hr.mono (by decide)) hgd (by rfl) D__law_are_near_apart.at_ D__law_are_near_apart.fn.kp (bd__law_are_near_apart_0 D__law_are_near_apart.fn) 1 (sa_cons (se_var 3) (sa_cons (se_ix (se_var 4) (se_int) (fun _ _ => rfl)) (sa_cons (se_var 11) (sa_nil))))))) (sw_or1 (st_not (st_val (se_callD D__law_are_near_apart.ok (hr.mono (by decide)) hgd (by rfl) D__law_are_near_apart.at_ D__law_are_near_apart.fn.kp (bd__law_are_near_apart_0 D__law_are_near_apart.fn) 1 (sa_cons (se_var 3) (sa_cons (se_var 11) (sa_cons (se_var 11) (sa_nil)))))))))) (ss_one (s_ret (se_bl))) (ss_nil))
    (ss_cons (s_set 8 sc_law.nd (se_callD D__law_pick.ok (hr.mono (by decide)) hgd (by rfl) D__law_pick.at_ D__law_pick.fn.kp (bd__law_pick_0 D__law_pick.fn) 1 (sa_cons (se_lst (sa_cons (se_var 12) (sa_cons (se_call (is := [0, 1]) (nu := 2) D__law_inverse.ok (hr.mono (by decide)) hgd (by rfl) D__law_inverse.at_ D__law_inverse.fn.kp (bd__law_inverse_0 D__law_inverse.fn) (sa_cons (se_var 3) (sa_cons (se_slice (se_var 11) (so_no) (so_some (se_int))) (sa_nil)))) (sa_cons (se_slice (se_var 11) (so_no) (so_some (se_int))) (sa_cons (se_slice (se_var 11) (so_some (se_int)) (so_some (se_int))) (sa_cons (se_add (se_slice (se_var 11) (so_no) (so_some (se_int))) (se_slice (se_var 12) (so_no) (so_some (se_int)))) (sa_nil))))))) (sa_nil))))
    (ss_cons (s_set 8 sc_law.nd (se_call (is := [0, 1]) (nu := 2) D__law_reduced.ok (hr.mono (by decide)) hgd (by rfl) D__law_reduced.at_ D__law_reduced.fn.kp (bd__law_reduced_0 D__law_reduced.fn) (sa_cons (se_var 3) (sa_cons (se_var 8) (sa_nil)))))
    (ss_cons (s_par sc_law.nd rfl 15 16 (se_callD D__law_filled.ok (hr.mono (by decide)) hgd (by rfl) D__law_filled.at_ D__law_filled.fn.kp (bd__law_filled_0 D__law_filled.fn) 1 (sa_cons (se_var 3) (sa_cons (se_slice (se_var 11) (so_no) (so_some (se_int))) (sa_cons (se_int) (sa_nil))))) (se_callD D__law_filled.ok (hr.mono (by decide)) hgd (by rfl) D__law_filled.at_ D__law_filled.fn.kp (bd__law_filled_0 D__law_filled.fn) 1 (sa_cons (se_var 3) (sa_cons (se_var 8) (sa_cons (se_int) (sa_nil))))))
    (ss_cons (s_set 9 sc_law.nd (se_callD D__law_filled.ok (hr.mono (by decide)) hgd (by rfl) D__law_filled.at_ D__law_filled.fn.kp (bd__law_filled_0 D__law_filled.fn) 1 (sa_cons (se_var 3) (sa_cons (se_var 8) (sa_cons (se_int) (sa_nil))))))
    (ss_one (s_for (W := [10]) PassesOwn.never rfl (si_seq (se_tup (sa_cons (se_tup (sa_cons (se_var 15) (sa_cons (se_slice (se_var 11) (so_no) (so_some (se_int))) (sa_cons (se_var 16) (sa_cons (se_var 8) (sa_nil)))))) (sa_cons (se_tup (sa_cons (se_var 16) (sa_cons (se_var 8) (sa_cons (se_var 15) (sa_cons (se_slice (se_var 11) (so_no) (so_some (se_int))) (sa_nil)))))) (sa_cons (se_tup (sa_cons (se_var 16) (sa_cons (se_var 8) (sa_cons (se_var 9) (sa_cons (se_var 8) (sa_nil)))))) (sa_cons (se_tup (sa_cons (se_var 15) (sa_cons (se_slice (se_var 11) (so_no) (so_some (se_int))) (sa_cons (se_var 15) (sa_cons (se_slice (se_var 11) (so_no) (so_some (se_int))) (sa_nil)))))) (sa_nil))))))) (sg_name 10 sc_law.nd (by decide)) (ss_one (s_if (st_not (st_val (se_call (is := [0, 1, 2, 3, 4]) (nu := 5) D__law_are_joined.ok (hr.mono (by decide)) hgd (by rfl) D__law_are_joined.at_ D__law_are_joined.fn.kp (bd__law_are_joined_0 D__law_are_joined.fn) (sa_cons (se_var 3) (sa_cons (se_ix (se_var 10) (se_int) (fun _ _ => rfl)) (sa_cons (se_ix (se_var 10) (se_int) (fun _ _ => rfl)) (sa_cons (se_ix (se_var 10) (se_int) (fun _ _ => rfl)) (sa_cons (se_ix (se_var 10) (se_int) (fun _ _ => rfl)) (sa_nil))))))))) (ss_one (s_ret (se_bl))) (ss_nil))))))))))))))))))
    (ss_one (s_ret (se_bl))))
end
theorem all_mk {l : PySem.W.OpenLaw} {w : World} {K : PySem.W.Frag} {h : Heap} {mg : Str → Option Value} {fa f0 f1 f2 f3 f4 f5 f6 f7 f8 f9 f10 f11 f12 f13 f14 f15 f16 f17 f18 f19 f20 f21 f22 f23 f24 f25 : Addr} (X : K.In h) (G : h.Ns mainGlobals mg) (hfa : mg "law" = some (.ref fa))
    {od0 an0 od1 an1 od2 an2 od3 an3 od4 an4 od5 an5 od6 an6 od7 an7 od8 an8 od9 an9 od10 an10 od11 an11 od12 an12 od13 an13 od14 an14 od15 an15 od16 an16 od17 an17 od18 an18 od19 an19 od20 an20 od21 an21 od22 an22 od23 an23 od24 an24 od25 an25 : Option Addr} {sl0 sl1 sl2 sl3 sl4 sl5 sl6 sl7 sl8 sl9 sl10 sl11 sl12 sl13 sl14 sl15 sl16 sl17 sl18 sl19 sl20 sl21 sl22 sl23 sl24 sl25 : Array (Option Value)} {oc0 kV0 dc0 pm0 cd0 ct0 oc1 kV1 dc1 pm1 cd1 ct1 oc2 kV2 dc2 pm2 cd2 ct2 oc3 kV3 dc3 pm3 cd3 ct3 oc4 kV4 dc4 pm4 cd4 ct4 oc5 kV5 dc5 pm5 cd5 ct5 oc6 kV6 dc6 pm6 cd6 ct6 oc7 kV7 dc7 pm7 cd7 ct7 oc8 kV8 dc8 pm8 cd8 ct8 oc9 kV9 dc9 pm9 cd9 ct9 oc10 kV10 dc10 pm10 cd10 ct10 oc11 kV11 dc11 pm11 cd11 ct11 oc12 kV12 dc12 pm12 cd12 ct12 oc13 kV13 dc13 pm13 cd13 ct13 oc14 kV14 dc14 pm14 cd14 ct14 oc15 kV15 dc15 pm15 cd15 ct15 oc16 kV16 dc16 pm16 cd16 ct16 oc17 kV17 dc17 pm17 cd17 ct17 oc18 kV18 dc18 pm18 cd18 ct18 oc19 kV19 dc19 pm19 cd19 ct19 oc20 kV20 dc20 pm20 cd20 ct20 oc21 kV21 dc21 pm21 cd21 ct21 oc22 kV22 dc22 pm22 cd22 ct22 oc23 kV23 dc23 pm23 cd23 ct23 oc24 kV24 dc24 pm24 cd24 ct24 oc25 kV25 dc25 pm25 cd25 ct25 : Value}
    (a0 : PySem.W.nsIn K mainGlobals "is_integer" = some (some (.ref f0))) (l0 : K.lookup f0 = some ⟨oc0, od0, .func (PySem.W.fnOf "is_integer" "is_integer" (defArgs s_is_integer) (defBody s_is_integer) (defScope s_is_integer) .none kV0 dc0 pm0 an0 cd0 ct0), sl0⟩) (c0 : PySem.W.codeIn K cd0 "is_integer" = true) (k0 : PySem.W.keepIn K (.ref f0) = true)
    (a1 : PySem.W.nsIn K mainGlobals "is_between" = some (some (.ref f1))) (l1 : K.lookup f1 = some ⟨oc1, od1, .func (PySem.W.fnOf "is_between" "is_between" (defArgs s_is_between) (defBody s_is_between) (defScope s_is_between) .none kV1 dc1 pm1 an1 cd1 ct1), sl1⟩) (c1 : PySem.W.codeIn K cd1 "is_between" = true) (k1 : PySem.W.keepIn K (.ref f1) = true)
    (a2 : PySem.W.nsIn K mainGlobals "is_letters_value" = some (some (.ref f2))) (l2 : K.lookup f2 = some ⟨oc2, od2, .func (PySem.W.fnOf "is_letters_value" "is_letters_value" (defArgs s_is_letters_value) (defBody s_is_letters_value) (defScope s_is_letters_value) .none kV2 dc2 pm2 an2 cd2 ct2), sl2⟩) (c2 : PySem.W.codeIn K cd2 "is_letters_value" = true) (k2 : PySem.W.keepIn K (.ref f2) = true)
    (a3 : PySem.W.nsIn K mainGlobals "need_letters" = some (some (.ref f3))) (l3 : K.lookup f3 = some ⟨oc3, od3, .func (PySem.W.fnOf "need_letters" "need_letters" (defArgs s_need_letters) (defBody s_need_letters) (defScope s_need_letters) .none kV3 dc3 pm3 an3 cd3 ct3), sl3⟩) (c3 : PySem.W.codeIn K cd3 "need_letters" = true) (k3 : PySem.W.keepIn K (.ref f3) = true)
    (a4 : PySem.W.nsIn K mainGlobals "is_word_over" = some (some (.ref f4))) (l4 : K.lookup f4 = some ⟨oc4, od4, .func (PySem.W.fnOf "is_word_over" "is_word_over" (defArgs s_is_word_over) (defBody s_is_word_over) (defScope s_is_word_over) .none kV4 dc4 pm4 an4 cd4 ct4), sl4⟩) (c4 : PySem.W.codeIn K cd4 "is_word_over" = true) (k4 : PySem.W.keepIn K (.ref f4) = true)
    (a5 : PySem.W.nsIn K mainGlobals "need_word" = some (some (.ref f5))) (l5 : K.lookup f5 = some ⟨oc5, od5, .func (PySem.W.fnOf "need_word" "need_word" (defArgs s_need_word) (defBody s_need_word) (defScope s_need_word) .none kV5 dc5 pm5 an5 cd5 ct5), sl5⟩) (c5 : PySem.W.codeIn K cd5 "need_word" = true) (k5 : PySem.W.keepIn K (.ref f5) = true)
    (a6 : PySem.W.nsIn K mainGlobals "inverse_of" = some (some (.ref f6))) (l6 : K.lookup f6 = some ⟨oc6, od6, .func (PySem.W.fnOf "inverse_of" "inverse_of" (defArgs s_inverse_of) (defBody s_inverse_of) (defScope s_inverse_of) .none kV6 dc6 pm6 an6 cd6 ct6), sl6⟩) (c6 : PySem.W.codeIn K cd6 "inverse_of" = true) (k6 : PySem.W.keepIn K (.ref f6) = true)
    (a7 : PySem.W.nsIn K mainGlobals "inverse" = some (some (.ref f7))) (l7 : K.lookup f7 = some ⟨oc7, od7, .func (PySem.W.fnOf "inverse" "inverse" (defArgs s_inverse) (defBody s_inverse) (defScope s_inverse) .none kV7 dc7 pm7 an7 cd7 ct7), sl7⟩) (c7 : PySem.W.codeIn K cd7 "inverse" = true) (k7 : PySem.W.keepIn K (.ref f7) = true)
    (a8 : PySem.W.nsIn K mainGlobals "reduced_of" = some (some (.ref f8))) (l8 : K.lookup f8 = some ⟨oc8, od8, .func (PySem.W.fnOf "reduced_of" "reduced_of" (defArgs s_reduced_of) (defBody s_reduced_of) (defScope s_reduced_of) .none kV8 dc8 pm8 an8 cd8 ct8), sl8⟩) (c8 : PySem.W.codeIn K cd8 "reduced_of" = true) (k8 : PySem.W.keepIn K (.ref f8) = true)
    (a9 : PySem.W.nsIn K mainGlobals "reduced" = some (some (.ref f9))) (l9 : K.lookup f9 = some ⟨oc9, od9, .func (PySem.W.fnOf "reduced" "reduced" (defArgs s_reduced) (defBody s_reduced) (defScope s_reduced) .none kV9 dc9 pm9 an9 cd9 ct9), sl9⟩) (c9 : PySem.W.codeIn K cd9 "reduced" = true) (k9 : PySem.W.keepIn K (.ref f9) = true)
    (a10 : PySem.W.nsIn K mainGlobals "_law_deck" = some (some (.ref f10))) (l10 : K.lookup f10 = some ⟨oc10, od10, .func (PySem.W.fnOf "_law_deck" "_law_deck" (defArgs s__law_deck) (defBody s__law_deck) (defScope s__law_deck) .none kV10 dc10 pm10 an10 cd10 ct10), sl10⟩) (c10 : PySem.W.codeIn K cd10 "_law_deck" = true) (k10 : PySem.W.keepIn K (.ref f10) = true)
    (a11 : PySem.W.nsIn K mainGlobals "_law_draw" = some (some (.ref f11))) (l11 : K.lookup f11 = some ⟨oc11, od11, .func (PySem.W.fnOf "_law_draw" "_law_draw" (defArgs s__law_draw) (defBody s__law_draw) (defScope s__law_draw) .none kV11 dc11 pm11 an11 cd11 ct11), sl11⟩) (c11 : PySem.W.codeIn K cd11 "_law_draw" = true) (k11 : PySem.W.keepIn K (.ref f11) = true)
    (a12 : PySem.W.nsIn K mainGlobals "_law_pick" = some (some (.ref f12))) (l12 : K.lookup f12 = some ⟨oc12, od12, .func (PySem.W.fnOf "_law_pick" "_law_pick" (defArgs s__law_pick) (defBody s__law_pick) (defScope s__law_pick) .none kV12 dc12 pm12 an12 cd12 ct12), sl12⟩) (c12 : PySem.W.codeIn K cd12 "_law_pick" = true) (k12 : PySem.W.keepIn K (.ref f12) = true)
    (a13 : PySem.W.nsIn K mainGlobals "_law_order" = some (some (.ref f13))) (l13 : K.lookup f13 = some ⟨oc13, od13, .func (PySem.W.fnOf "_law_order" "_law_order" (defArgs s__law_order) (defBody s__law_order) (defScope s__law_order) .none kV13 dc13 pm13 an13 cd13 ct13), sl13⟩) (c13 : PySem.W.codeIn K cd13 "_law_order" = true) (k13 : PySem.W.keepIn K (.ref f13) = true)
    (a14 : PySem.W.nsIn K mainGlobals "_law_letters" = some (some (.ref f14))) (l14 : K.lookup f14 = some ⟨oc14, od14, .func (PySem.W.fnOf "_law_letters" "_law_letters" (defArgs s__law_letters) (defBody s__law_letters) (defScope s__law_letters) .none kV14 dc14 pm14 an14 cd14 ct14), sl14⟩) (c14 : PySem.W.codeIn K cd14 "_law_letters" = true) (k14 : PySem.W.keepIn K (.ref f14) = true)
    (a15 : PySem.W.nsIn K mainGlobals "_law_inverse" = some (some (.ref f15))) (l15 : K.lookup f15 = some ⟨oc15, od15, .func (PySem.W.fnOf "_law_inverse" "_law_inverse" (defArgs s__law_inverse) (defBody s__law_inverse) (defScope s__law_inverse) .none kV15 dc15 pm15 an15 cd15 ct15), sl15⟩) (c15 : PySem.W.codeIn K cd15 "_law_inverse" = true) (k15 : PySem.W.keepIn K (.ref f15) = true)
    (a16 : PySem.W.nsIn K mainGlobals "_law_reduced" = some (some (.ref f16))) (l16 : K.lookup f16 = some ⟨oc16, od16, .func (PySem.W.fnOf "_law_reduced" "_law_reduced" (defArgs s__law_reduced) (defBody s__law_reduced) (defScope s__law_reduced) .none kV16 dc16 pm16 an16 cd16 ct16), sl16⟩) (c16 : PySem.W.codeIn K cd16 "_law_reduced" = true) (k16 : PySem.W.keepIn K (.ref f16) = true)
    (a17 : PySem.W.nsIn K mainGlobals "_law_free" = some (some (.ref f17))) (l17 : K.lookup f17 = some ⟨oc17, od17, .func (PySem.W.fnOf "_law_free" "_law_free" (defArgs s__law_free) (defBody s__law_free) (defScope s__law_free) .none kV17 dc17 pm17 an17 cd17 ct17), sl17⟩) (c17 : PySem.W.codeIn K cd17 "_law_free" = true) (k17 : PySem.W.keepIn K (.ref f17) = true)
    (a18 : PySem.W.nsIn K mainGlobals "_law_filled" = some (some (.ref f18))) (l18 : K.lookup f18 = some ⟨oc18, od18, .func (PySem.W.fnOf "_law_filled" "_law_filled" (defArgs s__law_filled) (defBody s__law_filled) (defScope s__law_filled) .none kV18 dc18 pm18 an18 cd18 ct18), sl18⟩) (c18 : PySem.W.codeIn K cd18 "_law_filled" = true) (k18 : PySem.W.keepIn K (.ref f18) = true)
    (a19 : PySem.W.nsIn K mainGlobals "_law_spots" = some (some (.ref f19))) (l19 : K.lookup f19 = some ⟨oc19, od19, .func (PySem.W.fnOf "_law_spots" "_law_spots" (defArgs s__law_spots) (defBody s__law_spots) (defScope s__law_spots) .none kV19 dc19 pm19 an19 cd19 ct19), sl19⟩) (c19 : PySem.W.codeIn K cd19 "_law_spots" = true) (k19 : PySem.W.keepIn K (.ref f19) = true)
    (a20 : PySem.W.nsIn K mainGlobals "_law_cancelled" = some (some (.ref f20))) (l20 : K.lookup f20 = some ⟨oc20, od20, .func (PySem.W.fnOf "_law_cancelled" "_law_cancelled" (defArgs s__law_cancelled) (defBody s__law_cancelled) (defScope s__law_cancelled) .none kV20 dc20 pm20 an20 cd20 ct20), sl20⟩) (c20 : PySem.W.codeIn K cd20 "_law_cancelled" = true) (k20 : PySem.W.keepIn K (.ref f20) = true)
    (a21 : PySem.W.nsIn K mainGlobals "_law_ends_cancelled" = some (some (.ref f21))) (l21 : K.lookup f21 = some ⟨oc21, od21, .func (PySem.W.fnOf "_law_ends_cancelled" "_law_ends_cancelled" (defArgs s__law_ends_cancelled) (defBody s__law_ends_cancelled) (defScope s__law_ends_cancelled) .none kV21 dc21 pm21 an21 cd21 ct21), sl21⟩) (c21 : PySem.W.codeIn K cd21 "_law_ends_cancelled" = true) (k21 : PySem.W.keepIn K (.ref f21) = true)
    (a22 : PySem.W.nsIn K mainGlobals "_law_is_reduced_to" = some (some (.ref f22))) (l22 : K.lookup f22 = some ⟨oc22, od22, .func (PySem.W.fnOf "_law_is_reduced_to" "_law_is_reduced_to" (defArgs s__law_is_reduced_to) (defBody s__law_is_reduced_to) (defScope s__law_is_reduced_to) .none kV22 dc22 pm22 an22 cd22 ct22), sl22⟩) (c22 : PySem.W.codeIn K cd22 "_law_is_reduced_to" = true) (k22 : PySem.W.keepIn K (.ref f22) = true)
    (a23 : PySem.W.nsIn K mainGlobals "_law_are_near_apart" = some (some (.ref f23))) (l23 : K.lookup f23 = some ⟨oc23, od23, .func (PySem.W.fnOf "_law_are_near_apart" "_law_are_near_apart" (defArgs s__law_are_near_apart) (defBody s__law_are_near_apart) (defScope s__law_are_near_apart) .none kV23 dc23 pm23 an23 cd23 ct23), sl23⟩) (c23 : PySem.W.codeIn K cd23 "_law_are_near_apart" = true) (k23 : PySem.W.keepIn K (.ref f23) = true)
    (a24 : PySem.W.nsIn K mainGlobals "_law_are_joined" = some (some (.ref f24))) (l24 : K.lookup f24 = some ⟨oc24, od24, .func (PySem.W.fnOf "_law_are_joined" "_law_are_joined" (defArgs s__law_are_joined) (defBody s__law_are_joined) (defScope s__law_are_joined) .none kV24 dc24 pm24 an24 cd24 ct24), sl24⟩) (c24 : PySem.W.codeIn K cd24 "_law_are_joined" = true) (k24 : PySem.W.keepIn K (.ref f24) = true)
    (a25 : PySem.W.nsIn K mainGlobals "law" = some (some (.ref f25))) (l25 : K.lookup f25 = some ⟨oc25, od25, .func (PySem.W.fnOf "law" "law" (defArgs s_law) (defBody s_law) (defScope s_law) .none kV25 dc25 pm25 an25 cd25 ct25), sl25⟩) (c25 : PySem.W.codeIn K cd25 "law" = true) (k25 : PySem.W.keepIn K (.ref f25) = true)
    (z_all : PySem.W.nsIn K mainGlobals "all" = some none)
    (z_bool : PySem.W.nsIn K mainGlobals "bool" = some none)
    (z_enumerate : PySem.W.nsIn K mainGlobals "enumerate" = some none)
    (z_int : PySem.W.nsIn K mainGlobals "int" = some none)
    (z_isinstance : PySem.W.nsIn K mainGlobals "isinstance" = some none)
    (z_len : PySem.W.nsIn K mainGlobals "len" = some none)
    (z_list : PySem.W.nsIn K mainGlobals "list" = some none)
    (z_max : PySem.W.nsIn K mainGlobals "max" = some none)
    (z_range : PySem.W.nsIn K mainGlobals "range" = some none)
    (z_repr : PySem.W.nsIn K mainGlobals "repr" = some none)
    (z_reversed : PySem.W.nsIn K mainGlobals "reversed" = some none)
    (z_tuple : PySem.W.nsIn K mainGlobals "tuple" = some none)
    (z_zip : PySem.W.nsIn K mainGlobals "zip" = some none)
    : ∃ fd : FuncData, (∀ (s : Shared) (v : Value), BindsTo s fd ⟨[v], []⟩ [("script", v)]) ∧ ∀ base : Heap, K.In base → base.Ns mainGlobals mg → FnG l.prog w K mg base 7 fa fd P_law (spF K 1 sem_law) := by
  have e := hfa.symm.trans (PySem.W.mg_of X G a25)
  cases e
  have T : Txt mg := ⟨PySem.W.mg_none_of X G z_all, PySem.W.mg_none_of X G z_bool, PySem.W.mg_none_of X G z_enumerate, PySem.W.mg_none_of X G z_int, PySem.W.mg_none_of X G z_isinstance, PySem.W.mg_none_of X G z_len, PySem.W.mg_none_of X G z_list, PySem.W.mg_none_of X G z_max, PySem.W.mg_none_of X G z_range, PySem.W.mg_none_of X G z_repr, PySem.W.mg_none_of X G z_reversed, PySem.W.mg_none_of X G z_tuple, PySem.W.mg_none_of X G z_zip⟩
  refine ⟨PySem.W.fnOf "law" "law" (defArgs s_law) (defBody s_law) (defScope s_law) .none kV25 dc25 pm25 an25 cd25 ct25, fun s v => .of_eq rfl, fun base _ _ => ?_⟩
  have D_is_integer : Def l.prog w K mg base "is_integer" s_is_integer 1 P_is_integer sem_is_integer f0 _ := ⟨fun_mk (st := s_is_integer) l0 c0 k0, PySem.W.mg_of X G a0, ok_is_integer (fun_mk (st := s_is_integer) l0 c0 k0) T ⟩
  have D_is_between : Def l.prog w K mg base "is_between" s_is_between 2 P_is_between sem_is_between f1 _ := ⟨fun_mk (st := s_is_between) l1 c1 k1, PySem.W.mg_of X G a1, ok_is_between (fun_mk (st := s_is_between) l1 c1 k1) T D_is_integer⟩
  have D_is_letters_value : Def l.prog w K mg base "is_letters_value" s_is_letters_value 3 P_is_letters_value sem_is_letters_value f2 _ := ⟨fun_mk (st := s_is_letters_value) l2 c2 k2, PySem.W.mg_of X G a2, ok_is_letters_value (fun_mk (st := s_is_letters_value) l2 c2 k2) T D_is_between⟩
  have D_need_letters : Def l.prog w K mg base "need_letters" s_need_letters 4 P_need_letters sem_need_letters f3 _ := ⟨fun_mk (st := s_need_letters) l3 c3 k3, PySem.W.mg_of X G a3, ok_need_letters (fun_mk (st := s_need_letters) l3 c3 k3) T D_is_letters_value⟩
  have D_is_word_over : Def l.prog w K mg base "is_word_over" s_is_word_over 3 P_is_word_over sem_is_word_over f4 _ := ⟨fun_mk (st := s_is_word_over) l4 c4 k4, PySem.W.mg_of X G a4, ok_is_word_over (fun_mk (st := s_is_word_over) l4 c4 k4) T D_is_between⟩
  have D_need_word : Def l.prog w K mg base "need_word" s_need_word 4 P_need_word sem_need_word f5 _ := ⟨fun_mk (st := s_need_word) l5 c5 k5, PySem.W.mg_of X G a5, ok_need_word (fun_mk (st := s_need_word) l5 c5 k5) T D_is_word_over⟩
  have D_inverse_of : Def l.prog w K mg base "inverse_of" s_inverse_of 1 P_inverse_of sem_inverse_of f6 _ := ⟨fun_mk (st := s_inverse_of) l6 c6 k6, PySem.W.mg_of X G a6, ok_inverse_of (fun_mk (st := s_inverse_of) l6 c6 k6) T ⟩
  have D_inverse : Def l.prog w K mg base "inverse" s_inverse 5 P_inverse sem_inverse f7 _ := ⟨fun_mk (st := s_inverse) l7 c7 k7, PySem.W.mg_of X G a7, ok_inverse (fun_mk (st := s_inverse) l7 c7 k7) T D_need_letters D_need_word D_inverse_of⟩
  have D_reduced_of : Def l.prog w K mg base "reduced_of" s_reduced_of 1 P_reduced_of sem_reduced_of f8 _ := ⟨fun_mk (st := s_reduced_of) l8 c8 k8, PySem.W.mg_of X G a8, ok_reduced_of (fun_mk (st := s_reduced_of) l8 c8 k8) T ⟩
  have D_reduced : Def l.prog w K mg base "reduced" s_reduced 5 P_reduced sem_reduced f9 _ := ⟨fun_mk (st := s_reduced) l9 c9 k9, PySem.W.mg_of X G a9, ok_reduced (fun_mk (st := s_reduced) l9 c9 k9) T D_need_letters D_need_word D_reduced_of⟩
  have D__law_deck : Def l.prog w K mg base "_law_deck" s__law_deck 1 P__law_deck sem__law_deck f10 _ := ⟨fun_mk (st := s__law_deck) l10 c10 k10, PySem.W.mg_of X G a10, ok__law_deck (fun_mk (st := s__law_deck) l10 c10 k10) T ⟩
  have D__law_draw : Def l.prog w K mg base "_law_draw" s__law_draw 1 P__law_draw sem__law_draw f11 _ := ⟨fun_mk (st := s__law_draw) l11 c11 k11, PySem.W.mg_of X G a11, ok__law_draw (fun_mk (st := s__law_draw) l11 c11 k11) T ⟩
  have D__law_pick : Def l.prog w K mg base "_law_pick" s__law_pick 2 P__law_pick sem__law_pick f12 _ := ⟨fun_mk (st := s__law_pick) l12 c12 k12, PySem.W.mg_of X G a12, ok__law_pick (fun_mk (st := s__law_pick) l12 c12 k12) T D__law_draw⟩
  have D__law_order : Def l.prog w K mg base "_law_order" s__law_order 2 P__law_order sem__law_order f13 _ := ⟨fun_mk (st := s__law_order) l13 c13 k13, PySem.W.mg_of X G a13, ok__law_order (fun_mk (st := s__law_order) l13 c13 k13) T D__law_draw⟩
  have D__law_letters : Def l.prog w K mg base "_law_letters" s__law_letters 3 P__law_letters sem__law_letters f14 _ := ⟨fun_mk (st := s__law_letters) l14 c14 k14, PySem.W.mg_of X G a14, ok__law_letters (fun_mk (st := s__law_letters) l14 c14 k14) T D__law_draw D__law_pick D__law_order⟩
  have D__law_inverse : Def l.prog w K mg base "_law_inverse" s__law_inverse 1 P__law_inverse sem__law_inverse f15 _ := ⟨fun_mk (st := s__law_inverse) l15 c15 k15, PySem.W.mg_of X G a15, ok__law_inverse (fun_mk (st := s__law_inverse) l15 c15 k15) T ⟩
  have D__law_reduced : Def l.prog w K mg base "_law_reduced" s__law_reduced 1 P__law_reduced sem__law_reduced f16 _ := ⟨fun_mk (st := s__law_reduced) l16 c16 k16, PySem.W.mg_of X G a16, ok__law_reduced (fun_mk (st := s__law_reduced) l16 c16 k16) T ⟩
  have D__law_free : Def l.prog w K mg base "_law_free" s__law_free 3 P__law_free sem__law_free f17 _ := ⟨fun_mk (st := s__law_free) l17 c17 k17, PySem.W.mg_of X G a17, ok__law_free (fun_mk (st := s__law_free) l17 c17 k17) T D__law_draw D__law_pick⟩
  have D__law_filled : Def l.prog w K mg base "_law_filled" s__law_filled 2 P__law_filled sem__law_filled f18 _ := ⟨fun_mk (st := s__law_filled) l18 c18 k18, PySem.W.mg_of X G a18, ok__law_filled (fun_mk (st := s__law_filled) l18 c18 k18) T D__law_draw⟩
  have D__law_spots : Def l.prog w K mg base "_law_spots" s__law_spots 1 P__law_spots sem__law_spots f19 _ := ⟨fun_mk (st := s__law_spots) l19 c19 k19, PySem.W.mg_of X G a19, ok__law_spots (fun_mk (st := s__law_spots) l19 c19 k19) T ⟩
  have D__law_cancelled : Def l.prog w K mg base "_law_cancelled" s__law_cancelled 3 P__law_cancelled sem__law_cancelled f20 _ := ⟨fun_mk (st := s__law_cancelled) l20 c20 k20, PySem.W.mg_of X G a20, ok__law_cancelled (fun_mk (st := s__law_cancelled) l20 c20 k20) T D__law_pick D__law_spots⟩
  have D__law_ends_cancelled : Def l.prog w K mg base "_law_ends_cancelled" s__law_ends_cancelled 2 P__law_ends_cancelled sem__law_ends_cancelled f21 _ := ⟨fun_mk (st := s__law_ends_cancelled) l21 c21 k21, PySem.W.mg_of X G a21, ok__law_ends_cancelled (fun_mk (st := s__law_ends_cancelled) l21 c21 k21) T D__law_spots⟩
  have D__law_is_reduced_to : Def l.prog w K mg base "_law_is_reduced_to" s__law_is_reduced_to 6 P__law_is_reduced_to sem__law_is_reduced_to f22 _ := ⟨fun_mk (st := s__law_is_reduced_to) l22 c22 k22, PySem.W.mg_of X G a22, ok__law_is_reduced_to (fun_mk (st := s__law_is_reduced_to) l22 c22 k22) T D_reduced⟩
  have D__law_are_near_apart : Def l.prog w K mg base "_law_are_near_apart" s__law_are_near_apart 6 P__law_are_near_apart sem__law_are_near_apart f23 _ := ⟨fun_mk (st := s__law_are_near_apart) l23 c23 k23, PySem.W.mg_of X G a23, ok__law_are_near_apart (fun_mk (st := s__law_are_near_apart) l23 c23 k23) T D_reduced D__law_draw D__law_reduced⟩
  have D__law_are_joined : Def l.prog w K mg base "_law_are_joined" s__law_are_joined 6 P__law_are_joined sem__law_are_joined f24 _ := ⟨fun_mk (st := s__law_are_joined) l24 c24 k24, PySem.W.mg_of X G a24, ok__law_are_joined (fun_mk (st := s__law_are_joined) l24 c24 k24) T D_inverse D_reduced D__law_inverse D__law_reduced⟩
  exact ok_law (fun_mk (st := s_law) l25 c25 k25) T D_inverse D_reduced D__law_deck D__law_pick D__law_letters D__law_inverse D__law_reduced D__law_free D__law_filled D__law_cancelled D__law_ends_cancelled D__law_is_reduced_to D__law_are_near_apart D__law_are_joined
end K03
namespace K03
open PySem L2 Gx
@[simp] theorem ne_lm : (("left" : Str) = "mixed") = False := by simp; decide +kernel
@[simp] theorem ne_ld : (("left" : Str) = "draws") = False := by simp; decide +kernel
@[simp] theorem ne_md : (("mixed" : Str) = "draws") = False := by simp; decide +kernel
@[simp] theorem ne_ml : (("mixed" : Str) = "left") = False := by simp; decide +kernel
@[simp] theorem ne_dl : (("draws" : Str) = "left") = False := by simp; decide +kernel
@[simp] theorem ne_dm : (("draws" : Str) = "mixed") = False := by simp; decide +kernel
/-- the law's deck -/
structure Dk where
  l : List Int
  m : Int
  c : Int
  h : l.length ≤ 63
abbrev ob (d : Dk) : Ob := .box [("left", .lst (d.l.map .int)), ("mixed", .val (.int d.m)), ("draws", .val (.int d.c))]
theorem cMod_ok {i j : Int} (h : 0 < j) : cMod i j = true := decide_eq_true h
theorem cDiv_ok {i j : Int} (h : 0 < j) (g : j < 1073741824) : cDiv i j = true := decide_eq_true ⟨h, g⟩
theorem cMul_ok1 {i j : Int} (h : i.natAbs < 18446744073709551616) : cMul i j = true := decide_eq_true (.inl h)
theorem cMul_ok2 {i j : Int} (h : j.natAbs < 18446744073709551616) : cMul i j = true := decide_eq_true (.inr h)
theorem emod_abs {i : Int} {n : Int} (h : 0 < n) (g : n ≤ 18446744073709551616) : (i % n).natAbs < 18446744073709551616 := by
  have h1 := Int.emod_nonneg i (show n ≠ 0 by omega)
  have h2 := Int.emod_lt_of_pos i h
  omega
theorem draw_ex (d : Dk) (n : Int) (h0 : 0 < n) (h1 : n < 1073741824) : ∃ (r : Int) (d' : Dk), sem__law_draw [.own true (ob d), .val (.int n)] = some (.val (.int r), [.own true (ob d'), .un]) ∧ 0 ≤ r ∧ r < n := by
  obtain ⟨l, m, c, hl⟩ := d
  have r1 : ∀ i : Int, 0 ≤ i % n := fun i => Int.emod_nonneg i (by omega)
  have r2 : ∀ i : Int, i % n < n := fun i => Int.emod_lt_of_pos i h0
  have k1 : ∀ i : Int, cMod i n = true := fun i => cMod_ok h0
  have k2 : ∀ i : Int, cMod i 2147483647 = true := fun i => cMod_ok (by decide)
  have k3 : ∀ i : Int, cMod i 2147483563 = true := fun i => cMod_ok (by decide)
  have k4 : ∀ i : Int, cMod i 2147483587 = true := fun i => cMod_ok (by decide)
  have k5 : ∀ i : Int, cMod i 2147483629 = true := fun i => cMod_ok (by decide)
  have k6 : ∀ i : Int, cDiv i 64 = true := fun i => cDiv_ok (by decide) (by decide)
  have k7 : ∀ i : Int, cMul 52173 i = true := fun i => cMul_ok1 (by decide)
  have k8 : ∀ i : Int, cMul 48271 i = true := fun i => cMul_ok1 (by decide)
  have k9 : ∀ i : Int, cMul i 16807 = true := fun i => cMul_ok2 (by decide)
  have k10 : ∀ i : Int, cMul i 39373 = true := fun i => cMul_ok2 (by decide)
  have k11 : ∀ i j : Int, cMul (i % 2147483647) j = true := fun i j => cMul_ok1 (emod_abs (by decide) (by decide))
  have k12 : cPow 10 18 = true := by decide +kernel
  unfold sem__law_draw mFn body__law_draw
  rcases List.eq_nil_or_concat l with rfl | ⟨l', x, rfl⟩
  · simp [shaped_nil, eqv_nil, k1, k2, k3, k4, k5, k6, k7, k8, k9, k10, k11, k12]
    exact ⟨_, ⟨rfl, ⟨[], _, _, by simp⟩, rfl, rfl, rfl⟩, r1 _, r2 _⟩
  · have s1 := shaped_ints (l' ++ [x])
    simp only [List.map_append, List.map_cons, List.map_nil] at s1
    have hl' : l'.length ≤ 62 := by
      rw [List.concat_eq_append, List.length_append] at hl
      exact Nat.le_of_succ_le_succ hl
    have k13 : cDiv x (if 2 < n then n else 2) = true := by
      split
      · exact cDiv_ok h0 h1
      · exact cDiv_ok (by decide) (by decide)
    have k14 : l'.length < lim := by unfold lim; omega
    by_cases hx : 1000000000000000000 ≤ x
    · simp [s1, eqv_nil, k1, k2, k3, k4, k5, k6, k7, k8, k9, k10, k11, k12, hx, k13, k14]
      exact ⟨_, ⟨rfl, ⟨l' ++ [_], _, _, by rw [List.length_append]; exact Nat.succ_le_succ hl'⟩, by simp; rfl, rfl, rfl⟩, r1 _, r2 _⟩
    · simp [s1, eqv_nil, k1, k2, k3, k4, k5, k6, k7, k8, k9, k10, k11, k12, hx]
      exact ⟨_, ⟨rfl, ⟨l', _, _, by omega⟩, rfl, rfl, rfl⟩, r1 _, r2 _⟩
end K03
namespace K03
open PySem L2 Gx
open Classical in
noncomputable def drP (d : Dk) (n : Nat) : Int × Dk := if h : 0 < (n : Int) ∧ (n : Int) < 1073741824 then ⟨(draw_ex d n h.1 h.2).choose, (draw_ex d n h.1 h.2).choose_spec.choose⟩ else ⟨0, d⟩
noncomputable def drN (d : Dk) (n : Nat) : Nat := (drP d n).1.toNat
noncomputable def drD (d : Dk) (n : Nat) : Dk := (drP d n).2
theorem draw_spec (d : Dk) (n : Nat) (h0 : 0 < n) (h1 : n < 1073741824) : sem__law_draw [.own true (ob d), .val (.int n)] = some (.val (.int (drN d n)), [.own true (ob (drD d n)), .un]) ∧ drN d n < n := by
  have h : 0 < (n : Int) ∧ (n : Int) < 1073741824 := ⟨by omega, by omega⟩
  have q := (draw_ex d n h.1 h.2).choose_spec.choose_spec
  have e : drP d n = ⟨(draw_ex d n h.1 h.2).choose, (draw_ex d n h.1 h.2).choose_spec.choose⟩ := by unfold drP; rw [dif_pos h]
  have e1 : ((drN d n : Nat) : Int) = (draw_ex d n h.1 h.2).choose := by
    unfold drN
    rw [e]
    exact Int.toNat_of_nonneg q.2.1
  refine ⟨?_, ?_⟩
  · rw [e1]
    unfold drD
    rw [e]
    exact q.1
  · have := q.2.2
    omega
theorem drN_lt (d : Dk) {n : Nat} (h0 : 0 < n) (h1 : n < 1073741824) : drN d n < n := (draw_spec d n h0 h1).2
theorem draw_eq (d : Dk) {z : Int} (h0 : 0 < z) (h1 : z < 1073741824) : sem__law_draw [.own true (ob d), .val (.int z)] = some (.val (.int (drN d z.toNat)), [.own true (ob (drD d z.toNat)), .un]) := by
  obtain ⟨n, rfl⟩ := Int.eq_ofNat_of_zero_le (Int.le_of_lt h0)
  exact (draw_spec d n (by omega) (by omega)).1
theorem pick_eq (d : Dk) (xs : List PyData) (h0 : xs ≠ []) (h1 : xs.length < 1073741824) : ∃ (x : PyData) (d' : Dk), x ∈ xs ∧ sem__law_pick [.own true (ob d), .val (.list xs)] = some (.val x, [.own true (ob d'), .un]) := by
  have hp : 0 < xs.length := List.length_pos_iff.mpr h0
  have hlt := drN_lt d hp h1
  refine ⟨xs[drN d xs.length], drD d xs.length, List.getElem_mem hlt, ?_⟩
  have e := draw_eq d (z := (xs.length : Int)) (by omega) (by omega)
  unfold sem__law_pick mFn body__law_pick
  simp [e, atI, ixN, hlt]
theorem map_erase {α β : Type} (f : α → β) : ∀ (l : List α) (i : Nat), (l.map f).eraseIdx i = (l.eraseIdx i).map f
  | [], _ => rfl
  | _ :: _, 0 => rfl
  | _ :: l, i + 1 => by
    simp only [List.map_cons, List.eraseIdx_cons_succ, map_erase f l i]
theorem erase_perm : ∀ (l : List Nat) (i : Nat) (h : i < l.length), List.Perm (l[i] :: l.eraseIdx i) l
  | a :: l, 0, _ => List.Perm.refl _
  | a :: l, i + 1, h => by
    simp only [List.getElem_cons_succ, List.eraseIdx_cons_succ]
    exact (List.Perm.swap _ _ _).trans ((erase_perm l i (Nat.lt_of_succ_lt_succ h)).cons a)
theorem order_loop (nv : SV) : ∀ (m fuel : Nat) (p q : List Nat) (d : Dk), p.length = m → m < fuel → p.length ≤ 100 → q.length + p.length ≤ 100 → ∃ (r : List Nat) (d' : Dk), List.Perm r p ∧
    whL wt0__law_order wb1__law_order fuel [.own true (ob d), nv, .own false (.lst (dW p)), .own false (.lst (dW q))] = some (.nx [.own true (ob d'), nv, .own false (.lst []), .own false (.lst (dW (q ++ r)))])
  | 0, fuel, p, q, d, hm, hf, hp, hq => by
    obtain ⟨fuel, rfl⟩ := Nat.exists_eq_succ_of_ne_zero (Nat.ne_of_gt hf)
    have e := List.length_eq_zero_iff.mp hm
    subst e
    refine ⟨[], d, List.Perm.refl _, ?_⟩
    unfold whL wt0__law_order
    have := fNe_ln []
    simp only [dW, List.map_nil] at this
    simp [this, lim]
  | m + 1, fuel, p, q, d, hm, hf, hp, hq => by
    obtain ⟨fuel, rfl⟩ := Nat.exists_eq_succ_of_ne_zero (Nat.ne_of_gt (Nat.lt_of_le_of_lt (Nat.zero_le _) hf))
    have hpos : 0 < p.length := by omega
    have hlt := drN_lt d hpos (by omega)
    have e := draw_eq d (z := (p.length : Int)) (by omega) (by omega)
    have hl : (p.eraseIdx (drN d p.length)).length = m := by rw [List.length_eraseIdx_of_lt hlt]; omega
    obtain ⟨r, d', h1, h2⟩ := order_loop nv m fuel (p.eraseIdx (drN d p.length)) (q ++ [p[drN d p.length]]) (drD d p.length) hl (by omega) (by omega) (by rw [List.length_append, hl]; simp only [List.length_cons, List.length_nil]; omega)
    refine ⟨p[drN d p.length] :: r, d', (h1.cons _).trans (erase_perm p _ hlt), ?_⟩
    rw [List.append_assoc] at h2
    have hne : p.isEmpty = false := by
      cases p with
      | nil => cases hm
      | cons _ _ => rfl
    have hlim : q.length < lim := by unfold lim; omega
    have hlim2 : p.length ≤ lim := by unfold lim; omega
    unfold whL wt0__law_order wb1__law_order
    simp [fNe_ln, hne, e, hlim, hlim2, hlt, map_erase]
    unfold wt0__law_order wb1__law_order at h2
    simpa using h2
theorem order_eq (d : Dk) (n : Nat) (h : n ≤ 100) : ∃ (p : List Nat) (d' : Dk), List.Perm p (List.range n) ∧ sem__law_order [.own true (ob d), .val (.int n)] = some (.new (.lst (dW p)), [.own true (ob d'), .un]) := by
  obtain ⟨r, d', h1, h2⟩ := order_loop (.val (.int n)) n 100000 (List.range n) [] d List.length_range (by omega) (by rw [List.length_range]; exact h) (by rw [List.length_range]; simpa using h)
  refine ⟨r, d', h1, ?_⟩
  have hl : n ≤ lim := by unfold lim; omega
  have hl2 : (-1000000 : Int) ≤ n := by omega
  have hl3 : (n : Int) ≤ lim := by omega
  have h0 : 0 ≤ lim := by unfold lim; omega
  simp only [List.map_nil, dW, List.nil_append] at h2
  unfold sem__law_order mFn body__law_order
  simp [hl, hl2, hl3, h0, h2]
/-! ### the letters -/
def iw (inv : List Nat) (a : Nat) : Nat := inv.getD a 0
structure Let (inv : List Nat) : Prop where
  pos : 0 < inv.length
  len : inv.length ≤ 4
  I : Rd.Inv (iw inv) inv.length
/-- behind t turns: found is an involution, and what stands in none of the t pairs is its own inverse -/
structure Tn (p : List Nat) (t : Nat) (f : List Nat) : Prop where
  len : f.length = p.length
  I : Rd.Inv (iw f) p.length
  own : ∀ x, x < p.length → (∀ j, j < 2 * t → p.getD j 0 ≠ x) → iw f x = x
theorem getD_set {l : List Nat} {i j v : Nat} (h : i < l.length) : (l.set i v).getD j 0 = if i = j then v else l.getD j 0 := by
  rw [List.getD_eq_getElem?_getD, List.getElem?_set, List.getD_eq_getElem?_getD]
  by_cases e : i = j
  · rw [if_pos e, if_pos e, if_pos h]
    rfl
  · rw [if_neg e, if_neg e]
theorem Tn.keep {p f : List Nat} {t : Nat} (T : Tn p t f) : Tn p (t + 1) f := ⟨T.len, T.I, fun x hx h => T.own x hx fun j hj => h j (by omega)⟩
theorem Tn.swap {p f : List Nat} {t : Nat} (T : Tn p t f) (nd : p.Nodup) (hp : ∀ x ∈ p, x < p.length) (h : 2 * t + 1 < p.length) :
    Tn p (t + 1) ((f.set (p.getD (2 * t) 0) (p.getD (2 * t + 1) 0)).set (p.getD (2 * t + 1) 0) (p.getD (2 * t) 0)) := by
  have g : ∀ j, j < p.length → p.getD j 0 ∈ p := fun j hj => by
    rw [List.getD_eq_getElem?_getD, List.getElem?_eq_getElem hj]
    exact List.getElem_mem hj
  have inj : ∀ i j, i < p.length → j < p.length → p.getD i 0 = p.getD j 0 → i = j := fun i j hi hj e => by
    rw [List.getD_eq_getElem?_getD, List.getElem?_eq_getElem hi, List.getD_eq_getElem?_getD, List.getElem?_eq_getElem hj] at e
    exact (List.getElem_inj nd).mp e
  obtain ⟨a, ea⟩ : ∃ a, a = p.getD (2 * t) 0 := ⟨_, rfl⟩
  obtain ⟨b, eb⟩ : ∃ b, b = p.getD (2 * t + 1) 0 := ⟨_, rfl⟩
  rw [← ea, ← eb]
  have ha : a < p.length := by rw [ea]; exact hp _ (g _ (by omega))
  have hb : b < p.length := by rw [eb]; exact hp _ (g _ h)
  have hab : a ≠ b := fun e => by
    rw [ea, eb] at e
    have := inj _ _ (by omega) h e
    omega
  have fa : iw f a = a := T.own a ha fun j hj e => by
    rw [ea] at e
    have := inj _ _ (by omega) (by omega) e
    omega
  have fb : iw f b = b := T.own b hb fun j hj e => by
    rw [eb] at e
    have := inj _ _ (by omega) h e
    omega
  have val : ∀ x, iw ((f.set a b).set b a) x = if b = x then a else if a = x then b else iw f x := fun x => by
    show ((f.set a b).set b a).getD x 0 = _
    rw [getD_set (by rw [List.length_set, T.len]; exact hb), getD_set (by rw [T.len]; exact ha)]
    rfl
  have off : ∀ x, x < p.length → x ≠ a → x ≠ b → iw f x ≠ a ∧ iw f x ≠ b := fun x hx h1 h2 => ⟨fun e => h1 (by rw [← T.I.inv x hx, e, fa]), fun e => h2 (by rw [← T.I.inv x hx, e, fb])⟩
  refine ⟨by rw [List.length_set, List.length_set, T.len], ⟨fun x hx => ?_, fun x hx => ?_⟩, fun x hx hn => ?_⟩
  · rw [val]
    split
    · exact ha
    · split
      · exact hb
      · exact T.I.lt x hx
  · rw [val x]
    by_cases e1 : b = x
    · rw [if_pos e1, val a, if_neg (Ne.symm hab), if_pos rfl, e1]
    · rw [if_neg e1]
      by_cases e2 : a = x
      · rw [if_pos e2, val b, if_pos rfl, e2]
      · rw [if_neg e2]
        obtain ⟨o1, o2⟩ := off x hx (Ne.symm e2) (Ne.symm e1)
        rw [val, if_neg (Ne.symm o2), if_neg (Ne.symm o1), T.I.inv x hx]
  · have n1 := hn (2 * t) (by omega)
    have n2 := hn (2 * t + 1) (by omega)
    rw [← ea] at n1
    rw [← eb] at n2
    rw [val, if_neg n2, if_neg n1]
    exact T.own x hx fun j hj => hn j (by omega)
theorem Tn.start (p : List Nat) : Tn p 0 (List.range p.length) := by
  have v : ∀ x, x < p.length → iw (List.range p.length) x = x := fun x hx => by
    show (List.range p.length).getD x 0 = x
    rw [List.getD_eq_getElem?_getD, List.getElem?_range hx]
    rfl
  exact ⟨List.length_range, ⟨fun x hx => by rw [v x hx]; exact hx, fun x hx => by rw [v x hx, v x hx]⟩, fun x hx _ => v x hx⟩
end K03
namespace K03
open PySem L2 Gx
theorem letters_turn {p f : List Nat} {a b t : Nat} {d : Dk} {nv e5 e6 : SV} (h5 : fr e5 = true) (h6 : fr e6 = true) (a1 : atI (dW p) (2 * (t : Int)) = some (dI a)) (a2 : atI (dW p) (2 * (t : Int) + 1) = some (dI b)) (ha : a < f.length) (hb : b < f.length) :
    lp0__law_letters [.own true (ob d), nv, .own false (.lst (dW p)), .own false (.lst (dW f)), .val (.int t), e5, e6] =
      some (.nx [.own true (ob (drD d 3)), nv, .own false (.lst (dW p)), .own false (.lst (dW (if 0 < drN d 3 then (f.set a b).set b a else f))), .val (.int t), .val (dI a), .val (dI b)]) := by
  have ed := draw_eq d (z := 3) (by decide) (by decide)
  have k1 : ∀ i : Int, cMul 2 i = true := fun i => cMul_ok1 (by decide)
  have i1 := ixN_ok ha
  have i2 := ixN_ok hb
  unfold lp0__law_letters
  by_cases hd : 0 < drN d 3
  · simp [a1, a2, ed, k1, hd, h5, h6, i1, i2]
  · simp [a1, a2, ed, k1, hd, h5, h6]
theorem letters_loop (p : List Nat) (nd : p.Nodup) (hp : ∀ x ∈ p, x < p.length) (hl : p.length ≤ 4) (nv : SV) : ∀ (m t : Nat) (f : List Nat) (d : Dk) (e4 e5 e6 : SV), t + m = p.length / 2 → Tn p t f → fr e4 = true → fr e5 = true → fr e6 = true →
    ∃ (f' : List Nat) (d' : Dk) (g4 g5 g6 : SV), Tn p (t + m) f' ∧
      forL (gNm 4) lp0__law_letters ((List.range' t m).map fun (i : Nat) => .int i) [.own true (ob d), nv, .own false (.lst (dW p)), .own false (.lst (dW f)), e4, e5, e6] = some (.nx [.own true (ob d'), nv, .own false (.lst (dW p)), .own false (.lst (dW f')), g4, g5, g6])
  | 0, t, f, d, e4, e5, e6, hm, T, h4, h5, h6 => ⟨f, d, e4, e5, e6, T, rfl⟩
  | m + 1, t, f, d, e4, e5, e6, hm, T, h4, h5, h6 => by
    have h1 : 2 * t + 1 < p.length := by omega
    have a1 := atI_dW (w := p) (i := 2 * t) (by omega)
    have a2 := atI_dW (w := p) (i := 2 * t + 1) h1
    simp only [Int.natCast_add, Int.natCast_mul, Int.cast_ofNat_Int] at a1 a2
    have g : ∀ j, j < p.length → p.getD j 0 < f.length := fun j hj => by
      rw [T.len, List.getD_eq_getElem?_getD, List.getElem?_eq_getElem hj]
      exact hp _ (List.getElem_mem hj)
    have st := letters_turn (d := d) (nv := nv) h5 h6 a1 a2 (g _ (by omega)) (g _ h1)
    have T' : Tn p (t + 1) (if 0 < drN d 3 then (f.set (p.getD (2 * t) 0) (p.getD (2 * t + 1) 0)).set (p.getD (2 * t + 1) 0) (p.getD (2 * t) 0) else f) := by
      split
      · exact T.swap nd hp h1
      · exact T.keep
    obtain ⟨f', d', g4, g5, g6, h2, h3⟩ := letters_loop p nd hp hl nv m (t + 1) _ (drD d 3) (.val (.int t)) (.val (dI (p.getD (2 * t) 0))) (.val (dI (p.getD (2 * t + 1) 0))) (by omega) T' rfl rfl rfl
    refine ⟨f', d', g4, g5, g6, by rw [show t + (m + 1) = t + 1 + m by omega]; exact h2, ?_⟩
    rw [List.range'_succ, List.map_cons, forL_cons, gNm_c]
    unfold setS
    simp only [free_eq, List.getElem?_cons_succ, List.getElem?_cons_zero, frO_some, h4, if_true, Option.bind_some, toSV, List.set_cons_succ, List.set_cons_zero, st]
    exact h3
theorem letters_eq (d : Dk) : ∃ (inv : List Nat) (d' : Dk), Let inv ∧ sem__law_letters [.own true (ob d), .val (.list [dI 2, dI 4, dI 3, dI 1])] = some (.val (.tuple (dW inv)), [.own true (ob d'), .un]) := by
  obtain ⟨x, d1, hx, h1⟩ := pick_eq d [dI 2, dI 4, dI 3, dI 1] (by simp) (by simp)
  obtain ⟨n, rfl, hn⟩ : ∃ n : Nat, x = dI n ∧ (1 ≤ n ∧ n ≤ 4) := by
    simp only [List.mem_cons, List.not_mem_nil, or_false] at hx
    rcases hx with rfl | rfl | rfl | rfl
    · exact ⟨2, rfl, by decide⟩
    · exact ⟨4, rfl, by decide⟩
    · exact ⟨3, rfl, by decide⟩
    · exact ⟨1, rfl, by decide⟩
  obtain ⟨p, d2, h2, h3⟩ := order_eq d1 n (by omega)
  have hl : p.length = n := by rw [h2.length_eq, List.length_range]
  have nd : p.Nodup := h2.nodup_iff.mpr List.nodup_range
  have hp : ∀ x ∈ p, x < p.length := fun x hx => by rw [hl]; exact List.mem_range.mp (h2.mem_iff.mp hx)
  obtain ⟨f, d3, g4, g5, g6, h4, h5⟩ := letters_loop p nd hp (by omega) (.val (.list [dI 2, dI 4, dI 3, dI 1])) (p.length / 2) 0 (List.range p.length) d2 .un .un .un (by omega) (Tn.start p) rfl rfl rfl
  refine ⟨f, d3, ⟨by rw [h4.len]; omega, by rw [h4.len]; omega, by rw [h4.len]; exact h4.I⟩, ?_⟩
  rw [List.range'_eq_map_range] at h5
  simp only [Nat.zero_add, List.map_id'] at h5
  have l1 : ∀ k : Nat, k ≤ 4 → k ≤ lim := fun k hk => by unfold lim; omega
  have l2 : p.length ≤ lim := l1 _ (by omega)
  have l3 : (-1000000 : Int) ≤ p.length := by omega
  have l4 : cDiv p.length 2 = true := cDiv_ok (by decide) (by decide)
  have l5 : ((p.length : Int) / 2).toNat = p.length / 2 := by omega
  have l6 : (p.length : Int) / 2 ≤ lim := by have := l1 4 (by decide); omega
  have l7 : (-1000000 : Int) ≤ (p.length : Int) / 2 := by omega
  unfold sem__law_letters mFn body__law_letters
  simp [h1, h3, l2, l3, l4, l5, l6, l7]
  rw [h5]
  simp
end K03
namespace K03
open PySem L2 Gx
theorem isint_eq (i : Int) : sem_is_integer [.val (.int i)] = some (.val (.bool true), [.un]) := by
  unfold sem_is_integer mFn body_is_integer
  simp
theorem between_eq (a lo hi : Int) : sem_is_between [.val (.int a), .val (.int lo), .val (.int hi)] = some (.val (.bool (decide (lo ≤ a) && decide (a ≤ hi))), [.un, .un, .un]) := by
  unfold sem_is_between mFn body_is_between
  by_cases h : lo ≤ a
  · simp [isint_eq, h]
  · simp [isint_eq, h]
abbrev tW (w : List Nat) : PyData := .tuple (dW w)
theorem word_eq (k : Nat) {w : List Nat} (hw : Rd.Wd k w) (hl : w.length ≤ 1000) : sem_is_word_over [.val (.int k), .val (tW w)] = some (.val (.bool true), [.un, .un]) := by
  have st : ∀ d ∈ dW w, turn (gNm 2) tYesM ce0_is_word_over [2] d [.val (.int k), .val (tW w), .un] = some (some (.bool true), [.val (.int k), .val (tW w), .un]) := fun d hd => by
    obtain ⟨a, ha, rfl⟩ := List.mem_map.mp hd
    have := hw a ha
    have h2 : (a : Int) ≤ k - 1 := by omega
    unfold turn ce0_is_word_over
    simp [between_eq, h2]
  obtain ⟨xs, b, c⟩ := comp_all st (by simp [lim_eq]; omega)
  unfold sem_is_word_over mFn body_is_word_over
  simp [c, b]
theorem letval_eq {inv : List Nat} (L : Let inv) : sem_is_letters_value [.val (tW inv)] = some (.val (.bool true), [.un]) := by
  have hl := L.len
  have st : ∀ d ∈ dW inv, turn (gNm 1) tYesM ce0_is_letters_value [1] d [.val (tW inv), .un] = some (some (.bool true), [.val (tW inv), .un]) := fun d hd => by
    obtain ⟨a, ha, rfl⟩ := List.mem_map.mp hd
    obtain ⟨i, hi, e⟩ := List.getElem_of_mem ha
    have h1 := L.I.lt i hi
    have e1 : iw inv i = a := by
      show inv.getD i 0 = a
      rw [List.getD_eq_getElem?_getD, List.getElem?_eq_getElem hi, ← e]
      rfl
    rw [e1] at h1
    have h2 : (a : Int) ≤ inv.length - 1 := by omega
    unfold turn ce0_is_letters_value
    simp [between_eq, h2]
  obtain ⟨xs, b, c⟩ := comp_all st (by simp [lim_eq]; omega)
  have st2 : ∀ d ∈ (List.range inv.length).map (fun (i : Nat) => PyData.int i), turn (gNm 1) tYesM ce1_is_letters_value [1] d [.val (tW inv), .un] = some (some (.bool true), [.val (tW inv), .un]) := fun d hd => by
    obtain ⟨i, hi, rfl⟩ := List.mem_map.mp hd
    have hi := List.mem_range.mp hi
    have e1 := atI_dW hi
    have e2 := atI_dW (L.I.lt i hi)
    have e3 := L.I.inv i hi
    have e4 : inv.getD i 0 = iw inv i := rfl
    have e5 : inv.getD (iw inv i) 0 = i := e3
    rw [e4] at e1
    rw [e5] at e2
    unfold turn ce1_is_letters_value
    simp [e1, e2]
  obtain ⟨ys, b2, c2⟩ := comp_all st2 (by simp [lim_eq]; omega)
  have hne : inv.isEmpty = false := by
    have := L.pos
    cases inv with
    | nil => cases this
    | cons _ _ => rfl
  have l1 : inv.length ≤ lim := by rw [lim_eq]; omega
  have l2 : (-1000000 : Int) ≤ inv.length := by omega
  unfold sem_is_letters_value mFn body_is_letters_value
  simp [c, b, b2, c2, fEq_tn, hne, l1, l2]

end K03
namespace K03
open PySem L2 Gx
section
variable {inv w : List Nat}
theorem needL_eq (L : Let inv) : sem_need_letters [.val (tW inv)] = some (.val .none, [.un]) := by
  unfold sem_need_letters mFn body_need_letters
  simp [letval_eq L]
theorem needW_eq (k : Nat) (hw : Rd.Wd k w) (hl : w.length ≤ 1000) : sem_need_word [.val (.int k), .val (tW w)] = some (.val .none, [.un, .un]) := by
  unfold sem_need_word mFn body_need_word
  simp [word_eq k hw hl]
theorem fIx_iw (L : Let inv) {a : Nat} (h : a < inv.length) : fIx (tW inv) (.int a) = some (.val (dI (iw inv a))) := by
  show (atI (dW inv) (a : Int)).bind _ = _
  rw [atI_dW h]
  rfl
/-- the letter ahead, whatever the environment around -/
theorem inverse_of_eq (L : Let inv) (hw : Rd.Wd inv.length w) (hl : w.length ≤ 1000) : sem_inverse_of [.val (tW inv), .val (tW w)] = some (.val (tW (Rd.opp (iw inv) w)), [.un, .un]) := by
  have st : ∀ d ∈ dW w.reverse, turn (gNm 2) tYesM ce0_inverse_of [2] d [.val (tW inv), .val (tW w), .un] = some (some (match d with | .int i => dI (iw inv i.toNat) | d => d), [.val (tW inv), .val (tW w), .un]) := fun d hd => by
    obtain ⟨a, ha, rfl⟩ := List.mem_map.mp hd
    have e1 := atI_dW (hw a (List.mem_reverse.mp ha))
    have e2 : inv.getD a 0 = iw inv a := rfl
    rw [e2] at e1
    unfold turn ce0_inverse_of
    simp [e1]
  have c := compL_map (acc := []) _ st (by simp [lim_eq]; omega)
  have e : [] ++ (dW w.reverse).map (fun d => match d with | .int i => dI (iw inv i.toNat) | d => d) = dW (Rd.opp (iw inv) w) := by
    unfold Rd.opp
    simp [dW, Function.comp_def]
  rw [e] at c
  have e2 : (dW w).reverse = dW w.reverse := by simp [dW]
  unfold sem_inverse_of mFn body_inverse_of
  rw [← e2] at c
  simp [c]
theorem law_inverse_eq (L : Let inv) (hw : Rd.Wd inv.length w) (hl : w.length ≤ 1000) : sem__law_inverse [.val (tW inv), .val (tW w)] = some (.val (tW (Rd.opp (iw inv) w)), [.un, .un]) := by
  have st : ∀ d ∈ dW w.reverse, turn (gNm 2) tYesM ce0__law_inverse [2] d [.val (tW inv), .val (tW w), .un] = some (some (match d with | .int i => dI (iw inv i.toNat) | d => d), [.val (tW inv), .val (tW w), .un]) := fun d hd => by
    obtain ⟨a, ha, rfl⟩ := List.mem_map.mp hd
    have e1 := atI_dW (hw a (List.mem_reverse.mp ha))
    have e2 : inv.getD a 0 = iw inv a := rfl
    rw [e2] at e1
    unfold turn ce0__law_inverse
    simp [e1]
  have c := compL_map (acc := []) _ st (by simp [lim_eq]; omega)
  have e : [] ++ (dW w.reverse).map (fun d => match d with | .int i => dI (iw inv i.toNat) | d => d) = dW (Rd.opp (iw inv) w) := by
    unfold Rd.opp
    simp [dW, Function.comp_def]
  rw [e] at c
  have e2 : (dW w).reverse = dW w.reverse := by simp [dW]
  unfold sem__law_inverse mFn body__law_inverse
  rw [← e2] at c
  simp [c]
/-- a turn of the loop that cancels -/
theorem red_turn (lp : MS) (hlp : lp = sIf (mAnd (mB (mOp2 fNe (mVar 2) (mLst aNil))) (mB (mOp2 fEq (mOp2 fIx (mVar 0) (mOp2 fIx (mVar 2) (mOp1 fNeg (mC (.int 1))))) (mVar 3)))) (sExpr (mPop 2)) (sExpr (mAppend 2 (mVar 3))))
    {s : List Nat} {a : Nat} {wv : SV} (hs : Rd.Wd inv.length s) (hl : s.length < 100000) :
    lp [.val (tW inv), wv, .own false (.lst (dW s.reverse)), .val (dI a)] = some (.nx [.val (tW inv), wv, .own false (.lst (dW (Rd.step (iw inv) s a).reverse)), .val (dI a)]) := by
  have l1 : s.length < lim := by rw [lim_eq]; omega
  subst hlp
  cases s with
  | nil =>
    have := fNe_ln []
    simp only [dW, List.map_nil, List.isEmpty_nil] at this
    simp [this, Rd.step, lim_eq]
  | cons t s' =>
    have h1 := fNe_ln (s'.reverse ++ [t])
    have h2 : (s'.reverse ++ [t]).isEmpty = false := by simp
    have h3 := atI_last (w := s'.reverse) (a := t)
    have h4 := atI_dW (hs t (List.mem_cons_self ..))
    have h5 : inv.getD t 0 = iw inv t := rfl
    rw [h5] at h4
    have e0 : dW (t :: s').reverse = dW (s'.reverse ++ [t]) := by rw [List.reverse_cons]
    rw [e0]
    by_cases e : iw inv t = a
    · have e3 : Rd.step (iw inv) (t :: s') a = s' := by unfold Rd.step; simp only [e, if_true]
      rw [e3]
      have e4 : (dW (s'.reverse ++ [t]))[(dW (s'.reverse ++ [t])).length - 1]? = some (dI t) := by simp [dW]
      have e5 : (dW (s'.reverse ++ [t])).dropLast = dW s'.reverse := by simp [dW]
      generalize dW (s'.reverse ++ [t]) = X at *
      simp [h1, h2, h3, h4, e, e4, e5]
    · have e3 : Rd.step (iw inv) (t :: s') a = a :: t :: s' := by unfold Rd.step; simp only [e, if_false]
      have e4 : dW (s'.reverse ++ [t]) ++ [dI a] = dW (a :: t :: s').reverse := by simp [dW]
      have e5 : (dW (s'.reverse ++ [t])).length < lim := by simp [dW]; simpa using l1
      have e6 : ¬ ((iw inv t : Int) = a) := by omega
      rw [e3, ← e4]
      generalize dW (s'.reverse ++ [t]) = X at *
      simp [h1, h2, h3, h4, e6, e5]
theorem red_loop (lp : MS) (hlp : lp = sIf (mAnd (mB (mOp2 fNe (mVar 2) (mLst aNil))) (mB (mOp2 fEq (mOp2 fIx (mVar 0) (mOp2 fIx (mVar 2) (mOp1 fNeg (mC (.int 1))))) (mVar 3)))) (sExpr (mPop 2)) (sExpr (mAppend 2 (mVar 3))))
    {wv : SV} : ∀ {w s : List Nat} {e3 : SV}, fr e3 = true → Rd.Wd inv.length s → Rd.Wd inv.length w → s.length + w.length < 100000 →
    ∃ g3, forL (gNm 3) lp (dW w) [.val (tW inv), wv, .own false (.lst (dW s.reverse)), e3] = some (.nx [.val (tW inv), wv, .own false (.lst (dW (Rd.run (iw inv) s w).reverse)), g3])
  | [], s, e3, h3, hs, hw, hl => ⟨e3, rfl⟩
  | a :: w, s, e3, h3, hs, hw, hl => by
    simp only [List.length_cons] at hl
    have st := red_turn lp hlp (wv := wv) (a := a) hs (by omega)
    have hn := Rd.step_len (iv := iw inv) (s := s) (a := a)
    obtain ⟨g3, h⟩ := red_loop lp hlp (wv := wv) (e3 := .val (dI a)) rfl (hs.step (iv := iw inv) hw.head) hw.tail (by omega)
    refine ⟨g3, ?_⟩
    rw [Rd.run_cons, ← h]
    show forL (gNm 3) lp (dI a :: dW w) _ = _
    rw [forL_cons, gNm_c]
    unfold setS
    simp only [free_eq, List.getElem?_cons_succ, List.getElem?_cons_zero, frO_some, h3, if_true, Option.bind_some, toSV, List.set_cons_succ, List.set_cons_zero, st]
theorem reduced_of_eq (L : Let inv) (hw : Rd.Wd inv.length w) (hl : w.length ≤ 1000) : sem_reduced_of [.val (tW inv), .val (tW w)] = some (.val (tW (Rd.red (iw inv) w)), [.un, .un]) := by
  obtain ⟨g, h⟩ := red_loop (inv := inv) lp0_reduced_of rfl (wv := .val (tW w)) (w := w) (s := []) (e3 := .un) rfl Rd.Wd.nil hw (by simp; omega)
  simp only [List.reverse_nil, dW, List.map_nil] at h
  unfold sem_reduced_of mFn body_reduced_of
  simp [h, Rd.red]
theorem law_reduced_eq (L : Let inv) (hw : Rd.Wd inv.length w) (hl : w.length ≤ 1000) : sem__law_reduced [.val (tW inv), .val (tW w)] = some (.val (tW (Rd.red (iw inv) w)), [.un, .un]) := by
  obtain ⟨g, h⟩ := red_loop (inv := inv) lp0__law_reduced rfl (wv := .val (tW w)) (w := w) (s := []) (e3 := .un) rfl Rd.Wd.nil hw (by simp; omega)
  simp only [List.reverse_nil, dW, List.map_nil] at h
  unfold sem__law_reduced mFn body__law_reduced
  simp [h, Rd.red]
theorem inverse_eq (L : Let inv) (hw : Rd.Wd inv.length w) (hl : w.length ≤ 1000) : sem_inverse [.val (tW inv), .val (tW w)] = some (.val (tW (Rd.opp (iw inv) w)), [.un, .un]) := by
  have n := needW_eq inv.length hw hl
  unfold sem_inverse mFn body_inverse
  simp [needL_eq L, n, inverse_of_eq L hw hl]
theorem reduced_eq (L : Let inv) (hw : Rd.Wd inv.length w) (hl : w.length ≤ 1000) : sem_reduced [.val (tW inv), .val (tW w)] = some (.val (tW (Rd.red (iw inv) w)), [.un, .un]) := by
  have n := needW_eq inv.length hw hl
  unfold sem_reduced mFn body_reduced
  simp [needL_eq L, n, reduced_of_eq L hw hl]
end
end K03
namespace K03
open PySem L2 Gx
section
variable {inv w : List Nat}
def keepF (t : Nat) : PyData → Option PyData
  | .int i => if i = t then none else some (.int i)
  | d => some d
/-- the letters that may stand behind f -/
theorem free_comp (L : Let inv) (d : Dk) (f : List Nat) (hf : Rd.Wd inv.length f) (nv x4 e5 : SV) : ∃ ys : List Nat, (∀ a ∈ ys, a < inv.length ∧ (Rd.Rw (iw inv) f → Rd.Rw (iw inv) (f ++ [a]))) ∧ ys.length ≤ 4 ∧
    compL (gNm 6) ct0__law_free (mVar 6) [6] ((List.range inv.length).map fun (i : Nat) => PyData.int i) [.own true (ob d), .val (tW inv), nv, .own false (.lst (dW f)), x4, e5, .un] [] =
      some (dW ys, [.own true (ob d), .val (tW inv), nv, .own false (.lst (dW f)), x4, e5, .un]) := by
  have hl := L.len
  rcases List.eq_nil_or_concat f with rfl | ⟨f', t, rfl⟩
  · have st : ∀ y ∈ (List.range inv.length).map (fun (i : Nat) => PyData.int i), turn (gNm 6) ct0__law_free (mVar 6) [6] y [.own true (ob d), .val (tW inv), nv, .own false (.lst (dW [])), x4, e5, .un] = some (some y, [.own true (ob d), .val (tW inv), nv, .own false (.lst (dW [])), x4, e5, .un]) := fun y hy => by
      obtain ⟨i, hi, rfl⟩ := List.mem_map.mp hy
      have := fEq_ln []
      simp only [dW, List.map_nil, List.isEmpty_nil] at this
      unfold turn ct0__law_free
      simp [this]
    have c := compL_map (acc := []) id st (by simp [lim_eq]; omega)
    refine ⟨List.range inv.length, fun a ha => ⟨List.mem_range.mp ha, fun _ => ⟨fun b r e => (by cases e), trivial⟩⟩, by rw [List.length_range]; exact hl, ?_⟩
    rw [c]
    simp [dW]
  · rw [List.concat_eq_append] at *
    have h1 := fEq_ln (f' ++ [t])
    have h2 : (f' ++ [t]).isEmpty = false := by simp
    have h3 := atI_last (w := f') (a := t)
    have h4 := atI_dW (hf t (by simp))
    have h5 : inv.getD t 0 = iw inv t := rfl
    rw [h5] at h4
    have st : ∀ y ∈ (List.range inv.length).map (fun (i : Nat) => PyData.int i), turn (gNm 6) ct0__law_free (mVar 6) [6] y [.own true (ob d), .val (tW inv), nv, .own false (.lst (dW (f' ++ [t]))), x4, e5, .un] =
        some (keepF (iw inv t) y, [.own true (ob d), .val (tW inv), nv, .own false (.lst (dW (f' ++ [t]))), x4, e5, .un]) := fun y hy => by
      obtain ⟨i, hi, rfl⟩ := List.mem_map.mp hy
      generalize dW (f' ++ [t]) = X at *
      unfold turn ct0__law_free
      by_cases e : iw inv t = i
      · subst e
        simp [h1, h2, h3, h4, keepF]
      · have e1 : ¬ ((iw inv t : Int) = i) := by omega
        have e2 : ¬ ((i : Int) = iw inv t) := by omega
        simp [h1, h2, h3, h4, e1, e2, keepF]
    have c := compL_fm (acc := []) (keepF (iw inv t)) st (by simp [lim_eq]; omega)
    obtain ⟨ys, e1, hy⟩ := as_dW (P := fun a => a < inv.length ∧ (Rd.Rw (iw inv) (f' ++ [t]) → Rd.Rw (iw inv) (f' ++ [t] ++ [a]))) (xs := ((List.range inv.length).map fun (i : Nat) => PyData.int i).filterMap (keepF (iw inv t))) fun x hx => by
      obtain ⟨y, h6, h7⟩ := List.mem_filterMap.mp hx
      obtain ⟨i, hi, rfl⟩ := List.mem_map.mp h6
      unfold keepF at h7
      simp only at h7
      split at h7
      · cases h7
      · rename_i ne
        cases h7
        refine ⟨i, rfl, List.mem_range.mp hi, fun hr => ?_⟩
        unfold Rd.Rw at hr ⊢
        rw [List.reverse_append]
        refine ⟨fun b r e => ?_, hr⟩
        rw [List.reverse_append] at e
        have : t = b := (List.cons.inj e).1
        intro z
        exact ne (by rw [this, z])
    refine ⟨ys, hy, ?_, ?_⟩
    · have := List.length_filterMap_le (keepF (iw inv t)) ((List.range inv.length).map fun (i : Nat) => PyData.int i)
      rw [e1] at this
      simp [dW] at this
      omega
    · rw [c, e1]
      rfl

/-- what the loop of _law_free keeps -/
def FreeI (inv : List Nat) (nv : SV) (j : Nat) (e : Lo) : Prop := ∃ (f : List Nat) (d : Dk) (x4 e5 : SV), Rd.Rw (iw inv) f ∧ Rd.Wd inv.length f ∧ f.length ≤ j ∧ fr x4 = true ∧ fr e5 = true ∧
  e = [.own true (ob d), .val (tW inv), nv, .own false (.lst (dW f)), x4, e5, .un]
theorem free_turn (L : Let inv) (nv : SV) (d : Dk) (f : List Nat) (x4 e5 : SV) (hr : Rd.Rw (iw inv) f) (hf : Rd.Wd inv.length f) (hl : f.length ≤ 1000) (h5 : fr e5 = true) :
    (∃ e5', fr e5' = true ∧ lp1__law_free [.own true (ob d), .val (tW inv), nv, .own false (.lst (dW f)), x4, e5, .un] = some (.bk [.own true (ob d), .val (tW inv), nv, .own false (.lst (dW f)), x4, e5', .un])) ∨
    ∃ a d' e5', a < inv.length ∧ Rd.Rw (iw inv) (f ++ [a]) ∧ fr e5' = true ∧ lp1__law_free [.own true (ob d), .val (tW inv), nv, .own false (.lst (dW f)), x4, e5, .un] = some (.nx [.own true (ob d'), .val (tW inv), nv, .own false (.lst (dW (f ++ [a]))), x4, e5', .un]) := by
  obtain ⟨ys, hy, hyl, c⟩ := free_comp L d f hf nv x4 e5
  have ll := L.len
  have l1 : inv.length ≤ lim := by rw [lim_eq]; omega
  have l2 : (-1000000 : Int) ≤ inv.length := by omega
  have l3 : f.length < lim := by rw [lim_eq]; omega
  have h1 := fEq_ln ys
  cases hys : ys with
  | nil =>
    subst hys
    simp only [dW, List.map_nil, List.isEmpty_nil] at h1
    refine .inl ⟨.own false (.lst []), rfl, ?_⟩
    unfold lp1__law_free
    simp [l1, l2, c, h5, h1]
  | cons y0 yr =>
    have hne : dW ys ≠ [] := by rw [hys]; simp [dW]
    have hne2 : ys.isEmpty = false := by rw [hys]; rfl
    obtain ⟨x, d', hx, hp⟩ := pick_eq d (dW ys) hne (by simp [dW]; omega)
    obtain ⟨a, ha, rfl⟩ := List.mem_map.mp hx
    obtain ⟨q1, q2⟩ := hy a ha
    refine .inr ⟨a, d', .val (.list (dW ys)), q1, q2 hr, rfl, ?_⟩
    unfold lp1__law_free
    generalize dW ys = Y at *
    simp [l1, l2, c, h5, h1, hne2, hp, l3]
theorem free_eq (L : Let inv) (d : Dk) (most : Nat) (hm : most ≤ 24) : ∃ (w : List Nat) (d' : Dk), Rd.Rw (iw inv) w ∧ Rd.Wd inv.length w ∧ w.length ≤ most ∧ sem__law_free [.own true (ob d), .val (tW inv), .val (.int most)] = some (.val (tW w), [.own true (ob d'), .un, .un]) := by
  have e := draw_eq d (z := (most : Int) + 1) (by omega) (by omega)
  have ez : ((most : Int) + 1).toNat = most + 1 := by omega
  rw [ez] at e
  have hlt := drN_lt d (n := most + 1) (by omega) (by omega)
  obtain ⟨n, hn⟩ : ∃ n, n = drN d (most + 1) := ⟨_, rfl⟩
  rw [← hn] at e hlt
  have st := forL_ex (g := gNm 4) (b := lp1__law_free) (I := FreeI inv (.val (.int most))) (B := fun e => ∃ j, j ≤ most ∧ FreeI inv (.val (.int most)) j e) (ds := (List.range n).map fun (i : Nat) => PyData.int i) (i := 0)
    (e := [.own true (ob (drD d (most + 1))), .val (tW inv), .val (.int most), .own false (.lst (dW [])), .un, .un, .un])
    ⟨[], _, .un, .un, trivial, Rd.Wd.nil, Nat.le_refl _, rfl, rfl, rfl⟩ fun j y e' hy hj hjl ⟨f, d2, x4, e5, h1, h2, h3, h4, h5, h6⟩ => by
      subst h6
      have hjl' : j < n := by simpa using hjl
      rcases free_turn L (.val (.int most)) d2 f (.val y) e5 h1 h2 (by omega) h5 with ⟨e5', k1, k2⟩ | ⟨a, d3, e5', k1, k2, k3, k4⟩
      · exact ⟨_, _, by simp [h4], k2, f.length, by omega, f, d2, .val y, e5', h1, h2, Nat.le_refl _, rfl, k1, rfl⟩
      · exact ⟨_, _, by simp [h4], k4, f ++ [a], d3, .val y, e5', k2, h2.app (.cons k1 .nil), by rw [List.length_append]; simp; omega, rfl, k3, rfl⟩
  obtain ⟨e', h1, h2⟩ := st
  have fin : ∃ (f : List Nat) (d2 : Dk) (x4 e5 : SV), Rd.Rw (iw inv) f ∧ Rd.Wd inv.length f ∧ f.length ≤ most ∧ e' = [.own true (ob d2), .val (tW inv), .val (.int most), .own false (.lst (dW f)), x4, e5, .un] := by
    rcases h2 with ⟨f, d2, x4, e5, k1, k2, k3, k4, k5, k6⟩ | ⟨j, hj, f, d2, x4, e5, k1, k2, k3, k4, k5, k6⟩
    · exact ⟨f, d2, x4, e5, k1, k2, by simp at k3; omega, k6⟩
    · exact ⟨f, d2, x4, e5, k1, k2, by omega, k6⟩
  obtain ⟨f, d2, x4, e5, k1, k2, k3, rfl⟩ := fin
  refine ⟨f, d2, k1, k2, k3, ?_⟩
  have l1 : n ≤ lim := by rw [lim_eq]; omega
  have l2 : (-1000000 : Int) ≤ n := by omega
  simp only [dW, List.map_nil] at h1
  unfold sem__law_free mFn body__law_free
  simp [e, l1, l2, h1]
end
end K03
namespace K03
open PySem L2 Gx
section
variable {inv w : List Nat}
def FillI (inv : List Nat) (c : List Nat) (n : Nat) (mv : SV) (j : Nat) (e : Lo) : Prop := ∃ (w : List Nat) (d : Dk) (x4 x5 x6 : SV), Rd.Wd inv.length w ∧ Rd.red (iw inv) w = c ∧ w.length ≤ n + 2 * j ∧ fr x4 = true ∧ fr x5 = true ∧ fr x6 = true ∧
  e = [.own true (ob d), .val (tW inv), .val (tW w), mv, x4, x5, x6]
theorem fAdd_ii (i j : Int) : fAdd (.int i) (.int j) = some (.val (.int (i + j))) := rfl
theorem fAdd_ww {u v : List Nat} (h : u.length + v.length ≤ 5000) : fAdd (.tuple (dW u)) (.tuple (dW v)) = some (.val (tW (u ++ v))) := by
  simp only [fAdd, dW, List.length_map]
  rw [if_pos (by rw [lim_eq]; omega)]
  simp
theorem fill_turn (L : Let inv) (mv : SV) (d : Dk) (w : List Nat) (x4 x5 x6 : SV) (hw : Rd.Wd inv.length w) (hl : w.length ≤ 1000) (h5 : fr x5 = true) (h6 : fr x6 = true) :
    ∃ w' d' y5 y6, Rd.Wd inv.length w' ∧ Rd.red (iw inv) w' = Rd.red (iw inv) w ∧ w'.length = w.length + 2 ∧ lp0__law_filled [.own true (ob d), .val (tW inv), .val (tW w), mv, x4, x5, x6] = some (.nx [.own true (ob d'), .val (tW inv), .val (tW w'), mv, x4, .val y5, .val y6]) := by
  have ll := L.len
  have lp := L.pos
  have e1 := draw_eq d (z := (w.length : Int) + 1) (by omega) (by omega)
  have ez : ((w.length : Int) + 1).toNat = w.length + 1 := by omega
  rw [ez] at e1
  have h1 := drN_lt d (n := w.length + 1) (by omega) (by omega)
  obtain ⟨i, hi⟩ : ∃ i, i = drN d (w.length + 1) := ⟨_, rfl⟩
  rw [← hi] at e1 h1
  obtain ⟨d1, hd1⟩ : ∃ d1, d1 = drD d (w.length + 1) := ⟨_, rfl⟩
  rw [← hd1] at e1
  have e2 := draw_eq d1 (z := (inv.length : Int)) (by omega) (by omega)
  have h2 := drN_lt d1 (n := inv.length) (by omega) (by omega)
  rw [Int.toNat_natCast] at e2
  obtain ⟨a, ha⟩ : ∃ a, a = drN d1 inv.length := ⟨_, rfl⟩
  rw [← ha] at e2 h2
  have f1 : atI (dW inv) (a : Int) = some (dI (iw inv a)) := atI_dW h2
  have l1 : w.length ≤ 1000 := hl
  have c1 := cut_to (w := w) (i := i)
  have c2 := cut_from (w := w) (i := i)
  refine ⟨w.take i ++ a :: iw inv a :: w.drop i, drD d1 inv.length, dI i, dI a, (hw.take i).app (.cons h2 (.cons (L.I.lt a h2) (hw.drop i))), ?_, ?_, ?_⟩
  · rw [Rd.red_pair L.I (hw.take i) h2, List.take_append_drop]
  · rw [List.length_append, List.length_take, List.length_cons, List.length_cons, List.length_drop]
    omega
  · have l2 : (w.take i).length ≤ w.length := by rw [List.length_take]; omega
    have l3 : (w.drop i).length ≤ w.length := by rw [List.length_drop]; omega
    have a1 := fAdd_ww (u := w.take i) (v := [a, iw inv a]) (by simp only [List.length_cons, List.length_nil]; omega)
    have a2 := fAdd_ww (u := w.take i ++ [a, iw inv a]) (v := w.drop i) (by rw [List.length_append]; simp only [List.length_cons, List.length_nil]; omega)
    rw [List.append_assoc] at a2
    generalize dW (w.take i) = A at *
    generalize dW (w.drop i) = B at *
    simp only [dW, List.map_cons, List.map_nil] at a1
    unfold lp0__law_filled
    simp [-fAdd, fAdd_ii, e1, e2, h5, h6, c1, c2, f1, a1, a2, lim_eq]
theorem filled_eq (L : Let inv) (d : Dk) (most : Nat) (hm : most ≤ 24) (hw : Rd.Wd inv.length w) (hl : w.length ≤ most) : ∃ (w' : List Nat) (d' : Dk), Rd.Wd inv.length w' ∧ Rd.red (iw inv) w' = Rd.red (iw inv) w ∧ w'.length ≤ most ∧
    sem__law_filled [.own true (ob d), .val (tW inv), .val (tW w), .val (.int most)] = some (.val (tW w'), [.own true (ob d'), .un, .un, .un]) := by
  have ez1 : (if w.length < most then (most : Int) - w.length else 0) = ((most - w.length : Nat) : Int) := by split <;> omega
  obtain ⟨q, hq⟩ : ∃ q : Nat, q = (most - w.length) / 2 := ⟨_, rfl⟩
  have ez2 : ((most - w.length : Nat) : Int) / 2 = (q : Int) := by omega
  have e := draw_eq d (z := (q : Int) + 1) (by omega) (by omega)
  have ez : ((q : Int) + 1).toNat = q + 1 := by omega
  rw [ez] at e
  have hlt := drN_lt d (n := q + 1) (by omega) (by omega)
  obtain ⟨n, hn⟩ : ∃ n, n = drN d (q + 1) := ⟨_, rfl⟩
  rw [← hn] at e hlt
  obtain ⟨e', h1, h2⟩ := forL_ex (g := gNm 4) (b := lp0__law_filled) (I := FillI inv (Rd.red (iw inv) w) w.length (.val (.int most))) (B := fun _ => False) (ds := (List.range n).map fun (i : Nat) => PyData.int i) (i := 0)
    (e := [.own true (ob (drD d (q + 1))), .val (tW inv), .val (tW w), .val (.int most), .un, .un, .un])
    ⟨w, _, .un, .un, .un, hw, rfl, by omega, rfl, rfl, rfl, rfl⟩ fun j y e' hy hj hjl ⟨u, d2, x4, x5, x6, k1, k2, k3, k4, k5, k6, k7⟩ => by
      subst k7
      have hjl' : j < n := by simpa using hjl
      obtain ⟨u', d3, y5, y6, q1, q2, q3, q4⟩ := fill_turn L (.val (.int most)) d2 u (.val y) x5 x6 k1 (by omega) k5 k6
      exact ⟨_, _, by simp [k4], q4, u', d3, .val y, .val y5, .val y6, q1, by rw [q2, k2], by omega, rfl, rfl, rfl, rfl⟩
  rcases h2 with ⟨u, d2, x4, x5, x6, k1, k2, k3, k4, k5, k6, rfl⟩ | h2
  · refine ⟨u, d2, k1, k2, ?_, ?_⟩
    · simp at k3
      omega
    · have l1 : n ≤ lim := by rw [lim_eq]; omega
      have l2 : (-1000000 : Int) ≤ n := by omega
      have l4 : cDiv ((most - w.length : Nat) : Int) 2 = true := cDiv_ok (by decide) (by decide)
      unfold sem__law_filled mFn body__law_filled
      simp [ez1, l4, ez2, e, l1, l2, h1]
  · exact h2.elim

/-- the places where two neighbours cancel -/
def Spot (inv w : List Nat) (i : Nat) : Prop := ∃ u a v, a < inv.length ∧ w = u ++ a :: iw inv a :: v ∧ u.length = i
def spotF (inv : List Nat) : PyData → Option PyData
  | .tuple [.int i, .tuple [.int x, .int y]] => if (iw inv x.toNat : Int) = y then some (.int i) else none
  | d => some d
theorem spots_eq (L : Let inv) (hw : Rd.Wd inv.length w) (hl : w.length ≤ 1000) : ∃ ys : List Nat, (∀ i ∈ ys, Spot inv w i) ∧ ys.length ≤ 1000 ∧ sem__law_spots [.val (tW inv), .val (tW w)] = some (.new (.lst (dW ys)), [.un, .un]) := by
  have hz : ∀ y ∈ enumD (zipD (dW w) (dW (w.drop 1))), ∃ i x z, y = .tuple [.int (i : Nat), .tuple [dI x, dI z]] ∧ w[i]? = some x ∧ w[i + 1]? = some z := fun y hy => by
    obtain ⟨i, hi, e⟩ := List.getElem_of_mem hy
    have hg : (enumD (zipD (dW w) (dW (w.drop 1))))[i]? = some y := by rw [List.getElem?_eq_getElem hi, e]
    unfold enumD zipD at hg
    rw [List.getElem?_mapIdx, List.getElem?_map] at hg
    obtain ⟨p0, h1, rfl⟩ := Option.map_eq_some_iff.mp hg
    obtain ⟨⟨p1, p2⟩, h2, rfl⟩ := Option.map_eq_some_iff.mp h1
    obtain ⟨h3, h4⟩ := List.getElem?_zip_eq_some.mp h2
    unfold dW at h3 h4
    rw [List.getElem?_map] at h3 h4
    obtain ⟨x, h5, rfl⟩ := Option.map_eq_some_iff.mp h3
    obtain ⟨z, h6, rfl⟩ := Option.map_eq_some_iff.mp h4
    rw [List.getElem?_drop] at h6
    exact ⟨i, x, z, rfl, h5, by rw [Nat.add_comm]; exact h6⟩
  have hzl : (enumD (zipD (dW w) (dW (w.drop 1)))).length ≤ 1000 := by
    simp [enumD, zipD, dW]
    omega
  obtain ⟨Z, hZ⟩ : ∃ Z, Z = enumD (zipD (dW w) (dW (w.drop 1))) := ⟨_, rfl⟩
  rw [← hZ] at hz hzl
  have st : ∀ y ∈ Z, turn (gTu 2 (gsCons (gNm 2) (gsCons (gNm 3) gsNil))) ct0__law_spots (mVar 2) [2, 3] y [.val (tW inv), .val (tW w), .un, .un] = some (spotF inv y, [.val (tW inv), .val (tW w), .un, .un]) := fun y hy => by
    obtain ⟨i, x, z, rfl, h1, h2⟩ := hz y hy
    have hx : x < inv.length := hw x (List.mem_of_getElem? h1)
    have f1 : atI (dW inv) (x : Int) = some (dI (iw inv x)) := atI_dW hx
    have g1 : atI [dI x, dI z] 0 = some (dI x) := rfl
    have g2 : atI [dI x, dI z] 1 = some (dI z) := rfl
    unfold turn ct0__law_spots
    by_cases e : iw inv x = z
    · subst e
      simp [f1, g1, g2, spotF]
    · have e1 : ¬ ((iw inv x : Int) = z) := by omega
      simp [f1, g1, g2, spotF, e1, e]
  have c := compL_fm (acc := []) (spotF inv) st (by simp [lim_eq]; omega)
  obtain ⟨ys, e1, hy⟩ := as_dW (P := Spot inv w) (xs := Z.filterMap (spotF inv)) fun x hx => by
    obtain ⟨y, h6, h7⟩ := List.mem_filterMap.mp hx
    obtain ⟨i, a, z, rfl, h1, h2⟩ := hz y h6
    unfold spotF at h7
    simp only [Int.toNat_natCast] at h7
    split at h7
    · rename_i ez
      cases h7
      have ez' : iw inv a = z := by omega
      obtain ⟨l1, l2⟩ := List.getElem?_eq_some_iff.mp h1
      obtain ⟨l3, l4⟩ := List.getElem?_eq_some_iff.mp h2
      refine ⟨i, rfl, w.take i, a, w.drop (i + 2), hw a (List.mem_of_getElem? h1), ?_, by rw [List.length_take]; omega⟩
      rw [ez', ← l2, ← l4]
      conv => lhs; rw [← List.take_append_drop i w]
      rw [List.drop_eq_getElem_cons l1, List.drop_eq_getElem_cons l3]
    · cases h7
  have hyl : ys.length ≤ 1000 := by
    have := List.length_filterMap_le (spotF inv) Z
    rw [e1] at this
    simp [dW] at this
    omega
  refine ⟨ys, hy, hyl, ?_⟩
  rw [List.nil_append, e1, hZ] at c
  have c1 := cut_from (w := w) (i := 1)
  simp only [Int.cast_ofNat_Int] at c1
  unfold sem__law_spots mFn body__law_spots
  generalize dW (w.drop 1) = B at *
  simp [-enumD, -zipD, c1, c]

/-- all the words have the reduced word c -/
def Ways (inv c : List Nat) (W : List (List Nat)) : Prop := ∀ w ∈ W, Rd.Wd inv.length w ∧ Rd.red (iw inv) w = c ∧ w.length ≤ 24
abbrev dWs (W : List (List Nat)) : List PyData := W.map tW
theorem spot_cut (L : Let inv) {i : Nat} (hw : Rd.Wd inv.length w) (h : Spot inv w i) : Rd.Wd inv.length (w.take i ++ w.drop (i + 2)) ∧ Rd.red (iw inv) (w.take i ++ w.drop (i + 2)) = Rd.red (iw inv) w ∧ (w.take i ++ w.drop (i + 2)).length ≤ w.length := by
  obtain ⟨u, a, v, ha, rfl, rfl⟩ := h
  have e1 : (u ++ a :: iw inv a :: v).take u.length = u := by simp
  have e2 : (u ++ a :: iw inv a :: v).drop (u.length + 2) = v := by
    simp [List.drop_append]
  rw [e1, e2]
  refine ⟨hw.left.app hw.right.tail.tail, (Rd.red_pair L.I hw.left ha).symm, ?_⟩
  simp
  omega
end
end K03
namespace K03
open PySem L2 Gx
section
variable {inv w : List Nat}
theorem spots_ne {ys : List Nat} {y0 : Nat} {yr : List Nat} (h : ys = y0 :: yr) : dW ys ≠ [] := by rw [h]; simp [dW]
/-- what is cut out at a spot -/
theorem cut_add {i : Nat} (hl : w.length ≤ 1000) : fAdd (.tuple (dW (w.take i))) (.tuple (dW (w.drop (i + 2)))) = some (.val (tW (w.take i ++ w.drop (i + 2)))) :=
  fAdd_ww (by rw [List.length_take, List.length_drop]; omega)
def CanI (inv c : List Nat) (j : Nat) (e : Lo) : Prop := ∃ (w : List Nat) (W : List (List Nat)) (d : Dk) (x4 x5 x6 : SV), Rd.Wd inv.length w ∧ Rd.red (iw inv) w = c ∧ w.length ≤ 24 ∧ Ways inv c W ∧ W.length ≤ j + 1 ∧ fr x4 = true ∧ fr x5 = true ∧ fr x6 = true ∧
  e = [.own true (ob d), .val (tW inv), .val (tW w), .own false (.lst (dWs W)), x4, x5, x6]
theorem can_turn (L : Let inv) (d : Dk) (W : List (List Nat)) (x4 x5 x6 : SV) (hw : Rd.Wd inv.length w) (hl : w.length ≤ 24) (hW : W.length ≤ 1000) (h5 : fr x5 = true) (h6 : fr x6 = true) :
    (∃ y5, fr y5 = true ∧ lp0__law_cancelled [.own true (ob d), .val (tW inv), .val (tW w), .own false (.lst (dWs W)), x4, x5, x6] = some (.bk [.own true (ob d), .val (tW inv), .val (tW w), .own false (.lst (dWs W)), x4, y5, x6])) ∨
    ∃ u d' y5 y6, fr y5 = true ∧ Rd.Wd inv.length u ∧ Rd.red (iw inv) u = Rd.red (iw inv) w ∧ u.length ≤ w.length ∧
      lp0__law_cancelled [.own true (ob d), .val (tW inv), .val (tW w), .own false (.lst (dWs W)), x4, x5, x6] = some (.nx [.own true (ob d'), .val (tW inv), .val (tW u), .own false (.lst (dWs (W ++ [u]))), x4, y5, .val y6]) := by
  obtain ⟨ys, hy, hyl, hs⟩ := spots_eq L hw (by omega)
  have l3 : W.length < lim := by rw [lim_eq]; omega
  have h1 := fEq_ln ys
  cases hys : ys with
  | nil =>
    subst hys
    simp only [dW, List.map_nil, List.isEmpty_nil] at h1 hs
    refine .inl ⟨.own false (.lst []), rfl, ?_⟩
    unfold lp0__law_cancelled
    simp [hs, h5, h1]
  | cons y0 yr =>
    have hne2 : ys.isEmpty = false := by rw [hys]; rfl
    obtain ⟨x, d', hx, hp⟩ := pick_eq d (dW ys) (spots_ne hys) (by simp [dW]; omega)
    obtain ⟨i, hi, rfl⟩ := List.mem_map.mp hx
    obtain ⟨q1, q2, q3⟩ := spot_cut L hw (hy i hi)
    have c1 := cut_to (w := w) (i := i)
    have c2 := cut_from (w := w) (i := i + 2)
    have ca := cut_add (w := w) (i := i) (by omega)
    refine .inr ⟨w.take i ++ w.drop (i + 2), d', .val (.list (dW ys)), dI i, rfl, q1, q2, q3, ?_⟩
    simp only [Int.natCast_add, Int.cast_ofNat_Int] at c2
    unfold lp0__law_cancelled
    generalize dW ys = Y at *
    generalize dW (w.take i) = A at *
    generalize dW (w.drop (i + 2)) = B at *
    simp [-fAdd, fAdd_ii, hs, h5, h6, h1, hne2, hp, c1, c2, ca, l3]

theorem Ways.add {c u : List Nat} {W : List (List Nat)} (h : Ways inv c W) (h1 : Rd.Wd inv.length u) (h2 : Rd.red (iw inv) u = c) (h3 : u.length ≤ 24) : Ways inv c (W ++ [u]) := fun x hx => by
  rcases List.mem_append.mp hx with q | q
  · exact h x q
  · rw [List.mem_singleton.mp q]
    exact ⟨h1, h2, h3⟩
theorem cancelled_eq (L : Let inv) (d : Dk) (hw : Rd.Wd inv.length w) (hl : w.length ≤ 24) : ∃ (W : List (List Nat)) (d' : Dk), Ways inv (Rd.red (iw inv) w) W ∧ W.length ≤ 100 ∧
    sem__law_cancelled [.own true (ob d), .val (tW inv), .val (tW w)] = some (.new (.lst (dWs W)), [.own true (ob d'), .un, .un]) := by
  obtain ⟨e', h1, h2⟩ := forL_ex (g := gNm 4) (b := lp0__law_cancelled) (I := CanI inv (Rd.red (iw inv) w)) (B := fun e => ∃ j, j ≤ 24 ∧ CanI inv (Rd.red (iw inv) w) j e) (ds := (List.range (w.length / 2)).map fun (i : Nat) => PyData.int i) (i := 0)
    (e := [.own true (ob d), .val (tW inv), .val (tW w), .own false (.lst (dWs [w])), .un, .un, .un])
    ⟨w, [w], d, .un, .un, .un, hw, rfl, hl, fun x hx => by rw [List.mem_singleton.mp hx]; exact ⟨hw, rfl, hl⟩, by simp, rfl, rfl, rfl, rfl⟩ fun j y e' hy hj hjl ⟨u, W, d2, x4, x5, x6, k1, k2, k3, k4, k5, k6, k7, k8, k9⟩ => by
      subst k9
      have hjl' : j < w.length / 2 := by simpa using hjl
      rcases can_turn L d2 W (.val y) x5 x6 k1 k3 (by omega) k7 k8 with ⟨y5, q1, q2⟩ | ⟨u', d3, y5, y6, q1, q2, q3, q4, q5⟩
      · exact ⟨_, _, by simp [k6], q2, j, by omega, u, W, d2, .val y, y5, x6, k1, k2, k3, k4, k5, rfl, q1, k8, rfl⟩
      · exact ⟨_, _, by simp [k6], q5, u', W ++ [u'], d3, .val y, y5, .val y6, q2, by rw [q3, k2], by omega, k4.add q2 (by rw [q3, k2]) (by omega), by simp; omega, rfl, q1, rfl, rfl⟩
  have fin : ∃ (u : List Nat) (W : List (List Nat)) (d2 : Dk) (x4 x5 x6 : SV), Ways inv (Rd.red (iw inv) w) W ∧ W.length ≤ 100 ∧ e' = [.own true (ob d2), .val (tW inv), .val (tW u), .own false (.lst (dWs W)), x4, x5, x6] := by
    rcases h2 with ⟨u, W, d2, x4, x5, x6, k1, k2, k3, k4, k5, k6, k7, k8, k9⟩ | ⟨j, hj, u, W, d2, x4, x5, x6, k1, k2, k3, k4, k5, k6, k7, k8, k9⟩
    · exact ⟨u, W, d2, x4, x5, x6, k4, by simp at k5; omega, k9⟩
    · exact ⟨u, W, d2, x4, x5, x6, k4, by omega, k9⟩
  obtain ⟨u, W, d2, x4, x5, x6, k1, k2, rfl⟩ := fin
  refine ⟨W, d2, k1, k2, ?_⟩
  have l1 : (w.length : Int) / 2 ≤ lim := by rw [lim_eq]; omega
  have l2 : (-1000000 : Int) ≤ (w.length : Int) / 2 := by omega
  have l4 : cDiv (w.length : Int) 2 = true := cDiv_ok (by decide) (by decide)
  have l5 : ((w.length : Int) / 2).toNat = w.length / 2 := by omega
  have l6 : 1 ≤ lim := by rw [lim_eq]; omega
  simp only [dWs, List.map_cons, List.map_nil] at h1
  unfold sem__law_cancelled mFn body__law_cancelled
  simp [l1, l2, l4, l5, l6, h1]
def EndI (inv c : List Nat) (b : Bool) (j : Nat) (e : Lo) : Prop := ∃ (w : List Nat) (W : List (List Nat)) (x4 x5 x6 : SV), Rd.Wd inv.length w ∧ Rd.red (iw inv) w = c ∧ w.length ≤ 24 ∧ Ways inv c W ∧ W.length ≤ j + 1 ∧ fr x4 = true ∧ fr x5 = true ∧ fr x6 = true ∧
  e = [.val (tW inv), .val (tW w), .val (.bool b), .own false (.lst (dWs W)), x4, x5, x6]
theorem end_turn (L : Let inv) (b : Bool) (W : List (List Nat)) (x4 x5 x6 : SV) (hw : Rd.Wd inv.length w) (hl : w.length ≤ 24) (hW : W.length ≤ 1000) (h5 : fr x5 = true) (h6 : fr x6 = true) :
    (∃ y5, fr y5 = true ∧ lp0__law_ends_cancelled [.val (tW inv), .val (tW w), .val (.bool b), .own false (.lst (dWs W)), x4, x5, x6] = some (.bk [.val (tW inv), .val (tW w), .val (.bool b), .own false (.lst (dWs W)), x4, y5, x6])) ∨
    ∃ u y5 y6, fr y5 = true ∧ Rd.Wd inv.length u ∧ Rd.red (iw inv) u = Rd.red (iw inv) w ∧ u.length ≤ w.length ∧
      lp0__law_ends_cancelled [.val (tW inv), .val (tW w), .val (.bool b), .own false (.lst (dWs W)), x4, x5, x6] = some (.nx [.val (tW inv), .val (tW u), .val (.bool b), .own false (.lst (dWs (W ++ [u]))), x4, y5, .val y6]) := by
  obtain ⟨ys, hy, hyl, hs⟩ := spots_eq L hw (by omega)
  have l3 : W.length < lim := by rw [lim_eq]; omega
  have h1 := fEq_ln ys
  rcases List.eq_nil_or_concat ys with hys | ⟨yr, y1, hys⟩
  · subst hys
    simp only [dW, List.map_nil, List.isEmpty_nil] at h1 hs
    refine .inl ⟨.own false (.lst []), rfl, ?_⟩
    unfold lp0__law_ends_cancelled
    simp [hs, h5, h1]
  · rw [List.concat_eq_append] at hys
    have hne2 : ys.isEmpty = false := by rw [hys]; simp
    have hpos : 0 < ys.length := by rw [hys]; simp
    have g0 : atI (dW ys) (0 : Int) = some (dI (ys.getD 0 0)) := atI_dW (i := 0) hpos
    have g1 : atI (dW ys) (-1) = some (dI y1) := by rw [hys]; exact atI_last
    obtain ⟨i, hi, g⟩ : ∃ i, i ∈ ys ∧ (if b = true then ys.getD 0 0 else y1) = i := by
      refine ⟨_, ?_, rfl⟩
      split
      · rw [List.getD_eq_getElem?_getD, List.getElem?_eq_getElem hpos]
        exact List.getElem_mem hpos
      · rw [hys]; simp
    obtain ⟨q1, q2, q3⟩ := spot_cut L hw (hy i hi)
    have c1 := cut_to (w := w) (i := i)
    have c2 := cut_from (w := w) (i := i + 2)
    have ca := cut_add (w := w) (i := i) (by omega)
    refine .inr ⟨w.take i ++ w.drop (i + 2), .own false (.lst (dW ys)), dI i, rfl, q1, q2, q3, ?_⟩
    simp only [Int.natCast_add, Int.cast_ofNat_Int] at c2
    unfold lp0__law_ends_cancelled
    generalize dW ys = Y at *
    generalize dW (w.take i) = A at *
    generalize dW (w.drop (i + 2)) = B at *
    generalize ys.getD 0 0 = y0 at *
    cases b with
    | true =>
      simp only [if_true] at g
      subst g
      simp [-fAdd, fAdd_ii, hs, h5, h6, h1, hne2, c1, c2, ca, l3, g0]
    | false =>
      simp only [Bool.false_eq_true, if_false] at g
      subst g
      simp [-fAdd, fAdd_ii, hs, h5, h6, h1, hne2, c1, c2, ca, l3, g1]
theorem ends_eq (L : Let inv) (b : Bool) (hw : Rd.Wd inv.length w) (hl : w.length ≤ 24) : ∃ (W : List (List Nat)), Ways inv (Rd.red (iw inv) w) W ∧ W.length ≤ 100 ∧
    sem__law_ends_cancelled [.val (tW inv), .val (tW w), .val (.bool b)] = some (.new (.lst (dWs W)), [.un, .un, .un]) := by
  obtain ⟨e', h1, h2⟩ := forL_ex (g := gNm 4) (b := lp0__law_ends_cancelled) (I := EndI inv (Rd.red (iw inv) w) b) (B := fun e => ∃ j, j ≤ 24 ∧ EndI inv (Rd.red (iw inv) w) b j e) (ds := (List.range (w.length / 2)).map fun (i : Nat) => PyData.int i) (i := 0)
    (e := [.val (tW inv), .val (tW w), .val (.bool b), .own false (.lst (dWs [w])), .un, .un, .un])
    ⟨w, [w], .un, .un, .un, hw, rfl, hl, fun x hx => by rw [List.mem_singleton.mp hx]; exact ⟨hw, rfl, hl⟩, by simp, rfl, rfl, rfl, rfl⟩ fun j y e' hy hj hjl ⟨u, W, x4, x5, x6, k1, k2, k3, k4, k5, k6, k7, k8, k9⟩ => by
      subst k9
      have hjl' : j < w.length / 2 := by simpa using hjl
      rcases end_turn L b W (.val y) x5 x6 k1 k3 (by omega) k7 k8 with ⟨y5, q1, q2⟩ | ⟨u', y5, y6, q1, q2, q3, q4, q5⟩
      · exact ⟨_, _, by simp [k6], q2, j, by omega, u, W, .val y, y5, x6, k1, k2, k3, k4, k5, rfl, q1, k8, rfl⟩
      · exact ⟨_, _, by simp [k6], q5, u', W ++ [u'], .val y, y5, .val y6, q2, by rw [q3, k2], by omega, k4.add q2 (by rw [q3, k2]) (by omega), by simp; omega, rfl, q1, rfl, rfl⟩
  have fin : ∃ (u : List Nat) (W : List (List Nat)) (x4 x5 x6 : SV), Ways inv (Rd.red (iw inv) w) W ∧ W.length ≤ 100 ∧ e' = [.val (tW inv), .val (tW u), .val (.bool b), .own false (.lst (dWs W)), x4, x5, x6] := by
    rcases h2 with ⟨u, W, x4, x5, x6, k1, k2, k3, k4, k5, k6, k7, k8, k9⟩ | ⟨j, hj, u, W, x4, x5, x6, k1, k2, k3, k4, k5, k6, k7, k8, k9⟩
    · exact ⟨u, W, x4, x5, x6, k4, by simp at k5; omega, k9⟩
    · exact ⟨u, W, x4, x5, x6, k4, by omega, k9⟩
  obtain ⟨u, W, x4, x5, x6, k1, k2, rfl⟩ := fin
  refine ⟨W, k1, k2, ?_⟩
  have l1 : (w.length : Int) / 2 ≤ lim := by rw [lim_eq]; omega
  have l2 : (-1000000 : Int) ≤ (w.length : Int) / 2 := by omega
  have l4 : cDiv (w.length : Int) 2 = true := cDiv_ok (by decide) (by decide)
  have l5 : ((w.length : Int) / 2).toNat = w.length / 2 := by omega
  have l6 : 1 ≤ lim := by rw [lim_eq]; omega
  simp only [dWs, List.map_cons, List.map_nil] at h1
  unfold sem__law_ends_cancelled mFn body__law_ends_cancelled
  simp [l1, l2, l4, l5, l6, h1]
end
end K03
namespace K03
open PySem L2 Gx
section
variable {inv w : List Nat}
theorem Let.small (L : Let inv) (hw : Rd.Wd inv.length w) : ∀ a ∈ w, a < 10 := fun a ha => by
  have := hw a ha
  have := L.len
  omega
theorem Let.wd (L : Let inv) : ∀ a ∈ inv, a < 10 := fun a ha => by
  obtain ⟨i, hi, rfl⟩ := List.getElem_of_mem ha
  have := L.I.lt i hi
  have e : iw inv i = inv[i] := by
    show inv.getD i 0 = _
    rw [List.getD_eq_getElem?_getD, List.getElem?_eq_getElem hi]
    rfl
  rw [e] at this
  have := L.len
  omega
theorem pl_w (L : Let inv) (hw : Rd.Wd inv.length w) : pl (tW w) = true := pl_tW fun a ha => by have := L.small hw a ha; omega
theorem repr_w (L : Let inv) (hw : Rd.Wd inv.length w) (hl : w.length ≤ 1000) : fRepr (tW w) = some (.val (.str (tW w).shown)) :=
  fRepr_pl (pl_w L hw) (by rw [sz_tW]; omega) (by rw [depth_tW]; omega)
theorem isred_eq (L : Let inv) {c : List Nat} {W : List (List Nat)} (hc : Rd.Wd inv.length c) (hcl : c.length ≤ 24) (hW : Ways inv c W) (hl : W.length ≤ 1000) : sem__law_is_reduced_to [.val (tW inv), .val (.list (dWs W)), .val (tW c)] = some (.val (.bool true), [.un, .un, .un]) := by
  have r1 := repr_w L hc (by omega)
  have n1 := fNe_pl (pl_w L hc) (pl_w L hc)
  have st : ∀ y ∈ dWs W, turn (gNm 3) ct0__law_is_reduced_to (mC (.int 1)) [3] y [.val (tW inv), .val (.list (dWs W)), .val (tW c), .un] = some ((fun _ => none) y, [.val (tW inv), .val (.list (dWs W)), .val (tW c), .un]) := fun y hy => by
    obtain ⟨u, hu, rfl⟩ := List.mem_map.mp hy
    obtain ⟨h1, h2, h3⟩ := hW u hu
    have e := reduced_eq L h1 (by omega)
    rw [h2] at e
    unfold turn ct0__law_is_reduced_to
    simp [e, r1, n1]
  have cc := compL_fm (acc := []) (fun _ => none) st (by simp [lim_eq]; omega)
  have e0 : [] ++ (dWs W).filterMap (fun _ => (none : Option PyData)) = [] := by simp
  rw [e0] at cc
  have f0 := fEq_ln []
  simp only [dW, List.map_nil, List.isEmpty_nil] at f0
  unfold sem__law_is_reduced_to mFn body__law_is_reduced_to
  simp [cc, f0]
/-- words that come near to w: not w, and no longer than 24 letters, none of them is reduced to c -/
def Near (inv w c : List Nat) (u : List Nat) : Prop := Rd.Wd inv.length u ∧ u.length ≤ 30 ∧ (u ≠ w → Rd.red (iw inv) u ≠ c)
theorem near_out {u v : List Nat} {a : Nat} (hw : Rd.Wd inv.length (u ++ a :: v)) (hl : (u ++ a :: v).length ≤ 24) : Near inv (u ++ a :: v) (Rd.red (iw inv) (u ++ a :: v)) (u ++ v) := by
  refine ⟨hw.left.app hw.right.tail, ?_, fun _ e => ?_⟩
  · simp at hl ⊢
    omega
  · have h1 := Rd.red_par (iv := iw inv) (w := u ++ v)
    have h2 := Rd.red_par (iv := iw inv) (w := u ++ a :: v)
    rw [e] at h1
    simp at h1 h2
    omega
theorem near_in {u v : List Nat} {a : Nat} (hw : Rd.Wd inv.length (u ++ v)) (ha : a < inv.length) (hl : (u ++ v).length ≤ 24) : Near inv (u ++ v) (Rd.red (iw inv) (u ++ v)) (u ++ a :: v) := by
  refine ⟨hw.left.app (.cons ha hw.right), ?_, fun _ e => ?_⟩
  · simp at hl ⊢
    omega
  · have h1 := Rd.red_par (iv := iw inv) (w := u ++ v)
    have h2 := Rd.red_par (iv := iw inv) (w := u ++ a :: v)
    rw [e] at h2
    simp at h1 h2
    omega
theorem near_other (L : Let inv) {u v : List Nat} {a b : Nat} (hw : Rd.Wd inv.length (u ++ a :: v)) (hb : b < inv.length) (hl : (u ++ a :: v).length ≤ 24) : Near inv (u ++ a :: v) (Rd.red (iw inv) (u ++ a :: v)) (u ++ b :: v) := by
  refine ⟨hw.left.app (.cons hb hw.right.tail), ?_, fun hn e => ?_⟩
  · simp at hl ⊢
    omega
  · exact hn (by rw [Rd.red_other L.I hw.left hw.right.tail hb hw.right.head e])
end
end K03
namespace K03
open PySem L2 Gx
section
variable {inv w : List Nat}
def NrI (inv w : List Nat) (j : Nat) (e : Lo) : Prop := ∃ (W : List (List Nat)) (d : Dk) (x4 x5 x8 x9 : SV), (∀ u ∈ W, Near inv w (Rd.red (iw inv) w) u) ∧ W.length ≤ 3 * j ∧ fr x4 = true ∧ fr x5 = true ∧ fr x8 = true ∧ fr x9 = true ∧
  e = [.own true (ob d), .val (tW inv), .val (tW w), .val (tW (Rd.red (iw inv) w)), x4, x5, .val (.int inv.length), .own false (.lst (dWs W)), x8, x9]
theorem near_turn (L : Let inv) (d : Dk) (W : List (List Nat)) (cv x4 x5 x8 x9 : SV) (hw : Rd.Wd inv.length w) (hl : w.length ≤ 24) (h0 : 0 < w.length) (hW : W.length ≤ 1000) (h8 : fr x8 = true) :
    ∃ (d' : Dk) (a b c : List Nat) (y8 : PyData), Near inv w (Rd.red (iw inv) w) a ∧ Near inv w (Rd.red (iw inv) w) b ∧ Near inv w (Rd.red (iw inv) w) c ∧
      lp0__law_are_near_apart [.own true (ob d), .val (tW inv), .val (tW w), cv, x4, x5, .val (.int inv.length), .own false (.lst (dWs W)), x8, x9] =
        some (.nx [.own true (ob d'), .val (tW inv), .val (tW w), cv, x4, x5, .val (.int inv.length), .own false (.lst (dWs (W ++ [a, b, c]))), .val y8, x9]) := by
  have ll := L.len
  have lp := L.pos
  have e1 := draw_eq d (z := (w.length : Int)) (by omega) (by omega)
  have h1 := drN_lt d (n := w.length) h0 (by omega)
  rw [Int.toNat_natCast] at e1
  obtain ⟨i, hi⟩ : ∃ i, i = drN d w.length := ⟨_, rfl⟩
  rw [← hi] at e1 h1
  generalize drD d w.length = d1 at *
  obtain ⟨m, hm⟩ : ∃ m : Nat, (m : Int) = if 1 < (inv.length : Int) - 1 then (inv.length : Int) - 1 else 1 := ⟨(if 1 < (inv.length : Int) - 1 then (inv.length : Int) - 1 else 1).toNat, by split <;> omega⟩
  have hm0 : 0 < m := by split at hm <;> omega
  have hm1 : m ≤ 4 := by split at hm <;> omega
  have e2 := draw_eq d1 (z := (m : Int)) (by omega) (by omega)
  rw [Int.toNat_natCast] at e2
  generalize drN d1 m = r at *
  generalize drD d1 m = d2 at *
  have e3 := draw_eq d2 (z := (inv.length : Int)) (by omega) (by omega)
  rw [Int.toNat_natCast] at e3
  have h3 := drN_lt d2 (n := inv.length) lp (by omega)
  generalize drN d2 inv.length = a at *
  generalize drD d2 inv.length = d3 at *
  have es : w = w.take i ++ w[i] :: w.drop (i + 1) := by
    conv => lhs; rw [← List.take_append_drop i w]
    rw [List.drop_eq_getElem_cons h1]
  have eg : w.getD i 0 = w[i] := by
    rw [List.getD_eq_getElem?_getD, List.getElem?_eq_getElem h1]
    rfl
  have g1 : atI (dW w) (i : Int) = some (dI w[i]) := by rw [atI_dW h1, eg]
  obtain ⟨b, hb⟩ : ∃ b, b = w[i] := ⟨_, rfl⟩
  rw [← hb] at es g1
  have ed : w.drop i = b :: w.drop (i + 1) := by rw [List.drop_eq_getElem_cons h1, ← hb]
  obtain ⟨c, hc⟩ : ∃ c, c = (b + 1 + r) % inv.length := ⟨_, rfl⟩
  have hc0 : c < inv.length := by rw [hc]; exact Nat.mod_lt _ lp
  have hc1 : ((b : Int) + 1 + r) % inv.length = (c : Int) := by rw [hc]; simp
  have k1 : ∀ j : Int, cMod j inv.length = true := fun j => cMod_ok (by omega)
  have c1 := cut_to (w := w) (i := i)
  have c2 := cut_from (w := w) (i := i + 1)
  have c3 := cut_from (w := w) (i := i)
  have l2 : (w.take i).length ≤ 24 := by rw [List.length_take]; omega
  have l3 : (w.drop (i + 1)).length ≤ 24 := by rw [List.length_drop]; omega
  have l4 : (w.drop i).length ≤ 24 := by rw [List.length_drop]; omega
  have a1 := fAdd_ww (u := w.take i) (v := w.drop (i + 1)) (by omega)
  have a2 := fAdd_ww (u := w.take i) (v := [c]) (by simp only [List.length_cons, List.length_nil]; omega)
  have a3 := fAdd_ww (u := w.take i ++ [c]) (v := w.drop (i + 1)) (by rw [List.length_append]; simp only [List.length_cons, List.length_nil]; omega)
  have a4 := fAdd_ww (u := w.take i) (v := [a]) (by simp only [List.length_cons, List.length_nil]; omega)
  have a5 := fAdd_ww (u := w.take i ++ [a]) (v := w.drop i) (by rw [List.length_append]; simp only [List.length_cons, List.length_nil]; omega)
  have t1 : W.length < lim := by rw [lim_eq]; omega
  have t2 : W.length + 1 < lim := by rw [lim_eq]; omega
  have t3 : W.length + 1 + 1 < lim := by rw [lim_eq]; omega
  have t4 : 1 ≤ lim := by rw [lim_eq]; omega
  have hw' := hw
  rw [es] at hw'
  have hl' := hl
  rw [es] at hl'
  have n1 := near_out hw' hl'
  have n2 := near_other L hw' hc0 hl'
  have n3 : Near inv (w.take i ++ b :: w.drop (i + 1)) (Rd.red (iw inv) (w.take i ++ b :: w.drop (i + 1))) (w.take i ++ a :: b :: w.drop (i + 1)) := near_in hw' h3 hl'
  rw [← es] at n1 n2 n3
  refine ⟨d3, _, _, _, dI i, n1, n2, n3, ?_⟩
  rw [← ed]
  simp only [Int.natCast_add, Int.cast_ofNat_Int] at c2
  have f1 : tW (w.take i ++ [c] ++ w.drop (i + 1)) = tW (w.take i ++ c :: w.drop (i + 1)) := by simp
  have f2 : tW (w.take i ++ [a] ++ w.drop i) = tW (w.take i ++ a :: w.drop i) := by simp
  rw [f1] at a3
  rw [f2] at a5
  simp only [dW, List.map_cons, List.map_nil] at a2 a4
  generalize w.take i = A at *
  generalize w.drop (i + 1) = B at *
  generalize w.drop i = C at *
  unfold lp0__law_are_near_apart
  simp [-fAdd, fAdd_ii, e1, h8, c1, c2, a1, t1, g1, ← hm, e2, k1, hc1, a2, a3, t2, e3, c3, a4, a5, t3, t4]

def NsI (inv w : List Nat) (d : Dk) (nv x4 : SV) (lv : SV) (x8 : SV) (_ : Nat) (e : Lo) : Prop := ∃ (x5 x9 : SV), fr x5 = true ∧ fr x9 = true ∧
  e = [.own true (ob d), .val (tW inv), .val (tW w), .val (tW (Rd.red (iw inv) w)), x4, x5, nv, lv, x8, x9]
theorem near_look (L : Let inv) (d : Dk) (nv x4 lv x8 x9 : SV) {u : List Nat} (hw : Rd.Wd inv.length w) (hl : w.length ≤ 24) (h : Near inv w (Rd.red (iw inv) w) u) (h9 : fr x9 = true) :
    ∃ y9, fr y9 = true ∧ lp1__law_are_near_apart [.own true (ob d), .val (tW inv), .val (tW w), .val (tW (Rd.red (iw inv) w)), x4, .val (tW u), nv, lv, x8, x9] =
      some (.nx [.own true (ob d), .val (tW inv), .val (tW w), .val (tW (Rd.red (iw inv) w)), x4, .val (tW u), nv, lv, x8, y9]) := by
  obtain ⟨h1, h2, h3⟩ := h
  have f1 := fNe_tt u w
  by_cases e : u = w
  · have f2 : (u == w) = true := by rw [e]; exact beq_self_eq_true _
    refine ⟨x9, h9, ?_⟩
    unfold lp1__law_are_near_apart
    simp [f1, f2]
  · have f2 : (u == w) = false := by simpa using e
    by_cases el : u.length ≤ 24
    · have r1 := reduced_eq L h1 (by omega)
      have r2 := law_reduced_eq L h1 (by omega)
      have hr : Rd.Wd inv.length (Rd.red (iw inv) u) := h1.red
      have hc : Rd.Wd inv.length (Rd.red (iw inv) w) := hw.red
      have l1 := Rd.red_len (iv := iw inv) (w := u)
      have l2 := Rd.red_len (iv := iw inv) (w := w)
      have p1 := repr_w L hr (by omega)
      have p2 := repr_w L hc (by omega)
      have q1 := fEq_pl (pl_w L hr) (pl_w L hc)
      have q2 := fNe_pl (pl_w L hr) (pl_w L hr)
      have q3 := shown_inj (L.small hr) (L.small hc)
      have q4 : (Rd.red (iw inv) u == Rd.red (iw inv) w) = false := by simpa using h3 e
      rw [q3, q4] at q1
      rw [beq_self_eq_true] at q2
      refine ⟨.val (tW (Rd.red (iw inv) u)), rfl, ?_⟩
      have el' : (u.length : Int) ≤ 24 := by omega
      unfold lp1__law_are_near_apart
      simp [f1, f2, el', r1, r2, p1, p2, q1, q2, h9]
    · have el' : ¬ ((u.length : Int) ≤ 24) := by omega
      refine ⟨x9, h9, ?_⟩
      unfold lp1__law_are_near_apart
      simp [f1, f2, el']
theorem near_eq (L : Let inv) (d : Dk) (hw : Rd.Wd inv.length w) (hl : w.length ≤ 24) : ∃ d' : Dk, sem__law_are_near_apart [.own true (ob d), .val (tW inv), .val (tW w), .val (tW (Rd.red (iw inv) w))] = some (.val (.bool true), [.own true (ob d'), .un, .un, .un]) := by
  have f1 := fNe_tn w
  obtain ⟨n, hn, hn2, hn3⟩ : ∃ n : Nat, (n = if w.isEmpty = true then 0 else 4) ∧ n ≤ 4 ∧ (0 < n → 0 < w.length) := by
    cases w with
    | nil => exact ⟨0, rfl, by decide, fun h => absurd h (by decide)⟩
    | cons _ _ => exact ⟨4, rfl, by decide, fun _ => by simp⟩
  obtain ⟨e1, s1, s2⟩ := forL_ex (g := gNm 4) (b := lp0__law_are_near_apart) (I := NrI inv w) (B := fun _ => False) (ds := (List.range n).map fun (i : Nat) => PyData.int i) (i := 0)
    (e := [.own true (ob d), .val (tW inv), .val (tW w), .val (tW (Rd.red (iw inv) w)), .un, .un, .val (.int inv.length), .own false (.lst (dWs [])), .un, .un])
    ⟨[], d, .un, .un, .un, .un, (fun u h => by cases h), Nat.le_refl _, rfl, rfl, rfl, rfl, rfl⟩ fun j y e' hy hj hjl ⟨W, d2, x4, x5, x8, x9, k1, k2, k3, k4, k5, k6, k7⟩ => by
      subst k7
      have hjl' : j < n := by simpa using hjl
      obtain ⟨d3, a, b, c, y8, q1, q2, q3, q4⟩ := near_turn L d2 W (.val (tW (Rd.red (iw inv) w))) (.val y) x5 x8 x9 hw hl (hn3 (by omega)) (by omega) k5
      exact ⟨_, _, by simp [k3], q4, W ++ [a, b, c], d3, .val y, x5, .val y8, x9, fun u hu => by
        rcases List.mem_append.mp hu with h | h
        · exact k1 u h
        · simp only [List.mem_cons, List.not_mem_nil, or_false] at h
          rcases h with rfl | rfl | rfl
          · exact q1
          · exact q2
          · exact q3, by simp; omega, rfl, k4, rfl, k6, rfl⟩
  rcases s2 with ⟨W, d2, x4, x5, x8, x9, k1, k2, k3, k4, k5, k6, rfl⟩ | h
  · obtain ⟨e2, t1, t2⟩ := forL_ex (g := gNm 5) (b := lp1__law_are_near_apart) (I := NsI inv w d2 (.val (.int inv.length)) x4 (.val (.list (dWs W))) x8) (B := fun _ => False) (ds := dWs W) (i := 0)
      (e := [.own true (ob d2), .val (tW inv), .val (tW w), .val (tW (Rd.red (iw inv) w)), x4, x5, .val (.int inv.length), .val (.list (dWs W)), x8, x9])
      ⟨x5, x9, k4, k6, rfl⟩ fun j y e' hy hj hjl ⟨x5, x9, g1, g2, g3⟩ => by
        subst g3
        obtain ⟨u, hu, rfl⟩ := List.mem_map.mp hy
        obtain ⟨y9, q1, q2⟩ := near_look L d2 (.val (.int inv.length)) x4 (.val (.list (dWs W))) x8 x9 hw hl (k1 u hu) g2
        exact ⟨_, _, by simp [g1], q2, .val (tW u), y9, rfl, q1, rfl⟩
    rcases t2 with ⟨x5, x9, g1, g2, rfl⟩ | h
    · refine ⟨d2, ?_⟩
      have l1 : n ≤ lim := by rw [lim_eq]; omega
      have l2 : (-1000000 : Int) ≤ n := by omega
      simp only [dWs, List.map_nil] at s1
      simp only [dWs] at s1 t1
      unfold sem__law_are_near_apart mFn body__law_are_near_apart
      cases hw0 : w.isEmpty with
      | true =>
        rw [hw0] at hn f1
        simp only [if_true] at hn
        subst hn
        simp [f1, t1]
        simp at s1
        exact s1.1
      | false =>
        rw [hw0] at hn f1
        simp only [Bool.false_eq_true, if_false] at hn
        subst hn
        have l3 : (4 : Int) ≤ (lim : Int) := by rw [lim_eq]; decide
        have e4 : ((4 : Int)).toNat = 4 := rfl
        simp [f1, l3, s1, t1]
    · exact h.elim
  · exact h.elim
end
end K03
namespace K03
open PySem L2 Gx
section
variable {inv one core other heart : List Nat}
theorem Let.sm (L : Let inv) {w : List Nat} {n : Nat} (h : Rd.Wd inv.length w) (hl : w.length ≤ n) : Sm n 1 (tW w) := Sm.word (fun a ha => by have := L.small h a ha; omega) hl
theorem same_text {d : PyData} (h : pl d = true) : fNe (.str d.shown) (.str d.shown) = some (.val (.bool false)) := by
  rw [fNe_pl h h, beq_self_eq_true]
  rfl
theorem same_text' {d : PyData} (h : pl d = true) : fEq (.str d.shown) (.str d.shown) = some (.val (.bool true)) := by
  rw [fEq_pl h h, beq_self_eq_true]
theorem joined_eq (L : Let inv) (h1 : Rd.Wd inv.length one) (h2 : Rd.Wd inv.length other) (l1 : one.length ≤ 24) (l2 : other.length ≤ 24) (r1 : Rd.red (iw inv) one = core) (r2 : Rd.red (iw inv) other = heart) :
    sem__law_are_joined [.val (tW inv), .val (tW one), .val (tW core), .val (tW other), .val (tW heart)] = some (.val (.bool true), [.un, .un, .un, .un, .un]) := by
  have hc : Rd.Wd inv.length core := by rw [← r1]; exact h1.red
  have hh : Rd.Wd inv.length heart := by rw [← r2]; exact h2.red
  have lc : core.length ≤ 24 := by rw [← r1]; exact Nat.le_trans Rd.red_len l1
  have lh : heart.length ≤ 24 := by rw [← r2]; exact Nat.le_trans Rd.red_len l2
  have rh : Rd.Rw (iw inv) heart := by rw [← r2]; exact Rd.rw_red
  have a1 := fAdd_ww (u := one) (v := other) (by omega)
  have a2 := fAdd_ww (u := core) (v := heart) (by omega)
  have a3 := fAdd_ww (u := core) (v := other) (by omega)
  have a4 := fAdd_ww (u := one) (v := heart) (by omega)
  have la : ∀ {u v : List Nat}, u.length ≤ 24 → v.length ≤ 24 → (u ++ v).length ≤ 48 := fun h g => by rw [List.length_append]; omega
  obtain ⟨D, hD⟩ : ∃ D, D = Rd.red (iw inv) (core ++ heart) := ⟨_, rfl⟩
  have t0 := law_reduced_eq L (hc.app hh) (by have := la lc lh; omega)
  have t1 := reduced_eq L (h1.app h2) (by have := la l1 l2; omega)
  have t2 := reduced_eq L (hc.app hh) (by have := la lc lh; omega)
  have t3 := reduced_eq L (hc.app h2) (by have := la lc l2; omega)
  have t4 := reduced_eq L (h1.app hh) (by have := la l1 lh; omega)
  have t5 := reduced_eq L h1 (by omega)
  have t6 := reduced_eq L h2 (by omega)
  have e1 : Rd.red (iw inv) (one ++ other) = D := by rw [← Rd.red_both L.I h1 h2, r1, r2, hD]
  have e3 : Rd.red (iw inv) (core ++ other) = D := by rw [← Rd.red_right L.I hc h2, r2, hD]
  have e4 : Rd.red (iw inv) (one ++ heart) = D := by rw [← Rd.red_left, r1, hD]
  rw [← hD] at t0 t2
  rw [e1] at t1
  rw [e3] at t3
  rw [e4] at t4
  rw [r1] at t5
  rw [r2] at t6
  have wD : Rd.Wd inv.length D := by rw [hD]; exact (hc.app hh).red
  have lD : D.length ≤ 48 := by rw [hD]; exact Nat.le_trans Rd.red_len (la lc lh)
  have sD := L.sm wD lD
  have s5 : Sm 250 2 (.list [tW D, tW D, tW D, tW D, tW D]) := Sm.list (n := 48) (fun x hx => by
    simp only [List.mem_cons, List.not_mem_nil, or_false, or_self] at hx
    rw [hx]; exact sD) (by simp)
  have p5 := s5.repr (by decide) (by decide)
  have q5 := same_text s5.pl
  -- the opposites
  have hb := h2.opp L.I
  have lb : (Rd.opp (iw inv) other).length ≤ 24 := by rw [Rd.opp_length]; exact l2
  have i1 := inverse_eq L h2 (by omega)
  have i2 := law_inverse_eq L h2 (by omega)
  have i3 := inverse_eq L hb (by omega)
  rw [Rd.opp_opp L.I h2] at i3
  have i4 := inverse_eq L (h1.app h2) (by have := la l1 l2; omega)
  have i5 := inverse_eq L h1 (by omega)
  rw [Rd.opp_app] at i4
  have lo : (Rd.opp (iw inv) one).length ≤ 24 := by rw [Rd.opp_length]; exact l1
  have a5 := fAdd_ww (u := Rd.opp (iw inv) other) (v := Rd.opp (iw inv) one) (by omega)
  have i6 := reduced_eq L hb (by omega)
  rw [Rd.red_opp_eq L.I h2, r2] at i6
  have i7 := law_inverse_eq L hh (by omega)
  have i8 := inverse_eq L hh (by omega)
  have hoh := hh.opp L.I
  have loh : (Rd.opp (iw inv) heart).length ≤ 24 := by rw [Rd.opp_length]; exact lh
  have pb := (L.sm hb lb).repr (by decide) (by decide)
  have qb := same_text (L.sm hb lb).pl
  have po := (L.sm h2 l2).repr (by decide) (by decide)
  have qo := same_text (L.sm h2 l2).pl
  have pbo := (L.sm (hb.app (h1.opp L.I)) (la lb lo)).repr (by decide) (by decide)
  have qbo := same_text (L.sm (hb.app (h1.opp L.I)) (la lb lo)).pl
  have poh := (L.sm hoh loh).repr (by decide) (by decide)
  have qoh := same_text (L.sm hoh loh).pl
  -- equal or not
  have b0 := fEq_tt core heart
  have a6 := fAdd_ww (u := one) (v := Rd.opp (iw inv) other) (by omega)
  have a7 := fAdd_ww (u := Rd.opp (iw inv) other) (v := one) (by omega)
  have u1 := reduced_eq L (h1.app hb) (by have := la l1 lb; omega)
  have u2 := reduced_eq L (hb.app h1) (by have := la lb l1; omega)
  have b1 := fEq_tn (Rd.red (iw inv) (one ++ Rd.opp (iw inv) other))
  have b2 := fEq_tn (Rd.red (iw inv) (Rd.opp (iw inv) other ++ one))
  have v1 : (Rd.red (iw inv) (one ++ Rd.opp (iw inv) other)).isEmpty = (core == heart) := by
    rw [Bool.eq_iff_iff, List.isEmpty_iff, beq_iff_eq, Rd.eq_iff L.I h1 h2, r1, r2]
  have v2 : (Rd.red (iw inv) (Rd.opp (iw inv) other ++ one)).isEmpty = (core == heart) := by
    rw [Bool.eq_iff_iff, List.isEmpty_iff, beq_iff_eq, Rd.eq_iff' L.I h1 h2, r1, r2]
  rw [v1] at b1
  rw [v2] at b2
  have s3 : Sm 10 1 (.list [.bool (core == heart), .bool (core == heart), .bool (core == heart)]) := Sm.list (n := 0) (fun x hx => by
    simp only [List.mem_cons, List.not_mem_nil, or_false, or_self] at hx
    rw [hx]; exact Sm.bool) (by simp)
  have p3 := s3.repr (by decide) (by decide)
  have q3 := same_text' s3.pl
  have m1 : (List.replicate (Int.toNat 5) [tW D]).flatten = [tW D, tW D, tW D, tW D, tW D] := rfl
  have m2 : (List.replicate (Int.toNat 3) [PyData.bool (core == heart)]).flatten = [.bool (core == heart), .bool (core == heart), .bool (core == heart)] := rfl
  have k1 : 1 ≤ lim := by rw [lim_eq]; omega
  have k3 : 3 ≤ lim := by rw [lim_eq]; omega
  have k4 : 4 ≤ lim := by rw [lim_eq]; omega
  have k5 : 4 < lim := by rw [lim_eq]; omega
  clear hD r1 r2 e1 e3 e4 v1 v2
  unfold sem__law_are_joined mFn body__law_are_joined
  generalize (core == heart) = alike at *
  simp [-fAdd, fAdd_ii, -List.replicate_succ, a1, b0, a2, t0, t1, t2, t3, t4, t5, t6, a3, a4, k1, k3, k4, k5, p5, q5, m1, i1, i2, i3, pb, qb, po, qo, i4, i5, a5, pbo, qbo, i6, i7, i8, poh, qoh, a6, a7, u1, u2, b1, b2, p3, q3, m2]
end
end K03
namespace K03
open PySem L2 Gx
/-- the law's deck out of a script -/
def DeckI (ns : List Int) (_ : Nat) (e : Lo) : Prop := ∃ (m : Int) (x2 : SV), fr x2 = true ∧ e = [.val (.list (ns.map .int)), .val (.int m), x2]
theorem cut_63 (ns : List Int) (h : ns.length ≤ 63) : cutD (ns.map .int) none (some 63) = ns.map .int := by
  unfold cutD
  rw [HT.sIx_none]
  have e : HT.sIx (ns.map PyData.int).length (ns.map PyData.int).length (some 63) = min 63 (ns.map PyData.int).length := HT.sIx_nat _ _ 63
  rw [e, List.drop_zero, Nat.sub_zero, List.length_map, Nat.min_eq_right h]
  exact List.take_of_length_le (by simp)
theorem deck_eq (ns : List Int) (h : ns.length ≤ 63) : ∃ d : Dk, sem__law_deck [.val (.list (ns.map .int))] = some (.new (ob d), [.un]) := by
  have k1 : ∀ i : Int, cMul i 40014 = true := fun i => cMul_ok2 (by decide)
  have k2 : ∀ i : Int, cMod i 2147483399 = true := fun i => cMod_ok (by decide)
  have k3 : ∀ i : Int, cMod i 2147483563 = true := fun i => cMod_ok (by decide)
  obtain ⟨e', s1, s2⟩ := forL_ex (g := gNm 2) (b := lp0__law_deck) (I := DeckI ns) (B := fun _ => False) (ds := ns.map .int) (i := 0)
    (e := [.val (.list (ns.map .int)), .val (.int 15373030), .un]) ⟨_, .un, rfl, rfl⟩ fun j y e' hy hj hjl ⟨m, x2, h2, h3⟩ => by
      subst h3
      obtain ⟨i, hi, rfl⟩ := List.mem_map.mp hy
      refine ⟨[.val (.list (ns.map .int)), .val (.int m), .val (.int i)], .nx [.val (.list (ns.map .int)), .val (.int ((m * 40014 + i % 2147483399 + 67) % 2147483563)), .val (.int i)], by simp [h2], ?_, _, .val (.int i), rfl, rfl⟩
      unfold lp0__law_deck
      simp [k1, k2, k3]
  rcases s2 with ⟨m, x2, h2, rfl⟩ | q
  · refine ⟨⟨ns.reverse, m, 0, by rw [List.length_reverse]; exact h⟩, ?_⟩
    have c := cut_63 ns h
    unfold sem__law_deck mFn body__law_deck
    simp [c, s1]
  · exact q.elim
theorem ways_turn {inv core w : List Nat} (L : Let inv) (hw : Rd.Wd inv.length w) (hl : w.length ≤ 24) (hc : Rd.red (iw inv) w = core) (d : Dk) (y0 y2 y4 y6 y7 y8 y9 y10 y12 y15 y16 y17 x13 x14 : SV) (h13 : fr x13 = true) (h14 : fr x14 = true) :
    ∃ (d' : Dk) (x13' x14' : SV), fr x13' = true ∧ fr x14' = true ∧ lp1_law [y0, .own false (ob d), y2, .val (tW inv), y4, .val (tW w), y6, y7, y8, y9, y10, .val (tW core), y12, x13, x14, y15, y16, y17] =
      some (.nx [y0, .own false (ob d'), y2, .val (tW inv), y4, .val (tW w), y6, y7, y8, y9, y10, .val (tW core), y12, x13', x14', y15, y16, y17]) := by
  obtain ⟨W1, d1, w1, l1, c1⟩ := cancelled_eq L d hw hl
  obtain ⟨W2, d2, w2, l2, c2⟩ := cancelled_eq L d1 hw hl
  obtain ⟨W3, w3, l3, c3⟩ := ends_eq L true hw hl
  obtain ⟨W4, w4, l4, c4⟩ := ends_eq L false hw hl
  have hcw : Rd.Wd inv.length core := by rw [← hc]; exact hw.red
  have hcl : core.length ≤ 24 := by rw [← hc]; exact Nat.le_trans Rd.red_len hl
  rw [hc] at w1 w2 w3 w4
  have ww : Ways inv core (W1 ++ W2 ++ W3 ++ W4) := fun x hx => by
    simp only [List.mem_append] at hx
    rcases hx with ((h | h) | h) | h
    · exact w1 x h
    · exact w2 x h
    · exact w3 x h
    · exact w4 x h
  have ir := isred_eq L hcw hcl ww (by simp; omega)
  have sm : Sm 100 2 (.tuple [tW inv, tW w]) := Sm.tuple (n := 24) (fun x hx => by
    simp only [List.mem_cons, List.not_mem_nil, or_false] at hx
    rcases hx with rfl | rfl
    · exact Sm.word (fun a ha => by have := L.wd a ha; omega) (by have := L.len; omega)
    · exact L.sm hw hl) (by simp)
  have p := sm.repr (by decide) (by decide)
  have q := same_text sm.pl
  have k2 : 2 ≤ lim := by rw [lim_eq]; omega
  have k3 : W1.length + W2.length ≤ lim := by rw [lim_eq]; omega
  have k4 : W1.length + W2.length + W3.length ≤ lim := by rw [lim_eq]; omega
  have k5 : W1.length + W2.length + W3.length + W4.length ≤ lim := by rw [lim_eq]; omega
  have eW : dWs (W1 ++ W2 ++ W3 ++ W4) = dWs W1 ++ dWs W2 ++ dWs W3 ++ dWs W4 := by simp
  rw [eW] at ir
  simp only [List.append_assoc] at ir
  refine ⟨d2, .val (.str (PyData.tuple [tW inv, tW w]).shown), .val (.list (dWs W1 ++ dWs W2 ++ dWs W3 ++ dWs W4)), rfl, rfl, ?_⟩
  have m1 : (dWs W1).length = W1.length := by simp
  have m2 : (dWs W2).length = W2.length := by simp
  have m3 : (dWs W3).length = W3.length := by simp
  have m4 : (dWs W4).length = W4.length := by simp
  unfold lp1_law
  generalize dWs W1 = A1 at *
  generalize dWs W2 = A2 at *
  generalize dWs W3 = A3 at *
  generalize dWs W4 = A4 at *
  simp [k2, p, h13, c1, c2, h14, m1, m2, m3, m4, k3, c3, c4, ← Nat.add_assoc, k4, k5, ir, q]
end K03
namespace K03
open PySem L2 Gx
section
variable {inv core heart : List Nat}
theorem fill_comp (L : Let inv) (hc : Rd.Wd inv.length core) (hl : core.length ≤ 24) (d : Dk) (y0 y2 y4 y5 y6 y7 y8 y9 y10 y12 y13 y14 y15 y16 : SV) :
    ∃ (w1 w2 w3 : List Nat) (d' : Dk), (∀ w ∈ [w1, w2, w3], Rd.Wd inv.length w ∧ Rd.red (iw inv) w = Rd.red (iw inv) core ∧ w.length ≤ 24) ∧
      compL (gNm 17) tYesM ce0_law [17] ((List.range 3).map fun (i : Nat) => PyData.int i) [y0, .own false (ob d), y2, .val (tW inv), y4, y5, y6, y7, y8, y9, y10, .val (tW core), y12, y13, y14, y15, y16, .un] [] =
        some ([tW w1, tW w2, tW w3], [y0, .own false (ob d'), y2, .val (tW inv), y4, y5, y6, y7, y8, y9, y10, .val (tW core), y12, y13, y14, y15, y16, .un]) := by
  have tn : ∀ (d : Dk) (i : Int), ∃ (w : List Nat) (d' : Dk), (Rd.Wd inv.length w ∧ Rd.red (iw inv) w = Rd.red (iw inv) core ∧ w.length ≤ 24) ∧
      turn (gNm 17) tYesM ce0_law [17] (.int i) [y0, .own false (ob d), y2, .val (tW inv), y4, y5, y6, y7, y8, y9, y10, .val (tW core), y12, y13, y14, y15, y16, .un] =
        some (some (tW w), [y0, .own false (ob d'), y2, .val (tW inv), y4, y5, y6, y7, y8, y9, y10, .val (tW core), y12, y13, y14, y15, y16, .un]) := fun d i => by
    obtain ⟨w, d', h1, h2, h3, h4⟩ := filled_eq L d 24 (Nat.le_refl _) hc hl
    simp only [Int.cast_ofNat_Int] at h4
    refine ⟨w, d', ⟨h1, h2, h3⟩, ?_⟩
    unfold turn ce0_law
    simp [h4]
  obtain ⟨w1, d1, p1, t1⟩ := tn d 0
  obtain ⟨w2, d2, p2, t2⟩ := tn d1 1
  obtain ⟨w3, d3, p3, t3⟩ := tn d2 2
  refine ⟨w1, w2, w3, d3, fun w hw => by
    simp only [List.mem_cons, List.not_mem_nil, or_false] at hw
    rcases hw with rfl | rfl | rfl
    · exact p1
    · exact p2
    · exact p3, ?_⟩
  show compL (gNm 17) tYesM ce0_law [17] [.int 0, .int 1, .int 2] _ [] = _
  rw [compL_one t1 (by rw [lim_eq]; decide), compL_one t2 (by rw [lim_eq]; simp), compL_one t3 (by rw [lim_eq]; simp)]
  rfl
theorem ways_loop (L : Let inv) {W : List (List Nat)} (hW : ∀ w ∈ W, Rd.Wd inv.length w ∧ Rd.red (iw inv) w = core ∧ w.length ≤ 24) (d : Dk) (y0 y2 y4 y5 y6 y7 y8 y9 y10 y12 y13 y14 y15 y16 y17 : SV) (h5 : fr y5 = true) (h13 : fr y13 = true) (h14 : fr y14 = true) :
    ∃ (d' : Dk) (x5 x13 x14 : SV), fr x5 = true ∧ fr x13 = true ∧ fr x14 = true ∧ forL (gNm 5) lp1_law (dWs W) [y0, .own false (ob d), y2, .val (tW inv), y4, y5, y6, y7, y8, y9, y10, .val (tW core), y12, y13, y14, y15, y16, y17] =
      some (.nx [y0, .own false (ob d'), y2, .val (tW inv), y4, x5, y6, y7, y8, y9, y10, .val (tW core), y12, x13, x14, y15, y16, y17]) := by
  obtain ⟨e', s1, s2⟩ := forL_ex (g := gNm 5) (b := lp1_law) (I := fun _ e => ∃ (d : Dk) (x5 x13 x14 : SV), fr x5 = true ∧ fr x13 = true ∧ fr x14 = true ∧ e = [y0, .own false (ob d), y2, .val (tW inv), y4, x5, y6, y7, y8, y9, y10, .val (tW core), y12, x13, x14, y15, y16, y17])
    (B := fun _ => False) (ds := dWs W) (i := 0) (e := [y0, .own false (ob d), y2, .val (tW inv), y4, y5, y6, y7, y8, y9, y10, .val (tW core), y12, y13, y14, y15, y16, y17])
    ⟨d, y5, y13, y14, h5, h13, h14, rfl⟩ fun j y e' hy hj hjl ⟨d2, x5, x13, x14, k1, k2, k3, k4⟩ => by
      subst k4
      obtain ⟨w, hw, rfl⟩ := List.mem_map.mp hy
      obtain ⟨q1, q2, q3⟩ := hW w hw
      obtain ⟨d3, z1, z2, r1, r2, r3⟩ := ways_turn L q1 q3 q2 d2 y0 y2 y4 y6 y7 y8 y9 y10 y12 y15 y16 y17 x13 x14 k2 k3
      exact ⟨_, _, by simp [k1], r3, d3, .val (tW w), z1, z2, rfl, r1, r2, rfl⟩
  rcases s2 with ⟨d2, x5, x13, x14, k1, k2, k3, rfl⟩ | h
  · exact ⟨d2, x5, x13, x14, k1, k2, k3, s1⟩
  · exact h.elim
/-- four words of which the second is the reduced first, the fourth the reduced third -/
def Case (inv : List Nat) (y : PyData) : Prop := ∃ a b c e, y = .tuple [tW a, tW b, tW c, tW e] ∧ Rd.Wd inv.length a ∧ Rd.Wd inv.length c ∧ a.length ≤ 24 ∧ c.length ≤ 24 ∧ Rd.red (iw inv) a = b ∧ Rd.red (iw inv) c = e
theorem case_loop (L : Let inv) {ds : List PyData} (hds : ∀ y ∈ ds, Case inv y) (y0 y1 y2 y4 y5 y6 y7 y8 y9 y10 y11 y12 y13 y14 y15 y16 y17 : SV) (h10 : fr y10 = true) :
    ∃ x10, fr x10 = true ∧ forL (gNm 10) lp2_law ds [y0, y1, y2, .val (tW inv), y4, y5, y6, y7, y8, y9, y10, y11, y12, y13, y14, y15, y16, y17] =
      some (.nx [y0, y1, y2, .val (tW inv), y4, y5, y6, y7, y8, y9, x10, y11, y12, y13, y14, y15, y16, y17]) := by
  obtain ⟨e', s1, s2⟩ := forL_ex (g := gNm 10) (b := lp2_law) (I := fun _ e => ∃ x10, fr x10 = true ∧ e = [y0, y1, y2, .val (tW inv), y4, y5, y6, y7, y8, y9, x10, y11, y12, y13, y14, y15, y16, y17])
    (B := fun _ => False) (ds := ds) (i := 0) (e := [y0, y1, y2, .val (tW inv), y4, y5, y6, y7, y8, y9, y10, y11, y12, y13, y14, y15, y16, y17])
    ⟨y10, h10, rfl⟩ fun j y e' hy hj hjl ⟨x10, k1, k4⟩ => by
      subst k4
      obtain ⟨a, b, c, e, rfl, q1, q2, q3, q4, q5, q6⟩ := hds y hy
      have je := joined_eq L q1 q2 q3 q4 q5 q6
      have g0 : atI [tW a, tW b, tW c, tW e] 0 = some (tW a) := rfl
      have g1 : atI [tW a, tW b, tW c, tW e] 1 = some (tW b) := rfl
      have g2 : atI [tW a, tW b, tW c, tW e] 2 = some (tW c) := rfl
      have g3 : atI [tW a, tW b, tW c, tW e] 3 = some (tW e) := rfl
      refine ⟨[y0, y1, y2, .val (tW inv), y4, y5, y6, y7, y8, y9, .val (.tuple [tW a, tW b, tW c, tW e]), y11, y12, y13, y14, y15, y16, y17], .nx [y0, y1, y2, .val (tW inv), y4, y5, y6, y7, y8, y9, .val (.tuple [tW a, tW b, tW c, tW e]), y11, y12, y13, y14, y15, y16, y17], by simp [k1], ?_, _, rfl, rfl⟩
      unfold lp2_law
      simp [g0, g1, g2, g3, je]
  rcases s2 with ⟨x10, k1, rfl⟩ | h
  · exact ⟨x10, k1, s1⟩
  · exact h.elim
end
end K03
namespace K03
open PySem L2 Gx
def LawI (_ : Nat) (e : Lo) : Prop := ∃ (d : Dk) (y0 y2 y3 y4 y5 y6 y7 y8 y9 y10 y11 y12 y13 y14 y15 y16 : SV), fr y0 = true ∧ fr y2 = true ∧ fr y3 = true ∧ fr y4 = true ∧ fr y5 = true ∧ fr y6 = true ∧ fr y7 = true ∧ fr y8 = true ∧ fr y9 = true ∧ fr y10 = true ∧ fr y11 = true ∧ fr y12 = true ∧ fr y13 = true ∧ fr y14 = true ∧ fr y15 = true ∧ fr y16 = true ∧
  e = [y0, .own false (ob d), y2, y3, y4, y5, y6, y7, y8, y9, y10, y11, y12, y13, y14, y15, y16, .un]
theorem law_turn (j : Nat) (e : Lo) (h : LawI j e) : ∃ e', lp3_law e = some (.nx e') ∧ LawI (j + 1) e' := by
  obtain ⟨d, y0, y2, y3, y4, y5, y6, y7, y8, y9, y10, y11, y12, y13, y14, y15, y16, h0, h2, h3, h4, h5, h6, h7, h8, h9, h10, h11, h12, h13, h14, h15, h16, rfl⟩ := h
  -- the letters, the words
  obtain ⟨inv, d1, L, el⟩ := letters_eq d
  obtain ⟨x, d2, hx, ep⟩ := pick_eq d1 [dI 4, dI 10, dI 24, dI 0, dI 14] (by simp) (by simp)
  obtain ⟨most, rfl, hm⟩ : ∃ n : Nat, x = dI n ∧ n ≤ 24 := by
    simp only [List.mem_cons, List.not_mem_nil, or_false] at hx
    rcases hx with rfl | rfl | rfl | rfl | rfl
    · exact ⟨4, rfl, by decide⟩
    · exact ⟨10, rfl, by decide⟩
    · exact ⟨24, rfl, by decide⟩
    · exact ⟨0, rfl, by decide⟩
    · exact ⟨14, rfl, by decide⟩
  obtain ⟨core, d3, rc, wc, lc, ec⟩ := free_eq L d2 most hm
  have lc : core.length ≤ 24 := by omega
  obtain ⟨heart, d4, rh, wh, lh, eh⟩ := free_eq L d3 6 (by decide)
  simp only [Int.cast_ofNat_Int] at eh
  have redc := rc.red
  obtain ⟨w1, w2, w3, d5, hw, ef⟩ := fill_comp L wc lc d4 y0 y2 y4 y5 y6 y7 y8 y9 y10 (.val (tW heart)) y13 y14 y15 y16
  rw [redc] at hw
  obtain ⟨d6, x5, x13, x14, k5, k13, k14, ew⟩ := ways_loop L hw d5 y0 y2 (.val (.list [tW w1, tW w2, tW w3])) y5 y6 y7 y8 y9 y10 (.val (tW heart)) y13 y14 y15 y16 .un h5 h13 h14
  obtain ⟨p1, p2, p3⟩ := hw w1 (by simp)
  obtain ⟨q1, q2, q3⟩ := hw w2 (by simp)
  simp only [dWs, List.map_cons, List.map_nil] at ew
  -- the opposites
  have oc := wc.opp L.I
  have loc : (Rd.opp (iw inv) core).length ≤ 24 := by rw [Rd.opp_length]; exact lc
  have i1 := inverse_eq L wc (by omega)
  have i2 := reduced_eq L oc (by omega)
  rw [(rc.opp L.I wc).red] at i2
  have i3 := inverse_eq L q1 (by omega)
  have i4 := inverse_eq L oc (by omega)
  rw [Rd.opp_opp L.I wc] at i4
  have i5 := law_inverse_eq L wc (by omega)
  have i6 := law_inverse_eq L q1 (by omega)
  have sm : Sm 120 2 (.list [tW (Rd.opp (iw inv) core), tW (Rd.opp (iw inv) core), tW (Rd.opp (iw inv) w2), tW core]) := Sm.list (n := 24) (fun x hx => by
    simp only [List.mem_cons, List.not_mem_nil, or_false] at hx
    rcases hx with rfl | rfl | rfl | rfl
    · exact L.sm oc loc
    · exact L.sm oc loc
    · exact L.sm (q1.opp L.I) (by rw [Rd.opp_length]; exact q3)
    · exact L.sm wc lc) (by simp)
  have tx := sm.repr (by decide) (by decide)
  have ty := same_text sm.pl
  have m1 : (List.replicate (Int.toNat 2) [tW (Rd.opp (iw inv) core)]).flatten = [tW (Rd.opp (iw inv) core), tW (Rd.opp (iw inv) core)] := rfl
  have g0 : atI [tW w1, tW w2, tW w3] 0 = some (tW w1) := rfl
  have g1 : atI [tW w1, tW w2, tW w3] 1 = some (tW w2) := rfl
  -- near words
  obtain ⟨d7, n1⟩ := near_eq L d6 p1 p3
  rw [p2] at n1
  obtain ⟨d8, n2⟩ := near_eq L d7 wc lc
  rw [redc] at n2
  -- the second word
  have c6 := cut_to (w := core) (i := 6)
  have c5 := cut_to (w := core) (i := 5)
  have c8 := cut_to (w := core) (i := 8)
  have c17 := cut_mid (w := core) (i := 1) (j := 7)
  have c1 := cut_to (w := heart) (i := 1)
  simp only [Int.cast_ofNat_Int] at c6 c5 c8 c17 c1
  have i7 := law_inverse_eq L (wc.take 6) (by rw [List.length_take]; omega)
  have a51 := fAdd_ww (u := core.take 5) (v := heart.take 1) (by rw [List.length_take, List.length_take]; omega)
  obtain ⟨x, d9, hx, en⟩ := pick_eq d8 [tW heart, tW (Rd.opp (iw inv) (core.take 6)), tW (core.take 6), tW ((core.take 7).drop 1), tW (core.take 5 ++ heart.take 1)] (by simp) (by simp)
  obtain ⟨nr, rfl, wn, ln⟩ : ∃ v : List Nat, x = tW v ∧ Rd.Wd inv.length v ∧ v.length ≤ 12 := by
    simp only [List.mem_cons, List.not_mem_nil, or_false] at hx
    rcases hx with rfl | rfl | rfl | rfl | rfl
    · exact ⟨_, rfl, wh, by omega⟩
    · exact ⟨_, rfl, (wc.take 6).opp L.I, by rw [Rd.opp_length, List.length_take]; omega⟩
    · exact ⟨_, rfl, wc.take 6, by rw [List.length_take]; omega⟩
    · exact ⟨_, rfl, (wc.take 7).drop 1, by rw [List.length_drop, List.length_take]; omega⟩
    · exact ⟨_, rfl, (wc.take 5).app (wh.take 1), by rw [List.length_append, List.length_take, List.length_take]; omega⟩
  have i8 := law_reduced_eq L wn (by omega)
  obtain ⟨near, hnear⟩ : ∃ v, v = Rd.red (iw inv) nr := ⟨_, rfl⟩
  have wnr : Rd.Wd inv.length near := by rw [hnear]; exact wn.red
  have lnr : near.length ≤ 12 := by rw [hnear]; exact Nat.le_trans Rd.red_len ln
  have rnr : Rd.red (iw inv) near = near := by rw [hnear]; exact Rd.red_red
  rw [← hnear] at i8
  have w8 := wc.take 8
  have l8 : (core.take 8).length ≤ 12 := by rw [List.length_take]; omega
  have r8 : Rd.red (iw inv) (core.take 8) = core.take 8 := (rc.take 8).red
  obtain ⟨one, d10, o1, o2, o3, o4⟩ := filled_eq L d9 12 (by decide) w8 l8
  obtain ⟨other, d11, s1, s2, s3, s4⟩ := filled_eq L d10 12 (by decide) wnr lnr
  obtain ⟨twin, d12, t1, t2, t3, t4⟩ := filled_eq L d11 12 (by decide) wnr lnr
  rw [r8] at o2
  rw [rnr] at s2 t2
  simp only [Int.cast_ofNat_Int] at o4 s4 t4
  have hcase : ∀ y ∈ [PyData.tuple [tW one, tW (core.take 8), tW other, tW near], .tuple [tW other, tW near, tW one, tW (core.take 8)], .tuple [tW other, tW near, tW twin, tW near], .tuple [tW one, tW (core.take 8), tW one, tW (core.take 8)]], Case inv y := fun y hy => by
    simp only [List.mem_cons, List.not_mem_nil, or_false] at hy
    rcases hy with rfl | rfl | rfl | rfl
    · exact ⟨_, _, _, _, rfl, o1, s1, by omega, by omega, o2, s2⟩
    · exact ⟨_, _, _, _, rfl, s1, o1, by omega, by omega, s2, o2⟩
    · exact ⟨_, _, _, _, rfl, s1, t1, by omega, by omega, s2, t2⟩
    · exact ⟨_, _, _, _, rfl, o1, o1, by omega, by omega, o2, o2⟩
  obtain ⟨x10, k10, ecs⟩ := case_loop L hcase y0 (.own false (ob d12)) y2 (.val (.list [tW w1, tW w2, tW w3])) x5 (.val (tW (Rd.opp (iw inv) core))) (.own false (.lst [tW (Rd.opp (iw inv) core), tW (Rd.opp (iw inv) core), tW (Rd.opp (iw inv) w2), tW core])) (.val (tW near)) (.val (tW twin)) y10 (.val (tW core)) (.val (tW heart)) x13 x14 (.val (tW one)) (.val (tW other)) .un h10
  refine ⟨[y0, .own false (ob d12), y2, .val (tW inv), .val (.list [tW w1, tW w2, tW w3]), x5, .val (tW (Rd.opp (iw inv) core)), .own false (.lst [tW (Rd.opp (iw inv) core), tW (Rd.opp (iw inv) core), tW (Rd.opp (iw inv) w2), tW core]), .val (tW near), .val (tW twin), x10, .val (tW core), .val (tW heart), x13, x14, .val (tW one), .val (tW other), .un], ?_,
    d12, y0, y2, _, _, x5, _, _, _, _, x10, _, _, x13, x14, _, _, h0, h2, rfl, rfl, k5, rfl, rfl, rfl, rfl, k10, rfl, rfl, k13, k14, rfl, rfl, rfl⟩
  have z2 : 2 ≤ lim := by rw [lim_eq]; omega
  have z4 : 4 ≤ lim := by rw [lim_eq]; omega
  have z5 : 5 ≤ lim := by rw [lim_eq]; omega
  have z3 : (3 : Int) ≤ (lim : Int) := by rw [lim_eq]; decide
  have z1 : 1 ≤ lim := by rw [lim_eq]; omega
  replace el : sem__law_letters [.own true (ob d), .val (.list [.int 2, .int 4, .int 3, .int 1])] = _ := el
  replace ep : sem__law_pick [.own true (ob d1), .val (.list [.int 4, .int 10, .int 24, .int 0, .int 14])] = _ := ep
  have aL : fAdd (.list [tW (Rd.opp (iw inv) core), tW (Rd.opp (iw inv) core)]) (.list [tW (Rd.opp (iw inv) w2), tW core]) = some (.new (.lst [tW (Rd.opp (iw inv) core), tW (Rd.opp (iw inv) core), tW (Rd.opp (iw inv) w2), tW core])) := by
    simp only [fAdd]
    rw [if_pos (by simp only [List.length_cons, List.length_nil]; omega)]
    rfl
  unfold lp3_law
  clear hcase hx hw L rc wc rh wh redc p1 p2 q1 q2 oc wn wnr hnear w8 o1 o2 s1 s2 t1 t2
  generalize core.take 6 = C6 at *
  generalize (core.take 7).drop 1 = C17 at *
  generalize core.take 5 = C5 at *
  generalize heart.take 1 = H1 at *
  generalize core.take 8 = C8 at *
  simp [-fAdd, -List.replicate_succ, el, h3, ep, ec, eh, h11, h12, z2, z3, z4, z5, z1, ef, h4, ew, i1, i2, i3, i4, i5, i6, h6, h7, g0, g1, tx, ty, m1, n1, n2, c6, c5, c8, c17, c1, i7, a51, en, i8, h8, h9, h15, h16, o4, s4, t4, ecs, aL]
theorem law_true : ∀ ns : List Int, ns.length ≤ 63 → sem_law [.val (.list (ns.map .int))] = some (.val (.bool true), [.un]) := fun ns h => by
  obtain ⟨d, e1⟩ := deck_eq ns h
  obtain ⟨e', s1, s2⟩ := forL_ex (g := gNm 2) (b := lp3_law) (I := LawI) (B := fun _ => False) (ds := (List.range 3).map fun (i : Nat) => PyData.int i) (i := 0)
    (e := [.val (.list (ns.map .int)), .own false (ob d), .un, .un, .un, .un, .un, .un, .un, .un, .un, .un, .un, .un, .un, .un, .un, .un])
    ⟨d, _, .un, .un, .un, .un, .un, .un, .un, .un, .un, .un, .un, .un, .un, .un, .un, rfl, rfl, rfl, rfl, rfl, rfl, rfl, rfl, rfl, rfl, rfl, rfl, rfl, rfl, rfl, rfl, rfl⟩ fun j y e' hy hj hjl ⟨d, y0, y2, y3, y4, y5, y6, y7, y8, y9, y10, y11, y12, y13, y14, y15, y16, h0, h2, h3, h4, h5, h6, h7, h8, h9, h10, h11, h12, h13, h14, h15, h16, he⟩ => by
      subst he
      obtain ⟨e2, k1, k2⟩ := law_turn j [y0, .own false (ob d), .val y, y3, y4, y5, y6, y7, y8, y9, y10, y11, y12, y13, y14, y15, y16, .un]
        ⟨d, y0, .val y, y3, y4, y5, y6, y7, y8, y9, y10, y11, y12, y13, y14, y15, y16, h0, rfl, h3, h4, h5, h6, h7, h8, h9, h10, h11, h12, h13, h14, h15, h16, rfl⟩
      exact ⟨_, _, by simp [h2], k1, k2⟩
  have z3 : (3 : Int) ≤ (lim : Int) := by rw [lim_eq]; decide
  rcases s2 with ⟨d, y0, y2, y3, y4, y5, y6, y7, y8, y9, y10, y11, y12, y13, y14, y15, y16, h0, h2, h3, h4, h5, h6, h7, h8, h9, h10, h11, h12, h13, h14, h15, h16, he⟩ | q
  · subst he
    unfold sem_law mFn body_law
    simp [e1, z3, s1]
    cases y0 with
    | un => rfl
    | val _ => rfl
    | own b o =>
      cases b with
      | true => cases h0
      | false => rfl
  · exact q.elim
end K03
open PySem PySem.W PyProof.Rows in
set_option maxRecDepth 100000 in
set_option maxHeartbeats 0 in
theorem PySem.Challenge.cw_onewordeach_k03_whole_cancelling_in_any_holds : PySem.Challenge.rw_onewordeach_k03_whole_cancelling_in_any.Holds := by
  w_on; o_law; k_head; (case hw => w_witness2)
  k_fill
  refine Gx.walkG (l := PySem.Challenge.rw_onewordeach_k03_whole_cancelling_in_any) (n := 63) (k := 7) (x := "script") (f := K03.sem_law) rfl (by decide) rfl ⟨rfl, by decide, by decide⟩ (fun w h Y => PySem.W.kIn_of Y) ?F K03.law_true
  case F =>
    intro w mg fa h KX G hmg
    refine' K03.all_mk KX G hmg ?a0 ?l0 ?c0 ?k0 ?a1 ?l1 ?c1 ?k1 ?a2 ?l2 ?c2 ?k2 ?a3 ?l3 ?c3 ?k3 ?a4 ?l4 ?c4 ?k4 ?a5 ?l5 ?c5 ?k5 ?a6 ?l6 ?c6 ?k6 ?a7 ?l7 ?c7 ?k7 ?a8 ?l8 ?c8 ?k8 ?a9 ?l9 ?c9 ?k9 ?a10 ?l10 ?c10 ?k10 ?a11 ?l11 ?c11 ?k11 ?a12 ?l12 ?c12 ?k12 ?a13 ?l13 ?c13 ?k13 ?a14 ?l14 ?c14 ?k14 ?a15 ?l15 ?c15 ?k15 ?a16 ?l16 ?c16 ?k16 ?a17 ?l17 ?c17 ?k17 ?a18 ?l18 ?c18 ?k18 ?a19 ?l19 ?c19 ?k19 ?a20 ?l20 ?c20 ?k20 ?a21 ?l21 ?c21 ?k21 ?a22 ?l22 ?c22 ?k22 ?a23 ?l23 ?c23 ?k23 ?a24 ?l24 ?c24 ?k24 ?a25 ?l25 ?c25 ?k25 ?z_all ?z_bool ?z_enumerate ?z_int ?z_isinstance ?z_len ?z_list ?z_max ?z_range ?z_repr ?z_reversed ?z_tuple ?z_zip
    (case a0 => k_is)
    (case l0 => k_is)
    (case c0 => k_is)
    (case k0 => k_is)
    (case a1 => k_is)
    (case l1 => k_is)
    (case c1 => k_is)
    (case k1 => k_is)
    (case a2 => k_is)
    (case l2 => k_is)
    (case c2 => k_is)
    (case k2 => k_is)
    (case a3 => k_is)
    (case l3 => k_is)
    (case c3 => k_is)
    (case k3 => k_is)
    (case a4 => k_is)
    (case l4 => k_is)
    (case c4 => k_is)
    (case k4 => k_is)
    (case a5 => k_is)
    (case l5 => k_is)
    (case c5 => k_is)
    (case k5 => k_is)
    (case a6 => k_is)
    (case l6 => k_is)
    (case c6 => k_is)
    (case k6 => k_is)
    (case a7 => k_is)
    (case l7 => k_is)
    (case c7 => k_is)
    (case k7 => k_is)
    (case a8 => k_is)
    (case l8 => k_is)
    (case c8 => k_is)
    (case k8 => k_is)
    (case a9 => k_is)
    (case l9 => k_is)
    (case c9 => k_is)
    (case k9 => k_is)
    (case a10 => k_is)
    (case l10 => k_is)
    (case c10 => k_is)
    (case k10 => k_is)
    (case a11 => k_is)
    (case l11 => k_is)
    (case c11 => k_is)
    (case k11 => k_is)
    (case a12 => k_is)
    (case l12 => k_is)
    (case c12 => k_is)
    (case k12 => k_is)
    (case a13 => k_is)
    (case l13 => k_is)
    (case c13 => k_is)
    (case k13 => k_is)
    (case a14 => k_is)
    (case l14 => k_is)
    (case c14 => k_is)
    (case k14 => k_is)
    (case a15 => k_is)
    (case l15 => k_is)
    (case c15 => k_is)
    (case k15 => k_is)
    (case a16 => k_is)
    (case l16 => k_is)
    (case c16 => k_is)
    (case k16 => k_is)
    (case a17 => k_is)
    (case l17 => k_is)
    (case c17 => k_is)
    (case k17 => k_is)
    (case a18 => k_is)
    (case l18 => k_is)
    (case c18 => k_is)
    (case k18 => k_is)
    (case a19 => k_is)
    (case l19 => k_is)
    (case c19 => k_is)
    (case k19 => k_is)
    (case a20 => k_is)
    (case l20 => k_is)
    (case c20 => k_is)
    (case k20 => k_is)
    (case a21 => k_is)
    (case l21 => k_is)
    (case c21 => k_is)
    (case k21 => k_is)
    (case a22 => k_is)
    (case l22 => k_is)
    (case c22 => k_is)
    (case k22 => k_is)
    (case a23 => k_is)
    (case l23 => k_is)
    (case c23 => k_is)
    (case k23 => k_is)
    (case a24 => k_is)
    (case l24 => k_is)
    (case c24 => k_is)
    (case k24 => k_is)
    (case a25 => k_is)
    (case l25 => k_is)
    (case c25 => k_is)
    (case k25 => k_is)
    (case z_all => k_is)
    (case z_bool => k_is)
    (case z_enumerate => k_is)
    (case z_int => k_is)
    (case z_isinstance => k_is)
    (case z_len => k_is)
    (case z_list => k_is)
    (case z_max => k_is)
    (case z_range => k_is)
    (case z_repr => k_is)
    (case z_reversed => k_is)
    (case z_tuple => k_is)
    (case z_zip => k_is)
