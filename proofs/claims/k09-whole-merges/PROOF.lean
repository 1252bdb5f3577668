import PyProof.Rows.All
import Wide.All
import OpenK.AllK
import Wide.FinOn
import KE.KStateDown
import Lean
import HandS.ForMost
import HandS.ForExc
import HandS.Defaults
import HandS.CallSlots
import HandS.TryMany
import HandS.HeadHook1
import HandS.Lambda
import HandS.TupAny
import HandS.Style
import PyProof.Rows.SortShellAny
import HandS.IsInst
import HandS.Star
import HandS.Dict
import HandS.Ends
import HandS.Nested
import HandS.ExcInit
import KE.KExcSuper
import KE.KSuper
import HandS.ExcField
import HandS.HeadHook2
import PyProof.ReprLen
import PyProof.StrLawsRepr
import HandS.HeadHook4
import HandS.NestedK
import HandS.EndBits
import PyProof.Rows.ReprOcc
import HandS.Property
import HandS.More
import HandS.ExcIs
import HandS.Iter
import KE.KAssignIn
import HandS.ClsMeth
import HandS.WordsDict
import HandS.NoneIn
import PyProof.RulesMatch
import HandS.Conv
import HandS.ExcValue
import HandS.MakeKw
import HandS.SetTxt0
import HandS.SetFor
import HandS.Zip
import PySem.Challenge.RW_classforge_k09_whole_merges_without_ring
import HandS.Head0
import HandS.Head1
import HandS.Head2
import HandS.HeadEnd
set_option Elab.async false
set_option linter.all false
set_option maxRecDepth 100000
set_option maxHeartbeats 0
/-! D1: pure data over the hand layer: values D, the memory of changing cells, the relation to the abstract heap, judgements. -/
namespace DL
open PySem PySem.Spec L2

/-- data: tuples and lists that never change are values; ref: an object known by its address -/
inductive D where
  | non | bl (b : Bool) | int (i : Int) | str (x : Str) | ty (n : String) | ref (a : Addr)
  | tup (xs : List D) | lst (xs : List D)
  /-- a list that was there ahead of everything -/
  | klst (xs : List D)
  /-- an error that was caught, of the class c, its dict d with the fields ns -/
  | exc (a : Addr) (c : Str) (d : Option Addr) (ns : List Str) (xs : List D)
  deriving Inhabited

/-- what changes -/
inductive Cell where
  | lst (xs : List D)
  | dct (kvs : List (Key × D))
  | dcT (kvs : List (List Key × D))
  | ins (C : Str) (fs : List (Str × D))
  /-- the table of the code objects that a def's code has made: all of the name q -/
  | tab (q : Str)
  /-- a function object: what is true of it, and of what never changes any more -/
  | lam (φ : Heap → Prop) (T : Hp → Prop)
  /-- an error's object: its class, its dict -/
  | err (c : Str) (d : Option Addr)
  /-- a dict that is walked: it stands as o -/
  | fdct (o : Obj) (qs : List (Key × V)) (kvs : List (Key × D))
abbrev Mem := Addr → Option Cell
def Mem.put (m : Mem) (a : Addr) (c : Cell) : Mem := fun b => if b = a then some c else m b
def Mem.del (m : Mem) (a : Addr) : Mem := fun b => if b = a then none else m b
def Mem.le (m m' : Mem) : Prop := ∀ a c, m a = some c → m' a = some c
theorem Mem.le_refl (m : Mem) : m.le m := fun _ _ h => h
theorem Mem.le_trans {a b c : Mem} (h : a.le b) (h' : b.le c) : a.le c := fun x y z => h' x y (h x y z)
@[simp] theorem Mem.put_same {m : Mem} {a : Addr} {c : Cell} : (m.put a c) a = some c := by simp [Mem.put]
theorem Mem.put_ne {m : Mem} {a b : Addr} {c : Cell} (h : b ≠ a) : (m.put a c) b = m b := by simp [Mem.put, h]
@[simp] theorem Mem.del_same {m : Mem} {a : Addr} : (m.del a) a = none := by simp [Mem.del]
theorem Mem.del_ne {m : Mem} {a b : Addr} (h : b ≠ a) : (m.del a) b = m b := by simp [Mem.del, h]
@[simp] theorem Mem.put_put {m : Mem} {a : Addr} {c c' : Cell} : (m.put a c).put a c' = m.put a c' := by
  funext b; unfold Mem.put; split <;> rfl
@[simp] theorem Mem.put_del {m : Mem} {a : Addr} {c : Cell} : (m.put a c).del a = m.del a := by
  funext b; unfold Mem.put Mem.del; by_cases h : b = a <;> simp [h]
theorem Mem.del_none {m : Mem} {a : Addr} (h : m a = none) : m.del a = m := by
  funext b; unfold Mem.del; split
  · rename_i e; rw [e, h]
  · rfl
theorem Mem.put_comm {m : Mem} {a b : Addr} {c c' : Cell} (h : a ≠ b) : (m.put a c).put b c' = (m.put b c').put a c := by
  funext x; unfold Mem.put; split
  · split
    · rename_i e1 e2; exact absurd (e2.symm.trans e1) h
    · rfl
  · rfl
theorem Mem.put_del_comm {m : Mem} {a b : Addr} {c : Cell} (h : a ≠ b) : (m.put a c).del b = (m.del b).put a c := by
  funext x; unfold Mem.put Mem.del; split
  · split
    · rename_i e1 e2; exact absurd (e2.symm.trans e1) h
    · rfl
  · rfl
theorem Mem.le_put {m : Mem} {a : Addr} {c : Cell} (h : m a = none) : m.le (m.put a c) := fun b o e => by
  have : b ≠ a := fun z => by rw [z, h] at e; cases e
  rw [Mem.put_ne this]; exact e
theorem Mem.ne_of {m : Mem} {a b : Addr} {c : Cell} (h : m a = some c) (h' : m b = none) : a ≠ b := fun z => by
  rw [z, h'] at h; cases h

/-- the written part -/
abbrev Frag := PySem.W.Frag
abbrev ga (K : Frag) (x : Str) : Addr := He.ga K x

mutual
/-- data as it stands: F is what never changes any more -/
def Den (K : Frag) (F : Hp) : D → V → Prop
  | .non, v => v = .non
  | .bl b, v => v = .bl b
  | .int i, v => v = .int i
  | .str x, v => v = .str x
  | .ty n, v => v = .ty n
  | .ref a, v => v = .ref a
  | .tup ds, v => ∃ a vs, v = .ref a ∧ SqT K F a vs ∧ Dens K F ds vs
  | .lst ds, v => ∃ a vs, v = .ref a ∧ Rd F a (.lst vs) ∧ Dens K F ds vs
  | .klst ds, v => ∃ a vs, v = .ref a ∧ SqL K F a vs ∧ Dens K F ds vs
  | .exc a _ d ns ds, v => v = .ref a ∧ ∃ vs, Dens K F ds vs ∧ ((d = none ∧ ns = []) ∨ ∃ dd gs, d = some dd ∧ F dd = some (.xd gs) ∧ gs.map (·.1) = ns ∧ gs.map (·.2) = vs)
def Dens (K : Frag) (F : Hp) : List D → List V → Prop
  | [], vs => vs = []
  | d :: ds, vs => ∃ v r, vs = v :: r ∧ Den K F d v ∧ Dens K F ds r
end
def Sub (F F' : Hp) : Prop := ∀ a o, F a = some o → F' a = some o
theorem Sub.refl (F : Hp) : Sub F F := fun _ _ h => h
theorem Sub.trans {F G H : Hp} (a : Sub F G) (b : Sub G H) : Sub F H := fun x o h => b x o (a x o h)
theorem Sub.rd {F F' : Hp} (s : Sub F F') {a : Addr} {u : HO} (h : Rd F a u) : Rd F' a u := by
  rcases h with h | ⟨o, h⟩
  · exact .inl (s _ _ h)
  · exact .inr ⟨o, s _ _ h⟩
theorem Sub.sqL {K : Frag} {F F' : Hp} (s : Sub F F') {a : Addr} {xs : List V} (h : SqL K F a xs) : SqL K F' a xs := by
  rcases h with h | h
  · exact .inl (s.rd h)
  · exact .inr h
theorem Sub.sqT {K : Frag} {F F' : Hp} (s : Sub F F') {a : Addr} {xs : List V} (h : SqT K F a xs) : SqT K F' a xs := by
  rcases h with h | h
  · exact .inl (s.rd h)
  · exact .inr h
mutual
theorem Den.mono {K : Frag} {F F' : Hp} (s : Sub F F') : ∀ {d : D} {v : V}, Den K F d v → Den K F' d v
  | .non, _, h => h
  | .bl _, _, h => h
  | .int _, _, h => h
  | .str _, _, h => h
  | .ty _, _, h => h
  | .ref _, _, h => h
  | .tup ds, _, h => by
    simp only [Den] at h ⊢
    obtain ⟨a, vs, e, q, r⟩ := h
    exact ⟨a, vs, e, s.sqT q, Dens.mono s r⟩
  | .lst ds, _, h => by
    simp only [Den] at h ⊢
    obtain ⟨a, vs, e, q, r⟩ := h
    exact ⟨a, vs, e, s.rd q, Dens.mono s r⟩
  | .klst ds, _, h => by
    simp only [Den] at h ⊢
    obtain ⟨a, vs, e, q, r⟩ := h
    exact ⟨a, vs, e, s.sqL q, Dens.mono s r⟩
  | .exc a c d ns ds, _, h => by
    simp only [Den] at h ⊢
    obtain ⟨e, vs, r, q⟩ := h
    refine ⟨e, vs, Dens.mono s r, ?_⟩
    rcases q with q | ⟨dd, gs, e1, e2, e3⟩
    · exact .inl q
    · exact .inr ⟨dd, gs, e1, s _ _ e2, e3⟩
theorem Dens.mono {K : Frag} {F F' : Hp} (s : Sub F F') : ∀ {ds : List D} {vs : List V}, Dens K F ds vs → Dens K F' ds vs
  | [], _, h => h
  | d :: ds, _, h => by
    simp only [Dens] at h ⊢
    obtain ⟨v, r, e, q, z⟩ := h
    exact ⟨v, r, e, Den.mono s q, Dens.mono s z⟩
end
theorem Dens.length {K : Frag} {F : Hp} : ∀ {ds : List D} {vs : List V}, Dens K F ds vs → ds.length = vs.length
  | [], _, h => by simp only [Dens] at h; subst h; rfl
  | d :: ds, _, h => by
    simp only [Dens] at h
    obtain ⟨v, r, rfl, q, z⟩ := h
    simp [Dens.length z]
theorem Dens.get {K : Frag} {F : Hp} : ∀ {ds : List D} {vs : List V} {i : Nat} {d : D}, Dens K F ds vs → ds[i]? = some d → ∃ v, vs[i]? = some v ∧ Den K F d v
  | [], _, _, _, _, e => by simp at e
  | d :: ds, _, 0, x, h, e => by
    simp only [Dens] at h
    obtain ⟨v, r, rfl, q, z⟩ := h
    simp at e; subst e
    exact ⟨v, rfl, q⟩
  | d :: ds, _, i + 1, x, h, e => by
    simp only [Dens] at h
    obtain ⟨v, r, rfl, q, z⟩ := h
    simpa using Dens.get (i := i) z (by simpa using e)
theorem Dens.append {K : Frag} {F : Hp} : ∀ {ds es : List D} {vs ws : List V}, Dens K F ds vs → Dens K F es ws → Dens K F (ds ++ es) (vs ++ ws)
  | [], _, _, _, h, h' => by simp only [Dens] at h; subst h; exact h'
  | d :: ds, es, _, ws, h, h' => by
    simp only [Dens] at h
    obtain ⟨v, r, rfl, q, z⟩ := h
    show Dens K F (d :: (ds ++ es)) (v :: (r ++ ws))
    simp only [Dens]
    exact ⟨v, _, rfl, q, Dens.append z h'⟩
theorem Dens.one {K : Frag} {F : Hp} {d : D} {v : V} (h : Den K F d v) : Dens K F [d] [v] := by
  simp only [Dens]; exact ⟨v, [], rfl, h, rfl⟩
theorem Dens.cons {K : Frag} {F : Hp} {d : D} {v : V} {ds : List D} {vs : List V} (h : Den K F d v) (h' : Dens K F ds vs) : Dens K F (d :: ds) (v :: vs) := by
  simp only [Dens]; exact ⟨v, vs, rfl, h, h'⟩
theorem Dens.nil {K : Frag} {F : Hp} : Dens K F [] [] := by simp only [Dens]
theorem Dens.drop {K : Frag} {F : Hp} : ∀ {ds : List D} {vs : List V} (n : Nat), Dens K F ds vs → Dens K F (ds.drop n) (vs.drop n)
  | ds, vs, 0, h => h
  | [], _, n + 1, h => by simp only [Dens] at h; subst h; exact Dens.nil
  | d :: ds, _, n + 1, h => by
    simp only [Dens] at h
    obtain ⟨v, r, rfl, q, z⟩ := h
    exact Dens.drop n z
theorem Dens.take {K : Frag} {F : Hp} : ∀ {ds : List D} {vs : List V} (n : Nat), Dens K F ds vs → Dens K F (ds.take n) (vs.take n)
  | ds, vs, 0, h => by simp only [List.take_zero]; exact Dens.nil
  | [], _, n + 1, h => by simp only [Dens] at h; subst h; exact Dens.nil
  | d :: ds, _, n + 1, h => by
    simp only [Dens] at h
    obtain ⟨v, r, rfl, q, z⟩ := h
    exact Dens.cons q (Dens.take n z)
theorem Dens.set {K : Frag} {F : Hp} {d : D} {v : V} (hd : Den K F d v) : ∀ {ds : List D} {vs : List V} (n : Nat), Dens K F ds vs → Dens K F (ds.set n d) (vs.set n v)
  | [], _, n, h => by simp only [Dens] at h; subst h; exact Dens.nil
  | e :: ds, _, 0, h => by
    simp only [Dens] at h
    obtain ⟨w, r, rfl, q, z⟩ := h
    exact Dens.cons hd z
  | e :: ds, _, n + 1, h => by
    simp only [Dens] at h
    obtain ⟨w, r, rfl, q, z⟩ := h
    exact Dens.cons q (Dens.set hd n z)

/-- pairs of a dict -/
def DenP {κ : Type} (K : Frag) (F : Hp) : List (κ × D) → List (κ × V) → Prop := Paired fun p q => p.1 = q.1 ∧ Den K F p.2 q.2
theorem DenP.mono {κ : Type} {K : Frag} {F F' : Hp} (s : Sub F F') {ps : List (κ × D)} {qs : List (κ × V)} (h : DenP K F ps qs) : DenP K F' ps qs :=
  Paired.mapP h fun _ _ z => ⟨z.1, z.2.mono s⟩
theorem DenP.lookup {κ : Type} [BEq κ] {K : Frag} {F : Hp} {k : κ} : ∀ {ps : List (κ × D)} {qs : List (κ × V)}, DenP K F ps qs → ∀ {d : D}, ps.lookup k = some d → ∃ v, qs.lookup k = some v ∧ Den K F d v
  | _, _, .nil, _, e => by simp at e
  | (a, b) :: _, (a', b') :: _, .cons h t, d, e => by
    obtain ⟨h1, h2⟩ := h
    have h1 : a = a' := h1
    subst h1
    rw [List.lookup_cons] at e ⊢
    split at e
    · cases e; exact ⟨b', rfl, h2⟩
    · exact DenP.lookup t e
theorem DenP.lookup_none {κ : Type} [BEq κ] {K : Frag} {F : Hp} {k : κ} : ∀ {ps : List (κ × D)} {qs : List (κ × V)}, DenP K F ps qs → ps.lookup k = none → qs.lookup k = none
  | _, _, .nil, e => rfl
  | (a, b) :: _, (a', b') :: _, .cons h t, e => by
    obtain ⟨h1, h2⟩ := h
    have h1 : a = a' := h1
    subst h1
    rw [List.lookup_cons] at e ⊢
    split at e
    · cases e
    · exact DenP.lookup_none t e
theorem DenP.length {κ : Type} {K : Frag} {F : Hp} {ps : List (κ × D)} {qs : List (κ × V)} (h : DenP K F ps qs) : ps.length = qs.length := Paired.length h

/-- the object at a, as it is -/
def errO (a : Addr) (oe : Obj) : HO := .ext fun h => h.get? a = some oe
/-- a cell as it stands -/
def CellOk (K : Frag) (F H : Hp) (a : Addr) : Cell → Prop
  | .lst ds => ∃ vs, H a = some (.lst vs) ∧ Dens K F ds vs
  | .dct kvs => ∃ qs, H a = some (.dK qs) ∧ DenP K F kvs qs
  | .dcT kvs => ∃ qs, H a = some (.dT qs) ∧ DenP K F kvs qs
  | .ins C fs => ∃ dx gs, H a = some (.ins (ga K C) dx gs) ∧ DenP K F fs gs
  | .tab q => ∃ ps : Array Value, H a = some (.tbl ps) ∧ TriplesOk ps.toList ∧ ∀ (pos : Pos) (cv : Value), codeAmong pos ps.toList = some cv → ∃ c, cv = .ref c ∧ F c = some (LamX.CodeO c q)
  | .lam φ T => H a = some (.ext φ) ∧ T F ∧ ∀ F1 F2, Sub F1 F2 → T F1 → T F2
  | .err c d => ∃ oe : Obj, H a = some (errO a oe) ∧ oe.cls = .ref (ga K c) ∧ oe.dict = d ∧ ∃ vs, oe.data = .fields vs
  | .fdct o qs kvs => H a = some (.frz o (.dK qs)) ∧ DenP K F kvs qs
/-- F: what never changes; m: what may; H: the abstract heap -/
structure Rel (K : Frag) (F : Hp) (m : Mem) (H : Hp) : Prop where
  fz : Sub F H
  me : ∀ a c, m a = some c → F a = none ∧ CellOk K F H a c
theorem CellOk.some {K : Frag} {F H : Hp} {a : Addr} {c : Cell} (h : CellOk K F H a c) : ∃ o, H a = some o := by
  cases c <;> simp only [CellOk] at h
  · obtain ⟨_, e, _⟩ := h; exact ⟨_, e⟩
  · obtain ⟨_, e, _⟩ := h; exact ⟨_, e⟩
  · obtain ⟨_, e, _⟩ := h; exact ⟨_, e⟩
  · obtain ⟨_, _, e, _⟩ := h; exact ⟨_, e⟩
  · obtain ⟨_, e, _⟩ := h; exact ⟨_, e⟩
  · exact ⟨_, h.1⟩
  · obtain ⟨_, e, _⟩ := h; exact ⟨_, e⟩
  · exact ⟨_, h.1⟩
theorem CellOk.to {K : Frag} {F F' H H' : Hp} {a : Addr} {c : Cell} (h : CellOk K F H a c) (s : Sub F F') (e : H' a = H a) : CellOk K F' H' a c := by
  cases c <;> simp only [CellOk] at h ⊢
  · obtain ⟨vs, e1, r⟩ := h; exact ⟨vs, e.trans e1, r.mono s⟩
  · obtain ⟨vs, e1, r⟩ := h; exact ⟨vs, e.trans e1, r.mono s⟩
  · obtain ⟨vs, e1, r⟩ := h; exact ⟨vs, e.trans e1, r.mono s⟩
  · obtain ⟨dx, gs, e1, r⟩ := h; exact ⟨dx, gs, e.trans e1, r.mono s⟩
  · obtain ⟨ps, e1, h1, h2⟩ := h; exact ⟨ps, e.trans e1, h1, fun pos cv hc => let ⟨c, a, b⟩ := h2 pos cv hc; ⟨c, a, s _ _ b⟩⟩
  · exact ⟨e.trans h.1, h.2.2 _ _ s h.2.1, h.2.2⟩
  · obtain ⟨oe, e1, r⟩ := h; exact ⟨oe, e.trans e1, r⟩
  · exact ⟨e.trans h.1, h.2.mono s⟩
section
variable {K : Frag} {F : Hp} {m m' : Mem} {H : Hp}
theorem Rel.le (r : Rel K F m H) (h : m'.le m) : Rel K F m' H := ⟨r.fz, fun a c e => r.me a c (h a c e)⟩
theorem Rel.free (r : Rel K F m H) {a : Addr} (h : H a = none) : F a = none ∧ m a = none := by
  constructor
  · cases e : F a with
    | none => rfl
    | some o => rw [r.fz a o e] at h; cases h
  · cases e : m a with
    | none => rfl
    | some c =>
      obtain ⟨_, q⟩ := r.me a c e
      obtain ⟨o, z⟩ := q.some
      rw [z] at h; cases h
/-- a new object that will not change -/
theorem Rel.frozen (r : Rel K F m H) {a : Addr} {o : HO} (h : H a = none) : Rel K (upd F a o) m (upd H a o) ∧ Sub F (upd F a o) := by
  obtain ⟨f1, f2⟩ := r.free h
  have sb : Sub F (upd F a o) := fun b u e => by
    rw [upd_ne (fun z => by rw [z, f1] at e; cases e)]; exact e
  refine ⟨⟨fun b u e => ?_, fun b c e => ?_⟩, sb⟩
  · by_cases z : b = a
    · subst z; rw [upd_same] at e ⊢; exact e
    · rw [upd_ne z] at e ⊢; exact r.fz b u e
  · have z : b ≠ a := fun z => by rw [z, f2] at e; cases e
    obtain ⟨g, q⟩ := r.me b c e
    exact ⟨by rw [upd_ne z]; exact g, q.to sb (upd_ne z)⟩
/-- a new cell -/
theorem Rel.fresh (r : Rel K F m H) {a : Addr} {o : HO} {c : Cell} (h : H a = none) (q : CellOk K F (upd H a o) a c) : Rel K F (m.put a c) (upd H a o) := by
  obtain ⟨f1, f2⟩ := r.free h
  refine ⟨fun b u e => ?_, fun b c' e => ?_⟩
  · rw [upd_ne (fun z => by rw [z, f1] at e; cases e)]; exact r.fz b u e
  · by_cases z : b = a
    · subst z; rw [Mem.put_same] at e; cases e; exact ⟨f1, q⟩
    · rw [Mem.put_ne z] at e
      obtain ⟨g, q'⟩ := r.me b c' e
      exact ⟨g, q'.to (Sub.refl F) (upd_ne z)⟩
/-- a cell changed -/
theorem Rel.store (r : Rel K F m H) {a : Addr} {o : HO} {c c0 : Cell} (h : m a = some c0) (q : CellOk K F (upd H a o) a c) : Rel K F (m.put a c) (upd H a o) := by
  obtain ⟨f1, _⟩ := r.me a c0 h
  refine ⟨fun b u e => ?_, fun b c' e => ?_⟩
  · rw [upd_ne (fun z => by rw [z, f1] at e; cases e)]; exact r.fz b u e
  · by_cases z : b = a
    · subst z; rw [Mem.put_same] at e; cases e; exact ⟨f1, q⟩
    · rw [Mem.put_ne z] at e
      obtain ⟨g, q'⟩ := r.me b c' e
      exact ⟨g, q'.to (Sub.refl F) (upd_ne z)⟩
/-- a list that will not change any more -/
theorem Rel.freeze (r : Rel K F m H) {a : Addr} {ds : List D} (h : m a = some (.lst ds)) : ∃ F', Sub F F' ∧ Rel K F' (m.del a) H ∧ Den K F' (.lst ds) (.ref a) := by
  obtain ⟨f1, q⟩ := r.me a _ h
  simp only [CellOk] at q
  obtain ⟨vs, e, dn⟩ := q
  have sb : Sub F (upd F a (.lst vs)) := fun b u e => by
    rw [upd_ne (fun z => by rw [z, f1] at e; cases e)]; exact e
  refine ⟨upd F a (.lst vs), sb, ⟨fun b u e' => ?_, fun b c e' => ?_⟩, ?_⟩
  · by_cases z : b = a
    · subst z; rw [upd_same] at e'; rw [← e']; exact e
    · rw [upd_ne z] at e'; exact r.fz b u e'
  · have z : b ≠ a := fun z => by rw [z, Mem.del_same] at e'; cases e'
    rw [Mem.del_ne z] at e'
    obtain ⟨g, q'⟩ := r.me b c e'
    exact ⟨by rw [upd_ne z]; exact g, q'.to sb rfl⟩
  · simp only [Den]
    exact ⟨a, vs, rfl, .inl upd_same, dn.mono sb⟩
theorem Rel.sqT (r : Rel K F m H) {a : Addr} {xs : List V} (h : SqT K F a xs) : SqT K H a xs := Sub.sqT r.fz h
theorem Rel.rd (r : Rel K F m H) {a : Addr} {u : HO} (h : Rd F a u) : Rd H a u := Sub.rd r.fz h
theorem Rel.sqL (r : Rel K F m H) {a : Addr} {xs : List V} (h : SqL K F a xs) : SqL K H a xs := Sub.sqL r.fz h
end

/-! ### a def's names -/
abbrev En := List (Option D)
structure EnvDen (K : Frag) (F : Hp) (σ : St) (env : En) : Prop where
  len : env.length = σ.length
  at_ : ∀ (i : Nat) (d : D), env[i]? = some (some d) → ∃ v : V, σ[i]? = some (some v) ∧ Den K F d v
theorem EnvDen.mono {K : Frag} {F F' : Hp} {σ : St} {env : En} (h : EnvDen K F σ env) (s : Sub F F') : EnvDen K F' σ env :=
  ⟨h.len, fun i d e => let ⟨v, a, b⟩ := h.at_ i d e; ⟨v, a, b.mono s⟩⟩
theorem EnvDen.set {K : Frag} {F : Hp} {σ : St} {env : En} (h : EnvDen K F σ env) {d : D} {v : V} (r : Den K F d v) (i : Nat) : EnvDen K F (σ.set i (some v)) (env.set i (some d)) := by
  refine ⟨by simp [h.len], fun j e he => ?_⟩
  by_cases z : i = j
  · subst z
    by_cases l : i < env.length
    · rw [List.getElem?_set_self l] at he
      cases he
      exact ⟨v, List.getElem?_set_self (by rw [← h.len]; exact l), r⟩
    · rw [List.getElem?_eq_none (by simpa using l)] at he; cases he
  · rw [List.getElem?_set_ne z] at he ⊢
    exact h.at_ j e he
theorem EnvDen.unset {K : Frag} {F : Hp} {σ : St} {env : En} (h : EnvDen K F σ env) (i : Nat) : EnvDen K F (σ.set i none) (env.set i none) := by
  refine ⟨by simp [h.len], fun j e he => ?_⟩
  by_cases z : i = j
  · subst z
    by_cases l : i < env.length
    · rw [List.getElem?_set_self l] at he; cases he
    · rw [List.getElem?_eq_none (by simpa using l)] at he; cases he
  · rw [List.getElem?_set_ne z] at he ⊢
    exact h.at_ j e he

/-! ### errors -/
structure Exc where
  cls : Str
  fs : List (Str × D) := []
def ExcAt (K : Frag) (F : Hp) (cls : Value) (d : Option Addr) (H : Hp) (x : Exc) : Prop :=
  cls = .ref (ga K x.cls) ∧ ((x.fs = [] ∧ d = none) ∨ ∃ dd gs, d = some dd ∧ H dd = some (.xd gs) ∧ DenP K F x.fs gs)

abbrev Po := D → Mem → Prop
abbrev Xo := Exc → Mem → Prop
abbrev Xc := Exc → En → Mem → Prop
abbrev WE := En → Mem → Po → Xo → Prop
abbrev WT := En → Mem → (Bool → Mem → Prop) → Xo → Prop
abbrev WA := En → Mem → (List D → Mem → Prop) → Xo → Prop
structure De where
  nx : En → Mem → Prop
  rt : D → Mem → Prop
  bk : En → Mem → Prop := fun _ _ => False
  ct : En → Mem → Prop := fun _ _ => False
  xc : Xc := fun _ _ _ => False
abbrev WS := De → En → Mem → Prop

def WofD (K : Frag) (F0 : Hp) (xc : Xc) : WX := fun cls d σ H => ∃ F m env x, Sub F0 F ∧ Rel K F m H ∧ EnvDen K F σ env ∧ ExcAt K F cls d H x ∧ xc x env m
/-- errors that this place lets out -/
def Acc (X : Cx) (F : Hp) (xc : Xc) : Prop := ∃ F0, Sub F0 F ∧ Takes X (WofD X.K F0 xc)
theorem Acc.no {X : Cx} {F : Hp} : Acc X F (fun _ _ _ => False) := ⟨F, Sub.refl F, fun _ _ ⟨_, _, _, _, _, _, _, _, _, _, _, _, _, _, _, _, w⟩ => by
  obtain ⟨_, _, _, _, _, _, _, _, z⟩ := w
  exact z.elim⟩
theorem Acc.mono {X : Cx} {F F' : Hp} {xc : Xc} (a : Acc X F xc) (s : Sub F F') : Acc X F' xc := let ⟨F0, s0, t⟩ := a; ⟨F0, s0.trans s, t⟩
theorem Acc.imp {X : Cx} {F : Hp} {xc xc' : Xc} (a : Acc X F xc) (h : ∀ x e m, xc' x e m → xc x e m) : Acc X F xc' :=
  let ⟨F0, s0, t⟩ := a
  ⟨F0, s0, Takes.imp t fun _ _ _ _ ⟨F, m, env, x, s, r, e, q, z⟩ => ⟨F, m, env, x, s, r, e, q, h _ _ _ z⟩⟩

/-- the readings of the hand layer that these words stand for -/
def tW (X : Cx) (w : WE) : TE := fun σ H Q => ∃ (F : Hp) (m : Mem) (env : En) (Qd : Po) (xc : Xc), Rel X.K F m H ∧ EnvDen X.K F σ env ∧ Acc X F xc ∧ w env m Qd (fun x m' => xc x env m') ∧
  ∀ v H' F' m' d, Sub F F' → Rel X.K F' m' H' → Den X.K F' d v → Qd d m' → Q v H'
def tWT (X : Cx) (w : WT) : TT := fun σ H Q => ∃ (F : Hp) (m : Mem) (env : En) (Qd : Bool → Mem → Prop) (xc : Xc), Rel X.K F m H ∧ EnvDen X.K F σ env ∧ Acc X F xc ∧ w env m Qd (fun x m' => xc x env m') ∧
  ∀ b H' F' m', Sub F F' → Rel X.K F' m' H' → Qd b m' → Q b H'
def tWA (X : Cx) (w : WA) : TA := fun σ H Q => ∃ (F : Hp) (m : Mem) (env : En) (Qd : List D → Mem → Prop) (xc : Xc), Rel X.K F m H ∧ EnvDen X.K F σ env ∧ Acc X F xc ∧ w env m Qd (fun x m' => xc x env m') ∧
  ∀ vs H' F' m' ds, Sub F F' → Rel X.K F' m' H' → Dens X.K F' ds vs → Qd ds m' → Q vs H'
def Fw (K : Frag) (F : Hp) (p : En → Mem → Prop) (q : St → Hp → Prop) : Prop := ∀ σ H F' m env, Sub F F' → Rel K F' m H → EnvDen K F' σ env → p env m → q σ H
theorem Fw.mono {K : Frag} {F F' : Hp} {p : En → Mem → Prop} {q : St → Hp → Prop} (h : Fw K F p q) (s : Sub F F') : Fw K F' p q := fun σ H G m env z => h σ H G m env (s.trans z)
def tWS (X : Cx) (w : WS) : TS := fun D σ H => ∃ (F : Hp) (m : Mem) (env : En) (E : De), Rel X.K F m H ∧ EnvDen X.K F σ env ∧ Acc X F E.xc ∧ w E env m ∧
  Fw X.K F E.nx D.nx ∧ Fw X.K F E.bk D.bk ∧ Fw X.K F E.ct D.ct ∧ ∀ v H' F' m' d, Sub F F' → Rel X.K F' m' H' → Den X.K F' d v → E.rt d m' → D.rt v H'
abbrev DE (X : Cx) (e : Expr) (w : WE) : Prop := PE X e (tW X w)
abbrev DT (X : Cx) (e : Expr) (w : WT) : Prop := PT X e (tWT X w)
abbrev DW (X : Cx) (e : Expr) (w : WT) : Prop := PW X e (tWT X w)
abbrev DA (X : Cx) (es : List Expr) (w : WA) : Prop := PA X es (tWA X w)
abbrev DS (X : Cx) (st : Stmt) (w : WS) : Prop := PS X st (tWS X w)
abbrev DSs (X : Cx) (st : List Stmt) (w : WS) : Prop := PSs X st (tWS X w)

theorem wkE {X : Cx} {e : Expr} {t t' : TE} (h : PE X e t) (i : ∀ σ H Q, t' σ H Q → t σ H Q) : PE X e t' := ⟨fun p s σ H Q I z => h.run p s σ H Q I (i _ _ _ z)⟩
theorem wkT {X : Cx} {e : Expr} {t t' : TT} (h : PT X e t) (i : ∀ σ H Q, t' σ H Q → t σ H Q) : PT X e t' := ⟨fun p s σ H Q I z => h.run p s σ H Q I (i _ _ _ z)⟩
theorem wkW {X : Cx} {e : Expr} {t t' : TT} (h : PW X e t) (i : ∀ σ H Q, t' σ H Q → t σ H Q) : PW X e t' := ⟨fun wh p s σ H Q I z => h.run wh p s σ H Q I (i _ _ _ z)⟩
theorem wkA {X : Cx} {e : List Expr} {t t' : TA} (h : PA X e t) (i : ∀ σ H Q, t' σ H Q → t σ H Q) : PA X e t' := ⟨fun ps p s σ H Q I z => h.run ps p s σ H Q I (i _ _ _ z)⟩
theorem wkS {X : Cx} {e : Stmt} {t t' : TS} (h : PS X e t) (i : ∀ D σ H, t' D σ H → t D σ H) : PS X e t' := ⟨fun p s σ H D I z => h.run p s σ H D I (i _ _ _ z)⟩
theorem wkSs {X : Cx} {e : List Stmt} {t t' : TS} (h : PSs X e t) (i : ∀ D σ H, t' D σ H → t D σ H) : PSs X e t' := ⟨fun p s σ H D I z => h.run p s σ H D I (i _ _ _ z)⟩

section
variable {X : Cx}
/-- a sub-expression within a reading -/
theorem tW.sub {w : WE} {F : Hp} {m : Mem} {env : En} {σ : St} {H : Hp} {Qd : Po} {xc : Xc} {Q : VK} (r : Rel X.K F m H) (e : EnvDen X.K F σ env) (a : Acc X F xc) (h : w env m Qd (fun x m' => xc x env m'))
    (k : ∀ v H' F' m' d, Sub F F' → Rel X.K F' m' H' → EnvDen X.K F' σ env → Den X.K F' d v → Qd d m' → Q v H') : tW X w σ H Q :=
  ⟨F, m, env, Qd, xc, r, e, a, h, fun v H' F' m' d s r' dn q => k v H' F' m' d s r' (e.mono s) dn q⟩
theorem tWT.sub {w : WT} {F : Hp} {m : Mem} {env : En} {σ : St} {H : Hp} {Qd : Bool → Mem → Prop} {xc : Xc} {Q : Bool → Hp → Prop} (r : Rel X.K F m H) (e : EnvDen X.K F σ env) (a : Acc X F xc) (h : w env m Qd (fun x m' => xc x env m'))
    (k : ∀ b H' F' m', Sub F F' → Rel X.K F' m' H' → EnvDen X.K F' σ env → Qd b m' → Q b H') : tWT X w σ H Q :=
  ⟨F, m, env, Qd, xc, r, e, a, h, fun b H' F' m' s r' q => k b H' F' m' s r' (e.mono s) q⟩
theorem tWA.sub {w : WA} {F : Hp} {m : Mem} {env : En} {σ : St} {H : Hp} {Qd : List D → Mem → Prop} {xc : Xc} {Q : List V → Hp → Prop} (r : Rel X.K F m H) (e : EnvDen X.K F σ env) (a : Acc X F xc) (h : w env m Qd (fun x m' => xc x env m'))
    (k : ∀ vs H' F' m' ds, Sub F F' → Rel X.K F' m' H' → EnvDen X.K F' σ env → Dens X.K F' ds vs → Qd ds m' → Q vs H') : tWA X w σ H Q :=
  ⟨F, m, env, Qd, xc, r, e, a, h, fun vs H' F' m' ds s r' dn q => k vs H' F' m' ds s r' (e.mono s) dn q⟩

/-! ### names, constants -/
def wVar (i : Nat) : WE := fun env m Q _ => ∃ d, env[i]? = some (some d) ∧ Q d m
def wC (d : D) : WE := fun _ m Q _ => Q d m
theorem dv (i : Nat) {x : Str} {pos : Pos} (hN : X.N[i]? = some x := by rfl) (hv : Vis X.env.scope x := by first | exact Or.inl rfl | exact Or.inr (Or.inl rfl) | exact Or.inr (Or.inr rfl)) (hd : (x == ("__debug__" : Str)) = false := by decide)
    (hcd : (x == ("__classdict__" : Str)) = false := by decide) : DE X (.Name x pos) (wVar i) := wkE (pe_var hN hv hd hcd) fun σ H Q ⟨F, m, env, Qd, xc, r, en, a, ⟨d, e, q⟩, k⟩ => by
  obtain ⟨v, e1, dn⟩ := en.at_ i d e
  exact ⟨v, e1, k v H F m d (Sub.refl F) r dn q⟩
theorem dC {e : Expr} {v : V} {d : D} (h : PE X e (tC v)) (hd : ∀ F, Den X.K F d v) : DE X e (wC d) := wkE h fun σ H Q ⟨F, m, env, Qd, xc, r, en, a, q, k⟩ => k v H F m d (Sub.refl F) r (hd F) q
theorem dint {i j pos} : DE X (.Constant (.int i) j pos) (wC (.int i)) := dC pe_int fun _ => by simp only [Den]
theorem dbl {b j pos} : DE X (.Constant (.bool b) j pos) (wC (.bl b)) := dC pe_bl fun _ => by simp only [Den]
theorem dnon {j pos} : DE X (.Constant .none j pos) (wC .non) := dC pe_non fun _ => by simp only [Den]
theorem dstr {x j pos} : DE X (.Constant (.str x) j pos) (wC (.str x)) := dC pe_str fun _ => by simp only [Den]

/-! ### operators -/
abbrev WO := D → D → Mem → Po → Xo → Prop
def wBin (f : WO) (wa wb : WE) : WE := fun env m Q E => wa env m (fun x m1 => wb env m1 (fun y m2 => f x y m2 Q E) E) E
/-- an operation by values: r is the hand layer's, f ours -/
def OpD (X : Cx) (r : R2) (f : WO) : Prop := ∀ (F : Hp) (m : Mem) (H : Hp) (x y : D) (v u : V) (Qd : Po) (E : Xo) (Q : VK), Rel X.K F m H → Den X.K F x v → Den X.K F y u → f x y m Qd E →
  (∀ v' H' F' m' d, Sub F F' → Rel X.K F' m' H' → Den X.K F' d v' → Qd d m' → Q v' H') → r v u H Q
theorem dbin_of {e a b : Expr} {r : R2} {f : WO} {wa wb : WE} (h : PE X e (tOp r (tW X wa) (tW X wb))) (o : OpD X r f) : DE X e (wBin f wa wb) := wkE h fun σ H Q ⟨F, m, env, Qd, xc, r0, en, a, q, k⟩ =>
  tW.sub r0 en a q fun v1 H1 F1 m1 d1 s1 r1 en1 dn1 q1 =>
    tW.sub r1 en1 (a.mono s1) q1 fun v2 H2 F2 m2 d2 s2 r2 en2 dn2 q2 =>
      o F2 m2 H2 d1 d2 v1 v2 Qd _ Q r2 (dn1.mono s2) dn2 q2 fun v' H' F' m' d s => k v' H' F' m' d ((s1.trans s2).trans s)
theorem dbin {op : Operator} {a b : Expr} {pos : Pos} {r : R2} {f : WO} {wa wb : WE} (ho : OpR X (binaryOp op) r) (o : OpD X r f) (ha : DE X a wa) (hb : DE X b wb) : DE X (.BinOp a op b pos) (wBin f wa wb) := dbin_of (a := a) (b := b) (pe_op ho ha hb) o
theorem dcmp {op : CmpOp} {a b : Expr} {pos : Pos} {r : R2} {f : WO} {wa wb : WE} (ho : OpR X (compareOp op) r) (o : OpD X r f) (ha : DE X a wa) (hb : DE X b wb) (hm : behindInMarks op b = false) : DE X (.Compare a [op] [b] pos) (wBin f wa wb) :=
  dbin_of (a := a) (b := b) (pe_cmpR ho ha hb hm) o
end
end DL

/-! D2: operators, tests, displays over data. -/
namespace DL
open PySem PySem.Spec L2

/-- the items of a list: a value, or a cell -/
def lstOf (m : Mem) : D → Option (List D)
  | .lst xs => some xs
  | .ref p => match m p with
    | some (.lst xs) => some xs
    | _ => none
  | _ => none
/-- .. of a list or a tuple -/
def seqOf (m : Mem) : D → Option (List D)
  | .tup xs => some xs
  | .lst xs => some xs
  | .klst xs => some xs
  | .ref p => match m p with
    | some (.lst xs) => some xs
    | _ => none
  | _ => none
@[simp] theorem lstOf_lst {m : Mem} {xs : List D} : lstOf m (.lst xs) = some xs := rfl
@[simp] theorem seqOf_lst {m : Mem} {xs : List D} : seqOf m (.lst xs) = some xs := rfl
@[simp] theorem seqOf_klst {m : Mem} {xs : List D} : seqOf m (.klst xs) = some xs := rfl
@[simp] theorem seqOf_tup {m : Mem} {xs : List D} : seqOf m (.tup xs) = some xs := rfl
theorem lstOf_ref {m : Mem} {p : Addr} {xs : List D} (h : m p = some (.lst xs)) : lstOf m (.ref p) = some xs := by simp [lstOf, h]
theorem seqOf_ref {m : Mem} {p : Addr} {xs : List D} (h : m p = some (.lst xs)) : seqOf m (.ref p) = some xs := by simp [seqOf, h]
section
variable {K : Frag} {F : Hp} {m : Mem} {H : Hp}
theorem Rel.lstOf (r : Rel K F m H) {d : D} {v : V} {xs : List D} (dn : Den K F d v) (e : DL.lstOf m d = some xs) : ∃ a vs, v = .ref a ∧ Rd H a (.lst vs) ∧ Dens K F xs vs := by
  cases d with
  | lst ys =>
    cases e
    simp only [Den] at dn
    obtain ⟨a, vs, e, q, z⟩ := dn
    exact ⟨a, vs, e, r.rd q, z⟩
  | ref p =>
    simp only [Den] at dn
    simp only [DL.lstOf] at e
    cases h : m p with
    | none => rw [h] at e; cases e
    | some c =>
      rw [h] at e
      cases c with
      | lst ys =>
        cases e
        obtain ⟨_, q⟩ := r.me p _ h
        simp only [CellOk] at q
        obtain ⟨vs, e1, z⟩ := q
        exact ⟨p, vs, dn, .inl e1, z⟩
      | _ => cases e
  | _ => cases e
theorem Rel.seqOf (r : Rel K F m H) {d : D} {v : V} {xs : List D} (dn : Den K F d v) (e : DL.seqOf m d = some xs) : ∃ a vs, v = .ref a ∧ (SqL K H a vs ∨ SqT K H a vs) ∧ Dens K F xs vs := by
  cases d with
  | tup ys =>
    cases e
    simp only [Den] at dn
    obtain ⟨a, vs, e, q, z⟩ := dn
    exact ⟨a, vs, e, .inr (r.sqT q), z⟩
  | lst ys =>
    obtain ⟨a, vs, e1, q, z⟩ := r.lstOf dn (show DL.lstOf m (.lst ys) = some xs from e)
    exact ⟨a, vs, e1, .inl (.inl q), z⟩
  | klst ys =>
    cases e
    simp only [Den] at dn
    obtain ⟨a, vs, e, q, z⟩ := dn
    exact ⟨a, vs, e, .inl (r.sqL q), z⟩
  | ref p =>
    obtain ⟨a, vs, e1, q, z⟩ := r.lstOf dn (show DL.lstOf m (.ref p) = some xs from e)
    exact ⟨a, vs, e1, .inl (.inl q), z⟩
  | _ => cases e
end

/-! ### data without cells, for == and repr -/
mutual
def pyR (r : Addr → Option PyData) : D → Option PyData
  | .non => some .none
  | .bl b => some (.bool b)
  | .int i => some (.int i)
  | .str x => some (.str x)
  | .ty _ => none
  | .ref a => r a
  | .tup xs => (pyRs r xs).map .tuple
  | .lst xs => (pyRs r xs).map .list
  | .klst xs => (pyRs r xs).map .list
  | .exc .. => none
def pyRs (r : Addr → Option PyData) : List D → Option (List PyData)
  | [] => some []
  | d :: ds => match pyR r d, pyRs r ds with
    | some p, some ps => some (p :: ps)
    | _, _ => none
end
/-- the data that stands there, cells read, n deep -/
def pyM (m : Mem) : Nat → D → Option PyData
  | 0 => pyR fun _ => none
  | n + 1 => pyR fun a => match m a with
    | some (.lst xs) => (pyRs (fun b => pyM m n (.ref b)) xs).map .list
    | _ => none
mutual
theorem pyR_dp {K : Frag} {F H : Hp} {r : Addr → Option PyData} (s : Sub F H) (hr : ∀ a p, r a = some p → Dp K H (.ref a) p) : ∀ {d : D} {v : V} {p : PyData}, Den K F d v → pyR r d = some p → Dp K H v p
  | .non, _, _, dn, e => by simp only [Den] at dn; simp only [pyR] at e; cases e; subst dn; exact .non
  | .bl _, _, _, dn, e => by simp only [Den] at dn; simp only [pyR] at e; cases e; subst dn; exact .bl _
  | .int _, _, _, dn, e => by simp only [Den] at dn; simp only [pyR] at e; cases e; subst dn; exact .int _
  | .str _, _, _, dn, e => by simp only [Den] at dn; simp only [pyR] at e; cases e; subst dn; exact .str _
  | .ty _, _, _, _, e => by simp only [pyR] at e; cases e
  | .exc .., _, _, _, e => by simp only [pyR] at e; cases e
  | .ref a, _, _, dn, e => by simp only [Den] at dn; simp only [pyR] at e; subst dn; exact hr a _ e
  | .tup ds, _, p, dn, e => by
    simp only [Den] at dn
    obtain ⟨a, vs, e1, q, z⟩ := dn
    simp only [pyR] at e
    cases h : pyRs r ds with
    | none => rw [h] at e; cases e
    | some ps =>
      rw [h] at e; cases e; subst e1
      exact .tup (s.sqT q) (pyRs_dp s hr z h)
  | .lst ds, _, p, dn, e => by
    simp only [Den] at dn
    obtain ⟨a, vs, e1, q, z⟩ := dn
    simp only [pyR] at e
    cases h : pyRs r ds with
    | none => rw [h] at e; cases e
    | some ps =>
      rw [h] at e; cases e; subst e1
      exact .lst (.inl (s.rd q)) (pyRs_dp s hr z h)
  | .klst ds, _, p, dn, e => by
    simp only [Den] at dn
    obtain ⟨a, vs, e1, q, z⟩ := dn
    simp only [pyR] at e
    cases h : pyRs r ds with
    | none => rw [h] at e; cases e
    | some ps =>
      rw [h] at e; cases e; subst e1
      exact .lst (s.sqL q) (pyRs_dp s hr z h)
theorem pyRs_dp {K : Frag} {F H : Hp} {r : Addr → Option PyData} (s : Sub F H) (hr : ∀ a p, r a = some p → Dp K H (.ref a) p) : ∀ {ds : List D} {vs : List V} {ps : List PyData}, Dens K F ds vs → pyRs r ds = some ps → DpAll K H vs ps
  | [], _, _, dn, e => by simp only [Dens] at dn; simp only [pyRs] at e; cases e; subst dn; exact .nil
  | d :: ds, _, ps, dn, e => by
    simp only [Dens] at dn
    obtain ⟨v, r', e1, q, z⟩ := dn
    simp only [pyRs] at e
    cases h : pyR r d with
    | none => rw [h] at e; cases e
    | some p =>
      cases h2 : pyRs r ds with
      | none => rw [h, h2] at e; cases e
      | some qs =>
        rw [h, h2] at e; cases e; subst e1
        exact .cons (pyR_dp s hr q h) (pyRs_dp s hr z h2)
end
theorem pyM_dp {K : Frag} {F : Hp} {m : Mem} {H : Hp} (r : Rel K F m H) : ∀ (n : Nat) {d : D} {v : V} {p : PyData}, Den K F d v → pyM m n d = some p → Dp K H v p
  | 0, d, v, p, dn, e => pyR_dp r.fz (fun a p z => by cases z) dn e
  | n + 1, d, v, p, dn, e => by
    refine pyR_dp r.fz (fun a p z => ?_) dn e
    cases h : m a with
    | none => rw [h] at z; cases z
    | some c =>
      rw [h] at z
      cases c with
      | lst xs =>
        have z : (pyRs (fun b => pyM m n (.ref b)) xs).map PyData.list = some p := z
        cases h2 : pyRs (fun b => pyM m n (.ref b)) xs with
        | none => rw [h2] at z; cases z
        | some ps =>
          rw [h2] at z; cases z
          obtain ⟨_, q⟩ := r.me a _ h
          simp only [CellOk] at q
          obtain ⟨vs, e1, dn1⟩ := q
          exact .lst (SqL.of e1) (pyRs_dp r.fz (fun b p z => pyM_dp r n (d := .ref b) (by simp only [Den]) z) dn1 h2)
      | _ => cases z
/-- data without any cell -/
def pur (d : D) : Option PyData := pyR (fun _ => none) d
def purs (ds : List D) : Option (List PyData) := pyRs (fun _ => none) ds

/-! ### operators by values -/
def flatD : D → Bool
  | .non => true | .bl _ => true | .int _ => true | .str _ => true
  | _ => false
def toV : D → V
  | .non => .non | .bl b => .bl b | .int i => .int i | .str x => .str x
  | _ => .non
theorem flat_den {K : Frag} {F : Hp} {d : D} {v : V} (f : flatD d = true) (dn : Den K F d v) : v = toV d ∧ flatV v = true := by
  cases d <;> simp only [flatD] at f <;> simp only [Den] at dn <;> first | (subst dn; exact ⟨rfl, rfl⟩) | cases f
/-- == of flat data -/
def eqF : D → D → Bool
  | .non, .non => true
  | .bl a, .bl b => a == b
  | .bl a, .int b => (if a then 1 else 0) == b
  | .int a, .bl b => a == (if b then 1 else 0)
  | .int a, .int b => a == b
  | .str a, .str b => a == b
  | _, _ => false
theorem eqF_V {x y : D} : flatD x = true → flatD y = true → eqV (toV x) (toV y) = eqF x y := by
  cases x <;> cases y <;> simp [flatD, toV, eqF, eqV]
def inF (x : D) (xs : List D) : Bool := xs.any fun y => eqF y x
theorem inF_V {K : Frag} {F : Hp} {x : D} (fx : flatD x = true) : ∀ {xs : List D} {vs : List V}, Dens K F xs vs → xs.all flatD = true → vs.all flatV = true ∧ inV (toV x) vs = inF x xs
  | [], _, dn, f => by simp only [Dens] at dn; subst dn; exact ⟨rfl, rfl⟩
  | y :: xs, _, dn, f => by
    simp only [Dens] at dn
    obtain ⟨v, r, e1, q, z⟩ := dn
    rw [List.all_cons, Bool.and_eq_true] at f
    obtain ⟨a1, a2⟩ := inF_V fx z f.2
    obtain ⟨b1, b2⟩ := flat_den f.1 q
    subst e1
    refine ⟨by rw [List.all_cons, b2, a1]; rfl, ?_⟩
    show (eqV v (toV x) || inV (toV x) r) = (eqF y x || inF x xs)
    rw [a2, b1, eqF_V f.1 fx]

def addD : WO := fun x y m Q _ => match x, y with
  | .int i, .int j => Q (.int (i + j)) m
  | .str a, .str b => a.length + b.length ≤ sizeLine ∧ Q (.str (a ++ b)) m
  | .tup xs, .tup ys => xs.length + ys.length ≤ sizeLine ∧ Q (.tup (xs ++ ys)) m
  | x, y => ∃ xs ys, lstOf m x = some xs ∧ lstOf m y = some ys ∧ xs.length + ys.length ≤ sizeLine ∧ Q (.lst (xs ++ ys)) m
def subD : WO := fun x y m Q _ => match x, y with
  | .int i, .int j => Q (.int (i - j)) m
  | _, _ => False
def mulD : WO := fun x y m Q _ => match x, y with
  | .int i, .int j => CMul i j ∧ Q (.int (i * j)) m
  | _, _ => False
def fdivD : WO := fun x y m Q _ => match x, y with
  | .int i, .int j => CDiv i j ∧ Q (.int (i / j)) m
  | _, _ => False
def modD : WO := fun x y m Q _ => match x, y with
  | .int i, .int j => 0 < j ∧ Q (.int (i % j)) m
  | _, _ => False
def powD : WO := fun x y m Q _ => match x, y with
  | .int i, .int j => CPow i j ∧ Q (.int (i ^ j.toNat)) m
  | _, _ => False
def ltD : WO := fun x y m Q _ => match x, y with
  | .int i, .int j => Q (.bl (decide (i < j))) m
  | .str a, .str b => Q (.bl (decide (a.cps.toList < b.cps.toList))) m
  | _, _ => False
def leD : WO := fun x y m Q _ => match x, y with
  | .int i, .int j => Q (.bl (decide (i ≤ j))) m
  | _, _ => False
def gtD : WO := fun x y m Q _ => match x, y with
  | .int i, .int j => Q (.bl (decide (j < i))) m
  | _, _ => False
def geD : WO := fun x y m Q _ => match x, y with
  | .int i, .int j => Q (.bl (decide (j ≤ i))) m
  | _, _ => False
/-- ==: two ints, texts: as they are; else as data -/
def eqD : WO := fun x y m Q _ => match x, y with
  | .int i, .int j => Q (.bl (decide (i = j))) m
  | .str a, .str b => Q (.bl (decide (a = b))) m
  | x, y => ∃ d e, pyM m 3 x = some d ∧ pyM m 3 y = some e ∧ SeqAt.shaped d = true ∧ SeqAt.shaped e = true ∧ Q (.bl (PyData.eqv d e)) m
def neD : WO := fun x y m Q _ => match x, y with
  | .int i, .int j => Q (.bl (!decide (i = j))) m
  | .str a, .str b => Q (.bl (!decide (a = b))) m
  | x, y => ∃ d e, pyM m 3 x = some d ∧ pyM m 3 y = some e ∧ SeqAt.shaped d = true ∧ SeqAt.shaped e = true ∧ Q (.bl (!PyData.eqv d e)) m
def isnD : WO := fun x y m Q _ => y = .non ∧ Q (.bl (match x with | .non => true | _ => false)) m
def notnD : WO := fun x y m Q _ => y = .non ∧ Q (.bl (match x with | .non => false | _ => true)) m
/-- in, not in: a list or tuple of flat things; a dict's keys are apart -/
def inD : WO := fun x y m Q _ => match x, y with
  | .str a, .str b => Q (.bl (!(Builtin.Str.occurrences b a 0 b.length 1).isEmpty)) m
  | x, y => ∃ ys, seqOf m y = some ys ∧ flatD x = true ∧ ys.all flatD = true ∧ Q (.bl (inF x ys)) m
def ninD : WO := fun x y m Q _ => match x, y with
  | .str a, .str b => Q (.bl (!(!(Builtin.Str.occurrences b a 0 b.length 1).isEmpty))) m
  | x, y => ∃ ys, seqOf m y = some ys ∧ flatD x = true ∧ ys.all flatD = true ∧ Q (.bl (!inF x ys)) m

section
variable {X : Cx}
theorem OpD.mono {r r' : R2} {f : WO} (h : OpD X r f) (i : ∀ x y H Q, r x y H Q → r' x y H Q) : OpD X r' f := fun F m H x y v u Qd E Q r0 d1 d2 q k => i _ _ _ _ (h F m H x y v u Qd E Q r0 d1 d2 q k)
theorem od_int {C : Int → Int → Prop} {g : Int → Int → V} {gd : Int → Int → D} (hg : ∀ i j F, Den X.K F (gd i j) (g i j)) :
    OpD X (rI C g) (fun x y m Q _ => match x, y with | .int i, .int j => C i j ∧ Q (gd i j) m | _, _ => False) := by
  intro F m H x y v u Qd E Q r d1 d2 q k
  cases x <;> cases y <;> first | exact q.elim | skip
  simp only [Den] at d1 d2
  subst d1; subst d2
  exact ⟨_, _, rfl, rfl, q.1, k _ H F m _ (Sub.refl F) r (hg _ _ F) q.2⟩
theorem od_int0 {g : Int → Int → V} {gd : Int → Int → D} (hg : ∀ i j F, Den X.K F (gd i j) (g i j)) :
    OpD X (rI0 g) (fun x y m Q _ => match x, y with | .int i, .int j => Q (gd i j) m | _, _ => False) := by
  intro F m H x y v u Qd E Q r d1 d2 q k
  cases x <;> cases y <;> first | exact q.elim | skip
  simp only [Den] at d1 d2
  subst d1; subst d2
  exact ⟨_, _, rfl, rfl, k _ H F m _ (Sub.refl F) r (hg _ _ F) q⟩
/-- list + list, of lists that are read in any way -/
def rCatR (K : Frag) : R2 := fun x y H Q => ∃ a b xs ys, x = .ref a ∧ y = .ref b ∧ SqL K H a xs ∧ SqL K H b ys ∧ xs.length + ys.length ≤ sizeLine ∧ ∀ p, H p = none → Q (.ref p) (upd H p (.lst (xs ++ ys)))
end
end DL

/-! D3: operators, tests, displays, subscripts over data: the rules. -/
namespace DL
open PySem PySem.Spec L2

section
variable {X : Cx} {pins : List (Addr × Obj)} {σ : St} {H : Hp} {s : Shared}
theorem rd_isL (I : Inv X pins σ H s) {a : Addr} {xs : List V} (h : Rd H a (.lst xs)) : ∃ (its : List Value) (n : Nat), Vals xs its ∧ s.heap.get? a = some { cls := .type "list", data := .seq its.toArray n } ∧ xs.length ≤ sizeLine := by
  obtain ⟨z, its, n, r, e⟩ := h.ok I.hok
  exact ⟨its, n, r, e, z⟩
theorem op_catR : OpR X (binaryOp .Add) (fun x y H Q => ∃ a b xs ys, x = .ref a ∧ y = .ref b ∧ Rd H a (.lst xs) ∧ Rd H b (.lst ys) ∧ xs.length + ys.length ≤ sizeLine ∧ ∀ p, H p = none → Q (.ref p) (upd H p (.lst (xs ++ ys)))) := by
  intro pins s σ H x y v u Q I rx ry h
  obtain ⟨l, b, xs, zs, rfl, rfl, hH, hB, hz, q⟩ := h
  cases rx
  cases ry
  obtain ⟨its, n, r, e, _⟩ := rd_isL I hH
  obtain ⟨its2, n2, r2, e2, _⟩ := rd_isL I hB
  have hl := r.length
  have hl2 := r2.length
  refine PySem.P.add_list e e2 ?_ (by rw [List.size_toArray, List.size_toArray]; omega)
  have ea : its.toArray ++ its2.toArray = (its ++ its2).toArray := by simp
  rw [ea]
  exact ⟨.ref _, _, I.lnew (t' := s.toks) (r.append r2) (by rw [List.length_append]; omega), rfl, q _ I.fresh⟩
end
section
variable {X : Cx}
abbrev rAddA (K : Frag) : R2 := fun x y H Q => (rI0 (fun i j => .int (i + j)) x y H Q ∨ (∃ i j, x = .str i ∧ y = .str j ∧ i.length + j.length ≤ sizeLine ∧ Q (.str (i ++ j)) H)) ∨ (rCatA K x y H Q ∨
  (∃ a b xs ys, x = .ref a ∧ y = .ref b ∧ Rd H a (.lst xs) ∧ Rd H b (.lst ys) ∧ xs.length + ys.length ≤ sizeLine ∧ ∀ p, H p = none → Q (.ref p) (upd H p (.lst (xs ++ ys)))))
theorem op_addA : OpR X (binaryOp .Add) (rAddA X.K) := (op_add.or op_add_str).or (op_catA.or op_catR)
theorem od_add : OpD X (rAddA X.K) addD := by
  intro F m H x y v u Qd E Q r d1 d2 q k
  have lists : (∃ xs ys, lstOf m x = some xs ∧ lstOf m y = some ys ∧ xs.length + ys.length ≤ sizeLine ∧ Qd (.lst (xs ++ ys)) m) → rAddA X.K v u H Q := fun ⟨xs, ys, e1, e2, hz, q⟩ => by
    obtain ⟨a, vs, rfl, ra, na⟩ := r.lstOf d1 e1
    obtain ⟨b, ws, rfl, rb, nb⟩ := r.lstOf d2 e2
    refine .inr (.inr ⟨a, b, vs, ws, rfl, rfl, ra, rb, by rw [← na.length, ← nb.length]; exact hz, fun p hp => ?_⟩)
    obtain ⟨r', s'⟩ := r.frozen (o := .lst (vs ++ ws)) hp
    refine k _ _ _ m (.lst (xs ++ ys)) s' r' ?_ q
    simp only [Den]
    exact ⟨p, _, rfl, .inl upd_same, (na.append nb).mono s'⟩
  cases x <;> cases y <;> first | exact lists q | skip
  · simp only [Den] at d1 d2
    subst d1; subst d2
    exact .inl (.inl ⟨_, _, rfl, rfl, k _ H F m _ (Sub.refl F) r (by simp only [Den]) q⟩)
  · simp only [Den] at d1 d2
    subst d1; subst d2
    exact .inl (.inr ⟨_, _, rfl, rfl, q.1, k _ H F m _ (Sub.refl F) r (by simp only [Den]) q.2⟩)
  · rename_i xs ys
    have D1 := d1
    have D2 := d2
    simp only [Den] at d1 d2
    obtain ⟨a, vs, rfl, ha, na⟩ := d1
    obtain ⟨b, ws, rfl, hb, nb⟩ := d2
    have la := na.length
    have lb := nb.length
    refine .inr (.inl ⟨a, b, vs, ws, rfl, rfl, r.sqT ha, r.sqT hb, by rw [← la, ← lb]; exact q.1, fun e => ?_, fun _ e => ?_, fun _ _ p hp => ?_⟩)
    · subst e
      have : xs = [] := List.length_eq_zero_iff.mp la
      subst this
      exact k _ H F m (.tup ys) (Sub.refl F) r D2 (by simpa using q.2)
    · subst e
      have : ys = [] := List.length_eq_zero_iff.mp lb
      subst this
      exact k _ H F m (.tup xs) (Sub.refl F) r D1 (by simpa using q.2)
    · obtain ⟨r', s'⟩ := r.frozen (o := .tup (vs ++ ws)) hp
      refine k _ _ _ m (.tup (xs ++ ys)) s' r' ?_ q.2
      simp only [Den]
      exact ⟨p, _, rfl, .inl (.inl upd_same), (na.append nb).mono s'⟩
theorem dadd {a b : Expr} {pos : Pos} {wa wb : WE} (ha : DE X a wa) (hb : DE X b wb) : DE X (.BinOp a .Add b pos) (wBin addD wa wb) := dbin op_addA od_add ha hb
theorem dsub {a b : Expr} {pos : Pos} {wa wb : WE} (ha : DE X a wa) (hb : DE X b wb) : DE X (.BinOp a .Sub b pos) (wBin subD wa wb) := dbin op_sub (by
  refine OpD.mono (od_int0 (gd := fun i j => .int (i - j)) fun i j F => by simp only [Den]) (fun _ _ _ _ z => z)) ha hb
theorem dmul {a b : Expr} {pos : Pos} {wa wb : WE} (ha : DE X a wa) (hb : DE X b wb) : DE X (.BinOp a .Mult b pos) (wBin mulD wa wb) := dbin op_mul (od_int (gd := fun i j => .int (i * j)) fun i j F => by simp only [Den]) ha hb
theorem dfdiv {a b : Expr} {pos : Pos} {wa wb : WE} (ha : DE X a wa) (hb : DE X b wb) : DE X (.BinOp a .FloorDiv b pos) (wBin fdivD wa wb) := dbin op_fdiv (od_int (gd := fun i j => .int (i / j)) fun i j F => by simp only [Den]) ha hb
theorem dmod {a b : Expr} {pos : Pos} {wa wb : WE} (ha : DE X a wa) (hb : DE X b wb) : DE X (.BinOp a .Mod b pos) (wBin modD wa wb) := dbin op_mod (od_int (gd := fun i j => .int (i % j)) fun i j F => by simp only [Den]) ha hb
theorem dpow {a b : Expr} {pos : Pos} {wa wb : WE} (ha : DE X a wa) (hb : DE X b wb) : DE X (.BinOp a .Pow b pos) (wBin powD wa wb) := dbin op_pow (od_int (gd := fun i j => .int (i ^ j.toNat)) fun i j F => by simp only [Den]) ha hb
def wNeg (wa : WE) : WE := fun env m Q E => wa env m (fun x m1 => match x with | .int i => Q (.int (-i)) m1 | _ => False) E
theorem dneg {a : Expr} {pos : Pos} {wa : WE} (ha : DE X a wa) : DE X (.UnaryOp .USub a pos) (wNeg wa) := wkE (pe_un un_neg ha) fun σ H Q ⟨F, m, env, Qd, xc, r, en, a, q, k⟩ =>
  tW.sub r en a q fun v1 H1 F1 m1 d1 s1 r1 en1 dn1 q1 => by
    cases d1 <;> first | exact q1.elim | skip
    simp only [Den] at dn1
    subst dn1
    exact ⟨_, rfl, k _ H1 F1 m1 _ s1 r1 (by simp only [Den]) q1⟩

/-! ### comparisons -/
theorem od_bool {r : R2} {f : WO} (h : ∀ (F : Hp) (m : Mem) (H : Hp) (x y : D) (v u : V) (Qd : Po) (E : Xo), Rel X.K F m H → Den X.K F x v → Den X.K F y u → f x y m Qd E → ∃ b, Qd (.bl b) m ∧ ∀ Q : VK, Q (.bl b) H → r v u H Q) : OpD X r f := by
  intro F m H x y v u Qd E Q r0 d1 d2 q k
  obtain ⟨b, q', h'⟩ := h F m H x y v u Qd E r0 d1 d2 q
  exact h' Q (k _ H F m _ (Sub.refl F) r0 (by simp only [Den]) q')
def CmpD (X : Cx) (op : CmpOp) (f : WO) : Prop := ∃ r, OpR X (compareOp op) r ∧ OpD X r f
theorem dcmpC {op : CmpOp} {f : WO} {a b : Expr} {pos : Pos} {wa wb : WE} (c : CmpD X op f) (ha : DE X a wa) (hb : DE X b wb) (hm : behindInMarks op b = false) : DE X (.Compare a [op] [b] pos) (wBin f wa wb) :=
  let ⟨_, h, o⟩ := c
  dcmp h o ha hb hm
/-- a comparison as a test -/
def wTruB (w : WE) : WT := fun env m Q E => w env m (fun x m1 => match x with | .bl b => Q b m1 | _ => False) E
theorem dcmpT {op : CmpOp} {f : WO} {a b : Expr} {pos : Pos} {wa wb : WE} (c : CmpD X op f) (ha : DE X a wa) (hb : DE X b wb) (hm : behindInMarks op b = false) : DT X (.Compare a [op] [b] pos) (wTruB (wBin f wa wb)) :=
  let ⟨_, h, o⟩ := c
  wkT (pt_cmpR h ha hb hm) fun σ H Q ⟨F, m, env, Qd, xc, r0, en, a, q, k⟩ =>
    tW.sub r0 en a q fun v1 H1 F1 m1 d1 s1 r1 en1 dn1 q1 =>
      tW.sub r1 en1 (a.mono s1) q1 fun v2 H2 F2 m2 d2 s2 r2 en2 dn2 q2 =>
        o F2 m2 H2 d1 d2 v1 v2 _ _ _ r2 (dn1.mono s2) dn2 q2 fun v' H' F' m' d s r' dn' q' => by
          cases d <;> first | exact q'.elim | skip
          simp only [Den] at dn'; subst dn'
          exact ⟨_, rfl, k _ H' F' m' ((s1.trans s2).trans s) r' q'⟩
theorem clt : CmpD X .Lt ltD := ⟨_, (op_lt.or op_lt_str), (od_bool fun F m H x y v u Qd E r d1 d2 q => by
  cases x <;> cases y <;> first | exact q.elim | skip
  · simp only [Den] at d1 d2; subst d1; subst d2
    exact ⟨_, q, fun Q z => .inl ⟨_, _, rfl, rfl, z⟩⟩
  · simp only [Den] at d1 d2; subst d1; subst d2
    exact ⟨_, q, fun Q z => .inr ⟨_, _, rfl, rfl, z⟩⟩)⟩
theorem dlt {a b : Expr} {pos : Pos} {wa wb : WE} (ha : DE X a wa) (hb : DE X b wb) : DE X (.Compare a [.Lt] [b] pos) (wBin ltD wa wb) := dcmpC clt ha hb (nomark _)
theorem dltT {a b : Expr} {pos : Pos} {wa wb : WE} (ha : DE X a wa) (hb : DE X b wb) : DT X (.Compare a [.Lt] [b] pos) (wTruB (wBin ltD wa wb)) := dcmpT clt ha hb (nomark _)
theorem cle : CmpD X .LtE leD := ⟨_, op_le, (od_bool fun F m H x y v u Qd E r d1 d2 q => by
  cases x <;> cases y <;> first | exact q.elim | skip
  simp only [Den] at d1 d2; subst d1; subst d2
  exact ⟨_, q, fun Q z => ⟨_, _, rfl, rfl, z⟩⟩)⟩
theorem dle {a b : Expr} {pos : Pos} {wa wb : WE} (ha : DE X a wa) (hb : DE X b wb) : DE X (.Compare a [.LtE] [b] pos) (wBin leD wa wb) := dcmpC cle ha hb (nomark _)
theorem dleT {a b : Expr} {pos : Pos} {wa wb : WE} (ha : DE X a wa) (hb : DE X b wb) : DT X (.Compare a [.LtE] [b] pos) (wTruB (wBin leD wa wb)) := dcmpT cle ha hb (nomark _)
theorem cgt : CmpD X .Gt gtD := ⟨_, op_gt, (od_bool fun F m H x y v u Qd E r d1 d2 q => by
  cases x <;> cases y <;> first | exact q.elim | skip
  simp only [Den] at d1 d2; subst d1; subst d2
  exact ⟨_, q, fun Q z => ⟨_, _, rfl, rfl, z⟩⟩)⟩
theorem dgt {a b : Expr} {pos : Pos} {wa wb : WE} (ha : DE X a wa) (hb : DE X b wb) : DE X (.Compare a [.Gt] [b] pos) (wBin gtD wa wb) := dcmpC cgt ha hb (nomark _)
theorem dgtT {a b : Expr} {pos : Pos} {wa wb : WE} (ha : DE X a wa) (hb : DE X b wb) : DT X (.Compare a [.Gt] [b] pos) (wTruB (wBin gtD wa wb)) := dcmpT cgt ha hb (nomark _)
theorem cge : CmpD X .GtE geD := ⟨_, op_ge, (od_bool fun F m H x y v u Qd E r d1 d2 q => by
  cases x <;> cases y <;> first | exact q.elim | skip
  simp only [Den] at d1 d2; subst d1; subst d2
  exact ⟨_, q, fun Q z => ⟨_, _, rfl, rfl, z⟩⟩)⟩
theorem dge {a b : Expr} {pos : Pos} {wa wb : WE} (ha : DE X a wa) (hb : DE X b wb) : DE X (.Compare a [.GtE] [b] pos) (wBin geD wa wb) := dcmpC cge ha hb (nomark _)
theorem dgeT {a b : Expr} {pos : Pos} {wa wb : WE} (ha : DE X a wa) (hb : DE X b wb) : DT X (.Compare a [.GtE] [b] pos) (wTruB (wBin geD wa wb)) := dcmpT cge ha hb (nomark _)
theorem ceq (hu : X.A.units + 64 < cLine) : CmpD X .Eq eqD := ⟨_, (op_eq.or (op_eqD hu)), (od_bool fun F m H x y v u Qd E r d1 d2 q => by
  have gen : (∃ d e, pyM m 3 x = some d ∧ pyM m 3 y = some e ∧ SeqAt.shaped d = true ∧ SeqAt.shaped e = true ∧ Qd (.bl (PyData.eqv d e)) m) → ∃ b, Qd (.bl b) m ∧ ∀ Q : VK, Q (.bl b) H → rEq v u H Q ∨ rEqD X.K v u H Q := fun ⟨d, e, e1, e2, s1, s2, q⟩ =>
    ⟨_, q, fun Q z => .inr ⟨d, e, pyM_dp r 3 d1 e1, pyM_dp r 3 d2 e2, s1, s2, z⟩⟩
  cases x <;> cases y <;> first | exact gen q | skip
  · simp only [Den] at d1 d2; subst d1; subst d2
    exact ⟨_, q, fun Q z => .inl ⟨rfl, by rw [dec_int, Bool.beq_eq_decide_eq]; exact z⟩⟩
  · simp only [Den] at d1 d2; subst d1; subst d2
    exact ⟨_, q, fun Q z => .inl ⟨rfl, by rw [dec_str, Bool.beq_eq_decide_eq]; exact z⟩⟩)⟩
theorem deq {a b : Expr} {pos : Pos} {wa wb : WE} (hu : X.A.units + 64 < cLine) (ha : DE X a wa) (hb : DE X b wb) : DE X (.Compare a [.Eq] [b] pos) (wBin eqD wa wb) := dcmpC (ceq hu) ha hb (nomark _)
theorem deqT {a b : Expr} {pos : Pos} {wa wb : WE} (hu : X.A.units + 64 < cLine) (ha : DE X a wa) (hb : DE X b wb) : DT X (.Compare a [.Eq] [b] pos) (wTruB (wBin eqD wa wb)) := dcmpT (ceq hu) ha hb (nomark _)
theorem cne (hu : X.A.units + 64 < cLine) : CmpD X .NotEq neD := ⟨_, (op_ne.or (op_neD hu)), (od_bool fun F m H x y v u Qd E r d1 d2 q => by
  have gen : (∃ d e, pyM m 3 x = some d ∧ pyM m 3 y = some e ∧ SeqAt.shaped d = true ∧ SeqAt.shaped e = true ∧ Qd (.bl (!PyData.eqv d e)) m) → ∃ b, Qd (.bl b) m ∧ ∀ Q : VK, Q (.bl b) H → rNe v u H Q ∨ rNeD X.K v u H Q := fun ⟨d, e, e1, e2, s1, s2, q⟩ =>
    ⟨_, q, fun Q z => .inr ⟨d, e, pyM_dp r 3 d1 e1, pyM_dp r 3 d2 e2, s1, s2, z⟩⟩
  cases x <;> cases y <;> first | exact gen q | skip
  · simp only [Den] at d1 d2; subst d1; subst d2
    exact ⟨_, q, fun Q z => .inl ⟨rfl, by rw [dec_int, Bool.beq_eq_decide_eq]; exact z⟩⟩
  · simp only [Den] at d1 d2; subst d1; subst d2
    exact ⟨_, q, fun Q z => .inl ⟨rfl, by rw [dec_str, Bool.beq_eq_decide_eq]; exact z⟩⟩)⟩
theorem dne {a b : Expr} {pos : Pos} {wa wb : WE} (hu : X.A.units + 64 < cLine) (ha : DE X a wa) (hb : DE X b wb) : DE X (.Compare a [.NotEq] [b] pos) (wBin neD wa wb) := dcmpC (cne hu) ha hb (nomark _)
theorem dneT {a b : Expr} {pos : Pos} {wa wb : WE} (hu : X.A.units + 64 < cLine) (ha : DE X a wa) (hb : DE X b wb) : DT X (.Compare a [.NotEq] [b] pos) (wTruB (wBin neD wa wb)) := dcmpT (cne hu) ha hb (nomark _)
theorem cisn : CmpD X .Is isnD := ⟨_, op_isN, (od_bool fun F m H x y v u Qd E r d1 d2 q => by
  obtain ⟨rfl, q⟩ := q
  simp only [Den] at d2
  refine ⟨_, q, fun Q z => ⟨d2, ?_⟩⟩
  cases x <;> simp only [Den] at d1 <;> first | (subst d1; simpa using z) | (obtain ⟨a, vs, e, _⟩ := d1; subst e; simpa using z) | (obtain ⟨e, _⟩ := d1; subst e; simpa using z))⟩
theorem disn {a b : Expr} {pos : Pos} {wa wb : WE} (ha : DE X a wa) (hb : DE X b wb) : DE X (.Compare a [.Is] [b] pos) (wBin isnD wa wb) := dcmpC cisn ha hb (nomark _)
theorem disnT {a b : Expr} {pos : Pos} {wa wb : WE} (ha : DE X a wa) (hb : DE X b wb) : DT X (.Compare a [.Is] [b] pos) (wTruB (wBin isnD wa wb)) := dcmpT cisn ha hb (nomark _)
theorem cnotn : CmpD X .IsNot notnD := ⟨_, op_notN, (od_bool fun F m H x y v u Qd E r d1 d2 q => by
  obtain ⟨rfl, q⟩ := q
  simp only [Den] at d2
  refine ⟨_, q, fun Q z => ⟨d2, ?_⟩⟩
  cases x <;> simp only [Den] at d1 <;> first | (subst d1; simpa using z) | (obtain ⟨a, vs, e, _⟩ := d1; subst e; simpa using z) | (obtain ⟨e, _⟩ := d1; subst e; simpa using z))⟩
theorem dnotn {a b : Expr} {pos : Pos} {wa wb : WE} (ha : DE X a wa) (hb : DE X b wb) : DE X (.Compare a [.IsNot] [b] pos) (wBin notnD wa wb) := dcmpC cnotn ha hb (nomark _)
theorem dnotnT {a b : Expr} {pos : Pos} {wa wb : WE} (ha : DE X a wa) (hb : DE X b wb) : DT X (.Compare a [.IsNot] [b] pos) (wTruB (wBin notnD wa wb)) := dcmpT cnotn ha hb (nomark _)
theorem od_in (neg : Bool) {rs : R2} {f : Bool → Bool} (hf : ∀ b, f b = if neg then !b else b) {x y : D} {F : Hp} {m : Mem} {H : Hp} {v u : V} {Qd : Po} (r : Rel X.K F m H) (d1 : Den X.K F x v) (d2 : Den X.K F y u)
    (q : ∃ ys, seqOf m y = some ys ∧ flatD x = true ∧ ys.all flatD = true ∧ Qd (.bl (f (inF x ys))) m) : ∃ b, Qd (.bl b) m ∧ ∀ Q : VK, Q (.bl b) H → rs v u H Q ∨ rIn X.K neg v u H Q := by
  obtain ⟨ys, e, fx, fy, q⟩ := q
  obtain ⟨a, vs, e1, sq, dn⟩ := r.seqOf d2 e
  obtain ⟨a1, a2⟩ := inF_V fx dn fy
  obtain ⟨b1, b2⟩ := flat_den fx d1
  refine ⟨_, q, fun Q z => .inr ⟨a, vs, e1, sq, b2, a1, ?_⟩⟩
  rw [b1, a2]
  rw [hf] at z
  exact z
theorem cinq : CmpD X .In inD := ⟨_, (op_in_str.or op_in_seq), (od_bool fun F m H x y v u Qd E r d1 d2 q => by
  have gen := od_in (X := X) (x := x) (y := y) (v := v) (u := u) (Qd := Qd) false (rs := fun x y H Q => ∃ i j, x = .str i ∧ y = .str j ∧ Q (.bl (!(Builtin.Str.occurrences j i 0 j.length 1).isEmpty)) H) (f := fun b => b) (fun _ => rfl) r d1 d2
  cases x <;> cases y <;> first | exact gen q | skip
  simp only [Den] at d1 d2; subst d1; subst d2
  exact ⟨_, q, fun Q z => .inl ⟨_, _, rfl, rfl, z⟩⟩)⟩
theorem dinq {a b : Expr} {pos : Pos} {wa wb : WE} (ha : DE X a wa) (hb : DE X b wb) (hm : behindInMarks .In b = false := by rfl) : DE X (.Compare a [.In] [b] pos) (wBin inD wa wb) := dcmpC cinq ha hb hm
theorem dinqT {a b : Expr} {pos : Pos} {wa wb : WE} (ha : DE X a wa) (hb : DE X b wb) (hm : behindInMarks .In b = false := by rfl) : DT X (.Compare a [.In] [b] pos) (wTruB (wBin inD wa wb)) := dcmpT cinq ha hb hm
theorem cninq : CmpD X .NotIn ninD := ⟨_, (L2.op_notIn_str.or op_notIn_seq), (od_bool fun F m H x y v u Qd E r d1 d2 q => by
  have gen := od_in (X := X) (x := x) (y := y) (v := v) (u := u) (Qd := Qd) true (rs := fun x y H Q => ∃ i j, x = .str i ∧ y = .str j ∧ Q (.bl (!(!(Builtin.Str.occurrences j i 0 j.length 1).isEmpty))) H) (f := fun b => !b) (fun _ => rfl) r d1 d2
  cases x <;> cases y <;> first | exact gen q | skip
  simp only [Den] at d1 d2; subst d1; subst d2
  exact ⟨_, q, fun Q z => .inl ⟨_, _, rfl, rfl, z⟩⟩)⟩
theorem dninq {a b : Expr} {pos : Pos} {wa wb : WE} (ha : DE X a wa) (hb : DE X b wb) (hm : behindInMarks .NotIn b = false := by rfl) : DE X (.Compare a [.NotIn] [b] pos) (wBin ninD wa wb) := dcmpC cninq ha hb hm
theorem dninqT {a b : Expr} {pos : Pos} {wa wb : WE} (ha : DE X a wa) (hb : DE X b wb) (hm : behindInMarks .NotIn b = false := by rfl) : DT X (.Compare a [.NotIn] [b] pos) (wTruB (wBin ninD wa wb)) := dcmpT cninq ha hb hm

/-! ### tests -/
/-- a bool's value as a test; any value's truth -/
def wTru (w : WE) : WT := fun env m Q E => w env m (fun x m1 => match x with
  | .bl b => Q b m1
  | .non => Q false m1
  | .int i => Q (i != 0) m1
  | .str z => z.length ≤ sizeLine ∧ Q ((z.length : Int) != 0) m1
  | x => ∃ xs, seqOf m1 x = some xs ∧ Q (!xs.isEmpty) m1) E
theorem isEmpty_len {α β : Type} {xs : List α} {ys : List β} (h : xs.length = ys.length) : xs.isEmpty = ys.isEmpty := by
  cases xs <;> cases ys <;> simp at h ⊢
theorem dtru {e : Expr} {w : WE} (h : DE X e w) (he : ∀ whole, isTrue e X.env whole = (do let v ← whole; standAt e.pos; holding [v] (truthy v)) := by intro _; rfl) : DT X e (wTru w) := wkT (pt_truth h he) fun σ H Q ⟨F, m, env, Qd, xc, r, en, a, q, k⟩ => by
  refine tW.sub r en a q fun v1 H1 F1 m1 d1 s1 r1 en1 dn1 q1 => ?_
  have sq : (∃ xs, seqOf m1 d1 = some xs ∧ Qd (!xs.isEmpty) m1) → ∃ k, TruV X.K v1 H1 k ∧ Q k H1 := fun ⟨xs, e, q⟩ => by
    obtain ⟨p, vs, rfl, hs, dn⟩ := r1.seqOf dn1 e
    refine ⟨!vs.isEmpty, ?_, ?_⟩
    · rcases hs with hs | hs
      · exact .inl ⟨vs, hs, rfl⟩
      · exact .inr (.inl ⟨vs, hs, rfl⟩)
    · rw [← isEmpty_len dn.length]
      exact k _ H1 F1 m1 s1 r1 q
  cases d1 with
  | bl b => simp only [Den] at dn1; subst dn1; exact ⟨b, rfl, k _ H1 F1 m1 s1 r1 q1⟩
  | non => simp only [Den] at dn1; subst dn1; exact ⟨false, rfl, k _ H1 F1 m1 s1 r1 q1⟩
  | int i => simp only [Den] at dn1; subst dn1; exact ⟨_, rfl, k _ H1 F1 m1 s1 r1 q1⟩
  | str z => simp only [Den] at dn1; subst dn1; exact ⟨_, ⟨q1.1, rfl⟩, k _ H1 F1 m1 s1 r1 q1.2⟩
  | ty _ => obtain ⟨_, e, _⟩ := q1; cases e
  | ref _ => exact sq q1
  | tup _ => exact sq q1
  | lst _ => exact sq q1
  | klst _ => exact sq q1
  | exc a c d ns xs => obtain ⟨_, e, _⟩ := q1; cases e
def wNotT (w : WT) : WT := fun env m Q E => w env m (fun b m1 => Q (!b) m1) E
theorem dnotT {e : Expr} {pos : Pos} {w : WT} (h : DT X e w) : DT X (.UnaryOp .Not e pos) (wNotT w) := wkT (pt_not h) fun σ H Q ⟨F, m, env, Qd, xc, r, en, a, q, k⟩ =>
  tWT.sub r en a q fun b H1 F1 m1 s1 r1 en1 q1 => k _ H1 F1 m1 s1 r1 q1
def wAndT (wa wb : WT) : WT := fun env m Q E => wa env m (fun b m1 => if b = true then wb env m1 Q E else Q false m1) E
def wOrT (wa wb : WT) : WT := fun env m Q E => wa env m (fun b m1 => if b = true then Q true m1 else wb env m1 Q E) E
theorem dand1 {a : Expr} {pos : Pos} {w : WT} (h : DT X a w) : DW X (.BoolOp .And [a] pos) w := pw_and1 h
theorem dor1 {a : Expr} {pos : Pos} {w : WT} (h : DT X a w) : DW X (.BoolOp .Or [a] pos) w := pw_or1 h
theorem dand {a b : Expr} {rest : List Expr} {pos : Pos} {wa wb : WT} (ha : DT X a wa) (hb : DW X (.BoolOp .And (b :: rest) pos) wb) : DW X (.BoolOp .And (a :: b :: rest) pos) (wAndT wa wb) := wkW (pw_and ha hb) fun σ H Q ⟨F, m, env, Qd, xc, r, en, a, q, k⟩ =>
  tWT.sub r en a q fun c H1 F1 m1 s1 r1 en1 q1 => by
    cases c with
    | true =>
      rw [if_pos rfl] at q1 ⊢
      exact ⟨F1, m1, env, Qd, xc, r1, en1, a.mono s1, q1, fun b H' F' m' s => k b H' F' m' (s1.trans s)⟩
    | false =>
      rw [if_neg Bool.false_ne_true] at q1 ⊢
      exact k _ H1 F1 m1 s1 r1 q1
theorem dor {a b : Expr} {rest : List Expr} {pos : Pos} {wa wb : WT} (ha : DT X a wa) (hb : DW X (.BoolOp .Or (b :: rest) pos) wb) : DW X (.BoolOp .Or (a :: b :: rest) pos) (wOrT wa wb) := wkW (pw_or ha hb) fun σ H Q ⟨F, m, env, Qd, xc, r, en, a, q, k⟩ =>
  tWT.sub r en a q fun c H1 F1 m1 s1 r1 en1 q1 => by
    cases c with
    | true =>
      rw [if_pos rfl] at q1 ⊢
      exact k _ H1 F1 m1 s1 r1 q1
    | false =>
      rw [if_neg Bool.false_ne_true] at q1 ⊢
      exact ⟨F1, m1, env, Qd, xc, r1, en1, a.mono s1, q1, fun b H' F' m' s => k b H' F' m' (s1.trans s)⟩
theorem dbo {e : Expr} {w : WT} (h : DW X e w) : DT X e w := h.pt
/-- and, or, not as values of bools -/
def wOneV (w : WE) : WE := w
def wAndV (wa wb : WE) : WE := fun env m Q E => wa env m (fun x m1 => match x with | .bl b => (if b = true then wb env m1 Q E else Q (.bl false) m1) | _ => False) E
def wOrV (wa wb : WE) : WE := fun env m Q E => wa env m (fun x m1 => match x with | .bl b => (if b = true then Q (.bl true) m1 else wb env m1 Q E) | _ => False) E
def wNotV (wa : WE) : WE := fun env m Q E => wa env m (fun x m1 => match x with | .bl b => Q (.bl (!b)) m1 | _ => False) E
theorem doneV {op} {a : Expr} {pos : Pos} {w : WE} (h : DE X a w) : DE X (.BoolOp op [a] pos) w := pe_one h
theorem dandV {a b : Expr} {rest : List Expr} {pos : Pos} {wa wb : WE} (ha : DE X a wa) (hb : DE X (.BoolOp .And (b :: rest) pos) wb) : DE X (.BoolOp .And (a :: b :: rest) pos) (wAndV wa wb) := wkE (pe_and ha hb) fun σ H Q ⟨F, m, env, Qd, xc, r, en, a, q, k⟩ =>
  tW.sub r en a q fun v1 H1 F1 m1 d1 s1 r1 en1 dn1 q1 => by
    cases d1 <;> first | exact q1.elim | skip
    rename_i c
    simp only [Den] at dn1; subst dn1
    refine ⟨c, rfl, ?_⟩
    cases c with
    | true => exact ⟨F1, m1, env, Qd, xc, r1, en1, a.mono s1, q1, fun v H' F' m' d s => k v H' F' m' d (s1.trans s)⟩
    | false => exact k _ H1 F1 m1 _ s1 r1 (by simp only [Den]) q1
theorem dorV {a b : Expr} {rest : List Expr} {pos : Pos} {wa wb : WE} (ha : DE X a wa) (hb : DE X (.BoolOp .Or (b :: rest) pos) wb) : DE X (.BoolOp .Or (a :: b :: rest) pos) (wOrV wa wb) := wkE (pe_or ha hb) fun σ H Q ⟨F, m, env, Qd, xc, r, en, a, q, k⟩ =>
  tW.sub r en a q fun v1 H1 F1 m1 d1 s1 r1 en1 dn1 q1 => by
    cases d1 <;> first | exact q1.elim | skip
    rename_i c
    simp only [Den] at dn1; subst dn1
    refine ⟨c, rfl, ?_⟩
    cases c with
    | true => exact k _ H1 F1 m1 _ s1 r1 (by simp only [Den]) q1
    | false => exact ⟨F1, m1, env, Qd, xc, r1, en1, a.mono s1, q1, fun v H' F' m' d s => k v H' F' m' d (s1.trans s)⟩
theorem dnotV {a : Expr} {pos : Pos} {wa : WE} (ha : DE X a wa) : DE X (.UnaryOp .Not a pos) (wNotV wa) := wkE (pe_not ha) fun σ H Q ⟨F, m, env, Qd, xc, r, en, a, q, k⟩ =>
  tW.sub r en a q fun v1 H1 F1 m1 d1 s1 r1 en1 dn1 q1 => by
    cases d1 <;> first | exact q1.elim | skip
    rename_i c
    simp only [Den] at dn1; subst dn1
    exact ⟨c, rfl, k _ H1 F1 m1 _ s1 r1 (by simp only [Den]) q1⟩
def wIte (wt : WT) (wa wb : WE) : WE := fun env m Q E => wt env m (fun b m1 => if b = true then wa env m1 Q E else wb env m1 Q E) E
theorem dite {t a b : Expr} {pos : Pos} {wt : WT} {wa wb : WE} (ht : DT X t wt) (ha : DE X a wa) (hb : DE X b wb) : DE X (.IfExp t a b pos) (wIte wt wa wb) := wkE (pe_ifExp ht ha hb) fun σ H Q ⟨F, m, env, Qd, xc, r, en, a, q, k⟩ =>
  tWT.sub r en a q fun c H1 F1 m1 s1 r1 en1 q1 => by
    cases c with
    | true => exact ⟨F1, m1, env, Qd, xc, r1, en1, a.mono s1, q1, fun v H' F' m' d s => k v H' F' m' d (s1.trans s)⟩
    | false => exact ⟨F1, m1, env, Qd, xc, r1, en1, a.mono s1, q1, fun v H' F' m' d s => k v H' F' m' d (s1.trans s)⟩

/-! ### arguments, displays -/
def wNil : WA := fun _ m Q _ => Q [] m
def wCons (we : WE) (wr : WA) : WA := fun env m Q E => we env m (fun d m1 => wr env m1 (fun ds m2 => Q (d :: ds) m2) E) E
theorem danil : DA X [] wNil := wkA pa_nil fun σ H Q ⟨F, m, env, Qd, xc, r, en, a, q, k⟩ => k [] H F m [] (Sub.refl F) r Dens.nil q
theorem dacons {e : Expr} {es : List Expr} {we : WE} {wr : WA} (he : DE X e we) (hr : DA X es wr) (hs : starEach (e :: es) X.env = (false, eval e X.env) :: starEach es X.env := by rfl) : DA X (e :: es) (wCons we wr) := wkA (pa_cons he hr hs) fun σ H Q ⟨F, m, env, Qd, xc, r, en, a, q, k⟩ =>
  tW.sub r en a q fun v1 H1 F1 m1 d1 s1 r1 en1 dn1 q1 => tWA.sub r1 en1 (a.mono s1) q1 fun vs H2 F2 m2 ds s2 r2 en2 dn2 q2 => k _ H2 F2 m2 _ (s1.trans s2) r2 (Dens.cons (dn1.mono s2) dn2) q2
def wTup (wa : WA) : WE := fun env m Q E => wa env m (fun ds m1 => ds.length ≤ sizeLine ∧ Q (.tup ds) m1) E
/-- a list that will not change -/
def wLst (wa : WA) : WE := fun env m Q E => wa env m (fun ds m1 => ds.length ≤ sizeLine ∧ Q (.lst ds) m1) E
/-- a list that may -/
def wLstM (wa : WA) : WE := fun env m Q E => wa env m (fun ds m1 => ds.length ≤ sizeLine ∧ ∀ p, m1 p = none → Q (.ref p) (m1.put p (.lst ds))) E
theorem dtup {es : List Expr} {x1 : Nat} {pos : Pos} {wa : WA} (h : DA X es wa) : DE X (.Tuple es x1 pos) (wTup wa) := wkE (pe_tup h) fun σ H Q ⟨F, m, env, Qd, xc, r, en, a, q, k⟩ =>
  tWA.sub r en a q fun vs H1 F1 m1 ds s1 r1 en1 dn1 q1 => ⟨by rw [← dn1.length]; exact q1.1, fun p hp => by
    obtain ⟨r', s'⟩ := r1.frozen (o := .tup vs) hp
    refine k _ _ _ m1 (.tup ds) (s1.trans s') r' ?_ q1.2
    simp only [Den]
    exact ⟨p, _, rfl, .inl (.inl upd_same), dn1.mono s'⟩⟩
theorem dlst {es : List Expr} {pos : Pos} {wa : WA} (h : DA X es wa) : DE X (.List es pos) (wLst wa) := wkE (pe_lst h) fun σ H Q ⟨F, m, env, Qd, xc, r, en, a, q, k⟩ =>
  tWA.sub r en a q fun vs H1 F1 m1 ds s1 r1 en1 dn1 q1 => ⟨by rw [← dn1.length]; exact q1.1, fun p hp => by
    obtain ⟨r', s'⟩ := r1.frozen (o := .lst vs) hp
    refine k _ _ _ m1 (.lst ds) (s1.trans s') r' ?_ q1.2
    simp only [Den]
    exact ⟨p, _, rfl, .inl upd_same, dn1.mono s'⟩⟩
theorem dlstM {es : List Expr} {pos : Pos} {wa : WA} (h : DA X es wa) : DE X (.List es pos) (wLstM wa) := wkE (pe_lst h) fun σ H Q ⟨F, m, env, Qd, xc, r, en, a, q, k⟩ =>
  tWA.sub r en a q fun vs H1 F1 m1 ds s1 r1 en1 dn1 q1 => ⟨by rw [← dn1.length]; exact q1.1, fun p hp => by
    refine k _ _ F1 _ (.ref p) s1 (r1.fresh hp (c := .lst ds) ?_) (by simp only [Den]) (q1.2 p (r1.free hp).2)
    simp only [CellOk]
    exact ⟨vs, upd_same, dn1⟩⟩
/-- a list, from now on a value -/
def wFrz (w : WE) : WE := fun env m Q E => w env m (fun d m1 => match d with
  | .ref p => (match m1 p with
    | some (.lst xs) => Q (.lst xs) (m1.del p)
    | _ => Q d m1)
  | d => Q d m1) E
theorem dfrz {e : Expr} {w : WE} (h : DE X e w) : DE X e (wFrz w) := wkE h fun σ H Q ⟨F, m, env, Qd, xc, r, en, a, q, k⟩ =>
  tW.sub r en a q fun v1 H1 F1 m1 d1 s1 r1 en1 dn1 q1 => by
    cases d1 with
    | ref p =>
      simp only at q1
      split at q1
      · rename_i xs e
        obtain ⟨F', s', r', dn'⟩ := r1.freeze e
        simp only [Den] at dn1
        subst dn1
        exact k _ H1 F' _ _ (s1.trans s') r' dn' q1
      · exact k _ H1 F1 m1 _ s1 r1 dn1 q1
    | _ => exact k _ H1 F1 m1 _ s1 r1 dn1 q1

/-! ### subscripts -/
def ixD : WO := fun x y m Q _ => match y with
  | .int i => (match x with
    | .str z => ∃ c, z.length ≤ sizeLine ∧ atI z.cps.toList i = some c ∧ Q (.str ⟨#[c]⟩) m
    | x => ∃ xs d, seqOf m x = some xs ∧ atI xs i = some d ∧ Q d m)
  | _ => False
theorem atI_den {K : Frag} {F : Hp} {ds : List D} {vs : List V} (dn : Dens K F ds vs) {i : Int} {d : D} (h : atI ds i = some d) : ∃ v, atI vs i = some v ∧ Den K F d v := by
  unfold atI at h ⊢
  rw [← dn.length]
  cases e : ixN ds.length i with
  | none => rw [e] at h; cases h
  | some j =>
    rw [e] at h
    exact dn.get h
theorem dix {a b : Expr} {pos : Pos} {wa wb : WE} (ha : DE X a wa) (hb : DE X b wb) (hs : PlainIx b := by exact fun _ _ => rfl) : DE X (.Subscript a b pos) (wBin ixD wa wb) := dbin_of (a := a) (b := b) (pe_ix ix_seq ha hb hs) fun F m H x y v u Qd E Q r d1 d2 q k => by
  cases y <;> first | exact q.elim | skip
  rename_i i
  simp only [Den] at d2; subst d2
  have gen : (∃ xs d, seqOf m x = some xs ∧ atI xs i = some d ∧ Qd d m) → rIx X.K v (.int i) H Q := fun ⟨xs, d, e1, e2, q⟩ => by
    obtain ⟨p, vs, rfl, hs, dn⟩ := r.seqOf d1 e1
    obtain ⟨w, e3, dw⟩ := atI_den dn e2
    rcases hs with hs | hs
    · exact .inl ⟨p, vs, i, w, rfl, rfl, hs, e3, k _ H F m d (Sub.refl F) r dw q⟩
    · exact .inr (.inl ⟨p, vs, i, w, rfl, rfl, hs, e3, k _ H F m d (Sub.refl F) r dw q⟩)
  cases x <;> first | exact gen q | skip
  obtain ⟨c, hz, e, q⟩ := q
  simp only [Den] at d1; subst d1
  exact .inr (.inr ⟨_, i, c, rfl, rfl, hz, e, k _ H F m _ (Sub.refl F) r (by simp only [Den]) q⟩)
/-- a slice -/
abbrev WPt := En → Mem → (Option Int → Mem → Prop) → Xo → Prop
def tWP (X : Cx) (w : WPt) : TO := fun σ H Q => ∃ (F : Hp) (m : Mem) (env : En) (Qd : Option Int → Mem → Prop) (xc : Xc), Rel X.K F m H ∧ EnvDen X.K F σ env ∧ Acc X F xc ∧ w env m Qd (fun x m' => xc x env m') ∧
  ∀ o H' F' m', Sub F F' → Rel X.K F' m' H' → Qd o m' → Q o H'
abbrev DP (X : Cx) (e : Option Expr) (w : WPt) : Prop := PO X e (tWP X w)
def wPno : WPt := fun _ m Q _ => Q none m
def wPso (w : WE) : WPt := fun env m Q E => w env m (fun d m1 => match d with | .int i => Q (some i) m1 | _ => False) E
theorem dpno : DP X none wPno := ⟨fun pins s σ H Q I ⟨F, m, env, Qd, xc, r, en, a, q, k⟩ => po_none.run pins s σ H Q I (k _ H F m (Sub.refl F) r q)⟩
theorem dpso {e : Expr} {w : WE} (h : DE X e w) : DP X (some e) (wPso w) := ⟨fun pins s σ H Q I ⟨F, m, env, Qd, xc, r, en, a, q, k⟩ => (po_some h).run pins s σ H Q I (tW.sub r en a q fun v1 H1 F1 m1 d1 s1 r1 en1 dn1 q1 => by
  cases d1 <;> first | exact q1.elim | skip
  simp only [Den] at dn1; subst dn1
  exact ⟨_, rfl, k _ H1 F1 m1 s1 r1 q1⟩)⟩
def cutD (xs : List D) (lo hi : Option Int) : List D := (xs.drop (HT.sIx xs.length 0 lo)).take (HT.sIx xs.length xs.length hi - HT.sIx xs.length 0 lo)
theorem cut_den {K : Frag} {F : Hp} {ds : List D} {vs : List V} (dn : Dens K F ds vs) (lo hi : Option Int) : Dens K F (cutD ds lo hi) (cutV vs lo hi) := by
  unfold cutD cutV
  rw [← dn.length]
  exact (dn.drop _).take _
def slD (x : D) (lo hi : Option Int) (m : Mem) (Q : Po) : Prop := match x with
  | .tup xs => Q (.tup (cutD xs lo hi)) m
  | x => ∃ xs, lstOf m x = some xs ∧ Q (.lst (cutD xs lo hi)) m
def wSl (we : WE) (wl wh : WPt) : WE := fun env m Q E => we env m (fun x m1 => wl env m1 (fun lo m2 => wh env m2 (fun hi m3 => slD x lo hi m3 Q) E) E) E
theorem cutV_all (xs : List V) (lo hi : Option Int) (h : HT.sIx xs.length 0 lo = 0 ∧ HT.sIx xs.length xs.length hi = xs.length) : cutV xs lo hi = xs := by
  unfold cutV; rw [h.1, h.2]; simp
theorem dsl {e : Expr} {lo hi : Option Expr} {p2 pos : Pos} {we : WE} {wl wh : WPt} (he : DE X e we) (hl : DP X lo wl) (hh : DP X hi wh) : DE X (.Subscript e (.Slice lo hi none p2) pos) (wSl we wl wh) :=
  wkE (pe_slice (sl_list.or sl_tupA) he hl hh) fun σ H Q ⟨F, m, env, Qd, xc, r, en, a, q, k⟩ =>
    tW.sub r en a q fun v1 H1 F1 m1 d1 s1 r1 en1 dn1 q1 => ⟨F1, m1, env, _, xc, r1, en1, a.mono s1, q1, fun l H2 F2 m2 s2 r2 q2 => ⟨F2, m2, env, _, xc, r2, en1.mono s2, a.mono (s1.trans s2), q2, fun u H3 F3 m3 s3 r3 q3 => by
      have dn3 := dn1.mono (s2.trans s3)
      have gen : (∃ xs, lstOf m3 d1 = some xs ∧ Qd (.lst (cutD xs l u)) m3) → rSlL X.K v1 l u H3 Q ∨ rSlA X.K v1 l u H3 Q := fun ⟨xs, e, q⟩ => by
        obtain ⟨p, vs, rfl, hs, dn⟩ := r3.lstOf dn3 e
        refine .inl ⟨p, vs, rfl, .inl hs, fun t ht => ?_⟩
        obtain ⟨r', s'⟩ := r3.frozen (o := .lst (cutV vs l u)) ht
        refine k _ _ _ m3 _ (((s1.trans s2).trans s3).trans s') r' ?_ q
        simp only [Den]
        exact ⟨t, _, rfl, .inl upd_same, (cut_den dn l u).mono s'⟩
      cases d1 <;> first | exact gen q3 | skip
      rename_i xs
      have D3 := dn3
      simp only [Den] at dn3
      obtain ⟨p, vs, rfl, hs, dn⟩ := dn3
      refine .inr ⟨p, vs, rfl, r3.sqT hs, fun hw => ?_, fun _ t ht => ?_⟩
      · have hw' : cutD xs l u = xs := by
          unfold cutD
          rw [← dn.length] at hw
          rw [hw.1, hw.2]; simp
        have q3 : Qd (.tup (cutD xs l u)) m3 := q3
        rw [hw'] at q3
        exact k _ H3 F3 m3 _ ((s1.trans s2).trans s3) r3 D3 q3
      · obtain ⟨r', s'⟩ := r3.frozen (o := .tup (cutV vs l u)) ht
        refine k _ _ _ m3 (.tup (cutD xs l u)) (((s1.trans s2).trans s3).trans s') r' ?_ q3
        simp only [Den]
        exact ⟨t, _, rfl, .inl (.inl upd_same), (cut_den dn l u).mono s'⟩⟩⟩
end
end DL

/-! D4: statements over data. -/
namespace DL
open PySem PySem.Spec L2

/-- whatever error this place takes -/
def Wx (X : Cx) : WX := fun cls d σ H => ∃ W, Takes X W ∧ W cls d σ H
theorem takes_max {X : Cx} : Takes X (Wx X) := fun u s' ⟨a, B, sI, pins, σ, H, cls, d, e, I, nb, up, sky, na, os, ag, W, t, w⟩ => t u s' ⟨a, B, sI, pins, σ, H, cls, d, e, I, nb, up, sky, na, os, ag, w⟩

section
variable {X : Cx}
theorem tWS.sub {w : WS} {F : Hp} {m : Mem} {env : En} {σ : St} {H : Hp} {E : De} {D : Ends} (r : Rel X.K F m H) (e : EnvDen X.K F σ env) (a : Acc X F E.xc) (h : w E env m) (n : Fw X.K F E.nx D.nx) (b : Fw X.K F E.bk D.bk) (c : Fw X.K F E.ct D.ct)
    (t : ∀ v H' F' m' d, Sub F F' → Rel X.K F' m' H' → Den X.K F' d v → E.rt d m' → D.rt v H') : tWS X w D σ H := ⟨F, m, env, E, r, e, a, h, n, b, c, t⟩
def sNil : WS := fun D env m => D.nx env m
def sSeq (a b : WS) : WS := fun D env m => a { D with nx := fun e' m' => b D e' m' } env m
theorem dsnil : DSs X [] sNil := wkSs pss_nil fun D σ H ⟨F, m, env, E, r, en, a, q, n, b, c, t⟩ => n σ H F m env (Sub.refl F) r en q
theorem dscons {st : Stmt} {rest : List Stmt} {wa wb : WS} (h1 : DS X st wa) (h2 : DSs X rest wb) : DSs X (st :: rest) (sSeq wa wb) := wkSs (pss_cons h1 h2) fun D σ H ⟨F, m, env, E, r, en, a, q, n, b, c, t⟩ =>
  tWS.sub (E := { E with nx := fun e' m' => wb E e' m' }) r en a q (fun σ' H' F' m' env' s r' en' q' => ⟨F', m', env', E, r', en', a.mono s, q', n.mono s, b.mono s, c.mono s, fun v H' F'' m' d s' => t v H' F'' m' d (s.trans s')⟩) b c t
theorem dsone {st : Stmt} {wa : WS} (h1 : DS X st wa) : DSs X [st] wa := pss_one h1
def sPass : WS := fun D env m => D.nx env m
def sBrk : WS := fun D env m => D.bk env m
def sCnt : WS := fun D env m => D.ct env m
theorem dpass {pos : Pos} : DS X (.Pass pos) sPass := wkS ps_pass fun D σ H ⟨F, m, env, E, r, en, a, q, n, b, c, t⟩ => n σ H F m env (Sub.refl F) r en q
theorem dbrk {pos : Pos} : DS X (.Break pos) sBrk := wkS ps_break fun D σ H ⟨F, m, env, E, r, en, a, q, n, b, c, t⟩ => b σ H F m env (Sub.refl F) r en q
theorem dcnt {pos : Pos} : DS X (.Continue pos) sCnt := wkS ps_continue fun D σ H ⟨F, m, env, E, r, en, a, q, n, b, c, t⟩ => c σ H F m env (Sub.refl F) r en q
def sDrop (w : WE) : WS := fun D env m => w env m (fun _ m1 => D.nx env m1) (fun x m1 => D.xc x env m1)
theorem dexpr {e : Expr} {pos : Pos} {w : WE} (he : DE X e w) (hs : swapsWith e none pos.line X.env = pure false := by rfl) : DS X (.Expr e pos) (sDrop w) := wkS (ps_expr he hs) fun D σ H ⟨F, m, env, E, r, en, a, q, n, b, c, t⟩ =>
  tW.sub r en a q fun v1 H1 F1 m1 d1 s1 r1 en1 dn1 q1 => n σ H1 F1 m1 env s1 r1 en1 q1
theorem dsdoc {x j pos pos'} : DS X (.Expr (.Constant (.str x) j pos) pos') sPass := wkS ps_doc fun D σ H ⟨F, m, env, E, r, en, a, q, n, b, c, t⟩ => n σ H F m env (Sub.refl F) r en q
def sRet (w : WE) : WS := fun D env m => w env m (fun d m1 => D.rt d m1) (fun x m1 => D.xc x env m1)
theorem dret {e : Expr} {pos : Pos} {w : WE} (he : DE X e w) : DS X (.Return (some e) pos) (sRet w) := wkS (ps_ret he) fun D σ H ⟨F, m, env, E, r, en, a, q, n, b, c, t⟩ =>
  tW.sub r en a q fun v1 H1 F1 m1 d1 s1 r1 en1 dn1 q1 => t _ H1 F1 m1 d1 s1 r1 dn1 q1
def sRetN : WS := fun D env m => D.rt .non m
theorem dretN {pos : Pos} : DS X (.Return none pos) sRetN := wkS ps_retN fun D σ H ⟨F, m, env, E, r, en, a, q, n, b, c, t⟩ => t _ H F m .non (Sub.refl F) r (by simp only [Den]) q
def sIf (w : WT) (a b : WS) : WS := fun D env m => w env m (fun k m1 => if k = true then a D env m1 else b D env m1) (fun x m1 => D.xc x env m1)
theorem dif_ {c : Expr} {a b : List Stmt} {pos : Pos} {w : WT} {wa wb : WS} (hc : DT X c w) (ha : DSs X a wa) (hb : DSs X b wb) : DS X (.If c a b pos) (sIf w wa wb) := wkS (ps_if hc ha hb) fun D σ H ⟨F, m, env, E, r, en, a, q, n, b, c, t⟩ =>
  tWT.sub r en a q fun k H1 F1 m1 s1 r1 en1 q1 => by
    cases k with
    | true => exact ⟨F1, m1, env, E, r1, en1, a.mono s1, q1, n.mono s1, b.mono s1, c.mono s1, fun v H' F'' m' d s' => t v H' F'' m' d (s1.trans s')⟩
    | false => exact ⟨F1, m1, env, E, r1, en1, a.mono s1, q1, n.mono s1, b.mono s1, c.mono s1, fun v H' F'' m' d s' => t v H' F'' m' d (s1.trans s')⟩
def sNever : WS := fun _ _ _ => False
theorem dsnever {st : Stmt} : DS X st sNever := ⟨fun _ _ _ _ _ _ ⟨F, m, env, E, r, en, a, q, _⟩ => q.elim⟩
theorem dssnever {st : List Stmt} : DSs X st sNever := ⟨fun _ _ _ _ _ _ ⟨F, m, env, E, r, en, a, q, _⟩ => q.elim⟩
def wNever : WE := fun _ _ _ _ => False
theorem dnever {e : Expr} : DE X e wNever := ⟨fun _ _ _ _ _ _ ⟨F, m, env, Qd, xc, r, en, a, q, _⟩ => q.elim⟩

/-! ### targets (they let nothing out) -/
abbrev WG := D → En → Mem → (En → Mem → Prop) → Prop
abbrev WGs := List D → En → Mem → (En → Mem → Prop) → Prop
def tWG (X : Cx) (w : WG) : TG := fun v σ H Q => ∃ (F : Hp) (m : Mem) (env : En) (d : D) (Qd : En → Mem → Prop), Rel X.K F m H ∧ EnvDen X.K F σ env ∧ Den X.K F d v ∧ w d env m Qd ∧ Fw X.K F Qd Q
def tWGs (X : Cx) (w : WGs) : TGs := fun vs σ H Q => ∃ (F : Hp) (m : Mem) (env : En) (ds : List D) (Qd : En → Mem → Prop), Rel X.K F m H ∧ EnvDen X.K F σ env ∧ Dens X.K F ds vs ∧ w ds env m Qd ∧ Fw X.K F Qd Q
abbrev DG (X : Cx) (e : Expr) (w : WG) : Prop := PG X e (tWG X w)
abbrev DGs (X : Cx) (e : List Expr) (w : WGs) : Prop := PGs X e (tWGs X w)
theorem wkG {e : Expr} {t t' : TG} (h : PG X e t) (i : ∀ v σ H Q, t' v σ H Q → t v σ H Q) : PG X e t' := ⟨fun p s σ H v u Q I r z => h.run p s σ H v u Q I r (i _ _ _ _ z)⟩
theorem wkGs {e : List Expr} {t t' : TGs} (h : PGs X e t) (i : ∀ v σ H Q, t' v σ H Q → t v σ H Q) : PGs X e t' := ⟨fun p s σ H v u Q I r z => h.run p s σ H v u Q I r (i _ _ _ _ z)⟩
def gN (i : Nat) : WG := fun d env m Q => Q (env.set i (some d)) m
theorem dgn {i : Nat} {x : Str} {pos : Pos} (hN : X.N.Nodup) (hi : X.N[i]? = some x) (hx : Loc X.env.scope x) (hf : X.fn x = true ∨ X.env.scope.names.lookup x = some .local := by first | exact .inl rfl | exact .inr rfl | assumption) : DG X (.Name x pos) (gN i) :=
  wkG (pg_name hN hi hx hf) fun v σ H Q ⟨F, m, env, d, Qd, r, en, dn, q, n⟩ => n _ H F m _ (Sub.refl F) r (en.set dn i) q
def gsNil : WGs := fun ds env m Q => ds = [] ∧ Q env m
def gsCons (g : WG) (gs : WGs) : WGs := fun ds env m Q => ∃ d r, ds = d :: r ∧ g d env m (fun env' m' => gs r env' m' Q)
theorem dgsnil : DGs X [] gsNil := wkGs pgs_nil fun vs σ H Q ⟨F, m, env, ds, Qd, r, en, dn, q, n⟩ => by
  obtain ⟨rfl, q⟩ := q
  simp only [Dens] at dn
  exact ⟨dn, n _ H F m _ (Sub.refl F) r en q⟩
theorem dgscons {e : Expr} {es : List Expr} {g : WG} {gs : WGs} (h1 : DG X e g) (h2 : DGs X es gs) (hs : (assignEach (e :: es) X.env).map (·.2) = assign e X.env :: (assignEach es X.env).map (·.2) := by rfl) : DGs X (e :: es) (gsCons g gs) :=
  wkGs (pgs_cons h1 h2 hs) fun vs σ H Q ⟨F, m, env, ds, Qd, r, en, dn, q, n⟩ => by
    obtain ⟨d, rest, rfl, q⟩ := q
    simp only [Dens] at dn
    obtain ⟨v, vr, rfl, d1, d2⟩ := dn
    exact ⟨v, vr, rfl, F, m, env, d, _, r, en, d1, q, fun σ' H' F' m' env' s r' en' q' => ⟨F', m', env', rest, Qd, r', en', d2.mono s, q', n.mono s⟩⟩
/-- a tuple's items, so many -/
def gTup (n : Nat) (gs : WGs) : WG := fun d env m Q => match d with
  | .tup ds => ds.length = n ∧ gs ds env m Q
  | _ => False
theorem dgtup {es : List Expr} {k : Nat} {pos : Pos} {gs : WGs} {n : Nat} (hc : X.calm = true) (h : DGs X es gs) (hn : (assignEach es X.env).length = n := by rfl) (hst : (assignEach es X.env).findIdx? (·.1) = none := by rfl) : DG X (.Tuple es k pos) (gTup n gs) :=
  wkG (pg_tup hc h hn hst) fun v σ H Q ⟨F, m, env, d, Qd, r, en, dn, q, n⟩ => by
    cases d <;> first | exact q.elim | skip
    simp only [Den] at dn
    obtain ⟨a, vs, rfl, hs, dn⟩ := dn
    exact ⟨a, vs, rfl, r.sqT hs, by rw [← dn.length]; exact q.1, F, m, env, _, Qd, r, en, dn, q.2, n⟩
/-- o[i] = v: a list's item -/
def gSubL (wo wi : WE) : WG := fun v env m Q => wo env m (fun o m1 => wi env m1 (fun i m2 => match o, i with
  | .ref p, .int k => ∃ xs j, m2 p = some (.lst xs) ∧ ixN xs.length k = some j ∧ Q env (m2.put p (.lst (xs.set j v)))
  | _, _ => False) (fun _ _ => False)) (fun _ _ => False)
theorem dgsubl {o i : Expr} {pos : Pos} {wo wi : WE} (ho : DE X o wo) (hi : DE X i wi)
    (ha : ∀ v, assign (.Subscript o i pos) X.env v = (do
      let ov ← holding [v] (eval o X.env)
      let iv ← holding [v, ov] (eval i X.env)
      standAt pos
      holding [v, ov, iv] (setItem ov iv v)
      release [v, ov, iv] []) := by intro _; rfl) : DG X (.Subscript o i pos) (gSubL wo wi) :=
  wkG (pg_sub ho hi set_list ha) fun v σ H Q ⟨F, m, env, d, Qd, r, en, dn, q, n⟩ =>
    tW.sub (xc := fun _ _ _ => False) r en Acc.no q fun v1 H1 F1 m1 d1 s1 r1 en1 dn1 q1 => tW.sub (xc := fun _ _ _ => False) r1 en1 Acc.no q1 fun v2 H2 F2 m2 d2 s2 r2 en2 dn2 q2 => by
      cases d1 <;> cases d2 <;> first | exact q2.elim | skip
      obtain ⟨xs, j, e, ej, q2⟩ := q2
      simp only [Den] at dn1 dn2
      subst dn1; subst dn2
      obtain ⟨_, cq⟩ := r2.me _ _ e
      simp only [CellOk] at cq
      obtain ⟨vs, hv, dv⟩ := cq
      refine ⟨_, vs, _, j, rfl, rfl, hv, by rw [← dv.length]; exact ej, n _ _ F2 _ _ (s1.trans s2) (r2.store e ?_) en2 q2⟩
      simp only [CellOk]
      exact ⟨_, upd_same, dv.set (dn.mono (s1.trans s2)) j⟩
/-- target = value -/
def sAsg (w : WE) (g : WG) : WS := fun D env m => w env m (fun d m1 => g d env m1 (fun e' m' => D.nx e' m')) (fun x m1 => D.xc x env m1)
theorem dasg {tg e : Expr} {pos : Pos} {w : WE} {g : WG} (he : DE X e w) (hg : DG X tg g) (hs : swapsWithSole [tg] e pos.line X.env = pure false := by rfl) (hw : swappedStores [tg] e X.env = pure none := by rfl)
    (h1 : (assignEach [tg] X.env).map (·.2) = [assign tg X.env] := by rfl) : DS X (.Assign [tg] e pos) (sAsg w g) := wkS (ps_asg he hg hs hw h1) fun D σ H ⟨F, m, env, E, r, en, a, q, n, b, c, t⟩ =>
  tW.sub r en a q fun v1 H1 F1 m1 d1 s1 r1 en1 dn1 q1 => ⟨F1, m1, env, d1, _, r1, en1, dn1, q1, n.mono s1⟩
/-- name = value -/
theorem dset {i : Nat} {x : Str} {e : Expr} {pos pos' : Pos} {w : WE} (hN : X.N.Nodup) (hi : X.N[i]? = some x) (hx : Loc X.env.scope x) (he : DE X e w) (hs : swapsWith e (some (.Name x pos')) pos.line X.env = pure false := by rfl) (hf : X.fn x = true ∨ X.env.scope.names.lookup x = some .local := by first | exact .inl rfl | exact .inr rfl | assumption) :
    DS X (.Assign [.Name x pos'] e pos) (sAsg w (gN i)) := wkS (ps_set hN hi hx he hs hf) fun D σ H ⟨F, m, env, E, r, en, a, q, n, b, c, t⟩ =>
  tW.sub r en a q fun v1 H1 F1 m1 d1 s1 r1 en1 dn1 q1 => n _ H1 F1 m1 _ s1 r1 (en1.set dn1 i) q1
/-- a, b = x, y of plain locals -/
def sPar2 (i j : Nat) (wa : WA) : WS := fun D env m => wa env m (fun ds m1 => ∃ u v, ds = [u, v] ∧ D.nx ((env.set i (some u)).set j (some v)) m1) (fun x m1 => D.xc x env m1)
theorem dens2 {K : Frag} {F : Hp} {u v : D} {vs : List V} (h : Dens K F [u, v] vs) : ∃ a b, vs = [a, b] ∧ Den K F u a ∧ Den K F v b := by
  simp only [Dens] at h
  obtain ⟨a, r, rfl, h1, b, r', rfl, h2, rfl⟩ := h
  exact ⟨a, b, rfl, h1, h2⟩
theorem dens3 {K : Frag} {F : Hp} {u v w : D} {vs : List V} (h : Dens K F [u, v, w] vs) : ∃ a b c, vs = [a, b, c] ∧ Den K F u a ∧ Den K F v b ∧ Den K F w c := by
  simp only [Dens] at h
  obtain ⟨a, r, rfl, h1, b, r', rfl, h2, c, r'', rfl, h3, rfl⟩ := h
  exact ⟨a, b, c, rfl, h1, h2, h3⟩
theorem dpar2 {i j : Nat} {x y : Str} {a b : Expr} {wa : WA} {px py pt pos : Pos} {kt k2 pt2} (hc : X.calm = true) (hN : X.N.Nodup) (hi : X.N[i]? = some x) (hj : X.N[j]? = some y) (hij : i ≠ j)
    (hx : X.env.scope.names.lookup x = some .local) (hy : X.env.scope.names.lookup y = some .local) (ha : DA X [a, b] wa)
    (hw : swappedStores [.Tuple [.Name x px, .Name y py] kt pt] (.Tuple [a, b] k2 pt2) X.env = pure (some [x, y]))
    (hs : swapsWithSole [.Tuple [.Name x px, .Name y py] kt pt] (.Tuple [a, b] k2 pt2) pos.line X.env = pure false := by rfl) :
    DS X (.Assign [.Tuple [.Name x px, .Name y py] kt pt] (.Tuple [a, b] k2 pt2) pos) (sPar2 i j wa) := wkS (ps_par hc hN hi hj hij hx hy ha hw hs) fun D σ H ⟨F, m, env, E, r, en, a, q, n, b, c, t⟩ =>
  tWA.sub r en a q fun vs H1 F1 m1 ds s1 r1 en1 dn1 q1 => by
    obtain ⟨u, v, rfl, q1⟩ := q1
    obtain ⟨a', b', rfl, h1, h2⟩ := dens2 dn1
    exact ⟨a', b', rfl, n _ H1 F1 m1 _ s1 r1 ((en1.set h1 i).set h2 j) q1⟩
def sPar3 (i j l : Nat) (wa : WA) : WS := fun D env m => wa env m (fun ds m1 => ∃ u v w, ds = [u, v, w] ∧ D.nx (((env.set i (some u)).set j (some v)).set l (some w)) m1) (fun x m1 => D.xc x env m1)
theorem dpar3 {i j l : Nat} {x y z : Str} {a b c : Expr} {wa : WA} {px py pz pt pos : Pos} {kt k2 pt2} (hc : X.calm = true) (hN : X.N.Nodup) (hi : X.N[i]? = some x) (hj : X.N[j]? = some y) (hl : X.N[l]? = some z) (hij : i ≠ j) (hil : i ≠ l) (hjl : j ≠ l)
    (hx : X.env.scope.names.lookup x = some .local) (hy : X.env.scope.names.lookup y = some .local) (hz : X.env.scope.names.lookup z = some .local) (ha : DA X [a, b, c] wa)
    (hw : swappedStores [.Tuple [.Name x px, .Name y py, .Name z pz] kt pt] (.Tuple [a, b, c] k2 pt2) X.env = pure (some [x, y, z]))
    (hs : swapsWithSole [.Tuple [.Name x px, .Name y py, .Name z pz] kt pt] (.Tuple [a, b, c] k2 pt2) pos.line X.env = pure false := by rfl) :
    DS X (.Assign [.Tuple [.Name x px, .Name y py, .Name z pz] kt pt] (.Tuple [a, b, c] k2 pt2) pos) (sPar3 i j l wa) := wkS (ps_par3 hc hN hi hj hl hij hil hjl hx hy hz ha hw hs) fun D σ H ⟨F, m, env, E, r, en, a, q, n, b, c, t⟩ =>
  tWA.sub r en a q fun vs H1 F1 m1 ds s1 r1 en1 dn1 q1 => by
    obtain ⟨u, v, w, rfl, q1⟩ := q1
    obtain ⟨a', b', c', rfl, h1, h2, h3⟩ := dens3 dn1
    exact ⟨a', b', c', rfl, n _ H1 F1 m1 _ s1 r1 (((en1.set h1 i).set h2 j).set h3 l) q1⟩

/-! ### while -/
def sWhile (w : WT) (wb : WS) : WS := fun D env m => ∃ W : Nat → En → Mem → Prop, (∃ k, W k env m) ∧ ∀ k env m, W k env m → w env m (fun b m1 => if b = true then
    wb { D with nx := fun e' m' => ∃ k', k' < k ∧ W k' e' m', ct := fun e' m' => ∃ k', k' < k ∧ W k' e' m', bk := D.nx } env m1 else D.nx env m1) (fun x m1 => D.xc x env m1)
theorem dwhile {c : Expr} {body : List Stmt} {pos : Pos} {w : WT} {wb : WS} (hp : PassesOwn (model X.prog X.w) X.A X.env X.xe) (hc : DT X c w) (hb : DSs X body wb) : DS X (.While c body [] pos) (sWhile w wb) := wkS (ps_while hp hc hb) fun D σ H ⟨F, m, env, E, r, en, a, ⟨W, ⟨k0, w0⟩, turn⟩, n, b, c, t⟩ => by
  refine ⟨fun k σ H => ∃ F' m' env', Sub F F' ∧ Rel X.K F' m' H ∧ EnvDen X.K F' σ env' ∧ W k env' m', ⟨k0, F, m, env, Sub.refl F, r, en, w0⟩, ?_⟩
  rintro k σ1 H1 ⟨F1, m1, env1, s1, r1, en1, w1⟩
  refine tWT.sub (xc := E.xc) r1 en1 (a.mono s1) (turn k env1 m1 w1) fun bb H2 F2 m2 s2 r2 en2 q2 => ?_
  cases bb with
  | false => exact n σ1 H2 F2 m2 env1 (s1.trans s2) r2 en2 q2
  | true =>
    refine ⟨fun σ3 H3 => ∃ k', k' < k ∧ ∃ F' m' env', Sub F F' ∧ Rel X.K F' m' H3 ∧ EnvDen X.K F' σ3 env' ∧ W k' env' m', fun σ3 H3 ⟨k', h, z⟩ => ⟨k', h, z⟩, ?_⟩
    have fw : Fw X.K F2 (fun e' m' => ∃ k', k' < k ∧ W k' e' m') (fun σ3 H3 => ∃ k', k' < k ∧ ∃ F' m' env', Sub F F' ∧ Rel X.K F' m' H3 ∧ EnvDen X.K F' σ3 env' ∧ W k' env' m') := fun σ3 H3 F3 m3 env3 s3 r3 en3 ⟨k', h, z⟩ =>
      ⟨k', h, F3, m3, env3, (s1.trans s2).trans s3, r3, en3, z⟩
    exact tWS.sub (E := { E with nx := fun e' m' => ∃ k', k' < k ∧ W k' e' m', ct := fun e' m' => ∃ k', k' < k ∧ W k' e' m', bk := E.nx }) r2 en2 (a.mono (s1.trans s2)) q2 fw (n.mono (s1.trans s2)) fw fun v H' F'' m' d s' => t v H' F'' m' d ((s1.trans s2).trans s')

/-! ### for -/
/-- what is walked: the items, and what must stay so -/
abbrev WI := En → Mem → (List D → (Mem → Prop) → Mem → Prop) → Xo → Prop
def Yields (K : Frag) (F : Hp) (J : It) (ds : List D) (keep : Mem → Prop) : Prop := ∀ (F' : Hp) (m : Mem) (H : Hp) (i : Nat), Sub F F' → Rel K F' m H → keep m →
  (i < ds.length → J.go i H ∧ ∀ x H', J.yld i H x H' → ∃ F'' d, Sub F' F'' ∧ Rel K F'' m H' ∧ ds[i]? = some d ∧ Den K F'' d x) ∧ (ds.length ≤ i → J.stop i H)
def tWI (X : Cx) (w : WI) : TI := fun σ H R => ∃ (F : Hp) (m : Mem) (env : En) (Qd : List D → (Mem → Prop) → Mem → Prop) (xc : Xc), Rel X.K F m H ∧ EnvDen X.K F σ env ∧ Acc X F xc ∧ w env m Qd (fun x m' => xc x env m') ∧
  ∀ J H' F' m' ds keep, Sub F F' → Rel X.K F' m' H' → Yields X.K F' J ds keep → keep m' → Qd ds keep m' → R J H'
abbrev DI (X : Cx) (tg iter : Expr) (w : WI) : Prop := PI X tg iter (tWI X w)
theorem wkI {tg iter : Expr} {t t' : TI} (h : PI X tg iter t) (i : ∀ σ H R, t' σ H R → t σ H R) : PI X tg iter t' := ⟨fun p s σ H R I z => h.run p s σ H R I (i _ _ _ z)⟩
theorem Yields.mono {K : Frag} {F F' : Hp} {J : It} {ds : List D} {keep : Mem → Prop} (y : Yields K F J ds keep) (s : Sub F F') : Yields K F' J ds keep := fun G m H i s' => y G m H i (s.trans s')
/-- Iv done rest: at a turn -/
def sFor (wi : WI) (g : WG) (wb : WS) : WS := fun Z env m => wi env m (fun ds keep m1 => ∃ Iv : List D → List D → En → Mem → Prop, Iv [] ds env m1 ∧
    (∀ done d rest env m, ds = done ++ d :: rest → Iv done (d :: rest) env m → keep m ∧ g d env m (fun e2 m2 => wb { Z with nx := Iv (done ++ [d]) rest, ct := Iv (done ++ [d]) rest, bk := Z.nx } e2 m2)) ∧
    ∀ env m, Iv ds [] env m → keep m ∧ Z.nx env m) (fun x m1 => Z.xc x env m1)
theorem dfor {tg iter : Expr} {body : List Stmt} {pos : Pos} {wi : WI} {g : WG} {wb : WS} (hp : PassesOwn (model X.prog X.w) X.A X.env X.xe) (hc : X.calm = true) (hi : DI X tg iter wi) (hg : DG X tg g) (hb : DSs X body wb)
    (hs : ∀ x, foldedSetIterable iter X.env x = pure x := by intro _; rfl) : DS X (.For tg iter body [] pos) (sFor wi g wb) := wkS (ps_for hp hc hi hg hb hs) fun D σ H ⟨F, m, env, E, r, en, a, q, n, b, c, t⟩ => by
  refine ⟨F, m, env, _, E.xc, r, en, a, q, fun J H1 F1 m1 ds keep s1 r1 y kp ⟨Iv, i0, turn, fin⟩ => ?_⟩
  let W : Nat → Nat → St → Hp → Prop := fun i k σ H => k = ds.length - i ∧ i ≤ ds.length ∧ ∃ F' m' env', Sub F1 F' ∧ Rel X.K F' m' H ∧ EnvDen X.K F' σ env' ∧ Iv (ds.take i) (ds.drop i) env' m'
  refine ⟨W, ⟨ds.length, by simp, Nat.zero_le _, F1, m1, env, Sub.refl F1, r1, en.mono s1, by simpa using i0⟩, ?_⟩
  rintro i k σ2 H2 ⟨rfl, hi2, F2, m2, env2, s2, r2, en2, iv⟩
  by_cases hlt : i < ds.length
  · have hd : ds.drop i = ds[i] :: ds.drop (i + 1) := List.drop_eq_getElem_cons hlt
    have he : ds = ds.take i ++ ds[i] :: ds.drop (i + 1) := by rw [← hd, List.take_append_drop]
    rw [hd] at iv
    obtain ⟨kp2, q2⟩ := turn _ _ _ env2 m2 he iv
    obtain ⟨hy, _⟩ := y F2 m2 H2 i s2 r2 kp2
    obtain ⟨go, yl⟩ := hy hlt
    have et : ds.take i ++ [ds[i]] = ds.take (i + 1) := by rw [List.take_succ_eq_append_getElem hlt]
    refine .inr ⟨go, fun σ' H' => ∃ m', m' < ds.length - i ∧ W (i + 1) m' σ' H', fun σ' H' z => z, fun x H3 hx => ?_⟩
    obtain ⟨F3, d, s3, r3, e3, dn3⟩ := yl x H3 hx
    have ed : d = ds[i] := by rw [List.getElem?_eq_getElem hlt] at e3; exact (Option.some.inj e3).symm
    subst ed
    refine ⟨F3, m2, env2, _, _, r3, en2.mono s3, dn3, q2, fun σ4 H4 F4 m4 env4 s4 r4 en4 q4 => ?_⟩
    have fw : Fw X.K F4 (Iv (ds.take i ++ [ds[i]]) (ds.drop (i + 1))) (fun σ' H' => ∃ m', m' < ds.length - i ∧ W (i + 1) m' σ' H') := fun σ5 H5 F5 m5 env5 s5 r5 en5 q5 =>
      ⟨ds.length - (i + 1), by omega, rfl, hlt, F5, m5, env5, ((s2.trans s3).trans s4).trans s5, r5, en5, by rw [← et]; exact q5⟩
    have ss := ((s1.trans s2).trans s3).trans s4
    exact tWS.sub (E := { E with nx := Iv (ds.take i ++ [ds[i]]) (ds.drop (i + 1)), ct := Iv (ds.take i ++ [ds[i]]) (ds.drop (i + 1)), bk := E.nx }) r4 en4 (a.mono ss) q4 fw (n.mono ss) fw fun v H' F'' m' d s' => t v H' F'' m' d (ss.trans s')
  · have e : i = ds.length := by omega
    subst e
    rw [List.take_length, List.drop_length] at iv
    obtain ⟨kp2, q2⟩ := fin env2 m2 iv
    obtain ⟨_, st⟩ := y F2 m2 H2 ds.length s2 r2 kp2
    exact .inl ⟨st (Nat.le_refl _), n σ2 H2 F2 m2 env2 (s1.trans s2) r2 en2 q2⟩
/-- over a list or tuple -/
def wiSeq (w : WE) : WI := fun env m Q E => w env m (fun d m1 => ∃ ds, seqOf m1 d = some ds ∧ Q ds (fun m' => seqOf m' d = some ds) m1) E
theorem yields_list {K : Frag} {F : Hp} {m : Mem} {H : Hp} {d : D} {a : Addr} {ds : List D} (dn : Den K F d (.ref a)) (hl : ∀ (F' : Hp) m H, Sub F F' → Rel K F' m H → seqOf m d = some ds → ∃ vs, SqL K H a vs ∧ Dens K F' ds vs) : Yields K F (Itl K a) ds (fun m' => seqOf m' d = some ds) := by
  intro F' m H i s r kp
  obtain ⟨vs, h, z⟩ := hl F' m H s r kp
  refine ⟨fun hi => ?_, fun hi => ⟨vs, h, by rw [← z.length]; exact hi⟩⟩
  obtain ⟨v, e, dv⟩ := z.get (List.getElem?_eq_getElem hi)
  refine ⟨⟨vs, v, h, e⟩, fun x H' hx => ?_⟩
  obtain ⟨rfl, hx⟩ := hx
  have := hx vs h
  rw [e] at this
  cases this
  exact ⟨F', _, Sub.refl _, r, List.getElem?_eq_getElem hi, dv⟩
theorem yields_tup {K : Frag} {F : Hp} {m : Mem} {H : Hp} {d : D} {a : Addr} {ds : List D} (dn : Den K F d (.ref a)) (hl : ∀ (F' : Hp) m H, Sub F F' → Rel K F' m H → seqOf m d = some ds → ∃ vs, SqT K H a vs ∧ Dens K F' ds vs) : Yields K F (Itt K a) ds (fun m' => seqOf m' d = some ds) := by
  intro F' m H i s r kp
  obtain ⟨vs, h, z⟩ := hl F' m H s r kp
  refine ⟨fun hi => ?_, fun hi => ⟨vs, h, by rw [← z.length]; exact hi⟩⟩
  obtain ⟨v, e, dv⟩ := z.get (List.getElem?_eq_getElem hi)
  refine ⟨⟨vs, v, h, e⟩, fun x H' hx => ?_⟩
  obtain ⟨rfl, hx⟩ := hx
  have := hx vs h
  rw [e] at this
  cases this
  exact ⟨F', _, Sub.refl _, r, List.getElem?_eq_getElem hi, dv⟩
theorem pi_seq {tg l : Expr} {tl : TE} (hl : PE X l tl) : PI X tg l (fun σ H R => tl σ H fun x H1 => ∃ a, x = .ref a ∧ (((∃ xs, SqL X.K H1 a xs) ∧ R (Itl X.K a) H1) ∨ ((∃ xs, SqT X.K H1 a xs) ∧ R (Itt X.K a) H1))) := by
  refine ⟨fun pins s σ H R I h => ?_⟩
  refine thn (hl.run pins s σ H _ I h) fun v s1 ⟨x, H1, I1, r1, q1⟩ => ?_
  obtain ⟨a, e, q⟩ := q1
  subst e
  cases r1
  rcases q with ⟨⟨xs, hq⟩, q⟩ | ⟨⟨xs, hq⟩, q⟩
  · obtain ⟨its, rv, p, hz⟩ := I1.list hq
    refine wpAny_pyIter_list p.isList ?_
    refine ⟨s1.heap.objs.size, [s1.heap.objs.size], _, _, H1, rfl, I1.kept (t' := s1.toks) fun b o e => Heap.get?_push_of_some _ e, turn_list a _, ⟨_, Heap.get?_push_size _ rfl, rfl, rfl⟩, fun b hb => ?_, q⟩
    have e : b = s1.heap.objs.size := by simpa using hb
    subst e
    exact I1.fpOk (Nat.le_refl _) (I1.hok.fresh (Nat.le_refl _))
  · obtain ⟨its, rv, p, hz⟩ := I1.tuple hq
    refine wpAny_pyIter_tuple (show s1.heap.IsTuple a its.toArray from p) ?_
    refine ⟨s1.heap.objs.size, [s1.heap.objs.size], _, _, H1, rfl, I1.kept (t' := s1.toks) fun b o e => Heap.get?_push_of_some _ e, turn_tuple a _, ⟨_, Heap.get?_push_size _ rfl, rfl, rfl⟩, fun b hb => ?_, q⟩
    have e : b = s1.heap.objs.size := by simpa using hb
    subst e
    exact I1.fpOk (Nat.le_refl _) (I1.hok.fresh (Nat.le_refl _))
theorem diseq {tg l : Expr} {w : WE} (hl : DE X l w) : DI X tg l (wiSeq w) := wkI (pi_seq hl) fun σ H R ⟨F, m, env, Qd, xc, r, en, a, q, k⟩ =>
  tW.sub r en a q fun v1 H1 F1 m1 d1 s1 r1 en1 dn1 ⟨ds, e, q1⟩ => by
    obtain ⟨p, vs, rfl, hs, _⟩ := r1.seqOf dn1 e
    refine ⟨p, rfl, ?_⟩
    have kind : (∃ ys, d1 = .tup ys) ∨ (∀ ys, d1 ≠ .tup ys) := by cases d1 <;> first | exact .inl ⟨_, rfl⟩ | exact .inr fun ys z => nomatch z
    rcases kind with ⟨ys, rfl⟩ | nt
    · have D1 := dn1
      simp only [Den] at dn1
      obtain ⟨b, us, eb, hb, _⟩ := dn1
      cases eb
      refine .inr ⟨⟨us, r1.sqT hb⟩, k _ H1 F1 m1 ds _ s1 r1 (yields_tup (m := m1) (H := H1) D1 fun F' m H s r z => ?_) e q1⟩
      cases z
      have D2 := D1.mono s
      simp only [Den] at D2
      obtain ⟨b', us', eb', hb', dn'⟩ := D2
      cases eb'
      exact ⟨us', r.sqT hb', dn'⟩
    · have get : ∀ (F' : Hp) m H, Sub F1 F' → Rel X.K F' m H → seqOf m d1 = some ds → ∃ vs, SqL X.K H p vs ∧ Dens X.K F' ds vs := fun F' m H s r z => by
        obtain ⟨b, us, eb, hb, dn'⟩ : ∃ a us, V.ref p = .ref a ∧ SqL X.K H a us ∧ Dens X.K F' ds us := by
          cases d1 with
          | tup ys => exact absurd rfl (nt ys)
          | klst ys =>
            cases z
            have D2 := dn1.mono s
            simp only [Den] at D2
            obtain ⟨b, us, e1, e2, e3⟩ := D2
            exact ⟨b, us, e1, r.sqL e2, e3⟩
          | lst ys =>
            obtain ⟨b, us, e1, e2, e3⟩ := r.lstOf (dn1.mono s) (show lstOf m (.lst ys) = some ds from z)
            exact ⟨b, us, e1, .inl e2, e3⟩
          | ref a =>
            obtain ⟨b, us, e1, e2, e3⟩ := r.lstOf (dn1.mono s) (show lstOf m (.ref a) = some ds from z)
            exact ⟨b, us, e1, .inl e2, e3⟩
          | _ => cases z
        cases eb
        exact ⟨us, hb, dn'⟩
      obtain ⟨us, hb, _⟩ := get F1 m1 H1 (Sub.refl _) r1 e
      exact .inl ⟨⟨us, hb⟩, k _ H1 F1 m1 ds _ s1 r1 (yields_list (m := m1) (H := H1) dn1 get) e q1⟩
/-- range(n), range(a, b) -/
def rngD (lo : Int) (n : Nat) : List D := (List.range n).map fun (i : Nat) => D.int (lo + (i : Int))
theorem rngD_length (lo : Int) (n : Nat) : (rngD lo n).length = n := by simp [rngD]
theorem yields_rng {K : Frag} {F : Hp} (lo : Int) (n : Nat) : Yields K F (Itr lo n) (rngD lo n) (fun _ => True) := by
  intro F' m H i s r _
  rw [rngD_length]
  refine ⟨fun hi => ⟨hi, fun x H' hx => ?_⟩, fun hi => hi⟩
  obtain ⟨rfl, rfl⟩ := hx
  exact ⟨F', .int (lo + i), Sub.refl _, r, by simp [rngD, hi], by simp only [Den]⟩
def wiRng1 (wa : WA) : WI := fun env m Q E => wa env m (fun ds m1 => ∃ j : Int, ds = [.int j] ∧ -(2 ^ 62) ≤ j ∧ j < 2 ^ 62 ∧ Q (rngD 0 j.toNat) (fun _ => True) m1) E
def wiRng2 (wa : WA) : WI := fun env m Q E => wa env m (fun ds m1 => ∃ i j : Int, ds = [.int i, .int j] ∧ (-(2 ^ 62) ≤ i ∧ i < 2 ^ 62 ∧ -(2 ^ 62) ≤ j ∧ j < 2 ^ 62) ∧ Q (rngD i (j - i).toNat) (fun _ => True) m1) E
theorem dirng1 {tg a : Expr} {wa : WA} {p pos : Pos} (hg : Gl X "range") (hm : X.mg "range" = none) (ha : DA X [a] wa) (hs : starEach [a] X.env = [(false, eval a X.env)] := by rfl) : DI X tg (.Call (.Name "range" p) [a] [] pos) (wiRng1 wa) :=
  wkI (pi_range1 hg hm ha hs) fun σ H R ⟨F, m, env, Qd, xc, r, en, a, q, k⟩ => tWA.sub r en a q fun vs H1 F1 m1 ds s1 r1 en1 dn1 ⟨j, e, h1, h2, q1⟩ => by
    subst e
    simp only [Dens, Den] at dn1
    obtain ⟨v, r', rfl, rfl, rfl⟩ := dn1
    exact ⟨j, rfl, h1, h2, k _ H1 F1 m1 _ _ s1 r1 (yields_rng 0 j.toNat) trivial q1⟩
theorem dirng2 {tg a b : Expr} {wa : WA} {p pos : Pos} (hg : Gl X "range") (hm : X.mg "range" = none) (ha : DA X [a, b] wa) (hs : starEach [a, b] X.env = [(false, eval a X.env), (false, eval b X.env)] := by rfl) (hs2 : starEach [b] X.env = [(false, eval b X.env)] := by rfl) :
    DI X tg (.Call (.Name "range" p) [a, b] [] pos) (wiRng2 wa) :=
  wkI (pi_range2 hg hm ha hs hs2) fun σ H R ⟨F, m, env, Qd, xc, r, en, a, q, k⟩ => tWA.sub r en a q fun vs H1 F1 m1 ds s1 r1 en1 dn1 ⟨i, j, e, h1, q1⟩ => by
    subst e
    obtain ⟨u, v, rfl, h2, h3⟩ := dens2 dn1
    simp only [Den] at h2 h3
    subst h2; subst h3
    exact ⟨i, j, rfl, h1, k _ H1 F1 m1 _ _ s1 r1 (yields_rng i (j - i).toNat) trivial q1⟩
end
end DL

/-! D5: list comprehensions over data. -/
namespace DL
open PySem PySem.Spec L2

def wipeD (env : En) : List Nat → En
  | [] => env
  | v :: vs => (wipeD env vs).set v none
@[simp] theorem wipeD_nil {env : En} : wipeD env [] = env := rfl
@[simp] theorem wipeD_cons {env : En} {v : Nat} {vs : List Nat} : wipeD env (v :: vs) = (wipeD env vs).set v none := rfl
theorem EnvDen.wipe {K : Frag} {F : Hp} {σ : St} {env : En} (h : EnvDen K F σ env) : ∀ vs, EnvDen K F (L2.wipe σ vs) (wipeD env vs)
  | [] => h
  | v :: vs => (h.wipe vs).unset v
theorem wipe_set {σ : St} {i : Nat} {x : Option V} : ∀ {vs : List Nat}, i ∈ vs → wipe (σ.set i x) vs = wipe σ vs
  | [], h => by simp at h
  | v :: vs, h => by
    show (wipe (σ.set i x) vs).set v none = (wipe σ vs).set v none
    by_cases e : i ∈ vs
    · rw [wipe_set e]
    · have : i = v := by simpa [e] using h
      subst this
      clear h
      have gen : ∀ (us : List Nat), i ∉ us → (wipe (σ.set i x) us) = (wipe σ us).set i x := by
        intro us
        induction us with
        | nil => intro _; rfl
        | cons u us ih =>
          intro hn
          simp only [List.mem_cons, not_or] at hn
          show (wipe (σ.set i x) us).set u none = ((wipe σ us).set u none).set i x
          rw [ih hn.2, List.set_comm _ _ hn.1]
      rw [gen vs e, List.set_set]

/-- a comprehension's target: names in slots vs -/
def CTg (K : Frag) (vs : List Nat) (g : TG) (g' : WG) : Prop := ∀ (F : Hp) (m : Mem) (v : V) (σ : St) (H : Hp) (env : En) (d : D) (Qd : En → Mem → Prop) (Q : St → Hp → Prop), Rel K F m H → EnvDen K F σ env → Den K F d v → g' d env m Qd →
  (∀ σ' env', EnvDen K F σ' env' → wipe σ' vs = wipe σ vs → Qd env' m → Q σ' H) → g v σ H Q
theorem ct_name {K : Frag} {i : Nat} {vs : List Nat} (h : i ∈ vs := by decide) : CTg K vs (gName i) (gN i) := fun F m v σ H env d Qd Q r en dn q k => k _ _ (en.set dn i) (wipe_set h) q
def CTgs (K : Frag) (vs : List Nat) (g : TGs) (g' : WGs) : Prop := ∀ (F : Hp) (m : Mem) (us : List V) (σ : St) (H : Hp) (env : En) (ds : List D) (Qd : En → Mem → Prop) (Q : St → Hp → Prop), Rel K F m H → EnvDen K F σ env → Dens K F ds us → g' ds env m Qd →
  (∀ σ' env', EnvDen K F σ' env' → wipe σ' vs = wipe σ vs → Qd env' m → Q σ' H) → g us σ H Q
theorem ct_nil {K : Frag} {vs : List Nat} : CTgs K vs L2.gNil gsNil := fun F m us σ H env ds Qd Q r en dn q k => by
  obtain ⟨rfl, q⟩ := q
  simp only [Dens] at dn
  exact ⟨dn, k σ env en rfl q⟩
theorem ct_cons {K : Frag} {vs : List Nat} {i : Nat} {g : TGs} {g' : WGs} (h2 : CTgs K vs g g') (h : i ∈ vs := by decide) : CTgs K vs (gCons (gName i) g) (gsCons (gN i) g') := fun F m us σ H env ds Qd Q r en dn q k => by
  obtain ⟨d, rest, rfl, q⟩ := q
  simp only [Dens] at dn
  obtain ⟨v, vr, rfl, d1, d2⟩ := dn
  exact ⟨v, vr, rfl, h2 F m vr _ H _ rest Qd Q r (en.set d1 i) d2 q fun σ' env' e w q' => k σ' env' e (w.trans (wipe_set h)) q'⟩
theorem ct_tup {K : Frag} {vs : List Nat} {n : Nat} {g : TGs} {g' : WGs} (h : CTgs K vs g g') : CTg K vs (L2.gTup K n g) (gTup n g') := fun F m v σ H env d Qd Q r en dn q k => by
  cases d <;> first | exact q.elim | skip
  simp only [Den] at dn
  obtain ⟨a, us, rfl, hs, dn⟩ := dn
  exact ⟨a, us, rfl, r.sqT hs, by rw [← dn.length]; exact q.1, h F m us σ H env _ Qd Q r en dn q.2 k⟩

section
variable {X : Cx}
abbrev DTs (X : Cx) (ifs : List Expr) (w : WT) : Prop := PTs X ifs (tWT X w)
def wYes : WT := fun _ m Q _ => Q true m
theorem dtsnil : DTs X [] wYes := ⟨fun pins s σ H Q I ⟨F, m, env, Qd, xc, r, en, a, q, k⟩ => pts_nil.run pins s σ H Q I (k _ H F m (Sub.refl F) r q)⟩
theorem dtsone {c : Expr} {w : WT} (h : DT X c w) : DTs X [c] w := pts_one h
def noX : Xo := fun _ _ => False
/-- [elt for target in iter if ..], at p -/
def wLc (wi : WI) (g : WG) (wt : WT) (we : WE) (vs : List Nat) : WE := fun env m Q E => wi env m (fun ds keep m1 => ∀ p, m1 p = none → ∃ Iv : List D → List D → List D → Mem → Prop, Iv [] ds [] (m1.put p (.lst [])) ∧
  (∀ done d rest acc m, ds = done ++ d :: rest → Iv done (d :: rest) acc m → keep m ∧ m p = some (.lst acc) ∧ acc.length < sizeLine ∧ g d (wipeD env vs) m (fun e2 m2 => wt e2 m2 (fun b m3 =>
    if b = true then we e2 m3 (fun y m4 => m4 p = some (.lst acc) ∧ Iv (done ++ [d]) rest (acc ++ [y]) (m4.put p (.lst (acc ++ [y])))) noX else Iv (done ++ [d]) rest acc m3) noX)) ∧
  ∀ acc m, Iv ds [] acc m → keep m ∧ m p = some (.lst acc) ∧ Q (.ref p) m) E
theorem lc_step {wi : WI} {g : TG} {g' : WG} {wt : WT} {we : WE} {vs : List Nat} {tt : TT} {te : TE} {σ : St} {H : Hp} {Q : VK} (ct : CTg X.K vs g g')
    (htt : ∀ {σ H Q}, (∃ F m env Qd, Rel X.K F m H ∧ EnvDen X.K F σ env ∧ wt env m Qd noX ∧ ∀ b H' F' m', Sub F F' → Rel X.K F' m' H' → Qd b m' → Q b H') → tt σ H Q)
    (hte : ∀ {σ H Q}, (∃ F m env Qd, Rel X.K F m H ∧ EnvDen X.K F σ env ∧ we env m Qd noX ∧ ∀ v H' F' m' d, Sub F F' → Rel X.K F' m' H' → Den X.K F' d v → Qd d m' → Q v H') → te σ H Q)
    (h : tW X (wLc wi g' wt we vs) σ H Q) : tLc (tWI X wi) g tt te vs σ H Q := by
  obtain ⟨F, m, env, Qd, xc, r, en, a, q, k⟩ := h
  refine ⟨F, m, env, _, xc, r, en, a, q, fun J H1 F1 m1 ds keep s1 r1 y kp q1 => fun p hp => ?_⟩
  obtain ⟨f1, n1⟩ := r1.free hp
  obtain ⟨Iv, i0, turn, fin⟩ := q1 p n1
  let W : Nat → Nat → Hp → Prop := fun i k H => k = ds.length - i ∧ i ≤ ds.length ∧ ∃ F' m' acc, Sub F1 F' ∧ Rel X.K F' m' H ∧ Iv (ds.take i) (ds.drop i) acc m'
  have r1' : Rel X.K F1 (m1.put p (.lst [])) (upd H1 p (.lst [])) := r1.fresh hp (by simp only [CellOk]; exact ⟨[], upd_same, Dens.nil⟩)
  refine ⟨W, ⟨ds.length, by simp, Nat.zero_le _, F1, _, [], Sub.refl F1, r1', by simpa using i0⟩, ?_⟩
  rintro i k2 H2 ⟨rfl, hi2, F2, m2, acc, s2, r2, iv⟩
  by_cases hlt : i < ds.length
  · have hd : ds.drop i = ds[i] :: ds.drop (i + 1) := List.drop_eq_getElem_cons hlt
    have he : ds = ds.take i ++ ds[i] :: ds.drop (i + 1) := by rw [← hd, List.take_append_drop]
    rw [hd] at iv
    obtain ⟨kp2, hp2, hz, q2⟩ := turn _ _ _ acc m2 he iv
    obtain ⟨hy, _⟩ := y F2 m2 H2 i s2 r2 kp2
    obtain ⟨go, yl⟩ := hy hlt
    have et : ds.take i ++ [ds[i]] = ds.take (i + 1) := by rw [List.take_succ_eq_append_getElem hlt]
    rw [et] at q2
    refine .inr ⟨go, fun H' => ∃ m', m' < ds.length - i ∧ W (i + 1) m' H', fun H' z => z, fun x H3 hx => ?_⟩
    obtain ⟨F3, d, s3, r3, e3, dn3⟩ := yl x H3 hx
    have ed : d = ds[i] := by rw [List.getElem?_eq_getElem hlt] at e3; exact (Option.some.inj e3).symm
    subst ed
    have enw := ((en.mono s1).mono s2).mono s3
    refine ct F3 m2 x _ H3 _ _ _ _ r3 (enw.wipe vs) dn3 q2 fun σ' env' e' ew q4 => ?_
    have idem : ∀ us : List Nat, (∀ u ∈ us, u ∈ vs) → wipe (wipe σ us) vs = wipe σ vs := by
      intro us
      induction us with
      | nil => intro _; rfl
      | cons u us ih =>
        intro hu
        show wipe ((wipe σ us).set u none) vs = _
        rw [wipe_set (hu u List.mem_cons_self)]
        exact ih fun x hx => hu x (List.mem_cons_of_mem _ hx)
    refine ⟨ew.trans (idem vs fun _ h => h), htt ⟨F3, m2, env', _, r3, e', q4, fun b H4 F4 m4 s4 r4 q5 => ?_⟩⟩
    cases b with
    | false => exact ⟨ds.length - (i + 1), by omega, rfl, hlt, F4, m4, acc, (s2.trans s3).trans s4, r4, q5⟩
    | true =>
      refine hte ⟨F4, m4, env', _, r4, e'.mono s4, q5, fun v H5 F5 m5 d5 s5 r5 dn5 q6 => ?_⟩
      obtain ⟨e6, q6⟩ := q6
      obtain ⟨_, cq⟩ := r5.me p _ e6
      simp only [CellOk] at cq
      obtain ⟨us, hu, du⟩ := cq
      refine ⟨us, hu, by rw [← du.length]; exact hz, ds.length - (i + 1), by omega, rfl, hlt, F5, _, acc ++ [d5], ((s2.trans s3).trans s4).trans s5, r5.store e6 ?_, q6⟩
      simp only [CellOk]
      exact ⟨_, upd_same, du.append (Dens.one dn5)⟩
  · have e : i = ds.length := by omega
    subst e
    rw [List.take_length, List.drop_length] at iv
    obtain ⟨kp2, hp2, q2⟩ := fin acc m2 iv
    obtain ⟨_, st⟩ := y F2 m2 H2 ds.length s2 r2 kp2
    exact .inl ⟨st (Nat.le_refl _), k _ H2 F2 m2 _ (s1.trans s2) r2 (by simp only [Den]) q2⟩
theorem dlc {elt tg iter : Expr} {ifs : List Expr} {scope : Scope} {own : List (Str × Nat)} {pos : Pos} {wi : WI} {g : TG} {g' : WG} {wt : WT} {we : WE} (hc : X.calm = true) (hN : X.N.Nodup) (hi : DI X tg iter wi) (ok : BlkOk X.N X.env.scope scope own)
    (hg : ∀ (s : Shared) (H : Hp) (C : Addr) (cl : List (Str × Addr)) (fp : List Addr), PG (X.blk s H scope (compEnvC scope cl C X.env) fp) tg g) (ct : CTg X.K (own.map (·.2)) g g')
    (ht : ∀ (s : Shared) (H : Hp) (C : Addr) (cl : List (Str × Addr)) (fp : List Addr), DTs (X.blk s H scope (compEnvC scope cl C X.env) fp) ifs wt)
    (he : ∀ (s : Shared) (H : Hp) (C : Addr) (cl : List (Str × Addr)) (fp : List Addr), DE (X.blk s H scope (compEnvC scope cl C X.env) fp) elt we) (hs : ∀ x, foldedSetIterable iter X.env x = pure x := by intro _; rfl) :
    DE X (.ListComp elt [⟨tg, iter, ifs, 0⟩] scope pos) (wLc wi g' wt we (own.map (·.2))) := by
  let tt : TT := fun σ H Q => ∃ F m env Qd, Rel X.K F m H ∧ EnvDen X.K F σ env ∧ wt env m Qd noX ∧ ∀ b H' F' m', Sub F F' → Rel X.K F' m' H' → Qd b m' → Q b H'
  let te : TE := fun σ H Q => ∃ F m env Qd, Rel X.K F m H ∧ EnvDen X.K F σ env ∧ we env m Qd noX ∧ ∀ v H' F' m' d, Sub F F' → Rel X.K F' m' H' → Den X.K F' d v → Qd d m' → Q v H'
  refine wkE (pe_lc (tt := tt) (te := te) hc hN hi ok hg (fun s H C cl fp => ⟨fun p s' σ H' Q I ⟨F, m, env, Qd, r, en, q, k⟩ => (ht s H C cl fp).run p s' σ H' Q I ⟨F, m, env, Qd, fun _ _ _ => False, r, en, Acc.no, q, k⟩⟩)
    (fun s H C cl fp => ⟨fun p s' σ H' Q I ⟨F, m, env, Qd, r, en, q, k⟩ => (he s H C cl fp).run p s' σ H' Q I ⟨F, m, env, Qd, fun _ _ _ => False, r, en, Acc.no, q, k⟩⟩) hs) fun σ H Q h => lc_step ct (fun z => z) (fun z => z) h
theorem frz_of {w : WE} {σ : St} {H : Hp} {Q : VK} (h : tW X (wFrz w) σ H Q) : tW X w σ H Q := by
  obtain ⟨F, m, env, Qd, xc, r, en, a, q, k⟩ := h
  exact tW.sub r en a q fun v1 H1 F1 m1 d1 s1 r1 en1 dn1 q1 => by
    cases d1 with
    | ref p =>
      simp only at q1
      split at q1
      · rename_i xs e
        obtain ⟨F', s', r', dn'⟩ := r1.freeze e
        simp only [Den] at dn1
        subst dn1
        exact k _ H1 F' _ _ (s1.trans s') r' dn' q1
      · exact k _ H1 F1 m1 _ s1 r1 dn1 q1
    | _ => exact k _ H1 F1 m1 _ s1 r1 dn1 q1
/-- name = [..] on one line -/
theorem dsetlc {i : Nat} {y : Str} {py : Pos} {elt tg iter : Expr} {ifs : List Expr} {scope : Scope} {own : List (Str × Nat)} {pos spos : Pos} {wi : WI} {g : TG} {g' : WG} {wt : WT} {we : WE} (hc : X.calm = true) (hN : X.N.Nodup) (hy : X.N[i]? = some y) (hyl : X.env.scope.names.lookup y = some .local)
    (hsw : swapsWith (.ListComp elt [⟨tg, iter, ifs, 0⟩] scope pos) (some (.Name y py)) spos.line X.env = pure true) (hi : DI X tg iter wi) (ok : BlkOk X.N X.env.scope scope own)
    (hg : ∀ (s : Shared) (H : Hp) (C : Addr) (cl : List (Str × Addr)) (fp : List Addr), PG (X.blk s H scope (compEnvC scope cl C X.env) fp) tg g) (ct : CTg X.K (own.map (·.2)) g g')
    (ht : ∀ (s : Shared) (H : Hp) (C : Addr) (cl : List (Str × Addr)) (fp : List Addr), DTs (X.blk s H scope (compEnvC scope cl C X.env) fp) ifs wt)
    (he : ∀ (s : Shared) (H : Hp) (C : Addr) (cl : List (Str × Addr)) (fp : List Addr), DE (X.blk s H scope (compEnvC scope cl C X.env) fp) elt we) (hs : ∀ x, foldedSetIterable iter X.env x = pure x := by intro _; rfl) :
    DS X (.Assign [.Name y py] (.ListComp elt [⟨tg, iter, ifs, 0⟩] scope pos) spos) (sAsg (wLc wi g' wt we (own.map (·.2))) (gN i)) := by
  let tt : TT := fun σ H Q => ∃ F m env Qd, Rel X.K F m H ∧ EnvDen X.K F σ env ∧ wt env m Qd noX ∧ ∀ b H' F' m', Sub F F' → Rel X.K F' m' H' → Qd b m' → Q b H'
  let te : TE := fun σ H Q => ∃ F m env Qd, Rel X.K F m H ∧ EnvDen X.K F σ env ∧ we env m Qd noX ∧ ∀ v H' F' m' d, Sub F F' → Rel X.K F' m' H' → Den X.K F' d v → Qd d m' → Q v H'
  refine wkS (ps_setLc (tt := tt) (te := te) hc hN hy hyl hsw hi ok hg (fun s H C cl fp => ⟨fun p s' σ H' Q I ⟨F, m, env, Qd, r, en, q, k⟩ => (ht s H C cl fp).run p s' σ H' Q I ⟨F, m, env, Qd, fun _ _ _ => False, r, en, Acc.no, q, k⟩⟩)
    (fun s H C cl fp => ⟨fun p s' σ H' Q I ⟨F, m, env, Qd, r, en, q, k⟩ => (he s H C cl fp).run p s' σ H' Q I ⟨F, m, env, Qd, fun _ _ _ => False, r, en, Acc.no, q, k⟩⟩) hs) fun D σ H ⟨F, m, env, E, r, en, a, q, n, b, c, t⟩ => ?_
  exact lc_step ct (fun z => z) (fun z => z) (tW.sub (xc := E.xc) r en a q fun v1 H1 F1 m1 d1 s1 r1 en1 dn1 q1 => n _ H1 F1 m1 _ s1 r1 (en1.set dn1 i) q1)
/-- .. from then on a value -/
theorem dsetlcF {i : Nat} {y : Str} {py : Pos} {elt tg iter : Expr} {ifs : List Expr} {scope : Scope} {own : List (Str × Nat)} {pos spos : Pos} {wi : WI} {g : TG} {g' : WG} {wt : WT} {we : WE} (hc : X.calm = true) (hN : X.N.Nodup) (hy : X.N[i]? = some y) (hyl : X.env.scope.names.lookup y = some .local)
    (hsw : swapsWith (.ListComp elt [⟨tg, iter, ifs, 0⟩] scope pos) (some (.Name y py)) spos.line X.env = pure true) (hi : DI X tg iter wi) (ok : BlkOk X.N X.env.scope scope own)
    (hg : ∀ (s : Shared) (H : Hp) (C : Addr) (cl : List (Str × Addr)) (fp : List Addr), PG (X.blk s H scope (compEnvC scope cl C X.env) fp) tg g) (ct : CTg X.K (own.map (·.2)) g g')
    (ht : ∀ (s : Shared) (H : Hp) (C : Addr) (cl : List (Str × Addr)) (fp : List Addr), DTs (X.blk s H scope (compEnvC scope cl C X.env) fp) ifs wt)
    (he : ∀ (s : Shared) (H : Hp) (C : Addr) (cl : List (Str × Addr)) (fp : List Addr), DE (X.blk s H scope (compEnvC scope cl C X.env) fp) elt we) (hs : ∀ x, foldedSetIterable iter X.env x = pure x := by intro _; rfl) :
    DS X (.Assign [.Name y py] (.ListComp elt [⟨tg, iter, ifs, 0⟩] scope pos) spos) (sAsg (wFrz (wLc wi g' wt we (own.map (·.2)))) (gN i)) := by
  let tt : TT := fun σ H Q => ∃ F m env Qd, Rel X.K F m H ∧ EnvDen X.K F σ env ∧ wt env m Qd noX ∧ ∀ b H' F' m', Sub F F' → Rel X.K F' m' H' → Qd b m' → Q b H'
  let te : TE := fun σ H Q => ∃ F m env Qd, Rel X.K F m H ∧ EnvDen X.K F σ env ∧ we env m Qd noX ∧ ∀ v H' F' m' d, Sub F F' → Rel X.K F' m' H' → Den X.K F' d v → Qd d m' → Q v H'
  refine wkS (ps_setLc (tt := tt) (te := te) hc hN hy hyl hsw hi ok hg (fun s H C cl fp => ⟨fun p s' σ H' Q I ⟨F, m, env, Qd, r, en, q, k⟩ => (ht s H C cl fp).run p s' σ H' Q I ⟨F, m, env, Qd, fun _ _ _ => False, r, en, Acc.no, q, k⟩⟩)
    (fun s H C cl fp => ⟨fun p s' σ H' Q I ⟨F, m, env, Qd, r, en, q, k⟩ => (he s H C cl fp).run p s' σ H' Q I ⟨F, m, env, Qd, fun _ _ _ => False, r, en, Acc.no, q, k⟩⟩) hs) fun D σ H ⟨F, m, env, E, r, en, a, q, n, b, c, t⟩ => ?_
  exact lc_step ct (fun z => z) (fun z => z) (frz_of (tW.sub (xc := E.xc) r en a q fun v1 H1 F1 m1 d1 s1 r1 en1 dn1 q1 => n _ H1 F1 m1 _ s1 r1 (en1.set dn1 i) q1))
end
/-! ### comprehensions whose turns change nothing: f tells each item's element, or that it is left out -/
section
variable {X : Cx}
def wLcP (wi : WI) (g : WG) (wt : WT) (we : WE) (vs : List Nat) : WE := fun env m Q E => wi env m (fun ds keep m1 => ∃ f : D → Option D, ds.length ≤ sizeLine ∧ (∀ m', m1.le m' → keep m') ∧
  (∀ d, d ∈ ds → ∀ m', m1.le m' → g d (wipeD env vs) m' (fun e2 m2 => wt e2 m2 (fun b m3 => if b = true then we e2 m3 (fun y m4 => m4 = m' ∧ f d = some y) noX else m3 = m' ∧ f d = none) noX)) ∧ Q (.lst (ds.filterMap f)) m1) E
theorem lcp_step {wi : WI} {g : TG} {g' : WG} {wt : WT} {we : WE} {vs : List Nat} {tt : TT} {te : TE} {σ : St} {H : Hp} {Q : VK} (ct : CTg X.K vs g g')
    (htt : ∀ {σ H Q}, (∃ F m env Qd, Rel X.K F m H ∧ EnvDen X.K F σ env ∧ wt env m Qd noX ∧ ∀ b H' F' m', Sub F F' → Rel X.K F' m' H' → Qd b m' → Q b H') → tt σ H Q)
    (hte : ∀ {σ H Q}, (∃ F m env Qd, Rel X.K F m H ∧ EnvDen X.K F σ env ∧ we env m Qd noX ∧ ∀ v H' F' m' d, Sub F F' → Rel X.K F' m' H' → Den X.K F' d v → Qd d m' → Q v H') → te σ H Q)
    (h : tW X (wLcP wi g' wt we vs) σ H Q) : tLc (tWI X wi) g tt te vs σ H Q := by
  obtain ⟨F, m, env, Qd, xc, r, en, a, q, k⟩ := h
  refine ⟨F, m, env, _, xc, r, en, a, q, fun J H1 F1 m1 ds keep s1 r1 y kp q1 => fun p hp => ?_⟩
  obtain ⟨f1, n1⟩ := r1.free hp
  obtain ⟨f, hz, hk, hd, q1⟩ := q1
  let M : List D → Mem := fun xs => m1.put p (.lst xs)
  have leM : ∀ xs, m1.le (M xs) := fun xs => Mem.le_put n1
  let W : Nat → Nat → Hp → Prop := fun i k H => k = ds.length - i ∧ i ≤ ds.length ∧ ∃ F', Sub F1 F' ∧ Rel X.K F' (M ((ds.take i).filterMap f)) H
  have r1' : Rel X.K F1 (m1.put p (.lst [])) (upd H1 p (.lst [])) := r1.fresh hp (by simp only [CellOk]; exact ⟨[], upd_same, Dens.nil⟩)
  refine ⟨W, ⟨ds.length, by simp, Nat.zero_le _, F1, Sub.refl F1, r1'⟩, ?_⟩
  rintro i k2 H2 ⟨rfl, hi2, F2, s2, r2⟩
  by_cases hlt : i < ds.length
  · obtain ⟨hy, _⟩ := y F2 _ H2 i s2 r2 (hk _ (leM _))
    obtain ⟨go, yl⟩ := hy hlt
    have et : (ds.take (i + 1)).filterMap f = (ds.take i).filterMap f ++ (f ds[i]).toList := by
      rw [List.take_succ_eq_append_getElem hlt, List.filterMap_append]
      cases e : f ds[i] <;> simp [e]
    have lt : ((ds.take i).filterMap f).length < sizeLine := by
      have h1 := List.length_filterMap_le f (ds.take i)
      rw [List.length_take] at h1
      omega
    refine .inr ⟨go, fun H' => ∃ m', m' < ds.length - i ∧ W (i + 1) m' H', fun H' z => z, fun x H3 hx => ?_⟩
    obtain ⟨F3, d, s3, r3, e3, dn3⟩ := yl x H3 hx
    have ed : d = ds[i] := by rw [List.getElem?_eq_getElem hlt] at e3; exact (Option.some.inj e3).symm
    subst ed
    have enw := ((en.mono s1).mono s2).mono s3
    refine ct F3 _ x _ H3 _ _ _ _ r3 (enw.wipe vs) dn3 (hd _ (List.getElem_mem hlt) _ (leM _)) fun σ' env' e' ew q4 => ?_
    have idem : ∀ us : List Nat, (∀ u ∈ us, u ∈ vs) → wipe (wipe σ us) vs = wipe σ vs := by
      intro us
      induction us with
      | nil => intro _; rfl
      | cons u us ih =>
        intro hu
        show wipe ((wipe σ us).set u none) vs = _
        rw [wipe_set (hu u List.mem_cons_self)]
        exact ih fun x hx => hu x (List.mem_cons_of_mem _ hx)
    refine ⟨ew.trans (idem vs fun _ h => h), htt ⟨F3, _, env', _, r3, e', q4, fun b H4 F4 m4 s4 r4 q5 => ?_⟩⟩
    cases b with
    | false =>
      rw [if_neg Bool.false_ne_true] at q5
      obtain ⟨rfl, q5⟩ := q5
      exact ⟨ds.length - (i + 1), by omega, rfl, hlt, F4, (s2.trans s3).trans s4, by rw [et, q5]; simpa using r4⟩
    | true =>
      rw [if_pos rfl] at q5
      refine hte ⟨F4, m4, env', _, r4, e'.mono s4, q5, fun v H5 F5 m5 d5 s5 r5 dn5 q6 => ?_⟩
      obtain ⟨rfl, q6⟩ := q6
      have e6 : M ((ds.take i).filterMap f) p = some (.lst ((ds.take i).filterMap f)) := Mem.put_same
      obtain ⟨_, cq⟩ := r5.me p _ e6
      simp only [CellOk] at cq
      obtain ⟨us, hu, du⟩ := cq
      refine ⟨us, hu, by rw [← du.length]; exact lt, ds.length - (i + 1), by omega, rfl, hlt, F5, ((s2.trans s3).trans s4).trans s5, ?_⟩
      rw [et, q6]
      have r6 := r5.store (o := .lst (us ++ [v])) (c := .lst ((ds.take i).filterMap f ++ [d5])) e6 (by
        simp only [CellOk]
        exact ⟨_, upd_same, du.append (Dens.one dn5)⟩)
      rw [show (M ((ds.take i).filterMap f)).put p (.lst ((ds.take i).filterMap f ++ [d5])) = M ((ds.take i).filterMap f ++ [d5]) from Mem.put_put] at r6
      simpa using r6
  · have e : i = ds.length := by omega
    subst e
    rw [List.take_length] at r2
    obtain ⟨_, st⟩ := y F2 _ H2 ds.length s2 r2 (hk _ (leM _))
    obtain ⟨F3, s3, r3, dn3⟩ := r2.freeze (a := p) (ds := ds.filterMap f) Mem.put_same
    rw [show (M (ds.filterMap f)).del p = m1 by show (m1.put p _).del p = m1; rw [Mem.put_del, Mem.del_none n1]] at r3
    exact .inl ⟨st (Nat.le_refl _), k _ H2 F3 m1 _ ((s1.trans s2).trans s3) r3 dn3 q1⟩
theorem dlcP {elt tg iter : Expr} {ifs : List Expr} {scope : Scope} {own : List (Str × Nat)} {pos : Pos} {wi : WI} {g : TG} {g' : WG} {wt : WT} {we : WE} (hc : X.calm = true) (hN : X.N.Nodup) (hi : DI X tg iter wi) (ok : BlkOk X.N X.env.scope scope own)
    (hg : ∀ (s : Shared) (H : Hp) (C : Addr) (cl : List (Str × Addr)) (fp : List Addr), PG (X.blk s H scope (compEnvC scope cl C X.env) fp) tg g) (ct : CTg X.K (own.map (·.2)) g g')
    (ht : ∀ (s : Shared) (H : Hp) (C : Addr) (cl : List (Str × Addr)) (fp : List Addr), DTs (X.blk s H scope (compEnvC scope cl C X.env) fp) ifs wt)
    (he : ∀ (s : Shared) (H : Hp) (C : Addr) (cl : List (Str × Addr)) (fp : List Addr), DE (X.blk s H scope (compEnvC scope cl C X.env) fp) elt we) (hs : ∀ x, foldedSetIterable iter X.env x = pure x := by intro _; rfl) :
    DE X (.ListComp elt [⟨tg, iter, ifs, 0⟩] scope pos) (wLcP wi g' wt we (own.map (·.2))) := by
  let tt : TT := fun σ H Q => ∃ F m env Qd, Rel X.K F m H ∧ EnvDen X.K F σ env ∧ wt env m Qd noX ∧ ∀ b H' F' m', Sub F F' → Rel X.K F' m' H' → Qd b m' → Q b H'
  let te : TE := fun σ H Q => ∃ F m env Qd, Rel X.K F m H ∧ EnvDen X.K F σ env ∧ we env m Qd noX ∧ ∀ v H' F' m' d, Sub F F' → Rel X.K F' m' H' → Den X.K F' d v → Qd d m' → Q v H'
  refine wkE (pe_lc (tt := tt) (te := te) hc hN hi ok hg (fun s H C cl fp => ⟨fun p s' σ H' Q I ⟨F, m, env, Qd, r, en, q, k⟩ => (ht s H C cl fp).run p s' σ H' Q I ⟨F, m, env, Qd, fun _ _ _ => False, r, en, Acc.no, q, k⟩⟩)
    (fun s H C cl fp => ⟨fun p s' σ H' Q I ⟨F, m, env, Qd, r, en, q, k⟩ => (he s H C cl fp).run p s' σ H' Q I ⟨F, m, env, Qd, fun _ _ _ => False, r, en, Acc.no, q, k⟩⟩) hs) fun σ H Q h => lcp_step ct (fun z => z) (fun z => z) h
theorem dsetlcP {i : Nat} {y : Str} {py : Pos} {elt tg iter : Expr} {ifs : List Expr} {scope : Scope} {own : List (Str × Nat)} {pos spos : Pos} {wi : WI} {g : TG} {g' : WG} {wt : WT} {we : WE} (hc : X.calm = true) (hN : X.N.Nodup) (hy : X.N[i]? = some y) (hyl : X.env.scope.names.lookup y = some .local)
    (hsw : swapsWith (.ListComp elt [⟨tg, iter, ifs, 0⟩] scope pos) (some (.Name y py)) spos.line X.env = pure true) (hi : DI X tg iter wi) (ok : BlkOk X.N X.env.scope scope own)
    (hg : ∀ (s : Shared) (H : Hp) (C : Addr) (cl : List (Str × Addr)) (fp : List Addr), PG (X.blk s H scope (compEnvC scope cl C X.env) fp) tg g) (ct : CTg X.K (own.map (·.2)) g g')
    (ht : ∀ (s : Shared) (H : Hp) (C : Addr) (cl : List (Str × Addr)) (fp : List Addr), DTs (X.blk s H scope (compEnvC scope cl C X.env) fp) ifs wt)
    (he : ∀ (s : Shared) (H : Hp) (C : Addr) (cl : List (Str × Addr)) (fp : List Addr), DE (X.blk s H scope (compEnvC scope cl C X.env) fp) elt we) (hs : ∀ x, foldedSetIterable iter X.env x = pure x := by intro _; rfl) :
    DS X (.Assign [.Name y py] (.ListComp elt [⟨tg, iter, ifs, 0⟩] scope pos) spos) (sAsg (wLcP wi g' wt we (own.map (·.2))) (gN i)) := by
  let tt : TT := fun σ H Q => ∃ F m env Qd, Rel X.K F m H ∧ EnvDen X.K F σ env ∧ wt env m Qd noX ∧ ∀ b H' F' m', Sub F F' → Rel X.K F' m' H' → Qd b m' → Q b H'
  let te : TE := fun σ H Q => ∃ F m env Qd, Rel X.K F m H ∧ EnvDen X.K F σ env ∧ we env m Qd noX ∧ ∀ v H' F' m' d, Sub F F' → Rel X.K F' m' H' → Den X.K F' d v → Qd d m' → Q v H'
  refine wkS (ps_setLc (tt := tt) (te := te) hc hN hy hyl hsw hi ok hg (fun s H C cl fp => ⟨fun p s' σ H' Q I ⟨F, m, env, Qd, r, en, q, k⟩ => (ht s H C cl fp).run p s' σ H' Q I ⟨F, m, env, Qd, fun _ _ _ => False, r, en, Acc.no, q, k⟩⟩)
    (fun s H C cl fp => ⟨fun p s' σ H' Q I ⟨F, m, env, Qd, r, en, q, k⟩ => (he s H C cl fp).run p s' σ H' Q I ⟨F, m, env, Qd, fun _ _ _ => False, r, en, Acc.no, q, k⟩⟩) hs) fun D σ H ⟨F, m, env, E, r, en, a, q, n, b, c, t⟩ => ?_
  exact lcp_step ct (fun z => z) (fun z => z) (tW.sub (xc := E.xc) r en a q fun v1 H1 F1 m1 d1 s1 r1 en1 dn1 q1 => n _ H1 F1 m1 _ s1 r1 (en1.set dn1 i) q1)
/-! ### the same, the list itself a cell -/
def wLcQ (wi : WI) (g : WG) (wt : WT) (we : WE) (vs : List Nat) : WE := fun env m Q E => wi env m (fun ds keep m1 => ∃ f : D → Option D, ds.length ≤ sizeLine ∧ (∀ m', m1.le m' → keep m') ∧
  (∀ d, d ∈ ds → ∀ m', m1.le m' → g d (wipeD env vs) m' (fun e2 m2 => wt e2 m2 (fun b m3 => if b = true then we e2 m3 (fun y m4 => m4 = m' ∧ f d = some y) noX else m3 = m' ∧ f d = none) noX)) ∧ ∀ p, m1 p = none → Q (.ref p) (m1.put p (.lst (ds.filterMap f)))) E
theorem lcq_step {wi : WI} {g : TG} {g' : WG} {wt : WT} {we : WE} {vs : List Nat} {tt : TT} {te : TE} {σ : St} {H : Hp} {Q : VK} (ct : CTg X.K vs g g')
    (htt : ∀ {σ H Q}, (∃ F m env Qd, Rel X.K F m H ∧ EnvDen X.K F σ env ∧ wt env m Qd noX ∧ ∀ b H' F' m', Sub F F' → Rel X.K F' m' H' → Qd b m' → Q b H') → tt σ H Q)
    (hte : ∀ {σ H Q}, (∃ F m env Qd, Rel X.K F m H ∧ EnvDen X.K F σ env ∧ we env m Qd noX ∧ ∀ v H' F' m' d, Sub F F' → Rel X.K F' m' H' → Den X.K F' d v → Qd d m' → Q v H') → te σ H Q)
    (h : tW X (wLcQ wi g' wt we vs) σ H Q) : tLc (tWI X wi) g tt te vs σ H Q := by
  obtain ⟨F, m, env, Qd, xc, r, en, a, q, k⟩ := h
  refine ⟨F, m, env, _, xc, r, en, a, q, fun J H1 F1 m1 ds keep s1 r1 y kp q1 => fun p hp => ?_⟩
  obtain ⟨f1, n1⟩ := r1.free hp
  obtain ⟨f, hz, hk, hd, q1⟩ := q1
  let M : List D → Mem := fun xs => m1.put p (.lst xs)
  have leM : ∀ xs, m1.le (M xs) := fun xs => Mem.le_put n1
  let W : Nat → Nat → Hp → Prop := fun i k H => k = ds.length - i ∧ i ≤ ds.length ∧ ∃ F', Sub F1 F' ∧ Rel X.K F' (M ((ds.take i).filterMap f)) H
  have r1' : Rel X.K F1 (m1.put p (.lst [])) (upd H1 p (.lst [])) := r1.fresh hp (by simp only [CellOk]; exact ⟨[], upd_same, Dens.nil⟩)
  refine ⟨W, ⟨ds.length, by simp, Nat.zero_le _, F1, Sub.refl F1, r1'⟩, ?_⟩
  rintro i k2 H2 ⟨rfl, hi2, F2, s2, r2⟩
  by_cases hlt : i < ds.length
  · obtain ⟨hy, _⟩ := y F2 _ H2 i s2 r2 (hk _ (leM _))
    obtain ⟨go, yl⟩ := hy hlt
    have et : (ds.take (i + 1)).filterMap f = (ds.take i).filterMap f ++ (f ds[i]).toList := by
      rw [List.take_succ_eq_append_getElem hlt, List.filterMap_append]
      cases e : f ds[i] <;> simp [e]
    have lt : ((ds.take i).filterMap f).length < sizeLine := by
      have h1 := List.length_filterMap_le f (ds.take i)
      rw [List.length_take] at h1
      omega
    refine .inr ⟨go, fun H' => ∃ m', m' < ds.length - i ∧ W (i + 1) m' H', fun H' z => z, fun x H3 hx => ?_⟩
    obtain ⟨F3, d, s3, r3, e3, dn3⟩ := yl x H3 hx
    have ed : d = ds[i] := by rw [List.getElem?_eq_getElem hlt] at e3; exact (Option.some.inj e3).symm
    subst ed
    have enw := ((en.mono s1).mono s2).mono s3
    refine ct F3 _ x _ H3 _ _ _ _ r3 (enw.wipe vs) dn3 (hd _ (List.getElem_mem hlt) _ (leM _)) fun σ' env' e' ew q4 => ?_
    have idem : ∀ us : List Nat, (∀ u ∈ us, u ∈ vs) → wipe (wipe σ us) vs = wipe σ vs := by
      intro us
      induction us with
      | nil => intro _; rfl
      | cons u us ih =>
        intro hu
        show wipe ((wipe σ us).set u none) vs = _
        rw [wipe_set (hu u List.mem_cons_self)]
        exact ih fun x hx => hu x (List.mem_cons_of_mem _ hx)
    refine ⟨ew.trans (idem vs fun _ h => h), htt ⟨F3, _, env', _, r3, e', q4, fun b H4 F4 m4 s4 r4 q5 => ?_⟩⟩
    cases b with
    | false =>
      rw [if_neg Bool.false_ne_true] at q5
      obtain ⟨rfl, q5⟩ := q5
      exact ⟨ds.length - (i + 1), by omega, rfl, hlt, F4, (s2.trans s3).trans s4, by rw [et, q5]; simpa using r4⟩
    | true =>
      rw [if_pos rfl] at q5
      refine hte ⟨F4, m4, env', _, r4, e'.mono s4, q5, fun v H5 F5 m5 d5 s5 r5 dn5 q6 => ?_⟩
      obtain ⟨rfl, q6⟩ := q6
      have e6 : M ((ds.take i).filterMap f) p = some (.lst ((ds.take i).filterMap f)) := Mem.put_same
      obtain ⟨_, cq⟩ := r5.me p _ e6
      simp only [CellOk] at cq
      obtain ⟨us, hu, du⟩ := cq
      refine ⟨us, hu, by rw [← du.length]; exact lt, ds.length - (i + 1), by omega, rfl, hlt, F5, ((s2.trans s3).trans s4).trans s5, ?_⟩
      rw [et, q6]
      have r6 := r5.store (o := .lst (us ++ [v])) (c := .lst ((ds.take i).filterMap f ++ [d5])) e6 (by
        simp only [CellOk]
        exact ⟨_, upd_same, du.append (Dens.one dn5)⟩)
      rw [show (M ((ds.take i).filterMap f)).put p (.lst ((ds.take i).filterMap f ++ [d5])) = M ((ds.take i).filterMap f ++ [d5]) from Mem.put_put] at r6
      simpa using r6
  · have e : i = ds.length := by omega
    subst e
    rw [List.take_length] at r2
    obtain ⟨_, st⟩ := y F2 _ H2 ds.length s2 r2 (hk _ (leM _))
    exact .inl ⟨st (Nat.le_refl _), k _ H2 F2 _ (.ref p) (s1.trans s2) r2 (by simp only [Den]) (q1 p n1)⟩
theorem dlcQ {elt tg iter : Expr} {ifs : List Expr} {scope : Scope} {own : List (Str × Nat)} {pos : Pos} {wi : WI} {g : TG} {g' : WG} {wt : WT} {we : WE} (hc : X.calm = true) (hN : X.N.Nodup) (hi : DI X tg iter wi) (ok : BlkOk X.N X.env.scope scope own)
    (hg : ∀ (s : Shared) (H : Hp) (C : Addr) (cl : List (Str × Addr)) (fp : List Addr), PG (X.blk s H scope (compEnvC scope cl C X.env) fp) tg g) (ct : CTg X.K (own.map (·.2)) g g')
    (ht : ∀ (s : Shared) (H : Hp) (C : Addr) (cl : List (Str × Addr)) (fp : List Addr), DTs (X.blk s H scope (compEnvC scope cl C X.env) fp) ifs wt)
    (he : ∀ (s : Shared) (H : Hp) (C : Addr) (cl : List (Str × Addr)) (fp : List Addr), DE (X.blk s H scope (compEnvC scope cl C X.env) fp) elt we) (hs : ∀ x, foldedSetIterable iter X.env x = pure x := by intro _; rfl) :
    DE X (.ListComp elt [⟨tg, iter, ifs, 0⟩] scope pos) (wLcQ wi g' wt we (own.map (·.2))) := by
  let tt : TT := fun σ H Q => ∃ F m env Qd, Rel X.K F m H ∧ EnvDen X.K F σ env ∧ wt env m Qd noX ∧ ∀ b H' F' m', Sub F F' → Rel X.K F' m' H' → Qd b m' → Q b H'
  let te : TE := fun σ H Q => ∃ F m env Qd, Rel X.K F m H ∧ EnvDen X.K F σ env ∧ we env m Qd noX ∧ ∀ v H' F' m' d, Sub F F' → Rel X.K F' m' H' → Den X.K F' d v → Qd d m' → Q v H'
  refine wkE (pe_lc (tt := tt) (te := te) hc hN hi ok hg (fun s H C cl fp => ⟨fun p s' σ H' Q I ⟨F, m, env, Qd, r, en, q, k⟩ => (ht s H C cl fp).run p s' σ H' Q I ⟨F, m, env, Qd, fun _ _ _ => False, r, en, Acc.no, q, k⟩⟩)
    (fun s H C cl fp => ⟨fun p s' σ H' Q I ⟨F, m, env, Qd, r, en, q, k⟩ => (he s H C cl fp).run p s' σ H' Q I ⟨F, m, env, Qd, fun _ _ _ => False, r, en, Acc.no, q, k⟩⟩) hs) fun σ H Q h => lcq_step ct (fun z => z) (fun z => z) h
theorem dsetlcQ {i : Nat} {y : Str} {py : Pos} {elt tg iter : Expr} {ifs : List Expr} {scope : Scope} {own : List (Str × Nat)} {pos spos : Pos} {wi : WI} {g : TG} {g' : WG} {wt : WT} {we : WE} (hc : X.calm = true) (hN : X.N.Nodup) (hy : X.N[i]? = some y) (hyl : X.env.scope.names.lookup y = some .local)
    (hsw : swapsWith (.ListComp elt [⟨tg, iter, ifs, 0⟩] scope pos) (some (.Name y py)) spos.line X.env = pure true) (hi : DI X tg iter wi) (ok : BlkOk X.N X.env.scope scope own)
    (hg : ∀ (s : Shared) (H : Hp) (C : Addr) (cl : List (Str × Addr)) (fp : List Addr), PG (X.blk s H scope (compEnvC scope cl C X.env) fp) tg g) (ct : CTg X.K (own.map (·.2)) g g')
    (ht : ∀ (s : Shared) (H : Hp) (C : Addr) (cl : List (Str × Addr)) (fp : List Addr), DTs (X.blk s H scope (compEnvC scope cl C X.env) fp) ifs wt)
    (he : ∀ (s : Shared) (H : Hp) (C : Addr) (cl : List (Str × Addr)) (fp : List Addr), DE (X.blk s H scope (compEnvC scope cl C X.env) fp) elt we) (hs : ∀ x, foldedSetIterable iter X.env x = pure x := by intro _; rfl) :
    DS X (.Assign [.Name y py] (.ListComp elt [⟨tg, iter, ifs, 0⟩] scope pos) spos) (sAsg (wLcQ wi g' wt we (own.map (·.2))) (gN i)) := by
  let tt : TT := fun σ H Q => ∃ F m env Qd, Rel X.K F m H ∧ EnvDen X.K F σ env ∧ wt env m Qd noX ∧ ∀ b H' F' m', Sub F F' → Rel X.K F' m' H' → Qd b m' → Q b H'
  let te : TE := fun σ H Q => ∃ F m env Qd, Rel X.K F m H ∧ EnvDen X.K F σ env ∧ we env m Qd noX ∧ ∀ v H' F' m' d, Sub F F' → Rel X.K F' m' H' → Den X.K F' d v → Qd d m' → Q v H'
  refine wkS (ps_setLc (tt := tt) (te := te) hc hN hy hyl hsw hi ok hg (fun s H C cl fp => ⟨fun p s' σ H' Q I ⟨F, m, env, Qd, r, en, q, k⟩ => (ht s H C cl fp).run p s' σ H' Q I ⟨F, m, env, Qd, fun _ _ _ => False, r, en, Acc.no, q, k⟩⟩)
    (fun s H C cl fp => ⟨fun p s' σ H' Q I ⟨F, m, env, Qd, r, en, q, k⟩ => (he s H C cl fp).run p s' σ H' Q I ⟨F, m, env, Qd, fun _ _ _ => False, r, en, Acc.no, q, k⟩⟩) hs) fun D σ H ⟨F, m, env, E, r, en, a, q, n, b, c, t⟩ => ?_
  exact lcq_step ct (fun z => z) (fun z => z) (tW.sub (xc := E.xc) r en a q fun v1 H1 F1 m1 d1 s1 r1 en1 dn1 q1 => n _ H1 F1 m1 _ s1 r1 (en1.set dn1 i) q1)
end
end DL

/-! DSum: sum(lists, []). -/
namespace DL
open PySem PySem.Spec L2
theorem args_sum2 (a b : Value) : argsOk "sum" ⟨[a, b], []⟩ := by unfold argsOk; kernel_rfl
theorem sub_list_str : isSubtype (.type "list") (.type "str") = pure false := by rw [isSubtype_type]; kernel_rfl
theorem sub_list_bytes : isSubtype (.type "list") (.type "bytes") = pure false := by rw [isSubtype_type]; kernel_rfl
theorem sub_list_bytearray : isSubtype (.type "list") (.type "bytearray") = pure false := by rw [isSubtype_type]; kernel_rfl
abbrev Ls := List (Addr × List Value × Nat)
def LsAt (h : Heap) (L : Ls) : Prop := ∀ q ∈ L, IsL h q.1 q.2.1.toArray q.2.2
section
variable {prog : Program} {w : World} {A : Around} {R : Result → Shared → Prop}
theorem sum_loop (hh : A.in1.handled = none) {I ax S : Addr} (L : Ls) (hIx : ax ≠ I) (hSI : S ≠ I) (hSx : S ≠ ax) (hSL : ∀ q ∈ L, q.1 ≠ S) (hIL : ∀ q ∈ L, q.1 ≠ I) :
    ∀ (k i : Nat) (s : Shared) (T : Addr) (c nT : Nat) (tot : List Value), L.length - i = k → i ≤ L.length → s.heap.IsListIter I ax i → s.heap.IsList ax (L.map fun q => Value.ref q.1).toArray → LsAt s.heap L →
      s.heap.get? S = some { cls := .type "list", dict := none, data := .seq #[.ref T] c, slots := #[] } → IsL s.heap T tot.toArray nT → T ≠ S → T ≠ I → tot.length + (((L.drop i).map (·.2.1)).flatten).length ≤ sizeLine →
      (∀ h' tk T' nT', (∀ b o, b ≠ S → b ≠ I → s.heap.get? b = some o → h'.get? b = some o) → IsL h' T' (tot ++ ((L.drop i).map (·.2.1)).flatten).toArray nT' → ((i = L.length ∧ T' = T) ∨ (i ≠ L.length ∧ s.heap.objs.size ≤ T')) →
        R (.ok (.ret (.ref T'))) { s with heap := h', toks := tk }) →
      codeAny (model prog w) A (.builtin "sum.loop" ⟨[.ref I, .ref S, rawInt 2, rawInt 0], []⟩) R s := by
  have W := Walks.list (prog := prog) (w := w) hh I ax hIx (L.map fun q => Value.ref q.1).toArray
  have hsz : (L.map fun q => Value.ref q.1).toArray.size = L.length := by simp
  intro k
  induction k with
  | zero =>
    intro i s T c nT tot hk hi hst hax hL hS hT hTS hTI hz hR
    have hin : i = L.length := by omega
    subst hin
    refine codeAny_builtin F.entry_sum_loop ?_
    rw [Around.under_plainId F.plain_sum_loop _]
    show wpAny _ A.in1 (seqItems? (.ref S) >>= _) _ _ s
    refine wpAny_bind (wpAny_seqItems hS rfl ?_)
    show wpAny _ A.in1 (tryCatch (pyNext (.ref I)) _ >>= _) _ _ s
    refine wpAny_bind (wpAny_tryCatch (W.done s _ _ (by rw [hsz]; exact ⟨hst, hax⟩) fun h' tk hm => ?_))
    have hm' : ∀ b o, b ≠ S → b ≠ I → s.heap.get? b = some o → h'.get? b = some o := fun b o _ hb e => hm b o (by simpa using hb) e
    exact wpAny_pure (hR h' tk T nT hm' (by rw [List.drop_length, List.map_nil, List.flatten_nil, List.append_nil]; exact hm _ _ (by simpa using hTI) hT) (.inl ⟨rfl, rfl⟩))
  | succ k ih =>
    intro i s T c nT tot hk hi hst hax hL hS hT hTS hTI hz hR
    have hlt : i < L.length := by omega
    refine codeAny_builtin F.entry_sum_loop ?_
    rw [Around.under_plainId F.plain_sum_loop _]
    show wpAny _ A.in1 (seqItems? (.ref S) >>= _) _ _ s
    refine wpAny_bind (wpAny_seqItems hS rfl ?_)
    show wpAny _ A.in1 (tryCatch (pyNext (.ref I)) _ >>= _) _ _ s
    refine wpAny_bind (wpAny_tryCatch (wpAny_pyNext_list_item hst hax (x := .ref L[i].1) (by simp [hlt]) fun h1 hit1 hs1 => ?_))
    have hst' : h1.IsListIter I ax (i + 1) ∧ h1.IsList ax (L.map fun q => Value.ref q.1).toArray := ⟨hit1, hax.extBut hs1.extBut hIx⟩
    have hm : ∀ b o, b ∉ [I] → s.heap.get? b = some o → h1.get? b = some o := fun b o hb e => hs1.extBut b o (by simpa using hb) e
    have mem : L[i] ∈ L := List.getElem_mem hlt
    have k1 : ∀ b o, b ≠ I → s.heap.get? b = some o → h1.get? b = some o := fun b o hb e => hm b o (by simpa using hb) e
    have hd : L.drop i = L[i] :: L.drop (i + 1) := List.drop_eq_getElem_cons hlt
    have hT1 : IsL h1 T tot.toArray nT := k1 _ _ hTI hT
    have hI1 : IsL h1 L[i].1 L[i].2.1.toArray L[i].2.2 := k1 _ _ (hIL _ mem) (hL _ mem)
    have hS1 := k1 S _ hSI hS
    have hz2 : tot.length + (L[i].2.1.length + (((L.drop (i + 1)).map (·.2.1)).flatten).length) ≤ sizeLine := by
      rw [hd, List.map_cons, List.flatten_cons, List.length_append] at hz
      exact hz
    show wpAny _ A.in1 ((holding [Value.ref L[i].1] (binaryOp .Add (.ref T) (.ref L[i].1))).attempt >>= _) _ _ _
    refine wpAny_bind (wpAny_attempt (wpAny_holding (PySem.P.add_list hT1 hI1 ?_ (by rw [List.size_toArray, List.size_toArray]; omega))))
    have sz1 : s.heap.objs.size ≤ h1.objs.size := Nat.le_of_eq hs1.1.symm
    have k2 : ∀ b o, h1.get? b = some o → (h1.push { cls := .type "list", data := .seq (tot.toArray ++ L[i].2.1.toArray) }).get? b = some o := fun b o e => Heap.get?_push_of_some _ e
    have hS2 := k2 S _ hS1
    show wpAny _ A.in1 (updateSeq S (fun _ => #[.ref h1.objs.size]) >>= _) _ _ _
    refine wpAny_bind (wpAny_updateSeq hS2 rfl ?_)
    have hS3 := Heap.get?_update_self (Obj.mapSeq fun _ => #[Value.ref h1.objs.size]) hS2 rfl
    refine wpAny_bind (wpAny_letGo ?_)
    show wpAny _ A.in1 (updateSeq S (fun _ => #[.ref h1.objs.size]) >>= _) _ _ _
    refine wpAny_bind (wpAny_updateSeq hS3 rfl (wpAny_pure ⟨plainId_quiet F.plain_sum_loop _, ?_⟩))
    have hS4 := Heap.get?_update_self (Obj.mapSeq fun _ => #[Value.ref h1.objs.size]) hS3 rfl
    have k3 : ∀ b o, b ≠ S → b ≠ I → s.heap.get? b = some o → (((h1.push { cls := .type "list", data := .seq (tot.toArray ++ L[i].2.1.toArray) }).update S (Obj.mapSeq fun _ => #[Value.ref h1.objs.size])).update S (Obj.mapSeq fun _ => #[Value.ref h1.objs.size])).get? b = some o := fun b o hb hb2 e =>
      (Heap.get?_update_other _ _ (Ne.symm hb)).trans ((Heap.get?_update_other _ _ (Ne.symm hb)).trans (k2 b o (k1 b o hb2 e)))
    have k4 : ∀ b o, b ≠ S → h1.get? b = some o → (((h1.push { cls := .type "list", data := .seq (tot.toArray ++ L[i].2.1.toArray) }).update S (Obj.mapSeq fun _ => #[Value.ref h1.objs.size])).update S (Obj.mapSeq fun _ => #[Value.ref h1.objs.size])).get? b = some o := fun b o hb e =>
      (Heap.get?_update_other _ _ (Ne.symm hb)).trans ((Heap.get?_update_other _ _ (Ne.symm hb)).trans (k2 b o e))
    have hne : h1.objs.size ≠ S := fun z => by
      have := Heap.lt_size hS1
      rw [← z] at this
      exact Nat.lt_irrefl _ this
    have hIn : h1.objs.size ≠ I := fun z => by
      obtain ⟨o, e, _⟩ := id hst'.1
      have := Heap.lt_size e
      rw [← z] at this
      exact Nat.lt_irrefl _ this
    refine ih (i + 1) _ h1.objs.size _ 0 (tot ++ L[i].2.1) (by omega) hlt ?_ ?_ (fun q hq => k3 _ _ (hSL q hq) (hIL q hq) (hL q hq)) hS4 ?_ hne hIn ?_ fun h' tk' T' nT' kk hT' hor => ?_
    · exact hst'.1.at fun o e => k4 _ _ (Ne.symm hSI) e
    · exact hst'.2.at fun o e => k4 _ _ (Ne.symm hSx) e
    · show (((h1.push _).update S _).update S _).get? h1.objs.size = some _
      rw [Heap.get?_update_other _ _ (Ne.symm hne), Heap.get?_update_other _ _ (Ne.symm hne), Heap.get?_push_size _ rfl]
      simp
    · rw [List.length_append]; omega
    · refine hR h' tk' T' nT' (fun b o hb hb2 e => kk b o hb hb2 (k3 b o hb hb2 e)) ?_ (.inr ?_)
      · rw [hd, List.map_cons, List.flatten_cons, ← List.append_assoc]; exact hT'
      · refine ⟨by omega, ?_⟩
        rcases hor with ⟨_, rfl⟩ | ⟨_, hor⟩
        · exact sz1
        · refine Nat.le_trans sz1 (Nat.le_trans ?_ hor)
          show h1.objs.size ≤ (((h1.push _).update S _).update S _).objs.size
          rw [Heap.size_update, Heap.size_update, Heap.size_push]
          omega
end
section
variable {X : Cx}
theorem ls_of {pins : List (Addr × Obj)} {σ : St} {H : Hp} {s : Shared} (I : Inv X pins σ H s) : ∀ {qs : List (Addr × List V)}, (∀ q ∈ qs, Rd H q.1 (.lst q.2)) → ∃ L : Ls, L.map (·.1) = qs.map (·.1) ∧ LsAt s.heap L ∧ Vals ((qs.map (·.2)).flatten) ((L.map (·.2.1)).flatten)
  | [], _ => ⟨[], rfl, fun _ h => by simp at h, .nil⟩
  | q :: qs, h => by
    obtain ⟨L, e, a, v⟩ := ls_of I (qs := qs) fun x hx => h x (List.mem_cons_of_mem _ hx)
    obtain ⟨its, n, r, g, _⟩ := rd_isL I (h q List.mem_cons_self)
    refine ⟨(q.1, its, n) :: L, by simp [e], fun z hz => ?_, by simpa using r.append v⟩
    rcases List.mem_cons.mp hz with rfl | hz
    · exact g
    · exact a z hz
/-- sum(xs, ys): lists, one behind the other -/
theorem call_sumL (hc : X.calm = true) : CallR X (.builtin "sum") (fun xs H Q => ∃ (a b : Addr) (qs : List (Addr × List V)) (ys : List V), xs = [.ref a, .ref b] ∧ Rd H a (.lst (qs.map fun q => V.ref q.1)) ∧ (∀ q ∈ qs, Rd H q.1 (.lst q.2)) ∧ Rd H b (.lst ys) ∧
    ys.length + ((qs.map (·.2)).flatten).length ≤ sizeLine ∧ (qs = [] → Q (.ref b) H) ∧ (qs ≠ [] → ∀ p, H p = none → Q (.ref p) (upd H p (.lst (ys ++ (qs.map (·.2)).flatten))))) := by
  intro pins s σ H xs us Q I r h
  obtain ⟨a, b, qs, ys, rfl, ha, hq, hb, hz, q0, q1⟩ := h
  obtain ⟨u1, u2, rfl, r1, r2⟩ := vals2 r
  cases r1
  cases r2
  obtain ⟨L, eL, hL, vL⟩ := ls_of I hq
  obtain ⟨its, n, rv, g, _⟩ := rd_isL I ha
  obtain ⟨its2, n2, rv2, g2, _⟩ := rd_isL I hb
  have eits : its = L.map fun q => Value.ref q.1 := by
    have gen : ∀ {qs : List (Addr × List V)} {its : List Value} {L : Ls}, Vals (qs.map fun q => V.ref q.1) its → L.map (·.1) = qs.map (·.1) → its = L.map fun q => Value.ref q.1 := by
      intro qs
      induction qs with
      | nil => intro its L r e; cases r; simp at e; subst e; rfl
      | cons q qs ih =>
        intro its L r e
        cases L with
        | nil => simp at e
        | cons l L =>
          simp at e
          cases r with
          | cons r1 r2 =>
            cases r1
            rw [List.map_cons, ih r2 (by simpa using e.2), e.1]
    exact gen rv eL
  subst eits
  refine call_function_tree F.kind_sum F.plain_sum F.entry_sum (args_sum2 _ _) ?_
  unfold Builtin.«sum»
  simp only [List.length_cons, List.length_nil]
  rw [if_neg (by decide)]
  refine wpAny_bind (wpAny_of_eq (show Builtin.Builtins.bindParams "sum" ["start"] 0 ⟨[.ref b], []⟩ = pure [some (.ref b)] from rfl) ?_)
  have hl : s.heap.IsList a (L.map fun q => Value.ref q.1).toArray := ⟨_, g, rfl, n, rfl⟩
  refine wpAny_bind (wpAny_pyIter_list hl ?_)
  refine wpAny_bind (wpAny_pure ?_)
  have k1 : ∀ x o, s.heap.get? x = some o → (s.heap.push { cls := .type "list_iterator", data := .fields #[.ref a, rawInt 0] }).get? x = some o := fun x o e => Heap.get?_push_of_some _ e
  have tb : ∀ {s' : Shared}, (∀ x o, s.heap.get? x = some o → s'.heap.get? x = some o) → s'.TypeIs (.ref b) "list" := fun {s'} k => ⟨_, k _ _ g2, rfl⟩
  simp only [List.forIn_cons, List.forIn_nil]
  refine wpAny_bind (wpAny_bind (wpAny_bind (wpAny_isInstance (T := "list") (b := false) (tb k1) sub_list_str ?_)))
  simp only [Bool.false_eq_true, if_false]
  refine wpAny_pure (wpAny_bind (wpAny_bind (wpAny_isInstance (T := "list") (b := false) (tb k1) sub_list_bytes ?_)))
  simp only [Bool.false_eq_true, if_false]
  refine wpAny_pure (wpAny_bind (wpAny_bind (wpAny_isInstance (T := "list") (b := false) (tb k1) sub_list_bytearray ?_)))
  simp only [Bool.false_eq_true, if_false]
  refine wpAny_pure (wpAny_pure ?_)
  refine wpAny_bind (wpAny_newObj_type ?_)
  have lt : ∀ {x : Addr} {o : Obj}, s.heap.get? x = some o → x < s.heap.objs.size := fun e => Heap.lt_size e
  have sz1 : (s.heap.push { cls := .type "list_iterator", data := .fields #[.ref a, rawInt 0] }).objs.size = s.heap.objs.size + 1 := Heap.size_push _ _
  have k2 : ∀ x o, s.heap.get? x = some o → ((s.heap.push { cls := .type "list_iterator", data := .fields #[.ref a, rawInt 0] }).push { cls := .type "list", data := .seq #[.ref b] }).get? x = some o := fun x o e => Heap.get?_push_of_some _ (k1 x o e)
  have nI : ∀ {x : Addr} {o : Obj}, s.heap.get? x = some o → x ≠ s.heap.objs.size := fun e => Nat.ne_of_lt (lt e)
  have nS : ∀ {x : Addr} {o : Obj}, s.heap.get? x = some o → x ≠ (s.heap.push { cls := .type "list_iterator", data := .fields #[.ref a, rawInt 0] }).objs.size := fun e => by rw [sz1]; exact Nat.ne_of_lt (Nat.lt_succ_of_lt (lt e))
  have vl2 : ((L.map (·.2.1)).flatten).length = ((qs.map (·.2)).flatten).length := vL.length.symm
  refine wpAny_pure ⟨plainId_quiet F.plain_sum_loop _, sum_loop (I.ok.hd hc) (I := s.heap.objs.size) (ax := a) (S := (s.heap.push { cls := .type "list_iterator", data := .fields #[.ref a, rawInt 0] }).objs.size) L (nI g) (by rw [sz1]; exact Nat.succ_ne_self _) (Ne.symm (nS g))
    (fun q hq => nS (hL q hq)) (fun q hq => nI (hL q hq)) L.length 0 _ b 0 n2 its2 (by omega) (Nat.zero_le _) ?_ ?_ (fun q hq => k2 _ _ (hL q hq)) (Heap.get?_push_size _ rfl) (k2 _ _ g2) (nS g2) (nI g2) (by rw [List.drop_zero, vl2, ← rv2.length]; exact hz) fun h' tk T' nT' kk hT' hor => ?_⟩
  · exact ⟨_, Heap.get?_push_of_some _ (Heap.get?_push_size _ rfl), rfl, rfl⟩
  · exact ⟨_, k2 _ _ g, rfl, n, rfl⟩
  · have K : ∀ x o, s.heap.get? x = some o → h'.get? x = some o := fun x o e => kk x o (nS e) (nI e) (k2 x o e)
    rw [List.drop_zero] at hT'
    by_cases hn : qs = []
    · subst hn
      have : L = [] := by simpa using eL
      subst this
      rcases hor with ⟨_, rfl⟩ | hor
      · exact ⟨.ref T', H, I.kept (t' := tk) K, rfl, q0 rfl⟩
      · exact absurd rfl hor.1
    · rcases hor with ⟨e0, _⟩ | ⟨_, hor⟩
      · have : L = [] := List.length_eq_zero_iff.mp e0.symm
        subst this
        exact absurd (by simpa using eL.symm) hn
      · have hp : s.heap.objs.size ≤ T' := by
          refine Nat.le_trans ?_ hor
          show s.heap.objs.size ≤ ((s.heap.push _).push _).objs.size
          rw [Heap.size_push, Heap.size_push]
          omega
        refine ⟨.ref T', _, I.laid (t' := tk) (o := .lst (ys ++ (qs.map (·.2)).flatten)) K hp ?_, rfl, q1 hn T' (I.hok.fresh hp)⟩
        exact ⟨by rw [List.length_append]; exact hz, _, nT', rv2.append vL, hT'⟩
end
end DL

/-! DSort: sorted(a tuple of texts). -/
namespace PyProof.Rows
open PySem
section
variable {prog : Program} {w : World} {A : Around} {E : Value → Shared → Prop} {s : Shared}
theorem collect_tupD {l : Addr} {vs : List Value} {Q : List Value → Shared → Prop} (hl : IsTup s.heap l vs.toArray)
    (h : Q vs { s with heap := (s.heap.push (seqObj "list" #[] 0)).update s.heap.objs.size (Obj.mapSeq (· ++ vs.toArray)) }) (hsz : vs.length ≤ sizeLine := by size_fits) :
    wpAny (model prog w) A (collect (.ref l)) Q E s := by
  obtain ⟨o, ho, hc, n, hd⟩ := id hl
  unfold collect
  refine wpAny_bind (wpAny_runValue (codeAny_builtin entry_proto_collect' ?_))
  show wpAny _ _ (do again (.builtin "list.__iadd__" ⟨[← newList [], .ref l], []⟩)) _ _ s
  refine wpAny_bind (wpAny_newList (wpAny_pure ⟨Code.quiet_builtin _ (by decide +kernel), codeAny_builtin entry_list_iadd' ?_⟩))
  show wpAny _ _ (Builtin.List.listExtendWith (.ref s.heap.objs.size) (.ref l) (.ref s.heap.objs.size)) _ _ { s with heap := s.heap.push (seqObj "list" #[] 0) }
  unfold Builtin.List.listExtendWith
  have ho' : (s.heap.push (seqObj "list" #[] 0)).get? l = some o := Heap.get?_push_of_some _ ho
  refine wpAny_bind (wpAny_typeOf (T := "tuple") ⟨o, ho', hc⟩ ?_)
  have ht : (Value.type "tuple" == Value.type "tuple") = true := by rfl
  rw [if_pos (by rw [ht]; simp)]
  refine wpAny_bind (listItems_at ho' hd ?_)
  refine wpAny_bind (listItems_at (xs := #[]) (n := 0) (Heap.get?_push_size _ rfl) rfl ?_)
  rw [if_neg (by simp)]
  refine wpAny_bind (listUpdate_at (xs := #[]) (n := 0) (Heap.get?_push_size _ rfl) rfl ?_ (Nat.zero_le _) (by show (#[] ++ vs.toArray).size ≤ sizeLine + 1; simp only [Array.size_append, List.size_toArray, List.length_nil]; omega))
  refine wpAny_pure ?_
  show wpAny (model prog w) A (do
      let o ← load s.heap.objs.size
      match o.data with
      | .seq xs _ => pure xs.toList
      | _ => unsupported "internal:collect") Q E { s with heap := (s.heap.push (seqObj "list" #[] 0)).update s.heap.objs.size (Obj.mapSeq (· ++ vs.toArray)) }
  refine wpAny_bind (wpAny_load (get?_update_seq (Heap.get?_push_size _ rfl) _) ?_)
  show wpAny _ _ (pure ((#[] : Array Value) ++ vs.toArray).toList) Q E _
  rw [show ((#[] : Array Value) ++ vs.toArray).toList = vs by simp]
  exact wpAny_pure h
theorem sorted_strsT {l : Addr} {vs : List Value} {ss : List Str} {Q : Value → Shared → Prop} (hl : IsTup s.heap l vs.toArray) (hS : StrsAre vs ss) (hL : vs.length ≤ sizeLine)
    (h : ∀ (out : Array Value) (ss' : List Str), StrsAre out.toList ss' → ss'.Perm ss → sortedS ss' = true → Q (.ref (s.heap.objs.size + 1)) { s with heap := sortedAll s.heap vs out }) :
    wpAny (model prog w) A (call (.builtin "sorted") [.ref l]) Q E s := by
  refine Calls.call_function_entry kind_sorted plain_sorted entry_sorted (args_sorted1 _) ?_
  unfold Builtin.«sorted»
  refine wpAny_bind (m := checkCount "sorted" 1 1 _) (wpAny_pure ?_)
  refine wpAny_bind (collect_tupD hl ?_)
  refine wpAny_bind (wpAny_newList ?_)
  have hsz : ((s.heap.push (seqObj "list" #[] 0)).update s.heap.objs.size (Obj.mapSeq (· ++ vs.toArray))).objs.size = s.heap.objs.size + 1 := by
    rw [Heap.size_update, size_push']
  have hoL : (((s.heap.push (seqObj "list" #[] 0)).update s.heap.objs.size (Obj.mapSeq (· ++ vs.toArray))).push (seqObj "list" vs.toArray 0)).get? (s.heap.objs.size + 1) = some (seqObj "list" vs.toArray 0) := by
    rw [← hsz]; exact Heap.get?_push_size _ rfl
  show wpAny _ _ _ _ _ { s with heap := ((s.heap.push (seqObj "list" #[] 0)).update s.heap.objs.size (Obj.mapSeq (· ++ vs.toArray))).push (seqObj "list" vs.toArray 0) }
  rw [hsz]
  refine wpAny_bind (wpAny_holding (wpAny_call_entry slot_list_sort ⟨_, hoL, rfl⟩ entry_list_sort (list_sort_treeKAny strKind_oneLt hoL hS.keysOf (fun v₁ v₂ rest e => keyKind_strs (by rw [← e]; exact hS)) hL fun st' a1 a2 => ⟨_, rfl, ?_⟩) (args_list_sort _)))
  obtain ⟨ss', h1, h2, h3⟩ := sorted_out_str hS a1 a2
  exact wpAny_pure ⟨_, rfl, h _ ss' h1 h2 h3⟩
end
end PyProof.Rows
namespace DL
open PySem PySem.Spec L2
section
variable {X : Cx}
/-- sorted of texts: a list or a tuple -/
theorem call_sortedSS : CallR X (.builtin "sorted") (fun vs H Q => ∃ (a : Addr) (xs : List Str), vs = [V.ref a] ∧ (SqL X.K H a (xs.map V.str) ∨ SqT X.K H a (xs.map V.str)) ∧ xs.length ≤ sizeLine ∧
    ∀ (ys : List Str) (p : Addr), ys.Perm xs → PyProof.Rows.sortedS ys = true → H p = none → Q (.ref p) (upd H p (.lst (ys.map V.str)))) := by
  intro pins s σ H vs us Q I r h
  obtain ⟨a, xs, rfl, hs, hz, q⟩ := h
  rw [Vals.ref1 r]
  have fin : ∀ (its : List Value) (rv : Vals (xs.map V.str) its) (out : Array Value) (ys : List Str), PyProof.Rows.StrsAre out.toList ys → ys.Perm xs → PyProof.Rows.sortedS ys = true → EP X pins σ Q (.ref (s.heap.objs.size + 1)) { s with heap := PyProof.Rows.sortedAll s.heap its out } := fun its rv out ys h1 h2 h3 => by
    obtain ⟨ep, he'⟩ := PyProof.Rows.sortedAll_at s.heap its out
    have hlen : (ys.map V.str).length ≤ sizeLine := by rw [List.length_map, h2.length_eq]; exact hz
    exact ⟨.ref _, upd H (s.heap.objs.size + 1) (.lst (ys.map V.str)), I.laid (t' := s.toks) (fun _ _ => PyProof.Rows.sortedAll_old) (Nat.le_succ _) ⟨hlen, out.toList, ep, vals_of_strs h1, he'⟩, rfl, q ys _ h2 h3 (I.hok.fresh (Nat.le_succ _))⟩
  rcases hs with hs | hs
  · obtain ⟨its, rv, hl, _⟩ := I.list hs
    have hlen0 := rv.length
    rw [List.length_map] at hlen0
    exact PyProof.Rows.sorted_strsAny hl.isList rv.strs (by rw [← hlen0]; exact hz) (fin its rv)
  · obtain ⟨its, rv, hl, _⟩ := I.tuple hs
    have hlen0 := rv.length
    rw [List.length_map] at hlen0
    exact PyProof.Rows.sorted_strsT hl rv.strs (by rw [← hlen0]; exact hz) (fin its rv)
end
end DL

/-! D6: calls over data: built-ins, lists' methods, the text's own defs. -/
namespace DL
open PySem PySem.Spec L2

abbrev FB := List D → Mem → Po → Prop
def wCB (f : FB) (wa : WA) : WE := fun env m Q E => wa env m (fun ds m1 => f ds m1 Q) E
def BD (X : Cx) (r : List V → Hp → VK → Prop) (f : FB) : Prop := ∀ (F : Hp) (m : Mem) (H : Hp) (ds : List D) (vs : List V) (Qd : Po) (Q : VK), Rel X.K F m H → Dens X.K F ds vs → f ds m Qd →
  (∀ v' H' F' m' d, Sub F F' → Rel X.K F' m' H' → Den X.K F' d v' → Qd d m' → Q v' H') → r vs H Q
theorem seq_cases {m : Mem} {d : D} {xs : List D} (e : seqOf m d = some xs) : d = .tup xs ∨ d = .klst xs ∨ lstOf m d = some xs := by
  cases d <;> simp only [seqOf, lstOf] at e ⊢ <;> first | (cases e; exact .inl rfl) | (cases e; exact .inr (.inl rfl)) | exact .inr (.inr e) | (exact .inr (.inr rfl)) | cases e
section
variable {X : Cx}
theorem dens1 {K : Frag} {F : Hp} {u : D} {vs : List V} (h : Dens K F [u] vs) : ∃ a, vs = [a] ∧ Den K F u a := by
  simp only [Dens] at h
  obtain ⟨a, r, rfl, h1, rfl⟩ := h
  exact ⟨a, rfl, h1⟩
theorem dcb {r : List V → Hp → VK → Prop} {f : FB} {id : String} {x : Str} {p pos : Pos} {e : Expr} {es : List Expr} {wa : WA} (hc : CallR X (.builtin id) r) (bd : BD X r f) (hg : Gl X x) (hm : X.mg x = none) (hv : bootBuiltins x = some (.builtin id)) (ha : DA X (e :: es) wa)
    (hn : x ≠ "__name__" := by decide) (hdb : (x == ("__debug__" : Str)) = false := by decide) (he : starEach (e :: es) X.env = (false, eval e X.env) :: starEach es X.env := by rfl) (hpl : (backTo pos (starEach es X.env)).any (·.1) = false := by rfl) :
    DE X (.Call (.Name x p) (e :: es) [] pos) (wCB f wa) := wkE (pe_callB hc hg hm hv ha hn hdb he hpl) fun σ H Q ⟨F, m, env, Qd, xc, r0, en, a, q, k⟩ =>
  tWA.sub r0 en a q fun vs H1 F1 m1 ds s1 r1 en1 dn1 q1 => bd F1 m1 H1 ds vs Qd Q r1 dn1 q1 fun v' H' F' m' d s => k v' H' F' m' d (s1.trans s)
theorem dct {r : List V → Hp → VK → Prop} {f : FB} {T : String} {x : Str} {p pos : Pos} {e : Expr} {es : List Expr} {wa : WA} (hc : CallR X (.type T) r) (bd : BD X r f) (hg : Gl X x) (hm : X.mg x = none) (hv : bootBuiltins x = some (.type T)) (ha : DA X (e :: es) wa)
    (hn : x ≠ "__name__" := by decide) (hdb : (x == ("__debug__" : Str)) = false := by decide) (he : starEach (e :: es) X.env = (false, eval e X.env) :: starEach es X.env := by rfl) (hpl : (backTo pos (starEach es X.env)).any (·.1) = false := by rfl) :
    DE X (.Call (.Name x p) (e :: es) [] pos) (wCB f wa) := wkE (pe_callTy hc hg hm hv ha hn hdb he hpl) fun σ H Q ⟨F, m, env, Qd, xc, r0, en, a, q, k⟩ =>
  tWA.sub r0 en a q fun vs H1 F1 m1 ds s1 r1 en1 dn1 q1 => bd F1 m1 H1 ds vs Qd Q r1 dn1 q1 fun v' H' F' m' d s => k v' H' F' m' d (s1.trans s)

/-! ### len -/
def fLen : FB := fun ds m Q => match ds with
  | [.str z] => z.length ≤ sizeLine ∧ Q (.int z.length) m
  | [d] => ∃ xs, seqOf m d = some xs ∧ Q (.int xs.length) m
  | _ => False
theorem bd_len : BD X (fun xs H Q => ∃ x n, xs = [x] ∧ LenV X.K x H n ∧ Q (.int n) H) fLen := fun F m H ds vs Qd Q r dn q k => by
  have gen : ∀ d, ds = [d] → (∃ xs, seqOf m d = some xs ∧ Qd (.int xs.length) m) → ∃ x n, vs = [x] ∧ LenV X.K x H n ∧ Q (.int n) H := fun d e ⟨xs, e1, q2⟩ => by
    subst e
    obtain ⟨v, rfl, d1⟩ := dens1 dn
    obtain ⟨a, us, rfl, hs, d2⟩ := r.seqOf d1 e1
    refine ⟨.ref a, xs.length, rfl, ?_, k _ H F m (.int xs.length) (Sub.refl F) r (by simp only [Den]) q2⟩
    rcases hs with hs | hs
    · exact .inl ⟨us, hs, d2.length⟩
    · exact .inr ⟨us, hs, d2.length⟩
  match ds, q with
  | [.str z], q =>
    obtain ⟨v, rfl, d1⟩ := dens1 dn
    simp only [Den] at d1; subst d1
    exact ⟨_, z.length, rfl, ⟨q.1, rfl⟩, k _ H F m _ (Sub.refl F) r (by simp only [Den]) q.2⟩
  | [.non], q => exact gen _ rfl q
  | [.bl _], q => exact gen _ rfl q
  | [.int _], q => exact gen _ rfl q
  | [.ty _], q => exact gen _ rfl q
  | [.ref _], q => exact gen _ rfl q
  | [.tup _], q => exact gen _ rfl q
  | [.lst _], q => exact gen _ rfl q
  | [.klst _], q => exact gen _ rfl q
  | [.exc _ _ _ _ _], q => exact gen _ rfl q
theorem dlen {p pos : Pos} {e : Expr} {we : WA} (hg : Gl X "len") (hm : X.mg "len" = none) (ha : DA X [e] we) (he : starEach [e] X.env = (false, eval e X.env) :: starEach [] X.env := by rfl) : DE X (.Call (.Name "len" p) [e] [] pos) (wCB fLen we) := dcb call_len bd_len hg hm PySem.boot_len ha (he := he)
/-! ### min, max of two ints -/
def fMin2 : FB := fun ds m Q => match ds with
  | [.int i, .int j] => Q (.int (if j < i then j else i)) m
  | _ => False
def fMax2 : FB := fun ds m Q => match ds with
  | [.int i, .int j] => Q (.int (if j > i then j else i)) m
  | _ => False
theorem bd_min2 : BD X (fun xs H Q => ∃ i j, xs = [.int i, .int j] ∧ Q (.int (if j < i then j else i)) H) fMin2 := fun F m H ds vs Qd Q r dn q k => by
  match ds, q with
  | [.int i, .int j], q =>
    obtain ⟨a, b, rfl, h1, h2⟩ := dens2 dn
    simp only [Den] at h1 h2; subst h1; subst h2
    exact ⟨i, j, rfl, k _ H F m _ (Sub.refl F) r (by simp only [Den]) q⟩
theorem bd_max2 : BD X (fun xs H Q => ∃ i j, xs = [.int i, .int j] ∧ Q (.int (if j > i then j else i)) H) fMax2 := fun F m H ds vs Qd Q r dn q k => by
  match ds, q with
  | [.int i, .int j], q =>
    obtain ⟨a, b, rfl, h1, h2⟩ := dens2 dn
    simp only [Den] at h1 h2; subst h1; subst h2
    exact ⟨i, j, rfl, k _ H F m _ (Sub.refl F) r (by simp only [Den]) q⟩
theorem dmin2 {p pos : Pos} {e e' : Expr} {we : WA} (hc : X.calm = true) (hg : Gl X "min") (hm : X.mg "min" = none) (ha : DA X [e, e'] we) (he : starEach [e, e'] X.env = (false, eval e X.env) :: starEach [e'] X.env := by rfl) (hpl : (backTo pos (starEach [e'] X.env)).any (·.1) = false := by rfl) :
    DE X (.Call (.Name "min" p) [e, e'] [] pos) (wCB fMin2 we) := dcb (call_min2 hc) bd_min2 hg hm PyProof.Rows.boot_min ha (he := he) (hpl := hpl)
theorem dmax2 {p pos : Pos} {e e' : Expr} {we : WA} (hc : X.calm = true) (hg : Gl X "max") (hm : X.mg "max" = none) (ha : DA X [e, e'] we) (he : starEach [e, e'] X.env = (false, eval e X.env) :: starEach [e'] X.env := by rfl) (hpl : (backTo pos (starEach [e'] X.env)).any (·.1) = false := by rfl) :
    DE X (.Call (.Name "max" p) [e, e'] [] pos) (wCB fMax2 we) := dcb (call_max2 hc) bd_max2 hg hm PyProof.Rows.boot_max ha (he := he) (hpl := hpl)
/-! ### tuple(x), list(x) -/
def fTuple : FB := fun ds m Q => match ds with
  | [d] => ∃ xs, seqOf m d = some xs ∧ Q (.tup xs) m
  | _ => False
def fList : FB := fun ds m Q => match ds with
  | [d] => ∃ xs, seqOf m d = some xs ∧ Q (.lst xs) m
  | _ => False
def fListM : FB := fun ds m Q => match ds with
  | [d] => ∃ xs, seqOf m d = some xs ∧ ∀ p, m p = none → Q (.ref p) (m.put p (.lst xs))
  | _ => False
theorem bd_tuple : BD X (fun xs H Q => ∃ p ys, xs = [.ref p] ∧ ((SqL X.K H p ys ∧ ∀ l, H l = none → Q (.ref l) (upd H l (.tup ys))) ∨ (SqT X.K H p ys ∧ Q (.ref p) H))) fTuple := fun F m H ds vs Qd Q r dn q k => by
  match ds, q with
  | [d], ⟨xs, e, q⟩ =>
    obtain ⟨v, rfl, d1⟩ := dens1 dn
    rcases seq_cases e with rfl | rfl | e2
    · have D1 := d1
      simp only [Den] at d1
      obtain ⟨b, ws, rfl, hb, db⟩ := d1
      exact ⟨b, ws, rfl, .inr ⟨r.sqT hb, k _ H F m (.tup xs) (Sub.refl F) r D1 q⟩⟩
    · simp only [Den] at d1
      obtain ⟨a, us, rfl, hs, d2⟩ := d1
      refine ⟨a, us, rfl, .inl ⟨r.sqL hs, fun l hl => ?_⟩⟩
      obtain ⟨r', s'⟩ := r.frozen (o := .tup us) hl
      refine k _ _ _ m (.tup xs) s' r' ?_ q
      simp only [Den]
      exact ⟨l, us, rfl, .inl (.inl upd_same), d2.mono s'⟩
    · obtain ⟨a, us, rfl, hs, d2⟩ := r.lstOf d1 e2
      refine ⟨a, us, rfl, .inl ⟨.inl hs, fun l hl => ?_⟩⟩
      obtain ⟨r', s'⟩ := r.frozen (o := .tup us) hl
      refine k _ _ _ m (.tup xs) s' r' ?_ q
      simp only [Den]
      exact ⟨l, us, rfl, .inl (.inl upd_same), d2.mono s'⟩
abbrev rListOf (K : Frag) : List V → Hp → VK → Prop := fun xs H Q => ∃ p ys, xs = [.ref p] ∧ (SqL K H p ys ∨ SqT K H p ys) ∧ ∀ l, H l = none → Q (.ref l) (upd H l (.lst ys))
theorem bd_list : BD X (rListOf X.K) fList := fun F m H ds vs Qd Q r dn q k => by
  match ds, q with
  | [d], ⟨xs, e, q⟩ =>
    obtain ⟨v, rfl, d1⟩ := dens1 dn
    obtain ⟨a, us, rfl, hs, d2⟩ := r.seqOf d1 e
    refine ⟨a, us, rfl, hs, fun l hl => ?_⟩
    obtain ⟨r', s'⟩ := r.frozen (o := .lst us) hl
    refine k _ _ _ m (.lst xs) s' r' ?_ q
    simp only [Den]
    exact ⟨l, us, rfl, .inl upd_same, d2.mono s'⟩
theorem bd_listM : BD X (rListOf X.K) fListM := fun F m H ds vs Qd Q r dn q k => by
  match ds, q with
  | [d], ⟨xs, e, q⟩ =>
    obtain ⟨v, rfl, d1⟩ := dens1 dn
    obtain ⟨a, us, rfl, hs, d2⟩ := r.seqOf d1 e
    refine ⟨a, us, rfl, hs, fun l hl => ?_⟩
    refine k _ _ F _ (.ref l) (Sub.refl F) (r.fresh hl (c := .lst xs) ?_) (by simp only [Den]) (q l (r.free hl).2)
    simp only [CellOk]
    exact ⟨us, upd_same, d2⟩
theorem dtuple {p pos : Pos} {e : Expr} {we : WA} (hg : Gl X "tuple") (hm : X.mg "tuple" = none) (ha : DA X [e] we) (he : starEach [e] X.env = (false, eval e X.env) :: starEach [] X.env := by rfl) : DE X (.Call (.Name "tuple" p) [e] [] pos) (wCB fTuple we) := dct call_tuple_of bd_tuple hg hm (by decide +kernel) ha (he := he)
theorem dlist {p pos : Pos} {e : Expr} {we : WA} (hg : Gl X "list") (hm : X.mg "list" = none) (ha : DA X [e] we) (he : starEach [e] X.env = (false, eval e X.env) :: starEach [] X.env := by rfl) : DE X (.Call (.Name "list" p) [e] [] pos) (wCB fList we) := dct call_list_of bd_list hg hm (by decide +kernel) ha (he := he)
theorem dlistM {p pos : Pos} {e : Expr} {we : WA} (hg : Gl X "list") (hm : X.mg "list" = none) (ha : DA X [e] we) (he : starEach [e] X.env = (false, eval e X.env) :: starEach [] X.env := by rfl) : DE X (.Call (.Name "list" p) [e] [] pos) (wCB fListM we) := dct call_list_of bd_listM hg hm (by decide +kernel) ha (he := he)
/-! ### str(n) -/
def fStrI : FB := fun ds m Q => match ds with
  | [.int i] => i.natAbs.log2 < 1920 ∧ Q (.str (toString i)) m
  | _ => False
theorem bd_stri : BD X (fun xs H Q => ∃ i, xs = [.int i] ∧ i.natAbs.log2 < 1920 ∧ Q (.str (toString i)) H) fStrI := fun F m H ds vs Qd Q r dn q k => by
  match ds, q with
  | [.int i], q =>
    obtain ⟨a, rfl, h1⟩ := dens1 dn
    simp only [Den] at h1; subst h1
    exact ⟨i, rfl, q.1, k _ H F m _ (Sub.refl F) r (by simp only [Den]) q.2⟩
theorem dstri {p pos : Pos} {e : Expr} {we : WA} (hg : Gl X "str") (hm : X.mg "str" = none) (ha : DA X [e] we) (he : starEach [e] X.env = (false, eval e X.env) :: starEach [] X.env := by rfl) : DE X (.Call (.Name "str" p) [e] [] pos) (wCB fStrI we) := dct call_str_int bd_stri hg hm (by decide +kernel) ha (he := he)
/-! ### any, all of a list of bools -/
def bools : List D → Option (List Bool)
  | [] => some []
  | .bl b :: ds => (bools ds).map (b :: ·)
  | _ => none
theorem bools_den {K : Frag} {F : Hp} : ∀ {ds : List D} {vs : List V} {bs : List Bool}, Dens K F ds vs → bools ds = some bs → vs = bs.map V.bl
  | [], _, _, dn, e => by simp only [Dens] at dn; simp only [bools] at e; cases e; exact dn
  | d :: ds, _, bs, dn, e => by
    simp only [Dens] at dn
    obtain ⟨v, r, rfl, h1, h2⟩ := dn
    cases d <;> simp only [bools] at e <;> first | cases e | skip
    rename_i b
    simp only [Den] at h1
    cases q : bools ds with
    | none => rw [q] at e; cases e
    | some cs =>
      rw [q] at e; cases e
      rw [bools_den h2 q, h1]; rfl
@[simp] theorem bools_map {α : Type} (f : α → Bool) (l : List α) : bools (l.map fun x => D.bl (f x)) = some (l.map f) := by
  induction l with
  | nil => rfl
  | cons a l ih => simp [bools, ih]
def fAny : FB := fun ds m Q => match ds with
  | [d] => ∃ xs bs, lstOf m d = some xs ∧ bools xs = some bs ∧ Q (.bl (bs.any id)) m
  | _ => False
def fAll : FB := fun ds m Q => match ds with
  | [d] => ∃ xs bs, lstOf m d = some xs ∧ bools xs = some bs ∧ Q (.bl (bs.all id)) m
  | _ => False
theorem bd_any : BD X (rAny X.K) fAny := fun F m H ds vs Qd Q r dn q k => by
  match ds, q with
  | [d], ⟨xs, bs, e1, e2, q⟩ =>
    obtain ⟨a, rfl, h1⟩ := dens1 dn
    obtain ⟨b, us, rfl, hs, h2⟩ := r.lstOf h1 e1
    rw [bools_den h2 e2] at hs
    exact ⟨b, bs, rfl, .inl hs, k _ H F m _ (Sub.refl F) r (by simp only [Den]) q⟩
theorem bd_all : BD X (rAll X.K) fAll := fun F m H ds vs Qd Q r dn q k => by
  match ds, q with
  | [d], ⟨xs, bs, e1, e2, q⟩ =>
    obtain ⟨a, rfl, h1⟩ := dens1 dn
    obtain ⟨b, us, rfl, hs, h2⟩ := r.lstOf h1 e1
    rw [bools_den h2 e2] at hs
    exact ⟨b, bs, rfl, .inl hs, k _ H F m _ (Sub.refl F) r (by simp only [Den]) q⟩
theorem dany {p pos : Pos} {e : Expr} {we : WA} (hc : X.calm = true) (hg : Gl X "any") (hm : X.mg "any" = none) (ha : DA X [e] we) (he : starEach [e] X.env = (false, eval e X.env) :: starEach [] X.env := by rfl) : DE X (.Call (.Name "any" p) [e] [] pos) (wCB fAny we) := dcb (cr_any hc) bd_any hg hm PyProof.Rows.boot_any ha (he := he)
theorem dall {p pos : Pos} {e : Expr} {we : WA} (hc : X.calm = true) (hg : Gl X "all") (hm : X.mg "all" = none) (ha : DA X [e] we) (he : starEach [e] X.env = (false, eval e X.env) :: starEach [] X.env := by rfl) : DE X (.Call (.Name "all" p) [e] [] pos) (wCB fAll we) := dcb (cr_all hc) bd_all hg hm (by decide +kernel) ha (he := he)
/-! ### sum(lists, []) -/
def lists (m : Mem) : List D → Option (List (List D))
  | [] => some []
  | d :: ds => match lstOf m d, lists m ds with
    | some x, some r => some (x :: r)
    | _, _ => none
def fSumL : FB := fun ds m Q => match ds with
  | [d, e] => ∃ xs xss ys, lstOf m d = some xs ∧ lists m xs = some xss ∧ e = .lst ys ∧ ys.length + xss.flatten.length ≤ sizeLine ∧ Q (.lst (ys ++ xss.flatten)) m
  | _ => False
theorem lists_den {K : Frag} {F : Hp} {m : Mem} {H : Hp} (r : Rel K F m H) : ∀ {ds : List D} {vs : List V} {xss : List (List D)}, Dens K F ds vs → lists m ds = some xss →
    ∃ qs : List (Addr × List V), vs = qs.map (fun q => V.ref q.1) ∧ (∀ q ∈ qs, Rd H q.1 (.lst q.2)) ∧ Dens K F xss.flatten (qs.map (·.2)).flatten ∧ qs.length = xss.length
  | [], _, _, dn, e => by simp only [Dens] at dn; simp only [lists] at e; cases e; exact ⟨[], dn, fun _ h => by simp at h, Dens.nil, rfl⟩
  | d :: ds, _, xss, dn, e => by
    simp only [Dens] at dn
    obtain ⟨v, r', rfl, h1, h2⟩ := dn
    simp only [lists] at e
    cases e1 : DL.lstOf m d with
    | none => rw [e1] at e; cases e
    | some x =>
      cases e2 : lists m ds with
      | none => rw [e1, e2] at e; cases e
      | some y =>
        rw [e1, e2] at e; cases e
        obtain ⟨a, us, rfl, ha, da⟩ := r.lstOf h1 e1
        obtain ⟨qs, rfl, hq, dq, hl⟩ := lists_den r h2 e2
        refine ⟨(a, us) :: qs, rfl, fun q hh => ?_, ?_, by simp [hl]⟩
        · rcases List.mem_cons.mp hh with rfl | hh
          · exact ha
          · exact hq q hh
        · simpa using da.append dq
theorem dsumL {p pos : Pos} {e e' : Expr} {we : WA} (hc : X.calm = true) (hg : Gl X "sum") (hm : X.mg "sum" = none) (ha : DA X [e, e'] we) (he : starEach [e, e'] X.env = (false, eval e X.env) :: starEach [e'] X.env := by rfl) (hpl : (backTo pos (starEach [e'] X.env)).any (·.1) = false := by rfl) :
    DE X (.Call (.Name "sum" p) [e, e'] [] pos) (wCB fSumL we) := dcb (call_sumL hc) (fun F m H ds vs Qd Q r dn q k => by
  match ds, q with
  | [d, _], ⟨xs, xss, ys, e1, e2, rfl, hz, q⟩ =>
    obtain ⟨a, b, rfl, h1, h2⟩ := dens2 dn
    obtain ⟨c, us, rfl, hs, d1⟩ := r.lstOf h1 e1
    obtain ⟨qs, rfl, hq, dq, hl⟩ := lists_den r d1 e2
    have D2 := h2
    simp only [Den] at h2
    obtain ⟨b', ws, rfl, hb, db⟩ := h2
    refine ⟨c, b', qs, ws, rfl, hs, hq, r.rd hb, by rw [← db.length, ← dq.length]; exact hz, fun e => ?_, fun _ p hp => ?_⟩
    · subst e
      have : xss = [] := List.length_eq_zero_iff.mp hl.symm
      subst this
      exact k _ H F m (.lst ys) (Sub.refl F) r D2 (by simpa using q)
    · obtain ⟨r', s'⟩ := r.frozen (o := .lst (ws ++ (qs.map (·.2)).flatten)) hp
      refine k _ _ _ m (.lst (ys ++ xss.flatten)) s' r' ?_ q
      simp only [Den]
      exact ⟨p, _, rfl, .inl upd_same, (db.append dq).mono s'⟩) hg hm PyProof.Rows.boot_sum ha (he := he) (hpl := hpl)
/-! ### sorted of texts -/
def strsD : List D → Option (List Str)
  | [] => some []
  | .str s :: ds => (strsD ds).map (s :: ·)
  | _ => none
theorem strs_den {K : Frag} {F : Hp} : ∀ {ds : List D} {vs : List V} {bs : List Str}, Dens K F ds vs → strsD ds = some bs → vs = bs.map V.str
  | [], _, _, dn, e => by simp only [Dens] at dn; simp only [strsD] at e; cases e; exact dn
  | d :: ds, _, bs, dn, e => by
    simp only [Dens] at dn
    obtain ⟨v, r, rfl, h1, h2⟩ := dn
    cases d <;> simp only [strsD] at e <;> first | cases e | skip
    rename_i b
    simp only [Den] at h1
    cases q : strsD ds with
    | none => rw [q] at e; cases e
    | some cs =>
      rw [q] at e; cases e
      rw [strs_den h2 q, h1]; rfl
theorem dens_strs {K : Frag} {F : Hp} : ∀ (ys : List Str), Dens K F (ys.map D.str) (ys.map V.str)
  | [] => Dens.nil
  | y :: ys => Dens.cons (by simp only [Den]) (dens_strs ys)
@[simp] theorem strs_map (l : List Str) : strsD (l.map D.str) = some l := by
  induction l with
  | nil => rfl
  | cons a l ih => simp [strsD, ih]
def fSortedS : FB := fun ds m Q => match ds with
  | [d] => ∃ xs ss, seqOf m d = some xs ∧ strsD xs = some ss ∧ ss.length ≤ sizeLine ∧ ∀ ys : List Str, ys.Perm ss → PyProof.Rows.sortedS ys = true → Q (.lst (ys.map D.str)) m
  | _ => False
theorem dsortedS {p pos : Pos} {e : Expr} {we : WA} (hg : Gl X "sorted") (hm : X.mg "sorted" = none) (ha : DA X [e] we) (he : starEach [e] X.env = (false, eval e X.env) :: starEach [] X.env := by rfl) : DE X (.Call (.Name "sorted" p) [e] [] pos) (wCB fSortedS we) := dcb call_sortedSS (fun F m H ds vs Qd Q r dn q k => by
  match ds, q with
  | [d], ⟨xs, ss, e1, e2, hz, q⟩ =>
    obtain ⟨a, rfl, h1⟩ := dens1 dn
    obtain ⟨b, us, rfl, hs, h2⟩ := r.seqOf h1 e1
    rw [strs_den h2 e2] at hs
    refine ⟨b, ss, rfl, hs, hz, fun ys p h3 h4 hp => ?_⟩
    obtain ⟨r', s'⟩ := r.frozen (o := .lst (ys.map V.str)) hp
    refine k _ _ _ m _ s' r' ?_ (q ys h3 h4)
    simp only [Den]
    exact ⟨p, _, rfl, .inl upd_same, dens_strs ys⟩) hg hm PyProof.Rows.boot_sorted ha (he := he)
/-! ### isinstance(x, T), T a built-in class -/
def tyD (m : Mem) : D → Option String
  | .non => some "NoneType"
  | .bl _ => some "bool"
  | .int _ => some "int"
  | .str _ => some "str"
  | .tup _ => some "tuple"
  | .lst _ => some "list"
  | .ref p => match m p with
    | some (.lst _) => some "list"
    | some (.dct _) => some "dict"
    | some (.dcT _) => some "dict"
    | _ => none
  | .ty _ => none
  | .klst _ => none
  | .exc .. => none
def fIsi : FB := fun ds m Q => match ds with
  | [d, .ty n] => ∃ t b, tyD m d = some t ∧ kitB t n = some b ∧ Q (.bl b) m
  | _ => False
theorem tyD_ok {K : Frag} {F : Hp} {m : Mem} {H : Hp} (r : Rel K F m H) {d : D} {v : V} {t : String} (dn : Den K F d v) (e : tyD m d = some t) : TyX K H v (.type t) := by
  cases d with
  | non => cases e; simp only [Den] at dn; subst dn; exact .base .non
  | bl b => cases e; simp only [Den] at dn; subst dn; exact .base (.bl b)
  | int b => cases e; simp only [Den] at dn; subst dn; exact .base (.int b)
  | str b => cases e; simp only [Den] at dn; subst dn; exact .base (.str b)
  | ty b => cases e
  | tup ds =>
    cases e
    simp only [Den] at dn
    obtain ⟨a, vs, rfl, hs, _⟩ := dn
    rcases hs with hs | ⟨o, its, n, h1, h2, _⟩
    · rcases r.rd hs with h | ⟨o, h⟩
      · exact .base (.tup h)
      · exact .fTuple h
    · exact .kTuple h1 h2
  | lst ds =>
    cases e
    simp only [Den] at dn
    obtain ⟨a, vs, rfl, hs, _⟩ := dn
    rcases r.rd hs with h | ⟨o, h⟩
    · exact .base (.lst h)
    · exact .base (.frz h)
  | klst ds => simp only [tyD] at e; cases e
  | exc a c d ns xs => simp only [tyD] at e; cases e
  | ref p =>
    simp only [Den] at dn; subst dn
    simp only [tyD] at e
    cases h : m p with
    | none => rw [h] at e; cases e
    | some c =>
      rw [h] at e
      obtain ⟨_, q⟩ := r.me p c h
      cases c <;> simp only [CellOk] at q <;> first | cases e | skip
      · obtain ⟨vs, e1, _⟩ := q; exact .base (.lst e1)
      · obtain ⟨vs, e1, _⟩ := q; exact .base (.dK e1)
      · obtain ⟨vs, e1, _⟩ := q; exact .base (.dT e1)
theorem disi {p pos : Pos} {e e' : Expr} {we : WA} (hg : Gl X "isinstance") (hm : X.mg "isinstance" = none) (ha : DA X [e, e'] we) (he : starEach [e, e'] X.env = (false, eval e X.env) :: starEach [e'] X.env := by rfl) (hpl : (backTo pos (starEach [e'] X.env)).any (·.1) = false := by rfl) :
    DE X (.Call (.Name "isinstance" p) [e, e'] [] pos) (wCB fIsi we) := dcb call_isi (fun F m H ds vs Qd Q r dn q k => by
  match ds, q with
  | [d, .ty n], ⟨t, b, e1, e2, q⟩ =>
    obtain ⟨a, c, rfl, h1, h2⟩ := dens2 dn
    simp only [Den] at h2; subst h2
    exact ⟨a, .ty n, .type t, .type n, b, rfl, .ty n, tyD_ok r h1 e1, kit_ty e2, k _ H F m _ (Sub.refl F) r (by simp only [Den]) q⟩) hg hm PyProof.Rows.boot_isinstance ha (he := he) (hpl := hpl)
/-- a built-in class by its name -/
theorem dty {x : Str} {n : String} {pos : Pos} (hg : Gl X x) (hm : X.mg x = none) (hv : bootBuiltins x = some (.type n)) (hn : x ≠ "__name__" := by decide) (hd : (x == ("__debug__" : Str)) = false := by decide) : DE X (.Name x pos) (wC (.ty n)) :=
  dC (pe_bltn (v := .ty n) hg hm hv rfl hn hd) fun _ => by simp only [Den]

/-! ### methods of lists -/
def wAppend (wo we : WE) : WE := fun env m Q E => wo env m (fun o m1 => match o with
  | .ref p => (∃ xs, m1 p = some (.lst xs)) ∧ we env m1 (fun d m2 => ∃ xs, m2 p = some (.lst xs) ∧ xs.length < sizeLine ∧ Q .non (m2.put p (.lst (xs ++ [d])))) E
  | _ => False) E
theorem dappend {o e : Expr} {apos cpos : Pos} {wo we : WE} (ho : DE X o wo) (he : DE X e we) (hbase : attributeBase o "append" X.env (eval o X.env) = eval o X.env := by rfl)
    (hfew : ((backTo cpos (starEach [e] X.env)).all (fun x => !x.1) && (backToKw cpos (keywordEach [] X.env)).all (fun x => x.1.isSome)
      && decide (([e] : List Expr).length + ([] : List Keyword).length + (if ([] : List Keyword).isEmpty then 0 else 1) < 30)) = true := by rfl)
    (hline : (apos.endLine == cpos.line) = true := by rfl) (hs : starEach [e] X.env = (false, eval e X.env) :: starEach [] X.env := by rfl) : DE X (.Call (.Attribute o "append" apos) [e] [] cpos) (wAppend wo we) :=
  wkE (pe_bm PySem.F.plainAttrs_list PySem.F.slot_list_append PySem.F.type_list_append mt_append ho (dacons he danil hs) hbase hfew hline hs rfl) fun σ H Q ⟨F, m, env, Qd, xc, r, en, a, q, k⟩ =>
    tW.sub r en a q fun v1 H1 F1 m1 d1 s1 r1 en1 dn1 q1 => by
      cases d1 <;> first | exact q1.elim | skip
      rename_i p
      simp only [Den] at dn1; subst dn1
      obtain ⟨⟨xs, e⟩, q1⟩ := q1
      obtain ⟨_, cq⟩ := r1.me p _ e
      simp only [CellOk] at cq
      obtain ⟨vs, hv, _⟩ := cq
      refine ⟨.inl ⟨rfl, vs, SqL.of hv⟩, ?_⟩
      refine tWA.sub (w := wCons _ wNil) (Qd := fun ds m2 => ∃ d, ds = [d] ∧ ∃ xs, m2 p = some (.lst xs) ∧ xs.length < sizeLine ∧ Qd .non (m2.put p (.lst (xs ++ [d])))) (xc := xc) r1 en1 (a.mono s1) ?_ fun us H2 F2 m2 ds s2 r2 en2 dn2 ⟨d, hd, xs2, e2, hz, q2⟩ => ?_
      · refine Eq.mp (congrArg (fun z => we env m1 z _) ?_) q1
        funext d m2
        simp [wCons, wNil]
      · subst hd
        obtain ⟨u, rfl, du⟩ := dens1 dn2
        obtain ⟨_, cq⟩ := r2.me p _ e2
        simp only [CellOk] at cq
        obtain ⟨ws, hw, dw⟩ := cq
        refine ⟨p, ws, u, rfl, rfl, hw, by rw [← dw.length]; exact hz, k _ _ F2 _ .non (s1.trans s2) (r2.store e2 ?_) (by simp only [Den]) q2⟩
        simp only [CellOk]
        exact ⟨_, upd_same, dw.append (Dens.one du)⟩
def wPop (wo : WE) : WE := fun env m Q E => wo env m (fun o m1 => match o with
  | .ref p => ∃ xs y, m1 p = some (.lst xs) ∧ xs[xs.length - 1]? = some y ∧ Q y (m1.put p (.lst xs.dropLast))
  | _ => False) E
theorem dpop {o : Expr} {apos cpos : Pos} {wo : WE} (ho : DE X o wo) (hbase : attributeBase o "pop" X.env (eval o X.env) = eval o X.env := by rfl) (hline : (apos.endLine == cpos.line) = true := by rfl) : DE X (.Call (.Attribute o "pop" apos) [] [] cpos) (wPop wo) :=
  wkE (pe_bm0 PySem.F.plainAttrs_list PySem.F.slot_list_pop PySem.F.type_list_pop mt_pop ho hbase hline) fun σ H Q ⟨F, m, env, Qd, xc, r, en, a, q, k⟩ =>
    tW.sub r en a q fun v1 H1 F1 m1 d1 s1 r1 en1 dn1 q1 => by
      cases d1 <;> first | exact q1.elim | skip
      rename_i p
      simp only [Den] at dn1; subst dn1
      obtain ⟨xs, y, e, ey, q1⟩ := q1
      obtain ⟨_, cq⟩ := r1.me p _ e
      simp only [CellOk] at cq
      obtain ⟨vs, hv, dv⟩ := cq
      obtain ⟨v, ev, dy⟩ := dv.get ey
      refine ⟨.inl ⟨rfl, vs, SqL.of hv⟩, p, vs, v, rfl, rfl, hv, by rw [← dv.length]; exact ev, k _ _ F1 _ y s1 (r1.store e ?_) dy q1⟩
      simp only [CellOk]
      refine ⟨_, upd_same, ?_⟩
      rw [List.dropLast_eq_take, List.dropLast_eq_take, ← dv.length]
      exact dv.take _
def wPopAt (wo wi : WE) : WE := fun env m Q E => wo env m (fun o m1 => match o with
  | .ref p => (∃ xs, m1 p = some (.lst xs)) ∧ wi env m1 (fun d m2 => match d with
    | .int i => ∃ xs k y, m2 p = some (.lst xs) ∧ -(2 ^ 63) ≤ i ∧ i < 2 ^ 63 ∧ seqIndex? i xs.length = some k ∧ xs[k]? = some y ∧ Q y (m2.put p (.lst (xs.eraseIdx k)))
    | _ => False) E
  | _ => False) E
theorem Dens.eraseIdx {K : Frag} {F : Hp} : ∀ {ds : List D} {vs : List V} (n : Nat), Dens K F ds vs → Dens K F (ds.eraseIdx n) (vs.eraseIdx n)
  | [], _, n, h => by simp only [Dens] at h; subst h; exact Dens.nil
  | e :: ds, _, 0, h => by
    simp only [Dens] at h
    obtain ⟨w, r, rfl, q, z⟩ := h
    exact z
  | e :: ds, _, n + 1, h => by
    simp only [Dens] at h
    obtain ⟨w, r, rfl, q, z⟩ := h
    exact Dens.cons q (Dens.eraseIdx n z)
theorem dpopat {o e : Expr} {apos cpos : Pos} {wo we : WE} (ho : DE X o wo) (he : DE X e we) (hbase : attributeBase o "pop" X.env (eval o X.env) = eval o X.env := by rfl)
    (hfew : ((backTo cpos (starEach [e] X.env)).all (fun x => !x.1) && (backToKw cpos (keywordEach [] X.env)).all (fun x => x.1.isSome)
      && decide (([e] : List Expr).length + ([] : List Keyword).length + (if ([] : List Keyword).isEmpty then 0 else 1) < 30)) = true := by rfl)
    (hline : (apos.endLine == cpos.line) = true := by rfl) (hs : starEach [e] X.env = (false, eval e X.env) :: starEach [] X.env := by rfl) : DE X (.Call (.Attribute o "pop" apos) [e] [] cpos) (wPopAt wo we) :=
  wkE (pe_bm PySem.F.plainAttrs_list PySem.F.slot_list_pop PySem.F.type_list_pop mt_popAt ho (dacons he danil hs) hbase hfew hline hs rfl) fun σ H Q ⟨F, m, env, Qd, xc, r, en, a, q, k⟩ =>
    tW.sub r en a q fun v1 H1 F1 m1 d1 s1 r1 en1 dn1 q1 => by
      cases d1 <;> first | exact q1.elim | skip
      rename_i p
      simp only [Den] at dn1; subst dn1
      obtain ⟨⟨xs, e⟩, q1⟩ := q1
      obtain ⟨_, cq⟩ := r1.me p _ e
      simp only [CellOk] at cq
      obtain ⟨vs, hv, _⟩ := cq
      refine ⟨.inl ⟨rfl, vs, SqL.of hv⟩, ?_⟩
      refine tWA.sub (w := wCons _ wNil) (Qd := fun ds m2 => ∃ d, ds = [d] ∧ (match d with
        | .int i => ∃ xs k y, m2 p = some (.lst xs) ∧ -(2 ^ 63) ≤ i ∧ i < 2 ^ 63 ∧ seqIndex? i xs.length = some k ∧ xs[k]? = some y ∧ Qd y (m2.put p (.lst (xs.eraseIdx k)))
        | _ => False)) (xc := xc) r1 en1 (a.mono s1) ?_ fun us H2 F2 m2 ds s2 r2 en2 dn2 ⟨d, hd, q2⟩ => ?_
      · refine Eq.mp (congrArg (fun z => we env m1 z _) ?_) q1
        funext d m2
        simp [wCons, wNil]
      · subst hd
        obtain ⟨u, rfl, du⟩ := dens1 dn2
        cases d <;> first | exact q2.elim | skip
        obtain ⟨xs2, j, y, e2, b1, b2, ej, ey, q2⟩ := q2
        simp only [Den] at du; subst du
        obtain ⟨_, cq⟩ := r2.me p _ e2
        simp only [CellOk] at cq
        obtain ⟨ws, hw, dw⟩ := cq
        obtain ⟨v, ev, dy⟩ := dw.get ey
        refine ⟨p, ws, _, j, v, rfl, rfl, hw, b1, b2, by rw [← dw.length]; exact ej, ev, k _ _ F2 _ y (s1.trans s2) (r2.store e2 ?_) dy q2⟩
        simp only [CellOk]
        exact ⟨_, upd_same, dw.eraseIdx j⟩
end

end DL

/-! D7: the text's own defs: promises over data, calls of every form. -/
namespace DL
open PySem PySem.Spec L2

/-! ### arguments in general -/
def lone : List (Bool × Sem Value) → Bool
  | [(true, _)] => true
  | _ => false
section
variable {M : Model} {A : Around} {E : Value → Shared → Prop} {s : Shared}
theorem evalArgs_g {f : Value} {args : List (Bool × Sem Value)} {keywords : List (Option Str × Sem Value)} {Q : Args → Shared → Prop} (hl : lone args = false) (hall : keywords.all (·.1.isSome) = true)
    (h : wpAny M A (spliced args) (fun vs s₁ => wpAny M A (evalAll (keywords.map (·.2))) (fun ks s₂ => Q ⟨vs, (keywords.filterMap (·.1)).zip ks⟩ s₂) E s₁) E s) : wpAny M A (evalArgs f true args keywords) Q E s := by
  unfold evalArgs
  match args, hl, h with
  | [], _, h =>
    show wpAny M A (spliced [] >>= _) Q E s
    refine wpAny_bind (wpAny_mono h (fun vs s₁ h₁ => ?_) fun _ _ x => x)
    refine wpAny_bind (wpAny_pure ?_)
    refine wpAny_holding ?_
    simp only [hall, if_true]
    refine wpAny_bind (wpAny_mono h₁ (fun ks s₂ h₂ => ?_) fun _ _ x => x)
    first | exact wpAny_bind (wpAny_pure (wpAny_pure h₂)) | (simp only [List.append_nil]; exact wpAny_bind (wpAny_pure (wpAny_pure h₂)))
  | (false, x) :: rest, _, h =>
    show wpAny M A (spliced ((false, x) :: rest) >>= _) Q E s
    refine wpAny_bind (wpAny_mono h (fun vs s₁ h₁ => ?_) fun _ _ x => x)
    refine wpAny_holding ?_
    simp only [hall, if_true]
    refine wpAny_bind (wpAny_mono h₁ (fun ks s₂ h₂ => ?_) fun _ _ x => x)
    exact wpAny_bind (wpAny_pure (wpAny_pure h₂))
  | (true, x) :: b :: rest, _, h =>
    show wpAny M A (spliced ((true, x) :: b :: rest) >>= _) Q E s
    refine wpAny_bind (wpAny_mono h (fun vs s₁ h₁ => ?_) fun _ _ x => x)
    refine wpAny_holding ?_
    simp only [hall, if_true]
    refine wpAny_bind (wpAny_mono h₁ (fun ks s₂ h₂ => ?_) fun _ _ x => x)
    exact wpAny_bind (wpAny_pure (wpAny_pure h₂))
theorem callWith_G {K : Frag} {f : Value} {pos : Pos} {args : List (Bool × Sem Value)} {keywords : List (Option Str × Sem Value)} {Q : Value → Shared → Prop} (hk : PySem.W.keepIn K f = true) (hl : lone args = false) (hall : keywords.all (·.1.isSome) = true)
    (h : wpAny M A (spliced args) (fun vs s₁ => wpAny M A (evalAll (keywords.map (·.2))) (fun ks s₂ => K.In s₂.heap ∧ wpAny M A (call f vs ((keywords.filterMap (·.1)).zip ks)) Q E s₂) E s₁) E s) : wpAny M A (callWith pos f [] args keywords) Q E s := by
  have h' := evalArgs_g (f := f) (Q := fun a s₁ => K.In s₁.heap ∧ wpAny M A (call f ([] ++ a.pos) a.kw) Q E s₁) hl hall h
  cases hst : (args.any (·.1) || keywords.any (·.1.isNone)) with
  | false => exact PySem.W.callWith_of hst (PySem.W.keeps_K hk) h'
  | true =>
    unfold callWith
    refine wpAny_bind (wpAny_holding (wpAny_mono h' (fun a s₁ h₁ => wpAny_bind (wpAny_standAt ?_)) fun _ _ x => x))
    obtain ⟨k, hk', L⟩ := PySem.W.keeps_K (M := M) hk _ h₁.1
    simp only [hst]
    refine wpAny_bind (L.here ?_)
    have tail : ∀ {t : Sem Value}, wpAny M A t Q E s₁ → wpAny M A (t >>= fun r => holding [r] point >>= fun _ => pure r) Q E s₁ :=
      fun ht => wpAny_bind (wpAny_mono ht (fun r s₂ hr => wpAny_bind (wpAny_holding (wpAny_point (wpAny_pure hr)))) fun _ _ x => x)
    have marked (mk : Value) : wpAny M A (callMarked mk f ([] ++ a.pos) a.kw) Q E s₁ := by unfold callMarked; exact Calls.wpAny_keep h₁.2
    rcases hk' with rfl | rfl | rfl <;> dsimp only <;> first | exact tail (marked _) | exact tail (wpAny_operating h₁.2)
end

/-! ### promises -/
abbrev SpD := List D → Mem → Po → Xo → Prop
def liftSp (K : Frag) (sp : SpD) : Sp := fun vs H Q E => ∃ (F : Hp) (m : Mem) (ds : List D) (QD : Po) (ED : Xo), Rel K F m H ∧ Dens K F ds vs ∧ sp ds m QD ED ∧ (∀ v H' F' m' d, Sub F F' → Rel K F' m' H' → Den K F' d v → QD d m' → Q v H') ∧
  (∀ cls dd H' F' m' x, Sub F F' → Rel K F' m' H' → ExcAt K F' cls dd H' x → ED x m' → E cls dd H')
/-- room for k calls; g: no repr is under way -/
structure Rm (g : Bool) (k : Nat) (A : Around) : Prop where
  room : Room k A
  gd : g = true → A.guards = some []
theorem Rm.mono {g : Bool} {j k : Nat} {A : Around} (r : Rm g k A) (h : j ≤ k) : Rm g j A := ⟨r.room.mono h, r.gd⟩
theorem Rm.units {g : Bool} {k : Nat} {A : Around} (r : Rm g k A) : A.units + 64 < cLine := r.room.units
theorem Rm.less {g g' : Bool} {k : Nat} {A : Around} (r : Rm g k A) (h : g' = true → g = true) : Rm g' k A := ⟨r.room, fun z => r.gd (h z)⟩
theorem Rm.deeper {g : Bool} {k : Nat} {A : Around} (r : Rm g (k + 1) A) (env : Env) : Rm g k (A.deeper env) := ⟨r.room.deeper env, r.gd⟩
/-- a global's def, called with keywords ks (values behind the positional ones) -/
structure Fn (g : Bool) (P : Program) (w : World) (K : Frag) (mg : Str → Option Value) (base : Heap) (k : Nat) (x : Str) (ks : List Str) (sp : SpD) : Prop where
  ex : ∃ f : Addr, mg x = some (.ref f) ∧ PySem.W.keepIn K (.ref f) = true ∧
    ∀ (A : Around) (outer : List Env) (s : Shared) (H : Hp) (us ws : List Value) (vs : List V) (Q : VK) (E : XK), Rm g k A → Env0 P w K mg base A outer s H → ws.length = ks.length → Vals vs (us ++ ws) → liftSp K sp vs H Q E →
      codeAny (model P w) A (.call (.ref f) ⟨us, ks.zip ws⟩) (CR (CX P w) outer P w H s Q E) s
theorem Fn.mono {g : Bool} {P : Program} {w : World} {K : Frag} {mg : Str → Option Value} {base : Heap} {j k : Nat} {x : Str} {ks : List Str} {sp : SpD} (F : Fn g P w K mg base j x ks sp) (h : j ≤ k) : Fn g P w K mg base k x ks sp :=
  let ⟨f, a, b, c⟩ := F.ex
  ⟨f, a, b, fun A outer s H us ws vs Q E hr => c A outer s H us ws vs Q E (hr.mono h)⟩
theorem Fn.imp {g : Bool} {P : Program} {w : World} {K : Frag} {mg : Str → Option Value} {base : Heap} {k : Nat} {x : Str} {ks : List Str} {sp sp' : SpD} (F : Fn g P w K mg base k x ks sp) (h : ∀ ds m Q E, sp' ds m Q E → sp ds m Q E) : Fn g P w K mg base k x ks sp' :=
  let ⟨f, a, b, c⟩ := F.ex
  ⟨f, a, b, fun A outer s H us ws vs Q E hr e0 hl r ⟨F, m, ds, QD, ED, rr, dn, q, k1, k2⟩ => c A outer s H us ws vs Q E hr e0 hl r ⟨F, m, ds, QD, ED, rr, dn, h _ _ _ _ q, k1, k2⟩⟩
theorem Fn.less {g g' : Bool} {P : Program} {w : World} {K : Frag} {mg : Str → Option Value} {base : Heap} {k : Nat} {x : Str} {ks : List Str} {sp : SpD} (F : Fn g' P w K mg base k x ks sp) (h : g' = true → g = true) : Fn g P w K mg base k x ks sp :=
  let ⟨f, a, b, c⟩ := F.ex
  ⟨f, a, b, fun A outer s H us ws vs Q E hr => c A outer s H us ws vs Q E (hr.less h)⟩
theorem Fn.up {P : Program} {w : World} {K : Frag} {mg : Str → Option Value} {base : Heap} {j k : Nat} {x : Str} {ks : List Str} {sp : SpD} (F : Fn false P w K mg base j x ks sp) (h : j ≤ k) {g : Bool} : Fn g P w K mg base k x ks sp := (F.mono h).less nofun
def Emax (X : Cx) : St → XK := fun σ cls d H' => ∃ W, Takes X W ∧ W cls d σ H'
theorem passes_max {X : Cx} (σ : St) : PassesAt (CX X.prog X.w) X σ (Emax X σ) := fun pins H s e s' I c => takes_max e s' (XE.of_call (W := Wx X) I (fun _ _ _ h => h) c)
theorem lift_call {X : Cx} {sp : SpD} {F : Hp} {m : Mem} {env : En} {σ : St} {H : Hp} {Qd : Po} {xc : Xc} {Q : VK} {vs : List V} {ds : List D} (r : Rel X.K F m H) (en : EnvDen X.K F σ env) (a : Acc X F xc) (dn : Dens X.K F ds vs) (h : sp ds m Qd (fun x m' => xc x env m'))
    (k : ∀ v H' F' m' d, Sub F F' → Rel X.K F' m' H' → Den X.K F' d v → Qd d m' → Q v H') : liftSp X.K sp vs H Q (Emax X σ) :=
  let ⟨F0, s0, t⟩ := a
  ⟨F, m, ds, Qd, _, r, dn, h, k, fun cls dd H' F' m' x s r' xa hx => ⟨_, t, F', m', env, x, s0.trans s, r', en.mono s, xa, hx⟩⟩

/-! ### keywords, starred -/
abbrev DK (X : Cx) (kws : List Keyword) (w : WA) : Prop := PK X kws (tWA X w)
section
variable {X : Cx}
theorem wkK {kws : List Keyword} {t t' : TA} (h : PK X kws t) (i : ∀ σ H Q, t' σ H Q → t σ H Q) : PK X kws t' := ⟨fun pos p s σ H Q I z => h.run pos p s σ H Q I (i _ _ _ z)⟩
theorem dknil : DK X [] wNil := wkK pk_nil fun σ H Q ⟨F, m, env, Qd, xc, r, en, a, q, k⟩ => k [] H F m [] (Sub.refl F) r Dens.nil q
theorem dkcons {nm : Option Str} {e : Expr} {kpos : Pos} {kws : List Keyword} {we : WE} {wr : WA} (he : DE X e we) (hr : DK X kws wr) : DK X (⟨nm, e, kpos⟩ :: kws) (wCons we wr) := wkK (pk_cons he hr) fun σ H Q ⟨F, m, env, Qd, xc, r, en, a, q, k⟩ =>
  tW.sub r en a q fun v1 H1 F1 m1 d1 s1 r1 en1 dn1 q1 => tWA.sub r1 en1 (a.mono s1) q1 fun vs H2 F2 m2 ds s2 r2 en2 dn2 q2 => k _ H2 F2 m2 _ (s1.trans s2) r2 (Dens.cons (dn1.mono s2) dn2) q2
/-- *e in an argument list -/
def wStar (we : WE) (wr : WA) : WA := fun env m Q E => we env m (fun d m1 => ∃ xs, seqOf m1 d = some xs ∧ wr env m1 (fun ds m2 => Q (xs ++ ds) m2) E) E
theorem dastar {e : Expr} {p : Pos} {es : List Expr} {we : WE} {wr : WA} (he : DE X e we) (hr : DA X es wr) (hs : starEach (.Starred e p :: es) X.env = (true, eval e X.env) :: starEach es X.env := by rfl) : DA X (.Starred e p :: es) (wStar we wr) :=
  wkA (StX.pa_star he hr hs) fun σ H Q ⟨F, m, env, Qd, xc, r, en, a, q, k⟩ => tW.sub r en a q fun v1 H1 F1 m1 d1 s1 r1 en1 dn1 ⟨xs, e1, q1⟩ => by
    obtain ⟨p, us, rfl, hs, dx⟩ := r1.seqOf dn1 e1
    exact ⟨p, us, rfl, hs.symm, tWA.sub r1 en1 (a.mono s1) q1 fun vs H2 F2 m2 ds s2 r2 en2 dn2 q2 => k _ H2 F2 m2 _ (s1.trans s2) r2 ((dx.mono s2).append dn2) q2⟩
/-- the call of a global's def -/
def wCall (sp : SpD) (n : Nat) (wa wk : WA) : WE := fun env m Q E => wa env m (fun ds m1 => wk env m1 (fun es m2 => es.length = n ∧ sp (ds ++ es) m2 Q E) E) E
theorem dcall {g : Bool} {k n : Nat} {x : Str} {ks : List Str} {sp : SpD} {p pos : Pos} {es : List Expr} {kws : List Keyword} {wa wk : WA} (F : Fn g X.prog X.w X.K X.mg X.base k x ks sp) (hr : Rm g k X.A) (hg : Gl X x) (ha : DA X es wa) (hk : DK X kws wk)
    (hdb : (x == ("__debug__" : Str)) = false := by decide) (hl : lone (backTo pos (starEach es X.env)) = false := by rfl) (hall : (backToKw pos (keywordEach kws X.env)).all (·.1.isSome) = true := by rfl)
    (hks : (backToKw pos (keywordEach kws X.env)).filterMap (·.1) = ks := by rfl) (hn : ks.length = n := by rfl) : DE X (.Call (.Name x p) es kws pos) (wCall sp n wa wk) := by
  subst hn
  obtain ⟨f, hm, hkp, run⟩ := F.ex
  refine ⟨fun pins s σ H Q I ⟨F, m, env, Qd, xc, r, en, a, q, k⟩ => ?_⟩
  refine wpAny_Call_Name_kw (ld_glob I hg hm ?_ hdb)
  refine callWith_G hkp hl hall ?_
  let R1 : List V → Hp → Prop := fun vs H1 => ∃ F1 m1 ds, Sub F F1 ∧ Rel X.K F1 m1 H1 ∧ EnvDen X.K F1 σ env ∧ Dens X.K F1 ds vs ∧ wk env m1 (fun es m2 => es.length = ks.length ∧ sp (ds ++ es) m2 Qd (fun x m' => xc x env m')) (fun x m' => xc x env m')
  have hA : tWA X wa σ H R1 := tWA.sub r en a q fun vs H1 F1 m1 ds s1 r1 en1 dn1 q1 => ⟨F1, m1, ds, s1, r1, en1, dn1, q1⟩
  refine thn (ha.run pos pins s σ H R1 I hA) fun us s1 ⟨vs, H1, I1, rv, F1, m1, ds, u1, r1, en1, dn1, q1⟩ => ?_
  let R2 : List V → Hp → Prop := fun zs H2 => ∃ F2 m2 es, Sub F1 F2 ∧ Rel X.K F2 m2 H2 ∧ EnvDen X.K F2 σ env ∧ Dens X.K F2 es zs ∧ es.length = ks.length ∧ sp (ds ++ es) m2 Qd (fun x m' => xc x env m')
  have hK : tWA X wk σ H1 R2 := tWA.sub r1 en1 (a.mono u1) q1 fun zs H2 F2 m2 es s2 r2 en2 dn2 q2 => ⟨F2, m2, es, s2, r2, en2, dn2, q2.1, q2.2⟩
  refine thn (hk.run pos pins s1 σ H1 R2 I1 hK) fun ws s2 ⟨zs, H2, I2, rz, F2, m2, es', u2, r2, en2, dn2, hlen, q2⟩ => ?_
  refine ⟨I2.kIn, ?_⟩
  rw [hks]
  have sp' := lift_call r2 en2 (a.mono (u1.trans u2)) ((dn1.mono u2).append dn2) q2 (Q := Q) (fun v H' F' m' d s => k v H' F' m' d ((u1.trans u2).trans s))
  refine wpAny_call (codeAny_mono (run X.A X.stack s2 H2 us ws _ Q _ hr I2.env0 (by rw [← rz.length, ← dn2.length]; exact hlen) (rv.append rz) sp') fun rr s' hq => ?_)
  cases rr with
  | error e => exact passes_max σ pins H2 s2 e s' I2 hq
  | ok fl =>
    cases fl with
    | ret u => exact I2.after hq
    | next => exact False.elim hq
    | brk => exact False.elim hq
    | cont => exact False.elim hq
end

/-! ### THE RULE for a def -/
def startD (N : List Str) (ds : List D) : En := ds.map some ++ List.replicate (N.length - ds.length) none
theorem start_den {K : Frag} {F : Hp} {N : List Str} {ds : List D} {vs : List V} (dn : Dens K F ds vs) : EnvDen K F (L2.start N vs) (startD N ds) := by
  have hl := dn.length
  refine ⟨by simp [L2.start, startD, hl], fun i d e => ?_⟩
  unfold startD at e
  by_cases hi : i < ds.length
  · rw [List.getElem?_append_left (by simpa using hi), List.getElem?_map] at e
    cases q : ds[i]? with
    | none => rw [q] at e; cases e
    | some x =>
      rw [q] at e; cases e
      obtain ⟨v, ev, dv⟩ := dn.get q
      refine ⟨v, ?_, dv⟩
      unfold L2.start
      rw [List.getElem?_append_left (by rw [List.length_map, ← hl]; exact hi), List.getElem?_map, ev]
      rfl
  · rw [List.getElem?_append_right (by simpa using hi), List.getElem?_replicate] at e
    split at e <;> cases e
/-- what a def's body is to reach: cells that were made within may be forgotten -/
def Dend (Q : Po) (E : Xo) : De := { nx := fun _ m' => ∃ m0, m0.le m' ∧ Q .non m0, rt := fun d m' => ∃ m0, m0.le m' ∧ Q d m0, xc := fun x _ m' => ∃ m0, m0.le m' ∧ E x m0 }
/-- the derivation of a body, whatever surrounds it -/
def Der (g : Bool) (P : Program) (w : World) (K : Frag) (mg : Str → Option Value) (base : Heap) (k : Nat) (N : List Str) (scope : Scope) (body : List Stmt) (wb : WS) : Prop :=
  ∀ (qual : Str) (f : Addr) (cdv : Value) (A : Around) (outer : List Env) (s : Shared) (H : Hp) (E : XK), Rm g k (A.deeper (PyProof.Rows.envOfC qual scope s.heap.objs.size f cdv)) →
    DSs (cxOf (CX P w) P w K mg base N qual scope f cdv A outer s H E) body wb
section
variable {g : Bool} {P : Program} {w : World} {K : Frag} {mg : Str → Option Value} {base : Heap} {k : Nat} {x qual : Str} {params : Arguments} {body : List Stmt} {scope : Scope} {dvs : List V} {kws : List (Str × V)} {f : Addr} {fd : FuncData} {N ps : List Str} {sp : SpD} {wb : WS}
theorem body_rule (der : Der g P w K mg base k N scope body wb) (spec : ∀ ds m Q E, sp ds m Q E → wb (Dend Q E) (startD N ds) m) {cdv : Value} {A : Around} {outer : List Env} {s : Shared} {H : Hp} {vs : List V} {Q : VK} {E : XK}
    (hr : Rm g k (A.deeper (PyProof.Rows.envOfC qual scope s.heap.objs.size f cdv))) (h : liftSp K sp vs H Q E) :
    ∃ t, PSs (cxOf (CX P w) P w K mg base N qual scope f cdv A outer s H E) body t ∧ t { nx := fun _ H' => Q .non H', rt := Q } (L2.start N vs) H := by
  obtain ⟨F, m, ds, QD, ED, r, dn, h, kq, ke⟩ := h
  refine ⟨_, der qual f cdv A outer s H E hr, F, m, startD N ds, Dend QD ED, r, start_den dn, ?_, spec _ _ _ _ h, ?_, ?_, ?_, ?_⟩
  · exact ⟨F, Sub.refl F, Takes.imp (takes_of rfl rfl rfl rfl) fun cls dd σ' H' ⟨F', m', env', y, s', r', en', xa, m0, hle, hE⟩ => ke cls dd H' F' m0 y s' (r'.le hle) xa hE⟩
  · exact fun σ' H' F' m' env' s r' en' ⟨m0, hle, q⟩ => kq _ H' F' m0 .non s (r'.le hle) (by simp only [Den]) q
  · exact fun σ' H' F' m' env' s r' en' q => q.elim
  · exact fun σ' H' F' m' env' s r' en' q => q.elim
  · exact fun v H' F' m' d s r' dn' ⟨m0, hle, q⟩ => kq v H' F' m0 d s (r'.le hle) dn' q
theorem fn_rule (F : FunD K x qual params body scope dvs kws f fd) (S : FnScope N ps scope) (hl : ∀ ds m Q E, sp ds m Q E → ds.length = ps.length) (der : Der false P w K mg base k N scope body wb)
    (spec : ∀ ds m Q E, sp ds m Q E → wb (Dend Q E) (startD N ds) m) : FnOk P w K mg base (CX P w) (k + 1) f fd ps (liftSp K sp) :=
  F.ok S (fun vs H Q E ⟨F, m, ds, QD, ED, r, dn, h, _⟩ => by rw [← dn.length]; exact hl _ _ _ _ h) fun cdv A outer s H vs Q E hr h => body_rule der spec ⟨hr, nofun⟩ h
/-- a choice by place -/
def sel {α : Type} (perm : List Nat) (l : List α) : List α := perm.filterMap (l[·]?)
theorem vals_get : ∀ {vs : List V} {us : List Value}, Vals vs us → ∀ i : Nat, (vs[i]? = none ∧ us[i]? = none) ∨ ∃ v u, vs[i]? = some v ∧ us[i]? = some u ∧ RelV v u
  | _, _, .nil, i => .inl ⟨by simp, by simp⟩
  | v :: vs, u :: us, .cons h t, 0 => .inr ⟨v, u, rfl, rfl, h⟩
  | v :: vs, u :: us, .cons h t, i + 1 => by
    rcases vals_get t i with ⟨a, b⟩ | ⟨v', u', a, b, c⟩
    · exact .inl ⟨by simpa using a, by simpa using b⟩
    · exact .inr ⟨v', u', by simpa using a, by simpa using b, c⟩
theorem sel_vals {vs : List V} {us : List Value} (r : Vals vs us) : ∀ perm : List Nat, Vals (sel perm vs) (sel perm us)
  | [] => .nil
  | i :: p => by
    have ih := sel_vals r p
    unfold sel at ih ⊢
    rw [List.filterMap_cons, List.filterMap_cons]
    rcases vals_get r i with ⟨a, b⟩ | ⟨v', u', a, b, c⟩
    · rw [a, b]; exact ih
    · rw [a, b]; exact .cons c ih
theorem sel_dens {K : Frag} {F : Hp} {ds : List D} {vs : List V} (r : Dens K F ds vs) : ∀ perm : List Nat, Dens K F (sel perm ds) (sel perm vs)
  | [] => Dens.nil
  | i :: p => by
    have ih := sel_dens r p
    unfold sel at ih ⊢
    rw [List.filterMap_cons, List.filterMap_cons]
    cases h1 : ds[i]? with
    | some d =>
      obtain ⟨v, e, dv⟩ := r.get h1
      rw [e]
      exact Dens.cons dv ih
    | none =>
      have e : vs[i]? = none := by rw [List.getElem?_eq_none_iff] at h1 ⊢; rw [← r.length]; exact h1
      rw [e]
      exact ih
/-- a def without *v as a promise of calls with n positional values and keywords ks; dds: values of the defaults -/
theorem Fn.of_ok (ok : FnOk P w K mg base (CX P w) k f fd ps (liftSp K sp)) (hm : mg x = some (.ref f)) (hk : PySem.W.keepIn K (.ref f) = true) (n : Nat) (ks : List Str) (perm : List Nat) (dds : List D) {ds0 : List Value} {dvs0 : List V} (hv : Vals dvs0 ds0) (hd : ∀ F, Dens K F dds dvs0)
    (hb : ∀ (s : Shared) (us ws : List Value), K.In s.heap → us.length = n → ws.length = ks.length → BindsTo s fd ⟨us, ks.zip ws⟩ (ps.zip (sel perm (us ++ ws ++ ds0)))) :
    Fn false P w K mg base k x ks (fun ds m Q E => ds.length = n + ks.length ∧ sp (sel perm (ds ++ dds)) m Q E) :=
  ⟨f, hm, hk, fun A outer s H us ws vs Q E hr e0 hl rv ⟨F, m, ds, QD, ED, r, dn, ⟨hn, h⟩, kq, ke⟩ => by
    have l1 := rv.length
    have l2 := dn.length
    rw [List.length_append] at l1
    exact ok.run A outer s H ⟨us, ks.zip ws⟩ _ (sel perm (vs ++ dvs0)) Q E hr.room e0 (hb s us ws (e0.mod.kin.keeps fun b o e => (e0.bs b o e).1) (by omega) hl) (sel_vals (rv.append hv) perm) ⟨F, m, _, QD, ED, r, sel_dens (dn.append (hd F)) perm, h, kq, ke⟩⟩
/-- the same, no defaults fill up -/
theorem Fn.of_ok0 (ok : FnOk P w K mg base (CX P w) k f fd ps (liftSp K sp)) (hm : mg x = some (.ref f)) (hk : PySem.W.keepIn K (.ref f) = true) (n : Nat) (ks : List Str) (perm : List Nat)
    (hb : ∀ (s : Shared) (us ws : List Value), K.In s.heap → us.length = n → ws.length = ks.length → BindsTo s fd ⟨us, ks.zip ws⟩ (ps.zip (sel perm (us ++ ws)))) :
    Fn false P w K mg base k x ks (fun ds m Q E => ds.length = n + ks.length ∧ sp (sel perm ds) m Q E) :=
  (Fn.of_ok ok hm hk n ks perm [] (ds0 := []) .nil (fun _ => Dens.nil) fun s us ws a b c => by rw [List.append_nil]; exact hb s us ws a b c).imp fun ds m Q E ⟨a, b⟩ => ⟨a, by rw [List.append_nil]; exact b⟩

/-! ### *v -/
def KwCh {α : Type} (D : Addr) : List (Str × Value) → Sem α → Sem α → Prop
  | [], t, r => t = r
  | q :: l, t, r => ∃ (β γ : Type) (k1 : Option Value → Sem β) (k2 : β → Sem γ) (k3 : γ → Sem α) (a : β), t = ((nsGet D q.1 >>= k1) >>= k2) >>= k3 ∧ k1 (some q.2) = pure a ∧ KwCh D l (k2 a >>= k3) r
theorem KwCh.wp {α : Type} {M : Model} {A : Around} {s : Shared} {Q : α → Shared → Prop} {E : Value → Shared → Prop} {D : Addr} (X : K.In s.heap) : ∀ {l : List (Str × Value)} {t r : Sem α}, (∀ q ∈ l, PySem.W.nsIn K D q.1 = some (some q.2)) → KwCh D l t r → wpAny M A r Q E s → wpAny M A t Q E s
  | [], t, r, _, e, h => by have e : t = r := e; rw [e]; exact h
  | q :: l, t, r, hl, ⟨β, γ, k1, k2, k3, a, e1, e2, e3⟩, h => by
    rw [e1, bind_assoc]
    refine wpAny_bind (wpAny_bind (PySem.W.Looks.here (PySem.W.looks_nsIn X (hl q (List.mem_cons_self ..))) ?_))
    rw [e2]
    refine wpAny_pure ?_
    exact KwCh.wp X (fun p hp => hl p (List.mem_cons_of_mem _ hp)) e3 h
/-- a def with *v: n positional parameters ahead, keywords ks -/
theorem fn_starD {pv : Str} (FD : FunD K x qual params body scope dvs kws f fd) (S : FnScope N (ps ++ [pv]) scope) (der : Der g P w K mg base k N scope body wb)
    (spec : ∀ ds m Q E, sp ds m Q E → wb (Dend Q E) (startD N ds) m) (hm : mg x = some (.ref f)) (n : Nat) (ks : List Str) (perm : List Nat) (dds : List D) {ds0 : List Value} {dvs0 : List V} (hv : Vals dvs0 ds0) (hd : ∀ F, Dens K F dds dvs0) (hp : ∀ l : List Value, l.length = n + ks.length + ds0.length → (sel perm l).length = ps.length)
    (hb : ∀ (s : Shared) (us rest ws : List Value), K.In s.heap → us.length = n → ws.length = ks.length → ∀ (M : Model) (A : Around) (E : Value → Shared → Prop) (Q : List (Str × Value) → Shared → Prop),
      wpAny M A (newTuple rest >>= fun t => pure (ps.zip (sel perm (us ++ ws ++ ds0)) ++ [(pv, t)])) Q E s → wpAny M A (bindArgs fd ⟨us ++ rest, ks.zip ws⟩) Q E s) :
    Fn g P w K mg base (k + 1) x ks (fun ds m Q E => ∃ as rest zs, ds = as ++ rest ++ zs ∧ as.length = n ∧ zs.length = ks.length ∧ rest.length ≤ sizeLine ∧ sp (sel perm (as ++ zs ++ dds) ++ [.tup rest]) m Q E) := by
  refine ⟨f, hm, FD.kp, fun A outer s H us ws vs Q E hr e0 hl rv ⟨F, m, ds, QD, ED, r, dn, ⟨as, rest, zs, eds, hn, hz, hsz, h⟩, kq, ke⟩ => ?_⟩
  obtain ⟨oc, od, dV, kV, doc, pm, an, cdv, ct, osl, rfl, lk, hcd, _, _⟩ := FD.ex
  subst eds
  -- the values, cut
  have lv : vs.length = us.length + ws.length := by rw [rv.length, List.length_append]
  have ld : vs.length = n + rest.length + zs.length := by rw [← dn.length, List.length_append, List.length_append, hn]
  have lu : us.length = n + rest.length := by omega
  have cutV : ∃ va vr vz, vs = va ++ vr ++ vz ∧ Dens K F as va ∧ Dens K F rest vr ∧ Dens K F zs vz := by
    have d1 := dn.take (as ++ rest).length
    have d2 := dn.drop (as ++ rest).length
    rw [List.take_left] at d1
    rw [List.drop_left] at d2
    have d3 := d1.take as.length
    have d4 := d1.drop as.length
    rw [List.take_left] at d3
    rw [List.drop_left] at d4
    exact ⟨_, _, _, by rw [List.take_append_drop, List.take_append_drop], d3, d4, d2⟩
  obtain ⟨va, vr, vz, rfl, da, dr, dz⟩ := cutV
  have la := da.length
  have lr := dr.length
  have lz := dz.length
  obtain ⟨u12, u3, eu, r12, r3⟩ := StX.vals_split rv
  obtain ⟨u1, u2, eu', r1, r2⟩ := StX.vals_split r12
  have eq1 : us = u12 ∧ ws = u3 := by
    refine List.append_inj eu ?_
    rw [← r12.length, List.length_append]; omega
  obtain ⟨rfl, rfl⟩ := eq1
  subst eu'
  have hfree : H s.heap.objs.size = Option.none := e0.hok.fresh (Nat.le_refl _)
  have hl1 : u1.length = n := by rw [← r1.length]; omega
  have hl2 : u2.length ≤ sizeLine := by rw [← r2.length]; omega
  have hz2 : vr.length ≤ sizeLine := by omega
  refine StX.run_bnd lk hcd S hr.room e0 (G := fun xs H2 => ∃ p, H p = Option.none ∧ xs = sel perm (va ++ vz ++ dvs0) ++ [V.ref p] ∧ H2 = upd H p (.tup vr)) (fun A' Ex Q' hh => ?_) fun s2 H2 xs ⟨p, hp, ex, eH⟩ hr' => ?_
  · refine hb s u1 u2 ws (e0.mod.kin.keeps fun b o e => (e0.bs b o e).1) hl1 hl _ _ _ _ ?_
    refine wpAny_bind (wpAny_newTuple (wpAny_pure ?_) hl2)
    have new : ObjOk P w (upd H s.heap.objs.size (.tup vr)) (s.heap.push ({ cls := .type "tuple", data := .seq u2.toArray } : Obj)) s.heap.objs.size (.tup vr) := ⟨hz2, u2, r2, ⟨_, Heap.get?_push_size _ rfl, rfl, _, rfl⟩⟩
    have un := StX.un_laid (fs := frs outer) (s := s) (o := ({ cls := .type "tuple", data := .seq u2.toArray } : Obj)) (u := .tup vr) hfree
    have rel : Vals (sel perm (va ++ vz ++ dvs0)) (sel perm (u1 ++ ws ++ ds0)) := sel_vals ((r1.append r3).append hv) perm
    have hpl : (sel perm (u1 ++ ws ++ ds0)).length = ps.length := hp _ (by rw [List.length_append, List.length_append, hl1, hl])
    have z := hh _ _ (sel perm (va ++ vz ++ dvs0) ++ [V.ref s.heap.objs.size]) (sel perm (u1 ++ ws ++ ds0) ++ [Value.ref s.heap.objs.size]) (StX.env0_laid e0 new) un rfl (fun e s' => StX.cxUp outer s H _ _ E e s' un (fun b o q => Heap.get?_push_of_some _ q) rfl) (rel.append (.cons rfl .nil))
      (by rw [List.length_append, List.length_append, rel.length, hpl] <;> rfl) ⟨_, hfree, rfl, rfl⟩
    rw [List.zip_append hpl.symm] at z
    exact z
  · subst ex eH
    obtain ⟨r', s'⟩ := r.frozen (o := .tup vr) hp
    refine body_rule der spec ⟨hr', hr.gd⟩ ⟨_, m, _, QD, ED, r', ?_, h, fun v H' F' m' d s => kq v H' F' m' d (s'.trans s), fun cls dd H' F' m' y s => ke cls dd H' F' m' y (s'.trans s)⟩
    refine (sel_dens (((da.append dz).append (hd F)).mono s') perm).append (Dens.one ?_)
    simp only [Den]
    exact ⟨p, vr, rfl, .inl (.inl upd_same), dr.mono s'⟩
end
end DL

/-! D8: dicts with ints and texts as keys. -/
namespace DL
open PySem PySem.Spec L2

section
variable {κ : Type} [DecidableEq κ]
def valD (kvs : List (κ × D)) (k : κ) : Option D := (kvs.find? fun kv => decide (kv.1 = k)).map (·.2)
def putD (kvs : List (κ × D)) (k : κ) (v : D) : List (κ × D) :=
  if (kvs.any fun kv => decide (kv.1 = k)) = true then kvs.map (fun kv => if kv.1 = k then (kv.1, v) else kv) else kvs ++ [(k, v)]
def dropD (kvs : List (κ × D)) (k : κ) : List (κ × D) := kvs.filter fun kv => decide (kv.1 ≠ k)
theorem valD_nil {k : κ} : valD ([] : List (κ × D)) k = none := rfl
theorem valD_pos {p : κ × D} {r : List (κ × D)} {k : κ} (e : p.1 = k) : valD (p :: r) k = some p.2 := by simp [valD, List.find?_cons, e]
theorem valD_neg {p : κ × D} {r : List (κ × D)} {k : κ} (e : ¬ p.1 = k) : valD (p :: r) k = valD r k := by simp [valD, List.find?_cons, e]
theorem valD_any (k : κ) : ∀ kvs : List (κ × D), (kvs.any fun kv => decide (kv.1 = k)) = (valD kvs k).isSome
  | [] => rfl
  | p :: r => by
    rw [List.any_cons]
    by_cases e : p.1 = k
    · simp only [valD_pos e, decide_eq_true e, Bool.true_or, Option.isSome_some]
    · rw [valD_neg e, decide_eq_false e, Bool.false_or]; exact valD_any k r
theorem putD_new {kvs : List (κ × D)} {k : κ} {v : D} (h : valD kvs k = none) : putD kvs k v = kvs ++ [(k, v)] := by
  unfold putD
  rw [valD_any, h]; rfl
theorem valD_snoc (k j : κ) (y : D) : ∀ kvs : List (κ × D), valD kvs k = none → valD (kvs ++ [(k, y)]) j = if j = k then some y else valD kvs j
  | [], _ => by
    by_cases e : k = j
    · rw [if_pos e.symm]; exact valD_pos (p := (k, y)) e
    · rw [if_neg (fun z => e z.symm)]; exact valD_neg (p := (k, y)) e
  | p :: r, hn => by
    rw [List.cons_append]
    by_cases h : p.1 = k
    · rw [valD_pos h] at hn; cases hn
    · rw [valD_neg h] at hn
      have ih := valD_snoc k j y r hn
      by_cases h2 : p.1 = j
      · rw [valD_pos h2, valD_pos h2, if_neg (fun z => h (h2.trans z))]
      · rw [valD_neg h2, valD_neg h2]; exact ih
theorem valD_map (k j : κ) (y : D) : ∀ kvs : List (κ × D), valD (kvs.map fun kv => if kv.1 = k then (kv.1, y) else kv) j = (valD kvs j).map fun x => if j = k then y else x
  | [] => rfl
  | p :: r => by
    have ih := valD_map k j y r
    rw [List.map_cons]
    by_cases h : p.1 = k
    · rw [if_pos h]
      by_cases h2 : p.1 = j
      · rw [valD_pos (p := (p.1, y)) h2, valD_pos h2]
        simp [h2 ▸ h]
      · rw [valD_neg (p := (p.1, y)) h2, valD_neg h2]; exact ih
    · rw [if_neg h]
      by_cases h2 : p.1 = j
      · rw [valD_pos h2, valD_pos h2, Option.map_some, if_neg (fun z => h (h2.trans z))]
      · rw [valD_neg h2, valD_neg h2]; exact ih
theorem valD_put (kvs : List (κ × D)) (k j : κ) (y : D) : valD (putD kvs k y) j = if j = k then some y else valD kvs j := by
  cases h : valD kvs k with
  | none => rw [putD_new h]; exact valD_snoc k j y kvs h
  | some x =>
    unfold putD
    rw [if_pos (by rw [valD_any, h]; rfl), valD_map]
    by_cases e : j = k
    · rw [if_pos e, e, h]; simp
    · rw [if_neg e]
      cases valD kvs j <;> simp [e]
variable {K : Frag} {F : Hp}
theorem valD_den {k : κ} : ∀ {ps : List (κ × D)} {qs : List (κ × V)}, DenP K F ps qs → (valD ps k = none ∧ valV qs k = none) ∨ ∃ d v, valD ps k = some d ∧ valV qs k = some v ∧ Den K F d v
  | _, _, .nil => .inl ⟨rfl, rfl⟩
  | (a, b) :: _, (a', b') :: _, .cons ⟨h1, h2⟩ t => by
    have h1 : a = a' := h1
    subst h1
    by_cases e : a = k
    · exact .inr ⟨b, b', valD_pos e, valV_pos e, h2⟩
    · rw [valD_neg e, valV_neg e]; exact valD_den t
theorem putD_den {k : κ} {d : D} {v : V} (dn : Den K F d v) {ps : List (κ × D)} {qs : List (κ × V)} (h : DenP K F ps qs) : DenP K F (putD ps k d) (putK qs k v) := by
  have mp : ∀ {ps : List (κ × D)} {qs : List (κ × V)}, DenP K F ps qs → DenP K F (ps.map fun kv => if kv.1 = k then (kv.1, d) else kv) (qs.map fun kv => if kv.1 = k then (kv.1, v) else kv) := by
    intro ps qs h
    induction h with
    | nil => exact .nil
    | @cons p q ps qs hq t ih =>
      obtain ⟨h1, h2⟩ := hq
      rw [List.map_cons, List.map_cons]
      refine .cons ?_ ih
      by_cases e : p.1 = k
      · rw [if_pos e, if_pos (h1.symm.trans e)]; exact ⟨h1, dn⟩
      · rw [if_neg e, if_neg (fun z => e (h1.trans z))]; exact ⟨h1, h2⟩
  have sn : ∀ {ps : List (κ × D)} {qs : List (κ × V)}, DenP K F ps qs → DenP K F (ps ++ [(k, d)]) (qs ++ [(k, v)]) := by
    intro ps qs h
    induction h with
    | nil => exact .cons ⟨rfl, dn⟩ .nil
    | cons hq t ih => exact .cons hq ih
  unfold putD putK
  rw [valD_any, valV_any]
  rcases valD_den (k := k) h with ⟨a, b⟩ | ⟨_, _, a, b, _⟩
  · rw [a, b]; exact sn h
  · rw [a, b]; exact mp h
theorem dropD_den {k : κ} {ps : List (κ × D)} {qs : List (κ × V)} (h : DenP K F ps qs) : DenP K F (dropD ps k) (dropK qs k) := by
  unfold dropD dropK
  induction h with
  | nil => exact .nil
  | @cons p q ps qs hq t ih =>
    obtain ⟨h1, h2⟩ := hq
    rw [List.filter_cons, List.filter_cons]
    by_cases e : p.1 = k
    · have e2 : q.1 = k := h1.symm.trans e
      simp only [e, e2, ne_eq, not_true, decide_false]; exact ih
    · have e2 : ¬ q.1 = k := fun z => e (h1.trans z)
      simp only [e, e2, ne_eq, not_false_iff, decide_true, if_true]
      exact .cons ⟨h1, h2⟩ ih
end

def keyD : D → Option Key
  | .int i => some (.inl i)
  | .str x => some (.inr x)
  | _ => none
@[simp] theorem keyD_str {x : Str} : keyD (.str x) = some (.inr x) := rfl
@[simp] theorem keyD_int {i : Int} : keyD (.int i) = some (.inl i) := rfl
theorem keyD_den {K : Frag} {F : Hp} {d : D} {v : V} {k : Key} (dn : Den K F d v) (e : keyD d = some k) : v = kV k := by
  cases d <;> simp only [keyD] at e <;> first | cases e | skip
  all_goals (simp only [Den] at dn; exact dn)
/-- a dict, by its address -/
def dctOf (m : Mem) : D → Option (List (Key × D))
  | .ref p => match m p with
    | some (.dct kvs) => some kvs
    | _ => none
  | _ => none
theorem dctOf_ref {m : Mem} {p : Addr} {kvs : List (Key × D)} (h : m p = some (.dct kvs)) : dctOf m (.ref p) = some kvs := by simp [dctOf, h]
theorem dctOf_some {m : Mem} {d : D} {kvs : List (Key × D)} (h : dctOf m d = some kvs) : ∃ p, d = .ref p ∧ m p = some (.dct kvs) := by
  cases d <;> simp only [dctOf] at h <;> first | cases h | skip
  rename_i p
  cases e : m p with
  | none => rw [e] at h; cases h
  | some c =>
    rw [e] at h
    cases c <;> first | cases h | skip
    exact ⟨p, rfl, e⟩
theorem Rel.dct {K : Frag} {F : Hp} {m : Mem} {H : Hp} (r : Rel K F m H) {d : D} {v : V} {kvs : List (Key × D)} (dn : Den K F d v) (e : dctOf m d = some kvs) : ∃ p qs, d = .ref p ∧ v = .ref p ∧ m p = some (.dct kvs) ∧ H p = some (.dK qs) ∧ DenP K F kvs qs := by
  obtain ⟨p, rfl, h⟩ := dctOf_some e
  simp only [Den] at dn
  obtain ⟨_, q⟩ := r.me p _ h
  simp only [CellOk] at q
  obtain ⟨qs, h1, h2⟩ := q
  exact ⟨p, qs, rfl, dn, h, h1, h2⟩
section
variable {X : Cx}
def wDNew : WE := fun _ m Q _ => ∀ p, m p = none → Q (.ref p) (m.put p (.dct []))
theorem ddnew {pos : Pos} : DE X (.Dict [] [] pos) wDNew := wkE pe_dnewK fun σ H Q ⟨F, m, env, Qd, xc, r, en, a, q, k⟩ => fun p hp =>
  k _ _ F _ (.ref p) (Sub.refl F) (r.fresh hp (c := .dct []) (by simp only [CellOk]; exact ⟨[], upd_same, .nil⟩)) (by simp only [Den]) (q p (r.free hp).2)
def dgetD : WO := fun x y m Q _ => ∃ kvs k d, dctOf m x = some kvs ∧ keyD y = some k ∧ valD kvs k = some d ∧ Q d m
theorem ddget {a b : Expr} {pos : Pos} {wa wb : WE} (hu : X.A.units + 64 < cLine) (ha : DE X a wa) (hb : DE X b wb) (hs : NoSl b := by exact fun _ _ => rfl) : DE X (.Subscript a b pos) (wBin dgetD wa wb) :=
  wkE (pe_dget (Nat.lt_of_le_of_lt (by omega) hu) ha hb hs) fun σ H Q ⟨F, m, env, Qd, xc, r0, en, a, q, k⟩ =>
    tW.sub r0 en a q fun v1 H1 F1 m1 d1 s1 r1 en1 dn1 q1 => tW.sub r1 en1 (a.mono s1) q1 fun v2 H2 F2 m2 d2 s2 r2 en2 dn2 ⟨kvs, kk, d, e1, e2, e3, q2⟩ => by
      obtain ⟨p, qs, _, rfl, _, hp, dp⟩ := r2.dct (dn1.mono s2) e1
      rcases valD_den (k := kk) dp with ⟨z, _⟩ | ⟨d', v', a1, a2, a3⟩
      · rw [z] at e3; cases e3
      · rw [a1] at e3; cases e3
        exact ⟨p, v', rfl, .inl ⟨qs, kk, .inl hp, keyD_den dn2 e2, a2.symm⟩, k v' H2 F2 m2 _ (s1.trans s2) r2 a3 q2⟩
def dinD : WO := fun x y m Q _ => ∃ kvs k, dctOf m y = some kvs ∧ keyD x = some k ∧ Q (.bl (valD kvs k).isSome) m
def dninD : WO := fun x y m Q _ => ∃ kvs k, dctOf m y = some kvs ∧ keyD x = some k ∧ Q (.bl (!(valD kvs k).isSome)) m
theorem valD_isSome {K : Frag} {F : Hp} {k : Key} {ps : List (Key × D)} {qs : List (Key × V)} (h : DenP K F ps qs) : (valV qs k).isSome = (valD ps k).isSome := by
  rcases valD_den (k := k) h with ⟨a, b⟩ | ⟨_, _, a, b, _⟩ <;> rw [a, b] <;> rfl
theorem ddin {a b : Expr} {pos : Pos} {wa wb : WE} (hu : X.A.units + 64 < cLine) (ha : DE X a wa) (hb : DE X b wb) (hm : behindInMarks .In b = false := by rfl) : DE X (.Compare a [.In] [b] pos) (wBin dinD wa wb) :=
  wkE (pe_cmp (pc_din (Nat.lt_of_le_of_lt (by omega) hu) ha hb) hm) fun σ H Q ⟨F, m, env, Qd, xc, r0, en, a, q, k⟩ =>
    tW.sub r0 en a q fun v1 H1 F1 m1 d1 s1 r1 en1 dn1 q1 => tW.sub r1 en1 (a.mono s1) q1 fun v2 H2 F2 m2 d2 s2 r2 en2 dn2 ⟨kvs, kk, e1, e2, q2⟩ => by
      obtain ⟨p, qs, _, rfl, _, hp, dp⟩ := r2.dct dn2 e1
      refine ⟨p, valV qs kk, rfl, .inl ⟨qs, kk, .inl hp, keyD_den (dn1.mono s2) e2, rfl⟩, ?_⟩
      rw [valD_isSome dp]
      exact k _ H2 F2 m2 _ (s1.trans s2) r2 (by simp only [Den]) q2
theorem ddinT {a b : Expr} {pos : Pos} {wa wb : WE} (hu : X.A.units + 64 < cLine) (ha : DE X a wa) (hb : DE X b wb) (hm : behindInMarks .In b = false := by rfl) : DT X (.Compare a [.In] [b] pos) (wTruB (wBin dinD wa wb)) :=
  wkT (pt_cmp (pc_din (Nat.lt_of_le_of_lt (by omega) hu) ha hb) hm) fun σ H Q ⟨F, m, env, Qd, xc, r0, en, a, q, k⟩ =>
    tW.sub r0 en a q fun v1 H1 F1 m1 d1 s1 r1 en1 dn1 q1 => tW.sub r1 en1 (a.mono s1) q1 fun v2 H2 F2 m2 d2 s2 r2 en2 dn2 ⟨kvs, kk, e1, e2, q2⟩ => by
      obtain ⟨p, qs, _, rfl, _, hp, dp⟩ := r2.dct dn2 e1
      refine ⟨p, valV qs kk, rfl, .inl ⟨qs, kk, .inl hp, keyD_den (dn1.mono s2) e2, rfl⟩, ?_⟩
      rw [valD_isSome dp]
      exact ⟨_, rfl, k _ H2 F2 m2 (s1.trans s2) r2 q2⟩
theorem ddnin {a b : Expr} {pos : Pos} {wa wb : WE} (hu : X.A.units + 64 < cLine) (ha : DE X a wa) (hb : DE X b wb) (hm : behindInMarks .NotIn b = false := by rfl) : DE X (.Compare a [.NotIn] [b] pos) (wBin dninD wa wb) :=
  wkE (pe_cmp (pc_dnotin (Nat.lt_of_le_of_lt (by omega) hu) ha hb) hm) fun σ H Q ⟨F, m, env, Qd, xc, r0, en, a, q, k⟩ =>
    tW.sub r0 en a q fun v1 H1 F1 m1 d1 s1 r1 en1 dn1 q1 => tW.sub r1 en1 (a.mono s1) q1 fun v2 H2 F2 m2 d2 s2 r2 en2 dn2 ⟨kvs, kk, e1, e2, q2⟩ => by
      obtain ⟨p, qs, _, rfl, _, hp, dp⟩ := r2.dct dn2 e1
      refine ⟨p, valV qs kk, rfl, .inl ⟨qs, kk, .inl hp, keyD_den (dn1.mono s2) e2, rfl⟩, ?_⟩
      rw [valD_isSome dp]
      exact k _ H2 F2 m2 _ (s1.trans s2) r2 (by simp only [Den]) q2
theorem ddninT {a b : Expr} {pos : Pos} {wa wb : WE} (hu : X.A.units + 64 < cLine) (ha : DE X a wa) (hb : DE X b wb) (hm : behindInMarks .NotIn b = false := by rfl) : DT X (.Compare a [.NotIn] [b] pos) (wTruB (wBin dninD wa wb)) :=
  wkT (pt_cmp (pc_dnotin (Nat.lt_of_le_of_lt (by omega) hu) ha hb) hm) fun σ H Q ⟨F, m, env, Qd, xc, r0, en, a, q, k⟩ =>
    tW.sub r0 en a q fun v1 H1 F1 m1 d1 s1 r1 en1 dn1 q1 => tW.sub r1 en1 (a.mono s1) q1 fun v2 H2 F2 m2 d2 s2 r2 en2 dn2 ⟨kvs, kk, e1, e2, q2⟩ => by
      obtain ⟨p, qs, _, rfl, _, hp, dp⟩ := r2.dct dn2 e1
      refine ⟨p, valV qs kk, rfl, .inl ⟨qs, kk, .inl hp, keyD_den (dn1.mono s2) e2, rfl⟩, ?_⟩
      rw [valD_isSome dp]
      exact ⟨_, rfl, k _ H2 F2 m2 (s1.trans s2) r2 q2⟩
def sDput (wo wi wv : WE) : WS := fun Z env m => wv env m (fun d m1 => wo env m1 (fun o m2 => wi env m2 (fun i m3 => ∃ p kvs k, o = .ref p ∧ m3 p = some (.dct kvs) ∧ keyD i = some k ∧ kvs.length < sizeLine ∧ Z.nx env (m3.put p (.dct (putD kvs k d)))) (fun x m' => Z.xc x env m')) (fun x m' => Z.xc x env m')) (fun x m' => Z.xc x env m')
theorem ddput {o i e : Expr} {pos' pos : Pos} {wo wi wv : WE} (hu : X.A.units + 64 < cLine) (ho : DE X o wo) (hi : DE X i wi) (hv : DE X e wv) (hs : swapsWith e (some (.Subscript o i pos')) pos.line X.env = pure false := by rfl) :
    DS X (.Assign [.Subscript o i pos'] e pos) (sDput wo wi wv) := wkS (ps_dput (Nat.lt_of_le_of_lt (by omega) hu) ho hi hv hs) fun D σ H ⟨F, m, env, E, r, en, a, q, n, b, c, t⟩ =>
  tW.sub r en a q fun v1 H1 F1 m1 d1 s1 r1 en1 dn1 q1 => tW.sub r1 en1 (a.mono s1) q1 fun v2 H2 F2 m2 d2 s2 r2 en2 dn2 q2 => tW.sub r2 en2 (a.mono (s1.trans s2)) q2 fun v3 H3 F3 m3 d3 s3 r3 en3 dn3 ⟨p, kvs, kk, eo, e1, e2, hz, q3⟩ => by
    subst eo
    obtain ⟨p', qs, e', rfl, hp, hq, dp⟩ := r3.dct (dn2.mono s3) (dctOf_ref e1)
    cases e'
    refine ⟨p, _, rfl, .inl ⟨qs, kk, hq, keyD_den dn3 e2, by rw [← Paired.length dp]; exact hz, rfl⟩, n σ _ F3 _ env ((s1.trans s2).trans s3) (r3.store e1 ?_) en3 q3⟩
    simp only [CellOk]
    exact ⟨_, upd_same, putD_den (dn1.mono (s2.trans s3)) dp⟩
def sDdel (wo wi : WE) : WS := fun Z env m => wo env m (fun o m2 => wi env m2 (fun i m3 => ∃ p kvs k, o = .ref p ∧ m3 p = some (.dct kvs) ∧ keyD i = some k ∧ (valD kvs k).isSome = true ∧ Z.nx env (m3.put p (.dct (dropD kvs k)))) (fun x m' => Z.xc x env m')) (fun x m' => Z.xc x env m')
theorem dddel {o i : Expr} {tpos pos : Pos} {wo wi : WE} (ho : DE X o wo) (hi : DE X i wi) : DS X (.Delete [.Subscript o i tpos] pos) (sDdel wo wi) := wkS (ps_ddel ho hi) fun D σ H ⟨F, m, env, E, r, en, a, q, n, b, c, t⟩ =>
  tW.sub r en a q fun v2 H2 F2 m2 d2 s2 r2 en2 dn2 q2 => tW.sub r2 en2 (a.mono s2) q2 fun v3 H3 F3 m3 d3 s3 r3 en3 dn3 ⟨p, kvs, kk, eo, e1, e2, hz, q3⟩ => by
    subst eo
    obtain ⟨p', qs, e', rfl, hp, hq, dp⟩ := r3.dct (dn2.mono s3) (dctOf_ref e1)
    cases e'
    refine ⟨p, qs, kk, rfl, hq, keyD_den dn3 e2, by rw [valD_isSome dp]; exact hz, n σ _ F3 _ env (s2.trans s3) (r3.store e1 ?_) en3 q3⟩
    simp only [CellOk]
    exact ⟨_, upd_same, dropD_den dp⟩
end
end DL

/-! D9 (printed by mkD9.py): readings evaluated by simp; loops, calls, comprehensions stay shut. -/
namespace DL
open PySem PySem.Spec L2

/-- x is left as it is by simp -dsimp -/
inductive Tag {α : Type} (x : α) : Type
  | mk
/-- o gives something, and Q holds of it -/
def Is {α : Type} (o : Option α) (Q : α → Prop) (t : Tag Q) : Prop := ∃ x, o = some x ∧ Q x
@[simp] theorem Is_some {α : Type} {x : α} {Q : α → Prop} {t : Tag Q} : Is (some x) Q t = Q x := by simp [Is]
theorem Is.intro {α : Type} {o : Option α} {Q : α → Prop} {t : Tag Q} {x : α} (h : o = some x) (q : Q x) : Is o Q t := ⟨x, h, q⟩
def De.next (D : De) (n : En → Mem → Prop) : De := { D with nx := n }
def De.loop (D : De) (n : En → Mem → Prop) : De := { D with nx := n, ct := n, bk := D.nx }
section
variable {D : De} {n : En → Mem → Prop}
@[simp ↓] theorem next_nx : (D.next n).nx = n := rfl
@[simp ↓] theorem next_rt : (D.next n).rt = D.rt := rfl
@[simp ↓] theorem next_bk : (D.next n).bk = D.bk := rfl
@[simp ↓] theorem next_ct : (D.next n).ct = D.ct := rfl
@[simp ↓] theorem next_xc : (D.next n).xc = D.xc := rfl
@[simp ↓] theorem loop_nx : (D.loop n).nx = n := rfl
@[simp ↓] theorem loop_rt : (D.loop n).rt = D.rt := rfl
@[simp ↓] theorem loop_bk : (D.loop n).bk = D.nx := rfl
@[simp ↓] theorem loop_ct : (D.loop n).ct = n := rfl
@[simp ↓] theorem loop_xc : (D.loop n).xc = D.xc := rfl
end
/-- what comes later: shut until it is reached -/
def Later (b : WS) (D : De) : En → Mem → Prop := b D
@[simp ↓] theorem Later_ev {b : WS} {D : De} {env : En} {m : Mem} : Later b D env m = b D env m := rfl
def Br (a b : WS) (D : De) (env : En) : Bool → Mem → Prop := fun k m => if k = true then a D env m else b D env m
@[simp ↓] theorem Br_t {a b : WS} {D : De} {env : En} {m : Mem} : Br a b D env true m = a D env m := rfl
@[simp ↓] theorem Br_f {a b : WS} {D : De} {env : En} {m : Mem} : Br a b D env false m = b D env m := rfl
theorem Br_dec {a b : WS} {D : De} {env : En} {m : Mem} {p : Prop} [Decidable p] : Br a b D env (decide p) m ↔ (p → a D env m) ∧ (¬ p → b D env m) := by
  by_cases h : p <;> simp [h]
theorem Br_ndec {a b : WS} {D : De} {env : En} {m : Mem} {p : Prop} [Decidable p] : Br a b D env (!decide p) m ↔ (¬ p → a D env m) ∧ (p → b D env m) := by
  by_cases h : p <;> simp [h]
theorem Br_any {a b : WS} {D : De} {env : En} {m : Mem} {k : Bool} : Br a b D env k m ↔ (k = true → a D env m) ∧ (k = false → b D env m) := by
  cases k <;> simp
/-- a def's promise, shut -/
def App (sp : SpD) (ds : List D) (m : Mem) (Q : Po) (E : Xo) (t : Tag Q) : Prop := sp ds m Q E
theorem App.intro {sp : SpD} {ds : List D} {m : Mem} {Q : Po} {E : Xo} {t : Tag Q} (h : sp ds m Q E) : App sp ds m Q E t := h
theorem lst_iff {m : Mem} {p : Addr} {xs : List D} : lstOf m (.ref p) = some xs ↔ m p = some (.lst xs) := by
  simp only [lstOf]
  constructor
  · intro h
    cases e : m p with
    | none => rw [e] at h; cases h
    | some c => rw [e] at h; cases c <;> first | (cases h; done) | (cases h; rfl)
  · intro h; rw [h]
theorem dct_iff {m : Mem} {p : Addr} {xs : List (Key × D)} : dctOf m (.ref p) = some xs ↔ m p = some (.dct xs) := by
  simp only [dctOf]
  constructor
  · intro h
    cases e : m p with
    | none => rw [e] at h; cases h
    | some c => rw [e] at h; cases c <;> first | (cases h; done) | (cases h; rfl)
  · intro h; rw [h]
/-! ### expressions -/
@[simp ↓] theorem ev_C {d : D} {env : En} {m : Mem} {Q : Po} {E : Xo} : wC d env m Q E = Q d m := rfl
@[simp ↓] theorem var_0 {d : D} {r : En} {m : Mem} {Q : Po} {E : Xo} : wVar 0 (some d :: r) m Q E = Q d m := by simp [wVar]
@[simp ↓] theorem gn_0 {d : D} {x : Option D} {r : En} {m : Mem} {Q : En → Mem → Prop} : gN 0 d (x :: r) m Q = Q (some d :: r) m := rfl
@[simp ↓] theorem var_1 {x0 : Option D} {d : D} {r : En} {m : Mem} {Q : Po} {E : Xo} : wVar 1 (x0 :: some d :: r) m Q E = Q d m := by simp [wVar]
@[simp ↓] theorem gn_1 {x0 : Option D} {d : D} {x : Option D} {r : En} {m : Mem} {Q : En → Mem → Prop} : gN 1 d (x0 :: x :: r) m Q = Q (x0 :: some d :: r) m := rfl
@[simp ↓] theorem var_2 {x0 x1 : Option D} {d : D} {r : En} {m : Mem} {Q : Po} {E : Xo} : wVar 2 (x0 :: x1 :: some d :: r) m Q E = Q d m := by simp [wVar]
@[simp ↓] theorem gn_2 {x0 x1 : Option D} {d : D} {x : Option D} {r : En} {m : Mem} {Q : En → Mem → Prop} : gN 2 d (x0 :: x1 :: x :: r) m Q = Q (x0 :: x1 :: some d :: r) m := rfl
@[simp ↓] theorem var_3 {x0 x1 x2 : Option D} {d : D} {r : En} {m : Mem} {Q : Po} {E : Xo} : wVar 3 (x0 :: x1 :: x2 :: some d :: r) m Q E = Q d m := by simp [wVar]
@[simp ↓] theorem gn_3 {x0 x1 x2 : Option D} {d : D} {x : Option D} {r : En} {m : Mem} {Q : En → Mem → Prop} : gN 3 d (x0 :: x1 :: x2 :: x :: r) m Q = Q (x0 :: x1 :: x2 :: some d :: r) m := rfl
@[simp ↓] theorem var_4 {x0 x1 x2 x3 : Option D} {d : D} {r : En} {m : Mem} {Q : Po} {E : Xo} : wVar 4 (x0 :: x1 :: x2 :: x3 :: some d :: r) m Q E = Q d m := by simp [wVar]
@[simp ↓] theorem gn_4 {x0 x1 x2 x3 : Option D} {d : D} {x : Option D} {r : En} {m : Mem} {Q : En → Mem → Prop} : gN 4 d (x0 :: x1 :: x2 :: x3 :: x :: r) m Q = Q (x0 :: x1 :: x2 :: x3 :: some d :: r) m := rfl
@[simp ↓] theorem var_5 {x0 x1 x2 x3 x4 : Option D} {d : D} {r : En} {m : Mem} {Q : Po} {E : Xo} : wVar 5 (x0 :: x1 :: x2 :: x3 :: x4 :: some d :: r) m Q E = Q d m := by simp [wVar]
@[simp ↓] theorem gn_5 {x0 x1 x2 x3 x4 : Option D} {d : D} {x : Option D} {r : En} {m : Mem} {Q : En → Mem → Prop} : gN 5 d (x0 :: x1 :: x2 :: x3 :: x4 :: x :: r) m Q = Q (x0 :: x1 :: x2 :: x3 :: x4 :: some d :: r) m := rfl
@[simp ↓] theorem var_6 {x0 x1 x2 x3 x4 x5 : Option D} {d : D} {r : En} {m : Mem} {Q : Po} {E : Xo} : wVar 6 (x0 :: x1 :: x2 :: x3 :: x4 :: x5 :: some d :: r) m Q E = Q d m := by simp [wVar]
@[simp ↓] theorem gn_6 {x0 x1 x2 x3 x4 x5 : Option D} {d : D} {x : Option D} {r : En} {m : Mem} {Q : En → Mem → Prop} : gN 6 d (x0 :: x1 :: x2 :: x3 :: x4 :: x5 :: x :: r) m Q = Q (x0 :: x1 :: x2 :: x3 :: x4 :: x5 :: some d :: r) m := rfl
@[simp ↓] theorem var_7 {x0 x1 x2 x3 x4 x5 x6 : Option D} {d : D} {r : En} {m : Mem} {Q : Po} {E : Xo} : wVar 7 (x0 :: x1 :: x2 :: x3 :: x4 :: x5 :: x6 :: some d :: r) m Q E = Q d m := by simp [wVar]
@[simp ↓] theorem gn_7 {x0 x1 x2 x3 x4 x5 x6 : Option D} {d : D} {x : Option D} {r : En} {m : Mem} {Q : En → Mem → Prop} : gN 7 d (x0 :: x1 :: x2 :: x3 :: x4 :: x5 :: x6 :: x :: r) m Q = Q (x0 :: x1 :: x2 :: x3 :: x4 :: x5 :: x6 :: some d :: r) m := rfl
@[simp ↓] theorem var_8 {x0 x1 x2 x3 x4 x5 x6 x7 : Option D} {d : D} {r : En} {m : Mem} {Q : Po} {E : Xo} : wVar 8 (x0 :: x1 :: x2 :: x3 :: x4 :: x5 :: x6 :: x7 :: some d :: r) m Q E = Q d m := by simp [wVar]
@[simp ↓] theorem gn_8 {x0 x1 x2 x3 x4 x5 x6 x7 : Option D} {d : D} {x : Option D} {r : En} {m : Mem} {Q : En → Mem → Prop} : gN 8 d (x0 :: x1 :: x2 :: x3 :: x4 :: x5 :: x6 :: x7 :: x :: r) m Q = Q (x0 :: x1 :: x2 :: x3 :: x4 :: x5 :: x6 :: x7 :: some d :: r) m := rfl
@[simp ↓] theorem var_9 {x0 x1 x2 x3 x4 x5 x6 x7 x8 : Option D} {d : D} {r : En} {m : Mem} {Q : Po} {E : Xo} : wVar 9 (x0 :: x1 :: x2 :: x3 :: x4 :: x5 :: x6 :: x7 :: x8 :: some d :: r) m Q E = Q d m := by simp [wVar]
@[simp ↓] theorem gn_9 {x0 x1 x2 x3 x4 x5 x6 x7 x8 : Option D} {d : D} {x : Option D} {r : En} {m : Mem} {Q : En → Mem → Prop} : gN 9 d (x0 :: x1 :: x2 :: x3 :: x4 :: x5 :: x6 :: x7 :: x8 :: x :: r) m Q = Q (x0 :: x1 :: x2 :: x3 :: x4 :: x5 :: x6 :: x7 :: x8 :: some d :: r) m := rfl
@[simp ↓] theorem var_10 {x0 x1 x2 x3 x4 x5 x6 x7 x8 x9 : Option D} {d : D} {r : En} {m : Mem} {Q : Po} {E : Xo} : wVar 10 (x0 :: x1 :: x2 :: x3 :: x4 :: x5 :: x6 :: x7 :: x8 :: x9 :: some d :: r) m Q E = Q d m := by simp [wVar]
@[simp ↓] theorem gn_10 {x0 x1 x2 x3 x4 x5 x6 x7 x8 x9 : Option D} {d : D} {x : Option D} {r : En} {m : Mem} {Q : En → Mem → Prop} : gN 10 d (x0 :: x1 :: x2 :: x3 :: x4 :: x5 :: x6 :: x7 :: x8 :: x9 :: x :: r) m Q = Q (x0 :: x1 :: x2 :: x3 :: x4 :: x5 :: x6 :: x7 :: x8 :: x9 :: some d :: r) m := rfl
@[simp ↓] theorem var_11 {x0 x1 x2 x3 x4 x5 x6 x7 x8 x9 x10 : Option D} {d : D} {r : En} {m : Mem} {Q : Po} {E : Xo} : wVar 11 (x0 :: x1 :: x2 :: x3 :: x4 :: x5 :: x6 :: x7 :: x8 :: x9 :: x10 :: some d :: r) m Q E = Q d m := by simp [wVar]
@[simp ↓] theorem gn_11 {x0 x1 x2 x3 x4 x5 x6 x7 x8 x9 x10 : Option D} {d : D} {x : Option D} {r : En} {m : Mem} {Q : En → Mem → Prop} : gN 11 d (x0 :: x1 :: x2 :: x3 :: x4 :: x5 :: x6 :: x7 :: x8 :: x9 :: x10 :: x :: r) m Q = Q (x0 :: x1 :: x2 :: x3 :: x4 :: x5 :: x6 :: x7 :: x8 :: x9 :: x10 :: some d :: r) m := rfl
@[simp ↓] theorem var_12 {x0 x1 x2 x3 x4 x5 x6 x7 x8 x9 x10 x11 : Option D} {d : D} {r : En} {m : Mem} {Q : Po} {E : Xo} : wVar 12 (x0 :: x1 :: x2 :: x3 :: x4 :: x5 :: x6 :: x7 :: x8 :: x9 :: x10 :: x11 :: some d :: r) m Q E = Q d m := by simp [wVar]
@[simp ↓] theorem gn_12 {x0 x1 x2 x3 x4 x5 x6 x7 x8 x9 x10 x11 : Option D} {d : D} {x : Option D} {r : En} {m : Mem} {Q : En → Mem → Prop} : gN 12 d (x0 :: x1 :: x2 :: x3 :: x4 :: x5 :: x6 :: x7 :: x8 :: x9 :: x10 :: x11 :: x :: r) m Q = Q (x0 :: x1 :: x2 :: x3 :: x4 :: x5 :: x6 :: x7 :: x8 :: x9 :: x10 :: x11 :: some d :: r) m := rfl
@[simp ↓] theorem var_13 {x0 x1 x2 x3 x4 x5 x6 x7 x8 x9 x10 x11 x12 : Option D} {d : D} {r : En} {m : Mem} {Q : Po} {E : Xo} : wVar 13 (x0 :: x1 :: x2 :: x3 :: x4 :: x5 :: x6 :: x7 :: x8 :: x9 :: x10 :: x11 :: x12 :: some d :: r) m Q E = Q d m := by simp [wVar]
@[simp ↓] theorem gn_13 {x0 x1 x2 x3 x4 x5 x6 x7 x8 x9 x10 x11 x12 : Option D} {d : D} {x : Option D} {r : En} {m : Mem} {Q : En → Mem → Prop} : gN 13 d (x0 :: x1 :: x2 :: x3 :: x4 :: x5 :: x6 :: x7 :: x8 :: x9 :: x10 :: x11 :: x12 :: x :: r) m Q = Q (x0 :: x1 :: x2 :: x3 :: x4 :: x5 :: x6 :: x7 :: x8 :: x9 :: x10 :: x11 :: x12 :: some d :: r) m := rfl
@[simp ↓] theorem var_14 {x0 x1 x2 x3 x4 x5 x6 x7 x8 x9 x10 x11 x12 x13 : Option D} {d : D} {r : En} {m : Mem} {Q : Po} {E : Xo} : wVar 14 (x0 :: x1 :: x2 :: x3 :: x4 :: x5 :: x6 :: x7 :: x8 :: x9 :: x10 :: x11 :: x12 :: x13 :: some d :: r) m Q E = Q d m := by simp [wVar]
@[simp ↓] theorem gn_14 {x0 x1 x2 x3 x4 x5 x6 x7 x8 x9 x10 x11 x12 x13 : Option D} {d : D} {x : Option D} {r : En} {m : Mem} {Q : En → Mem → Prop} : gN 14 d (x0 :: x1 :: x2 :: x3 :: x4 :: x5 :: x6 :: x7 :: x8 :: x9 :: x10 :: x11 :: x12 :: x13 :: x :: r) m Q = Q (x0 :: x1 :: x2 :: x3 :: x4 :: x5 :: x6 :: x7 :: x8 :: x9 :: x10 :: x11 :: x12 :: x13 :: some d :: r) m := rfl
@[simp ↓] theorem var_15 {x0 x1 x2 x3 x4 x5 x6 x7 x8 x9 x10 x11 x12 x13 x14 : Option D} {d : D} {r : En} {m : Mem} {Q : Po} {E : Xo} : wVar 15 (x0 :: x1 :: x2 :: x3 :: x4 :: x5 :: x6 :: x7 :: x8 :: x9 :: x10 :: x11 :: x12 :: x13 :: x14 :: some d :: r) m Q E = Q d m := by simp [wVar]
@[simp ↓] theorem gn_15 {x0 x1 x2 x3 x4 x5 x6 x7 x8 x9 x10 x11 x12 x13 x14 : Option D} {d : D} {x : Option D} {r : En} {m : Mem} {Q : En → Mem → Prop} : gN 15 d (x0 :: x1 :: x2 :: x3 :: x4 :: x5 :: x6 :: x7 :: x8 :: x9 :: x10 :: x11 :: x12 :: x13 :: x14 :: x :: r) m Q = Q (x0 :: x1 :: x2 :: x3 :: x4 :: x5 :: x6 :: x7 :: x8 :: x9 :: x10 :: x11 :: x12 :: x13 :: x14 :: some d :: r) m := rfl
@[simp ↓] theorem var_16 {x0 x1 x2 x3 x4 x5 x6 x7 x8 x9 x10 x11 x12 x13 x14 x15 : Option D} {d : D} {r : En} {m : Mem} {Q : Po} {E : Xo} : wVar 16 (x0 :: x1 :: x2 :: x3 :: x4 :: x5 :: x6 :: x7 :: x8 :: x9 :: x10 :: x11 :: x12 :: x13 :: x14 :: x15 :: some d :: r) m Q E = Q d m := by simp [wVar]
@[simp ↓] theorem gn_16 {x0 x1 x2 x3 x4 x5 x6 x7 x8 x9 x10 x11 x12 x13 x14 x15 : Option D} {d : D} {x : Option D} {r : En} {m : Mem} {Q : En → Mem → Prop} : gN 16 d (x0 :: x1 :: x2 :: x3 :: x4 :: x5 :: x6 :: x7 :: x8 :: x9 :: x10 :: x11 :: x12 :: x13 :: x14 :: x15 :: x :: r) m Q = Q (x0 :: x1 :: x2 :: x3 :: x4 :: x5 :: x6 :: x7 :: x8 :: x9 :: x10 :: x11 :: x12 :: x13 :: x14 :: x15 :: some d :: r) m := rfl
@[simp ↓] theorem var_17 {x0 x1 x2 x3 x4 x5 x6 x7 x8 x9 x10 x11 x12 x13 x14 x15 x16 : Option D} {d : D} {r : En} {m : Mem} {Q : Po} {E : Xo} : wVar 17 (x0 :: x1 :: x2 :: x3 :: x4 :: x5 :: x6 :: x7 :: x8 :: x9 :: x10 :: x11 :: x12 :: x13 :: x14 :: x15 :: x16 :: some d :: r) m Q E = Q d m := by simp [wVar]
@[simp ↓] theorem gn_17 {x0 x1 x2 x3 x4 x5 x6 x7 x8 x9 x10 x11 x12 x13 x14 x15 x16 : Option D} {d : D} {x : Option D} {r : En} {m : Mem} {Q : En → Mem → Prop} : gN 17 d (x0 :: x1 :: x2 :: x3 :: x4 :: x5 :: x6 :: x7 :: x8 :: x9 :: x10 :: x11 :: x12 :: x13 :: x14 :: x15 :: x16 :: x :: r) m Q = Q (x0 :: x1 :: x2 :: x3 :: x4 :: x5 :: x6 :: x7 :: x8 :: x9 :: x10 :: x11 :: x12 :: x13 :: x14 :: x15 :: x16 :: some d :: r) m := rfl
@[simp ↓] theorem var_18 {x0 x1 x2 x3 x4 x5 x6 x7 x8 x9 x10 x11 x12 x13 x14 x15 x16 x17 : Option D} {d : D} {r : En} {m : Mem} {Q : Po} {E : Xo} : wVar 18 (x0 :: x1 :: x2 :: x3 :: x4 :: x5 :: x6 :: x7 :: x8 :: x9 :: x10 :: x11 :: x12 :: x13 :: x14 :: x15 :: x16 :: x17 :: some d :: r) m Q E = Q d m := by simp [wVar]
@[simp ↓] theorem gn_18 {x0 x1 x2 x3 x4 x5 x6 x7 x8 x9 x10 x11 x12 x13 x14 x15 x16 x17 : Option D} {d : D} {x : Option D} {r : En} {m : Mem} {Q : En → Mem → Prop} : gN 18 d (x0 :: x1 :: x2 :: x3 :: x4 :: x5 :: x6 :: x7 :: x8 :: x9 :: x10 :: x11 :: x12 :: x13 :: x14 :: x15 :: x16 :: x17 :: x :: r) m Q = Q (x0 :: x1 :: x2 :: x3 :: x4 :: x5 :: x6 :: x7 :: x8 :: x9 :: x10 :: x11 :: x12 :: x13 :: x14 :: x15 :: x16 :: x17 :: some d :: r) m := rfl
@[simp ↓] theorem var_19 {x0 x1 x2 x3 x4 x5 x6 x7 x8 x9 x10 x11 x12 x13 x14 x15 x16 x17 x18 : Option D} {d : D} {r : En} {m : Mem} {Q : Po} {E : Xo} : wVar 19 (x0 :: x1 :: x2 :: x3 :: x4 :: x5 :: x6 :: x7 :: x8 :: x9 :: x10 :: x11 :: x12 :: x13 :: x14 :: x15 :: x16 :: x17 :: x18 :: some d :: r) m Q E = Q d m := by simp [wVar]
@[simp ↓] theorem gn_19 {x0 x1 x2 x3 x4 x5 x6 x7 x8 x9 x10 x11 x12 x13 x14 x15 x16 x17 x18 : Option D} {d : D} {x : Option D} {r : En} {m : Mem} {Q : En → Mem → Prop} : gN 19 d (x0 :: x1 :: x2 :: x3 :: x4 :: x5 :: x6 :: x7 :: x8 :: x9 :: x10 :: x11 :: x12 :: x13 :: x14 :: x15 :: x16 :: x17 :: x18 :: x :: r) m Q = Q (x0 :: x1 :: x2 :: x3 :: x4 :: x5 :: x6 :: x7 :: x8 :: x9 :: x10 :: x11 :: x12 :: x13 :: x14 :: x15 :: x16 :: x17 :: x18 :: some d :: r) m := rfl
@[simp ↓] theorem var_20 {x0 x1 x2 x3 x4 x5 x6 x7 x8 x9 x10 x11 x12 x13 x14 x15 x16 x17 x18 x19 : Option D} {d : D} {r : En} {m : Mem} {Q : Po} {E : Xo} : wVar 20 (x0 :: x1 :: x2 :: x3 :: x4 :: x5 :: x6 :: x7 :: x8 :: x9 :: x10 :: x11 :: x12 :: x13 :: x14 :: x15 :: x16 :: x17 :: x18 :: x19 :: some d :: r) m Q E = Q d m := by simp [wVar]
@[simp ↓] theorem gn_20 {x0 x1 x2 x3 x4 x5 x6 x7 x8 x9 x10 x11 x12 x13 x14 x15 x16 x17 x18 x19 : Option D} {d : D} {x : Option D} {r : En} {m : Mem} {Q : En → Mem → Prop} : gN 20 d (x0 :: x1 :: x2 :: x3 :: x4 :: x5 :: x6 :: x7 :: x8 :: x9 :: x10 :: x11 :: x12 :: x13 :: x14 :: x15 :: x16 :: x17 :: x18 :: x19 :: x :: r) m Q = Q (x0 :: x1 :: x2 :: x3 :: x4 :: x5 :: x6 :: x7 :: x8 :: x9 :: x10 :: x11 :: x12 :: x13 :: x14 :: x15 :: x16 :: x17 :: x18 :: x19 :: some d :: r) m := rfl
@[simp ↓] theorem var_21 {x0 x1 x2 x3 x4 x5 x6 x7 x8 x9 x10 x11 x12 x13 x14 x15 x16 x17 x18 x19 x20 : Option D} {d : D} {r : En} {m : Mem} {Q : Po} {E : Xo} : wVar 21 (x0 :: x1 :: x2 :: x3 :: x4 :: x5 :: x6 :: x7 :: x8 :: x9 :: x10 :: x11 :: x12 :: x13 :: x14 :: x15 :: x16 :: x17 :: x18 :: x19 :: x20 :: some d :: r) m Q E = Q d m := by simp [wVar]
@[simp ↓] theorem gn_21 {x0 x1 x2 x3 x4 x5 x6 x7 x8 x9 x10 x11 x12 x13 x14 x15 x16 x17 x18 x19 x20 : Option D} {d : D} {x : Option D} {r : En} {m : Mem} {Q : En → Mem → Prop} : gN 21 d (x0 :: x1 :: x2 :: x3 :: x4 :: x5 :: x6 :: x7 :: x8 :: x9 :: x10 :: x11 :: x12 :: x13 :: x14 :: x15 :: x16 :: x17 :: x18 :: x19 :: x20 :: x :: r) m Q = Q (x0 :: x1 :: x2 :: x3 :: x4 :: x5 :: x6 :: x7 :: x8 :: x9 :: x10 :: x11 :: x12 :: x13 :: x14 :: x15 :: x16 :: x17 :: x18 :: x19 :: x20 :: some d :: r) m := rfl
@[simp ↓] theorem var_22 {x0 x1 x2 x3 x4 x5 x6 x7 x8 x9 x10 x11 x12 x13 x14 x15 x16 x17 x18 x19 x20 x21 : Option D} {d : D} {r : En} {m : Mem} {Q : Po} {E : Xo} : wVar 22 (x0 :: x1 :: x2 :: x3 :: x4 :: x5 :: x6 :: x7 :: x8 :: x9 :: x10 :: x11 :: x12 :: x13 :: x14 :: x15 :: x16 :: x17 :: x18 :: x19 :: x20 :: x21 :: some d :: r) m Q E = Q d m := by simp [wVar]
@[simp ↓] theorem gn_22 {x0 x1 x2 x3 x4 x5 x6 x7 x8 x9 x10 x11 x12 x13 x14 x15 x16 x17 x18 x19 x20 x21 : Option D} {d : D} {x : Option D} {r : En} {m : Mem} {Q : En → Mem → Prop} : gN 22 d (x0 :: x1 :: x2 :: x3 :: x4 :: x5 :: x6 :: x7 :: x8 :: x9 :: x10 :: x11 :: x12 :: x13 :: x14 :: x15 :: x16 :: x17 :: x18 :: x19 :: x20 :: x21 :: x :: r) m Q = Q (x0 :: x1 :: x2 :: x3 :: x4 :: x5 :: x6 :: x7 :: x8 :: x9 :: x10 :: x11 :: x12 :: x13 :: x14 :: x15 :: x16 :: x17 :: x18 :: x19 :: x20 :: x21 :: some d :: r) m := rfl
@[simp ↓] theorem var_23 {x0 x1 x2 x3 x4 x5 x6 x7 x8 x9 x10 x11 x12 x13 x14 x15 x16 x17 x18 x19 x20 x21 x22 : Option D} {d : D} {r : En} {m : Mem} {Q : Po} {E : Xo} : wVar 23 (x0 :: x1 :: x2 :: x3 :: x4 :: x5 :: x6 :: x7 :: x8 :: x9 :: x10 :: x11 :: x12 :: x13 :: x14 :: x15 :: x16 :: x17 :: x18 :: x19 :: x20 :: x21 :: x22 :: some d :: r) m Q E = Q d m := by simp [wVar]
@[simp ↓] theorem gn_23 {x0 x1 x2 x3 x4 x5 x6 x7 x8 x9 x10 x11 x12 x13 x14 x15 x16 x17 x18 x19 x20 x21 x22 : Option D} {d : D} {x : Option D} {r : En} {m : Mem} {Q : En → Mem → Prop} : gN 23 d (x0 :: x1 :: x2 :: x3 :: x4 :: x5 :: x6 :: x7 :: x8 :: x9 :: x10 :: x11 :: x12 :: x13 :: x14 :: x15 :: x16 :: x17 :: x18 :: x19 :: x20 :: x21 :: x22 :: x :: r) m Q = Q (x0 :: x1 :: x2 :: x3 :: x4 :: x5 :: x6 :: x7 :: x8 :: x9 :: x10 :: x11 :: x12 :: x13 :: x14 :: x15 :: x16 :: x17 :: x18 :: x19 :: x20 :: x21 :: x22 :: some d :: r) m := rfl
@[simp ↓] theorem var_24 {x0 x1 x2 x3 x4 x5 x6 x7 x8 x9 x10 x11 x12 x13 x14 x15 x16 x17 x18 x19 x20 x21 x22 x23 : Option D} {d : D} {r : En} {m : Mem} {Q : Po} {E : Xo} : wVar 24 (x0 :: x1 :: x2 :: x3 :: x4 :: x5 :: x6 :: x7 :: x8 :: x9 :: x10 :: x11 :: x12 :: x13 :: x14 :: x15 :: x16 :: x17 :: x18 :: x19 :: x20 :: x21 :: x22 :: x23 :: some d :: r) m Q E = Q d m := by simp [wVar]
@[simp ↓] theorem gn_24 {x0 x1 x2 x3 x4 x5 x6 x7 x8 x9 x10 x11 x12 x13 x14 x15 x16 x17 x18 x19 x20 x21 x22 x23 : Option D} {d : D} {x : Option D} {r : En} {m : Mem} {Q : En → Mem → Prop} : gN 24 d (x0 :: x1 :: x2 :: x3 :: x4 :: x5 :: x6 :: x7 :: x8 :: x9 :: x10 :: x11 :: x12 :: x13 :: x14 :: x15 :: x16 :: x17 :: x18 :: x19 :: x20 :: x21 :: x22 :: x23 :: x :: r) m Q = Q (x0 :: x1 :: x2 :: x3 :: x4 :: x5 :: x6 :: x7 :: x8 :: x9 :: x10 :: x11 :: x12 :: x13 :: x14 :: x15 :: x16 :: x17 :: x18 :: x19 :: x20 :: x21 :: x22 :: x23 :: some d :: r) m := rfl
@[simp ↓] theorem var_25 {x0 x1 x2 x3 x4 x5 x6 x7 x8 x9 x10 x11 x12 x13 x14 x15 x16 x17 x18 x19 x20 x21 x22 x23 x24 : Option D} {d : D} {r : En} {m : Mem} {Q : Po} {E : Xo} : wVar 25 (x0 :: x1 :: x2 :: x3 :: x4 :: x5 :: x6 :: x7 :: x8 :: x9 :: x10 :: x11 :: x12 :: x13 :: x14 :: x15 :: x16 :: x17 :: x18 :: x19 :: x20 :: x21 :: x22 :: x23 :: x24 :: some d :: r) m Q E = Q d m := by simp [wVar]
@[simp ↓] theorem gn_25 {x0 x1 x2 x3 x4 x5 x6 x7 x8 x9 x10 x11 x12 x13 x14 x15 x16 x17 x18 x19 x20 x21 x22 x23 x24 : Option D} {d : D} {x : Option D} {r : En} {m : Mem} {Q : En → Mem → Prop} : gN 25 d (x0 :: x1 :: x2 :: x3 :: x4 :: x5 :: x6 :: x7 :: x8 :: x9 :: x10 :: x11 :: x12 :: x13 :: x14 :: x15 :: x16 :: x17 :: x18 :: x19 :: x20 :: x21 :: x22 :: x23 :: x24 :: x :: r) m Q = Q (x0 :: x1 :: x2 :: x3 :: x4 :: x5 :: x6 :: x7 :: x8 :: x9 :: x10 :: x11 :: x12 :: x13 :: x14 :: x15 :: x16 :: x17 :: x18 :: x19 :: x20 :: x21 :: x22 :: x23 :: x24 :: some d :: r) m := rfl

@[simp ↓] theorem ev_bin {f : WO} {wa wb : WE} {env : En} {m : Mem} {Q : Po} {E : Xo} : wBin f wa wb env m Q E = wa env m (fun x m1 => wb env m1 (fun y m2 => f x y m2 Q E) E) E := rfl
@[simp ↓] theorem ev_neg {wa : WE} {env : En} {m : Mem} {Q : Po} {E : Xo} : wNeg wa env m Q E = wa env m (fun x m1 => match x with | .int i => Q (.int (-i)) m1 | _ => False) E := rfl
@[simp ↓] theorem ev_truB {w : WE} {env : En} {m : Mem} {Q : Bool → Mem → Prop} {E : Xo} : wTruB w env m Q E = w env m (fun x m1 => match x with | .bl b => Q b m1 | _ => False) E := rfl
def truK (Q : Bool → Mem → Prop) (x : D) (m1 : Mem) : Prop := match x with
  | .bl b => Q b m1
  | .non => Q false m1
  | .int i => Q (i != 0) m1
  | .str z => z.length ≤ sizeLine ∧ Q ((z.length : Int) != 0) m1
  | x => ∃ xs, seqOf m1 x = some xs ∧ Q (!xs.isEmpty) m1
@[simp ↓] theorem ev_tru {w : WE} {env : En} {m : Mem} {Q : Bool → Mem → Prop} {E : Xo} : wTru w env m Q E = w env m (truK Q) E := by
  unfold wTru
  exact congrArg (fun z => w env m z E) (by funext x m1; cases x <;> rfl)
@[simp ↓] theorem truK_bl {Q : Bool → Mem → Prop} {b : Bool} {m : Mem} : truK Q (.bl b) m = Q b m := rfl
@[simp ↓] theorem truK_non {Q : Bool → Mem → Prop} {m : Mem} : truK Q .non m = Q false m := rfl
@[simp ↓] theorem truK_int {Q : Bool → Mem → Prop} {i : Int} {m : Mem} : truK Q (.int i) m = Q (i != 0) m := rfl
@[simp ↓] theorem truK_str {Q : Bool → Mem → Prop} {z : Str} {m : Mem} : truK Q (.str z) m = (z.length ≤ sizeLine ∧ Q ((z.length : Int) != 0) m) := rfl
@[simp ↓] theorem ev_notT {w : WT} {env : En} {m : Mem} {Q : Bool → Mem → Prop} {E : Xo} : wNotT w env m Q E = w env m (fun b m1 => Q (!b) m1) E := rfl
def AndK (wb : WT) (env : En) (Q : Bool → Mem → Prop) (E : Xo) (t : Tag Q) (b : Bool) (m1 : Mem) : Prop := if b = true then wb env m1 Q E else Q false m1
@[simp ↓] theorem AndK_t {wb : WT} {env : En} {Q : Bool → Mem → Prop} {E : Xo} {t : Tag Q} {m : Mem} : AndK wb env Q E t true m = wb env m Q E := rfl
@[simp ↓] theorem AndK_f {wb : WT} {env : En} {Q : Bool → Mem → Prop} {E : Xo} {t : Tag Q} {m : Mem} : AndK wb env Q E t false m = Q false m := rfl
theorem AndK_any {wb : WT} {env : En} {Q : Bool → Mem → Prop} {E : Xo} {t : Tag Q} {b : Bool} {m : Mem} : AndK wb env Q E t b m ↔ (b = true → wb env m Q E) ∧ (b = false → Q false m) := by cases b <;> simp
def OrK (wb : WT) (env : En) (Q : Bool → Mem → Prop) (E : Xo) (t : Tag Q) (b : Bool) (m1 : Mem) : Prop := if b = true then Q true m1 else wb env m1 Q E
@[simp ↓] theorem OrK_t {wb : WT} {env : En} {Q : Bool → Mem → Prop} {E : Xo} {t : Tag Q} {m : Mem} : OrK wb env Q E t true m = Q true m := rfl
@[simp ↓] theorem OrK_f {wb : WT} {env : En} {Q : Bool → Mem → Prop} {E : Xo} {t : Tag Q} {m : Mem} : OrK wb env Q E t false m = wb env m Q E := rfl
theorem OrK_any {wb : WT} {env : En} {Q : Bool → Mem → Prop} {E : Xo} {t : Tag Q} {b : Bool} {m : Mem} : OrK wb env Q E t b m ↔ (b = true → Q true m) ∧ (b = false → wb env m Q E) := by cases b <;> simp
@[simp ↓] theorem ev_and {wa wb : WT} {env : En} {m : Mem} {Q : Bool → Mem → Prop} {E : Xo} : wAndT wa wb env m Q E = wa env m (AndK wb env Q E .mk) E := rfl
@[simp ↓] theorem ev_or {wa wb : WT} {env : En} {m : Mem} {Q : Bool → Mem → Prop} {E : Xo} : wOrT wa wb env m Q E = wa env m (OrK wb env Q E .mk) E := rfl
def AndV (wb : WE) (env : En) (Q : Po) (E : Xo) (t : Tag Q) (x : D) (m1 : Mem) : Prop := match x with | .bl b => (if b = true then wb env m1 Q E else Q (.bl false) m1) | _ => False
@[simp ↓] theorem AndV_t {wb : WE} {env : En} {Q : Po} {E : Xo} {t : Tag Q} {m : Mem} : AndV wb env Q E t (.bl true) m = wb env m Q E := rfl
@[simp ↓] theorem AndV_f {wb : WE} {env : En} {Q : Po} {E : Xo} {t : Tag Q} {m : Mem} : AndV wb env Q E t (.bl false) m = Q (.bl false) m := rfl
theorem AndV_any {wb : WE} {env : En} {Q : Po} {E : Xo} {t : Tag Q} {b : Bool} {m : Mem} : AndV wb env Q E t (.bl b) m ↔ (b = true → wb env m Q E) ∧ (b = false → Q (.bl false) m) := by cases b <;> simp
def OrV (wb : WE) (env : En) (Q : Po) (E : Xo) (t : Tag Q) (x : D) (m1 : Mem) : Prop := match x with | .bl b => (if b = true then Q (.bl true) m1 else wb env m1 Q E) | _ => False
@[simp ↓] theorem OrV_t {wb : WE} {env : En} {Q : Po} {E : Xo} {t : Tag Q} {m : Mem} : OrV wb env Q E t (.bl true) m = Q (.bl true) m := rfl
@[simp ↓] theorem OrV_f {wb : WE} {env : En} {Q : Po} {E : Xo} {t : Tag Q} {m : Mem} : OrV wb env Q E t (.bl false) m = wb env m Q E := rfl
theorem OrV_any {wb : WE} {env : En} {Q : Po} {E : Xo} {t : Tag Q} {b : Bool} {m : Mem} : OrV wb env Q E t (.bl b) m ↔ (b = true → Q (.bl true) m) ∧ (b = false → wb env m Q E) := by cases b <;> simp
@[simp ↓] theorem ev_andV {wa wb : WE} {env : En} {m : Mem} {Q : Po} {E : Xo} : wAndV wa wb env m Q E = wa env m (AndV wb env Q E .mk) E := by
  unfold wAndV; exact congrArg (fun z => wa env m z E) (by funext x m1; cases x <;> rfl)
@[simp ↓] theorem ev_orV {wa wb : WE} {env : En} {m : Mem} {Q : Po} {E : Xo} : wOrV wa wb env m Q E = wa env m (OrV wb env Q E .mk) E := by
  unfold wOrV; exact congrArg (fun z => wa env m z E) (by funext x m1; cases x <;> rfl)
@[simp ↓] theorem ev_notV {wa : WE} {env : En} {m : Mem} {Q : Po} {E : Xo} : wNotV wa env m Q E = wa env m (fun x m1 => match x with | .bl b => Q (.bl (!b)) m1 | _ => False) E := rfl
def IteK (wa wb : WE) (env : En) (Q : Po) (E : Xo) (t : Tag Q) (b : Bool) (m1 : Mem) : Prop := if b = true then wa env m1 Q E else wb env m1 Q E
@[simp ↓] theorem IteK_t {wa wb : WE} {env : En} {Q : Po} {E : Xo} {t : Tag Q} {m : Mem} : IteK wa wb env Q E t true m = wa env m Q E := rfl
@[simp ↓] theorem IteK_f {wa wb : WE} {env : En} {Q : Po} {E : Xo} {t : Tag Q} {m : Mem} : IteK wa wb env Q E t false m = wb env m Q E := rfl
theorem IteK_any {wa wb : WE} {env : En} {Q : Po} {E : Xo} {t : Tag Q} {b : Bool} {m : Mem} : IteK wa wb env Q E t b m ↔ (b = true → wa env m Q E) ∧ (b = false → wb env m Q E) := by cases b <;> simp
@[simp ↓] theorem ev_ite {wt : WT} {wa wb : WE} {env : En} {m : Mem} {Q : Po} {E : Xo} : wIte wt wa wb env m Q E = wt env m (IteK wa wb env Q E .mk) E := rfl
@[simp ↓] theorem ev_nil {env : En} {m : Mem} {Q : List D → Mem → Prop} {E : Xo} : wNil env m Q E = Q [] m := rfl
@[simp ↓] theorem ev_cons {we : WE} {wr : WA} {env : En} {m : Mem} {Q : List D → Mem → Prop} {E : Xo} : wCons we wr env m Q E = we env m (fun d m1 => wr env m1 (fun ds m2 => Q (d :: ds) m2) E) E := rfl
@[simp ↓] theorem ev_tup {wa : WA} {env : En} {m : Mem} {Q : Po} {E : Xo} : wTup wa env m Q E = wa env m (fun ds m1 => ds.length ≤ sizeLine ∧ Q (.tup ds) m1) E := rfl
@[simp ↓] theorem ev_lst {wa : WA} {env : En} {m : Mem} {Q : Po} {E : Xo} : wLst wa env m Q E = wa env m (fun ds m1 => ds.length ≤ sizeLine ∧ Q (.lst ds) m1) E := rfl
@[simp ↓] theorem ev_lstM {wa : WA} {env : En} {m : Mem} {Q : Po} {E : Xo} : wLstM wa env m Q E = wa env m (fun ds m1 => ds.length ≤ sizeLine ∧ ∀ p, m1 p = none → Q (.ref p) (m1.put p (.lst ds))) E := rfl
def frzK (Q : Po) (d : D) (m1 : Mem) : Prop := match d with
  | .ref p => (match m1 p with
    | some (.lst xs) => Q (.lst xs) (m1.del p)
    | _ => Q (.ref p) m1)
  | d => Q d m1
def frzO (Q : Po) (p : Addr) (m : Mem) (o : Option (List D)) : Prop := match o with
  | some xs => Q (.lst xs) (m.del p)
  | none => Q (.ref p) m
@[simp ↓] theorem frzO_ {Q : Po} {p : Addr} {m : Mem} {xs : List D} : frzO Q p m (some xs) = Q (.lst xs) (m.del p) := rfl
@[simp ↓] theorem ev_frz {w : WE} {env : En} {m : Mem} {Q : Po} {E : Xo} : wFrz w env m Q E = w env m (frzK Q) E := by
  unfold wFrz; exact congrArg (fun z => w env m z E) (by funext x m1; cases x <;> rfl)
@[simp ↓] theorem frzK_ref {Q : Po} {p : Addr} {m : Mem} : frzK Q (.ref p) m = frzO Q p m (lstOf m (.ref p)) := by
  simp only [frzK, lstOf, frzO]
  cases m p with
  | none => rfl
  | some c => cases c <;> rfl
@[simp ↓] theorem ixD_str {z : Str} {i : Int} {m : Mem} {Q : Po} {E : Xo} : ixD (.str z) (.int i) m Q E = Is (atI z.cps.toList i) (fun c => z.length ≤ sizeLine ∧ Q (.str ⟨#[c]⟩) m) .mk := by simp [ixD, Is]; exact ⟨fun ⟨a, c, b, d⟩ => ⟨c, b, a, d⟩, fun ⟨c, b, a, d⟩ => ⟨a, c, b, d⟩⟩
@[simp ↓] theorem ixD_tup {xs : List D} {i : Int} {m : Mem} {Q : Po} {E : Xo} : ixD (.tup xs) (.int i) m Q E = Is (atI xs i) (fun d => Q d m) .mk := by simp [ixD, Is]
@[simp ↓] theorem ixD_lst {xs : List D} {i : Int} {m : Mem} {Q : Po} {E : Xo} : ixD (.lst xs) (.int i) m Q E = Is (atI xs i) (fun d => Q d m) .mk := by simp [ixD, Is]
@[simp ↓] theorem ixD_klst {xs : List D} {i : Int} {m : Mem} {Q : Po} {E : Xo} : ixD (.klst xs) (.int i) m Q E = Is (atI xs i) (fun d => Q d m) .mk := by simp [ixD, Is]
@[simp ↓] theorem ixD_ref {p : Addr} {i : Int} {m : Mem} {Q : Po} {E : Xo} : ixD (.ref p) (.int i) m Q E = Is (lstOf m (.ref p)) (fun xs => Is (atI xs i) (fun d => Q d m) .mk) .mk := by simp [ixD, Is, seqOf, lstOf]
@[simp ↓] theorem ev_pno {env : En} {m : Mem} {Q : Option Int → Mem → Prop} {E : Xo} : wPno env m Q E = Q none m := rfl
@[simp ↓] theorem ev_pso {w : WE} {env : En} {m : Mem} {Q : Option Int → Mem → Prop} {E : Xo} : wPso w env m Q E = w env m (fun d m1 => match d with | .int i => Q (some i) m1 | _ => False) E := rfl
@[simp ↓] theorem ev_sl {we : WE} {wl wh : WPt} {env : En} {m : Mem} {Q : Po} {E : Xo} : wSl we wl wh env m Q E = we env m (fun x m1 => wl env m1 (fun lo m2 => wh env m2 (fun hi m3 => slD x lo hi m3 Q) E) E) E := rfl
@[simp ↓] theorem slD_tup {xs : List D} {lo hi : Option Int} {m : Mem} {Q : Po} : slD (.tup xs) lo hi m Q = Q (.tup (cutD xs lo hi)) m := rfl
@[simp ↓] theorem slD_lst {xs : List D} {lo hi : Option Int} {m : Mem} {Q : Po} : slD (.lst xs) lo hi m Q = Q (.lst (cutD xs lo hi)) m := by simp [slD]
@[simp ↓] theorem slD_ref {p : Addr} {lo hi : Option Int} {m : Mem} {Q : Po} : slD (.ref p) lo hi m Q = Is (lstOf m (.ref p)) (fun xs => Q (.lst (cutD xs lo hi)) m) .mk := rfl
@[simp ↓] theorem ev_CB {f : FB} {wa : WA} {env : En} {m : Mem} {Q : Po} {E : Xo} : wCB f wa env m Q E = wa env m (fun ds m1 => f ds m1 Q) E := rfl
@[simp ↓] theorem ev_star {we : WE} {wr : WA} {env : En} {m : Mem} {Q : List D → Mem → Prop} {E : Xo} : wStar we wr env m Q E = we env m (fun d m1 => Is (seqOf m1 d) (fun xs => wr env m1 (fun ds m2 => Q (xs ++ ds) m2) E) .mk) E := rfl
@[simp ↓] theorem ev_call {sp : SpD} {n : Nat} {wa wk : WA} {env : En} {m : Mem} {Q : Po} {E : Xo} : wCall sp n wa wk env m Q E = wa env m (fun ds m1 => wk env m1 (fun es m2 => es.length = n ∧ App sp (ds ++ es) m2 Q E .mk) E) E := rfl
/-! ### operators -/
@[simp ↓] theorem add_i {i j : Int} {m : Mem} {Q : Po} {E : Xo} : addD (.int i) (.int j) m Q E = Q (.int (i + j)) m := rfl
@[simp ↓] theorem add_s {a b : Str} {m : Mem} {Q : Po} {E : Xo} : addD (.str a) (.str b) m Q E = (a.length + b.length ≤ sizeLine ∧ Q (.str (a ++ b)) m) := rfl
@[simp ↓] theorem add_t {a b : List D} {m : Mem} {Q : Po} {E : Xo} : addD (.tup a) (.tup b) m Q E = (a.length + b.length ≤ sizeLine ∧ Q (.tup (a ++ b)) m) := rfl
@[simp ↓] theorem add_l {a b : List D} {m : Mem} {Q : Po} {E : Xo} : addD (.lst a) (.lst b) m Q E = (a.length + b.length ≤ sizeLine ∧ Q (.lst (a ++ b)) m) := by simp [addD]
@[simp ↓] theorem add_rl {p : Addr} {b : List D} {m : Mem} {Q : Po} {E : Xo} : addD (.ref p) (.lst b) m Q E = Is (lstOf m (.ref p)) (fun xs => xs.length + b.length ≤ sizeLine ∧ Q (.lst (xs ++ b)) m) .mk := by simp [addD, Is]
@[simp ↓] theorem add_lr {p : Addr} {a : List D} {m : Mem} {Q : Po} {E : Xo} : addD (.lst a) (.ref p) m Q E = Is (lstOf m (.ref p)) (fun ys => a.length + ys.length ≤ sizeLine ∧ Q (.lst (a ++ ys)) m) .mk := by simp [addD, Is]
@[simp ↓] theorem sub_i {i j : Int} {m : Mem} {Q : Po} {E : Xo} : subD (.int i) (.int j) m Q E = Q (.int (i - j)) m := rfl
@[simp ↓] theorem mul_i {i j : Int} {m : Mem} {Q : Po} {E : Xo} : mulD (.int i) (.int j) m Q E = (CMul i j ∧ Q (.int (i * j)) m) := rfl
@[simp ↓] theorem fdiv_i {i j : Int} {m : Mem} {Q : Po} {E : Xo} : fdivD (.int i) (.int j) m Q E = (CDiv i j ∧ Q (.int (i / j)) m) := rfl
@[simp ↓] theorem mod_i {i j : Int} {m : Mem} {Q : Po} {E : Xo} : modD (.int i) (.int j) m Q E = (0 < j ∧ Q (.int (i % j)) m) := rfl
@[simp ↓] theorem pow_i {i j : Int} {m : Mem} {Q : Po} {E : Xo} : powD (.int i) (.int j) m Q E = (CPow i j ∧ Q (.int (i ^ j.toNat)) m) := rfl
@[simp ↓] theorem lt_i {i j : Int} {m : Mem} {Q : Po} {E : Xo} : ltD (.int i) (.int j) m Q E = Q (.bl (decide (i < j))) m := rfl
@[simp ↓] theorem le_i {i j : Int} {m : Mem} {Q : Po} {E : Xo} : leD (.int i) (.int j) m Q E = Q (.bl (decide (i ≤ j))) m := rfl
@[simp ↓] theorem gt_i {i j : Int} {m : Mem} {Q : Po} {E : Xo} : gtD (.int i) (.int j) m Q E = Q (.bl (decide (j < i))) m := rfl
@[simp ↓] theorem ge_i {i j : Int} {m : Mem} {Q : Po} {E : Xo} : geD (.int i) (.int j) m Q E = Q (.bl (decide (j ≤ i))) m := rfl
@[simp ↓] theorem eq_i {i j : Int} {m : Mem} {Q : Po} {E : Xo} : eqD (.int i) (.int j) m Q E = Q (.bl (decide (i = j))) m := rfl
@[simp ↓] theorem eq_s {i j : Str} {m : Mem} {Q : Po} {E : Xo} : eqD (.str i) (.str j) m Q E = Q (.bl (decide (i = j))) m := rfl
@[simp ↓] theorem ne_i {i j : Int} {m : Mem} {Q : Po} {E : Xo} : neD (.int i) (.int j) m Q E = Q (.bl (!decide (i = j))) m := rfl
@[simp ↓] theorem ne_s {i j : Str} {m : Mem} {Q : Po} {E : Xo} : neD (.str i) (.str j) m Q E = Q (.bl (!decide (i = j))) m := rfl
@[simp ↓] theorem isn_ {x y : D} {m : Mem} {Q : Po} {E : Xo} : isnD x y m Q E = (y = .non ∧ Q (.bl (match x with | .non => true | _ => false)) m) := rfl
@[simp ↓] theorem notn_ {x y : D} {m : Mem} {Q : Po} {E : Xo} : notnD x y m Q E = (y = .non ∧ Q (.bl (match x with | .non => false | _ => true)) m) := rfl
@[simp ↓] theorem dget_ {x y : D} {m : Mem} {Q : Po} {E : Xo} : dgetD x y m Q E = Is (dctOf m x) (fun kvs => Is (keyD y) (fun k => Is (valD kvs k) (fun d => Q d m) .mk) .mk) .mk := by simp [dgetD, Is]
@[simp ↓] theorem din_ {x y : D} {m : Mem} {Q : Po} {E : Xo} : dinD x y m Q E = Is (dctOf m y) (fun kvs => Is (keyD x) (fun k => Q (.bl (valD kvs k).isSome) m) .mk) .mk := by simp [dinD, Is]
@[simp ↓] theorem dnin_ {x y : D} {m : Mem} {Q : Po} {E : Xo} : dninD x y m Q E = Is (dctOf m y) (fun kvs => Is (keyD x) (fun k => Q (.bl (!(valD kvs k).isSome)) m) .mk) .mk := by simp [dninD, Is]
@[simp ↓] theorem ev_dnew {env : En} {m : Mem} {Q : Po} {E : Xo} : wDNew env m Q E = ∀ p, m p = none → Q (.ref p) (m.put p (.dct [])) := rfl
@[simp ↓] theorem in_tup {a : Str} {ys : List D} {m : Mem} {Q : Po} {E : Xo} : inD (.str a) (.tup ys) m Q E = (ys.all flatD = true ∧ Q (.bl (inF (.str a) ys)) m) := by simp [inD, flatD]
@[simp ↓] theorem in_lst {a : Str} {ys : List D} {m : Mem} {Q : Po} {E : Xo} : inD (.str a) (.lst ys) m Q E = (ys.all flatD = true ∧ Q (.bl (inF (.str a) ys)) m) := by simp [inD, flatD]
@[simp ↓] theorem in_klst {a : Str} {ys : List D} {m : Mem} {Q : Po} {E : Xo} : inD (.str a) (.klst ys) m Q E = (ys.all flatD = true ∧ Q (.bl (inF (.str a) ys)) m) := by simp [inD, flatD]
@[simp ↓] theorem in_ref {a : Str} {p : Addr} {m : Mem} {Q : Po} {E : Xo} : inD (.str a) (.ref p) m Q E = Is (lstOf m (.ref p)) (fun ys => ys.all flatD = true ∧ Q (.bl (inF (.str a) ys)) m) .mk := by simp [inD, flatD, Is, seqOf, lstOf]
@[simp ↓] theorem nin_tup {a : Str} {ys : List D} {m : Mem} {Q : Po} {E : Xo} : ninD (.str a) (.tup ys) m Q E = (ys.all flatD = true ∧ Q (.bl (!inF (.str a) ys)) m) := by simp [ninD, flatD]
@[simp ↓] theorem nin_lst {a : Str} {ys : List D} {m : Mem} {Q : Po} {E : Xo} : ninD (.str a) (.lst ys) m Q E = (ys.all flatD = true ∧ Q (.bl (!inF (.str a) ys)) m) := by simp [ninD, flatD]
@[simp ↓] theorem nin_klst {a : Str} {ys : List D} {m : Mem} {Q : Po} {E : Xo} : ninD (.str a) (.klst ys) m Q E = (ys.all flatD = true ∧ Q (.bl (!inF (.str a) ys)) m) := by simp [ninD, flatD]
@[simp ↓] theorem nin_ref {a : Str} {p : Addr} {m : Mem} {Q : Po} {E : Xo} : ninD (.str a) (.ref p) m Q E = Is (lstOf m (.ref p)) (fun ys => ys.all flatD = true ∧ Q (.bl (!inF (.str a) ys)) m) .mk := by simp [ninD, flatD, Is, seqOf, lstOf]

@[simp] theorem flat_strs (ns : List Str) : (ns.map D.str).all flatD = true := by simp [flatD]
theorem inF_strs (a : Str) (ns : List Str) : inF (.str a) (ns.map D.str) = decide (a ∈ ns) := by
  unfold inF
  induction ns with
  | nil => simp
  | cons b r ih =>
    rw [List.map_cons, List.any_cons, ih]
    simp only [eqF, List.mem_cons]
    by_cases h : b = a
    · subst h; simp
    · have h' : ¬ a = b := fun z => h z.symm
      simp [h, h']
@[simp] theorem inF_strs' (a : Str) (ns : List Str) : inF (.str a) (ns.map D.str) = decide (a ∈ ns) := inF_strs a ns
/-! ### built-ins -/
@[simp ↓] theorem fLen_str {z : Str} {m : Mem} {Q : Po} : fLen [.str z] m Q = (z.length ≤ sizeLine ∧ Q (.int z.length) m) := rfl
@[simp ↓] theorem fLen_tup {xs : List D} {m : Mem} {Q : Po} : fLen [.tup xs] m Q = Q (.int xs.length) m := by simp [fLen]
@[simp ↓] theorem fLen_lst {xs : List D} {m : Mem} {Q : Po} : fLen [.lst xs] m Q = Q (.int xs.length) m := by simp [fLen]
@[simp ↓] theorem fLen_klst {xs : List D} {m : Mem} {Q : Po} : fLen [.klst xs] m Q = Q (.int xs.length) m := by simp [fLen]
@[simp ↓] theorem fLen_ref {p : Addr} {m : Mem} {Q : Po} : fLen [.ref p] m Q = Is (lstOf m (.ref p)) (fun xs => Q (.int xs.length) m) .mk := by simp [fLen, Is, seqOf, lstOf]
@[simp ↓] theorem fMin_i {i j : Int} {m : Mem} {Q : Po} : fMin2 [.int i, .int j] m Q = Q (.int (if j < i then j else i)) m := rfl
@[simp ↓] theorem fMax_i {i j : Int} {m : Mem} {Q : Po} : fMax2 [.int i, .int j] m Q = Q (.int (if j > i then j else i)) m := rfl
@[simp ↓] theorem fTuple_ {d : D} {m : Mem} {Q : Po} : fTuple [d] m Q = Is (seqOf m d) (fun xs => Q (.tup xs) m) .mk := rfl
@[simp ↓] theorem fList_ {d : D} {m : Mem} {Q : Po} : fList [d] m Q = Is (seqOf m d) (fun xs => Q (.lst xs) m) .mk := rfl
@[simp ↓] theorem fListM_ {d : D} {m : Mem} {Q : Po} : fListM [d] m Q = Is (seqOf m d) (fun xs => ∀ p, m p = none → Q (.ref p) (m.put p (.lst xs))) .mk := rfl
@[simp ↓] theorem fStrI_ {i : Int} {m : Mem} {Q : Po} : fStrI [.int i] m Q = (i.natAbs.log2 < 1920 ∧ Q (.str (toString i)) m) := rfl
@[simp ↓] theorem fAny_ {d : D} {m : Mem} {Q : Po} : fAny [d] m Q = Is (lstOf m d) (fun xs => Is (bools xs) (fun bs => Q (.bl (bs.any id)) m) .mk) .mk := by simp [fAny, Is]
@[simp ↓] theorem fAll_ {d : D} {m : Mem} {Q : Po} : fAll [d] m Q = Is (lstOf m d) (fun xs => Is (bools xs) (fun bs => Q (.bl (bs.all id)) m) .mk) .mk := by simp [fAll, Is]
@[simp ↓] theorem fSumL_ {d : D} {ys : List D} {m : Mem} {Q : Po} : fSumL [d, .lst ys] m Q = Is (lstOf m d) (fun xs => Is (lists m xs) (fun xss => ys.length + xss.flatten.length ≤ sizeLine ∧ Q (.lst (ys ++ xss.flatten)) m) .mk) .mk := by simp [fSumL, Is]
@[simp ↓] theorem fSorted_ {d : D} {m : Mem} {Q : Po} : fSortedS [d] m Q = Is (seqOf m d) (fun xs => Is (strsD xs) (fun ss => ss.length ≤ sizeLine ∧ ∀ ys : List Str, ys.Perm ss → PyProof.Rows.sortedS ys = true → Q (.lst (ys.map D.str)) m) .mk) .mk := by simp [fSortedS, Is]
@[simp ↓] theorem fIsi_ {d : D} {n : String} {m : Mem} {Q : Po} : fIsi [d, .ty n] m Q = Is (tyD m d) (fun t => Is (kitB t n) (fun b => Q (.bl b) m) .mk) .mk := by simp [fIsi, Is]
def appK (we : WE) (env : En) (Q : Po) (E : Xo) (o : D) (m1 : Mem) : Prop := match o with
  | .ref p => (∃ xs, m1 p = some (.lst xs)) ∧ we env m1 (fun d m2 => ∃ xs, m2 p = some (.lst xs) ∧ xs.length < sizeLine ∧ Q .non (m2.put p (.lst (xs ++ [d])))) E
  | _ => False
@[simp ↓] theorem ev_append {wo we : WE} {env : En} {m : Mem} {Q : Po} {E : Xo} : wAppend wo we env m Q E = wo env m (appK we env Q E) E := by
  unfold wAppend; exact congrArg (fun z => wo env m z E) (by funext x m1; cases x <;> rfl)
@[simp ↓] theorem appK_ {we : WE} {env : En} {Q : Po} {E : Xo} {p : Addr} {m1 : Mem} : appK we env Q E (.ref p) m1 = ((lstOf m1 (.ref p)).isSome = true ∧ we env m1 (fun d m2 => Is (lstOf m2 (.ref p)) (fun xs => xs.length < sizeLine ∧ Q .non (m2.put p (.lst (xs ++ [d])))) .mk) E) := by simp [appK, Is, lst_iff, Option.isSome_iff_exists]
def popK (Q : Po) (o : D) (m1 : Mem) : Prop := match o with
  | .ref p => ∃ xs y, m1 p = some (.lst xs) ∧ xs[xs.length - 1]? = some y ∧ Q y (m1.put p (.lst xs.dropLast))
  | _ => False
@[simp ↓] theorem ev_pop {wo : WE} {env : En} {m : Mem} {Q : Po} {E : Xo} : wPop wo env m Q E = wo env m (popK Q) E := by
  unfold wPop; exact congrArg (fun z => wo env m z E) (by funext x m1; cases x <;> rfl)
@[simp ↓] theorem popK_ {Q : Po} {p : Addr} {m1 : Mem} : popK Q (.ref p) m1 = Is (lstOf m1 (.ref p)) (fun xs => Is (xs[xs.length - 1]?) (fun y => Q y (m1.put p (.lst xs.dropLast))) .mk) .mk := by simp [popK, Is, lst_iff]
def popiK (p : Addr) (Q : Po) (d : D) (m2 : Mem) : Prop := match d with
  | .int i => ∃ xs k y, m2 p = some (.lst xs) ∧ -(2 ^ 63) ≤ i ∧ i < 2 ^ 63 ∧ seqIndex? i xs.length = some k ∧ xs[k]? = some y ∧ Q y (m2.put p (.lst (xs.eraseIdx k)))
  | _ => False
def popatK (wi : WE) (env : En) (Q : Po) (E : Xo) (o : D) (m1 : Mem) : Prop := match o with
  | .ref p => (∃ xs, m1 p = some (.lst xs)) ∧ wi env m1 (popiK p Q) E
  | _ => False
@[simp ↓] theorem ev_popat {wo wi : WE} {env : En} {m : Mem} {Q : Po} {E : Xo} : wPopAt wo wi env m Q E = wo env m (popatK wi env Q E) E := by
  unfold wPopAt; refine congrArg (fun z => wo env m z E) (by funext x m1; cases x <;> first | rfl | skip; exact congrArg (fun z => (∃ xs, m1 _ = some (Cell.lst xs)) ∧ wi env m1 z E) (by funext d m2; cases d <;> rfl))
@[simp ↓] theorem popatK_ {wi : WE} {env : En} {Q : Po} {E : Xo} {p : Addr} {m1 : Mem} : popatK wi env Q E (.ref p) m1 = ((lstOf m1 (.ref p)).isSome = true ∧ wi env m1 (popiK p Q) E) := by simp [popatK, lst_iff, Option.isSome_iff_exists]
@[simp ↓] theorem popiK_ {p : Addr} {Q : Po} {i : Int} {m2 : Mem} : popiK p Q (.int i) m2 = Is (lstOf m2 (.ref p)) (fun xs => (-(2 ^ 63) ≤ i ∧ i < 2 ^ 63) ∧ Is (seqIndex? i xs.length) (fun k => Is (xs[k]?) (fun y => Q y (m2.put p (.lst (xs.eraseIdx k)))) .mk) .mk) .mk := by simp [popiK, Is, lst_iff]; exact ⟨fun ⟨xs, a, b, c, k, d, y, e, f⟩ => ⟨xs, a, ⟨b, c⟩, k, d, y, e, f⟩, fun ⟨xs, a, ⟨b, c⟩, k, d, y, e, f⟩ => ⟨xs, a, b, c, k, d, y, e, f⟩⟩
/-! ### statements -/
@[simp ↓] theorem ev_sNil {D : De} {env : En} {m : Mem} : sNil D env m = D.nx env m := rfl
@[simp ↓] theorem ev_sPass {D : De} {env : En} {m : Mem} : sPass D env m = D.nx env m := rfl
@[simp ↓] theorem ev_sBrk {D : De} {env : En} {m : Mem} : sBrk D env m = D.bk env m := rfl
@[simp ↓] theorem ev_sCnt {D : De} {env : En} {m : Mem} : sCnt D env m = D.ct env m := rfl
@[simp ↓] theorem ev_seq {a b : WS} {D : De} {env : En} {m : Mem} : sSeq a b D env m = a (D.next (Later b D)) env m := rfl
@[simp ↓] theorem ev_drop {w : WE} {D : De} {env : En} {m : Mem} : sDrop w D env m = w env m (fun _ m1 => D.nx env m1) (fun x m1 => D.xc x env m1) := rfl
@[simp ↓] theorem ev_ret {w : WE} {D : De} {env : En} {m : Mem} : sRet w D env m = w env m (fun d m1 => D.rt d m1) (fun x m1 => D.xc x env m1) := rfl
@[simp ↓] theorem ev_retN {D : De} {env : En} {m : Mem} : sRetN D env m = D.rt .non m := rfl
@[simp ↓] theorem ev_if {w : WT} {a b : WS} {D : De} {env : En} {m : Mem} : sIf w a b D env m = w env m (Br a b D env) (fun x m1 => D.xc x env m1) := rfl
@[simp ↓] theorem ev_asg {w : WE} {g : WG} {D : De} {env : En} {m : Mem} : sAsg w g D env m = w env m (fun d m1 => g d env m1 D.nx) (fun x m1 => D.xc x env m1) := rfl
def par2K (i j : Nat) (D : De) (env : En) (ds : List DL.D) (m1 : Mem) : Prop := ∃ u v, ds = [u, v] ∧ D.nx ((env.set i (some u)).set j (some v)) m1
@[simp ↓] theorem par2K_ {i j : Nat} {Z : De} {env : En} {u v : D} {m1 : Mem} : par2K i j Z env [u, v] m1 = Z.nx ((env.set i (some u)).set j (some v)) m1 := by
  unfold par2K
  apply propext
  constructor
  · rintro ⟨a, b, e, h⟩; cases e; exact h
  · intro h; exact ⟨u, v, rfl, h⟩
@[simp ↓] theorem ev_par2 {i j : Nat} {wa : WA} {Z : De} {env : En} {m : Mem} : sPar2 i j wa Z env m = wa env m (par2K i j Z env) (fun x m1 => Z.xc x env m1) := rfl
def par3K (i j l : Nat) (D : De) (env : En) (ds : List DL.D) (m1 : Mem) : Prop := ∃ u v w, ds = [u, v, w] ∧ D.nx (((env.set i (some u)).set j (some v)).set l (some w)) m1
@[simp ↓] theorem par3K_ {i j l : Nat} {Z : De} {env : En} {u v w : D} {m1 : Mem} : par3K i j l Z env [u, v, w] m1 = Z.nx (((env.set i (some u)).set j (some v)).set l (some w)) m1 := by
  unfold par3K
  apply propext
  constructor
  · rintro ⟨a, b, c, e, h⟩; cases e; exact h
  · intro h; exact ⟨u, v, w, rfl, h⟩
@[simp ↓] theorem ev_par3 {i j l : Nat} {wa : WA} {Z : De} {env : En} {m : Mem} : sPar3 i j l wa Z env m = wa env m (par3K i j l Z env) (fun x m1 => Z.xc x env m1) := rfl
@[simp ↓] theorem ev_gtup {n : Nat} {gs : WGs} {ds : List D} {env : En} {m : Mem} {Q : En → Mem → Prop} : gTup n gs (.tup ds) env m Q = (ds.length = n ∧ gs ds env m Q) := rfl
@[simp ↓] theorem ev_gcons {g : WG} {gs : WGs} {d : D} {r : List D} {env : En} {m : Mem} {Q : En → Mem → Prop} : gsCons g gs (d :: r) env m Q = g d env m (fun env' m' => gs r env' m' Q) := propext ⟨fun ⟨_, _, e, h⟩ => by cases e; exact h, fun h => ⟨d, r, rfl, h⟩⟩
@[simp ↓] theorem ev_gnil {env : En} {m : Mem} {Q : En → Mem → Prop} : gsNil [] env m Q = Q env m := by simp [gsNil]
def subK (v : D) (env : En) (Q : En → Mem → Prop) (o i : D) (m2 : Mem) : Prop := match o, i with
  | .ref p, .int k => ∃ xs j, m2 p = some (.lst xs) ∧ ixN xs.length k = some j ∧ Q env (m2.put p (.lst (xs.set j v)))
  | _, _ => False
@[simp ↓] theorem ev_gsubl {wo wi : WE} {v : D} {env : En} {m : Mem} {Q : En → Mem → Prop} : gSubL wo wi v env m Q = wo env m (fun o m1 => wi env m1 (fun i m2 => subK v env Q o i m2) (fun _ _ => False)) (fun _ _ => False) := by
  unfold gSubL subK
  rfl
@[simp ↓] theorem subK_ {v : D} {env : En} {Q : En → Mem → Prop} {p : Addr} {k : Int} {m2 : Mem} : subK v env Q (.ref p) (.int k) m2 = Is (lstOf m2 (.ref p)) (fun xs => Is (ixN xs.length k) (fun j => Q env (m2.put p (.lst (xs.set j v)))) .mk) .mk := by simp [subK, Is, lst_iff]
def dputK (Z : De) (env : En) (o i d : D) (m3 : Mem) : Prop := ∃ p kvs k, o = .ref p ∧ m3 p = some (.dct kvs) ∧ keyD i = some k ∧ kvs.length < sizeLine ∧ Z.nx env (m3.put p (.dct (putD kvs k d)))
@[simp ↓] theorem dputK_ {Z : De} {env : En} {p : Addr} {i d : D} {m3 : Mem} : dputK Z env (.ref p) i d m3 = Is (dctOf m3 (.ref p)) (fun kvs => Is (keyD i) (fun k => kvs.length < sizeLine ∧ Z.nx env (m3.put p (.dct (putD kvs k d)))) .mk) .mk := by simp [dputK, Is, dct_iff]
@[simp ↓] theorem ev_dput {wo wi wv : WE} {Z : De} {env : En} {m : Mem} : sDput wo wi wv Z env m = wv env m (fun d m1 => wo env m1 (fun o m2 => wi env m2 (fun i m3 => dputK Z env o i d m3) (fun x m' => Z.xc x env m')) (fun x m' => Z.xc x env m')) (fun x m' => Z.xc x env m') := rfl
@[simp ↓] theorem ev_ddel {wo wi : WE} {Z : De} {env : En} {m : Mem} : sDdel wo wi Z env m = wo env m (fun o m2 => wi env m2 (fun i m3 => ∃ p kvs k, o = .ref p ∧ m3 p = some (.dct kvs) ∧ keyD i = some k ∧ (valD kvs k).isSome = true ∧ Z.nx env (m3.put p (.dct (dropD kvs k)))) (fun x m' => Z.xc x env m')) (fun x m' => Z.xc x env m') := rfl
/-! ### loops, comprehensions: shut -/
def SeqX (d : D) (m1 : Mem) (R : List D → (Mem → Prop) → Prop) : Prop := ∃ ds, seqOf m1 d = some ds ∧ R ds (fun m' => seqOf m' d = some ds)
def ForB (g : WG) (wb : WS) (Z : De) (env : En) (m1 : Mem) (ds : List D) (keep : Mem → Prop) : Prop := ∃ Iv : List D → List D → En → Mem → Prop, Iv [] ds env m1 ∧
    (∀ done d rest env m, ds = done ++ d :: rest → Iv done (d :: rest) env m → keep m ∧ g d env m (fun e2 m2 => wb (Z.loop (Iv (done ++ [d]) rest)) e2 m2)) ∧
    ∀ env m, Iv ds [] env m → keep m ∧ Z.nx env m
def ForX (g : WG) (wb : WS) (Z : De) (env : En) (d : D) (m1 : Mem) : Prop := ∃ ds, seqOf m1 d = some ds ∧ ForB g wb Z env m1 ds (fun m' => seqOf m' d = some ds)
@[simp ↓] theorem ev_for {w : WE} {g : WG} {wb : WS} {Z : De} {env : En} {m : Mem} : sFor (wiSeq w) g wb Z env m = w env m (ForX g wb Z env) (fun x m1 => Z.xc x env m1) := rfl
def ForR (g : WG) (wb : WS) (Z : De) (env : En) (j : Int) (m1 : Mem) : Prop := ForB g wb Z env m1 (rngD 0 j.toNat) (fun _ => True)
def rngK (g : WG) (wb : WS) (Z : De) (env : En) (ds : List D) (m1 : Mem) : Prop := ∃ j : Int, ds = [.int j] ∧ -(2 ^ 62) ≤ j ∧ j < 2 ^ 62 ∧ ForR g wb Z env j m1
@[simp ↓] theorem ev_forR {wa : WA} {g : WG} {wb : WS} {Z : De} {env : En} {m : Mem} : sFor (wiRng1 wa) g wb Z env m = wa env m (rngK g wb Z env) (fun x m1 => Z.xc x env m1) := rfl
@[simp ↓] theorem rngK_ {g : WG} {wb : WS} {Z : De} {env : En} {j : Int} {m1 : Mem} : rngK g wb Z env [.int j] m1 = (-(2 ^ 62) ≤ j ∧ j < 2 ^ 62 ∧ ForR g wb Z env j m1) := by
  unfold rngK
  apply propext
  constructor
  · rintro ⟨i, e, r⟩; cases e; exact r
  · rintro r; exact ⟨j, rfl, r⟩
def WhB (wb : WS) (D : De) (env : En) (P : En → Mem → Prop) (b : Bool) (m1 : Mem) : Prop := if b = true then wb (D.loop P) env m1 else D.nx env m1
@[simp ↓] theorem WhB_t {wb : WS} {D : De} {env : En} {P : En → Mem → Prop} {m1 : Mem} : WhB wb D env P true m1 = wb (D.loop P) env m1 := rfl
@[simp ↓] theorem WhB_f {wb : WS} {D : De} {env : En} {P : En → Mem → Prop} {m1 : Mem} : WhB wb D env P false m1 = D.nx env m1 := rfl
theorem WhB_any {wb : WS} {D : De} {env : En} {P : En → Mem → Prop} {b : Bool} {m1 : Mem} : WhB wb D env P b m1 ↔ (b = true → wb (D.loop P) env m1) ∧ (b = false → D.nx env m1) := by cases b <;> simp
def WhileX (w : WT) (wb : WS) (D : De) (env : En) (m : Mem) : Prop := sWhile w wb D env m
@[simp ↓] theorem ev_while {w : WT} {wb : WS} {D : De} {env : En} {m : Mem} : sWhile w wb D env m = WhileX w wb D env m := rfl
def LcB (g : WG) (wt : WT) (we : WE) (vs : List Nat) (env : En) (m1 : Mem) (ds : List D) (keep : Mem → Prop) (R : List D → Prop) : Prop := ∃ f : D → Option D, ds.length ≤ sizeLine ∧ (∀ m', m1.le m' → keep m') ∧
  (∀ d, d ∈ ds → ∀ m', m1.le m' → g d (wipeD env vs) m' (fun e2 m2 => wt e2 m2 (fun b m3 => if b = true then we e2 m3 (fun y m4 => m4 = m' ∧ f d = some y) noX else m3 = m' ∧ f d = none) noX)) ∧ R (ds.filterMap f)
def LcX (g : WG) (wt : WT) (we : WE) (vs : List Nat) (env : En) (Q : Po) (t : Tag Q) (d : D) (m1 : Mem) : Prop := ∃ ds, seqOf m1 d = some ds ∧ LcB g wt we vs env m1 ds (fun m' => seqOf m' d = some ds) (fun r => Q (.lst r) m1)
@[simp ↓] theorem ev_lcP {w : WE} {g : WG} {wt : WT} {we : WE} {vs : List Nat} {env : En} {m : Mem} {Q : Po} {E : Xo} : wLcP (wiSeq w) g wt we vs env m Q E = w env m (LcX g wt we vs env Q .mk) E := rfl
def LcY (g : WG) (wt : WT) (we : WE) (vs : List Nat) (env : En) (Q : Po) (t : Tag Q) (d : D) (m1 : Mem) : Prop := ∃ ds, seqOf m1 d = some ds ∧ LcB g wt we vs env m1 ds (fun m' => seqOf m' d = some ds) (fun r => ∀ p, m1 p = none → Q (.ref p) (m1.put p (.lst r)))
@[simp ↓] theorem ev_lcQ {w : WE} {g : WG} {wt : WT} {we : WE} {vs : List Nat} {env : En} {m : Mem} {Q : Po} {E : Xo} : wLcQ (wiSeq w) g wt we vs env m Q E = w env m (LcY g wt we vs env Q .mk) E := rfl
@[simp ↓] theorem ev_yes {env : En} {m : Mem} {Q : Bool → Mem → Prop} {E : Xo} : wYes env m Q E = Q true m := rfl
/-! ### a def's end -/
@[simp ↓] theorem Dend_nx {Q : Po} {E : Xo} {e : En} {m : Mem} : (Dend Q E).nx e m = ∃ m0, m0.le m ∧ Q .non m0 := rfl
@[simp ↓] theorem Dend_rt {Q : Po} {E : Xo} {d : D} {m : Mem} : (Dend Q E).rt d m = ∃ m0, m0.le m ∧ Q d m0 := rfl
@[simp ↓] theorem Dend_xc {Q : Po} {E : Xo} {x : Exc} {e : En} {m : Mem} : (Dend Q E).xc x e m = ∃ m0, m0.le m ∧ E x m0 := rfl
/-! ### memory -/
@[simp] theorem lstOf_put {m : Mem} {p : Addr} {xs : List D} : lstOf (m.put p (.lst xs)) (.ref p) = some xs := by simp [lstOf]
@[simp] theorem seqOf_put {m : Mem} {p : Addr} {xs : List D} : seqOf (m.put p (.lst xs)) (.ref p) = some xs := by simp [seqOf]
@[simp] theorem dctOf_put {m : Mem} {p : Addr} {xs : List (Key × D)} : dctOf (m.put p (.dct xs)) (.ref p) = some xs := by simp [dctOf]
theorem lstOf_ne {m : Mem} {p q : Addr} {c : Cell} (h : q ≠ p) : lstOf (m.put p c) (.ref q) = lstOf m (.ref q) := by simp only [lstOf, Mem.put_ne h]
theorem seqOf_ne {m : Mem} {p q : Addr} {c : Cell} (h : q ≠ p) : seqOf (m.put p c) (.ref q) = seqOf m (.ref q) := by simp only [seqOf, Mem.put_ne h]
theorem dctOf_ne {m : Mem} {p q : Addr} {c : Cell} (h : q ≠ p) : dctOf (m.put p c) (.ref q) = dctOf m (.ref q) := by simp only [dctOf, Mem.put_ne h]
theorem Mem.put4 {m : Mem} {p q : Addr} {a b c d : Cell} (h : q ≠ p) : (((m.put p a).put q b).put p c).put q d = (m.put p c).put q d := by
  rw [Mem.put_comm (m := m.put p a) h, Mem.put_put, Mem.put_put]
theorem seqOf_le {m m' : Mem} (h : m.le m') {d : D} {ds : List D} (e : seqOf m d = some ds) : seqOf m' d = some ds := by
  cases d <;> simp only [seqOf] at e ⊢ <;> first | exact e | skip
  rename_i p
  cases q : m p with
  | none => rw [q] at e; cases e
  | some c => rw [q] at e; rw [h p c q]; exact e
theorem lstOf_le {m m' : Mem} (h : m.le m') {d : D} {ds : List D} (e : lstOf m d = some ds) : lstOf m' d = some ds := by
  cases d <;> simp only [lstOf] at e ⊢ <;> first | exact e | skip
  rename_i p
  cases q : m p with
  | none => rw [q] at e; cases e
  | some c => rw [q] at e; rw [h p c q]; exact e
theorem dctOf_le {m m' : Mem} (h : m.le m') {d : D} {ds : List (Key × D)} (e : dctOf m d = some ds) : dctOf m' d = some ds := by
  obtain ⟨p, rfl, q⟩ := dctOf_some e
  exact dctOf_ref (h p _ q)
@[simp] theorem Mem.le_rfl {m : Mem} : m.le m := Mem.le_refl m
/-! ### use of comprehensions, loops -/
theorem LcB.intro {α β : Type} {g : WG} {wt : WT} {we : WE} {vs : List Nat} {env : En} {m1 : Mem} {ds : List D} {keep : Mem → Prop} {R : List D → Prop} (l : List α) (φ : α → D) (h : α → Option β) (ψ : β → D) (hφ : ∀ a b, φ a = φ b → a = b) (hds : ds = l.map φ) (hz : l.length ≤ sizeLine) (hk : ∀ m', m1.le m' → keep m')
    (turn : ∀ a ∈ l, ∀ m', m1.le m' → g (φ a) (wipeD env vs) m' (fun e2 m2 => wt e2 m2 (fun b m3 => if b = true then we e2 m3 (fun y m4 => m4 = m' ∧ (h a).map ψ = some y) noX else m3 = m' ∧ h a = none) noX)) (q : R ((l.filterMap h).map ψ)) : LcB g wt we vs env m1 ds keep R := by
  classical
  subst hds
  let f : D → Option D := fun d => if e : ∃ a, φ a = d then (h e.choose).map ψ else none
  have hf : ∀ a, f (φ a) = (h a).map ψ := fun a => by
    have e : ∃ b, φ b = φ a := ⟨a, rfl⟩
    show (if e : ∃ b, φ b = φ a then (h e.choose).map ψ else none) = _
    rw [dif_pos e, hφ _ _ e.choose_spec]
  refine ⟨f, by rw [List.length_map]; exact hz, hk, fun d hd m' hm => ?_, ?_⟩
  · obtain ⟨a, ha, rfl⟩ := List.mem_map.mp hd
    have t := turn a ha m' hm
    have e : (fun (e2 : En) (m2 : Mem) => wt e2 m2 (fun b m3 => if b = true then we e2 m3 (fun y m4 => m4 = m' ∧ (h a).map ψ = some y) noX else m3 = m' ∧ h a = none) noX) =
        (fun (e2 : En) (m2 : Mem) => wt e2 m2 (fun b m3 => if b = true then we e2 m3 (fun y m4 => m4 = m' ∧ f (φ a) = some y) noX else m3 = m' ∧ f (φ a) = none) noX) := by
      rw [hf a]
      simp only [Option.map_eq_none_iff]
    rw [e] at t
    exact t
  · have e : (l.map φ).filterMap f = (l.filterMap h).map ψ := by
      rw [List.filterMap_map, ← List.filterMap_eq_map, List.filterMap_filterMap]
      congr 1
      funext a
      show f (φ a) = _
      rw [hf a]
      cases h a <;> rfl
    rw [e]; exact q
theorem LcX.intro {α β : Type} {g : WG} {wt : WT} {we : WE} {vs : List Nat} {env : En} {Q : Po} {t : Tag Q} {d : D} {m1 : Mem} (l : List α) (φ : α → D) (h : α → Option β) (ψ : β → D) (hφ : ∀ a b, φ a = φ b → a = b) (hs : seqOf m1 d = some (l.map φ)) (hz : l.length ≤ sizeLine)
    (turn : ∀ a ∈ l, ∀ m', m1.le m' → g (φ a) (wipeD env vs) m' (fun e2 m2 => wt e2 m2 (fun b m3 => if b = true then we e2 m3 (fun y m4 => m4 = m' ∧ (h a).map ψ = some y) noX else m3 = m' ∧ h a = none) noX)) (q : Q (.lst ((l.filterMap h).map ψ)) m1) : LcX g wt we vs env Q t d m1 :=
  ⟨_, hs, LcB.intro l φ h ψ hφ rfl hz (fun m' hm => seqOf_le hm hs) turn q⟩
theorem LcY.intro {α β : Type} {g : WG} {wt : WT} {we : WE} {vs : List Nat} {env : En} {Q : Po} {t : Tag Q} {d : D} {m1 : Mem} (l : List α) (φ : α → D) (h : α → Option β) (ψ : β → D) (hφ : ∀ a b, φ a = φ b → a = b) (hs : seqOf m1 d = some (l.map φ)) (hz : l.length ≤ sizeLine)
    (turn : ∀ a ∈ l, ∀ m', m1.le m' → g (φ a) (wipeD env vs) m' (fun e2 m2 => wt e2 m2 (fun b m3 => if b = true then we e2 m3 (fun y m4 => m4 = m' ∧ (h a).map ψ = some y) noX else m3 = m' ∧ h a = none) noX)) (q : ∀ p, m1 p = none → Q (.ref p) (m1.put p (.lst ((l.filterMap h).map ψ)))) : LcY g wt we vs env Q t d m1 :=
  ⟨_, hs, LcB.intro l φ h ψ hφ rfl hz (fun m' hm => seqOf_le hm hs) turn q⟩
theorem inj_str : ∀ a b : Str, D.str a = D.str b → a = b := fun _ _ h => by cases h; rfl
theorem inj_int : ∀ a b : Int, D.int a = D.int b → a = b := fun _ _ h => by cases h; rfl
theorem map_inj {α : Type} {φ : α → D} (h : ∀ a b, φ a = φ b → a = b) : ∀ {xs ys : List α}, xs.map φ = ys.map φ → xs = ys
  | [], [], _ => rfl
  | [], _ :: _, e => by cases e
  | _ :: _, [], e => by cases e
  | x :: xs, y :: ys, e => by
    rw [List.map_cons, List.map_cons] at e
    injection e with e1 e2
    rw [h _ _ e1, map_inj h e2]
/-- a loop over things of one kind -/
theorem ForB.intro {α : Type} {g : WG} {wb : WS} {Z : De} {env : En} {m1 : Mem} {ds : List D} {keep : Mem → Prop} (l : List α) (φ : α → D) (hφ : ∀ a b, φ a = φ b → a = b) (Iv : List α → List α → En → Mem → Prop) (hs : ds = l.map φ) (i0 : Iv [] l env m1)
    (turn : ∀ done a rest env m, l = done ++ a :: rest → Iv done (a :: rest) env m → keep m ∧ g (φ a) env m (fun e2 m2 => wb (Z.loop (Iv (done ++ [a]) rest)) e2 m2))
    (fin : ∀ env m, Iv l [] env m → keep m ∧ Z.nx env m) : ForB g wb Z env m1 ds keep := by
  subst hs
  let Jv : List D → List D → En → Mem → Prop := fun done rest e m => ∃ d2 r2, done = d2.map φ ∧ rest = r2.map φ ∧ Iv d2 r2 e m
  have eJ : ∀ d2 r2, Jv (d2.map φ) (r2.map φ) = Iv d2 r2 := fun d2 r2 => by
    funext e m
    apply propext
    constructor
    · rintro ⟨d3, r3, h1, h2, h⟩
      cases map_inj hφ h1
      cases map_inj hφ h2
      exact h
    · exact fun h => ⟨d2, r2, rfl, rfl, h⟩
  refine ⟨Jv, ⟨[], l, rfl, rfl, i0⟩, ?_, ?_⟩
  · rintro done x rest e m hd ⟨d2, r2, e2, e3, iv⟩
    subst e2
    cases r2 with
    | nil => cases e3
    | cons a r2 =>
      rw [List.map_cons] at e3
      injection e3 with e4 e5
      subst e4 e5
      have el : l = d2 ++ a :: r2 := map_inj hφ (by rw [hd]; simp)
      have t := turn d2 a r2 e m el iv
      rw [← eJ (d2 ++ [a]) r2] at t
      rw [show d2.map φ ++ [φ a] = (d2 ++ [a]).map φ by simp]
      exact t
  · intro e m iv
    have iv : Jv (l.map φ) (([] : List α).map φ) e m := iv
    rw [eJ] at iv
    exact fin e m iv
theorem ForX.intro {α : Type} {g : WG} {wb : WS} {Z : De} {env : En} {d : D} {m1 : Mem} (l : List α) (φ : α → D) (hφ : ∀ a b, φ a = φ b → a = b) (Iv : List α → List α → En → Mem → Prop) (hs : seqOf m1 d = some (l.map φ)) (i0 : Iv [] l env m1)
    (turn : ∀ done a rest env m, l = done ++ a :: rest → Iv done (a :: rest) env m → seqOf m d = some (l.map φ) ∧ g (φ a) env m (fun e2 m2 => wb (Z.loop (Iv (done ++ [a]) rest)) e2 m2))
    (fin : ∀ env m, Iv l [] env m → seqOf m d = some (l.map φ) ∧ Z.nx env m) : ForX g wb Z env d m1 :=
  ⟨_, hs, ForB.intro l φ hφ Iv rfl i0 turn fin⟩
theorem ForR.intro {g : WG} {wb : WS} {Z : De} {env : En} {j : Int} {m1 : Mem} (n : Nat) (hj : j = n) (Iv : Nat → En → Mem → Prop) (i0 : Iv 0 env m1)
    (turn : ∀ (i : Nat) env m, i < n → Iv i env m → g (.int (i : Int)) env m (fun e2 m2 => wb (Z.loop (Iv (i + 1))) e2 m2)) (fin : ∀ env m, Iv n env m → Z.nx env m) : ForR g wb Z env j m1 := by
  subst hj
  refine ForB.intro (List.range n) (fun i => D.int (i : Int)) (fun a b h => by injection h with h; exact Int.ofNat_inj.mp h) (fun done rest e m => Iv done.length e m) (by simp [rngD]) i0 ?_ ?_
  · intro done a rest e m hd iv
    have ha : a = done.length ∧ done.length < n := by
      have h1 : (List.range n)[done.length]? = some a := by rw [hd]; simp
      rw [List.getElem?_range] at h1
      · cases h1
        refine ⟨rfl, ?_⟩
        have := congrArg List.length hd
        simp at this
        omega
      · have := congrArg List.length hd
        simp at this
        omega
    obtain ⟨rfl, hlt⟩ := ha
    refine ⟨trivial, ?_⟩
    have t := turn _ e m hlt iv
    simpa using t
  · intro e m iv
    rw [List.length_range] at iv
    exact ⟨trivial, fin e m iv⟩
/-- a turn on, with less left -/
def Nxt {α : Type} (S : α → En → Mem → Prop) (μ : α → Nat) (a : α) : En → Mem → Prop := fun e m => ∃ a', μ a' < μ a ∧ S a' e m
theorem Nxt.intro {α : Type} {S : α → En → Mem → Prop} {μ : α → Nat} {a : α} {e : En} {m : Mem} (a' : α) (h : μ a' < μ a) (s : S a' e m) : Nxt S μ a e m := ⟨a', h, s⟩
theorem WhileX.intro {α : Type} {w : WT} {wb : WS} {Z : De} {env : En} {m : Mem} (S : α → En → Mem → Prop) (μ : α → Nat) (a0 : α) (h0 : S a0 env m)
    (turn : ∀ a env m, S a env m → w env m (WhB wb Z env (Nxt S μ a)) (fun x m1 => Z.xc x env m1)) : WhileX w wb Z env m := by
  refine ⟨fun k e m => ∃ a, μ a = k ∧ S a e m, ⟨_, a0, rfl, h0⟩, ?_⟩
  rintro k e m ⟨a, rfl, h⟩
  have eN : (fun e' m' => ∃ k', k' < μ a ∧ ∃ a', μ a' = k' ∧ S a' e' m') = Nxt S μ a := by
    funext e' m'
    exact propext ⟨fun ⟨k', h1, a', h2, h3⟩ => ⟨a', by rw [h2]; exact h1, h3⟩, fun ⟨a', h1, h2⟩ => ⟨_, h1, a', rfl, h2⟩⟩
  have t := turn a e m h
  rw [← eN] at t
  exact t
end DL

/-! D10: places, slices, equality of plain data, names. -/
namespace DL
open PySem PySem.Spec L2

/-! ### places -/
theorem atI_nat {α : Type} (xs : List α) (i : Nat) : atI xs (i : Int) = xs[i]? := by
  unfold atI ixN
  rw [if_pos (by omega)]
  by_cases h : (i : Int) < xs.length
  · rw [if_pos h]; simp
  · rw [if_neg h]
    rw [List.getElem?_eq_none (by omega)]; rfl
@[simp] theorem atI_0 {α : Type} (x : α) (xs : List α) : atI (x :: xs) 0 = some x := by
  have := atI_nat (x :: xs) 0
  simpa using this
@[simp] theorem atI_1 {α : Type} (x y : α) (xs : List α) : atI (x :: y :: xs) 1 = some y := by
  have := atI_nat (x :: y :: xs) 1
  simpa using this
@[simp] theorem atI_2 {α : Type} (x y z : α) (xs : List α) : atI (x :: y :: z :: xs) 2 = some z := by
  have := atI_nat (x :: y :: z :: xs) 2
  simpa using this
@[simp] theorem atI_last {α : Type} (xs : List α) (x : α) : atI (xs ++ [x]) (-1) = some x := by
  unfold atI ixN
  rw [if_neg (by omega), if_pos (by simp; omega)]
  have e : (-1 + ((xs ++ [x]).length : Int)).toNat = xs.length := by rw [List.length_append]; simp; omega
  rw [e]
  simp
theorem atI_some {α : Type} {xs : List α} {i : Int} (h0 : 0 ≤ i) (h1 : i < xs.length) : ∃ x, atI xs i = some x ∧ xs[i.toNat]? = some x := by
  obtain ⟨n, rfl⟩ := Int.eq_ofNat_of_zero_le h0
  have hn : n < xs.length := by omega
  refine ⟨xs[n], ?_, ?_⟩
  · have := atI_nat xs n
    rw [List.getElem?_eq_getElem hn] at this
    simpa using this
  · simp [hn]
theorem seqIndex_nat {i : Int} {n : Nat} (h0 : 0 ≤ i) (h1 : i < n) : seqIndex? i n = some i.toNat := (ixN_seq (show ixN n i = some i.toNat by unfold ixN; rw [if_pos h0, if_pos h1])).1
@[simp] theorem ixN_10 : ixN 1 0 = some 0 := by decide
theorem ixN_nat {i : Int} {n : Nat} (h0 : 0 ≤ i) (h1 : i < n) : ixN n i = some i.toNat := by unfold ixN; rw [if_pos h0, if_pos h1]
@[simp] theorem cutD_tail (xs : List D) : cutD xs (some 1) none = xs.tail := by
  cases xs with
  | nil => rfl
  | cons x r =>
    have e1 : HT.sIx (x :: r).length 0 (some 1) = 1 := by
      have := HT.sIx_nat (x :: r).length 0 1
      simpa using this
    unfold cutD
    rw [e1, HT.sIx_none]
    simp
theorem tail_map {α β : Type} (f : α → β) (xs : List α) : (xs.map f).tail = xs.tail.map f := by cases xs <;> rfl

/-! ### plain data -/
mutual
/-- data without cells, bools, classes, at most n deep -/
def pl : Nat → D → Bool
  | _, .non => true
  | _, .int _ => true
  | _, .str s => PyData.strOk s
  | n + 1, .tup xs => plA n xs
  | n + 1, .lst xs => plA n xs
  | _, _ => false
def plA : Nat → List D → Bool
  | _, [] => true
  | n, x :: xs => pl n x && plA n xs
end
mutual
def toP : D → PyData
  | .non => .none
  | .bl b => .bool b
  | .int i => .int i
  | .str s => .str s
  | .tup xs => .tuple (toPs xs)
  | .lst xs => .list (toPs xs)
  | .klst xs => .list (toPs xs)
  | _ => .none
def toPs : List D → List PyData
  | [] => []
  | x :: xs => toP x :: toPs xs
end
mutual
theorem pl_py {r : Addr → Option PyData} : ∀ {n : Nat} {x : D}, pl n x = true → pyR r x = some (toP x)
  | _, .non, _ => rfl
  | _, .int _, _ => rfl
  | _, .str _, _ => rfl
  | _ + 1, .tup xs, h => by simp only [pl] at h; simp only [pyR, toP, plA_py h, Option.map_some]
  | _ + 1, .lst xs, h => by simp only [pl] at h; simp only [pyR, toP, plA_py h, Option.map_some]
  | 0, .tup _, h => by simp [pl] at h
  | 0, .lst _, h => by simp [pl] at h
  | _, .bl _, h => by simp [pl] at h
  | _, .ty _, h => by simp [pl] at h
  | _, .ref _, h => by simp [pl] at h
  | _, .klst _, h => by simp [pl] at h
theorem plA_py {r : Addr → Option PyData} : ∀ {n : Nat} {xs : List D}, plA n xs = true → pyRs r xs = some (toPs xs)
  | _, [], _ => rfl
  | n, x :: xs, h => by
    simp only [plA, Bool.and_eq_true] at h
    simp only [pyRs, toPs, pl_py h.1, plA_py h.2]
end
mutual
theorem pl_lay : ∀ {n : Nat} {x : D}, pl n x = true → (toP x).canLay0 = true ∧ (toP x).depth ≤ n
  | _, .non, _ => ⟨rfl, by simp [toP, PyData.depth]⟩
  | _, .int _, _ => ⟨rfl, by simp [toP, PyData.depth]⟩
  | _, .str _, h => ⟨by simp only [toP, PyData.canLay0]; simpa [pl] using h, by simp [toP, PyData.depth]⟩
  | n + 1, .tup xs, h => by
    simp only [pl] at h
    have := plA_lay h
    simp only [toP, PyData.canLay0, PyData.depth]
    exact ⟨this.1, by omega⟩
  | n + 1, .lst xs, h => by
    simp only [pl] at h
    have := plA_lay h
    simp only [toP, PyData.canLay0, PyData.depth]
    exact ⟨this.1, by omega⟩
  | 0, .tup _, h => by simp [pl] at h
  | 0, .lst _, h => by simp [pl] at h
  | _, .bl _, h => by simp [pl] at h
  | _, .ty _, h => by simp [pl] at h
  | _, .ref _, h => by simp [pl] at h
  | _, .klst _, h => by simp [pl] at h
theorem plA_lay : ∀ {n : Nat} {xs : List D}, plA n xs = true → PyData.canLayAll0 (toPs xs) = true ∧ PyData.depthAll (toPs xs) ≤ n
  | _, [], _ => ⟨rfl, by simp [toPs, PyData.depthAll]⟩
  | n, x :: xs, h => by
    simp only [plA, Bool.and_eq_true] at h
    have h1 := pl_lay h.1
    have h2 := plA_lay h.2
    simp only [toPs, PyData.canLayAll0, PyData.depthAll, Bool.and_eq_true]
    exact ⟨⟨h1.1, h2.1⟩, by omega⟩
end
theorem pl_shaped {n : Nat} {x : D} (hn : n ≤ 64) (h : pl n x = true) : SeqAt.shaped (toP x) = true := by
  obtain ⟨a, b⟩ := pl_lay h
  unfold SeqAt.shaped
  rw [a, Bool.true_and]
  exact decide_eq_true (by omega)
/-- == of plain data -/
def eqB (x y : D) : Bool := PyData.eqv (toP x) (toP y)
theorem pyM_pl {n k : Nat} {m : Mem} {x : D} (h : pl n x = true) : pyM m k x = some (toP x) := by
  cases k <;> exact pl_py h
theorem eqD_pl {x y : D} {m : Mem} {Q : Po} {E : Xo} (hx : pl 60 x = true) (hy : pl 60 y = true) (q : Q (.bl (eqB x y)) m) : eqD x y m Q E := by
  have gen : ∃ d e, pyM m 3 x = some d ∧ pyM m 3 y = some e ∧ SeqAt.shaped d = true ∧ SeqAt.shaped e = true ∧ Q (.bl (PyData.eqv d e)) m := ⟨_, _, pyM_pl hx, pyM_pl hy, pl_shaped (by decide) hx, pl_shaped (by decide) hy, q⟩
  cases x <;> cases y <;> first | exact gen | skip
  · have e : ∀ i j : Int, eqB (.int i) (.int j) = decide (i = j) := fun i j => by show (i == j) = _; exact Bool.beq_eq_decide_eq _ _
    rw [e] at q; exact q
  · have e : ∀ i j : Str, eqB (.str i) (.str j) = decide (i = j) := fun i j => by show (i == j) = _; exact Bool.beq_eq_decide_eq _ _
    rw [e] at q; exact q
theorem neD_pl {x y : D} {m : Mem} {Q : Po} {E : Xo} (hx : pl 60 x = true) (hy : pl 60 y = true) (q : Q (.bl (!eqB x y)) m) : neD x y m Q E := by
  have gen : ∃ d e, pyM m 3 x = some d ∧ pyM m 3 y = some e ∧ SeqAt.shaped d = true ∧ SeqAt.shaped e = true ∧ Q (.bl (!PyData.eqv d e)) m := ⟨_, _, pyM_pl hx, pyM_pl hy, pl_shaped (by decide) hx, pl_shaped (by decide) hy, q⟩
  cases x <;> cases y <;> first | exact gen | skip
  · have e : ∀ i j : Int, eqB (.int i) (.int j) = decide (i = j) := fun i j => by show (i == j) = _; exact Bool.beq_eq_decide_eq _ _
    rw [e] at q; exact q
  · have e : ∀ i j : Str, eqB (.str i) (.str j) = decide (i = j) := fun i j => by show (i == j) = _; exact Bool.beq_eq_decide_eq _ _
    rw [e] at q; exact q
/-- .. a list that is a cell -/
theorem neD_cell {p : Addr} {xs : List D} {y : D} {m : Mem} {Q : Po} {E : Xo} (hp : lstOf m (.ref p) = some xs) (hx : plA 59 xs = true) (hy : pl 60 y = true) (q : Q (.bl (!eqB (.lst xs) y)) m) : neD (.ref p) y m Q E := by
  have e1 : pyM m 3 (.ref p) = some (toP (.lst xs)) := by
    show (match m p with | some (.lst xs) => (pyRs (fun b => pyM m 2 (.ref b)) xs).map PyData.list | _ => none) = _
    rw [lst_iff.mp hp]
    show (pyRs _ xs).map PyData.list = _
    rw [plA_py hx]; rfl
  have gen : ∃ d e, pyM m 3 (.ref p) = some d ∧ pyM m 3 y = some e ∧ SeqAt.shaped d = true ∧ SeqAt.shaped e = true ∧ Q (.bl (!PyData.eqv d e)) m := ⟨_, _, e1, pyM_pl hy, pl_shaped (n := 60) (by decide) (by simp only [pl]; exact hx), pl_shaped (by decide) hy, q⟩
  cases y <;> exact gen
mutual
theorem eqB_iff : ∀ {n k : Nat} {x y : D}, pl n x = true → pl k y = true → (PyData.eqv (toP x) (toP y) = true ↔ x = y)
  | _, _, .non, y, _, hy => by cases y <;> simp [toP, PyData.eqv, pl] at hy ⊢
  | _, _, .int _, y, _, hy => by cases y <;> simp [toP, PyData.eqv, pl] at hy ⊢
  | _, _, .str _, y, _, hy => by cases y <;> simp [toP, PyData.eqv, pl] at hy ⊢
  | n + 1, k, .tup xs, y, hx, hy => by
    cases y with
    | tup ys =>
      cases k with
      | zero => simp [pl] at hy
      | succ k =>
        simp only [pl] at hx hy
        simp only [toP, PyData.eqv, D.tup.injEq]
        exact eqA_iff hx hy
    | _ => simp [toP, PyData.eqv, pl] at hy ⊢
  | n + 1, k, .lst xs, y, hx, hy => by
    cases y with
    | lst ys =>
      cases k with
      | zero => simp [pl] at hy
      | succ k =>
        simp only [pl] at hx hy
        simp only [toP, PyData.eqv, D.lst.injEq]
        exact eqA_iff hx hy
    | klst ys => simp [pl] at hy
    | _ => simp [toP, PyData.eqv, pl] at hy ⊢
  | 0, _, .tup _, _, h, _ => by simp [pl] at h
  | 0, _, .lst _, _, h, _ => by simp [pl] at h
  | _, _, .bl _, _, h, _ => by simp [pl] at h
  | _, _, .ty _, _, h, _ => by simp [pl] at h
  | _, _, .ref _, _, h, _ => by simp [pl] at h
  | _, _, .klst _, _, h, _ => by simp [pl] at h
theorem eqA_iff : ∀ {n k : Nat} {xs ys : List D}, plA n xs = true → plA k ys = true → (PyData.eqvAll (toPs xs) (toPs ys) = true ↔ xs = ys)
  | _, _, [], [], _, _ => by simp [toPs, PyData.eqvAll]
  | _, _, [], _ :: _, _, _ => by simp [toPs, PyData.eqvAll]
  | _, _, _ :: _, [], _, _ => by simp [toPs, PyData.eqvAll]
  | n, k, x :: xs, y :: ys, hx, hy => by
    simp only [plA, Bool.and_eq_true] at hx hy
    simp only [toPs, PyData.eqvAll, Bool.and_eq_true, List.cons.injEq]
    rw [eqB_iff hx.1 hy.1, eqA_iff hx.2 hy.2]
end
theorem eqB_eq {x y : D} (hx : pl 60 x = true) (hy : pl 60 y = true) {p : Prop} [Decidable p] (h : x = y ↔ p) : eqB x y = decide p := by
  have e := eqB_iff hx hy
  cases q : eqB x y with
  | true => exact (decide_eq_true (h.mp (e.mp q))).symm
  | false => exact (decide_eq_false fun z => by rw [← h, ← e] at z; rw [show eqB x y = true from z] at q; cases q).symm
theorem plA_map {α : Type} {φ : α → D} {n : Nat} {l : List α} (h : ∀ a ∈ l, pl n (φ a) = true) : plA n (l.map φ) = true := by
  induction l with
  | nil => rfl
  | cons a l ih =>
    rw [List.map_cons]
    simp only [plA, Bool.and_eq_true]
    exact ⟨h a List.mem_cons_self, ih fun b hb => h b (List.mem_cons_of_mem _ hb)⟩
/-! ### names: texts that can be laid -/
@[ext] structure Nme where
  s : Str
  ok : PyData.strOk s = true
  deriving DecidableEq
abbrev Nm := List Nme
abbrev dS (x : Nme) : D := .str x.s
abbrev dT (ns : Nm) : D := .tup (ns.map fun x => D.str x.s)
abbrev dL (ns : Nm) : D := .lst (ns.map fun x => D.str x.s)
@[simp ↓] theorem flat_nm (ns : Nm) : (ns.map fun x => D.str x.s).all flatD = true := by simp [flatD]
@[simp ↓] theorem inF_nm (a : Nme) (ns : Nm) : inF (.str a.s) (ns.map fun x => D.str x.s) = decide (a ∈ ns) := by
  have := inF_strs a.s (ns.map (·.s))
  rw [List.map_map] at this
  rw [show (ns.map fun x => D.str x.s) = ns.map (D.str ∘ fun x => x.s) from rfl, this]
  simp only [List.mem_map, decide_eq_decide]
  constructor
  · rintro ⟨b, hb, e⟩
    rw [← Nme.ext e]; exact hb
  · exact fun h => ⟨a, h, rfl⟩
theorem inj_nm : ∀ a b : Nme, D.str a.s = D.str b.s → a = b := fun a b h => by injection h with h; exact Nme.ext h
theorem inj_dT : ∀ a b : Nm, dT a = dT b → a = b := fun a b h => by injection h with h; exact map_inj inj_nm h
theorem inj_dL : ∀ a b : Nm, dL a = dL b → a = b := fun a b h => by injection h with h; exact map_inj inj_nm h
@[simp] theorem nm_eq (a b : Nme) : (a.s = b.s) = (a = b) := propext ⟨Nme.ext, fun h => by rw [h]⟩
theorem pl_nm (n : Nat) (ns : Nm) : plA n (ns.map fun x => D.str x.s) = true := plA_map fun a _ => by simp only [pl]; exact a.ok
@[simp] theorem pl_dT (n : Nat) (ns : Nm) : pl (n + 1) (dT ns) = true := by simp only [pl]; exact pl_nm n ns
@[simp] theorem pl_dL (n : Nat) (ns : Nm) : pl (n + 1) (dL ns) = true := by simp only [pl]; exact pl_nm n ns
theorem pl_LL (n : Nat) (rs : List Nm) : pl (n + 2) (.lst (rs.map dL)) = true := by simp only [pl]; exact plA_map fun a _ => by simp only [pl]; exact pl_nm n a
theorem pl_nil (n : Nat) : pl (n + 1) (.lst []) = true := by simp only [pl, plA]
@[simp] theorem eqB_nil (xs : List D) : eqB (.lst xs) (.lst []) = xs.isEmpty := by cases xs <;> simp [eqB, toP, toPs, PyData.eqv, PyData.eqvAll]
@[simp] theorem eqB_dT (a b : Nm) : eqB (dT a) (dT b) = decide (a = b) := eqB_eq (pl_dT 59 a) (pl_dT 59 b) ⟨inj_dT a b, fun h => by rw [h]⟩
@[simp] theorem eqB_dL (a b : Nm) : eqB (dL a) (dL b) = decide (a = b) := eqB_eq (pl_dL 59 a) (pl_dL 59 b) ⟨inj_dL a b, fun h => by rw [h]⟩
theorem eqD_eq {x y : D} {m : Mem} {Q : Po} {E : Xo} (hx : pl 60 x = true) (hy : pl 60 y = true) : eqD x y m Q E = Q (.bl (eqB x y)) m := by
  refine propext ⟨fun h => ?_, eqD_pl hx hy⟩
  have gen : (∃ d e, pyM m 3 x = some d ∧ pyM m 3 y = some e ∧ SeqAt.shaped d = true ∧ SeqAt.shaped e = true ∧ Q (.bl (PyData.eqv d e)) m) → Q (.bl (eqB x y)) m := fun ⟨d, e, h1, h2, _, _, q⟩ => by
    rw [pyM_pl hx] at h1; rw [pyM_pl hy] at h2
    cases h1; cases h2; exact q
  cases x <;> cases y <;> first | exact gen h | skip
  · have e : ∀ i j : Int, eqB (.int i) (.int j) = decide (i = j) := fun i j => by show (i == j) = _; exact Bool.beq_eq_decide_eq _ _
    rw [e]; exact h
  · have e : ∀ i j : Str, eqB (.str i) (.str j) = decide (i = j) := fun i j => by show (i == j) = _; exact Bool.beq_eq_decide_eq _ _
    rw [e]; exact h
theorem neD_eq {x y : D} {m : Mem} {Q : Po} {E : Xo} (hx : pl 60 x = true) (hy : pl 60 y = true) : neD x y m Q E = Q (.bl (!eqB x y)) m := by
  refine propext ⟨fun h => ?_, neD_pl hx hy⟩
  have gen : (∃ d e, pyM m 3 x = some d ∧ pyM m 3 y = some e ∧ SeqAt.shaped d = true ∧ SeqAt.shaped e = true ∧ Q (.bl (!PyData.eqv d e)) m) → Q (.bl (!eqB x y)) m := fun ⟨d, e, h1, h2, _, _, q⟩ => by
    rw [pyM_pl hx] at h1; rw [pyM_pl hy] at h2
    cases h1; cases h2; exact q
  cases x <;> cases y <;> first | exact gen h | skip
  · have e : ∀ i j : Int, eqB (.int i) (.int j) = decide (i = j) := fun i j => by show (i == j) = _; exact Bool.beq_eq_decide_eq _ _
    rw [e]; exact h
  · have e : ∀ i j : Str, eqB (.str i) (.str j) = decide (i = j) := fun i j => by show (i == j) = _; exact Bool.beq_eq_decide_eq _ _
    rw [e]; exact h
@[simp ↓] theorem ne_LL {rows : List Nm} {m : Mem} {Q : Po} {E : Xo} : neD (.lst (rows.map dL)) (.lst []) m Q E = Q (.bl (!rows.isEmpty)) m := by rw [neD_eq (pl_LL 58 rows) (pl_nil 59)]; simp
@[simp ↓] theorem ne_Ln {r : Nm} {m : Mem} {Q : Po} {E : Xo} : neD (.lst (r.map fun x => D.str x.s)) (.lst []) m Q E = Q (.bl (!r.isEmpty)) m := by rw [neD_eq (pl_dL 59 r) (pl_nil 59)]; simp
@[simp ↓] theorem eq_Ln {r : Nm} {m : Mem} {Q : Po} {E : Xo} : eqD (.lst (r.map fun x => D.str x.s)) (.lst []) m Q E = Q (.bl r.isEmpty) m := by rw [eqD_eq (pl_dL 59 r) (pl_nil 59)]; simp
@[simp ↓] theorem ne_TT {a b : Nm} {m : Mem} {Q : Po} {E : Xo} : neD (.tup (a.map fun x => D.str x.s)) (.tup (b.map fun x => D.str x.s)) m Q E = Q (.bl (!decide (a = b))) m := by rw [neD_eq (pl_dT 59 a) (pl_dT 59 b)]; simp
@[simp ↓] theorem ne_LLn {a b : Nm} {m : Mem} {Q : Po} {E : Xo} : neD (.lst (a.map fun x => D.str x.s)) (.lst (b.map fun x => D.str x.s)) m Q E = Q (.bl (!decide (a = b))) m := by rw [neD_eq (pl_dL 59 a) (pl_dL 59 b)]; simp
theorem map_erase {α β : Type} (f : α → β) : ∀ (l : List α) (j : Nat), (l.map f).eraseIdx j = (l.eraseIdx j).map f
  | [], _ => by simp
  | _ :: _, 0 => rfl
  | a :: l, j + 1 => by
    rw [List.map_cons, List.eraseIdx_cons_succ, List.eraseIdx_cons_succ, List.map_cons, map_erase f l j]
/-! ### memory that only grew, but for one own cell -/
def Ext (m : Mem) (q : Addr) (m' : Mem) : Prop := m.le (m'.del q)
theorem Ext.start {m : Mem} {q : Addr} {c : Cell} (h : m q = none) : Ext m q (m.put q c) := by
  unfold Ext; rw [Mem.put_del, Mem.del_none h]; exact Mem.le_refl m
theorem Ext.own {m m' : Mem} {q : Addr} {c : Cell} (h : Ext m q m') : Ext m q (m'.put q c) := by
  unfold Ext at *; rw [Mem.put_del]; exact h
theorem Ext.none {m m' : Mem} {p q : Addr} (h : Ext m q m') (hp : m' p = none) : m p = none := by
  cases e : m p with
  | none => rfl
  | some c =>
    have := h p c e
    unfold Mem.del at this
    split at this
    · cases this
    · rw [hp] at this; cases this
theorem Ext.put {m m' : Mem} {p q : Addr} {c : Cell} (h : Ext m q m') (hp : m p = Option.none) : Ext m q (m'.put p c) := fun b o e => by
  have hb : b ≠ p := fun z => by rw [z, hp] at e; cases e
  have := h b o e
  unfold Mem.del at *
  split at this
  · cases this
  · rename_i hq; rw [if_neg hq, Mem.put_ne hb]; exact this
theorem Ext.fresh {m m' : Mem} {p q : Addr} {c : Cell} (h : Ext m q m') (hp : m' p = Option.none) : Ext m q (m'.put p c) := h.put (h.none hp)
theorem Ext.le {m m' : Mem} {q : Addr} (h : Ext m q m') : m.le m' := fun b o e => by
  have := h b o e
  unfold Mem.del at this
  split at this
  · cases this
  · exact this
theorem lists_dL {m : Mem} (l : List Nm) : lists m (l.map dL) = some (l.map fun r => r.map fun x => D.str x.s) := by
  induction l with
  | nil => rfl
  | cons a l ih => rw [List.map_cons]; simp only [lists, lstOf_lst, ih]; rfl
theorem flat_map_str (l : List Nm) : (l.map fun r => r.map fun x => D.str x.s).flatten = l.flatten.map fun x => D.str x.s := by
  rw [List.map_flatten]
theorem fm_some {α β : Type} (f : α → β) (l : List α) : l.filterMap (fun x => some (f x)) = l.map f := by
  induction l with
  | nil => rfl
  | cons a l ih => simp [ih]
theorem fm_if {α : Type} (p : α → Prop) [DecidablePred p] (l : List α) : l.filterMap (fun x => if p x then some x else none) = l.filter fun x => decide (p x) := by
  induction l with
  | nil => rfl
  | cons a l ih => by_cases h : p a <;> simp [h, ih]
theorem Ext.bump {m m' : Mem} {p q : Addr} {c c' : Cell} (h : Ext (m.put p c) q m') (hpq : p ≠ q) : Ext (m.put p c') q (m'.put p c') := fun b o e => by
  by_cases hb : b = p
  · subst hb
    rw [Mem.put_same] at e
    unfold Mem.del
    rw [if_neg hpq, Mem.put_same]; exact e
  · rw [Mem.put_ne hb] at e
    have := h b o (by rw [Mem.put_ne hb]; exact e)
    unfold Mem.del at *
    split at this
    · cases this
    · rename_i hq; rw [if_neg hq, Mem.put_ne hb]; exact this
end DL

/-! K05S: what the defs promise (pure functions over names). -/
namespace DL
open PySem PySem.Spec L2

/-! ### the merge, as a function -/
def headsOf : List Nm → Nm → Nm
  | [], f => f
  | [] :: rs, f => headsOf rs f
  | (x :: _) :: rs, f => headsOf rs (if x ∈ f then f else f ++ [x])
def freeOf (rows : List Nm) : Nm := (headsOf rows []).filter fun h => decide (∀ r ∈ rows, h ∉ r.tail)
def cutRow (x : Nme) (r : Nm) : Nm := if r.head? = some x then r.tail else r
def cutRows (x : Nme) (rows : List Nm) : List Nm := (rows.map (cutRow x)).filter fun r => decide (r ≠ [])
def consE (x : Nme) : Except Nm Nm → Except Nm Nm
  | .ok r => .ok (x :: r)
  | .error h => .error h
/-- the merged names, or the heads at a conflict -/
def mrg : Nat → List Nm → Except Nm Nm
  | 0, _ => .ok []
  | n + 1, rows => if rows = [] then .ok [] else match freeOf rows with
    | [] => .error (headsOf rows [])
    | x :: _ => consE x (mrg n (cutRows x rows))
def size (rows : List Nm) : Nat := (rows.map List.length).sum
def merged (rows : List Nm) : Except Nm Nm := mrg (size (rows.filter fun r => decide (r ≠ [])) + 1) (rows.filter fun r => decide (r ≠ []))

/-! ### promises -/
def sp_heads_of : SpD := fun ds m Q _ => ∃ rows : List Nm, ds = [.lst (rows.map dL)] ∧ (∀ r ∈ rows, r ≠ []) ∧ rows.length ≤ sizeLine ∧ Q (dL (headsOf rows [])) m
def sp_merge_n : SpD := fun ds m Q _ => ∃ (rows : List Nm) (nm : D) (r : Nm), ds = rows.map dT ++ [nm] ∧ rows.length ≤ 100 ∧ (∀ r ∈ rows, r.length ≤ 100) ∧ merged rows = .ok r ∧ Q (dT r) m
def sp_order_of : SpD := fun ds m Q _ => ∃ (x : Nme) (bs : Nm) (o : Addr) (kvs : List (Key × D)) (od : Nme → Nm) (r : Nm), ds = [.str x.s, dT bs, .ref o] ∧ m o = some (.dct kvs) ∧ (∀ b ∈ bs, valD kvs (.inr b.s) = some (dT (od b))) ∧
  bs.length ≤ 90 ∧ (∀ b ∈ bs, (od b).length ≤ 100) ∧ merged (bs.map od ++ [bs]) = .ok r ∧ r.length < 1000 ∧ Q (dT (x :: r)) m
/-- a graph of classes: their names, each one's bases and order -/
structure Grf (names : Nm) (bs od : Nme → Nm) (rk : Nme → Nat) : Prop where
  nd : names.Nodup
  few : names.length ≤ 60
  in_ : ∀ x ∈ names, ∀ b ∈ bs x, b ∈ names ∧ rk b < rk x
  rks : ∀ x ∈ names, rk x < names.length
  bl : ∀ x ∈ names, (bs x).length ≤ 60
  ol : ∀ x ∈ names, (od x).length ≤ 60
  oe : ∀ x ∈ names, ∃ r, merged ((bs x).map od ++ [bs x]) = .ok r ∧ od x = x :: r
def sp_add_orders : SpD := fun ds m Q _ => ∃ (x : Nme) (g o : Addr) (G : List (Key × D)) (names : Nm) (bs od : Nme → Nm) (rk : Nme → Nat), ds = [.str x.s, .ref g, .ref o] ∧ m g = some (.dct G) ∧ m o = some (.dct []) ∧ g ≠ o ∧
  Grf names bs od rk ∧ x ∈ names ∧ (∀ y ∈ names, valD G (.inr y.s) = some (dT (bs y))) ∧ ∀ kvs, valD kvs (.inr x.s) = some (dT (od x)) → Q .non (m.put o (.dct kvs))
def sp_linearize : SpD := fun ds m Q _ => ∃ (x : Nme) (g : Addr) (G : List (Key × D)) (names : Nm) (bs od : Nme → Nm) (rk : Nme → Nat), ds = [.str x.s, .ref g] ∧ m g = some (.dct G) ∧
  Grf names bs od rk ∧ x ∈ names ∧ (∀ y ∈ names, valD G (.inr y.s) = some (dT (bs y))) ∧ Q (dT (od x)) m
def sp_common : SpD := fun ds m Q _ => ∃ a b : Nm, ds = [dT a, dT b] ∧ a.length ≤ 1000 ∧ Q (dT (a.filter fun x => decide (x ∈ b))) m
def sp_common_k : SpD := fun ds m Q E => ds.length = 0 + 2 ∧ sp_common (sel [1, 0] ds) m Q E
def sp_cell : SpD := fun ds m Q _ => ∃ (ns : List Int) (p : Addr) (k : Int), ds = [.klst (ns.map .int), .ref p] ∧ ns.length ≤ 63 ∧ m p = some (.lst [.int k]) ∧ 0 ≤ k ∧ k < 2 ^ 32 ∧ ∀ n : Int, 0 ≤ n → n ≤ 306783378 → Q (.int n) (m.put p (.lst [.int (k + 1)]))
/-- pairs of a class and its bases -/
abbrev Prs := List (Nme × Nm)
def dPrs (ps : Prs) : D := .lst (ps.map fun q => .tup [.str q.1.s, dT q.2])
def cStr (k : Nat) : Str := ("c" : Str) ++ (toString (k : Int) : String)
structure PrsOk (ps : Prs) : Prop where
  few : ps.length ≤ 11
  nm : ∀ i (h : i < ps.length), (ps[i]).1.s = cStr i
  bs : ∀ i (h : i < ps.length), ∀ b ∈ (ps[i]).2, ∃ j, j < i ∧ b.s = cStr j
  nd : ∀ i (h : i < ps.length), (ps[i]).2.Nodup
  bl : ∀ i (h : i < ps.length), (ps[i]).2.length ≤ 3
def sp_graph : SpD := fun ds m Q _ => ∃ (ns : List Int) (p : Addr) (k : Int), ds = [.klst (ns.map .int), .ref p, .int 8] ∧ ns.length ≤ 63 ∧ m p = some (.lst [.int k]) ∧ 0 ≤ k ∧ k < 2 ^ 31 ∧
  ∀ (ps : Prs) (k' : Int), PrsOk ps → k ≤ k' → k' ≤ k + 20 → Q (dPrs ps) (m.put p (.lst [.int k']))
def sp_lmerge : SpD := fun ds m Q _ => ∃ (d : D) (rows : List Nm), ds = [d] ∧ seqOf m d = some (rows.map dT) ∧ rows.length ≤ 100 ∧ (∀ r ∈ rows, r.length ≤ 100) ∧ Q (match merged rows with | .ok r => dL r | .error h => dT h) m
/-- the orders of all classes up to the first conflict -/
def ordOf (acc : List (Nme × Nm)) (b : Nme) : Nm := ((acc.find? fun q => decide (q.1 = b)).map (·.2)).getD []
def ordersOf : Prs → List (Nme × Nm) → List (Nme × Nm) × Option (Nme × Nm)
  | [], acc => (acc, none)
  | (x, bs) :: ps, acc => match merged (bs.map (ordOf acc) ++ [bs]) with
    | .ok r => ordersOf ps (acc ++ [(x, x :: r)])
    | .error h => (acc, some (x, h))
def dOrd (acc : List (Nme × Nm)) : List (Key × D) := acc.map fun q => (.inr q.1.s, dT q.2)
def dCfl : Option (Nme × Nm) → D
  | none => .non
  | some (x, h) => .tup [.str x.s, dT h]
def sp_lorders : SpD := fun ds m Q _ => ∃ ps : Prs, ds = [dPrs ps] ∧ PrsOk ps ∧ ∀ o, m o = none → Q (.tup [.ref o, dCfl (ordersOf ps []).2]) (m.put o (.dct (dOrd (ordersOf ps []).1)))
def letters : Nm := [⟨"a", by decide +kernel⟩, ⟨"b", by decide +kernel⟩, ⟨"c", by decide +kernel⟩, ⟨"d", by decide +kernel⟩, ⟨"e", by decide +kernel⟩, ⟨"f", by decide +kernel⟩, ⟨"g", by decide +kernel⟩, ⟨"h", by decide +kernel⟩, ⟨"i", by decide +kernel⟩]
def sp_row : SpD := fun ds m Q _ => ∃ n : Int, ds = [.int n, .int 9] ∧ 0 ≤ n ∧ n ≤ 306783378 ∧ ∀ ns : Nm, ns.Nodup → (∀ x ∈ ns, x ∈ letters) → ns.length ≤ 9 → Q (dT ns) m
def sp_shared : SpD := fun ds m Q _ => ∃ a b : Nm, ds = [dT a, dT b] ∧ a.length ≤ 9 ∧ b.length ≤ 9 ∧ b.Nodup ∧ Q (dT (a.filter fun x => decide (x ∈ b))) m
def sp_law : SpD := fun ds m Q _ => ∃ ns : List Int, ds = [.klst (ns.map .int)] ∧ ns.length ≤ 63 ∧ ∀ m', Q (.bl true) m'
end DL

/-! K05R: readings (printed by gen.py). -/
namespace DL
open PySem PySem.Spec L2
/-- heads_of: 0 rows, 1 found, 2 row -/
def rd_heads_of : WS := (sSeq (sAsg (wLstM wNil) (gN 1)) (sSeq (sFor (wiSeq (wVar 0)) (gN 2) (sIf (wTruB (wBin ninD (wBin ixD (wVar 2) (wC (.int 0))) (wVar 1))) (sDrop (wAppend (wVar 1) (wBin ixD (wVar 2) (wC (.int 0))))) sNil)) (sRet (wFrz (wVar 1)))))
/-- merge: 0 name, 1 sequences, 2 rows, 3 found, 4 heads, 5 free, 6 sequence, 7 head, 8 row -/
def rd_merge : WS := (sSeq (sAsg (wTup (wCons (wLcP (wiSeq (wVar 1)) (gN 6) (wTruB (wBin gtD (wCB fLen (wCons (wVar 6) wNil)) (wC (.int 0)))) (wCB fList (wCons (wVar 6) wNil)) [6]) (wCons (wLstM wNil) wNil))) (gTup 2 (gsCons (gN 2) (gsCons (gN 3) gsNil)))) (sSeq (sWhile (wTruB (wBin neD (wVar 2) (wLst wNil))) (sSeq (sAsg (wCall sp_heads_of 0 (wCons (wVar 2) wNil) wNil) (gN 4)) (sSeq (sAsg (wLcP (wiSeq (wVar 4)) (gN 7) (wNotT (wTru (wCB fAny (wCons (wLcP (wiSeq (wVar 2)) (gN 8) wYes (wBin inD (wVar 7) (wSl (wVar 8) (wPso (wC (.int 1))) wPno)) [8]) wNil)))) (wVar 7) [7]) (gN 5)) (sSeq (sIf (wTruB (wBin eqD (wVar 5) (wLst wNil))) sNever sNil) (sSeq (sDrop (wAppend (wVar 3) (wBin ixD (wVar 5) (wC (.int 0))))) (sSeq (sAsg (wLcP (wiSeq (wVar 2)) (gN 8) wYes (wIte (wTruB (wBin eqD (wBin ixD (wVar 8) (wC (.int 0))) (wBin ixD (wVar 5) (wC (.int 0))))) (wSl (wVar 8) (wPso (wC (.int 1))) wPno) (wVar 8)) [8]) (gN 2)) (sAsg (wLcP (wiSeq (wVar 2)) (gN 8) (wTruB (wBin neD (wVar 8) (wLst wNil))) (wVar 8) [8]) (gN 2)))))))) (sRet (wCB fTuple (wCons (wVar 3) wNil)))))
/-- order_of: 0 name, 1 bases, 2 orders, 3 rows, 4 base -/
def rd_order_of : WS := (sSeq (sAsg (wLcP (wiSeq (wVar 1)) (gN 4) wYes (wBin dgetD (wVar 2) (wVar 4)) [4]) (gN 3)) (sRet (wBin addD (wTup (wCons (wVar 0) wNil)) (wCall sp_merge_n 1 (wStar (wVar 3) (wCons (wVar 1) wNil)) (wCons (wVar 0) wNil)))))
/-- add_orders: 0 name, 1 bases, 2 orders, 3 waiting, 4 here, 5 missing, 6 base -/
def rd_add_orders : WS := (sSeq (sAsg (wLstM (wCons (wVar 0) wNil)) (gN 3)) (sWhile (wTruB (wBin neD (wVar 3) (wLst wNil))) (sSeq (sAsg (wBin ixD (wVar 3) (wNeg (wC (.int 1)))) (gN 4)) (sSeq (sAsg (wLcP (wiSeq (wBin dgetD (wVar 1) (wVar 4))) (gN 6) (wTruB (wBin dninD (wVar 6) (wVar 2))) (wVar 6) [6]) (gN 5)) (sIf (wTruB (wBin neD (wVar 5) (wLst wNil))) (sDrop (wAppend (wVar 3) (wBin ixD (wVar 5) (wC (.int 0))))) (sSeq (sDrop (wPop (wVar 3))) (sIf (wTruB (wBin dninD (wVar 4) (wVar 2))) (sDput (wVar 2) (wVar 4) (wCall sp_order_of 0 (wCons (wVar 4) (wCons (wBin dgetD (wVar 1) (wVar 4)) (wCons (wVar 2) wNil))) wNil)) sNil)))))))
/-- linearize: 0 name, 1 bases, 2 orders -/
def rd_linearize : WS := (sSeq (sAsg wDNew (gN 2)) (sSeq (sDrop (wCall sp_add_orders 0 (wCons (wVar 0) (wCons (wVar 1) (wCons (wVar 2) wNil))) wNil)) (sRet (wBin dgetD (wVar 2) (wVar 0)))))
/-- common: 0 one, 1 other, 2 name -/
def rd_common : WS := (sRet (wCB fTuple (wCons (wLcP (wiSeq (wVar 0)) (gN 2) (wTruB (wBin inD (wVar 2) (wVar 1))) (wVar 2) [2]) wNil)))
/-- _law_cell: 0 _law_cells, 1 _law_spot, 2 _law_k, 3 _law_base, 4 _law_at, 5 _law_turn, 6 _law_rest, 7 _law_j -/
def rd__law_cell : WS := (sSeq (sAsg (wBin ixD (wVar 1) (wC (.int 0))) (gN 2)) (sSeq (sAsg (wBin addD (wVar 2) (wC (.int 1))) (gSubL (wVar 1) (wC (.int 0)))) (sSeq (sAsg (wBin addD (wBin mulD (wBin mulD (wC (.int 31)) (wVar 2)) (wVar 2)) (wBin mulD (wC (.int 7919)) (wVar 2))) (gN 3)) (sSeq (sIf (wTruB (wBin gtD (wCB fLen (wCons (wVar 0) wNil)) (wC (.int 0)))) (sSeq (sPar2 4 5 (wCons (wBin modD (wVar 2) (wCB fLen (wCons (wVar 0) wNil))) (wCons (wBin fdivD (wVar 2) (wCB fLen (wCons (wVar 0) wNil))) wNil))) (sSeq (sIf (wAndT (wTruB (wBin geD (wBin ixD (wVar 0) (wVar 4)) (wBin powD (wC (.int 10)) (wC (.int 18))))) (wTruB (wBin ltD (wVar 5) (wC (.int 60))))) (sSeq (sAsg (wBin ixD (wVar 0) (wVar 4)) (gN 6)) (sSeq (sFor (wiRng1 (wCons (wVar 5) wNil)) (gN 7) (sAsg (wBin fdivD (wVar 6) (wC (.int 306783379))) (gN 6))) (sIf (wTruB (wBin gtD (wVar 6) (wC (.int 0)))) (sRet (wBin modD (wVar 6) (wC (.int 306783379)))) sNil))) sNil) (sAsg (wBin addD (wVar 3) (wBin mulD (wBin modD (wBin ixD (wVar 0) (wVar 4)) (wC (.int 2147483629))) (wBin addD (wC (.int 1)) (wVar 5)))) (gN 3)))) sNil) (sRet (wBin fdivD (wBin modD (wBin powD (wBin modD (wVar 3) (wC (.int 2147483647))) (wC (.int 5))) (wC (.int 2147483647))) (wC (.int 7))))))))
/-- _law_graph: 0 _law_cells, 1 _law_spot, 2 _law_most, 3 _law_n, 4 _law_found, 5 _law_k, 6 _law_m, 7 _law_stock, 8 _law_bases, 9 _law_j, 10 _law_row_here -/
def rd__law_graph : WS := (sSeq (sPar2 3 4 (wCons (wCall sp_cell 0 (wCons (wVar 0) (wCons (wVar 1) wNil)) wNil) (wCons (wLstM wNil) wNil))) (sSeq (sFor (wiRng1 (wCons (wBin addD (wC (.int 1)) (wBin modD (wVar 3) (wVar 2))) wNil)) (gN 5) (sSeq (sPar3 6 7 8 (wCons (wCall sp_cell 0 (wCons (wVar 0) (wCons (wVar 1) wNil)) wNil) (wCons (wLcQ (wiSeq (wVar 4)) (gN 10) wYes (wBin ixD (wVar 10) (wC (.int 0))) [10]) (wCons (wLstM wNil) wNil)))) (sSeq (sFor (wiRng1 (wCons (wCB fMin2 (wCons (wBin ixD (wLst (wCons (wC (.int 0)) (wCons (wC (.int 1)) (wCons (wC (.int 2)) (wCons (wC (.int 1)) (wCons (wC (.int 2)) (wCons (wC (.int 3)) wNil))))))) (wBin modD (wVar 6) (wC (.int 6)))) (wCons (wCB fLen (wCons (wVar 7) wNil)) wNil))) wNil)) (gN 9) (sDrop (wAppend (wVar 8) (wPopAt (wVar 7) (wBin modD (wBin fdivD (wVar 6) (wBin ixD (wLst (wCons (wC (.int 6)) (wCons (wC (.int 60)) (wCons (wC (.int 600)) wNil)))) (wVar 9))) (wCB fLen (wCons (wVar 7) wNil))))))) (sDrop (wAppend (wVar 4) (wTup (wCons (wBin addD (wC (.str "c")) (wCB fStrI (wCons (wVar 5) wNil))) (wCons (wCB fTuple (wCons (wVar 8) wNil)) wNil)))))))) (sRet (wFrz (wVar 4)))))
/-- _law_merge: 0 _law_rows, 1 _law_found, 2 _law_heads, 3 _law_row_here, 4 _law_tails, 5 _law_free, 6 _law_head -/
def rd__law_merge : WS := (sSeq (sPar2 0 1 (wCons (wLcP (wiSeq (wVar 0)) (gN 3) (wTruB (wBin gtD (wCB fLen (wCons (wVar 3) wNil)) (wC (.int 0)))) (wCB fList (wCons (wVar 3) wNil)) [3]) (wCons (wLstM wNil) wNil))) (sSeq (sWhile (wTruB (wBin neD (wVar 0) (wLst wNil))) (sSeq (sAsg (wLstM wNil) (gN 2)) (sSeq (sFor (wiSeq (wVar 0)) (gN 3) (sIf (wTruB (wBin ninD (wBin ixD (wVar 3) (wC (.int 0))) (wVar 2))) (sDrop (wAppend (wVar 2) (wBin ixD (wVar 3) (wC (.int 0))))) sNil)) (sSeq (sAsg (wCB fSumL (wCons (wLcP (wiSeq (wVar 0)) (gN 3) wYes (wSl (wVar 3) (wPso (wC (.int 1))) wPno) [3]) (wCons (wLst wNil) wNil))) (gN 4)) (sSeq (sAsg (wLcP (wiSeq (wVar 2)) (gN 6) (wTruB (wBin ninD (wVar 6) (wVar 4))) (wVar 6) [6]) (gN 5)) (sSeq (sIf (wTruB (wBin eqD (wVar 5) (wLst wNil))) (sRet (wCB fTuple (wCons (wVar 2) wNil))) sNil) (sSeq (sDrop (wAppend (wVar 1) (wBin ixD (wVar 5) (wC (.int 0))))) (sSeq (sAsg (wLcP (wiSeq (wVar 0)) (gN 3) wYes (wIte (wTruB (wBin eqD (wBin ixD (wVar 3) (wC (.int 0))) (wBin ixD (wVar 5) (wC (.int 0))))) (wSl (wVar 3) (wPso (wC (.int 1))) wPno) (wVar 3)) [3]) (gN 0)) (sAsg (wLcP (wiSeq (wVar 0)) (gN 3) (wTruB (wBin neD (wVar 3) (wLst wNil))) (wVar 3) [3]) (gN 0)))))))))) (sRet (wFrz (wVar 1)))))
/-- _law_orders: 0 _law_pairs, 1 _law_orders_here, 2 _law_who, 3 _law_bases, 4 _law_found, 5 _law_base -/
def rd__law_orders : WS := (sSeq (sAsg wDNew (gN 1)) (sSeq (sFor (wiSeq (wVar 0)) (gTup 2 (gsCons (gN 2) (gsCons (gN 3) gsNil))) (sSeq (sAsg (wCall sp_lmerge 0 (wCons (wBin addD (wLcP (wiSeq (wVar 3)) (gN 5) wYes (wBin dgetD (wVar 1) (wVar 5)) [5]) (wLst (wCons (wVar 3) wNil))) wNil) wNil) (gN 4)) (sSeq (sIf (wTru (wCB fIsi (wCons (wVar 4) (wCons (wC (.ty "tuple")) wNil)))) (sRet (wTup (wCons (wVar 1) (wCons (wTup (wCons (wVar 2) (wCons (wVar 4) wNil))) wNil)))) sNil) (sDput (wVar 1) (wVar 2) (wBin addD (wTup (wCons (wVar 2) wNil)) (wCB fTuple (wCons (wVar 4) wNil))))))) (sRet (wTup (wCons (wVar 1) (wCons (wC .non) wNil))))))
/-- _law_row: 0 _law_n, 1 _law_most, 2 _law_stock, 3 _law_found, 4 _law_k -/
def rd__law_row : WS := (sSeq (sPar2 2 3 (wCons (wLstM (wCons (wC (.str "a")) (wCons (wC (.str "b")) (wCons (wC (.str "c")) (wCons (wC (.str "d")) (wCons (wC (.str "e")) (wCons (wC (.str "f")) (wCons (wC (.str "g")) (wCons (wC (.str "h")) (wCons (wC (.str "i")) wNil)))))))))) (wCons (wLstM wNil) wNil))) (sSeq (sFor (wiRng1 (wCons (wBin modD (wVar 0) (wBin addD (wVar 1) (wC (.int 1)))) wNil)) (gN 4) (sSeq (sAsg (wBin addD (wBin addD (wBin fdivD (wVar 0) (wC (.int 7))) (wBin mulD (wC (.int 5)) (wVar 0))) (wVar 4)) (gN 0)) (sDrop (wAppend (wVar 3) (wPopAt (wVar 2) (wBin modD (wVar 0) (wCB fLen (wCons (wVar 2) wNil)))))))) (sRet (wCB fTuple (wCons (wVar 3) wNil)))))
/-- _law_shared: 0 _law_row_here, 1 _law_far, 2 _law_found, 3 _law_sign, 4 _law_item -/
def rd__law_shared : WS := (sSeq (sAsg (wLstM wNil) (gN 2)) (sSeq (sFor (wiSeq (wVar 0)) (gN 3) (sFor (wiSeq (wVar 1)) (gN 4) (sIf (wTruB (wBin eqD (wVar 3) (wVar 4))) (sDrop (wAppend (wVar 2) (wVar 3))) sNil))) (sRet (wCB fTuple (wCons (wVar 2) wNil)))))
/-- law: 0 _law_script, 1 _law_spot, 2 _law_turn, 3 _law_row_here, 4 _law_far, 5 _law_due, 6 _law_pairs, 7 _law_orders_here, 8 _law_conflict, 9 _law_graph_here, 10 _law_who, 11 _law_bases, 12 _law_base, 13 _law_above, 14 _law_below, 15 _law_told -/
def rd_law : WS := (sSeq (sAsg (wLstM (wCons (wC (.int 0)) wNil)) (gN 1)) (sSeq (sFor (wiRng1 (wCons (wBin addD (wC (.int 3)) (wCB fMin2 (wCons (wC (.int 20)) (wCons (wCB fLen (wCons (wVar 0) wNil)) wNil)))) wNil)) (gN 2) (sSeq (sPar2 3 4 (wCons (wCall sp_row 0 (wCons (wCall sp_cell 0 (wCons (wVar 0) (wCons (wVar 1) wNil)) wNil) (wCons (wC (.int 9)) wNil)) wNil) (wCons (wCall sp_row 0 (wCons (wCall sp_cell 0 (wCons (wVar 0) (wCons (wVar 1) wNil)) wNil) (wCons (wC (.int 9)) wNil)) wNil) wNil))) (sSeq (sAsg (wCall sp_shared 0 (wCons (wVar 3) (wCons (wVar 4) wNil)) wNil) (gN 5)) (sSeq (sIf (wOrT (wTruB (wBin neD (wCall sp_common 0 (wCons (wVar 3) (wCons (wVar 4) wNil)) wNil) (wVar 5))) (wTruB (wBin neD (wCB fSortedS (wCons (wCall sp_common 0 (wCons (wVar 4) (wCons (wVar 3) wNil)) wNil) wNil)) (wCB fSortedS (wCons (wVar 5) wNil))))) (sRet (wC (.bl false))) sNil) (sSeq (sIf (wTruB (wBin neD (wLst (wCons (wCall sp_common 0 (wCons (wVar 3) (wCons (wVar 3) wNil)) wNil) (wCons (wCall sp_common 0 (wCons (wVar 3) (wCons (wTup wNil) wNil)) wNil) (wCons (wCall sp_common 0 (wCons (wTup wNil) (wCons (wVar 4) wNil)) wNil) wNil)))) (wLst (wCons (wVar 3) (wCons (wTup wNil) (wCons (wTup wNil) wNil)))))) (sRet (wC (.bl false))) sNil) (sSeq (sAsg (wCall sp_graph 0 (wCons (wVar 0) (wCons (wVar 1) (wCons (wC (.int 8)) wNil))) wNil) (gN 6)) (sSeq (sAsg (wCall sp_lorders 0 (wCons (wVar 6) wNil) wNil) (gTup 2 (gsCons (gN 7) (gsCons (gN 8) gsNil)))) (sSeq (sAsg wDNew (gN 9)) (sSeq (sFor (wiSeq (wVar 6)) (gTup 2 (gsCons (gN 10) (gsCons (gN 11) gsNil))) (sDput (wVar 9) (wVar 10) (wVar 11))) (sFor (wiSeq (wVar 6)) (gTup 2 (gsCons (gN 10) (gsCons (gN 11) gsNil))) (sFor (wiSeq (wIte (wTruB (wBin dinD (wVar 10) (wVar 7))) (wVar 11) (wTup wNil))) (gN 12) (sSeq (sPar2 13 14 (wCons (wCall sp_linearize 0 (wCons (wVar 12) (wCons (wVar 9) wNil)) wNil) (wCons (wCall sp_linearize 0 (wCons (wVar 10) (wCons (wVar 9) wNil)) wNil) wNil))) (sSeq (sAsg (wLst (wCons (wCall sp_common 0 (wCons (wVar 14) (wCons (wVar 13) wNil)) wNil) (wCons (wCall sp_common_k 2 wNil (wCons (wVar 14) (wCons (wVar 13) wNil))) wNil))) (gN 15)) (sIf (wTruB (wBin neD (wVar 15) (wLst (wCons (wVar 13) (wCons (wVar 13) wNil))))) (sRet (wC (.bl false))) sNil)))))))))))))) (sRet (wC (.bl true)))))
end DL

/-! K05P: the defs keep their promises. -/
namespace DL
open PySem PySem.Spec L2
theorem sz1 : (1000 : Nat) ≤ sizeLine := by decide
abbrev cL (ns : Nm) : Cell := .lst (ns.map fun x => D.str x.s)
theorem spec_heads_of : ∀ ds m Q E, sp_heads_of ds m Q E → rd_heads_of (Dend Q E) (startD ["rows", "found", "row"] ds) m := by
  rintro ds m Q E ⟨rows, rfl, hne, hlen, hQ⟩
  show rd_heads_of (Dend Q E) [some (.lst (rows.map dL)), none, none] m
  simp -dsimp [rd_heads_of]
  intro p hp
  obtain ⟨Iv, hIv⟩ : ∃ Iv : List Nm → List Nm → En → Mem → Prop, Iv = fun done rest env m' => ∃ x acc, env = [some (.lst (rows.map dL)), some (.ref p), x] ∧ m' = m.put p (cL acc) ∧ headsOf rows [] = headsOf rest acc ∧ (∀ r ∈ rest, r ≠ []) ∧ acc.length + rest.length ≤ rows.length := ⟨_, rfl⟩
  refine ForX.intro rows dL inj_dL Iv (by simp) (by rw [hIv]; exact ⟨_, [], rfl, rfl, rfl, hne, by simp⟩) ?_ ?_
  · intro done r rest env m' e iv
    rw [hIv] at iv
    obtain ⟨x, acc, rfl, rfl, h1, h3, h2⟩ := iv
    refine ⟨rfl, ?_⟩
    obtain ⟨h, t, rfl⟩ := List.exists_cons_of_ne_nil (h3 r List.mem_cons_self)
    simp -dsimp
    simp at h2
    refine (Br_ndec (p := h ∈ acc)).mpr ⟨fun hn => ?_, fun hi => ?_⟩
    · simp -dsimp
      refine ⟨by omega, ?_⟩
      rw [hIv]
      refine ⟨_, acc ++ [h], rfl, by simp [cL], ?_, fun r hr => h3 r (List.mem_cons_of_mem _ hr), by simp; omega⟩
      rw [h1]; show headsOf ((h :: t) :: rest) acc = _; rw [headsOf, if_neg hn]
    · simp -dsimp
      rw [hIv]
      exact ⟨_, acc, rfl, rfl, by rw [h1, headsOf, if_pos hi], fun r hr => h3 r (List.mem_cons_of_mem _ hr), by omega⟩
  · intro env m' iv
    rw [hIv] at iv
    obtain ⟨x, acc, rfl, rfl, h1, h3, h2⟩ := iv
    refine ⟨rfl, ?_⟩
    simp -dsimp
    refine ⟨m, by rw [Mem.del_none hp]; simp, ?_⟩
    rw [h1] at hQ
    exact hQ
theorem spec_common : ∀ ds m Q E, sp_common ds m Q E → rd_common (Dend Q E) (startD ["one", "other", "name"] ds) m := by
  rintro ds m Q E ⟨a, b, rfl, hl, hQ⟩
  show rd_common (Dend Q E) [some (dT a), some (dT b), none] m
  simp -dsimp [rd_common]
  refine LcX.intro a (fun x => D.str x.s) (fun x => if x ∈ b then some x else none) (fun x => D.str x.s) inj_nm rfl (Nat.le_trans hl sz1) ?_ ?_
  · intro x hx m' hm
    simp -dsimp
  · simp -dsimp
    refine ⟨m, Mem.le_refl m, ?_⟩
    have e : a.filterMap (fun x => if x ∈ b then some x else none) = a.filter fun x => decide (x ∈ b) := by
      rw [← List.filterMap_eq_filter]
      congr 1
      funext x
      simp [Option.guard]
    rw [e]
    exact hQ
theorem spec_shared : ∀ ds m Q E, sp_shared ds m Q E → rd__law_shared (Dend Q E) (startD ["_law_row_here", "_law_far", "_law_found", "_law_sign", "_law_item"] ds) m := by
  rintro ds m Q E ⟨a, b, rfl, hl, hl2, hn, hQ⟩
  show rd__law_shared (Dend Q E) [some (dT a), some (dT b), none, none, none] m
  simp -dsimp [rd__law_shared]
  intro p hp
  have s20 : 20 < sizeLine := by decide
  obtain ⟨Iv, hIv⟩ : ∃ Iv : Nm → Nm → En → Mem → Prop, Iv = fun done rest env m' => ∃ x y, env = [some (dT a), some (dT b), some (.ref p), x, y] ∧ m' = m.put p (cL (done.filter fun x => decide (x ∈ b))) := ⟨_, rfl⟩
  refine ForX.intro a (fun x => D.str x.s) inj_nm Iv rfl (by rw [hIv]; exact ⟨_, _, rfl, rfl⟩) ?_ ?_
  · intro done x rest env m' e iv
    rw [hIv] at iv
    obtain ⟨x1, y1, rfl, rfl⟩ := iv
    refine ⟨rfl, ?_⟩
    simp -dsimp
    have hz : (done.filter fun x => decide (x ∈ b)).length ≤ 9 := by
      have h1 := List.length_filter_le (fun x => decide (x ∈ b)) done
      have h2 := congrArg List.length e
      rw [List.length_append] at h2
      omega
    obtain ⟨Jv, hJv⟩ : ∃ Jv : Nm → Nm → En → Mem → Prop, Jv = fun d2 r2 env m' => ∃ y, env = [some (dT a), some (dT b), some (.ref p), some (.str x.s), y] ∧ m' = m.put p (cL (done.filter (fun x => decide (x ∈ b)) ++ if x ∈ d2 then [x] else [])) := ⟨_, rfl⟩
    refine ForX.intro b (fun x => D.str x.s) inj_nm Jv rfl (by rw [hJv]; exact ⟨_, rfl, by simp⟩) ?_ ?_
    · intro d2 t r2 env m' e2 jv
      rw [hJv] at jv
      obtain ⟨y, rfl, rfl⟩ := jv
      refine ⟨rfl, ?_⟩
      simp -dsimp
      refine (Br_dec (p := x = t)).mpr ⟨fun h => ?_, fun h => ?_⟩
      · subst h
        have hx : x ∉ d2 := by
          rw [e2] at hn
          have := List.nodup_append.mp hn
          intro hx
          exact this.2.2 x hx x List.mem_cons_self rfl
        simp -dsimp [hx]
        refine ⟨by omega, ?_⟩
        rw [hJv]
        exact ⟨_, rfl, by simp [cL]⟩
      · simp -dsimp
        rw [hJv]
        exact ⟨_, rfl, by simp [h]⟩
    · intro env m' jv
      rw [hJv] at jv
      obtain ⟨y, rfl, rfl⟩ := jv
      refine ⟨rfl, ?_⟩
      simp -dsimp
      rw [hIv]
      refine ⟨_, _, rfl, ?_⟩
      rw [List.filter_append]
      by_cases h : x ∈ b <;> simp [h]
  · intro env m' iv
    rw [hIv] at iv
    obtain ⟨x1, y1, rfl, rfl⟩ := iv
    refine ⟨rfl, ?_⟩
    simp -dsimp
    exact ⟨m, Mem.le_put hp, hQ⟩
theorem cell_last (b : Int) : 0 ≤ (b % 2147483647) ^ 5 % 2147483647 / 7 ∧ (b % 2147483647) ^ 5 % 2147483647 / 7 ≤ 306783378 := by
  have h0 : 0 ≤ (b % 2147483647) ^ 5 % 2147483647 := Int.emod_nonneg _ (by decide)
  have h1 : (b % 2147483647) ^ 5 % 2147483647 < 2147483647 := Int.emod_lt_of_pos _ (by decide)
  omega
theorem spec_cell : ∀ ds m Q E, sp_cell ds m Q E → rd__law_cell (Dend Q E) (startD ["_law_cells", "_law_spot", "_law_k", "_law_base", "_law_at", "_law_turn", "_law_rest", "_law_j"] ds) m := by
  rintro ds m Q E ⟨ns, p, k, rfl, hl, hp, h0, h1, hQ⟩
  show rd__law_cell (Dend Q E) [some (.klst (ns.map .int)), some (.ref p), none, none, none, none, none, none] m
  simp -dsimp [rd__law_cell, lst_iff.mpr hp]
  have hQ : ∀ (n : Int) (m' : Mem), m' = m.put p (.lst [.int (k + 1)]) → 0 ≤ n → n ≤ 306783378 → ∃ m0, m0.le m' ∧ Q (.int n) m0 := fun n m' e a b => ⟨_, Mem.le_refl _, by rw [e]; exact hQ n a b⟩
  have last : ∀ b : Int, CPow (b % 2147483647) 5 ∧ CDiv ((b % 2147483647) ^ 5 % 2147483647) 7 ∧ ∃ m0, m0.le (m.put p (.lst [.int (k + 1)])) ∧ Q (.int ((b % 2147483647) ^ 5 % 2147483647 / 7)) m0 := fun b => by
    obtain ⟨c0, c1⟩ := cell_last b
    have hb0 : 0 ≤ b % 2147483647 := Int.emod_nonneg _ (by decide)
    have hb1 : b % 2147483647 < 2147483647 := Int.emod_lt_of_pos _ (by decide)
    exact ⟨⟨by decide, by decide, by omega⟩, ⟨by decide, by decide⟩, hQ _ _ rfl c0 c1⟩
  refine ⟨.inl ⟨by decide, by decide⟩, .inr ⟨by omega, by omega⟩, .inl ⟨by decide, by decide⟩, ?_⟩
  refine (Br_dec (p := 0 < ns.length)).mpr ⟨fun hpos => ?_, fun hz => ?_⟩
  · simp -dsimp
    have hn : (0 : Int) < ns.length := by omega
    refine ⟨hpos, ⟨hn, by omega⟩, ?_⟩
    have hm0 : 0 ≤ k % ns.length := Int.emod_nonneg _ (by omega)
    have hm1 : k % ns.length < ns.length := Int.emod_lt_of_pos _ hn
    have hd0 : 0 ≤ k / ns.length := Int.ediv_nonneg h0 (by omega)
    have hd1 : k / ns.length < 2 ^ 32 := Int.lt_of_le_of_lt (Int.ediv_le_self _ h0) h1
    obtain ⟨v, hv, _⟩ : ∃ v, atI (ns.map D.int) (k % ns.length) = some (.int v) ∧ True := by
      obtain ⟨x, e1, e2⟩ := atI_some (xs := ns.map D.int) hm0 (by simpa using hm1)
      rw [List.getElem?_map] at e2
      cases q : ns[(k % ns.length).toNat]? with
      | none => rw [q] at e2; cases e2
      | some z => rw [q] at e2; cases e2; exact ⟨z, e1, trivial⟩
    obtain ⟨t, ht⟩ := Int.eq_ofNat_of_zero_le hd0
    rw [ht] at hd0 hd1
    have fin : ∀ b : Int, CMul (v % 2147483629) (1 + t) ∧ CPow ((b + v % 2147483629 * (1 + t)) % 2147483647) 5 ∧ CDiv (((b + v % 2147483629 * (1 + t)) % 2147483647) ^ 5 % 2147483647) 7 ∧ ∃ m0, m0.le (m.put p (.lst [.int (k + 1)])) ∧ Q (.int (((b + v % 2147483629 * (1 + t)) % 2147483647) ^ 5 % 2147483647 / 7)) m0 := fun b => by
      have h3 : 0 ≤ v % 2147483629 := Int.emod_nonneg _ (by decide)
      have h4 : v % 2147483629 < 2147483629 := Int.emod_lt_of_pos _ (by decide)
      exact ⟨.inl ⟨by omega, by omega⟩, last _⟩
    simp -dsimp [hv, ht]
    refine ⟨⟨by decide, by decide, by decide⟩, AndK_any.mpr ⟨fun hg => ?_, fun hg => ?_⟩⟩
    · simp -dsimp
      refine (Br_dec (p := (t : Int) < 60)).mpr ⟨fun h6 => ?_, fun h6 => ?_⟩
      · simp -dsimp [hv, ht]
        refine ⟨by omega, ?_⟩
        obtain ⟨Iv, hIv⟩ : ∃ Iv : Nat → En → Mem → Prop, Iv = fun i env m' => ∃ (r : Int) (x7 : Option D), env = [some (.klst (ns.map .int)), some (.ref p), some (.int k), some (.int (31 * k * k + 7919 * k)), some (.int (k % ns.length)), some (.int t), some (.int r), x7] ∧ m' = m.put p (.lst [.int (k + 1)]) := ⟨_, rfl⟩
        refine ForR.intro t rfl Iv (by rw [hIv]; exact ⟨_, _, rfl, rfl⟩) ?_ ?_
        · intro i env m' hi iv
          rw [hIv] at iv
          obtain ⟨r, x7, rfl, rfl⟩ := iv
          simp -dsimp
          refine ⟨⟨by decide, by decide⟩, ?_⟩
          rw [hIv]
          exact ⟨_, _, rfl, rfl⟩
        · intro env m' iv
          rw [hIv] at iv
          obtain ⟨r, x7, rfl, rfl⟩ := iv
          simp -dsimp
          refine (Br_dec (p := 0 < r)).mpr ⟨fun h7 => ?_, fun h7 => ?_⟩
          · simp -dsimp
            exact hQ _ _ rfl (Int.emod_nonneg _ (by decide)) (by have := Int.emod_lt_of_pos r (b := 306783379) (by decide); omega)
          · simp -dsimp [hv, ht]
            exact fin _
      · simp -dsimp [hv, ht]
        exact fin _
    · simp -dsimp [hv, ht]
      exact fin _
  · simp -dsimp
    exact last _
theorem erase_perm {α : Type} : ∀ {l : List α} {j : Nat} (h : j < l.length), (l[j] :: l.eraseIdx j).Perm l
  | [], j, h => absurd h (by simp)
  | a :: l, 0, h => by simp
  | a :: l, j + 1, h => by
    have ih := erase_perm (l := l) (j := j) (by simpa using h)
    rw [List.getElem_cons_succ, List.eraseIdx_cons_succ]
    exact (List.Perm.swap _ _ _).trans (ih.cons a)
theorem spec_row : ∀ ds m Q E, sp_row ds m Q E → rd__law_row (Dend Q E) (startD ["_law_n", "_law_most", "_law_stock", "_law_found", "_law_k"] ds) m := by
  rintro ds m Q E ⟨n, rfl, h0, h1, hQ⟩
  show rd__law_row (Dend Q E) [some (.int n), some (.int 9), none, none, none] m
  simp -dsimp [rd__law_row]
  refine ⟨by decide, fun p hp q hq => ?_⟩
  have hqp : q ≠ p := fun e => by rw [e, Mem.put_same] at hq; cases hq
  have hmq : m q = none := by rw [Mem.put_ne hqp] at hq; exact hq
  have hr0 : 0 ≤ n % 10 := Int.emod_nonneg _ (by decide)
  have hr1 : n % 10 < 10 := Int.emod_lt_of_pos _ (by decide)
  refine ⟨by omega, by omega, ?_⟩
  obtain ⟨t, ht⟩ := Int.eq_ofNat_of_zero_le hr0
  have htl : t ≤ 9 := by omega
  obtain ⟨Iv, hIv⟩ : ∃ Iv : Nat → En → Mem → Prop, Iv = fun i env m' => ∃ (z : Int) (x4 : Option D) (st fo : Nm), env = [some (.int z), some (.int 9), some (.ref p), some (.ref q), x4] ∧ m' = (m.put p (cL st)).put q (cL fo) ∧ 0 ≤ z ∧ z < 2 ^ (29 + 4 * i) ∧ st.length + i = 9 ∧ fo.length = i ∧ (fo ++ st).Nodup ∧ ∀ x ∈ fo ++ st, x ∈ letters := ⟨_, rfl⟩
  refine ForR.intro t ht Iv ?_ ?_ ?_
  · rw [hIv]
    exact ⟨n, _, letters, [], rfl, rfl, h0, by omega, rfl, rfl, by decide +kernel, fun x h => h⟩
  · intro i env m' hi iv
    rw [hIv] at iv
    obtain ⟨z, x4, st, fo, rfl, rfl, z0, z1, l1, l2, nd, mem⟩ := iv
    have c1 : (m.put p (cL st)).put q (cL fo) = (m.put q (cL fo)).put p (cL st) := Mem.put_comm (Ne.symm hqp)
    have e1 : lstOf ((m.put p (cL st)).put q (cL fo)) (.ref p) = some (st.map fun x => D.str x.s) := by rw [c1]; simp
    have e2 : ∀ c : Cell, lstOf (((m.put p (cL st)).put q (cL fo)).put p c) (.ref q) = some (fo.map fun x => D.str x.s) := fun c => by rw [lstOf_ne hqp]; simp
    simp -dsimp [e1, e2]
    have hl : (0 : Int) < st.length := by omega
    have w0 : 0 ≤ (z / 7 + 5 * z + i) % st.length := Int.emod_nonneg _ (by omega)
    have w1 : (z / 7 + 5 * z + i) % st.length < st.length := Int.emod_lt_of_pos _ hl
    have zb : (2 : Int) ^ (29 + 4 * i) ≤ 2 ^ 63 := by exact_mod_cast Nat.pow_le_pow_right (by decide) (by omega)
    have z63 : z < 9223372036854775808 := by omega
    generalize (z / 7 + 5 * z + i) % st.length = w at w0 w1
    obtain ⟨j, rfl⟩ := Int.eq_ofNat_of_zero_le w0
    have hj : j < st.length := by omega
    refine ⟨⟨by decide, by decide⟩, .inl ⟨by decide, by decide⟩, by omega, ⟨by omega, by omega⟩, Is.intro (seqIndex_nat w0 w1) (Is.intro (x := D.str st[j].s) (by simp [hj]) ?_)⟩
    simp -dsimp [e2]
    have s20 : 20 < sizeLine := by decide
    refine ⟨by omega, ?_⟩
    rw [hIv, Mem.put4 hqp]
    have pm := erase_perm hj
    have pm2 : (fo ++ [st[j]] ++ st.eraseIdx j).Perm (fo ++ st) := by
      rw [List.append_assoc]
      exact List.Perm.append_left fo pm
    refine ⟨_, _, st.eraseIdx j, fo ++ [st[j]], rfl, ?_, by omega, ?_, ?_, by simp [l2], pm2.nodup_iff.mpr nd, fun x hx => mem x (pm2.mem_iff.mp hx)⟩
    · simp [cL, map_erase]
    · have : (2 : Int) ^ (29 + 4 * (i + 1)) = 16 * 2 ^ (29 + 4 * i) := by
        rw [show 29 + 4 * (i + 1) = 4 + (29 + 4 * i) by omega, Int.pow_add]; rfl
      have g : (2 : Int) ^ 29 ≤ 2 ^ (29 + 4 * i) := by exact_mod_cast Nat.pow_le_pow_right (by decide) (by omega)
      rw [this]
      omega
    · rw [List.length_eraseIdx_of_lt hj]; omega
  · intro env m' iv
    rw [hIv] at iv
    obtain ⟨z, x4, st, fo, rfl, rfl, z0, z1, l1, l2, nd, mem⟩ := iv
    simp -dsimp
    refine ⟨m, Mem.le_trans (Mem.le_put hp) (Mem.le_put (by rw [Mem.put_ne hqp]; exact hmq)), hQ fo (List.nodup_append.mp nd).1 (fun x hx => mem x (List.mem_append_left _ hx)) (by omega)⟩
end DL

/-! KM: the merge as a function. -/
namespace DL
open PySem PySem.Spec L2
theorem size_cons (r : Nm) (rs : List Nm) : size (r :: rs) = r.length + size rs := by simp [size]
theorem mem_headsOf : ∀ (rows : List Nm) (f : Nm) (x : Nme), x ∈ headsOf rows f ↔ x ∈ f ∨ ∃ r ∈ rows, r.head? = some x
  | [], f, x => by simp [headsOf]
  | [] :: rs, f, x => by rw [headsOf, mem_headsOf rs f x]; simp
  | (y :: t) :: rs, f, x => by
    rw [headsOf, mem_headsOf rs _ x]
    by_cases h : y ∈ f
    · rw [if_pos h]
      simp only [List.mem_cons, exists_eq_or_imp, List.head?_cons, Option.some.injEq]
      constructor
      · rintro (a | b)
        · exact .inl a
        · exact .inr (.inr b)
      · rintro (a | rfl | b)
        · exact .inl a
        · exact .inl h
        · exact .inr b
    · rw [if_neg h]
      simp only [List.mem_append, List.mem_cons, exists_eq_or_imp, List.head?_cons, Option.some.injEq, List.not_mem_nil, or_false]
      constructor
      · rintro ((a | rfl) | b)
        · exact .inl a
        · exact .inr (.inl rfl)
        · exact .inr (.inr b)
      · rintro (a | rfl | b)
        · exact .inl (.inl a)
        · exact .inl (.inr rfl)
        · exact .inr b
theorem mem_freeOf {rows : List Nm} {x : Nme} : x ∈ freeOf rows ↔ (∃ r ∈ rows, r.head? = some x) ∧ ∀ r ∈ rows, x ∉ r.tail := by
  unfold freeOf
  rw [List.mem_filter, mem_headsOf]
  simp
theorem cutRow_len (x : Nme) (r : Nm) : (cutRow x r).length ≤ r.length := by
  unfold cutRow; split
  · simp
  · exact Nat.le_refl _
theorem size_filter (rows : List Nm) : size (rows.filter fun r => decide (r ≠ [])) = size rows := by
  induction rows with
  | nil => rfl
  | cons r rs ih =>
    by_cases h : r = []
    · subst h
      rw [List.filter_cons_of_neg (by simp), size_cons, ih]; simp
    · rw [List.filter_cons_of_pos (by simp [h]), size_cons, size_cons, ih]
theorem size_cut_le (x : Nme) (rows : List Nm) : size (rows.map (cutRow x)) ≤ size rows := by
  induction rows with
  | nil => exact Nat.le_refl _
  | cons r rs ih =>
    rw [List.map_cons, size_cons, size_cons]
    have := cutRow_len x r
    omega
theorem size_cut (x : Nme) {rows : List Nm} (h : ∃ r ∈ rows, r.head? = some x) : size (cutRows x rows) < size rows := by
  unfold cutRows
  rw [size_filter]
  induction rows with
  | nil => obtain ⟨r, hr, _⟩ := h; cases hr
  | cons r rs ih =>
    rw [List.map_cons, size_cons, size_cons]
    by_cases hr : r.head? = some x
    · have h1 : (cutRow x r).length < r.length := by
        unfold cutRow; rw [if_pos hr]
        cases r with
        | nil => cases hr
        | cons a t => simp
      have := size_cut_le x rs
      omega
    · have h2 : ∃ r ∈ rs, r.head? = some x := by
        obtain ⟨s, hs, hx⟩ := h
        rcases List.mem_cons.mp hs with rfl | hs
        · exact absurd hx hr
        · exact ⟨s, hs, hx⟩
      have := ih h2
      have := cutRow_len x r
      omega
/-- one more step of fuel changes nothing -/
theorem mrg_fuel : ∀ (n : Nat) (rows : List Nm), size rows < n → mrg n rows = mrg (size rows + 1) rows
  | 0, rows, h => by omega
  | n + 1, rows, h => by
    have step : ∀ k, mrg (k + 1) rows = if rows = [] then .ok [] else match freeOf rows with
        | [] => .error (headsOf rows [])
        | x :: _ => consE x (mrg k (cutRows x rows)) := fun k => rfl
    rw [step n, step (size rows)]
    by_cases hr : rows = []
    · rw [if_pos hr, if_pos hr]
    · rw [if_neg hr, if_neg hr]
      cases hf : freeOf rows with
      | nil => rfl
      | cons x t =>
        have hx : x ∈ freeOf rows := by rw [hf]; exact List.mem_cons_self
        have hs := size_cut x (mem_freeOf.mp hx).1
        have e1 := mrg_fuel n (cutRows x rows) (by omega)
        have e2 : mrg (size rows) (cutRows x rows) = mrg (size (cutRows x rows) + 1) (cutRows x rows) := by
          cases n with
          | zero => omega
          | succ n' =>
            by_cases q : size rows ≤ n'
            · exact mrg_fuel (size rows) _ hs
            · have : size rows = n' + 1 := by omega
              rw [this]; exact e1
        simp only [e1, e2]
def mg (rows : List Nm) : Except Nm Nm := mrg (size rows + 1) rows
theorem mg_nil : mg [] = .ok [] := rfl
theorem mg_step {rows : List Nm} (h : rows ≠ []) : mg rows = match freeOf rows with
    | [] => .error (headsOf rows [])
    | x :: _ => consE x (mg (cutRows x rows)) := by
  have step : mg rows = if rows = [] then .ok [] else match freeOf rows with
        | [] => .error (headsOf rows [])
        | x :: _ => consE x (mrg (size rows) (cutRows x rows)) := rfl
  rw [step, if_neg h]
  cases hf : freeOf rows with
  | nil => rfl
  | cons x t =>
    have hx : x ∈ freeOf rows := by rw [hf]; exact List.mem_cons_self
    have hs := size_cut x (mem_freeOf.mp hx).1
    show consE x (mrg (size rows) (cutRows x rows)) = _
    rw [mrg_fuel (size rows) (cutRows x rows) hs]
    rfl
theorem merged_mg (rows : List Nm) : merged rows = mg (rows.filter fun r => decide (r ≠ [])) := rfl
/-- what a merge gives: every row in its order, no name twice, no other names -/
theorem mg_ok : ∀ (n : Nat) (rows : List Nm) (r : Nm), size rows ≤ n → (∀ x ∈ rows, x ≠ []) → mg rows = .ok r → (∀ s ∈ rows, s.Sublist r) ∧ r.Nodup ∧ (∀ x ∈ r, ∃ s ∈ rows, x ∈ s)
  | n, [], r, _, _, e => by rw [mg_nil] at e; cases e; exact ⟨by simp, List.nodup_nil, by simp⟩
  | 0, s :: rows, r, hn, hne, e => by
    have := hne s List.mem_cons_self
    rw [size_cons] at hn
    have : s.length = 0 := by omega
    exact absurd (List.length_eq_zero_iff.mp this) (by assumption)
  | n + 1, s :: rows, r, hn, hne, e => by
    generalize hR : s :: rows = R at *
    have hRn : R ≠ [] := by rw [← hR]; simp
    rw [mg_step hRn] at e
    cases hf : freeOf R with
    | nil => rw [hf] at e; cases e
    | cons x t =>
      rw [hf] at e
      have e : consE x (mg (cutRows x R)) = .ok r := e
      have hx : x ∈ freeOf R := by rw [hf]; exact List.mem_cons_self
      obtain ⟨hh, hfree⟩ := mem_freeOf.mp hx
      have hs := size_cut x hh
      cases hm : mg (cutRows x R) with
      | error h => rw [hm] at e; cases e
      | ok r' =>
        rw [hm] at e
        have e : Except.ok (x :: r') = (Except.ok r : Except Nm Nm) := e
        cases e
        have hc : ∀ z ∈ cutRows x R, z ≠ [] := fun z hz => by
          unfold cutRows at hz
          have := (List.mem_filter.mp hz).2
          simpa using this
        obtain ⟨i1, i2, i3⟩ := mg_ok n (cutRows x R) r' (by omega) hc hm
        have notin : ∀ z ∈ R, x ∉ cutRow x z := fun z hz hxz => by
          unfold cutRow at hxz
          split at hxz
          · exact hfree z hz hxz
          · rename_i hd
            cases z with
            | nil => cases hxz
            | cons a b =>
              rcases List.mem_cons.mp hxz with rfl | hb
              · exact hd rfl
              · exact hfree _ hz hb
        have sub : ∀ z ∈ R, (cutRow x z).Sublist r' := fun z hz => by
          by_cases h0 : cutRow x z = []
          · rw [h0]; exact List.nil_sublist _
          · exact i1 _ (by unfold cutRows; rw [List.mem_filter]; exact ⟨List.mem_map_of_mem hz, by simp [h0]⟩)
        refine ⟨fun z hz => ?_, ?_, ?_⟩
        · have hsub := sub z hz
          unfold cutRow at hsub
          split at hsub
          · rename_i hd
            cases z with
            | nil => cases hd
            | cons a b =>
              rw [List.head?_cons] at hd
              cases hd
              exact hsub.cons₂ _
          · exact hsub.cons _
        · refine List.nodup_cons.mpr ⟨fun hxr => ?_, i2⟩
          obtain ⟨z, hz, hxz⟩ := i3 x hxr
          unfold cutRows at hz
          obtain ⟨w, hw, rfl⟩ := List.mem_map.mp (List.mem_filter.mp hz).1
          exact notin w hw hxz
        · intro y hy
          rcases List.mem_cons.mp hy with rfl | hy
          · obtain ⟨z, hz, hd⟩ := hh
            exact ⟨z, hz, List.mem_of_mem_head? hd⟩
          · obtain ⟨z, hz, hyz⟩ := i3 y hy
            unfold cutRows at hz
            obtain ⟨w, hw, rfl⟩ := List.mem_map.mp (List.mem_filter.mp hz).1
            refine ⟨w, hw, ?_⟩
            unfold cutRow at hyz
            split at hyz
            · exact List.mem_of_mem_tail hyz
            · exact hyz
theorem merged_ok {rows : List Nm} {r : Nm} (e : merged rows = .ok r) : (∀ s ∈ rows, s.Sublist r) ∧ r.Nodup ∧ (∀ x ∈ r, ∃ s ∈ rows, x ∈ s) := by
  rw [merged_mg] at e
  obtain ⟨a, b, c⟩ := mg_ok _ _ r (Nat.le_refl _) (fun z hz => by have := (List.mem_filter.mp hz).2; simpa using this) e
  refine ⟨fun s hs => ?_, b, fun x hx => ?_⟩
  · by_cases h : s = []
    · rw [h]; exact List.nil_sublist _
    · exact a s (List.mem_filter.mpr ⟨hs, by simp [h]⟩)
  · obtain ⟨s, hs, h⟩ := c x hx
    exact ⟨s, (List.mem_filter.mp hs).1, h⟩
/-- a part of a row without doubles, picked by its own names -/
theorem sub_filter : ∀ {a b : Nm}, a.Sublist b → b.Nodup → b.filter (fun x => decide (x ∈ a)) = a
  | _, _, .slnil, _ => rfl
  | _, _, .cons (l₁ := a) (l₂ := b) x h, hn => by
    obtain ⟨h1, h2⟩ := List.nodup_cons.mp hn
    have hx : x ∉ a := fun z => h1 (h.subset z)
    rw [List.filter_cons_of_neg (by simpa using hx)]
    exact sub_filter h h2
  | _, _, .cons₂ (l₁ := a) (l₂ := b) x h, hn => by
    obtain ⟨h1, h2⟩ := List.nodup_cons.mp hn
    rw [List.filter_cons_of_pos (by simp)]
    have ih := sub_filter h h2
    congr 1
    rw [show b.filter (fun y => decide (y ∈ x :: a)) = b.filter (fun y => decide (y ∈ a)) from List.filter_congr fun y hy => by
      have : y ≠ x := fun z => h1 (z ▸ hy)
      simp [this]]
    exact ih
end DL

/-! KP2: the two merges keep their promises. -/
namespace DL
open PySem PySem.Spec L2
def appE (a : Nm) : Except Nm Nm → Except Nm Nm
  | .ok r => .ok (a ++ r)
  | .error h => .error h
theorem appE_cons (a : Nm) (x : Nme) (e : Except Nm Nm) : appE a (consE x e) = appE (a ++ [x]) e := by cases e <;> simp [appE, consE]
theorem appE_nil (e : Except Nm Nm) : appE [] e = e := by cases e <;> rfl
theorem size_ge {a : List Nm} (h : ∀ r ∈ a, r ≠ []) : a.length ≤ size a := by
  induction a with
  | nil => exact Nat.le_refl _
  | cons r rs ih =>
    rw [size_cons, List.length_cons]
    have h1 := ih fun x hx => h x (List.mem_cons_of_mem _ hx)
    have h2 : 0 < r.length := List.length_pos_iff.mpr (h r List.mem_cons_self)
    omega
theorem flat_tails (a : List Nm) : (a.map List.tail).flatten.length ≤ size a := by
  induction a with
  | nil => exact Nat.le_refl _
  | cons r rs ih => rw [List.map_cons, List.flatten_cons, List.length_append, size_cons, List.length_tail]; omega
theorem headsOf_len : ∀ (a : List Nm) (f : Nm), (headsOf a f).length ≤ f.length + a.length
  | [], f => by simp [headsOf]
  | [] :: rs, f => by rw [headsOf]; have := headsOf_len rs f; simp; omega
  | (x :: t) :: rs, f => by
    rw [headsOf]
    have := headsOf_len rs (if x ∈ f then f else f ++ [x])
    split at this <;> simp at this ⊢ <;> (split <;> simp_all <;> omega)
theorem free_tails (a : List Nm) : ((headsOf a []).filter fun x => decide (x ∉ (a.map List.tail).flatten)) = freeOf a := by
  unfold freeOf
  apply List.filter_congr
  intro x _
  simp
theorem mem_tails {a : List Nm} {x : Nme} : x ∈ (a.map List.tail).flatten ↔ ∃ r ∈ a, x ∈ r.tail := by
  rw [List.mem_flatten]
  constructor
  · rintro ⟨l, hl, hx⟩
    obtain ⟨r, hr, rfl⟩ := List.mem_map.mp hl
    exact ⟨r, hr, hx⟩
  · rintro ⟨r, hr, hx⟩
    exact ⟨r.tail, List.mem_map_of_mem hr, hx⟩
theorem cutRows_len (x : Nme) (a : List Nm) : (cutRows x a).length ≤ a.length := by
  unfold cutRows
  have := List.length_filter_le (fun r => decide (r ≠ [])) (a.map (cutRow x))
  rwa [List.length_map] at this
theorem cutRows_ne (x : Nme) (a : List Nm) : ∀ r ∈ cutRows x a, r ≠ [] := fun r hr => by
  unfold cutRows at hr
  have := (List.mem_filter.mp hr).2
  simpa using this
theorem szl : 100000 < sizeLine := by decide
theorem spec_lmerge : ∀ ds m Q E, sp_lmerge ds m Q E → rd__law_merge (Dend Q E) (startD ["_law_rows", "_law_found", "_law_heads", "_law_row_here", "_law_tails", "_law_free", "_law_head"] ds) m := by
  rintro ds m Q E ⟨d, rows, rfl, hsq, hl, hrl, hQ⟩
  show rd__law_merge (Dend Q E) [some d, none, none, none, none, none, none] m
  have sz := szl
  simp -dsimp [rd__law_merge]
  refine LcX.intro rows dT (fun r => if r ≠ [] then some r else none) dL inj_dT hsq (by omega) ?_ ?_
  · intro r hr m' hm
    simp -dsimp
    cases r with
    | nil => simp
    | cons x t => simp
  rw [fm_if]
  simp -dsimp
  intro q hq
  have hfe : rows.filter (fun r => !decide (r = [])) = rows.filter (fun r => decide (r ≠ [])) := by congr 1; funext r; simp
  rw [hfe]
  generalize ha : rows.filter (fun r => decide (r ≠ [])) = a0
  have ha0 : ∀ r ∈ a0, r ≠ [] := fun r hr => by rw [← ha] at hr; simpa using (List.mem_filter.mp hr).2
  have hs0 : size a0 ≤ 10000 := by
    have : ∀ l : List Nm, (∀ r ∈ l, r.length ≤ 100) → size l ≤ 100 * l.length := fun l => by
      induction l with
      | nil => intro _; exact Nat.le_refl _
      | cons r rs ih =>
        intro h
        rw [size_cons, List.length_cons]
        have := ih fun x hx => h x (List.mem_cons_of_mem _ hx)
        have := h r List.mem_cons_self
        omega
    rw [← ha, size_filter]
    have := this rows hrl
    omega
  have hm : merged rows = mg a0 := by rw [merged_mg, ha]
  obtain ⟨S, hS⟩ : ∃ S : List Nm × Nm → En → Mem → Prop, S = fun z env m' => (∃ x2 x3 x4 x5 x6, env = [some (.lst (z.1.map dL)), some (.ref q), x2, x3, x4, x5, x6]) ∧ lstOf m' (.ref q) = some (z.2.map fun x => D.str x.s) ∧ Ext m q m' ∧ (∀ r ∈ z.1, r ≠ []) ∧ z.2.length + size z.1 ≤ 10000 ∧ merged rows = appE z.2 (mg z.1) := ⟨_, rfl⟩
  refine WhileX.intro S (fun z => size z.1) (a0, []) ?_ ?_
  · rw [hS]
    exact ⟨⟨_, _, _, _, _, rfl⟩, by simp, Ext.start hq, ha0, by simpa using hs0, by rw [appE_nil, hm]⟩
  rintro ⟨a, acc⟩ env m' hs
  rw [hS] at hs
  obtain ⟨⟨x2, x3, x4, x5, x6, rfl⟩, h1, h2, h3, h4, h5⟩ := hs
  simp -dsimp
  simp at h1 h2 h3 h4 h5
  refine WhB_any.mpr ⟨fun hb => ?_, fun hb => ?_⟩
  · have hne : a ≠ [] := by simpa using hb
    simp -dsimp
    intro p hp
    have hqp : q ≠ p := fun z => by rw [← z] at hp; rw [lst_iff] at h1; rw [hp] at h1; cases h1
    obtain ⟨Iv, hIv⟩ : ∃ Iv : List Nm → List Nm → En → Mem → Prop, Iv = fun done rest env m2 => ∃ x3 hs, env = [some (.lst (a.map dL)), some (.ref q), some (.ref p), x3, x4, x5, x6] ∧ m2 = m'.put p (cL hs) ∧ headsOf a [] = headsOf rest hs ∧ (∀ r ∈ rest, r ≠ []) ∧ hs.length + rest.length ≤ a.length := ⟨_, rfl⟩
    have hal := size_ge h3
    refine ForX.intro a dL inj_dL Iv rfl (by rw [hIv]; exact ⟨_, [], rfl, rfl, rfl, h3, by simp⟩) ?_ ?_
    · intro done r rest env m2 e iv
      rw [hIv] at iv
      obtain ⟨y3, hs, rfl, rfl, g1, g3, g2⟩ := iv
      refine ⟨rfl, ?_⟩
      obtain ⟨h, t, rfl⟩ := List.exists_cons_of_ne_nil (g3 r List.mem_cons_self)
      simp -dsimp
      simp at g2
      refine (Br_ndec (p := h ∈ hs)).mpr ⟨fun hn => ?_, fun hi => ?_⟩
      · simp -dsimp
        refine ⟨by omega, ?_⟩
        rw [hIv]
        refine ⟨_, hs ++ [h], rfl, by simp [cL], ?_, fun r hr => g3 r (List.mem_cons_of_mem _ hr), by simp; omega⟩
        rw [g1]; show headsOf ((h :: t) :: rest) hs = _; rw [headsOf, if_neg hn]
      · simp -dsimp
        rw [hIv]
        exact ⟨_, hs, rfl, rfl, by rw [g1, headsOf, if_pos hi], fun r hr => g3 r (List.mem_cons_of_mem _ hr), by omega⟩
    · intro env m2 iv
      rw [hIv] at iv
      obtain ⟨y3, hs, rfl, rfl, g1, _, g2⟩ := iv
      refine ⟨rfl, ?_⟩
      have g1 : headsOf a [] = hs := g1
      simp -dsimp
      refine LcX.intro a dL (fun r => some r.tail) dL inj_dL rfl (by omega) (fun r hr m3 _ => by simp -dsimp [-List.map_tail, tail_map]) ?_
      rw [fm_some]
      simp -dsimp [-List.map_map, -List.map_flatten, -List.map_tail, -List.length_flatten, lists_dL, flat_map_str]
      have ft := flat_tails a
      have hsl : hs.length ≤ a.length := by simpa using g2
      refine ⟨by omega, ?_⟩
      refine LcX.intro hs (fun x => D.str x.s) (fun x => if x ∉ (a.map List.tail).flatten then some x else none) (fun x => D.str x.s) inj_nm (by simp) (by omega) ?_ ?_
      · intro x hx m3 _
        simp -dsimp [-List.mem_flatten, -List.map_flatten, -List.map_tail]
      rw [fm_if, ← g1, free_tails]
      have hM : m.le (m'.put p (cL (headsOf a []))) := (h2.fresh hp).le
      have hE : Ext m q (m'.put p (cL (headsOf a []))) := h2.fresh hp
      have hq1 : lstOf (m'.put p (cL (headsOf a []))) (.ref q) = some (acc.map fun x => D.str x.s) := by rw [lstOf_ne hqp]; exact h1
      simp -dsimp
      refine Br_any.mpr ⟨fun hf => ?_, fun hf => ?_⟩
      · have hf : freeOf a = [] := by simpa using hf
        simp -dsimp
        refine ⟨m, hM, ?_⟩
        have e : mg a = .error (headsOf a []) := by rw [mg_step hne, hf]
        rw [h5, e] at hQ
        exact hQ
      · obtain ⟨x, t, hf⟩ : ∃ x t, freeOf a = x :: t := by
          cases q : freeOf a with
          | nil => rw [q] at hf; cases hf
          | cons x t => exact ⟨x, t, rfl⟩
        have e : mg a = consE x (mg (cutRows x a)) := by rw [mg_step hne, hf]
        have hx : x ∈ freeOf a := by rw [hf]; exact List.mem_cons_self
        have hsz := size_cut x (mem_freeOf.mp hx).1
        rw [hf]
        simp -dsimp [hq1]
        refine ⟨by omega, ?_⟩
        generalize hM2 : (m'.put p (cL (headsOf a []))).put q (.lst (acc.map (fun x => D.str x.s) ++ [D.str x.s])) = M2
        have e2 : lstOf M2 (.ref q) = some ((acc ++ [x]).map fun x => D.str x.s) := by rw [← hM2]; simp
        have hE2 : Ext m q M2 := by rw [← hM2]; exact hE.own
        refine LcX.intro a dL (fun r => some (cutRow x r)) dL inj_dL rfl (by omega) ?_ ?_
        · intro r hr m3 _
          obtain ⟨h, u, rfl⟩ := List.exists_cons_of_ne_nil (h3 r hr)
          simp -dsimp
          refine IteK_any.mpr ⟨fun hd => ?_, fun hd => ?_⟩
          · have hd : h = x := by simpa using hd
            subst hd
            simp -dsimp [cutRow]
          · have hd : ¬ h = x := by simpa using hd
            simp -dsimp [cutRow, hd]
        rw [fm_some]
        simp -dsimp
        refine LcX.intro (a.map (cutRow x)) dL (fun r => if r ≠ [] then some r else none) dL inj_dL (by simp) (by rw [List.length_map]; omega) ?_ ?_
        · intro r hr m3 _
          simp -dsimp
          cases r with
          | nil => simp
          | cons y t => simp
        rw [fm_if]
        simp -dsimp
        have hcut : (a.map (cutRow x)).filter (fun r => !decide (r = [])) = cutRows x a := by unfold cutRows; congr 1; funext r; simp
        rw [hcut]
        refine Nxt.intro (cutRows x a, acc ++ [x]) hsz ?_
        rw [hS]
        refine ⟨⟨_, _, _, _, _, rfl⟩, e2, hE2, cutRows_ne x a, by simp; omega, ?_⟩
        rw [h5, e, appE_cons]
  · have hne : a = [] := by simpa using hb
    subst hne
    rw [mg_nil] at h5
    simp -dsimp [h1]
    rw [h5] at hQ
    exact ⟨m, h2, by simpa [appE] using hQ⟩
end DL

/-! D11: defs as promises of calls; the law's end. -/
namespace DL
open PySem PySem.Spec L2
section
variable {g : Bool} {P : Program} {w : World} {K : Frag} {mg : Str → Option Value} {base : Heap} {k : Nat} {x qual : Str} {params : Arguments} {body : List Stmt} {scope : Scope} {kws : List (Str × V)} {f : Addr} {fd : FuncData} {N ps : List Str} {sp : SpD} {wb : WS}
/-- a def without defaults, every parameter written -/
theorem Fn.plain (F : FunD K x qual params body scope [] kws f fd) (S : FnScope N ps scope) (hl : ∀ ds m Q E, sp ds m Q E → ds.length = ps.length) (der : Der g P w K mg base k N scope body wb)
    (spec : ∀ ds m Q E, sp ds m Q E → wb (Dend Q E) (startD N ds) m) (hm : mg x = some (.ref f))
    (hb : ∀ (kV doc pm : Value) (an : Option Addr) (cdv ct : Value) (us : List Value), us.length = ps.length → bindArgs (PySem.W.fnOf x qual params body scope .none kV doc pm an cdv ct) ⟨us, []⟩ = pure (ps.zip us)) : Fn g P w K mg base (k + 1) x [] sp := by
  refine ⟨f, hm, F.kp, fun A outer s H us ws vs Q E hr e0 hw rv h => ?_⟩
  have ew : ws = [] := List.length_eq_zero_iff.mp hw
  subst ew
  rw [List.append_nil] at rv
  have hlen : us.length = ps.length := by
    obtain ⟨F0, m, ds, QD, ED, r, dn, h, _⟩ := h
    rw [← rv.length, ← dn.length]; exact hl _ _ _ _ h
  obtain ⟨oc, od, dV, kV, doc, pm, an, cdv, ct, osl, rfl, lk, hcd, hD, hK⟩ := F.ex
  rcases hD with ⟨_, rfl⟩ | ⟨e, _⟩
  · exact LamX.run_ofS lk hcd S hr.room e0 (.of_eq (hb kV doc pm an cdv ct us hlen)) rv (rv.length.trans hlen) fun hr' => body_rule der spec ⟨hr', hr.gd⟩ h
  · exact absurd rfl e
/-- .. n positional values, keywords ks -/
theorem Fn.kw (F : FunD K x qual params body scope [] kws f fd) (S : FnScope N ps scope) (hl : ∀ ds m Q E, sp ds m Q E → ds.length = ps.length) (der : Der g P w K mg base k N scope body wb)
    (spec : ∀ ds m Q E, sp ds m Q E → wb (Dend Q E) (startD N ds) m) (hm : mg x = some (.ref f)) (n : Nat) (ks : List Str) (perm : List Nat)
    (hb : ∀ (kV doc pm : Value) (an : Option Addr) (cdv ct : Value) (us ws : List Value), us.length = n → ws.length = ks.length → bindArgs (PySem.W.fnOf x qual params body scope .none kV doc pm an cdv ct) ⟨us, ks.zip ws⟩ = pure (ps.zip (sel perm (us ++ ws)))) :
    Fn g P w K mg base (k + 1) x ks (fun ds m Q E => ds.length = n + ks.length ∧ sp (sel perm ds) m Q E) := by
  refine ⟨f, hm, F.kp, fun A outer s H us ws vs Q E hr e0 hw rv ⟨F0, m, ds, QD, ED, r, dn, ⟨hn, h⟩, kq, ke⟩ => ?_⟩
  have l1 := rv.length
  have l2 := dn.length
  have l3 := hl _ _ _ _ h
  rw [List.length_append] at l1
  have dn' := sel_dens dn perm
  obtain ⟨oc, od, dV, kV, doc, pm, an, cdv, ct, osl, rfl, lk, hcd, hD, hK⟩ := F.ex
  rcases hD with ⟨_, rfl⟩ | ⟨e, _⟩
  · exact LamX.run_ofS lk hcd S hr.room e0 (.of_eq (hb kV doc pm an cdv ct us ws (by omega) hw)) (sel_vals rv perm) (by rw [← dn'.length]; exact l3) fun hr' => body_rule der spec ⟨hr', hr.gd⟩ ⟨F0, m, _, QD, ED, r, dn', h, kq, ke⟩
  · exact absurd rfl e
/-- def f(*v, k = d), called with the keyword written -/
theorem Fn.starK {pv nk : Str} (F : FunD K x qual params body scope [] kws f fd) (S : FnScope N ([nk] ++ [pv]) scope) (der : Der g P w K mg base k N scope body wb)
    (spec : ∀ ds m Q E, sp ds m Q E → wb (Dend Q E) (startD N ds) m) (hm : mg x = some (.ref f))
    (hb : ∀ (kV doc pm : Value) (an : Option Addr) (cdv ct : Value) (rest : List Value) (v : Value), bindArgs (PySem.W.fnOf x qual params body scope .none kV doc pm an cdv ct) ⟨rest, [(nk, v)]⟩ = (newTuple rest >>= fun t => pure [(nk, v), (pv, t)])) :
    Fn g P w K mg base (k + 1) x [nk] (fun ds m Q E => ∃ rest v, ds = rest ++ [v] ∧ rest.length ≤ sizeLine ∧ sp [v, .tup rest] m Q E) := by
  have R := fn_starD (sp := sp) F S der spec hm 0 [nk] [0] [] (ds0 := []) (dvs0 := []) .nil (fun _ => Dens.nil) (fun l h => by
    match l, h with
    | [a], _ => rfl) (fun s us rest ws _ h1 h2 M A E Q hw => by
    obtain ⟨oc, od, dV, kV, doc, pm, an, cdv, ct, osl, rfl, lk, hcd, hD, hK⟩ := F.ex
    match us, ws, h1, h2 with
    | [], [v], _, _ =>
      rcases hD with ⟨_, rfl⟩ | ⟨e, _⟩
      · show wpAny M A (bindArgs _ ⟨rest, [(nk, v)]⟩) Q E s
        rw [hb kV doc pm an cdv ct rest v]
        exact hw
      · exact absurd rfl e)
  exact R.imp fun ds m Q E ⟨rest, v, e, hz, h⟩ => ⟨[], rest, [v], by rw [e]; rfl, rfl, rfl, hz, h⟩
/-- the law's def, told without exceptions -/
theorem law_ok {p : Str} (ok : FnOk P w K mg base (CX P w) k f fd ps (liftSp K sp)) : FnOk P w K mg base CX0 k f fd ps (fun vs H Q _ => liftSp K sp vs H Q fun _ _ _ => False) :=
  ⟨fun vs H Q E h => ok.len vs H Q _ h, fun A outer s H args us vs Q E hr e0 hb rv h => codeAny_mono (ok.run A outer s H args us vs Q _ hr e0 hb rv h) fun r s' hq => by
    cases r with
    | ok fl => cases fl <;> exact hq
    | error e =>
      obtain ⟨a, B, H', cls, d, ea, fl, hok, un, na, os, ag, he⟩ := hq
      exact he.elim⟩
end
theorem den_ints {K : Frag} {F : Hp} : ∀ ns : List Int, Dens K F (ns.map D.int) (ns.map V.int)
  | [] => Dens.nil
  | n :: ns => Dens.cons (by simp only [Den]) (den_ints ns)
/-- the law's promise at its script -/
theorem law_at {K : Frag} {H : Hp} {a : Addr} {ns : List Int} {sp : SpD} (hS : SqL K H a (ns.map V.int)) (h : sp [.klst (ns.map .int)] (fun _ => none) (fun d _ => d = .bl true) (fun _ _ => False)) :
    liftSp K sp [.ref a] H (fun v _ => v = .bl true) (fun _ _ _ => False) :=
  ⟨H, fun _ => none, [.klst (ns.map .int)], _, _, ⟨Sub.refl H, fun _ _ e => by cases e⟩, Dens.one (by simp only [Den]; exact ⟨a, _, rfl, hS, den_ints ns⟩), h,
    fun v H' F' m' d _ _ dn e => by subst e; simpa only [Den] using dn, fun _ _ _ _ _ _ _ _ _ z => z⟩
end DL

/-! D12: classes of errors below ValueError whose __init__ says super().__init__(text), then stores. -/
namespace DL
open PySem PySem.Spec L2 NdefX

/-- what the written part tells of such a class at C, its __init__ at f (F: its words) -/
structure ErrK (prog : Program) (K : Frag) (C f cc : Addr) (F : NF) : Prop where
  T : OexC K C
  init : PySem.W.findIn K (.ref C) "__init__" = some (some (.ref f))
  tI : PySem.W.typeIn K (.ref f) = some (.type "function")
  cl : F.cl = [(("__class__" : Str), cc)]
  fn : ∃ oc od osl kV doc pm an ct, K.lookup f = some ⟨oc, od, .func (PySem.W.fnX F.name F.qual F.params F.body F.scope F.cl .none kV doc pm an (.ref F.c) ct), osl⟩
  code : PySem.W.codeIn K (.ref F.c) F.qual = true
  file : ∃ ccl cdd vs ccs file tf, K.lookup F.c = some ⟨ccl, cdd, .fields vs, ccs⟩ ∧ vs[2]? = some (.str file tf) ∧ ((prog.main.file : Str) == file) = true
  cell : ∃ cl cld csl, K.lookup cc = some ⟨cl, cld, .cell (some (.ref C)), csl⟩
  sup : PySem.W.ks_superIn K C C "__init__" = some (some (.builtin "ValueError.__init__"))
  isV : PySem.W.subIn K (.ref C) (.type "ValueError") = some true
  mro : PySem.W.mroIn K C (.ref C) = some true
  opq : PySem.W.nsIn K cStatics "thirdparty.any" = some none
  exi : PySem.W.excInitIn K C [.type "ValueError", .type "Exception", .type "BaseException", .type "object"] "ValueError.__new__" = true
section
variable {P : Program} {w : World} {K : Frag} {mg : Str → Option Value} {base : Heap} {C f cc : Addr} {F : NF} {N ps : List Str} {k : Nat} {sp : Sp} {slf txt : Str} {p0 p1 p2 p3 p4 pc : Pos} {jc} {rest : List Stmt}
theorem clsIn_at {cd : ClassData} (h : PySem.W.clsIn K C = some cd) : ∃ o, K.lookup C = some o ∧ o.data = .cls cd := by
  unfold PySem.W.clsIn at h
  split at h
  · rename_i c d cd' sl ho
    cases h
    exact ⟨_, ho, rfl⟩
  · cases h
/-- the statement super().__init__(text) -/
theorem super_line {X : Cx} {σ : St} {H : Hp} {s : Shared} {a : Addr} {body : List Stmt} {mloc : Str → Option Value} {ar : Arg} {Q : Flow → Shared → Prop} (W : ErrK X.prog X.K C f cc F) (I : Inv X [] σ H s)
    (henv : X.env = PySem.W.envX F.qual F.scope X.env.locals f (.ref F.c) F.cl) (hk : F.scope.kind = .function) (hks : F.scope.names.lookup ("super" : Str) = some .globalImplicit) (hkc : F.scope.names.lookup ("__class__" : Str) = some .free) (hka : F.scope.names.lookup ar.arg = some .local)
    (hp : (F.params.posonlyargs ++ F.params.args).head? = some ar) (hloc : s.heap.Ns X.env.locals mloc) (hself : mloc ar.arg = some (.ref a)) (ha : H a = some (exo a C none)) (hsm : X.mg "super" = none) (htop : (X.prog.main.scope.names.lookup ("super" : Str)).isSome = false)
    (hq : ∀ s', Inv X [] σ H s' → Q .next s') {pl : Sem Bool}
    (he : eval (.Call (.Attribute (.Call (.Name "super" p0) [] [] p1) "__init__" p2) [.Constant (.str txt) jc pc] [] p3) X.env = (do
      let ov ← attributeBase (.Call (.Name "super" p0) [] [] p1) "__init__" X.env (eval (.Call (.Name "super" p0) [] [] p1) X.env)
      standAt p2.atName
      let (f, first) ← holding [ov] (getMethod ov "__init__" pl)
      callWith p3 f first (backTo p3 (starEach [.Constant (.str txt) jc pc] X.env)) []))
    (hi : interactive X.env = false) (hs : swapsWith (.Call (.Attribute (.Call (.Name "super" p0) [] [] p1) "__init__" p2) [.Constant (.str txt) jc pc] [] p3) none p4.line X.env = pure false) :
    wpAt (model X.prog X.w) X.A (.func body X.env) (exec (.Expr (.Call (.Attribute (.Call (.Name "super" p0) [] [] p1) "__init__" p2) [.Constant (.str txt) jc pc] [] p3) p4) X.env) Q X.xe s := by
  obtain ⟨oc, od, osl, kV, doc, pm, an, ct, lk⟩ := W.fn
  obtain ⟨ccl, cdd, vs, ccs, file, tf, lc, hvs, hfile⟩ := W.file
  obtain ⟨cl, cld, csl, lcell⟩ := W.cell
  have KI := I.kIn
  have keys : ∃ cd, PySem.W.clsIn X.K C = some cd := by
    have := W.sup
    unfold PySem.W.ks_superIn at this
    cases q : PySem.W.clsIn X.K C with
    | none => rw [q] at this; cases this
    | some cd => exact ⟨cd, rfl⟩
  obtain ⟨cd, hcd⟩ := keys
  obtain ⟨oD, hD1, hD2⟩ := clsIn_at hcd
  have hsup : PySem.W.alongIn X.K "__init__" ((cd.mro.dropWhile (· != .ref C)).drop 1) = some (some (.builtin "ValueError.__init__")) := by
    have := W.sup
    unfold PySem.W.ks_superIn at this
    rw [hcd] at this
    exact this
  obtain ⟨t1, ho⟩ := exo_at I.hok ha
  obtain ⟨mb, hb1, hb2⟩ := I.mod.blt
  refine ks_wpAt_Expr_any (ks_wpAt_MethodCall ?_ he) hi hs
  obtain ⟨h, g, d, t, os⟩ := s
  refine ks_wpAt_super_base (env := X.env) (by rw [henv]; exact hks) (by rw [henv]; exact hkc) (by decide) (by rw [henv] <;> rfl) (KI _ _ lk) rfl hp (by rw [henv] <;> rfl) (KI _ _ lc) rfl hvs hfile htop ?_
  refine PySem.W.ks_loadName_global (by rw [henv]; exact hk) (by rw [henv]; exact hks) (Calls.loadGlobal_builtin (by rw [I.ok.glob]; exact I.mod.glob.keeps I.bk) hsm (by rw [I.ok.blt]; exact hb1.keeps I.bk) ((hb2 _ (by decide)).trans (by decide +kernel : bootBuiltins "super" = some (.type "super"))) ⟨rfl, ?_⟩)
  refine wpAny_loadName_free (v := .ref C) (by rw [henv]; exact hk) (by rw [henv]; exact hkc) (c := cc) (by rw [henv, W.cl] <;> rfl) ⟨_, KI _ _ lcell, rfl⟩ ?_
  refine wpAny_loadName_local (by rw [henv]; exact hk) (by rw [henv]; exact hka) hloc hself ?_
  refine ks_wpAny_isType_cls (KI _ _ hD1) hD2 ⟨rfl, ?_⟩
  refine ks_wpAny_call_super (KI _ _ hD1) hD2 ho rfl (fun c e => by cases e) (PySem.W.looks_mroIn KI W.mro) (fun h1 hso k1 => ?_)
  have I1 : Inv X [] σ H ⟨h1, g, d, t, os⟩ := I.kept (t' := t) k1
  have K1 := I1.kIn
  have hI : PySem.W.Looks (model X.prog X.w) h1 (isInstance (.ref a) (.type "ValueError")) true := by
    have Ia : PySem.W.InstAt h1 a _ C none := ⟨k1 _ _ ho, rfl, rfl, trivial⟩
    exact Ia.type.andThen (PySem.W.looks_subIn K1 W.isV)
  have hne : a ≠ C := fun z => by
    have e1 := KI _ _ hD1
    rw [← z] at e1
    have e2 := ho.symm.trans e1
    cases e2
    cases hD2
  refine PySem.W.kxs_getMethod PySem.W.kxs_ValueError hso (PySem.W.looks_opaque K1 W.opq) (l₀ := cd.mro) (fun A Q E s k q => wpAny_bind ((PySem.W.looks_clsIn K1 hcd) A _ E s k (wpAny_pure q))) rfl K1 hsup hI hne (by decide) ?_
  have k2 : ∀ b o, h1.get? b = some o → (h1.push (PySem.W.kxs_mw "ValueError.__init__" a)).get? b = some o := fun b o e => Heap.get?_push_of_some _ e
  have I2 : Inv X [] σ H ⟨h1.push (PySem.W.kxs_mw "ValueError.__init__" a), g, d, t + 1, os⟩ := I1.kept (t' := t + 1) k2
  have hu : (h1.push (PySem.W.kxs_mw "ValueError.__init__" a)).get? h1.objs.size = some (PySem.W.kxs_mw "ValueError.__init__" a) := Heap.get?_push_size _ rfl
  have hun : H h1.objs.size = none := I1.hok.fresh (Nat.le_refl _)
  have nofr : ∀ b : Addr, (∃ o, h1.get? b = some o) → b ≠ h1.objs.size := fun b ⟨o, e⟩ z => by
    have := Heap.lt_size e
    rw [z] at this
    exact Nat.lt_irrefl _ this
  have hpl : (backTo p3 (starEach [.Constant (.str txt) jc pc] X.env)).any (·.1) = false := rfl
  have I3 : Inv X [(h1.objs.size, PySem.W.kxs_mw "ValueError.__init__" a)] σ H ⟨h1.push (PySem.W.kxs_mw "ValueError.__init__" a), g, d, t + 1, os⟩ := by
    refine I2.pins_of fun p hp => ?_
    rw [List.mem_singleton.mp hp]
    refine ⟨hu, hun, ?_, ?_, fun v e => by cases e⟩
    · intro z
      obtain ⟨m, ⟨o, _, _, e, _⟩, _⟩ := I1.loc
      exact nofr _ ⟨o, e⟩ z.symm
    · intro z
      obtain ⟨_, o, e, _⟩ := I1.funs.mem z
      exact nofr _ ⟨o, e⟩ rfl
  have hA : PA X [.Constant (.str txt) jc pc] (tCons (tC (.str txt)) tNil) := pa_cons pe_str pa_nil
  refine PySem.W.kxs_callWith (i := "ValueError.__init__") (x := a) hpl (Calls.evalArgs_plain (thn (hA.run p3 _ _ σ H (fun vs H' => vs = [.str txt] ∧ H' = H) I3 ⟨rfl, rfl⟩) fun us s4 ⟨vs, H4, I4, r4, ev, eh⟩ => ?_))
  subst ev eh
  have hu4 := (I4.pin (h1.objs.size, PySem.W.kxs_mw "ValueError.__init__" a) (by simp)).1
  refine ⟨hu4, ?_⟩
  have hlen : us.length ≤ sizeLine := by rw [← r4.length]; exact Nat.le_trans (show [V.str txt].length ≤ 1 from Nat.le_refl _) (by decide)
  obtain ⟨t4, ho4⟩ := exo_at I4.hok ha
  obtain ⟨nm, N', qn, bs, bm, hdct, sn, sub, ab, col, dd, k0, k1', k2', k3, k5, hC, hT⟩ := PySem.W.excInit_of I4.kIn W.exi
  obtain ⟨h4, g4, d4, tk4, os4⟩ := s4
  refine wpAny_call (codeAny_of_tree ?_)
  show wpAny _ X.A.in1 (callAny (.ref h1.objs.size) ⟨us, []⟩) _ _ _
  simp only [callAny]
  refine wpAny_bind (wpAny_load hu4 ?_)
  simp only [PySem.W.kxs_mw, show (Value.type "method-wrapper" == Value.type "method" || Value.type "method-wrapper" == Value.type "builtin_function_or_method" || Value.type "method-wrapper" == Value.type "method-wrapper") = true by decide, if_true]
  refine PySem.W.KFB.if_so (by decide) ?_
  refine wpAny_bind (PySem.W.check_bound_init PySem.F.excBase_ValueError.toExcCallFacts hC ho4 rfl ?_)
  refine wpAny_bind (wpAny_pure (wpAny_pure ?_))
  refine ⟨plainId_quiet PySem.F.excBase_ValueError.init.plain _, codeAny_builtin PySem.F.excBase_ValueError.initEntry ?_⟩
  refine PySem.W.exc_init_tree (cls := .ref C) (t0 := t4) (dv := none) (c2 := .none) (c3 := .none) (b4 := .bool false) ho4 hlen fun h' kk hx _ => ?_
  have J := I4.write (t' := tk4) (x := a) (e := a) (o := exo a C none) (by rw [ha]; exact True.intro) (.inl rfl) kk ⟨_, hx⟩ (exo_ok hx)
  have eu : upd H4 a (exo a C none) = H4 := by
    funext b
    by_cases hb : b = a
    · rw [hb, upd_same, ha]
    · rw [upd_ne hb]
  rw [eu] at J
  exact hq _ (J.pins_of fun p hp => absurd hp (by simp))
/-- such an __init__, by the rest of its body -/
theorem err_init {ar : Arg} (W : ErrK P K C f cc F) (S : NScope N ps ["__class__"] F.scope) (hks : F.scope.names.lookup ("super" : Str) = some .globalImplicit)
    (hb : ∀ (kV doc pm : Value) (an : Option Addr) (ct : Value) (us : List Value), us.length = ps.length → bindArgs (PySem.W.fnX F.name F.qual F.params F.body F.scope F.cl .none kV doc pm an (.ref F.c) ct) ⟨us, []⟩ = pure (ps.zip us))
    (hp : (F.params.posonlyargs ++ F.params.args).head? = some ar) (h0 : ∃ r, ps = ar.arg :: r) (hbody : F.body = .Expr (.Call (.Attribute (.Call (.Name "super" p0) [] [] p1) "__init__" p2) [.Constant (.str txt) jc pc] [] p3) p4 :: rest)
    (hsm : mg "super" = none) (htop : (P.main.scope.names.lookup ("super" : Str)).isSome = false)
    (he : ∀ L, ∃ pl : Sem Bool, eval (.Call (.Attribute (.Call (.Name "super" p0) [] [] p1) "__init__" p2) [.Constant (.str txt) jc pc] [] p3) (envF F f L) = (do
      let ov ← attributeBase (.Call (.Name "super" p0) [] [] p1) "__init__" (envF F f L) (eval (.Call (.Name "super" p0) [] [] p1) (envF F f L))
      standAt p2.atName
      let (g, first) ← holding [ov] (getMethod ov "__init__" pl)
      callWith p3 g first (backTo p3 (starEach [.Constant (.str txt) jc pc] (envF F f L))) []))
    (hi : ∀ L, interactive (envF F f L) = false) (hs : ∀ L, swapsWith (.Call (.Attribute (.Call (.Name "super" p0) [] [] p1) "__init__" p2) [.Constant (.str txt) jc pc] [] p3) none p4.line (envF F f L) = pure false)
    (hlen : ∀ vs H Q E, sp vs H Q E → vs.length = ps.length)
    (hrest : ∀ (A : Around) (outer : List Env) (s : Shared) (H : Hp) (vs : List V) (Q : VK) (E : XK), Room k (A.deeper (envF F f s.heap.objs.size)) → sp vs H Q E → ∃ a vs', vs = .ref a :: vs' ∧ H a = some (exo a C none) ∧
      ∃ t, PSs (ncx (CX P w) P w K mg base N F f A outer s H E) rest t ∧ t { nx := fun _ H' => Q .non H', rt := Q } (startF N vs [some (.ref C)]) H) :
    ∃ fd, FnOk P w K mg base (CX P w) (k + 1) f fd ps sp ∧ Binds K fd ps [] := by
  obtain ⟨oc, od, osl, kV, doc, pm, an, ct, lk⟩ := W.fn
  obtain ⟨cl, cld, csl, lcell⟩ := W.cell
  refine ⟨_, ⟨hlen, fun A outer s H args us vs Q E hr e0 hbind r hsp => ?_⟩, Binds.all (hb kV doc pm an ct)⟩
  have KX : K.In s.heap := e0.mod.kin.keeps fun b o e => (e0.bs b o e).1
  obtain ⟨a, vs', ev, ha, t, ht, hq⟩ := hrest A outer s H vs Q E (hr.deeper _) hsp
  obtain ⟨psr, hpsr⟩ := h0
  refine ks_codeAny_call_defAt hr.depth (KX _ _ lk) rfl (e0.mod.nolimit.keeps fun b o e => (e0.bs b o e).1) (PySem.W.codeRec_of KX W.code) rfl hbind S.nocell (fun y hy => S.par y.1 (List.of_mem_zip hy).1) (fun h₁ hns kp => ?_) S.co S.gen S.kind
  have hcellA : CellsAt F.cl ["__class__"] [some (.ref C)] s.heap H := by
    rw [W.cl]
    have only : ∀ (y : Str) (c : Addr), [(("__class__" : Str), cc)].lookup y = some c → y = "__class__" ∧ c = cc := fun y c e => by
      rw [List.lookup_cons] at e
      split at e
      · rename_i q
        cases e
        exact ⟨beq_iff_eq.mp q, rfl⟩
      · cases e
    refine ⟨rfl, fun y c e => ?_, fun x y c e1 e2 => ?_, fun i y e => ?_⟩
    · obtain ⟨_, rfl⟩ := only y c e
      exact ⟨(e0.bs _ _ (e0.mod.kin _ _ lcell)).2, some (.ref C), _, KX _ _ lcell, rfl⟩
    · rw [(only x c e1).1, (only y c e2).1]
    · match i, e with
      | 0, e =>
        have e : some ("__class__" : Str) = some y := e
        cases e
        exact ⟨cc, rfl, fun v ev => by
          have ev : some (some (V.ref C)) = some (some v) := ev
          cases ev
          exact ⟨.ref C, rfl, _, KX _ _ lcell, rfl⟩⟩
  have I : Inv (ncx (CX P w) P w K mg base N F f A outer s H E) [] (startF N vs [some (.ref C)]) H { s with heap := h₁, toks := s.toks + (ps.zip us).length } := inv_startN S hr.hd e0 (hlen _ _ _ _ hsp) r hcellA hns kp
  show wpAt (model P w) (ncx (CX P w) P w K mg base N F f A outer s H E).A (.func F.body (ncx (CX P w) P w K mg base N F f A outer s H E).env) (execs F.body (ncx (CX P w) P w K mg base N F f A outer s H E).env) _ _ _
  have hx : execs F.body (ncx (CX P w) P w K mg base N F f A outer s H E).env = execs (.Expr (.Call (.Attribute (.Call (.Name "super" p0) [] [] p1) "__init__" p2) [.Constant (.str txt) jc pc] [] p3) p4 :: rest) (ncx (CX P w) P w K mg base N F f A outer s H E).env := by rw [hbody]
  rw [hx]
  obtain ⟨pl, he'⟩ := he s.heap.objs.size
  refine ks_wpAt_mono (Q := fun fl s' => CR (CX P w) outer P w H s Q E (.ok (.ret (match fl with | .ret v => v | _ => .none))) s') (E := (ncx (CX P w) P w K mg base N F f A outer s H E).xe)
    (ks_wpAt_execs_cons (super_line (X := ncx (CX P w) P w K mg base N F f A outer s H E) (mloc := fun y => (ps.zip us).reverse.lookup y) W I rfl S.kind hks (S.frk _ (by simp)) (S.par _ (by rw [hpsr]; simp)) hp hns ?hself ha hsm htop (fun s' I' => ?hq) he' (hi _) (hs _))) (fun _ _ z => z) (fun _ _ z => z)
  case hself =>
    have ndP : ps.Nodup := by
      have q := S.nd.sublist (List.take_sublist (ps.length + [("__class__" : Str)].length) N)
      rw [S.pre] at q
      exact (List.nodup_append.mp q).1
    subst ev
    cases r with
    | @cons _ u0 _ ur ra rw' =>
      have e0' : u0 = Value.ref a := ra
      subst e0'
      exact zip_look (i := 0) ndP (by rw [hpsr]; rfl) rfl
  case hq =>
    refine wpAt_of_wpAny (wpAny_mono (ht.run [] s' _ H _ I' hq) (fun fl s'' hs' => ?_) fun e s'' hs' => hs')
    have fin : ∀ {σ' : L2.St} {H' : Hp} {v : V} {u : Value}, Inv (ncx (CX P w) P w K mg base N F f A outer s H E) [] σ' H' s'' → L2.RelV v u → Q v H' → CE outer P w H s Q u s'' :=
      fun {σ' H' v u} J rv q => ⟨v, H', J.os, J.bare, J.base, J.hok, rv, q⟩
    cases fl with
    | ret u =>
      obtain ⟨v, σ', H', J, rv, q⟩ := hs'
      exact fin J rv q
    | next =>
      obtain ⟨σ', H', J, q⟩ := hs'
      exact fin (v := V.non) (u := Value.none) J rfl q
    | brk =>
      obtain ⟨_, _, _, q⟩ := hs'
      exact False.elim q
    | cont =>
      obtain ⟨_, _, _, q⟩ := hs'
      exact False.elim q
end
end DL

/-! D13: own errors: their __init__ by its fields, raise. -/
namespace DL
open PySem PySem.Spec L2 NdefX
/-- H', behind the fields l of the error at a -/
def ExH (H H' : Hp) (a C dx : Addr) (l : List (Str × V)) : Prop := H' a = some (exo a C (some dx)) ∧ H' dx = some (exd dx l) ∧ ∀ b, b ≠ a → b ≠ dx → H' b = H b
def spErr (C : Addr) (fs : List Str) : Sp := fun vs H Q _ => ∃ a ys, vs = .ref a :: ys ∧ ys.length = fs.length ∧ H a = some (exo a C none) ∧ ∀ dx H', H dx = none → dx ≠ a → ExH H H' a C dx (fs.zip ys).reverse → Q .non H'
/-- the statements self.f = y, one after the other; l: the field and the place of y -/
inductive StoreOk (X : Cx) : List Stmt → List (Str × Nat) → Prop
  | nil : StoreOk X [] []
  | cons {o e : Expr} {f : Str} {i : Nat} {p p' : Pos} {st : List Stmt} {l : List (Str × Nat)} (ho : PE X o (tVar 0)) (he : PE X e (tVar i)) (hs : swapsWith e (some (.Attribute o f p')) p.line X.env = pure false) (r : StoreOk X st l) :
      StoreOk X (.Assign [.Attribute o f p'] e p :: st) ((f, i) :: l)
section
variable {X : Cx} {C : Addr}
theorem stores {st : List Stmt} {l : List (Str × Nat)} (h : StoreOk X st l) (T : OexC X.K C) : ∃ t, PSs X st t ∧ ∀ (σ : St) (H : Hp) (D : Ends) (a dx : Addr) (fs : List (Str × V)) (ys : List V), (∀ p ∈ l, PySem.W.findIn X.K (.ref C) p.1 = some none) → σ[0]? = some (some (.ref a)) →
    Paired (fun (p : Str × Nat) y => σ[p.2]? = some (some y)) l ys → H a = some (exo a C (some dx)) → H dx = some (exd dx fs) → fs.length + l.length ≤ 900 → dx ≠ a → (∀ H', ExH H H' a C dx (((l.map (·.1)).zip ys).reverse ++ fs) → D.nx σ H') → t D σ H := by
  induction h with
  | nil =>
    refine ⟨_, pss_nil, fun σ H D a dx fs ys _ _ hp h1 h2 _ _ k => ?_⟩
    cases hp
    exact k H ⟨h1, h2, fun _ _ _ => rfl⟩
  | @cons o e f i p p' st l ho he hs r ih =>
    obtain ⟨t, ht, hk⟩ := ih
    refine ⟨_, pss_cons (ps_ost ho he hs) ht, fun σ H D a dx fs ys hno h0 hp h1 h2 hl hne k => ?_⟩
    cases hp with
    | @cons _ y _ ys' hy hr =>
      refine ⟨y, hy, .ref a, h0, a, C, rfl, T, hno _ (List.mem_cons_self ..), .inr ⟨dx, fs, h1, h2, by simp at hl; omega, ?_⟩⟩
      refine hk σ _ D a dx ((f, y) :: fs) ys' (fun q hq => hno q (List.mem_cons_of_mem _ hq)) h0 hr ?_ upd_same (by simp at hl ⊢; omega) hne fun H' ⟨e1, e2, e3⟩ => k H' ⟨e1, ?_, fun b n1 n2 => ?_⟩
      · rw [upd_ne (Ne.symm hne)]; exact h1
      · rw [e2]; simp
      · rw [e3 b n1 n2, upd_ne n2]
/-- all of them, the first one makes the dict -/
theorem stores_new {st : List Stmt} {p0 : Str × Nat} {l : List (Str × Nat)} (h : StoreOk X st (p0 :: l)) (T : OexC X.K C) : ∃ t, PSs X st t ∧ ∀ (σ : St) (H : Hp) (D : Ends) (a : Addr) (ys : List V), (∀ p ∈ p0 :: l, PySem.W.findIn X.K (.ref C) p.1 = some none) → σ[0]? = some (some (.ref a)) →
    Paired (fun (p : Str × Nat) y => σ[p.2]? = some (some y)) (p0 :: l) ys → H a = some (exo a C none) → l.length ≤ 800 → (∀ dx H', H dx = none → dx ≠ a → ExH H H' a C dx ((((p0 :: l).map (·.1)).zip ys).reverse) → D.nx σ H') → t D σ H := by
  cases h with
  | @cons o e f i p p' st l ho he hs r =>
    obtain ⟨t, ht, hk⟩ := stores r T
    refine ⟨_, pss_cons (ps_ost ho he hs) ht, fun σ H D a ys hno h0 hp h1 hl k => ?_⟩
    cases hp with
    | @cons _ y _ ys' hy hr =>
      refine ⟨y, hy, .ref a, h0, a, C, rfl, T, hno _ (List.mem_cons_self ..), .inl ⟨h1, fun dx hn hne => ?_⟩⟩
      refine hk σ _ D a dx [(f, y)] ys' (fun q hq => hno q (List.mem_cons_of_mem _ hq)) h0 hr upd_same ?_ (by simp at hl ⊢; omega) hne fun H' ⟨e1, e2, e3⟩ => k dx H' hn hne ⟨e1, ?_, fun b n1 n2 => ?_⟩
      · rw [upd_ne hne, upd_same]
      · rw [e2]; simp
      · rw [e3 b n1 n2, upd_ne n1, upd_ne n2]
/-! ### raise -/
/-- raise C(es) -/
def sRaise (c : Str) (fs : List Str) (wa : WA) : WS := fun E env m => wa env m (fun ds m1 => ds.length = fs.length ∧ E.xc ⟨c, (fs.zip ds).reverse⟩ env m1) (fun x m1 => E.xc x env m1)
theorem dens_zip {K : Frag} {F : Hp} : ∀ {fs : List Str} {ds : List D} {vs : List V}, Dens K F ds vs → DenP K F (fs.zip ds) (fs.zip vs)
  | [], _, _, _ => .nil
  | _ :: _, [], _, h => by simp only [Dens] at h; subst h; exact .nil
  | f :: fs, d :: ds, _, h => by
    simp only [Dens] at h
    obtain ⟨v, r, rfl, q, z⟩ := h
    exact .cons ⟨rfl, q⟩ (dens_zip z)
theorem pairedApp {α β : Type} {R : α → β → Prop} : ∀ {a c : List α} {b d : List β}, Paired R a b → Paired R c d → Paired R (a ++ c) (b ++ d)
  | _, _, _, _, .nil, h => h
  | _, _, _, _, .cons h t, h' => .cons h (pairedApp t h')
theorem denP_rev {κ : Type} {K : Frag} {F : Hp} {ps : List (κ × D)} {qs : List (κ × V)} (h : DenP K F ps qs) : DenP K F ps.reverse qs.reverse := by
  unfold DenP at *
  induction h with
  | nil => exact .nil
  | cons h t ih =>
    rw [List.reverse_cons, List.reverse_cons]
    exact pairedApp ih (.cons h .nil)
theorem draise {x : Str} {fI : Addr} {k : Nat} {fd : FuncData} {ps fs : List Str} {e : Expr} {es : List Expr} {wa : WA} {p pos pos' : Pos} (T : OexC X.K (ga X.K x)) (iC : PySem.W.findIn X.K (.ref (ga X.K x)) "__init__" = some (some (.ref fI))) (tI : PySem.W.typeIn X.K (.ref fI) = some (.type "function"))
    (F1 : FnOk X.prog X.w X.K X.mg X.base (CX X.prog X.w) k fI fd ps (spErr (ga X.K x) fs)) (hr : Room (k + 1) X.A) (hb : Binds X.K fd ps []) (hg : Gl X x) (hm : X.mg x = some (.ref (ga X.K x))) (hc : X.calm = true) (ha : DA X (e :: es) wa) (hfs : fs ≠ []) (hf8 : fs.length ≤ 800)
    (hdb : (x == ("__debug__" : Str)) = false := by decide) (he : starEach (e :: es) X.env = (false, eval e X.env) :: starEach es X.env := by rfl) (hpl : (backTo pos (starEach es X.env)).any (·.1) = false := by rfl) :
    DS X (.Raise (some (.Call (.Name x p) (e :: es) [] pos)) none pos') (sRaise x fs wa) :=
  wkS (ps_raise hc takes_max (pmk_oex T iC tI F1 hr hb .nil (fun _ _ _ _ _ _ _ c => by
    exact absurd c (by rintro ⟨_, _, _, _, _, _, _, _, _, _, _, _, _, _, w⟩)) hg hm ha hdb he hpl)) fun D σ H ⟨F, m, env, E, r, en, a, q, n, b, c, t⟩ =>
  tWA.sub r en a q fun vs H1 F1 m1 ds s1 r1 en1 dn1 ⟨hl, q1⟩ => by
    have hlv : vs.length = fs.length := by rw [← dn1.length]; exact hl
    refine ⟨by omega, fun o ho => ⟨o, vs, by rw [List.append_nil], hlv, upd_same, fun dx H2 hdx hne ⟨e1, e2, e3⟩ => ⟨rfl, dx, _, e1, e2, by rw [upd_ne hne] at hdx; exact hdx, ?_⟩⟩⟩
    have hdx1 : H1 dx = none := by rw [upd_ne hne] at hdx; exact hdx
    obtain ⟨F0, s0, tk⟩ := a
    refine ⟨_, tk, F1, m1, env, ⟨x, (fs.zip ds).reverse⟩, s0.trans s1, ?_, en1, ?_, q1⟩
    · have at_ : ∀ b u, H1 b = some u → upd (del H2 o) dx (.xd (fs.zip vs).reverse) b = some u := fun b u eb => by
        have n1 : b ≠ o := fun z => by rw [z, ho] at eb; cases eb
        have n2 : b ≠ dx := fun z => by rw [z, hdx1] at eb; cases eb
        rw [upd_ne n2, del_ne n1, e3 b n1 n2, upd_ne n1]
        exact eb
      refine ⟨fun b u eb => at_ b u (r1.fz b u eb), fun b cc eb => ?_⟩
      obtain ⟨g, q⟩ := r1.me b cc eb
      obtain ⟨u, hu⟩ := q.some
      exact ⟨g, q.to (Sub.refl _) ((at_ b u hu).trans hu.symm)⟩
    · exact ⟨rfl, .inr ⟨dx, _, rfl, upd_same, denP_rev (dens_zip dn1)⟩⟩
end
end DL

/-! D14: try .. except, several clauses, with and without a name. -/
namespace DL
open PySem PySem.Spec PyProof.Rows L2
abbrev Su := Addr → Value → Option Addr → TS
/-- the ends of a suite whose clause names slot i -/
def Kept (a : Addr) (cls : Value) (d : Option Addr) (H' : Hp) (q : Hp → Prop) : Prop := ∀ oe : Obj, oe.cls = cls → oe.dict = d → (∃ vs, oe.data = .fields vs) → H' a = none → q (upd H' a (errO a oe))
def asEnds (i : Option Nat) (a : Addr) (cls : Value) (d : Option Addr) (D : Ends) : Ends := match i with
  | none => D
  | some i => { nx := fun σ' H' => Kept a cls d H' (D.nx (σ'.set i none)), rt := fun v H' => Kept a cls d H' (D.rt v), bk := fun σ' H' => Kept a cls d H' (D.bk (σ'.set i none)), ct := fun σ' H' => Kept a cls d H' (D.ct (σ'.set i none)) }
def asIn (i : Option Nat) (a : Addr) (σ : L2.St) : L2.St := match i with
  | none => σ
  | some i => σ.set i (some (.ref a))
/-- what the clauses wish of an error of the body -/
def wMix (K : PySem.W.Frag) (Wout : WX) (D : Ends) : List (Value × Option Nat × Su) → WX
  | [] => Wout
  | (c, i, ts) :: r => fun cls d σ H => ∃ b, PySem.W.exmOne K cls c = some b ∧ (b = true → ∀ a, H a = none → ts a cls d (asEnds i a cls d D) (asIn i a σ) H) ∧ (b = false → wMix K Wout D r cls d σ H)
/-- a clause's name -/
inductive NmOk (X : Cx) : Option Str → Option Nat → Prop
  | none : NmOk X none none
  | as {n : Str} {i : Nat} (hN : X.N.Nodup) (hi : X.N[i]? = some n) (hln : X.env.kindOf n = some .local) : NmOk X (some n) (some i)
inductive HdsMix (X : Cx) : List ExceptHandler → List (Value × Option Nat × Su) → Prop
  | nil : HdsMix X [] []
  | cons {x : Str} {c : Value} {ts : Su} {nm : Option Str} {i : Option Nat} {b₀ : Stmt} {suite : List Stmt} {np pos' : Pos} {hds : List ExceptHandler} {l : List (Value × Option Nat × Su)} (hc : Names X x c) (hn : NmOk X nm i)
      (hsu : ∀ (a : Addr) (oe : Obj) (cls : Value) (d : Option Addr) (pn : List (Addr × Obj)), Zc cls d oe → (∃ vs, oe.data = .fields vs) → PSs (X.suite a ((a, oe) :: pn)) (b₀ :: suite) (ts a cls d)) (r : HdsMix X hds l) :
      HdsMix X (.ExceptHandler (some (.Name x np)) nm (b₀ :: suite) pos' :: hds) ((c, i, ts) :: l)
/-- an object that stands, from now on tracked -/
theorem Inv.lay {X : Cx} {pins : List (Addr × Obj)} {σ : L2.St} {H : Hp} {s : Shared} {a : Addr} {oe : Obj} (I : Inv X pins σ H s) (he : s.heap.get? a = some oe) (hd : ∃ vs, oe.data = .fields vs) (hn : H a = none) (h0 : X.s_0.heap.get? a = none) (hL : a ≠ X.env.locals)
    (hp : ∀ p ∈ X.pn ++ pins, p.1 ≠ a) : Inv X pins σ (upd H a (errO a oe)) s := by
  obtain ⟨vs, hd⟩ := hd
  have nt : ∀ b u, H b = some u → b ≠ a := fun b u e z => by rw [z, hn] at e; cases e
  refine ⟨I.ok, I.os, I.bare, ⟨I.base.keep, I.base.slot, fun b o e n hx => ?_, I.base.there, fun b xs e => ?_, fun b o u e => ?_, fun b ps e => ?_⟩, I.loc, I.cell, ?_, fun x c e => ?_, fun p q => ?_, fun b u e => ?_, I.len⟩
  · rw [upd_ne (fun z => by rw [z, h0] at e; cases e)]; exact I.base.free b o e n hx
  · have q := I.base.tups b xs e
    rw [upd_ne (nt _ _ q)]; exact q
  · have q := I.base.frzs b o u e
    rw [upd_ne (nt _ _ q)]; exact q
  · obtain ⟨more, q⟩ := I.base.tbls b ps e
    exact ⟨more, by rw [upd_ne (nt _ _ q)]; exact q⟩
  · rw [upd_ne (Ne.symm hL)]; exact I.free
  · obtain ⟨v, o, ho, hcell⟩ := I.cell x c e
    rw [upd_ne (fun z => by
      rw [z, he] at ho; cases ho
      rw [hd] at hcell
      simp at hcell)]
    exact I.freeC x c e
  · obtain ⟨e1, e2, e3⟩ := I.pin p q
    exact ⟨e1, by rw [upd_ne (hp p q)]; exact e2, e3⟩
  · by_cases z : b = a
    · subst z
      rw [upd_same] at e; cases e
      exact ⟨he, ⟨_, he⟩, fun h1 h2 q k => k _ q⟩
    · rw [upd_ne z] at e
      exact (I.hok b u e).stay (fun _ _ _ q => q) (fun c q => by rw [upd_ne (nt _ _ q)]; exact q) fun c xs q => by rw [upd_ne (nt _ _ q)]; exact q
section
variable {X : Cx} {body : List Stmt} {h₀ : ExceptHandler} {hds : List ExceptHandler} {l : List (Value × Option Nat × Su)} {pos : Pos} {tb : WX → TS} {Wout : WX}
theorem ps_try_mix (hs : X.stack = X.env :: X.outer) (hf : X.env.frame = some X.env.locals) (tk : Takes X Wout)
    (hb : ∀ (W : WX) (pn : List (Addr × Obj)) (xe : Value → Shared → Prop), Takes (X.tr pn xe) W → PassesOwn (model X.prog X.w) X.A X.env xe → PSs (X.tr pn xe) body (tb W))
    (hh : HdsMix X (h₀ :: hds) l) (hex : X.ex = [] := by rfl) : PS X (.Try body (h₀ :: hds) [] [] pos) (fun D σ H => tb (wMix X.K Wout D l) D σ H) := by
  refine ⟨fun pins s σ H D I h => ?_⟩
  have ok := I.ok
  have hfr : X.A.frames = some (X.env :: X.outer) := by rw [ok.frames, hs]
  refine wpAny_Try_except ?_
  refine wpAny_mono ((hb (wMix X.K Wout D l) (X.pn ++ pins) (fun e s₁ => wpAny (model X.prog X.w) X.A (noteFrame e X.env) (fun _ s₂ => wpAny (model X.prog X.w) X.A (setFlight e none) (fun _ s₃ =>
    wpAny (model X.prog X.w) X.A (handleBy e X.env (h₀ :: hds)) (SP X pins D) X.xe s₃) X.xe s₂) X.xe s₁) (fun u s' xx => ?_) PassesOwn.looking).run [] s σ H D (I.toTry _) h) (fun f s1 hsp => ?_) (fun e s1 he => he)
  · obtain ⟨a, B, sI, pins', σ', H', cls, d, rfl, J', nb, up, sky, na, os, ag, w⟩ := xx
    have J : Inv X pins σ' H' sI := J'.ofTry ok
    have sky' : Sky B (X.env :: X.outer) a (Zc cls d) X.env.locals s'.heap := by rw [← hs]; exact sky
    show wpAny (model X.prog X.w) X.A (noteFrame (.ref a) X.env) _ _ _
    refine Sky.land Zc.steady hfr hf sky' fun h3 fl3 up3 => ?_
    have J3 : Inv X pins σ' H' { s' with heap := h3 } := J.landed nb fl3.1 (up.trans up3) os ag
    obtain ⟨oe3, vs3, he3, hz3, hd3⟩ := fl3.there
    have notFr : ∀ {h : Heap} {o : Obj} {vs : Array Value}, h.FunFrames B (X.env :: X.outer) → h.get? a = some o → o.data = .fields vs → a ∉ frs (X.env :: X.outer) := fun {h o vs} ff e dd hm => by
      obtain ⟨_, o', e', hnf⟩ := ff.mem hm
      rw [e] at e'; cases e'
      exact hnf _ dd
    have nfr := notFr fl3.2.2.1 he3 hd3
    have nL : a ≠ X.env.locals := fun z => nfr (List.mem_filterMap.mpr ⟨X.env, List.mem_cons_self, by rw [hf, z]⟩)
    have nF : a ∉ X.fs := fun hm => by
      obtain ⟨e, he, q⟩ := List.mem_filterMap.mp hm
      exact nfr (List.mem_filterMap.mpr ⟨e, List.mem_cons_of_mem _ he, q⟩)
    have S3 := J3.suite he3 hd3 na nL nF
    have go : ∀ {hds' : List ExceptHandler} {l' : List (Value × Option Nat × Su)}, HdsMix X hds' l' → wMix X.K Wout D l' cls d σ' H' →
        wpAny (model X.prog X.w) X.A (handleBy (.ref a) X.env hds') (SP X pins D) X.xe { s' with heap := h3 } := by
      intro hds' l' hk
      induction hk with
      | nil =>
        intro w
        refine wpAny_handleBy_nil ?_
        obtain ⟨k1, k2, k3, oe, vs, T, oT, ts', he, hz, hd, h1, hr⟩ := id fl3
        unfold PySem.passOn
        refine wpAny_bind (wpAny_field he hd h1 ?_)
        rw [if_neg (show ¬ ((Value.ref T == Value.none) = true) from by simp)]
        have fin : wpAny (model X.prog X.w) X.A (setFlight (.ref a) X.env.frame) (fun _ s4 => wpAny (model X.prog X.w) X.A (throw (.ref a) : Sem Flow) (SP X pins D) X.xe s4) X.xe { s' with heap := h3 } := by
          rw [hf]
          refine HandSPX.setFlight_upZ fl3 fun h4 hh4 up4 => wpAny_throw (tk _ _ ?_)
          exact ⟨a, B, sI, pins, σ', H', cls, d, rfl, J, nb, (up.trans up3).trans up4, .inr (.inr (by rw [hs]; exact hh4)), na, os, ag, w⟩
        first
          | exact wpAny_bind (wpAny_pure (wpAny_bind fin))
          | exact wpAny_bind fin
      | @cons x c ts nm i b₀ suite np pos' hds2 l2 hc hn hsu r ih =>
        intro w
        obtain ⟨b, hb1, hyes, hno⟩ := w
        refine wpAny_handleBy_cons (codeAny_handlers_test ?_) (by intro q; cases q)
        have LT : PySem.W.Looks (model X.prog X.w) h3 (typeOf (.ref a)) cls := fun A Q E s k q => wpAny_typeOf_ref (k _ _ he3) (by rw [hz3.1]; exact q)
        have LM := PySem.W.exm_one (M := model X.prog X.w) (J3.kIn) LT hb1
        have test : ∀ {Q : Value → Shared → Prop} {E : Value → Shared → Prop}, Q c { s' with heap := h3 } → wpAny (model X.prog X.w) (X.A.mark (some (.ref a))) (eval (.Name x np) X.env) Q E { s' with heap := h3 } := fun {Q E} q => by
          obtain ⟨hg, hdbg, hm | ⟨hm, hv, hnn⟩⟩ := hc
          · exact ld_glob (X := X.suite a ((a, oe3) :: (X.pn ++ pins))) S3 hg hm q hdbg
          · exact ld_blt (X := X.suite a ((a, oe3) :: (X.pn ++ pins))) S3 hg hm hv q hnn hdbg
        refine test (LM.here ?_)
        cases b with
        | false =>
          show wpAny _ X.A (handleBy (.ref a) X.env hds2) _ _ _
          exact ih (hno rfl)
        | true =>
          cases hn with
          | none =>
            refine codeAny_handlers_suite ?_
            refine HandSPX.lands_againZ fl3 fun h4 fl4 up4 => ?_
            have J4 : Inv X pins σ' H' { s' with heap := h4 } := J.landed nb fl4.1 ((up.trans up3).trans up4) os ag
            obtain ⟨oe4, vs4, he4, hz4, hd4⟩ := fl4.there
            have S4 := J4.suite he4 hd4 na nL nF
            refine wpAny_mono ((hsu a oe4 cls d (X.pn ++ pins) hz4 ⟨_, hd4⟩).run [] _ _ H' _ S4 (hyes rfl a na)) (fun f s6 hsp => ?_) (fun _ _ z => False.elim z)
            cases f with
            | next =>
              obtain ⟨σ6, H6, S6, q6⟩ := hsp
              exact ⟨_, _, S6.unsuite ok, q6⟩
            | brk =>
              obtain ⟨σ6, H6, S6, q6⟩ := hsp
              exact ⟨_, _, S6.unsuite ok, q6⟩
            | cont =>
              obtain ⟨σ6, H6, S6, q6⟩ := hsp
              exact ⟨_, _, S6.unsuite ok, q6⟩
            | ret u =>
              obtain ⟨v6, σ6, H6, S6, r6, q6⟩ := hsp
              exact ⟨_, _, _, S6.unsuite ok, r6, q6⟩
          | @as n i hN hi hln =>
            refine codeAny_handlers_suite_as ?_
            refine HandSPX.lands_againZ fl3 fun h4 fl4 up4 => ?_
            have J4 : Inv X pins σ' H' { s' with heap := h4 } := J.landed nb fl4.1 ((up.trans up3).trans up4) os ag
            obtain ⟨oe4, vs4, he4, hz4, hd4⟩ := fl4.there
            have S4 := J4.suite he4 hd4 na nL nF
            refine store_ok (X := X.suite a ((a, oe4) :: (X.pn ++ pins))) (v := .ref a) S4 hN hi (.inl hln) rfl (fun s5 S5 => ?_) (.inr hln)
            refine wpAny_mono ((hsu a oe4 cls d (X.pn ++ pins) hz4 ⟨_, hd4⟩).run [] s5 _ H' _ S5 (hyes rfl a na)) (fun f s6 hsp => ?_) (fun _ _ z => False.elim z)
            have aB : B.get? a = none := fl4.2.1
            have a0 : X.s_0.heap.get? a = none := by
              cases e0 : X.s_0.heap.get? a with
              | none => rfl
              | some o0 =>
                obtain ⟨o1, e1⟩ := J.base.there a o0 e0 (by rw [hex]; simp)
                have := nb a o1 e1 (by rw [hs]; exact nfr)
                rw [aB] at this; cases this
            have ap : ∀ p ∈ X.pn ++ pins, p.1 ≠ a := fun p hp z => by
              have e1 := (J.pin p hp).1
              rw [z] at e1
              have := nb a _ e1 (by rw [hs]; exact nfr)
              rw [aB] at this; cases this
            have end_ : ∀ {σ6 : L2.St} {H6 : Hp} {Q : Shared → Prop}, Inv (X.suite a ((a, oe4) :: (X.pn ++ pins))) [] σ6 H6 s6 → (∀ s7, H6 a = none → Inv X pins (σ6.set i none) (upd H6 a (errO a oe4)) s7 → Q s7) →
                wpAny (model X.prog X.w) X.A (do bindName X.env n .none; unbindBehindTheSuite X.env n pos') (fun _ s7 => Q s7) X.xe s6 := fun {σ6 H6 Q} S6 hq => by
              obtain ⟨p1, p2, p3, _⟩ := S6.pin (a, oe4) (List.mem_append_left _ (List.mem_cons_self ..))
              exact gone_ok (Inv.lay (S6.unsuite ok) p1 ⟨_, hd4⟩ p2 a0 nL ap) hN hi hln fun s7 J7 => hq s7 p2 J7
            cases f with
            | next =>
              obtain ⟨σ6, H6, S6, q6⟩ := hsp
              exact end_ S6 fun s7 n7 J7 => ⟨_, _, J7, q6 oe4 hz4.1 hz4.2 ⟨_, hd4⟩ n7⟩
            | brk =>
              obtain ⟨σ6, H6, S6, q6⟩ := hsp
              exact end_ S6 fun s7 n7 J7 => ⟨_, _, J7, q6 oe4 hz4.1 hz4.2 ⟨_, hd4⟩ n7⟩
            | cont =>
              obtain ⟨σ6, H6, S6, q6⟩ := hsp
              exact end_ S6 fun s7 n7 J7 => ⟨_, _, J7, q6 oe4 hz4.1 hz4.2 ⟨_, hd4⟩ n7⟩
            | ret u =>
              obtain ⟨v6, σ6, H6, S6, r6, q6⟩ := hsp
              exact end_ S6 fun s7 n7 J7 => ⟨_, _, _, J7, r6, q6 oe4 hz4.1 hz4.2 ⟨_, hd4⟩ n7⟩
    exact go hh w
  · cases f with
    | next =>
      obtain ⟨σ', H', J', q⟩ := hsp
      exact wpAny_execs_nil ⟨σ', H', J'.ofTry ok, q⟩
    | brk =>
      obtain ⟨σ', H', J', q⟩ := hsp
      exact ⟨σ', H', J'.ofTry ok, q⟩
    | cont =>
      obtain ⟨σ', H', J', q⟩ := hsp
      exact ⟨σ', H', J'.ofTry ok, q⟩
    | ret u =>
      obtain ⟨v, σ', H', J', r, q⟩ := hsp
      exact ⟨v, σ', H', J'.ofTry ok, r, q⟩
end
end DL

/-! D15: try .. except over data. -/
namespace DL
open PySem PySem.Spec PyProof.Rows L2
abbrev WSu := Addr → Str → Option Addr → WS
def excD (a : Addr) (x : Exc) (d : Option Addr) : D := .exc a x.cls d (x.fs.map (·.1)) (x.fs.map (·.2))
def asE (i : Option Nat) (a : Addr) (c : Str) (d : Option Addr) (E : De) : De := match i with
  | none => { E with xc := fun _ _ _ => False }
  | some i => { nx := fun e m => m a = none → E.nx (e.set i none) (m.put a (.err c d)), rt := fun x m => m a = none → E.rt x (m.put a (.err c d)), bk := fun e m => m a = none → E.bk (e.set i none) (m.put a (.err c d)), ct := fun e m => m a = none → E.ct (e.set i none) (m.put a (.err c d)) }
def asV (i : Option Nat) (d : D) (env : En) : En := match i with
  | none => env
  | some i => env.set i (some d)
/-- the clauses: hits tells of a class whether it is caught -/
def mixD (E : De) : List ((Str → Option Bool) × Option Nat × WSu) → Xc
  | [] => E.xc
  | (hits, i, ws) :: r => fun x env m => ∃ b, hits x.cls = some b ∧ (b = true → ∀ a d, ws a x.cls d (asE i a x.cls d E) (asV i (excD a x d) env) m) ∧ (b = false → mixD E r x env m)
def sTry (wb : WS) (hs : List ((Str → Option Bool) × Option Nat × WSu)) : WS := fun E env m => wb { E with xc := mixD E hs } env m
inductive HdsD (X : Cx) : List ExceptHandler → List ((Str → Option Bool) × Option Nat × WSu) → Prop
  | nil : HdsD X [] []
  | cons {x : Str} {c : Value} {hits : Str → Option Bool} {ws : WSu} {nm : Option Str} {i : Option Nat} {b₀ : Stmt} {suite : List Stmt} {np pos' : Pos} {hds : List ExceptHandler} {l : List ((Str → Option Bool) × Option Nat × WSu)} (hc : Names X x c) (hn : NmOk X nm i)
      (hm : ∀ s b, hits s = some b → PySem.W.exmOne X.K (.ref (ga X.K s)) c = some b)
      (hsu : ∀ (a : Addr) (oe : Obj) (c : Str) (d : Option Addr) (pn : List (Addr × Obj)), Zc (.ref (ga X.K c)) d oe → (∃ vs, oe.data = .fields vs) → DSs (X.suite a ((a, oe) :: pn)) (b₀ :: suite) (ws a c d)) (r : HdsD X hds l) :
      HdsD X (.ExceptHandler (some (.Name x np)) nm (b₀ :: suite) pos' :: hds) ((hits, i, ws) :: l)
section
variable {X : Cx}
theorem Rel.hold {K : Frag} {F : Hp} {m : Mem} {H : Hp} (r : Rel K F m H) {dd : Addr} {gs : List (Str × V)} (h : H dd = some (.xd gs)) : Rel K (upd F dd (.xd gs)) m H ∧ Sub F (upd F dd (.xd gs)) := by
  have sb : Sub F (upd F dd (.xd gs)) := fun b o e => by
    by_cases z : b = dd
    · subst z
      have := r.fz _ _ e
      rw [h] at this
      rw [upd_same, ← this]
    · rw [upd_ne z]; exact e
  refine ⟨⟨fun b o e => ?_, fun b c e => ?_⟩, sb⟩
  · by_cases z : b = dd
    · subst z; rw [upd_same] at e; rw [← e]; exact h
    · rw [upd_ne z] at e; exact r.fz b o e
  · obtain ⟨g, q⟩ := r.me b c e
    have z : b ≠ dd := fun z => by
      subst z
      cases c <;> simp only [CellOk] at q
      · obtain ⟨_, e', _⟩ := q; rw [h] at e'; cases e'
      · obtain ⟨_, e', _⟩ := q; rw [h] at e'; cases e'
      · obtain ⟨_, e', _⟩ := q; rw [h] at e'; cases e'
      · obtain ⟨_, _, e', _⟩ := q; rw [h] at e'; cases e'
      · obtain ⟨_, e', _⟩ := q; rw [h] at e'; cases e'
      · have e' := q.1; rw [h] at e'; cases e'
      · obtain ⟨_, e', _⟩ := q; rw [h] at e'; cases e'
      · have e' := q.1; rw [h] at e'; cases e'
    exact ⟨by rw [upd_ne z]; exact g, q.to sb rfl⟩
theorem denP_vals {K : Frag} {F : Hp} : ∀ {fs : List (Str × D)} {gs : List (Str × V)}, DenP K F fs gs → gs.map (·.1) = fs.map (·.1) ∧ Dens K F (fs.map (·.2)) (gs.map (·.2))
  | _, _, .nil => ⟨rfl, Dens.nil⟩
  | (f, d) :: _, (g, v) :: _, .cons h t => by
    obtain ⟨h1, h2⟩ := h
    have h1 : f = g := h1
    obtain ⟨a, b⟩ := denP_vals t
    exact ⟨by rw [List.map_cons, List.map_cons, a, h1], Dens.cons h2 b⟩
theorem denP_of {K : Frag} {F : Hp} : ∀ {gs : List (Str × V)} {ds : List D}, Dens K F ds (gs.map (·.2)) → DenP K F ((gs.map (·.1)).zip ds) gs
  | [], ds, h => by
    cases ds with
    | nil => exact .nil
    | cons d r => simp only [List.map_nil, Dens] at h; obtain ⟨_, _, e, _⟩ := h; cases e
  | (g, v) :: gs, ds, h => by
    cases ds with
    | nil => simp only [List.map_cons, Dens] at h; cases h
    | cons d r =>
      simp only [List.map_cons, Dens] at h
      obtain ⟨v', r', e, q, z⟩ := h
      cases e
      exact .cons ⟨rfl, q⟩ (denP_of z)
/-- the error that stands in the memory, from now on as a value -/
theorem exc_den {K : Frag} {F : Hp} {m : Mem} {H : Hp} {cls : Value} {d : Option Addr} {x : Exc} (r : Rel K F m H) (h : ExcAt K F cls d H x) (a : Addr) : ∃ F', Sub F F' ∧ Rel K F' m H ∧ Den K F' (excD a x d) (.ref a) := by
  obtain ⟨_, ⟨e1, e2⟩ | ⟨dd, gs, rfl, hd, p⟩⟩ := h
  · refine ⟨F, Sub.refl F, r, ?_⟩
    unfold excD
    rw [e1]
    simp only [List.map_nil, Den]
    exact ⟨trivial, [], rfl, .inl ⟨e2, trivial⟩⟩
  · obtain ⟨r', s⟩ := r.hold hd
    refine ⟨_, s, r', ?_⟩
    unfold excD
    obtain ⟨a1, a2⟩ := denP_vals (p.mono s)
    simp only [Den]
    exact ⟨trivial, _, a2, .inr ⟨dd, gs, rfl, upd_same, a1, rfl⟩⟩
def tbD (X : Cx) (wb : WS) (W : WX) : TS := fun D σ H => ∃ (F : Hp) (m : Mem) (env : En) (E : De), Rel X.K F m H ∧ EnvDen X.K F σ env ∧ (∃ F0, Sub F0 F ∧ ∀ cls d σ H, WofD X.K F0 E.xc cls d σ H → W cls d σ H) ∧ wb E env m ∧
  Fw X.K F E.nx D.nx ∧ Fw X.K F E.bk D.bk ∧ Fw X.K F E.ct D.ct ∧ ∀ v H' F' m' d, Sub F F' → Rel X.K F' m' H' → Den X.K F' d v → E.rt d m' → D.rt v H'
def tsD (X : Cx) (ws : WSu) : Su := fun a cls d D σ H => ∃ (c : Str) (F : Hp) (m : Mem) (env : En) (E : De), cls = .ref (ga X.K c) ∧ Rel X.K F m H ∧ EnvDen X.K F σ env ∧ (∀ x e m, ¬ E.xc x e m) ∧ ws a c d E env m ∧
  Fw X.K F E.nx D.nx ∧ Fw X.K F E.bk D.bk ∧ Fw X.K F E.ct D.ct ∧ ∀ v H' F' m' d, Sub F F' → Rel X.K F' m' H' → Den X.K F' d v → E.rt d m' → D.rt v H'
theorem hds_mix {hds : List ExceptHandler} {l : List ((Str → Option Bool) × Option Nat × WSu)} (h : HdsD X hds l) : ∃ l', HdsMix X hds l' ∧ ∀ (D : Ends) (E : De) (F : Hp), Acc X F E.xc → Fw X.K F E.nx D.nx → Fw X.K F E.bk D.bk → Fw X.K F E.ct D.ct →
    (∀ v H' F' m' d, Sub F F' → Rel X.K F' m' H' → Den X.K F' d v → E.rt d m' → D.rt v H') → ∀ cls d σ H, WofD X.K F (mixD E l) cls d σ H → wMix X.K (Wx X) D l' cls d σ H := by
  induction h with
  | nil =>
    refine ⟨[], .nil, fun D E F a _ _ _ _ cls d σ H ⟨F', m', env', x, s, r, en, xa, q⟩ => ?_⟩
    obtain ⟨F0, s0, tk⟩ := a
    exact ⟨_, tk, F', m', env', x, s0.trans s, r, en, xa, q⟩
  | @cons x c hits ws nm i b₀ suite np pos' hds l hc hn hm hsu r ih =>
    obtain ⟨l', hl, ih⟩ := ih
    refine ⟨(c, i, tsD X ws) :: l', .cons hc hn (fun a oe cls d pn hz hf => ⟨fun p s σ H D I h => ?_⟩) hl, fun D E F a n b ct t cls d σ H ⟨F', m', env', x, s, r, en, xa, q⟩ => ?_⟩
    · obtain ⟨c', F, m, env, E, rfl, r, en, hx, q, n, b, ct, t⟩ := h
      refine (hsu a oe c' d pn hz hf).run p s σ H D I ⟨F, m, env, E, r, en, ?_, q, n, b, ct, t⟩
      exact Acc.no.imp fun x e m z => hx x e m z
    · obtain ⟨bb, hb, hy, hno⟩ := q
      obtain ⟨hcls, xr⟩ := id xa
      subst hcls
      refine ⟨bb, hm _ _ hb, fun e o ho => ?_, fun e => ih D E F a n b ct t _ d σ H ⟨F', m', env', x, s, r, en, xa, hno e⟩⟩
      obtain ⟨F2, s2, r2, dn⟩ := exc_den r xa o
      have ss := s.trans s2
      cases i with
      | none => exact ⟨x.cls, F2, m', env', _, rfl, r2, en.mono s2, fun _ _ _ z => z, hy e o d, n.mono ss, b.mono ss, ct.mono ss, fun v H3 F3 m3 d3 s3 => t v H3 F3 m3 d3 (ss.trans s3)⟩
      | some i =>
        have kp : ∀ {F3 : Hp} {m3 : Mem} {H3 : Hp} {oe : Obj}, Rel X.K F3 m3 H3 → H3 o = none → oe.cls = .ref (ga X.K x.cls) → oe.dict = d → (∃ vs, oe.data = .fields vs) → m3 o = none ∧ Rel X.K F3 (m3.put o (.err x.cls d)) (upd H3 o (errO o oe)) := fun {F3 m3 H3 oe} r3 h1 h2 h3 h4 =>
          ⟨(r3.free h1).2, r3.fresh h1 (by simp only [CellOk]; exact ⟨oe, upd_same, h2, h3, h4⟩)⟩
        have un : ∀ {p : En → Mem → Prop} {q : L2.St → Hp → Prop}, Fw X.K F p q → Fw X.K F2 (fun e m => m o = none → p (e.set i none) (m.put o (.err x.cls d))) (fun σ H => Kept o (.ref (ga X.K x.cls)) d H (q (σ.set i none))) := fun {p q} h σ H F3 m3 env3 s3 r3 en3 z oe h2 h3 h4 h1 =>
          h _ _ F3 _ _ (ss.trans s3) (kp r3 h1 h2 h3 h4).2 (en3.unset i) (z (kp r3 h1 h2 h3 h4).1)
        exact ⟨x.cls, F2, m', _, _, rfl, r2, (en.mono s2).set dn i, fun _ _ _ z => z, hy e o d, un n, un b, un ct, fun v H3 F3 m3 d3 s3 r3 dn3 z oe h2 h3 h4 h1 => t v _ F3 _ d3 (ss.trans s3) (kp r3 h1 h2 h3 h4).2 dn3 (z (kp r3 h1 h2 h3 h4).1)⟩
theorem dtry {body : List Stmt} {h₀ : ExceptHandler} {hds : List ExceptHandler} {l : List ((Str → Option Bool) × Option Nat × WSu)} {pos : Pos} {wb : WS} (hs : X.stack = X.env :: X.outer) (hf : X.env.frame = some X.env.locals)
    (hb : ∀ (pn : List (Addr × Obj)) (xe : Value → Shared → Prop), PassesOwn (model X.prog X.w) X.A X.env xe → DSs (X.tr pn xe) body wb) (hh : HdsD X (h₀ :: hds) l) (hex : X.ex = [] := by rfl) : DS X (.Try body (h₀ :: hds) [] [] pos) (sTry wb l) := by
  obtain ⟨l', hl, im⟩ := hds_mix hh
  refine wkS (ps_try_mix (tb := tbD X wb) hs hf takes_max (fun W pn xe tk hp => ⟨fun p s σ H D I h => ?_⟩) hl hex) fun D σ H ⟨F, m, env, E, r, en, a, q, n, b, c, t⟩ => ?_
  · obtain ⟨F, m, env, E, r, en, ⟨F0, s0, hi⟩, q, n, b, ct, t⟩ := h
    exact (hb pn xe hp).run p s σ H D I ⟨F, m, env, E, r, en, ⟨F0, s0, Takes.imp tk hi⟩, q, n, b, ct, t⟩
  · exact ⟨F, m, env, _, r, en, ⟨F, Sub.refl F, im D E F a n b c t⟩, q, n, b, c, t⟩
/-- e.f, e the error that was caught -/
def wXf (a : Addr) (c : Str) (d : Option Addr) (c0 f : Str) (we : WE) : WE := fun env m Q E => we env m (fun d1 m1 => ∃ ns xs e, d1 = .exc a c d ns xs ∧ c = c0 ∧ (ns.zip xs).lookup f = some e ∧ Q e m1) E
theorem dxf {a : Addr} {oe : Obj} {c c0 : Str} {d : Option Addr} {pn : List (Addr × Obj)} {e : Expr} {we : WE} {pos : Pos} {f : Str} (T : XfC X.K (ga X.K c0)) (hno : PySem.W.findIn X.K (.ref (ga X.K c0)) f = some none) (hz : Zc (.ref (ga X.K c)) d oe) (hf : ∃ vs, oe.data = .fields vs)
    (he : DE (X.suite a ((a, oe) :: pn)) e we) (hb : attributeBase e f X.env (eval e X.env) = eval e X.env := by rfl) : DE (X.suite a ((a, oe) :: pn)) (.Attribute e f pos) (wXf a c d c0 f we) :=
  wkE (pe_xf T hno hz hf he hb) fun σ H Q ⟨F, m, env, Qd, xc, r, en, ac, q, k⟩ => tW.sub r en ac q fun v1 H1 F1 m1 d1 s1 r1 en1 dn1 ⟨ns, xs, e1, ed, ec, el, q1⟩ => by
    subst ed ec
    simp only [Den] at dn1
    obtain ⟨rfl, vs, dv, ⟨_, hns⟩ | ⟨dd, gs, rfl, hd, h1, h2⟩⟩ := dn1
    · subst hns; simp at el
    · subst h1 h2
      obtain ⟨v, hv, dn⟩ := (denP_of dv).lookup el
      exact ⟨rfl, rfl, dd, gs, v, rfl, r1.fz _ _ hd, hv, k v H1 F1 m1 e1 s1 r1 dn q1⟩
end
end DL

/-! D16: a class of errors as one fact. -/
namespace DL
open PySem PySem.Spec PyProof.Rows L2 NdefX
theorem zipIdx_fst : ∀ (fs : List Str) (n : Nat), (fs.zipIdx n).map (·.1) = fs
  | [], _ => rfl
  | f :: fs, n => by rw [List.zipIdx_cons, List.map_cons, zipIdx_fst fs (n + 1)]
theorem zipIdx_at {fs : List Str} : ∀ {ys : List V} {n : Nat} {pre post : L2.St}, ys.length = fs.length → pre.length = n → Paired (fun (p : Str × Nat) y => (pre ++ (ys.map some ++ post))[p.2]? = some (some y)) (fs.zipIdx n) ys := by
  induction fs with
  | nil =>
    intro ys n pre post h _
    cases ys with
    | nil => exact .nil
    | cons _ _ => simp at h
  | cons f fs ih =>
    intro ys n pre post h hp
    cases ys with
    | nil => simp at h
    | cons y ys =>
      rw [List.zipIdx_cons]
      refine .cons ?_ ?_
      · show (pre ++ ((y :: ys).map some ++ post))[n]? = some (some y)
        rw [List.getElem?_append_right (by omega), hp, Nat.sub_self]; rfl
      · have := ih (ys := ys) (n := n + 1) (pre := pre ++ [some y]) (post := post) (by simpa using h) (by simp [hp])
        rw [List.append_assoc] at this
        exact this
section
variable {P : Program} {w : World} {K : Frag} {mg : Str → Option Value} {base : Heap} {C f cc : Addr} {F : NF} {N ps : List Str} {k : Nat} {txt : Str} {p0 p1 p2 p3 p4 pc : Pos} {jc} {rest : List Stmt}
theorem err_fn {ar : Arg} {fs : List Str} (W : ErrK P K C f cc F) (S : NScope N ps ["__class__"] F.scope) (hks : F.scope.names.lookup ("super" : Str) = some .globalImplicit)
    (hb : ∀ (kV doc pm : Value) (an : Option Addr) (ct : Value) (us : List Value), us.length = ps.length → bindArgs (PySem.W.fnX F.name F.qual F.params F.body F.scope F.cl .none kV doc pm an (.ref F.c) ct) ⟨us, []⟩ = pure (ps.zip us))
    (hp : (F.params.posonlyargs ++ F.params.args).head? = some ar) (h0 : ∃ r, ps = ar.arg :: r) (hbody : F.body = .Expr (.Call (.Attribute (.Call (.Name "super" p0) [] [] p1) "__init__" p2) [.Constant (.str txt) jc pc] [] p3) p4 :: rest)
    (hsm : mg "super" = none) (htop : (P.main.scope.names.lookup ("super" : Str)).isSome = false)
    (he : ∀ L, ∃ pl : Sem Bool, eval (.Call (.Attribute (.Call (.Name "super" p0) [] [] p1) "__init__" p2) [.Constant (.str txt) jc pc] [] p3) (envF F f L) = (do
      let ov ← attributeBase (.Call (.Name "super" p0) [] [] p1) "__init__" (envF F f L) (eval (.Call (.Name "super" p0) [] [] p1) (envF F f L))
      standAt p2.atName
      let (g, first) ← holding [ov] (getMethod ov "__init__" pl)
      callWith p3 g first (backTo p3 (starEach [.Constant (.str txt) jc pc] (envF F f L))) []))
    (hi : ∀ L, interactive (envF F f L) = false) (hs : ∀ L, swapsWith (.Call (.Attribute (.Call (.Name "super" p0) [] [] p1) "__init__" p2) [.Constant (.str txt) jc pc] [] p3) none p4.line (envF F f L) = pure false)
    (hps : ps.length = fs.length + 1) (hne : fs ≠ []) (hf8 : fs.length ≤ 800) (hno : ∀ g ∈ fs, PySem.W.findIn K (.ref C) g = some none)
    (hst : ∀ (A : Around) (outer : List Env) (s : Shared) (H : Hp) (E : XK), StoreOk (ncx (CX P w) P w K mg base N F f A outer s H E) rest (fs.zipIdx 1)) :
    ∃ fd, FnOk P w K mg base (CX P w) (k + 1) f fd ps (spErr C fs) ∧ Binds K fd ps [] := by
  refine err_init W S hks hb hp h0 hbody hsm htop he hi hs (fun vs H Q E ⟨a, ys, e, hl, _⟩ => by rw [e, List.length_cons, hl, hps]) fun A outer s H vs Q E hr ⟨a, ys, ev, hl, ha, hq⟩ => ⟨a, ys, ev, ha, ?_⟩
  subst ev
  cases fs with
  | nil => exact absurd rfl hne
  | cons f0 fr =>
    have st := hst A outer s H E
    rw [List.zipIdx_cons] at st
    obtain ⟨t, ht, hk⟩ := stores_new st W.T
    refine ⟨t, ht, ?_⟩
    have e1 : ((f0, 1) :: fr.zipIdx (1 + 1)) = (f0 :: fr).zipIdx 1 := by rw [List.zipIdx_cons]
    refine hk _ H _ a ys (fun p hp => hno p.1 ?_) rfl ?_ ha (by simp at hf8 ⊢; omega) fun dx H' hn hne' hx => hq dx H' hn hne' ?_
    · rw [e1] at hp
      have := List.mem_map_of_mem (f := (·.1)) hp
      rw [zipIdx_fst] at this
      exact this
    · rw [e1]
      exact zipIdx_at (pre := [some (.ref a)]) hl rfl
    · rw [e1, zipIdx_fst] at hx
      exact hx
end
/-- the class x can be made with the fields fs, and raised -/
structure ErrOk (P : Program) (w : World) (K : Frag) (mg : Str → Option Value) (base : Heap) (k : Nat) (x : Str) (fs : List Str) : Prop where
  mg_ : mg x = some (.ref (ga K x))
  T : OexC K (ga K x)
  init : ∃ fI fd ps, PySem.W.findIn K (.ref (ga K x)) "__init__" = some (some (.ref fI)) ∧ PySem.W.typeIn K (.ref fI) = some (.type "function") ∧ FnOk P w K mg base (CX P w) k fI fd ps (spErr (ga K x) fs) ∧ Binds K fd ps []
theorem draiseE {X : Cx} {x : Str} {k : Nat} {fs : List Str} {e : Expr} {es : List Expr} {wa : WA} {p pos pos' : Pos} (W : ErrOk X.prog X.w X.K X.mg X.base k x fs) (hr : Room (k + 1) X.A) (hg : Gl X x) (hc : X.calm = true) (ha : DA X (e :: es) wa) (hfs : fs ≠ [] := by decide) (hf8 : fs.length ≤ 800 := by decide)
    (hdb : (x == ("__debug__" : Str)) = false := by decide) (he : starEach (e :: es) X.env = (false, eval e X.env) :: starEach es X.env := by rfl) (hpl : (backTo pos (starEach es X.env)).any (·.1) = false := by rfl) :
    DS X (.Raise (some (.Call (.Name x p) (e :: es) [] pos)) none pos') (sRaise x fs wa) := by
  obtain ⟨fI, fd, ps, h1, h2, h3, h4⟩ := W.init
  exact draise W.T h1 h2 h3 hr h4 hg W.mg_ hc ha hfs hf8 hdb he hpl
end DL

/-! D17: the Hook: defs, facts, classes of errors with an __init__ of their own. -/
namespace DL
open PySem PySem.Spec PyProof.Rows L2 NdefX
abbrev FnC : Type := Option (Str × Str × Arguments × FuncBody × Scope × Addr × List Str × Addr)
def iniAt (K : Frag) (x : Str) : Addr := He.ma K (ga K x) "__init__"
def fnC (K : Frag) (x : Str) : FnC := match K.lookup (iniAt K x) with
  | some ⟨_, _, .func fd, _⟩ => some (fd.name, fd.qualname, fd.params, fd.body, fd.scope, fd.globals, fd.closure.map (·.1), fd.builtins)
  | _ => none
/-- a class of errors, its __init__, its fields -/
structure ErrD where
  cls : Str
  qual : Str
  params : Arguments
  body : List Stmt
  scope : Scope
  fs : List Str
def ErrD.val (d : ErrD) : FnC := some ("__init__", d.qual, d.params, .stmts d.body, d.scope, mainGlobals, ["__class__"], builtinsNs)
def oexB (K : Frag) (C : Addr) : Bool := (match K.lookup C with
  | some ⟨.type "type", _, .cls cd, sl⟩ => (match cd.mro, sl.toList with
    | .ref C' :: bm, [_, _, _, _, some (.builtin n), _] => C' == C && (n == "ValueError.__new__" && (!cd.hasDel && (cd.hasDict && PySem.HandSPX.refsVE bm)))
    | _, _ => false)
  | _ => false) && (He.eqO (PySem.W.findIn K (.ref C) "__setattr__") (some (some (.builtin "object.__setattr__"))) && (decide (PySem.W.subIn K (.ref C) (.type "BaseException") = some true) && (decide (PySem.W.typeIn K (.ref C) = some (.type "type")) && PySem.W.keepIn K (.ref C))))
theorem oexB_ok {K : Frag} {C : Addr} (h : oexB K C = true) : OexC K C := by
  obtain ⟨h0, h⟩ := He.ba h
  obtain ⟨h1, h⟩ := He.ba h
  obtain ⟨h2, h⟩ := He.ba h
  obtain ⟨h3, h4⟩ := He.ba h
  refine ⟨?_, He.eqO_ok h1, of_decide_eq_true h2, of_decide_eq_true h3, h4⟩
  split at h0
  · rename_i dd cd sl ho
    split at h0
    · rename_i C' bm k0 k1 k2 k3 n k5 hm hs
      obtain ⟨g1, h0⟩ := He.ba h0
      obtain ⟨g2, h0⟩ := He.ba h0
      obtain ⟨g3, h0⟩ := He.ba h0
      obtain ⟨g4, g5⟩ := He.ba h0
      have g1 := beq_iff_eq.mp g1
      have g2 := beq_iff_eq.mp g2
      subst g1 g2
      obtain ⟨nm, bs, mro, ns, qn, hd, sn, sub, ab, col, del⟩ := cd
      dsimp only at hm g3 g4
      subst hm
      have g3 : del = false := by simpa using g3
      subst g3 g4
      have hsl : sl = #[k0, k1, k2, k3, some (.builtin "ValueError.__new__"), k5] := by
        apply Array.toList_inj.mp
        rw [hs]
      subst hsl
      exact ⟨nm, qn, ns, bs, bm, sn, sub, ab, col, dd, k0, k1, k2, k3, k5, ho, g5⟩
    · cases h0
  · cases h0
/-- what of the __init__ is not told by its record -/
def iniB (file : Str) (K : Frag) (C f : Addr) : Bool := match K.lookup f with
  | some ⟨_, _, .func fd, _⟩ => (match fd.closure, fd.code, fd.defaults with
    | [(_, cc)], .ref c, .none => PySem.W.codeIn K (.ref c) fd.qualname && ((match K.lookup c with
      | some ⟨_, _, .fields (vs : Array Value), _⟩ => (match (vs[2]? : Option Value) with
        | some (.str g _) => file == g
        | _ => false)
      | _ => false) && (match K.lookup cc with
      | some ⟨_, _, .cell (some (.ref C')), _⟩ => C' == C
      | _ => false))
    | _, _, _ => false)
  | _ => false
def ErrD.ok (file : Str) (K : Frag) (d : ErrD) : Bool := He.eqO (PySem.W.nsIn K mainGlobals d.cls) (some (some (.ref (ga K d.cls)))) && (oexB K (ga K d.cls) && (He.eqO (PySem.W.findIn K (.ref (ga K d.cls)) "__init__") (some (some (.ref (iniAt K d.cls)))) &&
  (decide (PySem.W.typeIn K (.ref (iniAt K d.cls)) = some (.type "function")) && (iniB file K (ga K d.cls) (iniAt K d.cls) && (He.eqO (PySem.W.ks_superIn K (ga K d.cls) (ga K d.cls) "__init__") (some (some (.builtin "ValueError.__init__"))) &&
  (decide (PySem.W.subIn K (.ref (ga K d.cls)) (.type "ValueError") = some true) && (decide (PySem.W.mroIn K (ga K d.cls) (.ref (ga K d.cls)) = some true) && (He.eqO (PySem.W.nsIn K cStatics "thirdparty.any") (some none) &&
  (PySem.W.excInitIn K (ga K d.cls) [.type "ValueError", .type "Exception", .type "BaseException", .type "object"] "ValueError.__new__" && d.fs.all fun g => He.eqO (PySem.W.findIn K (.ref (ga K d.cls)) g) (some none))))))))))
theorem ErrD.errK {prog : Program} {K : Frag} {d : ErrD} (e : fnC K d.cls = d.val) (h : d.ok prog.main.file K = true) :
    ∃ c cc, ErrK prog K (ga K d.cls) (iniAt K d.cls) cc ⟨"__init__", d.qual, d.params, d.body, d.scope, [("__class__", cc)], c⟩ ∧ (∀ g ∈ d.fs, PySem.W.findIn K (.ref (ga K d.cls)) g = some none) ∧ PySem.W.nsIn K mainGlobals d.cls = some (some (.ref (ga K d.cls))) := by
  obtain ⟨h1, h⟩ := He.ba h
  obtain ⟨h2, h⟩ := He.ba h
  obtain ⟨h3, h⟩ := He.ba h
  obtain ⟨h4, h⟩ := He.ba h
  obtain ⟨h5, h⟩ := He.ba h
  obtain ⟨h6, h⟩ := He.ba h
  obtain ⟨h7, h⟩ := He.ba h
  obtain ⟨h8, h⟩ := He.ba h
  obtain ⟨h9, h⟩ := He.ba h
  obtain ⟨h10, h11⟩ := He.ba h
  unfold fnC at e
  unfold iniB at h5
  cases q : K.lookup (iniAt K d.cls) with
  | none => rw [q] at e; cases e
  | some o =>
    obtain ⟨oc, od, dt, osl⟩ := o
    rw [q] at e h5
    cases dt with
    | func fd =>
      obtain ⟨n1, n2, n3, n4, n5, n6, n7, n8, n9, n10, n11, n12, n13, n14, n15⟩ := fd
      have e2 : (some (n1, n2, n3, n4, n5, n6, n7.map (·.1), n15) : FnC) = some (("__init__" : Str), d.qual, d.params, FuncBody.stmts d.body, d.scope, mainGlobals, [("__class__" : Str)], builtinsNs) := e
      simp only [Option.some.injEq, Prod.mk.injEq] at e2
      obtain ⟨g1, g2, g3, g4, g5, g6, g7, g8⟩ := e2
      subst g1 g2 g3 g4 g5 g6 g8
      match n7, g7 with
      | [(y, cc)], g7 =>
        have g7 : y = "__class__" := by simpa using g7
        subst g7
        cases n13 with
        | ref c =>
          cases n8 with
          | none =>
            have h5 : (PySem.W.codeIn K (.ref c) d.qual && ((match K.lookup c with
              | some ⟨_, _, .fields (vs : Array Value), _⟩ => (match (vs[2]? : Option Value) with
                | some (.str g _) => prog.main.file == g
                | _ => false)
              | _ => false) && (match K.lookup cc with
              | some ⟨_, _, .cell (some (.ref C')), _⟩ => C' == ga K d.cls
              | _ => false))) = true := h5
            obtain ⟨k1, h5⟩ := He.ba h5
            obtain ⟨k2, k3⟩ := He.ba h5
            refine ⟨c, cc, ⟨oexB_ok h2, He.eqO_ok h3, of_decide_eq_true h4, rfl, ⟨oc, od, osl, n9, n10, n11, n12, n14, q⟩, k1, ?_, ?_, He.eqO_ok h6, of_decide_eq_true h7, of_decide_eq_true h8, He.eqO_ok h9, h10⟩, fun g hg => He.eqO_ok (List.all_eq_true.mp h11 g hg), He.eqO_ok h1⟩
            · split at k2
              · rename_i a b vs d' hl
                split at k2
                · rename_i g t hv
                  exact ⟨_, _, vs, _, g, t, hl, hv, k2⟩
                · cases k2
              · cases k2
            · split at k3
              · rename_i a b C' d' hl
                have := beq_iff_eq.mp k3
                subst this
                exact ⟨_, _, _, hl⟩
              · cases k3
          | _ => cases h5
        | _ => cases h5
    | _ => cases e
/-! ### the Hook -/
def asY (g : Addr → Option Obj) (n : Nat) : List Addr := He.asD g n ++ [cStatics]
abbrev AlY : Type := He.AlD × Bool × List FnC
def obsY (file : Str) (fa : List He.Fa) (fn : List He.DefD) (er : List ErrD) (ex : Frag → Bool) (K : Frag) : AlY := (He.obsD fa fn K, (er.all fun d => d.ok file K) && ex K, er.map fun d => fnC K d.cls)
def valY (fn : List He.DefD) (er : List ErrD) : AlY := (He.valD fn, true, er.map ErrD.val)
def SaysY (file : Str) (fa : List He.Fa) (fn : List He.DefD) (er : List ErrD) (ex : Frag → Bool) (K : Frag) : Prop := obsY file fa fn er ex K = valY fn er
def obsYG (n : Nat) (file : Str) (fa : List He.Fa) (fn : List He.DefD) (er : List ErrD) (ex : Frag → Bool) (g : Addr → Option Obj) : AlY := obsY file fa fn er ex (He.frG g (asY g n))
def hookY (n : Nat) (file : Str) (fa : List He.Fa) (fn : List He.DefD) (er : List ErrD) (ex : Frag → Bool) : PySem.W.Hook where
  α := AlY
  obs := fun s => obsYG n file fa fn er ex s.heap.get?
  val := fun _ => valY fn er
  says := fun _ h => ∃ K : Frag, K.In h ∧ SaysY file fa fn er ex K
  of := fun _ _ e => ⟨_, He.frG_in, e⟩
  keeps := fun _ _ _ ⟨K, hK, c⟩ k => ⟨K, PySem.W.Frag.In.keeps hK k, c⟩
theorem obsYG_eq {n : Nat} {file : Str} {fa : List He.Fa} {fn : List He.DefD} {er : List ErrD} {ex : Frag → Bool} {g : Addr → Option Obj} {s : Shared} (h : ∀ a, g a = s.heap.get? a) : obsYG n file fa fn er ex g = (hookY n file fa fn er ex).obs s := by
  have e : g = s.heap.get? := funext h
  rw [e] <;> rfl
section
variable {file : Str} {fa : List He.Fa} {fn : List He.DefD} {er : List ErrD} {ex : Frag → Bool} {K : Frag}
theorem SaysY.d (c : SaysY file fa fn er ex K) : He.SaysD fa fn K := congrArg (fun z : AlY => z.1) c
theorem SaysY.more (c : SaysY file fa fn er ex K) : ex K = true := (He.ba (show ((er.all fun d => d.ok file K) && ex K) = true from congrArg (fun z : AlY => z.2.1) c)).2
theorem SaysY.err (c : SaysY file fa fn er ex K) (i : Nat) {d : ErrD} (h : er[i]? = some d := by rfl) : fnC K d.cls = d.val ∧ d.ok file K = true := by
  have c1 := (He.ba (show ((er.all fun d => d.ok file K) && ex K) = true from congrArg (fun z : AlY => z.2.1) c)).1
  refine ⟨?_, List.all_eq_true.mp c1 d (List.mem_of_getElem? h)⟩
  have e : er.map (fun d => fnC K d.cls) = er.map ErrD.val := congrArg (fun z : AlY => z.2.2) c
  have e2 : (er.map fun d => fnC K d.cls)[i]? = (er.map ErrD.val)[i]? := by rw [e]
  rw [List.getElem?_map, List.getElem?_map, h] at e2
  exact Option.some.inj e2
end
end DL

/-! D18: repr of data. -/
namespace DL
open PySem PySem.Spec PyProof.Rows L2

mutual
/-- the data that a value is (no cells) -/
def toPy : D → PyData
  | .non => .none
  | .bl b => .bool b
  | .int i => .int i
  | .str x => .str x
  | .tup xs => .tuple (toPys xs)
  | .lst xs => .list (toPys xs)
  | .klst xs => .list (toPys xs)
  | _ => .none
def toPys : List D → List PyData
  | [] => []
  | d :: ds => toPy d :: toPys ds
end
def okStr (x : Str) : Bool := x.cps.toList.all fun c => decide (c < 16 ^ 8)
mutual
/-- data that can be shown -/
def good : D → Bool
  | .non => true
  | .bl _ => true
  | .int i => decide (i.natAbs.log2 < 1900)
  | .str x => okStr x
  | .tup xs => goods xs
  | .lst xs => goods xs
  | .klst xs => goods xs
  | _ => false
def goods : List D → Bool
  | [] => true
  | d :: ds => good d && goods ds
end
mutual
/-- a bound of what is shown -/
def wgt : D → Nat
  | .int i => i.natAbs.log2 + 3
  | .str x => 10 * x.length + 2
  | .tup xs => wgts xs + 3
  | .lst xs => wgts xs + 3
  | .klst xs => wgts xs + 3
  | _ => 5
def wgts : List D → Nat
  | [] => 0
  | d :: ds => wgt d + 2 + wgts ds
end
mutual
def dep : D → Nat
  | .tup xs => deps xs + 1
  | .lst xs => deps xs + 1
  | .klst xs => deps xs + 1
  | _ => 0
def deps : List D → Nat
  | [] => 0
  | d :: ds => max (dep d) (deps ds)
end
mutual
theorem pur_good : ∀ {d : D}, good d = true → pyR (fun _ => none) d = some (toPy d)
  | .non, _ => rfl
  | .bl _, _ => rfl
  | .int _, _ => rfl
  | .str _, _ => rfl
  | .tup xs, h => by simp only [good] at h; simp only [pyR, toPy, purs_good h, Option.map_some]
  | .lst xs, h => by simp only [good] at h; simp only [pyR, toPy, purs_good h, Option.map_some]
  | .klst xs, h => by simp only [good] at h; simp only [pyR, toPy, purs_good h, Option.map_some]
  | .ty _, h => by simp [good] at h
  | .ref _, h => by simp [good] at h
  | .exc .., h => by simp [good] at h
theorem purs_good : ∀ {ds : List D}, goods ds = true → pyRs (fun _ => none) ds = some (toPys ds)
  | [], _ => rfl
  | d :: ds, h => by
    simp only [goods, Bool.and_eq_true] at h
    simp only [pyRs, toPys, pur_good h.1, purs_good h.2]
end
mutual
theorem pyR_mono {r r' : Addr → Option PyData} (hr : ∀ a p, r a = some p → r' a = some p) : ∀ {d : D} {p : PyData}, pyR r d = some p → pyR r' d = some p
  | .non, _, h => h
  | .bl _, _, h => h
  | .int _, _, h => h
  | .str _, _, h => h
  | .ty _, _, h => by simp [pyR] at h
  | .exc .., _, h => by simp [pyR] at h
  | .ref a, _, h => hr _ _ h
  | .tup xs, p, h => by
    simp only [pyR, Option.map_eq_some_iff] at h ⊢
    obtain ⟨ps, e, rfl⟩ := h
    exact ⟨ps, pyRs_mono hr e, rfl⟩
  | .lst xs, p, h => by
    simp only [pyR, Option.map_eq_some_iff] at h ⊢
    obtain ⟨ps, e, rfl⟩ := h
    exact ⟨ps, pyRs_mono hr e, rfl⟩
  | .klst xs, p, h => by
    simp only [pyR, Option.map_eq_some_iff] at h ⊢
    obtain ⟨ps, e, rfl⟩ := h
    exact ⟨ps, pyRs_mono hr e, rfl⟩
theorem pyRs_mono {r r' : Addr → Option PyData} (hr : ∀ a p, r a = some p → r' a = some p) : ∀ {ds : List D} {ps : List PyData}, pyRs r ds = some ps → pyRs r' ds = some ps
  | [], _, h => h
  | d :: ds, ps, h => by
    simp only [pyRs] at h ⊢
    split at h
    · rename_i p qs e1 e2
      rw [pyR_mono hr e1, pyRs_mono hr e2]; exact h
    · cases h
end
theorem pyM_pure {m : Mem} {n : Nat} {d : D} (h : good d = true) : pyM m n d = some (toPy d) := by
  cases n with
  | zero => exact pur_good h
  | succ n => exact pyR_mono (fun a p z => by cases z) (pur_good h)
theorem pyM_cell {m : Mem} {n : Nat} {p : Addr} {xs : List D} (e : lstOf m (.ref p) = some xs) (h : goods xs = true) : pyM m (n + 1) (.ref p) = some (toPy (.lst xs)) := by
  have e' := lst_iff.mp e
  show (match m p with | some (.lst xs) => (pyRs (fun b => pyM m n (.ref b)) xs).map PyData.list | _ => none) = _
  rw [e']
  show (pyRs (fun b => pyM m n (.ref b)) xs).map PyData.list = _
  rw [pyRs_mono (fun a p z => by cases z) (purs_good h)]
  rfl

/-! ### sizes -/
theorem intLen (i : Int) : (PyData.shown (.int i)).length ≤ i.natAbs.log2 + 3 := by
  simp only [PyData.shown]
  have key : ∀ n : Nat, (Nat.repr n).length ≤ n.log2 + 1 := fun n =>
    PySem.nat_repr_length_le (Nat.succ_pos _) (Nat.lt_log2_self)
  cases i with
  | ofNat n =>
    have e : (toString (Int.ofNat n) : String) = Nat.repr n := rfl
    have e2 : ((toString (Int.ofNat n) : String) : Str).length = (Nat.repr n).length := by rw [e]; exact PySem.ofString_length _
    have := key n
    show ((toString (Int.ofNat n) : String) : Str).length ≤ n.log2 + 3
    omega
  | negSucc n =>
    have e : (toString (Int.negSucc n) : String) = "-" ++ Nat.repr (n + 1) := rfl
    have e2 : ((toString (Int.negSucc n) : String) : Str).length = 1 + (Nat.repr (n + 1)).length := by rw [e, PySem.ofString_length, String.length_append]; rfl
    have := key (n + 1)
    show ((toString (Int.negSucc n) : String) : Str).length ≤ (n + 1).log2 + 3
    omega

mutual
theorem shown_wgt : ∀ {d : D}, good d = true → (toPy d).shown.length ≤ wgt d
  | .non, _ => by decide
  | .bl b, _ => by cases b <;> decide
  | .int i, _ => intLen i
  | .str x, h => by
    simp only [good, okStr, List.all_eq_true, decide_eq_true_eq] at h
    exact PySem.StrLaws.reprText_len x h
  | .tup xs, h => by
    have h1 := showns_wgt (by simpa only [good] using h)
    have h2 := PySem.tupleText_len_le (PyData.shownAll (toPys xs))
    have h3 := PyData.shownAll_length (toPys xs)
    simp only [toPy, PyData.shown, wgt]; omega
  | .lst xs, h => by
    have h1 := showns_wgt (by simpa only [good] using h)
    have h2 := PySem.listText_len_le (PyData.shownAll (toPys xs))
    have h3 := PyData.shownAll_length (toPys xs)
    simp only [toPy, PyData.shown, wgt]; omega
  | .klst xs, h => by
    have h1 := showns_wgt (by simpa only [good] using h)
    have h2 := PySem.listText_len_le (PyData.shownAll (toPys xs))
    have h3 := PyData.shownAll_length (toPys xs)
    simp only [toPy, PyData.shown, wgt]; omega
  | .ty _, h => by simp [good] at h
  | .ref _, h => by simp [good] at h
  | .exc .., h => by simp [good] at h
theorem showns_wgt : ∀ {ds : List D}, goods ds = true → ((PyData.shownAll (toPys ds)).map (·.length)).sum + 2 * (toPys ds).length ≤ wgts ds
  | [], _ => by decide
  | d :: ds, h => by
    simp only [goods, Bool.and_eq_true] at h
    have h1 := shown_wgt h.1
    have h2 := showns_wgt h.2
    simp only [toPys, PyData.shownAll, List.map_cons, List.sum_cons, List.length_cons, wgts]; omega
end
mutual
theorem showable_good : ∀ {d : D}, good d = true → (toPy d).showable = true
  | .non, _ => rfl
  | .bl _, _ => rfl
  | .int i, h => by
    simp only [good, decide_eq_true_eq] at h
    simp only [toPy, PyData.showable, decide_eq_true_eq]; omega
  | .str _, _ => rfl
  | .tup xs, h => by simp only [good] at h; simpa only [toPy, PyData.showable] using showables_good h
  | .lst xs, h => by simp only [good] at h; simpa only [toPy, PyData.showable] using showables_good h
  | .klst xs, h => by simp only [good] at h; simpa only [toPy, PyData.showable] using showables_good h
  | .ty _, h => by simp [good] at h
  | .ref _, h => by simp [good] at h
  | .exc .., h => by simp [good] at h
theorem showables_good : ∀ {ds : List D}, goods ds = true → PyData.showableAll (toPys ds) = true
  | [], _ => rfl
  | d :: ds, h => by
    simp only [goods, Bool.and_eq_true] at h
    simp only [toPys, PyData.showableAll, showable_good h.1, showables_good h.2, Bool.and_self]
end
mutual
theorem noDict_good : ∀ {d : D}, good d = true → (toPy d).hasDict = false
  | .non, _ => rfl
  | .bl _, _ => rfl
  | .int i, h => rfl
  | .str _, _ => rfl
  | .tup xs, h => by simp only [good] at h; simpa only [toPy, PyData.hasDict] using noDicts_good h
  | .lst xs, h => by simp only [good] at h; simpa only [toPy, PyData.hasDict] using noDicts_good h
  | .klst xs, h => by simp only [good] at h; simpa only [toPy, PyData.hasDict] using noDicts_good h
  | .ty _, h => by simp [good] at h
  | .ref _, h => by simp [good] at h
  | .exc .., h => by simp [good] at h
theorem noDicts_good : ∀ {ds : List D}, goods ds = true → PyData.hasDictAll (toPys ds) = false
  | [], _ => rfl
  | d :: ds, h => by
    simp only [goods, Bool.and_eq_true] at h
    simp only [toPys, PyData.hasDictAll, noDict_good h.1, noDicts_good h.2, Bool.or_self]
end
mutual
theorem depth_dep : ∀ {d : D}, (toPy d).depth ≤ dep d
  | .non => by simp [toPy, PyData.depth]
  | .bl _ => by simp [toPy, PyData.depth]
  | .int i => by simp [toPy, PyData.depth]
  | .str _ => by simp [toPy, PyData.depth]
  | .tup xs => by have := depths_dep (ds := xs); simp only [toPy, PyData.depth, dep]; omega
  | .lst xs => by have := depths_dep (ds := xs); simp only [toPy, PyData.depth, dep]; omega
  | .klst xs => by have := depths_dep (ds := xs); simp only [toPy, PyData.depth, dep]; omega
  | .ty _ => by simp [toPy, PyData.depth]
  | .ref _ => by simp [toPy, PyData.depth]
  | .exc .. => by simp [toPy, PyData.depth]
theorem depths_dep : ∀ {ds : List D}, PyData.depthAll (toPys ds) ≤ deps ds
  | [] => by simp [toPys, PyData.depthAll]
  | d :: ds => by
    have := depth_dep (d := d); have := depths_dep (ds := ds)
    simp only [toPys, PyData.depthAll, deps]; omega
end
/-! ### repr -/
/-- what is shown of a value: data, or a list that may change, of data -/
def showD (m : Mem) (d : D) : Option Str := match d with
  | .ref p => match m p with
    | some (.lst xs) => if goods xs = true ∧ wgts xs + 3 ≤ sizeLine ∧ deps xs + 1 ≤ 40 then some (toPy (.lst xs)).shown else none
    | _ => none
  | d => if good d = true ∧ wgt d ≤ sizeLine ∧ dep d ≤ 40 then some (toPy d).shown else none
theorem showD_good {m : Mem} {d : D} (h : good d = true) (hw : wgt d ≤ sizeLine) (hd : dep d ≤ 40) : showD m d = some (toPy d).shown := by
  cases d <;> first | (simp [good] at h; done) | (simp only [showD]; exact if_pos ⟨h, hw, hd⟩)
theorem showD_cell {m : Mem} {p : Addr} {xs : List D} (e : lstOf m (.ref p) = some xs) (h : goods xs = true) (hw : wgts xs + 3 ≤ sizeLine) (hd : deps xs + 1 ≤ 40) : showD m (.ref p) = some (toPy (.lst xs)).shown := by
  simp only [showD, lst_iff.mp e]
  exact if_pos ⟨h, hw, hd⟩
theorem showD_some {m : Mem} {d : D} {x : Str} (e : showD m d = some x) : ∃ p, pyM m 1 d = some p ∧ x = p.shown ∧ p.shown.length ≤ sizeLine ∧ p.showable = true ∧ p.hasDict = false ∧ p.depth ≤ 40 := by
  have gen : ∀ d : D, (if good d = true ∧ wgt d ≤ sizeLine ∧ dep d ≤ 40 then some (toPy d).shown else none) = some x → ∃ p, pyM m 1 d = some p ∧ x = p.shown ∧ p.shown.length ≤ sizeLine ∧ p.showable = true ∧ p.hasDict = false ∧ p.depth ≤ 40 := fun d e => by
    split at e
    · rename_i h
      cases e
      exact ⟨_, pyM_pure h.1, rfl, Nat.le_trans (shown_wgt h.1) h.2.1, showable_good h.1, noDict_good h.1, Nat.le_trans depth_dep h.2.2⟩
    · cases e
  cases d with
  | ref p =>
    simp only [showD] at e
    cases h : m p with
    | none => rw [h] at e; cases e
    | some c =>
      rw [h] at e
      cases c with
      | lst xs =>
        have e : (if goods xs = true ∧ wgts xs + 3 ≤ sizeLine ∧ deps xs + 1 ≤ 40 then some (toPy (.lst xs)).shown else none) = some x := e
        split at e
        · rename_i hh
          cases e
          have hg : good (.lst xs) = true := by simpa only [good] using hh.1
          exact ⟨_, pyM_cell (lstOf_ref h) hh.1, rfl, Nat.le_trans (shown_wgt hg) (by simpa only [wgt] using hh.2.1), showable_good hg, noDict_good hg, Nat.le_trans depth_dep (by simpa only [dep] using hh.2.2)⟩
        · cases e
      | _ => cases e
  | _ => exact gen _ e
def fRepr : FB := fun ds m Q => match ds with
  | [d] => ∃ x, showD m d = some x ∧ Q (.str x) m
  | _ => False
section
variable {X : Cx}
theorem call_repr (hg : X.A.guards = some []) (hu : X.A.units + 64 < cLine) : CallR X (.builtin "repr") (fun xs H Q => ∃ x p, xs = [x] ∧ Dp X.K H x p ∧ p.shown.length ≤ sizeLine ∧ p.showable = true ∧ p.hasDict = false ∧ p.depth ≤ 40 ∧ Q (.str p.shown) H) := by
  intro pins s σ H xs us Q I r ⟨x, p, e, dp, h1, h2, h3, h4, q⟩
  subst e
  cases r with
  | @cons _ u _ us' ru rr =>
    cases rr
    have plain : ∀ {t' : Nat} {tk : Tok}, EP X pins σ Q (.str p.shown tk) { s with toks := t' } := fun {t' tk} =>
      ⟨V.str p.shown, H, I.kept (t' := t') (fun _ _ e => e), ⟨tk, rfl⟩, q⟩
    cases dp with
    | non => obtain rfl : u = Value.none := ru; exact PySem.P.repr_of_none plain
    | bl b => obtain rfl : u = Value.bool b := ru; exact PySem.P.repr_of_bool plain
    | int i => obtain ⟨t, rfl⟩ := ru; exact PySem.P.repr_of_int (by simpa only [PyData.showable, decide_eq_true_eq] using h2) plain
    | str z => obtain ⟨t, rfl⟩ := ru; exact PySem.P.repr_of_str plain (hsz := h1)
    | @lst a ys ds hs hA =>
      obtain rfl : u = Value.ref a := ru
      obtain ⟨as, rd⟩ := Dp.reads I _ _ _ (Dp.lst hs hA) rfl
      refine repr_of_reads' rd h2 (PyData.noDict_hsm h3) hg (by omega) (fun _ _ e => e) (fun h' w tk hk => ?_) h1
      exact ⟨V.str _, H, I.kept (t' := tk) hk, ⟨_, rfl⟩, q⟩
    | @tup a ys ds hs hA =>
      obtain rfl : u = Value.ref a := ru
      obtain ⟨as, rd⟩ := Dp.reads I _ _ _ (Dp.tup hs hA) rfl
      refine repr_of_reads' rd h2 (PyData.noDict_hsm h3) hg (by omega) (fun _ _ e => e) (fun h' w tk hk => ?_) h1
      exact ⟨V.str _, H, I.kept (t' := tk) hk, ⟨_, rfl⟩, q⟩
theorem bd_repr : BD X (fun xs H Q => ∃ x p, xs = [x] ∧ Dp X.K H x p ∧ p.shown.length ≤ sizeLine ∧ p.showable = true ∧ p.hasDict = false ∧ p.depth ≤ 40 ∧ Q (.str p.shown) H) fRepr := fun F m H ds vs Qd Q r dn q k => by
  match ds, q with
  | [d], q =>
    obtain ⟨x, e, q⟩ := q
    obtain ⟨v, rfl, d1⟩ := dens1 dn
    obtain ⟨p, e1, rfl, h1, h2, h3, h4⟩ := showD_some e
    exact ⟨v, p, rfl, pyM_dp r 1 d1 e1, h1, h2, h3, h4, k _ H F m _ (Sub.refl F) r (by simp only [Den]) q⟩
theorem drepr {k : Nat} {p pos : Pos} {e : Expr} {we : WA} (hr : Rm true k X.A) (hg : Gl X "repr") (hm : X.mg "repr" = none) (ha : DA X [e] we) (he : starEach [e] X.env = (false, eval e X.env) :: starEach [] X.env := by rfl) : DE X (.Call (.Name "repr" p) [e] [] pos) (wCB fRepr we) :=
  dcb (call_repr (hr.gd rfl) hr.units) bd_repr hg hm PyProof.Rows.boot_repr ha (he := he)
end
@[simp ↓] theorem fRepr_ {d : D} {m : Mem} {Q : Po} : fRepr [d] m Q = Is (showD m d) (fun x => Q (.str x) m) .mk := by simp [fRepr, Is]
/-! ### sizes of rows -/
theorem goods_map {α : Type} (f : α → D) : ∀ {xs : List α}, (∀ x ∈ xs, good (f x) = true) → goods (xs.map f) = true
  | [], _ => rfl
  | x :: xs, h => by
    simp only [List.map_cons, goods, h x (List.mem_cons_self ..), goods_map f fun y hy => h y (List.mem_cons_of_mem _ hy), Bool.and_self]
theorem wgts_map {α : Type} (f : α → D) (B : Nat) : ∀ {xs : List α}, (∀ x ∈ xs, wgt (f x) ≤ B) → wgts (xs.map f) ≤ xs.length * (B + 2)
  | [], _ => by simp [wgts]
  | x :: xs, h => by
    have h1 := h x (List.mem_cons_self ..)
    have h2 := wgts_map f B fun y hy => h y (List.mem_cons_of_mem _ hy)
    simp only [List.map_cons, wgts, List.length_cons, Nat.add_mul, Nat.one_mul]; omega
theorem deps_map {α : Type} (f : α → D) (B : Nat) : ∀ {xs : List α}, (∀ x ∈ xs, dep (f x) ≤ B) → deps (xs.map f) ≤ B
  | [], _ => by simp [deps]
  | x :: xs, h => by
    have h1 := h x (List.mem_cons_self ..)
    have h2 := deps_map f B fun y hy => h y (List.mem_cons_of_mem _ hy)
    simp only [List.map_cons, deps]; omega
end DL

/-! D19: a lambda without parameters, handed to a def of one parameter. -/
namespace DL
open PySem PySem.Spec PyProof.Rows L2

/-- what the making of a lambda changes: nothing, or the table at P and one new code object -/
def LamStep (H H1 : Hp) (P : Addr) (ps : Array Value) (c1 : Addr) (q : Str) : Prop :=
  (H1 = H ∧ ∃ pos, codeAmong pos ps.toList = some (.ref c1)) ∨
  ∃ qs : Array Value, H c1 = none ∧ H1 = upd (upd H P (.tbl qs)) c1 (LamX.CodeO c1 q) ∧ TriplesOk qs.toList ∧ ∀ pos cv, codeAmong pos qs.toList = some cv → codeAmong pos ps.toList = some cv ∨ cv = .ref c1
theorem LamStep.rel {K : Frag} {F : Hp} {m : Mem} {H H1 : Hp} {P c1 : Addr} {q : Str} {ps : Array Value} (r : Rel K F m H) (hm : m P = some (.tab q)) (hP : H P = some (.tbl ps))
    (ha : ∀ (pos : Pos) (cv : Value), codeAmong pos ps.toList = some cv → ∃ c, cv = .ref c ∧ F c = some (LamX.CodeO c q)) (st : LamStep H H1 P ps c1 q) : ∃ F', Sub F F' ∧ Rel K F' m H1 ∧ F' c1 = some (LamX.CodeO c1 q) := by
  obtain ⟨fP, _⟩ := r.me P _ hm
  rcases st with ⟨e, pos, hc⟩ | ⟨qs, hn, e, ht, hq⟩
  · obtain ⟨c, ec, hF⟩ := ha pos _ hc
    cases ec
    exact ⟨F, Sub.refl F, by rw [e]; exact r, hF⟩
  · obtain ⟨f1, m1⟩ := r.free hn
    have sb : Sub F (upd F c1 (LamX.CodeO c1 q)) := fun b u eb => by rw [upd_ne (fun z => by rw [z, f1] at eb; cases eb)]; exact eb
    have nP : P ≠ c1 := fun z => by rw [z, hn] at hP; cases hP
    refine ⟨_, sb, ⟨fun b u eb => ?_, fun b cc eb => ?_⟩, upd_same⟩
    · rw [e]
      by_cases z : b = c1
      · subst z; rw [upd_same] at eb ⊢; exact eb
      · rw [upd_ne z] at eb ⊢
        rw [upd_ne (fun y => by rw [y, fP] at eb; cases eb)]
        exact r.fz b u eb
    · have z : b ≠ c1 := fun z => by rw [z, m1] at eb; cases eb
      obtain ⟨g, qk⟩ := r.me b cc eb
      refine ⟨by rw [upd_ne z]; exact g, ?_⟩
      by_cases y : b = P
      · subst y
        rw [hm] at eb; cases eb
        simp only [CellOk]
        refine ⟨qs, by rw [e, upd_ne z, upd_same], ht, fun pos cv hc => ?_⟩
        rcases hq pos cv hc with w | w
        · obtain ⟨c, e1, e2⟩ := ha pos cv w
          exact ⟨c, e1, sb _ _ e2⟩
        · exact ⟨c1, w, upd_same⟩
      · exact qk.to sb (by rw [e, upd_ne z, upd_ne y])
section
variable {X : Cx} {pins : List (Addr × Obj)} {σ : L2.St} {H : Hp} {s : Shared}
/-- the lambda's object -/
def LamO (f : Addr) (o : Obj) : HO := .ext fun h => h.get? f = some o
theorem LamO.ok {P : Program} {w : World} {H : Hp} {h : Heap} {f : Addr} {o : Obj} (e : h.get? f = some o) : ObjOk P w H h f (LamO f o) := ⟨e, ⟨o, e⟩, fun _ _ q k => k _ q⟩
theorem lam_new {c P : Addr} {params : Arguments} {body : Expr} {scope : Scope} {pos : Pos} {ps : Array Value} {E : Value → Shared → Prop} {Q : Value → Shared → Prop} (I : Inv X pins σ H s) (TB : LamX.TabB X.base X.mg c P) (hcode : X.env.code = .ref c)
    (hP : H P = some (.tbl ps)) (ht : TriplesOk ps.toList) (ha : ∀ (pos : Pos) (cv : Value), codeAmong pos ps.toList = some cv → ∃ c, cv = .ref c ∧ H c = some (LamX.CodeO c (X.env.qual ++ "<lambda>")))
    (hdef : defaultsOf params X.env = ([], [])) (hfree : ∀ y ∈ scope.names, y.2 = .free → ∃ c, X.env.cells.lookup y.1 = some c)
    (h : ∀ (f c1 : Addr) (pm ctv : Value) (H1 : Hp) (s' : Shared), LamStep H H1 P ps c1 (X.env.qual ++ "<lambda>") → H1 f = none →
      Inv X pins σ (upd H1 f (LamO f (PySem.W.kla_obj "<lambda>" (X.env.qual ++ "<lambda>") params body scope (cloFrom X.env.cells scope.names []) pm c1 ctv))) s' → Q (.ref f) s') :
    wpAny (model X.prog X.w) X.A (eval (.Lambda params body scope pos) X.env) Q E s := by
  apply PySem.W.kla_eval hdef
  have kb : s.heap.BuiltinsAt X.mg P := LamX.TabB.bm TB |>.keeps I.bk
  have kP : s.heap.get? P = some { cls := .none, data := .fields ps } := I.hok P _ hP
  cases hc : codeAmong pos ps.toList with
  | some cv =>
    obtain ⟨c1, ec, hco⟩ := ha pos cv hc
    subst ec
    apply PySem.W.kla_makeFunctionHit (mg := X.mg) (c := c) (P := P) (ps := ps) (closure_ok hfree) I.ok.glob (I.mod.glob.keeps I.bk) hcode (LamX.TabB.code TB |>.keeps I.bk) kP ht hc kb
    intro ctv h' tk hx hsz
    have I1 : Inv X pins σ H { s with heap := h', toks := tk } := I.kept hx
    exact h h'.objs.size c1 ((X.mg "__name__").getD .none) ctv H _ (.inl ⟨rfl, pos, hc⟩) (I.hok.fresh hsz) (I1.laid (t' := tk) (fun b o e => Heap.get?_push_of_some _ e) (Nat.le_refl _) (LamO.ok (Heap.get?_push_size _ rfl)))
  | none =>
    apply PySem.W.kla_makeFunction (mg := X.mg) (c := c) (P := P) (ps := ps) (closure_ok hfree) I.ok.glob (I.mod.glob.keeps I.bk) hcode (LamX.TabB.code TB |>.keeps I.bk) kP ht hc TB.gP kb
    intro c1 ctv h' tk hx hge hlt hrec htb
    obtain ⟨c2, oc, vs, t, e2, hoc, hd, hv⟩ := hrec
    cases e2
    have up : s.heap.objs.size ≤ h'.objs.size := by omega
    have n1 : H c1 = none := I.hok.fresh hge
    have I1 := LamX.inv_table (q := X.env.qual ++ "<lambda>") (t' := tk) (more := #[rawInt pos.line, rawInt pos.col, .ref c1]) (h' := h') I hP (fun b o hb e => hx b o hb e) htb hge ⟨oc, vs, t, hoc, hd, hv⟩
    have el : (ps ++ #[rawInt pos.line, rawInt pos.col, Value.ref c1]).toList = ps.toList ++ [rawInt pos.line, rawInt pos.col, .ref c1] := by rw [Array.toList_append]
    refine h h'.objs.size c1 ((X.mg "__name__").getD .none) ctv _ _ (.inr ⟨_, n1, rfl, by rw [el]; exact PySem.TriplesOk_snoc _ _ _ _ ht, fun p cv hcv => ?_⟩) ?_ (I1.laid (t' := tk) (fun b o e => Heap.get?_push_of_some _ e) (Nat.le_refl _) (LamO.ok (Heap.get?_push_size _ rfl)))
    · rw [el] at hcv
      exact LamX.among_app _ ht hcv
    · have a1 : h'.objs.size ≠ c1 := by omega
      have a2 : h'.objs.size ≠ P := Nat.ne_of_gt (Nat.lt_of_lt_of_le (Heap.lt_size kP) up)
      rw [upd_ne a1, upd_ne a2]
      exact I.hok.fresh up
/-- the call of what the def got: W, what is asked of it -/
abbrev WM := Mem → Po → Xo → Prop
/-- the lambda as a cell: made with the names env in the context X -/
def lamT (K : Frag) (σ : L2.St) (env : En) (c1 : Addr) (q : Str) : Hp → Prop := fun F => EnvDen K F σ env ∧ F c1 = some (LamX.CodeO c1 q)
def wDeed (i : Nat) (f : Addr) (φ : Heap → Prop) (T : Hp → Prop) (W : WM) : WE := fun env m Q E => env[i]? = some (some (.ref f)) ∧ m f = some (.lam φ T) ∧ W (m.del f) Q E
abbrev lamPhi (X : Cx) (params : Arguments) (body : Expr) (scope : Scope) (pm ctv : Value) (f c1 : Addr) : Heap → Prop := fun h => h.get? f = some (PySem.W.kla_obj "<lambda>" (X.env.qual ++ "<lambda>") params body scope (cloFrom X.env.cells scope.names []) pm c1 ctv)
theorem Rel.del {K : Frag} {F : Hp} {m : Mem} {H : Hp} (r : Rel K F m H) (a : Addr) : Rel K F (m.del a) H := r.le fun b c e => by
  by_cases z : b = a
  · subst z; rw [Mem.del_same] at e; cases e
  · rw [Mem.del_ne z] at e; exact e
/-- within a frame of the def g (the maker's state s), x() with x the lambda -/
theorem lam_deed {CXg : CXT} {Eg : XK} {Ng : List Str} {qg : Str} {sg : Scope} {g f c1 : Addr} {cdg pm ctv : Value} {params : Arguments} {body : Expr} {scope : Scope} {k i : Nat} {a : Str} {pn : List (Addr × Obj)} {xe : Value → Shared → Prop} {w : WE} {p1 p2 : Pos} {env0 : En}
    (I : Inv X pins σ H s) (L : LamX.LamS X.env.scope scope) (hbind : bindArgs (PySem.W.kla_fn "<lambda>" (X.env.qual ++ "<lambda>") params body scope (cloFrom X.env.cells scope.names []) pm (.ref c1) ctv) ⟨[], []⟩ = pure [])
    (hr : Room (k + 1) (X.A.deeper (envOfC qg sg s.heap.objs.size g cdg)))
    (hbody : ∀ (A : Around) (outer : List Env) (s : Shared) (H : Hp) (E : XK), Room k (A.deeper (LamX.lamEnv X scope s.heap.objs.size f c1)) → DE (LamX.lamCx X A outer s H E scope f c1) body w)
    (hN : Ng[i]? = some a) (hv : Vis sg a) (hd : (a == ("__debug__" : Str)) = false := by decide) (hcd : (a == ("__classdict__" : Str)) = false := by decide) :
    DE ((cxOf CXg X.prog X.w X.K X.mg X.base Ng qg sg g cdg X.A X.stack s H Eg).tr pn xe) (.Call (.Name a p1) [] [] p2) (wDeed i f (lamPhi X params body scope pm ctv f c1) (lamT X.K σ env0 c1 (X.env.qual ++ "<lambda>")) (w env0)) := by
  refine ⟨fun pins2 s2 σ2 H2 Q IZ ⟨F, m, env, Qd, xc, r, en, ac, ⟨hslot, hcell, hw⟩, kq⟩ => ?_⟩
  apply wpAny_Call_Name_kw
  obtain ⟨fF, hco⟩ := r.me f _ hcell
  obtain ⟨hHf, ⟨en0, hc1⟩, _⟩ := id hco
  have en0 : EnvDen X.K F σ env0 := en0
  obtain ⟨v, hv1, dv⟩ := en.at_ i _ hslot
  have vf : v = .ref f := by simpa only [Den] using dv
  subst vf
  refine thn ((pe_var (X := (cxOf CXg X.prog X.w X.K X.mg X.base Ng qg sg g cdg X.A X.stack s H Eg).tr pn xe) (pos := p1) (i := i) hN hv hd hcd).run pins2 s2 σ2 H2 (fun v H1 => v = .ref f ∧ H1 = H2) IZ ⟨.ref f, hv1, rfl, rfl⟩) fun u s1 ⟨v, H1, I1, r1, ev, eH⟩ => ?_
  subst ev
  subst eH
  obtain rfl : u = Value.ref f := r1
  have of1 : s1.heap.get? f = some (PySem.W.kla_obj "<lambda>" (X.env.qual ++ "<lambda>") params body scope (cloFrom X.env.cells scope.names []) pm c1 ctv) := (I1.hok f _ hHf).1
  refine PySem.W.callWith_F0 ⟨_, _, _, _, of1⟩ ?_
  have un : Un (frs X.stack) [] H H1 s.heap s1.heap := I1.base
  obtain ⟨⟨oc, vs, t, hoc, hdc, hvc⟩, _, _⟩ := I1.hok c1 _ (r.fz _ _ hc1)
  let EZ : XK := fun cls d H' => ∃ W, Takes ((cxOf CXg X.prog X.w X.K X.mg X.base Ng qg sg g cdg X.A X.stack s H Eg).tr pn xe) W ∧ W cls d σ2 H'
  have rc : codeAny (model X.prog X.w) (X.A.deeper (envOfC qg sg s.heap.objs.size g cdg)) (.call (.ref f) ⟨[], []⟩) (CR (L2.CX X.prog X.w) (envOfC qg sg s.heap.objs.size g cdg :: X.stack) X.prog X.w H1 s1 Q EZ) s1 := by
    apply PySem.W.kla_callFunE hr.depth of1 rfl L.co L.gen rfl ⟨c1, oc, vs, t, rfl, hoc, hdc, hvc⟩
    rw [hbind]
    refine wpAny_pure (wpAny_newFunctionEnv (fun y hy => (L.own y hy).2) (fun y hy => absurd hy (by simp)) (fun h₁ hns hsb => ⟨I1.nolimit.fresh _ hsb, ?_⟩) L.kind)
    show codeAny _ _ (.expr body (LamX.lamEnv X scope s1.heap.objs.size f c1)) _ _
    have kp : ∀ b o, s1.heap.get? b = some o → h₁.get? b = some o := fun b o e => hsb.extBut b o (Nat.ne_of_lt (Heap.lt_size e)) (Heap.get?_push_of_some _ e)
    have J : Inv (LamX.lamCx X (X.A.deeper (envOfC qg sg s.heap.objs.size g cdg)) (envOfC qg sg s.heap.objs.size g cdg :: X.stack) s1 H1 EZ scope f c1) [] σ H1 { s1 with heap := h₁, toks := s1.toks + ([] : List (Str × Value)).length } :=
      LamX.lam_start2 I L I1.env0 hr.hd un hns kp
    apply PySem.W.kla_codeExpr
    refine wpAny_mono ((hbody _ _ s1 H1 EZ (hr.deeper _)).run [] _ _ H1 Q J ⟨F, m.del f, env0, Qd, fun x e m' => xc x env m', r.del f, en0, ?_, hw, kq⟩) (fun v s' ⟨w', H', J', rv, q⟩ => ⟨w', H', J'.os, J'.bare, J'.base, J'.hok, rv, q⟩) fun e s' hq => hq
    obtain ⟨G0, sG, tk⟩ := ac
    refine ⟨F, Sub.refl F, Takes.imp (takes_of (X := LamX.lamCx X (X.A.deeper (envOfC qg sg s.heap.objs.size g cdg)) (envOfC qg sg s.heap.objs.size g cdg :: X.stack) s1 H1 EZ scope f c1) rfl rfl rfl rfl) fun cls dd σ' H' ⟨F', m', env', y, s', r', en', xa, hx⟩ => ?_⟩
    exact ⟨_, tk, F', m', env, y, sG.trans s', r', en.mono s', xa, hx⟩
  refine wpAny_call (codeAny_mono rc fun rr s' hq => ?_)
  cases rr with
  | error e => exact passes_max (X := (cxOf CXg X.prog X.w X.K X.mg X.base Ng qg sg g cdg X.A X.stack s H Eg).tr pn xe) σ2 pins2 H1 s1 e s' I1 hq
  | ok fl =>
    cases fl with
    | ret u => exact I1.after hq
    | next => exact False.elim hq
    | brk => exact False.elim hq
    | cont => exact False.elim hq
end
section
variable {P : Program} {w : World} {K : Frag} {mg : Str → Option Value} {base : Heap} {k : Nat} {N : List Str} {qual : Str} {scope : Scope} {body : List Stmt} {wb : WS}
theorem body_at {f : Addr} {cdv : Value} {A : Around} {outer : List Env} {s : Shared} {H : Hp} {vs : List V} {ds : List D} {F : Hp} {m : Mem} {Q : VK} {E : XK} {QD : Po} {ED : Xo} (d : DSs (cxOf (CX P w) P w K mg base N qual scope f cdv A outer s H E) body wb)
    (r : Rel K F m H) (dn : Dens K F ds vs) (h : wb (Dend QD ED) (startD N ds) m) (kq : ∀ v H' F' m' d, Sub F F' → Rel K F' m' H' → Den K F' d v → QD d m' → Q v H') (ke : ∀ cls dd H' F' m' x, Sub F F' → Rel K F' m' H' → ExcAt K F' cls dd H' x → ED x m' → E cls dd H') :
    ∃ t, PSs (cxOf (CX P w) P w K mg base N qual scope f cdv A outer s H E) body t ∧ t { nx := fun _ H' => Q .non H', rt := Q } (L2.start N vs) H := by
  refine ⟨_, d, F, m, startD N ds, Dend QD ED, r, start_den dn, ⟨F, Sub.refl F, Takes.imp (takes_of rfl rfl rfl rfl) fun cls dd σ1 H1 ⟨F1, m1, e1, y, s1, r1, en1, xa, m0, hle, hE⟩ => ke cls dd H1 F1 m0 y s1 (r1.le hle) xa hE⟩, h, ?_, ?_, ?_, ?_⟩
  · intro σ1 H1 F1 m1 e1 s1 r1 en1 ⟨m0, hle, q⟩
    exact kq _ H1 F1 m0 .non s1 (r1.le hle) (by simp only [Den]) q
  · intro _ _ _ _ _ _ _ _ q; exact q.elim
  · intro _ _ _ _ _ _ _ _ q; exact q.elim
  · intro v H1 F1 m1 d1 s1 r1 dn1 ⟨m0, hle, q⟩
    exact kq v H1 F1 m0 d1 s1 (r1.le hle) dn1 q
/-- the promise of a def that gets a lambda and calls it -/
abbrev SpL := WM → Mem → Po → Xo → Prop
def DerL (P : Program) (w : World) (K : Frag) (mg : Str → Option Value) (base : Heap) (k : Nat) (N : List Str) (a : Str) (scope : Scope) (body : List Stmt) (rd : WE → WS) : Prop :=
  ∀ (qual : Str) (f : Addr) (cdv : Value) (A : Around) (outer : List Env) (s : Shared) (H : Hp) (E : XK) (W : WE), Rm false k (A.deeper (PyProof.Rows.envOfC qual scope s.heap.objs.size f cdv)) →
    (∀ pn xe p1 p2, DE ((cxOf (CX P w) P w K mg base N qual scope f cdv A outer s H E).tr pn xe) (.Call (.Name a p1) [] [] p2) W) → DSs (cxOf (CX P w) P w K mg base N qual scope f cdv A outer s H E) body (rd W)
structure LFn (P : Program) (w : World) (K : Frag) (mg : Str → Option Value) (base : Heap) (k : Nat) (x : Str) (sp : SpL) : Prop where
  ex : ∃ (N : List Str) (a : Str) (g : Addr) (fd : FuncData) (params : Arguments) (body : List Stmt) (scope : Scope) (rd : WE → WS), mg x = some (.ref g) ∧ FunD K x x params body scope [] [] g fd ∧ FnScope N [a] scope ∧ N[0]? = some a ∧ Vis scope a ∧ (a == ("__debug__" : Str)) = false ∧ (a == ("__classdict__" : Str)) = false ∧
    (∀ (kV doc pm : Value) (an : Option Addr) (cdv ct u : Value), bindArgs (PySem.W.fnOf x x params body scope .none kV doc pm an cdv ct) ⟨[u], []⟩ = pure [(a, u)]) ∧ DerL P w K mg base k N a scope body rd ∧
    ∀ (W : WM) (φ : Heap → Prop) (T : Hp → Prop) (f : Addr) (m : Mem) (Q : Po) (E : Xo), sp W m Q E → m f = none → rd (wDeed 0 f φ T W) (Dend Q E) (startD N [.ref f]) (m.put f (.lam φ T))
theorem LFn.mono {j : Nat} {x : Str} {sp : SpL} (F : LFn P w K mg base j x sp) (h : j ≤ k) : LFn P w K mg base k x sp :=
  let ⟨N, a, g, fd, params, body, scope, rd, h1, h2, h3, h4, h5, h6, h7, h8, h9, h10⟩ := F.ex
  ⟨N, a, g, fd, params, body, scope, rd, h1, h2, h3, h4, h5, h6, h7, h8, fun qual f cdv A outer s H E W hr => h9 qual f cdv A outer s H E W (hr.mono h), h10⟩
end
/-- x(lambda: e): T the table of the def's code -/
def wLam (tb : Addr) (q : Str) (sp : SpL) (w : WE) : WE := fun env m Q E => m tb = some (.tab q) ∧ sp (w env) m Q E
section
variable {X : Cx}
theorem dlam {g : Bool} {c tb : Addr} {k : Nat} {x : Str} {sp : SpL} {params : Arguments} {body : Expr} {scope : Scope} {w : WE} {p lpos pos : Pos} (LF : LFn X.prog X.w X.K X.mg X.base k x sp) (hg : Gl X x)
    (TB : LamX.TabB X.base X.mg c tb) (hcode : X.env.code = .ref c) (hr : Rm g (k + 2) X.A) (L : LamX.LamS X.env.scope scope) (hdef : defaultsOf params X.env = ([], []))
    (hbind : ∀ (q : Str) (cl : List (Str × Addr)) (pm cv ctv : Value), bindArgs (PySem.W.kla_fn "<lambda>" q params body scope cl pm cv ctv) ⟨[], []⟩ = pure [])
    (hbody : ∀ (A : Around) (outer : List Env) (s : Shared) (H : Hp) (E : XK) (f c1 : Addr), Room k (A.deeper (LamX.lamEnv X scope s.heap.objs.size f c1)) → DE (LamX.lamCx X A outer s H E scope f c1) body w)
    (hdb : (x == ("__debug__" : Str)) = false := by decide) : DE X (.Call (.Name x p) [.Lambda params body scope lpos] [] pos) (wLam tb (X.env.qual ++ "<lambda>") sp w) := by
  obtain ⟨Ng, a, ga, fd, pg, bg, sg, rd, hmg, FD, Sg, hN, hv, hd, hcd, hb, der, spec⟩ := LF.ex
  obtain ⟨oc, od, dV, kV, doc, pm, an, cdv, ct, osl, rfl, lk, hcg, hD, hK⟩ := FD.ex
  refine ⟨fun pins s σ H Q I ⟨F, m, env, Qd, xc, r, en, ac, ⟨hm, hs⟩, kq⟩ => ?_⟩
  refine wpAny_Call_Name_kw (ld_glob I hg hmg ?_ hdb)
  refine PySem.W.callWith_K (h₀ := X.base) I.ok.mod.kin FD.kp ?_ (by rfl) (by rfl)
  show wpAny _ _ (spliced ((false, eval (.Lambda params body scope lpos) X.env) :: backTo pos (starEach [] X.env))) _ _ s
  obtain ⟨fP, hco⟩ := r.me tb _ hm
  simp only [CellOk] at hco
  obtain ⟨ps, hP, ht, ha⟩ := hco
  refine Calls.spliced_cons (lam_new I TB hcode hP ht (fun pos cv hc => let ⟨c0, e1, e2⟩ := ha pos cv hc; ⟨c0, e1, r.fz _ _ e2⟩) hdef (L.has I.ok) fun f c1 pm1 ctv H1 s1 st hn I1 => ?_)
  refine Calls.spliced_nil ⟨I1.kIn, ?_⟩
  obtain ⟨F1, sF, r1, hc1⟩ := st.rel r hm hP ha
  have hmf : m f = none := (r1.free hn).2
  have r2 : Rel X.K F1 (m.put f (.lam (lamPhi X params body scope pm1 ctv f c1) (lamT X.K σ env c1 (X.env.qual ++ "<lambda>")))) (upd H1 f (LamO f (PySem.W.kla_obj "<lambda>" (X.env.qual ++ "<lambda>") params body scope (cloFrom X.env.cells scope.names []) pm1 c1 ctv))) := by
    refine r1.fresh hn ?_
    simp only [CellOk]
    exact ⟨upd_same, ⟨en.mono sF, hc1⟩, fun A B sAB ⟨z1, z2⟩ => ⟨z1.mono sAB, sAB _ _ z2⟩⟩
  generalize upd H1 f (LamO f (PySem.W.kla_obj "<lambda>" (X.env.qual ++ "<lambda>") params body scope (cloFrom X.env.cells scope.names []) pm1 c1 ctv)) = H2 at r2 I1
  have rc : codeAny (model X.prog X.w) X.A (.call (.ref ga) ⟨[.ref f], []⟩) (CR (CX X.prog X.w) X.stack X.prog X.w H2 s1 Q (Emax X σ)) s1 := by
    rcases hD with ⟨_, rfl⟩ | ⟨e, _⟩
    · refine LamX.run_ofS (N := Ng) (ps := [a]) (us := [.ref f]) (vs := [.ref f]) lk hcg Sg hr.room I1.env0 (.of_eq (hb kV doc pm an cdv ct (.ref f))) (.cons rfl .nil) rfl fun hr' => ?_
      refine body_at (ds := [.ref f]) (der x ga cdv X.A X.stack s1 H2 (Emax X σ) _ ⟨hr'.mono (by omega), nofun⟩ fun pn xe p1 p2 => lam_deed (w := w) (env0 := env) (i := 0) I1 L (hbind _ _ _ _ _) hr' (fun A outer s H E hr2 => hbody A outer s H E f c1 hr2) hN hv hd hcd) r2 (Dens.one (by simp only [Den])) (spec (w env) _ _ f m Qd (fun x m' => xc x env m') hs hmf) ?_ ?_
      · exact fun v H' F' m' d s => kq v H' F' m' d (sF.trans s)
      · obtain ⟨F0, s0, tk⟩ := ac
        exact fun cls dd H' F' m' y s r' xa hx => ⟨_, tk, F', m', env, y, (s0.trans sF).trans s, r', en.mono (sF.trans s), xa, hx⟩
    · exact absurd rfl e
  refine wpAny_call (codeAny_mono rc fun rr s' hq => ?_)
  cases rr with
  | error e => exact passes_max σ pins H2 s1 e s' I1 hq
  | ok fl =>
    cases fl with
    | ret u => exact I1.after hq
    | next => exact False.elim hq
    | brk => exact False.elim hq
    | cont => exact False.elim hq
end
end DL

/-! D20: the Hook with tables of code objects; a law's end (no repr under way). -/
namespace DL
open PySem PySem.Spec PyProof.Rows L2

/-! ### the Hook -/
abbrev AlZ : Type := AlY × Bool
/-- tf: the defs whose code makes lambdas -/
def obsZG (n : Nat) (file : Str) (fa : List He.Fa) (fn : List He.DefD) (er : List ErrD) (tf : List He.Defn) (ex : Frag → Bool) (g : Addr → Option Obj) : AlZ := (obsY file fa fn er ex (He.frT g (asY g n)), He.tabsB g tf (He.frT g (asY g n)))
def valZ (fn : List He.DefD) (er : List ErrD) : AlZ := (valY fn er, true)
structure SaysZ (file : Str) (fa : List He.Fa) (fn : List He.DefD) (er : List ErrD) (tf : List He.Defn) (ex : Frag → Bool) (h : Heap) (K : Frag) : Prop where
  y : SaysY file fa fn er ex K
  hd : ∀ p ∈ tf, PySem.W.codeHdIn K (He.cT K p).1 (He.cT K p).2 = true
  out : ∀ p ∈ tf, K.lookup (He.cT K p).2 = none
  nil : ∀ p ∈ tf, h.get? (He.cT K p).2 = some { cls := .none, data := .fields #[] }
theorem saysZ_of {n : Nat} {file : Str} {fa : List He.Fa} {fn : List He.DefD} {er : List ErrD} {tf : List He.Defn} {ex : Frag → Bool} {h : Heap} (e : obsZG n file fa fn er tf ex h.get? = valZ fn er) : SaysZ file fa fn er tf ex h (He.frT h.get? (asY h.get? n)) := by
  generalize hK : He.frT h.get? (asY h.get? n) = K at *
  have e1 : SaysY file fa fn er ex K := by rw [← hK]; exact congrArg (fun z : AlZ => z.1) e
  have e2 : He.tabsB h.get? tf K = true := by rw [← hK]; exact congrArg (fun z : AlZ => z.2) e
  have at_ : ∀ p ∈ tf, PySem.W.codeHdIn K (He.cT K p).1 (He.cT K p).2 = true ∧ ∃ o, h.get? (He.cT K p).2 = some o ∧ He.emptyTab o = true := fun p hp => by
    obtain ⟨a, b⟩ := He.ba (List.all_eq_true.mp e2 p hp)
    cases q : h.get? (He.cT K p).2 with
    | none => rw [q] at b; cases b
    | some o => rw [q] at b; exact ⟨a, o, rfl, b⟩
  refine ⟨e1, fun p hp => (at_ p hp).1, fun p hp => ?_, fun p hp => ?_⟩
  · obtain ⟨_, o, a, b⟩ := at_ p hp
    rw [← hK] at a ⊢
    exact He.frT_none a b
  · obtain ⟨_, o, a, b⟩ := at_ p hp
    rw [a, He.emptyTab_eq b]
def hookZ (n : Nat) (file : Str) (fa : List He.Fa) (fn : List He.DefD) (er : List ErrD) (tf : List He.Defn) (ex : Frag → Bool) : PySem.W.Hook where
  α := AlZ
  obs := fun s => obsZG n file fa fn er tf ex s.heap.get?
  val := fun _ => valZ fn er
  says := fun _ h => ∃ K : Frag, K.In h ∧ SaysZ file fa fn er tf ex h K
  of := fun _ _ e => ⟨_, He.frT_in, saysZ_of e⟩
  keeps := fun _ _ _ ⟨K, hK, c⟩ k => ⟨K, PySem.W.Frag.In.keeps hK k, c.y, c.hd, c.out, fun p hp => k _ _ (c.nil p hp)⟩
theorem obsZG_eq {n : Nat} {file : Str} {fa : List He.Fa} {fn : List He.DefD} {er : List ErrD} {tf : List He.Defn} {ex : Frag → Bool} {g : Addr → Option Obj} {s : Shared} (h : ∀ a, g a = s.heap.get? a) : obsZG n file fa fn er tf ex g = (hookZ n file fa fn er tf ex).obs s := by
  rw [show g = s.heap.get? from funext h]
  first | rfl | trivial

/-! ### the end -/
/-- the memory ahead of the law: the tables of its defs' codes -/
def mem0 (cs : List (Addr × Str)) : Mem := fun a => (cs.find? fun p => decide (p.1 = a)).map fun p => .tab p.2
theorem mem0_some {cs : List (Addr × Str)} {a : Addr} {c : Cell} (e : mem0 cs a = some c) : ∃ q, (a, q) ∈ cs ∧ c = .tab q := by
  unfold mem0 at e
  cases h : cs.find? (fun p => decide (p.1 = a)) with
  | none => rw [h] at e; cases e
  | some p =>
    rw [h] at e
    obtain ⟨b, q⟩ := p
    have e1 : b = a := by simpa using List.find?_some h
    subst e1
    exact ⟨q, List.mem_of_find?_eq_some h, (Option.some.inj e).symm⟩
/-- what is to be shown of the law's def over a heap h -/
def LawG (l : PySem.W.OpenLaw) (w : World) (K : Frag) (n k : Nat) (x : Str) (mg : Str → Option Value) (h : Heap) : Prop :=
  ∃ (cs : List (Addr × Addr × Str)) (sp : SpD), (∀ p ∈ cs, h.get? p.2.1 = some { cls := .none, data := .fields #[] }) ∧ (∀ p ∈ cs, K.lookup p.2.1 = none) ∧ (∀ p ∈ cs, PySem.W.CodeHd h p.1 p.2.1) ∧
    (∀ ns : List Int, ns.length ≤ n → (∀ z ∈ ns, Builtin.Int.intBits z ≤ 1048576) → sp [.klst (ns.map .int)] (mem0 (cs.map (·.2))) (fun d _ => d = .bl true) (fun _ _ => False)) ∧
    ∀ base : Heap, K.In base → base.Ns mainGlobals mg → (∀ p ∈ cs, LamX.TabB base mg p.1 p.2.1) → Fn true l.prog w K mg base k x [] sp
section
variable {P : Program} {w : World} {K : Frag} {mg mb : Str → Option Value} {k : Nat} {x : Str} {fa a : Addr} {cs : List (Addr × Addr × Str)} {sp : SpD} {s₁ : Shared} {vs : List Value} {ns : List Int}
theorem law_endG (KX : K.In s₁.heap) (hns : s₁.heap.Ns mainGlobals mg) (hb : s₁.heap.Ns builtinsNs mb) (hbb : ∀ x : Str, x ≠ "__name__" → mb x = bootBuiltins x) (hlim : s₁.heap.NoLimit) (hg : s₁.gens = #[])
    (hm : mg x = some (.ref fa))
    (hT : ∀ p ∈ cs, s₁.heap.get? p.2.1 = some { cls := .none, data := .fields #[] }) (nT : ∀ p ∈ cs, K.lookup p.2.1 = none) (C : ∀ p ∈ cs, PySem.W.CodeHd s₁.heap p.1 p.2.1)
    (hbm : ∃ (bm : Addr) (ob : Obj), mg "__builtins__" = some (.ref bm) ∧ bm ≠ builtinsNs ∧ s₁.heap.get? bm = some ob ∧ ob.cls = .type "module" ∧ ob.dict = some builtinsNs ∧ ob.data = .plain)
    (ha : s₁.heap.get? a = some { cls := .type "list", data := .seq vs.toArray }) (hi : IntsAre vs ns) (hl : ns.length ≤ sizeLine) (hr : Rm true k callerA)
    (F : ∀ base : Heap, K.In base → base.Ns mainGlobals mg → (∀ p ∈ cs, LamX.TabB base mg p.1 p.2.1) → Fn true P w K mg base k x [] sp)
    (hsp : sp [.klst (ns.map .int)] (mem0 (cs.map (·.2))) (fun d _ => d = .bl true) (fun _ _ => False)) :
    codeAny (model P w) callerA (.call (.ref fa) ⟨[.ref a], []⟩) (fun r s' => r = .ok (.ret (.bool true)) ∧ OldK s₁.heap s'.heap ∧ s'.os = s₁.os ∧ AllBare s'.gens) s₁ := by
  have rv := vals_ints hi
  have lv := hi.length
  -- is it a table
  let isT : Addr → Prop := fun b => ∃ p ∈ cs, p.2.1 = b
  have atT : ∀ b, isT b → s₁.heap.get? b = some { cls := .none, data := .fields #[] } := by
    rintro b ⟨p, hp, rfl⟩
    exact hT p hp
  have nTa : ¬ isT a := fun z => by
    have q := (atT a z).symm.trans ha
    cases q
  let tr : Prop := K.lookup a = none
  classical
  -- the abstract heap ahead of the call
  let H0 : Hp := fun b => if isT b then some (.tbl #[]) else if b = a ∧ tr then some (.frz { cls := .type "list", data := .seq vs.toArray } (.lst (ns.map V.int))) else none
  have h0T : ∀ b, isT b → H0 b = some (.tbl #[]) := fun b z => if_pos z
  have h0a : tr → H0 a = some (.frz { cls := .type "list", data := .seq vs.toArray } (.lst (ns.map V.int))) := fun z => (if_neg nTa).trans (if_pos ⟨rfl, z⟩)
  have h0 : ∀ b u, H0 b = some u → (isT b ∧ u = .tbl #[]) ∨ (b = a ∧ tr ∧ u = .frz { cls := .type "list", data := .seq vs.toArray } (.lst (ns.map V.int))) := fun b u e => by
    by_cases z : isT b
    · rw [h0T b z] at e; cases e; exact .inl ⟨z, rfl⟩
    · have e := (if_neg z).symm.trans e
      by_cases y : b = a ∧ tr
      · rw [if_pos y] at e; cases e; exact .inr ⟨y.1, y.2, rfl⟩
      · rw [if_neg y] at e; cases e
  have free0 : ∀ {b : Addr} {o : Obj}, s₁.heap.get? b = some o → (∀ us n, o.data ≠ .seq us n) → o.data ≠ .fields #[] → H0 b = none := fun {b o} e n1 n2 => by
    cases q : H0 b with
    | none => rfl
    | some u =>
      rcases h0 b u q with ⟨z, _⟩ | ⟨z, _, _⟩
      · have := (atT b z).symm.trans e; cases this; exact absurd rfl n2
      · subst z; have := ha.symm.trans e; cases this; exact absurd rfl (n1 _ _)
  have ok0 : HOk P w H0 s₁.heap := fun b u e => by
    rcases h0 b u e with ⟨z, rfl⟩ | ⟨rfl, _, rfl⟩
    · exact atT b z
    · exact ⟨ha, by rw [List.length_map]; exact hl, vs, _, rv, ha⟩
  have sq : SqL K H0 a (ns.map V.int) := by
    cases hk : K.lookup a with
    | none => exact .inl (.inr ⟨_, h0a hk⟩)
    | some o =>
      have e := (KX a o hk).symm.trans ha
      cases e
      exact .inr ⟨_, vs.toArray, _, hk, rfl, rfl, rfl, by rw [List.size_toArray, lv]; exact hl, by simpa using rv⟩
  -- the fixed part
  have up : ∀ {b : Addr} {o : Obj}, s₁.heap.get? b = some o → H0 b = none → (hidT s₁.heap H0).get? b = some o := fun e n => hidT_get e n
  have nsUp : ∀ {b : Addr} {f : Str → Option Value}, s₁.heap.Ns b f → (hidT s₁.heap H0).Ns b f := by
    rintro b f ⟨o, es, ep, e, d, r⟩
    refine ⟨o, es, ep, up e (free0 e ?_ ?_), d, r⟩
    · intro us n z; rw [d] at z; cases z
    · intro z; rw [d] at z; cases z
  have KB : K.In (hidT s₁.heap H0) := fun b o e => up (KX b o e) (by
    cases q : H0 b with
    | none => rfl
    | some u =>
      rcases h0 b u q with ⟨⟨p, hp, z⟩, _⟩ | ⟨z, t, _⟩
      · rw [← z, nT p hp] at e; cases e
      · subst z
        have t : K.lookup b = none := t
        rw [t] at e; cases e)
  have tabs : ∀ p ∈ cs, LamX.TabB (hidT s₁.heap H0) mg p.1 p.2.1 := fun p hp => by
    refine ⟨?_, ?_, fun z => ?_⟩
    · obtain ⟨o, us, f1, f2, f3, f4, f5, f6, f7, g0, g1, g2, g3, rest⟩ := C p hp
      refine ⟨o, us, f1, f2, f3, f4, f5, f6, f7, up g0 (free0 g0 ?_ ?_), g1, g2, g3, rest⟩
      · intro zs n z; rw [g2] at z; cases z
      · intro z; rw [g2] at z; cases z; simp at g3
    · obtain ⟨bm, ob, b1, b2, b3, b4, b5, b6⟩ := hbm
      refine ⟨bm, ob, b1, b2, fun q => ?_, fun q => ?_, up b3 (free0 b3 ?_ ?_), b4, b5, b6⟩
      · obtain ⟨o, es, ep, e, d, _⟩ := hns
        rw [q] at b3
        have := b3.symm.trans e; cases this
        rw [d] at b6; cases b6
      · rw [q] at b3
        have := b3.symm.trans (hT p hp); cases this
        cases b6
      · intro us n z; rw [b6] at z; cases z
      · intro z; rw [b6] at z; cases z
    · obtain ⟨o, es, ep, e, d, _⟩ := hns
      rw [z] at e
      have := e.symm.trans (hT p hp); cases this
      cases d
  have nolim : (hidT s₁.heap H0).NoLimit := let ⟨mc, q1, q2⟩ := hlim; ⟨mc, nsUp q1, q2⟩
  have e0 : Env0 P w K mg (hidT s₁.heap H0) callerA [] s₁ H0 := ⟨rfl, ⟨KB, nsUp hns, ⟨mb, nsUp hb, hbb⟩, nolim⟩, fun b o e => of_hidT e, Nat.le_of_eq (hidT_size _ _), trivial, fun b hb => absurd (show b ∈ ([] : List Addr) from hb) (by simp), ok0, .of_eq hg⟩
  obtain ⟨f, hf, _, run⟩ := (F _ KB (nsUp hns) tabs).ex
  obtain rfl : fa = f := by rw [hm] at hf; cases hf; rfl
  -- data: all but the tables never changes
  let F0 : Hp := fun b => if isT b then none else H0 b
  have rel : Rel K F0 (mem0 (cs.map (·.2))) H0 := by
    refine ⟨fun b u e => ?_, fun b c e => ?_⟩
    · by_cases z : isT b
      · rw [show F0 b = none from if_pos z] at e; cases e
      · exact (if_neg z).symm.trans e
    · obtain ⟨q, hq, rfl⟩ := mem0_some e
      obtain ⟨p, hp, ep⟩ := List.mem_map.mp hq
      have z : isT b := ⟨p, hp, by rw [ep]⟩
      refine ⟨if_pos z, ?_⟩
      simp only [CellOk]
      exact ⟨#[], h0T b z, trivial, fun pos cv hc => by simp [codeAmong] at hc⟩
  have sq0 : SqL K F0 a (ns.map V.int) := by
    rcases sq with (z | ⟨o, z⟩) | z
    · exact .inl (.inl ((if_neg nTa).trans z))
    · exact .inl (.inr ⟨o, (if_neg nTa).trans z⟩)
    · exact .inr z
  have lift : liftSp K sp [.ref a] H0 (fun v _ => v = .bl true) (fun _ _ _ => False) :=
    ⟨F0, _, [.klst (ns.map .int)], _, _, rel, Dens.one (by simp only [Den]; exact ⟨a, _, rfl, sq0, den_ints ns⟩), hsp, fun v H' F' m' d _ _ dn e => by subst e; simpa only [Den] using dn, fun _ _ _ _ _ _ _ _ _ z => z⟩
  refine codeAny_mono (run callerA [] s₁ H0 [.ref a] [] [.ref a] _ _ hr e0 rfl (.cons rfl .nil) lift) fun r s' h => ?_
  cases r with
  | error e =>
    obtain ⟨_, _, _, _, _, _, _, _, _, _, _, _, z⟩ := h
    exact z.elim
  | ok fl =>
    cases fl with
    | next => exact False.elim h
    | brk => exact False.elim h
    | cont => exact False.elim h
    | ret u =>
      obtain ⟨v, H', os, bare, un, ok', rr, q⟩ := h
      obtain rfl : v = .bl true := q
      obtain rfl : u = Value.bool true := rr
      have same : ∀ b o, ¬ isT b → s₁.heap.get? b = some o → s'.heap.get? b = some o := fun b o nb e => by
        cases q : H0 b with
        | none => exact un.keep b o e q (by intro z; exact absurd (show b ∈ ([] : List Addr) from z) (by simp)) (by simp)
        | some u =>
          rcases h0 b u q with ⟨z, _⟩ | ⟨_, _, z⟩
          · exact absurd z nb
          · subst z
            have e1 := (ok0 b _ q).1
            have e2 := (ok' b _ (un.frzs b _ _ q)).1
            rw [e] at e1; cases e1
            exact e2
      have grown : ∀ b, isT b → ∃ more : Array Value, s'.heap.get? b = some { cls := .none, data := .fields more } := fun b z => by
        obtain ⟨more, y⟩ := un.tbls b #[] (h0T b z)
        exact ⟨_, ok' b _ y⟩
      refine ⟨rfl, ⟨fun b o e => ?_, fun b o e => ?_⟩, os, bare⟩
      · by_cases z : isT b
        · obtain ⟨more, y⟩ := grown b z
          obtain ⟨p, hp, ep⟩ := id z
          have e1 := (atT b z).symm.trans e
          cases e1
          subst ep
          exact .inr (.inl ⟨((C p hp).tab (hT p hp)).isCodeTable, rfl, #[], more, rfl, by rw [Array.empty_append]; exact y⟩)
        · exact .inl (same b o z e)
      · by_cases z : isT b
        · obtain ⟨more, y⟩ := grown b z
          exact ⟨_, y⟩
        · exact ⟨o, same b o z e⟩
end
theorem walk_G {l : PySem.W.OpenLaw} {n k : Nat} {q : Program} {loose : List Str} {XP : (Str → Option Value) → Heap → Prop} {YP : World → Heap → Prop} {d : DefRec}
    (hn : l.most = some n) (hn2 : n ≤ sizeLine) (hdf : d.params.defaults = []) (hr : Rm true k callerA)
    (F : ∀ (w : World) (mg : Str → Option Value) (fa : Addr) (h : Heap), YP w h → h.Ns mainGlobals mg → mg d.name = some (.ref fa) → ∃ K : Frag, K.In h ∧ LawG l w K n k d.name mg h) :
    PySem.W.WalkO q loose XP YP l.row.toRowW d [] (fun f vs => PySem.call f vs) := by
  apply Att.attach_callB hn hdf
  intro w s0 s1 mg mb fa o pm cd doc a vs ns G Y ho hd hcd hmg hobj hints hlen hbits hg
  obtain ⟨K, KX, cs, sp, hT, nT, C, hsp, hF⟩ := F w mg fa _ Y G.T.g hmg
  exact law_endG KX G.T.g G.T.b G.T.builtins G.T.nolimit hg hmg hT nT C G.T.bmain hobj hints (Nat.le_trans hlen hn2) hr hF (hsp ns hlen hbits)
end DL

/-! D21: defs with lambdas as promises; readings of try, raise, lambdas evaluated by simp. -/
namespace DL
open PySem PySem.Spec PyProof.Rows L2

/-! ### defs whose code makes lambdas -/
/-- the derivation of a body whose code object stands at c -/
def DerX (g : Bool) (P : Program) (w : World) (K : Frag) (mg : Str → Option Value) (base : Heap) (k : Nat) (N : List Str) (x : Str) (c : Addr) (scope : Scope) (body : List Stmt) (wb : WS) : Prop :=
  ∀ (f : Addr) (A : Around) (outer : List Env) (s : Shared) (H : Hp) (E : XK), Rm g k (A.deeper (PyProof.Rows.envOfC x scope s.heap.objs.size f (.ref c))) →
    DSs (cxOf (CX P w) P w K mg base N x scope f (.ref c) A outer s H E) body wb
section
variable {g : Bool} {P : Program} {w : World} {K : Frag} {mg : Str → Option Value} {base : Heap} {k : Nat} {x : Str} {params : Arguments} {body : List Stmt} {scope : Scope} {kws : List (Str × V)} {f c : Addr} {fd : FuncData} {N ps : List Str} {sp : SpD} {wb : WS}
theorem Fn.plainX (F : FunD K x x params body scope [] kws f fd) (S : FnScope N ps scope) (hl : ∀ ds m Q E, sp ds m Q E → ds.length = ps.length) (hf : He.fAd K (x, none) = f) (hc : He.codeOf K (x, none) = c) (der : DerX g P w K mg base k N x c scope body wb)
    (spec : ∀ ds m Q E, sp ds m Q E → wb (Dend Q E) (startD N ds) m) (hm : mg x = some (.ref f))
    (hb : ∀ (kV doc pm : Value) (an : Option Addr) (cdv ct : Value) (us : List Value), us.length = ps.length → bindArgs (PySem.W.fnOf x x params body scope .none kV doc pm an cdv ct) ⟨us, []⟩ = pure (ps.zip us)) : Fn g P w K mg base (k + 1) x [] sp := by
  refine ⟨f, hm, F.kp, fun A outer s H us ws vs Q E hr e0 hw rv h => ?_⟩
  have ew : ws = [] := List.length_eq_zero_iff.mp hw
  subst ew
  rw [List.append_nil] at rv
  obtain ⟨F0, m, ds, QD, ED, r, dn, h, kq, ke⟩ := h
  have hlen : us.length = ps.length := by rw [← rv.length, ← dn.length]; exact hl _ _ _ _ h
  obtain ⟨oc, od, dV, kV, doc, pm, an, cdv, ct, osl, rfl, lk, hcd, hD, hK⟩ := F.ex
  obtain ⟨c0, rfl⟩ := He.codeIn_ref hcd
  have ec : c0 = c := by rw [← hc]; exact (He.codeOf_eq (by rw [hf]; exact lk) rfl).symm
  subst ec
  rcases hD with ⟨_, rfl⟩ | ⟨e, _⟩
  · exact LamX.run_ofS lk hcd S hr.room e0 (.of_eq (hb kV doc pm an _ ct us hlen)) rv (rv.length.trans hlen) fun hr' => body_at (der f A outer s H E ⟨hr', hr.gd⟩) r dn (spec _ _ _ _ h) kq ke
  · exact absurd rfl e
end

/-- a lambda's name, in the def x -/
abbrev lamQ (x : Str) : Str := x ++ ".<locals>." ++ "<lambda>"

/-! ### clauses by their class -/
def hit (yes no : List Str) : Str → Option Bool := fun s => if s ∈ yes then some true else if s ∈ no then some false else none
structure Clause (K : Frag) (mg : Str → Option Value) (x : Str) (yes no : List Str) : Prop where
  mg_ : mg x = some (.ref (ga K x))
  yes : ∀ s ∈ yes, PySem.W.exmOne K (.ref (ga K s)) (.ref (ga K x)) = some true
  no : ∀ s ∈ no, PySem.W.exmOne K (.ref (ga K s)) (.ref (ga K x)) = some false
theorem Clause.hit {K : Frag} {mg : Str → Option Value} {x : Str} {yes no : List Str} (c : Clause K mg x yes no) : ∀ s b, DL.hit yes no s = some b → PySem.W.exmOne K (.ref (ga K s)) (.ref (ga K x)) = some b := fun s b e => by
  unfold DL.hit at e
  split at e
  · cases e; exact c.yes s (by assumption)
  · split at e
    · cases e; exact c.no s (by assumption)
    · cases e
theorem Clause.names {X : Cx} {x : Str} {yes no : List Str} (c : Clause X.K X.mg x yes no) (hg : Gl X x) (hd : (x == ("__debug__" : Str)) = false := by decide) : Names X x (.ref (ga X.K x)) := ⟨hg, hd, .inl c.mg_⟩

/-! ### evaluation -/
def De.tr (D : De) (l : List ((Str → Option Bool) × Option Nat × WSu)) : De := { D with xc := mixD D l }
section
variable {D : De} {l : List ((Str → Option Bool) × Option Nat × WSu)}
@[simp ↓] theorem tr_nx : (D.tr l).nx = D.nx := rfl
@[simp ↓] theorem tr_rt : (D.tr l).rt = D.rt := rfl
@[simp ↓] theorem tr_bk : (D.tr l).bk = D.bk := rfl
@[simp ↓] theorem tr_ct : (D.tr l).ct = D.ct := rfl
@[simp ↓] theorem tr_xc : (D.tr l).xc = mixD D l := rfl
@[simp ↓] theorem ev_try {wb : WS} {env : En} {m : Mem} : sTry wb l D env m = wb (D.tr l) env m := rfl
@[simp ↓] theorem mix_nil {x : Exc} {env : En} {m : Mem} : mixD D [] x env m = D.xc x env m := rfl
def De.as (i : Option Nat) (a : Addr) (c : Str) (d : Option Addr) (D : De) : De := asE i a c d D
@[simp ↓] theorem as_nx0 {a : Addr} {c : Str} {d : Option Addr} : (De.as none a c d D).nx = D.nx := rfl
@[simp ↓] theorem as_rt0 {a : Addr} {c : Str} {d : Option Addr} : (De.as none a c d D).rt = D.rt := rfl
@[simp ↓] theorem as_nx1 {i : Nat} {a : Addr} {c : Str} {d : Option Addr} {env : En} {m : Mem} : (De.as (some i) a c d D).nx env m = (m a = none → D.nx (env.set i none) (m.put a (.err c d))) := rfl
@[simp ↓] theorem as_rt1 {i : Nat} {a : Addr} {c : Str} {d : Option Addr} {x : DL.D} {m : Mem} : (De.as (some i) a c d D).rt x m = (m a = none → D.rt x (m.put a (.err c d))) := rfl
theorem mix_yes {hits : Str → Option Bool} {i : Option Nat} {ws : WSu} {c : Str} {fs : List (Str × DL.D)} {env : En} {m : Mem} (h : hits c = some true) :
    mixD D ((hits, i, ws) :: l) ⟨c, fs⟩ env m ↔ ∀ a d, ws a c d (De.as i a c d D) (asV i (excD a ⟨c, fs⟩ d) env) m := by
  simp only [mixD, h]
  constructor
  · rintro ⟨b, e, hy, _⟩; cases e; exact hy rfl
  · intro hy; exact ⟨true, rfl, fun _ => hy, fun z => by cases z⟩
theorem mix_no {hits : Str → Option Bool} {i : Option Nat} {ws : WSu} {c : Str} {fs : List (Str × DL.D)} {env : En} {m : Mem} (h : hits c = some false) : mixD D ((hits, i, ws) :: l) ⟨c, fs⟩ env m ↔ mixD D l ⟨c, fs⟩ env m := by
  simp only [mixD, h]
  constructor
  · rintro ⟨b, e, _, hn⟩; cases e; exact hn rfl
  · intro hn; exact ⟨false, rfl, fun z => (nomatch z), fun _ => hn⟩
end
@[simp ↓] theorem asV_none {d : DL.D} {env : En} : asV none d env = env := rfl
@[simp ↓] theorem asV_some {i : Nat} {d : DL.D} {env : En} : asV (some i) d env = env.set i (some d) := rfl
def raiseK (c : Str) (fs : List Str) (D : De) (env : En) (ds : List DL.D) (m1 : Mem) : Prop := ds.length = fs.length ∧ D.xc ⟨c, (fs.zip ds).reverse⟩ env m1
@[simp ↓] theorem ev_raise {c : Str} {fs : List Str} {wa : WA} {D : De} {env : En} {m : Mem} : sRaise c fs wa D env m = wa env m (raiseK c fs D env) (fun x m1 => D.xc x env m1) := rfl
@[simp ↓] theorem raiseK1 {c f : Str} {d : DL.D} {D : De} {env : En} {m1 : Mem} : raiseK c [f] D env [d] m1 = D.xc ⟨c, [(f, d)]⟩ env m1 := by simp [raiseK]
@[simp ↓] theorem raiseK2 {c f f2 : Str} {d d2 : DL.D} {D : De} {env : En} {m1 : Mem} : raiseK c [f, f2] D env [d, d2] m1 = D.xc ⟨c, [(f2, d2), (f, d)]⟩ env m1 := by simp [raiseK]
/-- a field of the error that was caught -/
def xfK (a : Addr) (c : Str) (d : Option Addr) (c0 f : Str) (Q : Po) (d1 : DL.D) (m1 : Mem) : Prop := ∃ ns xs e, d1 = .exc a c d ns xs ∧ c = c0 ∧ (ns.zip xs).lookup f = some e ∧ Q e m1
@[simp ↓] theorem ev_xf {a : Addr} {c : Str} {d : Option Addr} {c0 f : Str} {we : WE} {env : En} {m : Mem} {Q : Po} {E : Xo} : wXf a c d c0 f we env m Q E = we env m (xfK a c d c0 f Q) E := rfl
theorem zip_maps {fs : List (Str × DL.D)} : (fs.map (·.1)).zip (fs.map (·.2)) = fs := by
  induction fs with
  | nil => rfl
  | cons p r ih => simp [ih]
@[simp ↓] theorem xfK_ {a : Addr} {c : Str} {d : Option Addr} {f : Str} {fs : List (Str × DL.D)} {Q : Po} {m1 : Mem} : xfK a c d c f Q (excD a ⟨c, fs⟩ d) m1 = Is (fs.lookup f) (fun e => Q e m1) .mk := by
  unfold xfK excD Is
  apply propext
  constructor
  · rintro ⟨ns, xs, e, h, _, hl, q⟩
    injection h with _ _ _ h1 h2
    subst h1 h2
    rw [zip_maps] at hl
    exact ⟨e, hl, q⟩
  · rintro ⟨e, hl, q⟩
    exact ⟨_, _, e, rfl, rfl, by rw [zip_maps]; exact hl, q⟩
/-- a def that gets a lambda, shut -/
def AppL (sp : SpL) (w : WE) (env : En) (m : Mem) (Q : Po) (E : Xo) (t : Tag Q) : Prop := sp (w env) m Q E
theorem AppL.intro {sp : SpL} {w : WE} {env : En} {m : Mem} {Q : Po} {E : Xo} {t : Tag Q} (h : sp (w env) m Q E) : AppL sp w env m Q E t := h
@[simp ↓] theorem ev_lam {tb : Addr} {q : Str} {sp : SpL} {w : WE} {env : En} {m : Mem} {Q : Po} {E : Xo} : wLam tb q sp w env m Q E = (m tb = some (.tab q) ∧ AppL sp w env m Q E .mk) := rfl
/-- W gives Q, E, or what is weaker -/
def Up (W : WM) (m : Mem) (Q : Po) (E : Xo) : Prop := ∀ (Q' : Po) (E' : Xo), (∀ d m', Q d m' → Q' d m') → (∀ x m', E x m' → E' x m') → W m Q' E'
/-- the call of what was got -/
def DeedK (W : WM) (m : Mem) (Q : Po) (E : Xo) (t : Tag Q) : Prop := W m Q E
theorem ev_deed {f : Addr} {φ : Heap → Prop} {T : Hp → Prop} {W : WM} {r : En} {m : Mem} {Q : Po} {E : Xo} : wDeed 0 f φ T W (some (.ref f) :: r) m Q E = (m f = some (.lam φ T) ∧ W (m.del f) Q E) := by simp [wDeed]
end DL

/-! D22: small facts: places, texts, what is shown. -/
namespace DL
open PySem PySem.Spec PyProof.Rows L2
@[simp] theorem atI_3 {α : Type} (a b c d : α) (xs : List α) : atI (a :: b :: c :: d :: xs) 3 = some d := atI_nat _ 3
@[simp] theorem atI_4 {α : Type} (a b c d e : α) (xs : List α) : atI (a :: b :: c :: d :: e :: xs) 4 = some e := atI_nat _ 4
@[simp] theorem atI_5 {α : Type} (a b c d e f : α) (xs : List α) : atI (a :: b :: c :: d :: e :: f :: xs) 5 = some f := atI_nat _ 5
@[simp] theorem atI_6 {α : Type} (a b c d e f g : α) (xs : List α) : atI (a :: b :: c :: d :: e :: f :: g :: xs) 6 = some g := atI_nat _ 6
/-- an item of a list that is written -/
theorem pick {α : Type} {xs : List α} {i : Int} (P : α → Prop) (h0 : 0 ≤ i) (h1 : i < xs.length) (hx : ∀ x ∈ xs, P x) : ∃ x, atI xs i = some x ∧ P x := by
  obtain ⟨x, e1, e2⟩ := atI_some h0 h1
  exact ⟨x, e1, hx x (List.mem_of_getElem? e2)⟩
theorem okStr_iff {x : Str} : okStr x = true ↔ ∀ c ∈ x.cps.toList, c < 16 ^ 8 := by simp only [okStr, List.all_eq_true, decide_eq_true_eq]
theorem okStr_of {x : Str} (h : PyData.strOk x = true) : okStr x = true := by
  rw [okStr_iff]
  intro c hc
  have h : x.cps.all (fun c => decide (c < 0x110000)) = true := h
  rw [Array.all_eq_true'] at h
  have := h c (Array.mem_toList_iff.mp hc)
  have := of_decide_eq_true this
  omega
theorem okStr_app {a b : Str} (ha : okStr a = true) (hb : okStr b = true) : okStr (a ++ b) = true := by
  rw [okStr_iff] at *
  intro c hc
  have e : (a ++ b).cps.toList = a.cps.toList ++ b.cps.toList := by
    show (a.cps ++ b.cps).toList = _
    simp
  rw [e, List.mem_append] at hc
  exact hc.elim (ha c) (hb c)
theorem okStr_int (i : Int) : okStr ((toString i : String) : Str) = true := by
  rw [okStr_iff]
  intro c hc
  by_cases h : c ≠ 45 ∧ (c < 48 ∨ 57 < c)
  · exact absurd hc (int_text_free' c h i)
  · omega
theorem strLen_app (a b : Str) : (a ++ b).length = a.length + b.length := by
  show (a.cps ++ b.cps).size = a.cps.size + b.cps.size
  simp
theorem strLen_int (i : Int) : ((toString i : String) : Str).length ≤ i.natAbs.log2 + 3 := by
  have := intLen i
  simpa only [PyData.shown] using this
/-- str(i) -/
def strI (i : Int) : Str := ((toString i : String) : Str)
@[simp ↓ high] theorem fStrI_2 {i : Int} {m : Mem} {Q : Po} : fStrI [.int i] m Q = (i.natAbs.log2 < 1920 ∧ Q (.str (strI i)) m) := rfl
theorem okStr_I (i : Int) : okStr (strI i) = true := okStr_int i
theorem strLen_I (i : Int) : (strI i).length ≤ i.natAbs.log2 + 3 := strLen_int i
theorem log_small {n : Int} (h0 : 0 ≤ n) (h1 : n ≤ 306783378) : n.natAbs.log2 ≤ 28 := by
  have : n.natAbs ≤ 306783378 := by omega
  have h : n.natAbs.log2 < 29 := by
    rcases Nat.eq_zero_or_pos n.natAbs with e | e
    · rw [e]; decide
    · exact (Nat.log2_lt (by omega)).mpr (by omega)
  omega
/-! ### names and rows of names -/
@[simp] theorem good_nm (x : Nme) : good (.str x.s) = true := by simp only [good]; exact okStr_of x.ok
@[simp] theorem goods_nm (ns : Nm) : goods (ns.map fun x => D.str x.s) = true := goods_map _ fun x _ => good_nm x
@[simp] theorem good_dT (ns : Nm) : good (dT ns) = true := by simp only [good]; exact goods_nm ns
@[simp] theorem good_dL (ns : Nm) : good (dL ns) = true := by simp only [good]; exact goods_nm ns
@[simp] theorem dep_nm (ns : Nm) : deps (ns.map fun x => D.str x.s) = 0 := Nat.le_zero.mp (deps_map _ 0 fun x _ => by simp [dep])
@[simp] theorem dep_dT (ns : Nm) : dep (dT ns) = 1 := by simp only [dep, dep_nm]
@[simp] theorem dep_dL (ns : Nm) : dep (dL ns) = 1 := by simp only [dep, dep_nm]
theorem wgt_nm {ns : Nm} {L : Nat} (h : ∀ x ∈ ns, x.s.length ≤ L) : wgts (ns.map fun x => D.str x.s) ≤ ns.length * (10 * L + 4) := wgts_map _ (10 * L + 2) fun x hx => by
  have := h x hx
  simp only [wgt]; omega
theorem wgt_dT {ns : Nm} {L : Nat} (h : ∀ x ∈ ns, x.s.length ≤ L) : wgt (dT ns) ≤ ns.length * (10 * L + 4) + 3 := by
  have := wgt_nm h
  simp only [wgt]; omega
theorem wgt_dL {ns : Nm} {L : Nat} (h : ∀ x ∈ ns, x.s.length ≤ L) : wgt (dL ns) ≤ ns.length * (10 * L + 4) + 3 := by
  have := wgt_nm h
  simp only [wgt]; omega
end DL

/-! K03S: what the defs of k03 promise. -/
namespace K03
open PySem PySem.Spec L2 DL
/-- the merge, or its conflict -/
def mrgOut (rows : List Nm) (nm : D) (m : Mem) (Q : Po) (E : Xo) : Prop := match merged rows with
  | .ok r => Q (dT r) m
  | .error h => E ⟨"OrderConflict", [("heads", dT h), ("name", nm)]⟩ m
structure RowsOk (rows : List Nm) : Prop where
  few : rows.length ≤ 100
  len : ∀ r ∈ rows, r.length ≤ 100
def sb_merge : SpD := fun ds m Q E => ∃ (rows : List Nm) (nm : D), ds = [nm, .tup (rows.map dT)] ∧ RowsOk rows ∧ mrgOut rows nm m Q E
def sp_merge_n : SpD := fun ds m Q E => ∃ (rows : List Nm) (nm : D), ds = rows.map dT ++ [nm] ∧ RowsOk rows ∧ mrgOut rows nm m Q E
def sp_merge_0 : SpD := fun ds m Q E => ∃ rows : List Nm, ds = rows.map dT ∧ RowsOk rows ∧ mrgOut rows .non m Q E
def sp_said : SpL := fun W m Q _ => Up W m (fun d m' => Q (.lst [d]) m') (fun x m' => ∃ nm hs, x = ⟨"OrderConflict", [("heads", hs), ("name", nm)]⟩ ∧ Q (.tup [.str "conflict", nm, hs]) m')
/-- what is told of a merge -/
def saidD (rows : List Nm) (nm : D) : D := match merged rows with
  | .ok r => .lst [dT r]
  | .error h => .tup [.str "conflict", nm, dT h]
def letters : Nm := [⟨"a", by decide +kernel⟩, ⟨"b", by decide +kernel⟩, ⟨"c", by decide +kernel⟩, ⟨"d", by decide +kernel⟩, ⟨"e", by decide +kernel⟩, ⟨"f", by decide +kernel⟩, ⟨"g", by decide +kernel⟩]
def sp_row : SpD := fun ds m Q _ => ∃ n k : Int, ds = [.int n, .int k] ∧ 0 ≤ n ∧ n ≤ 306783378 ∧ 0 ≤ k ∧ k ≤ 7 ∧ ∀ ns : Nm, (∀ x ∈ ns, x ∈ letters) → ns.length ≤ 7 → Q (dT ns) m
def sp_asked (tb : Addr) : SpD := fun ds m Q _ => ∃ (q : Addr) (who : D) (rows : List Nm), ds = [.ref q, who] ∧ m tb = some (.tab (lamQ "_law_asked")) ∧ lstOf m (.ref q) = some (rows.map dT) ∧ rows.length ≤ 4 ∧ (∀ r ∈ rows, r.length ≤ 100) ∧ Q (.lst [saidD rows .non, saidD rows who]) m
def sp_law (tb : Addr) : SpD := fun ds m Q _ => ∃ ns : List Int, ds = [.klst (ns.map .int)] ∧ ns.length ≤ 63 ∧ m tb = some (.tab (lamQ "_law_asked")) ∧ ∀ m', Q (.bl true) m'
end K03

/-! K03R: readings (printed by gen.py). -/
namespace K03
open PySem PySem.Spec L2 DL
/-- merge: 0 name, 1 sequences, 2 rows, 3 found, 4 heads, 5 free, 6 sequence, 7 head, 8 row -/
def rd_merge : WS := (sSeq (sAsg (wTup (wCons (wLcP (wiSeq (wVar 1)) (gN 6) (wTruB (wBin gtD (wCB fLen (wCons (wVar 6) wNil)) (wC (.int 0)))) (wCB fList (wCons (wVar 6) wNil)) [6]) (wCons (wLstM wNil) wNil))) (gTup 2 (gsCons (gN 2) (gsCons (gN 3) gsNil)))) (sSeq (sWhile (wTruB (wBin neD (wVar 2) (wLst wNil))) (sSeq (sAsg (wCall sp_heads_of 0 (wCons (wVar 2) wNil) wNil) (gN 4)) (sSeq (sAsg (wLcP (wiSeq (wVar 4)) (gN 7) (wNotT (wTru (wCB fAny (wCons (wLcP (wiSeq (wVar 2)) (gN 8) wYes (wBin inD (wVar 7) (wSl (wVar 8) (wPso (wC (.int 1))) wPno)) [8]) wNil)))) (wVar 7) [7]) (gN 5)) (sSeq (sIf (wTruB (wBin eqD (wVar 5) (wLst wNil))) (sRaise "OrderConflict" ["name", "heads"] (wCons (wVar 0) (wCons (wCB fTuple (wCons (wVar 4) wNil)) wNil))) sNil) (sSeq (sDrop (wAppend (wVar 3) (wBin ixD (wVar 5) (wC (.int 0))))) (sSeq (sAsg (wLcP (wiSeq (wVar 2)) (gN 8) wYes (wIte (wTruB (wBin eqD (wBin ixD (wVar 8) (wC (.int 0))) (wBin ixD (wVar 5) (wC (.int 0))))) (wSl (wVar 8) (wPso (wC (.int 1))) wPno) (wVar 8)) [8]) (gN 2)) (sAsg (wLcP (wiSeq (wVar 2)) (gN 8) (wTruB (wBin neD (wVar 8) (wLst wNil))) (wVar 8) [8]) (gN 2)))))))) (sRet (wCB fTuple (wCons (wVar 3) wNil)))))
/-- _law_row: 0 _law_n, 1 _law_most, 2 _law_stock, 3 _law_found, 4 _law_k -/
def rd__law_row : WS := (sSeq (sPar2 2 3 (wCons (wLstM (wCons (wC (.str "a")) (wCons (wC (.str "b")) (wCons (wC (.str "c")) (wCons (wC (.str "d")) (wCons (wC (.str "e")) (wCons (wC (.str "f")) (wCons (wC (.str "g")) wNil)))))))) (wCons (wLstM wNil) wNil))) (sSeq (sFor (wiRng1 (wCons (wBin modD (wVar 0) (wBin addD (wVar 1) (wC (.int 1)))) wNil)) (gN 4) (sSeq (sAsg (wBin addD (wBin addD (wBin fdivD (wVar 0) (wC (.int 7))) (wBin mulD (wC (.int 5)) (wVar 0))) (wVar 4)) (gN 0)) (sDrop (wAppend (wVar 3) (wPopAt (wVar 2) (wBin modD (wVar 0) (wCB fLen (wCons (wVar 2) wNil)))))))) (sRet (wCB fTuple (wCons (wVar 3) wNil)))))
/-- _law_said: 0 _law_deed, 1 _law_found, 2 e -/
def rd__law_said (W : WE) : WS := (sSeq (sTry (sAsg (wLst (wCons W wNil)) (gN 1)) [(hit ["OrderConflict"] [], (some 2), fun a c d => (sAsg (wTup (wCons (wC (.str "conflict")) (wCons (wXf a c d "OrderConflict" "name" (wVar 2)) (wCons (wXf a c d "OrderConflict" "heads" (wVar 2)) wNil)))) (gN 1))), (hit ["OrderConflict"] [], none, fun a c d => (sAsg (wTup (wCons (wC (.str "other")) (wCons (wC .non) (wCons (wTup wNil) wNil)))) (gN 1)))]) (sRet (wVar 1)))
/-- _law_asked: 0 _law_rows, 1 _law_who, 2 _law_found, 3 _law_one, 4 _law_two, 5 _law_three, 6 _law_four -/
def rd__law_asked (tb__law_asked : Addr) : WS := (sSeq (sIf (wTruB (wBin eqD (wCB fLen (wCons (wVar 0) wNil)) (wC (.int 0)))) (sSeq (sAsg (wLst (wCons (wLam tb__law_asked (lamQ "_law_asked") sp_said (wCall sp_merge_0 0 wNil wNil)) wNil)) (gN 2)) (sRet (wBin addD (wVar 2) (wLst (wCons (wLam tb__law_asked (lamQ "_law_asked") sp_said (wCall sp_merge_n 1 wNil (wCons (wVar 1) wNil))) wNil))))) sNil) (sSeq (sIf (wTruB (wBin eqD (wCB fLen (wCons (wVar 0) wNil)) (wC (.int 1)))) (sSeq (sAsg (wLst (wCons (wLam tb__law_asked (lamQ "_law_asked") sp_said (wCall sp_merge_0 0 (wCons (wBin ixD (wVar 0) (wC (.int 0))) wNil) wNil)) wNil)) (gN 2)) (sRet (wBin addD (wVar 2) (wLst (wCons (wLam tb__law_asked (lamQ "_law_asked") sp_said (wCall sp_merge_n 1 (wCons (wBin ixD (wVar 0) (wC (.int 0))) wNil) (wCons (wVar 1) wNil))) wNil))))) sNil) (sSeq (sAsg (wTup (wCons (wBin ixD (wVar 0) (wC (.int 0))) (wCons (wBin ixD (wVar 0) (wC (.int 1))) wNil))) (gTup 2 (gsCons (gN 3) (gsCons (gN 4) gsNil)))) (sSeq (sIf (wTruB (wBin eqD (wCB fLen (wCons (wVar 0) wNil)) (wC (.int 2)))) (sSeq (sAsg (wLst (wCons (wLam tb__law_asked (lamQ "_law_asked") sp_said (wCall sp_merge_0 0 (wCons (wVar 3) (wCons (wVar 4) wNil)) wNil)) wNil)) (gN 2)) (sRet (wBin addD (wVar 2) (wLst (wCons (wLam tb__law_asked (lamQ "_law_asked") sp_said (wCall sp_merge_n 1 (wCons (wVar 3) (wCons (wVar 4) wNil)) (wCons (wVar 1) wNil))) wNil))))) sNil) (sSeq (sAsg (wBin ixD (wVar 0) (wC (.int 2))) (gN 5)) (sSeq (sIf (wTruB (wBin eqD (wCB fLen (wCons (wVar 0) wNil)) (wC (.int 3)))) (sSeq (sAsg (wLst (wCons (wLam tb__law_asked (lamQ "_law_asked") sp_said (wCall sp_merge_0 0 (wCons (wVar 3) (wCons (wVar 4) (wCons (wVar 5) wNil))) wNil)) wNil)) (gN 2)) (sRet (wBin addD (wVar 2) (wLst (wCons (wLam tb__law_asked (lamQ "_law_asked") sp_said (wCall sp_merge_n 1 (wCons (wVar 3) (wCons (wVar 4) (wCons (wVar 5) wNil))) (wCons (wVar 1) wNil))) wNil))))) sNil) (sSeq (sAsg (wBin ixD (wVar 0) (wC (.int 3))) (gN 6)) (sSeq (sAsg (wLst (wCons (wLam tb__law_asked (lamQ "_law_asked") sp_said (wCall sp_merge_0 0 (wCons (wVar 3) (wCons (wVar 4) (wCons (wVar 5) (wCons (wVar 6) wNil)))) wNil)) wNil)) (gN 2)) (sRet (wBin addD (wVar 2) (wLst (wCons (wLam tb__law_asked (lamQ "_law_asked") sp_said (wCall sp_merge_n 1 (wCons (wVar 3) (wCons (wVar 4) (wCons (wVar 5) (wCons (wVar 6) wNil)))) (wCons (wVar 1) wNil))) wNil))))))))))))
/-- law: 0 _law_script, 1 _law_spot, 2 _law_turn, 3 _law_n, 4 _law_m, 5 _law_rows, 6 _law_k, 7 _law_kept, 8 _law_due, 9 _law_told -/
def rd_law (tb__law_asked : Addr) : WS := (sSeq (sAsg (wLstM (wCons (wC (.int 0)) wNil)) (gN 1)) (sSeq (sFor (wiRng1 (wCons (wBin addD (wC (.int 3)) (wCB fMin2 (wCons (wC (.int 16)) (wCons (wCB fLen (wCons (wVar 0) wNil)) wNil)))) wNil)) (gN 2) (sSeq (sPar3 3 4 5 (wCons (wCall sp_cell 0 (wCons (wVar 0) (wCons (wVar 1) wNil)) wNil) (wCons (wCall sp_cell 0 (wCons (wVar 0) (wCons (wVar 1) wNil)) wNil) (wCons (wLstM wNil) wNil)))) (sSeq (sFor (wiRng1 (wCons (wBin ixD (wLst (wCons (wC (.int 0)) (wCons (wC (.int 1)) (wCons (wC (.int 2)) (wCons (wC (.int 3)) (wCons (wC (.int 2)) (wCons (wC (.int 3)) (wCons (wC (.int 4)) (wCons (wC (.int 4)) wNil))))))))) (wBin modD (wVar 3) (wC (.int 8)))) wNil)) (gN 6) (sDrop (wAppend (wVar 5) (wCall sp_row 0 (wCons (wCall sp_cell 0 (wCons (wVar 0) (wCons (wVar 1) wNil)) wNil) (wCons (wBin ixD (wLst (wCons (wC (.int 7)) (wCons (wC (.int 3)) (wCons (wC (.int 4)) (wCons (wC (.int 2)) wNil))))) (wBin modD (wVar 4) (wC (.int 4)))) wNil)) wNil)))) (sSeq (sPar2 7 8 (wCons (wCB fRepr (wCons (wVar 5) wNil)) (wCons (wCall sp_lmerge 0 (wCons (wVar 5) wNil) wNil) wNil))) (sSeq (sAsg (wCall (sp_asked tb__law_asked) 0 (wCons (wVar 5) (wCons (wBin addD (wC (.str "c")) (wCB fStrI (wCons (wVar 4) wNil))) wNil)) wNil) (gN 9)) (sSeq (sIf (wTru (wCB fIsi (wCons (wVar 8) (wCons (wC (.ty "tuple")) wNil)))) (sAsg (wLst (wCons (wTup (wCons (wC (.str "conflict")) (wCons (wC .non) (wCons (wVar 8) wNil)))) (wCons (wTup (wCons (wC (.str "conflict")) (wCons (wBin addD (wC (.str "c")) (wCB fStrI (wCons (wVar 4) wNil))) (wCons (wVar 8) wNil)))) wNil))) (gN 8)) (sAsg (wLst (wCons (wLst (wCons (wCB fTuple (wCons (wVar 8) wNil)) wNil)) (wCons (wLst (wCons (wCB fTuple (wCons (wVar 8) wNil)) wNil)) wNil))) (gN 8))) (sIf (wOrT (wTruB (wBin neD (wCB fRepr (wCons (wVar 9) wNil)) (wCB fRepr (wCons (wVar 8) wNil)))) (wTruB (wBin neD (wCB fRepr (wCons (wVar 5) wNil)) (wVar 7)))) (sRet (wC (.bl false))) sNil))))))) (sRet (wAndV (wBin eqD (wCall sp_merge_0 0 wNil wNil) (wTup wNil)) (wBin eqD (wCall sp_merge_0 0 (wCons (wTup wNil) (wCons (wTup (wCons (wC (.str "a")) wNil)) (wCons (wTup wNil) wNil))) wNil) (wTup (wCons (wC (.str "a")) wNil)))))))
end K03

/-! K03P: the defs of k03 keep their promises. -/
namespace K03
open PySem PySem.Spec L2 DL
theorem spec_merge : ∀ ds m Q E, sb_merge ds m Q E → rd_merge (Dend Q E) (startD ["name", "sequences", "rows", "found", "heads", "free", "sequence", "head", "row"] ds) m := by
  rintro ds m Q E ⟨rows, nm, rfl, ⟨hl, hrl⟩, hQ⟩
  show rd_merge (Dend Q E) [some nm, some (.tup (rows.map dT)), none, none, none, none, none, none, none] m
  have sz := szl
  simp -dsimp [rd_merge]
  refine LcX.intro rows dT (fun r => if r ≠ [] then some r else none) dL inj_dT rfl (by omega) ?_ ?_
  · intro r hr m' hm
    simp -dsimp
    cases r with
    | nil => simp
    | cons x t => simp
  rw [fm_if]
  simp -dsimp
  refine fun q hq => ⟨by omega, ?_⟩
  have hfe : rows.filter (fun r => !decide (r = [])) = rows.filter (fun r => decide (r ≠ [])) := by congr 1; funext r; simp
  rw [hfe]
  generalize ha : rows.filter (fun r => decide (r ≠ [])) = a0
  have ha0 : ∀ r ∈ a0, r ≠ [] := fun r hr => by rw [← ha] at hr; simpa using (List.mem_filter.mp hr).2
  have hs0 : size a0 ≤ 10000 := by
    have : ∀ l : List Nm, (∀ r ∈ l, r.length ≤ 100) → size l ≤ 100 * l.length := fun l => by
      induction l with
      | nil => intro _; exact Nat.le_refl _
      | cons r rs ih =>
        intro h
        rw [size_cons, List.length_cons]
        have := ih fun x hx => h x (List.mem_cons_of_mem _ hx)
        have := h r List.mem_cons_self
        omega
    rw [← ha, size_filter]
    have := this rows hrl
    omega
  have hm : mg a0 = merged rows := by rw [merged_mg, ha]
  obtain ⟨S, hS⟩ : ∃ S : List Nm × Nm → En → Mem → Prop, S = fun z env m' => (∃ x4 x5 x6 x7 x8, env = [some nm, some (.tup (rows.map dT)), some (.lst (z.1.map dL)), some (.ref q), x4, x5, x6, x7, x8]) ∧ lstOf m' (.ref q) = some (z.2.map fun x => D.str x.s) ∧ Ext m q m' ∧ (∀ r ∈ z.1, r ≠ []) ∧ z.2.length + size z.1 ≤ 10000 ∧ appE z.2 (mg z.1) = merged rows := ⟨_, rfl⟩
  refine WhileX.intro S (fun z => size z.1) (a0, []) ?_ ?_
  · rw [hS]
    exact ⟨⟨_, _, _, _, _, rfl⟩, by simp, Ext.start hq, ha0, by simpa using hs0, by rw [appE_nil, hm]⟩
  rintro ⟨a, acc⟩ env m' hs
  rw [hS] at hs
  obtain ⟨⟨x4, x5, x6, x7, x8, rfl⟩, h1, h2, h3, h4, h5⟩ := hs
  simp -dsimp
  simp at h1 h2 h3 h4 h5
  refine WhB_any.mpr ⟨fun hb => ?_, fun hb => ?_⟩
  · have hne : a ≠ [] := by simpa using hb
    have hal := size_ge h3
    simp -dsimp
    refine App.intro ⟨a, rfl, h3, by omega, ?_⟩
    simp -dsimp
    have hhl := headsOf_len a []
    simp at hhl
    refine LcX.intro (headsOf a []) (fun x => D.str x.s) (fun x => if ∀ r ∈ a, x ∉ r.tail then some x else none) (fun x => D.str x.s) inj_nm rfl (by omega) ?_ ?_
    · intro x hx m3 _
      simp -dsimp
      refine LcX.intro a dL (fun r => some (decide (x ∈ r.tail))) (fun b => D.bl b) inj_dL rfl (by omega) ?_ ?_
      · intro r hr m4 _
        simp -dsimp [-List.map_tail, tail_map]
        exact fun _ _ => rfl
      rw [fm_some]
      simp -dsimp [Function.comp_def]
    rw [fm_if]
    have hfr : (headsOf a []).filter (fun x => decide (∀ r ∈ a, x ∉ List.tail r)) = freeOf a := rfl
    rw [hfr]
    simp -dsimp
    refine Br_any.mpr ⟨fun hf => ?_, fun hf => ?_⟩
    · have hf : freeOf a = [] := by simpa using hf
      have e : mg a = .error (headsOf a []) := by rw [mg_step hne, hf]
      rw [e] at h5
      simp -dsimp
      refine ⟨m, h2.le, ?_⟩
      have h5 : merged rows = .error (headsOf a []) := h5.symm
      simp only [mrgOut, h5] at hQ
      exact hQ
    · obtain ⟨x, t, hf⟩ : ∃ x t, freeOf a = x :: t := by
        cases q : freeOf a with
        | nil => rw [q] at hf; cases hf
        | cons x t => exact ⟨x, t, rfl⟩
      have e : mg a = consE x (mg (cutRows x a)) := by rw [mg_step hne, hf]
      have hx : x ∈ freeOf a := by rw [hf]; exact List.mem_cons_self
      have hsz := size_cut x (mem_freeOf.mp hx).1
      rw [hf]
      simp -dsimp [h1]
      refine ⟨by omega, ?_⟩
      generalize hM2 : m'.put q (.lst (acc.map (fun x => D.str x.s) ++ [D.str x.s])) = M2
      have e2 : lstOf M2 (.ref q) = some ((acc ++ [x]).map fun x => D.str x.s) := by rw [← hM2]; simp
      have hE2 : Ext m q M2 := by rw [← hM2]; exact h2.own
      refine LcX.intro a dL (fun r => some (cutRow x r)) dL inj_dL rfl (by omega) ?_ ?_
      · intro r hr m3 _
        obtain ⟨h, u, rfl⟩ := List.exists_cons_of_ne_nil (h3 r hr)
        simp -dsimp
        refine IteK_any.mpr ⟨fun hd => ?_, fun hd => ?_⟩
        · have hd : h = x := by simpa using hd
          subst hd
          simp -dsimp [cutRow]
        · have hd : ¬ h = x := by simpa using hd
          simp -dsimp [cutRow, hd]
      rw [fm_some]
      simp -dsimp
      refine LcX.intro (a.map (cutRow x)) dL (fun r => if r ≠ [] then some r else none) dL inj_dL (by simp) (by rw [List.length_map]; omega) ?_ ?_
      · intro r hr m3 _
        simp -dsimp
        cases r with
        | nil => simp
        | cons y t => simp
      rw [fm_if]
      simp -dsimp
      have hcut : (a.map (cutRow x)).filter (fun r => !decide (r = [])) = cutRows x a := by unfold cutRows; congr 1; funext r; simp
      rw [hcut]
      refine Nxt.intro (cutRows x a, acc ++ [x]) hsz ?_
      rw [hS]
      refine ⟨⟨_, _, _, _, _, rfl⟩, e2, hE2, cutRows_ne x a, by simp; omega, ?_⟩
      rw [← appE_cons, ← e]
      exact h5
  · have hne : a = [] := by simpa using hb
    subst hne
    rw [mg_nil] at h5
    have h1s : seqOf m' (.ref q) = some (acc.map fun x => D.str x.s) := h1
    simp -dsimp [h1s]
    have h5 : merged rows = .ok acc := by rw [← h5]; simp [appE]
    simp only [mrgOut, h5] at hQ
    exact ⟨m, h2.le, hQ⟩

theorem spec_said : ∀ (W : WM) (φ : Heap → Prop) (T : Hp → Prop) (f : Addr) (m : Mem) (Q : Po) (E : Xo), sp_said W m Q E → m f = none → rd__law_said (wDeed 0 f φ T W) (Dend Q E) (startD ["_law_deed", "_law_found", "e"] [.ref f]) (m.put f (.lam φ T)) := by
  intro W φ T f m Q E h hf
  show rd__law_said (wDeed 0 f φ T W) (Dend Q E) [some (.ref f), none, none] (m.put f (.lam φ T))
  simp -dsimp [rd__law_said, ev_deed, Mem.del_none hf]
  refine h _ _ (fun d m' q => ⟨by decide, m', Mem.le_refl _, q⟩) ?_
  rintro x m' ⟨nm, hs, rfl, q⟩
  rw [mix_yes (by decide)]
  intro a d
  simp -dsimp
  refine Is.intro (x := nm) (by rfl) ⟨by decide, fun hn => ⟨m', Mem.le_put hn, q⟩⟩
theorem appL_of {w : WE} {env : En} {m : Mem} {R : Po} {E : Xo} {t : Tag R} (rows : List Nm) (nm : D) (hw : ∀ Q' E', mrgOut rows nm m Q' E' → w env m Q' E') (hR : R (saidD rows nm) m) : AppL sp_said w env m R E t := by
  refine AppL.intro fun Q' E' h1 h2 => hw _ _ ?_
  unfold mrgOut
  unfold saidD at hR
  cases e : merged rows with
  | ok r => rw [e] at hR; exact h1 _ _ hR
  | error h => rw [e] at hR; exact h2 _ _ ⟨nm, dT h, rfl, hR⟩
theorem spec_asked {tb : Addr} : ∀ ds m Q E, sp_asked tb ds m Q E → rd__law_asked tb (Dend Q E) (startD ["_law_rows", "_law_who", "_law_found", "_law_one", "_law_two", "_law_three", "_law_four"] ds) m := by
  rintro ds m Q E ⟨q, who, rows, rfl, ht, hs, hl, hr, hQ⟩
  show rd__law_asked tb (Dend Q E) [some (.ref q), some who, none, none, none, none, none] m
  have ok : RowsOk rows := ⟨by omega, hr⟩
  have s2 : 2 ≤ sizeLine := by decide
  have s1 : 1 ≤ sizeLine := by decide
  rcases rows with _ | ⟨a, _ | ⟨b, _ | ⟨c, _ | ⟨d, _ | ⟨e, r⟩⟩⟩⟩⟩
  · simp -dsimp [rd__law_asked, hs]
    refine ⟨ht, appL_of [] .non (fun Q' E' h => by simp -dsimp; exact App.intro ⟨[], rfl, ok, h⟩) ?_⟩
    simp -dsimp
    refine ⟨s1, ht, appL_of [] who (fun Q' E' h => by simp -dsimp; exact App.intro ⟨[], who, rfl, ok, h⟩) ?_⟩
    simp -dsimp
    exact ⟨s1, s2, m, Mem.le_refl _, hQ⟩
  · simp -dsimp [rd__law_asked, hs]
    refine ⟨ht, appL_of [a] .non (fun Q' E' h => by simp -dsimp [hs]; exact App.intro ⟨[a], rfl, ok, h⟩) ?_⟩
    simp -dsimp
    refine ⟨s1, ht, appL_of [a] who (fun Q' E' h => by simp -dsimp [hs]; exact App.intro ⟨[a], who, rfl, ok, h⟩) ?_⟩
    simp -dsimp
    exact ⟨s1, s2, m, Mem.le_refl _, hQ⟩
  · simp -dsimp [rd__law_asked, hs]
    refine ⟨s2, ht, appL_of [a, b] .non (fun Q' E' h => by simp -dsimp [hs]; exact App.intro ⟨[a, b], rfl, ok, h⟩) ?_⟩
    simp -dsimp
    refine ⟨s1, ht, appL_of [a, b] who (fun Q' E' h => by simp -dsimp [hs]; exact App.intro ⟨[a, b], who, rfl, ok, h⟩) ?_⟩
    simp -dsimp
    exact ⟨s1, s2, m, Mem.le_refl _, hQ⟩
  · simp -dsimp [rd__law_asked, hs]
    refine ⟨s2, ht, appL_of [a, b, c] .non (fun Q' E' h => by simp -dsimp [hs]; exact App.intro ⟨[a, b, c], rfl, ok, h⟩) ?_⟩
    simp -dsimp
    refine ⟨s1, ht, appL_of [a, b, c] who (fun Q' E' h => by simp -dsimp [hs]; exact App.intro ⟨[a, b, c], who, rfl, ok, h⟩) ?_⟩
    simp -dsimp
    exact ⟨s1, s2, m, Mem.le_refl _, hQ⟩
  · simp -dsimp [rd__law_asked, hs]
    refine ⟨s2, ht, appL_of [a, b, c, d] .non (fun Q' E' h => by simp -dsimp [hs]; exact App.intro ⟨[a, b, c, d], rfl, ok, h⟩) ?_⟩
    simp -dsimp
    refine ⟨s1, ht, appL_of [a, b, c, d] who (fun Q' E' h => by simp -dsimp [hs]; exact App.intro ⟨[a, b, c, d], who, rfl, ok, h⟩) ?_⟩
    simp -dsimp
    exact ⟨s1, s2, m, Mem.le_refl _, hQ⟩
  · simp at hl
theorem spec_row : ∀ ds m Q E, sp_row ds m Q E → rd__law_row (Dend Q E) (startD ["_law_n", "_law_most", "_law_stock", "_law_found", "_law_k"] ds) m := by
  rintro ds m Q E ⟨n, k, rfl, h0, h1, k0, k1, hQ⟩
  show rd__law_row (Dend Q E) [some (.int n), some (.int k), none, none, none] m
  simp -dsimp [rd__law_row]
  refine ⟨by decide, fun p hp q hq => ?_⟩
  have hqp : q ≠ p := fun e => by rw [e, Mem.put_same] at hq; cases hq
  have hmq : m q = none := by rw [Mem.put_ne hqp] at hq; exact hq
  have hr0 : 0 ≤ n % (k + 1) := Int.emod_nonneg _ (by omega)
  have hr1 : n % (k + 1) < k + 1 := Int.emod_lt_of_pos _ (by omega)
  refine ⟨by omega, by omega, by omega, ?_⟩
  obtain ⟨t, ht⟩ := Int.eq_ofNat_of_zero_le hr0
  have htl : t ≤ 7 := by omega
  obtain ⟨Iv, hIv⟩ : ∃ Iv : Nat → En → Mem → Prop, Iv = fun i env m' => ∃ (z : Int) (x4 : Option D) (st fo : Nm), env = [some (.int z), some (.int k), some (.ref p), some (.ref q), x4] ∧ m' = (m.put p (cL st)).put q (cL fo) ∧ 0 ≤ z ∧ z < 2 ^ (29 + 4 * i) ∧ st.length + i = 7 ∧ fo.length = i ∧ ∀ x ∈ fo ++ st, x ∈ letters := ⟨_, rfl⟩
  refine ForR.intro t ht Iv ?_ ?_ ?_
  · rw [hIv]
    exact ⟨n, _, letters, [], rfl, rfl, h0, by omega, rfl, rfl, fun x h => h⟩
  · intro i env m' hi iv
    rw [hIv] at iv
    obtain ⟨z, x4, st, fo, rfl, rfl, z0, z1, l1, l2, mem⟩ := iv
    have c1 : (m.put p (cL st)).put q (cL fo) = (m.put q (cL fo)).put p (cL st) := Mem.put_comm (Ne.symm hqp)
    have e1 : lstOf ((m.put p (cL st)).put q (cL fo)) (.ref p) = some (st.map fun x => D.str x.s) := by rw [c1]; simp
    have e2 : ∀ c : Cell, lstOf (((m.put p (cL st)).put q (cL fo)).put p c) (.ref q) = some (fo.map fun x => D.str x.s) := fun c => by rw [lstOf_ne hqp]; simp
    simp -dsimp [e1, e2]
    have hl : (0 : Int) < st.length := by omega
    have w0 : 0 ≤ (z / 7 + 5 * z + i) % st.length := Int.emod_nonneg _ (by omega)
    have w1 : (z / 7 + 5 * z + i) % st.length < st.length := Int.emod_lt_of_pos _ hl
    have zb : (2 : Int) ^ (29 + 4 * i) ≤ 2 ^ 63 := by exact_mod_cast Nat.pow_le_pow_right (by decide) (by omega)
    have z63 : z < 9223372036854775808 := by omega
    generalize (z / 7 + 5 * z + i) % st.length = w at w0 w1
    obtain ⟨j, rfl⟩ := Int.eq_ofNat_of_zero_le w0
    have hj : j < st.length := by omega
    refine ⟨⟨by decide, by decide⟩, .inl ⟨by decide, by decide⟩, by omega, ⟨by omega, by omega⟩, Is.intro (seqIndex_nat w0 w1) (Is.intro (x := D.str st[j].s) (by simp [hj]) ?_)⟩
    simp -dsimp [e2]
    have s20 : 20 < sizeLine := by decide
    refine ⟨by omega, ?_⟩
    rw [hIv, Mem.put4 hqp]
    have pm := erase_perm hj
    have pm2 : (fo ++ [st[j]] ++ st.eraseIdx j).Perm (fo ++ st) := by
      rw [List.append_assoc]
      exact List.Perm.append_left fo pm
    refine ⟨_, _, st.eraseIdx j, fo ++ [st[j]], rfl, ?_, by omega, ?_, ?_, by simp [l2], fun x hx => mem x (pm2.mem_iff.mp hx)⟩
    · simp [cL, map_erase]
    · have : (2 : Int) ^ (29 + 4 * (i + 1)) = 16 * 2 ^ (29 + 4 * i) := by
        rw [show 29 + 4 * (i + 1) = 4 + (29 + 4 * i) by omega, Int.pow_add]; rfl
      have g : (2 : Int) ^ 29 ≤ 2 ^ (29 + 4 * i) := by exact_mod_cast Nat.pow_le_pow_right (by decide) (by omega)
      rw [this]
      omega
    · rw [List.length_eraseIdx_of_lt hj]; omega
  · intro env m' iv
    rw [hIv] at iv
    obtain ⟨z, x4, st, fo, rfl, rfl, z0, z1, l1, l2, mem⟩ := iv
    simp -dsimp
    refine ⟨m, Mem.le_trans (Mem.le_put hp) (Mem.le_put (by rw [Mem.put_ne hqp]; exact hmq)), hQ fo (fun x hx => mem x (List.mem_append_left _ hx)) (by omega)⟩
theorem cutRows_sub {x : Nme} {a : List Nm} {r : Nm} (hr : r ∈ cutRows x a) : ∃ s ∈ a, ∀ y ∈ r, y ∈ s := by
  unfold cutRows at hr
  obtain ⟨s, hs, rfl⟩ := List.mem_map.mp (List.mem_filter.mp hr).1
  refine ⟨s, hs, fun y hy => ?_⟩
  unfold cutRow at hy
  split at hy
  · exact List.mem_of_mem_tail hy
  · exact hy
theorem mg_out : ∀ (n : Nat) (rows : List Nm), size rows ≤ n → match mg rows with
    | .ok r => r.length ≤ size rows ∧ ∀ y ∈ r, ∃ s ∈ rows, y ∈ s
    | .error h => h.length ≤ rows.length ∧ ∀ y ∈ h, ∃ s ∈ rows, y ∈ s := by
  intro n
  induction n with
  | zero =>
    intro rows hn
    by_cases h : rows = []
    · subst h; rw [mg_nil]; exact ⟨by simp, fun y hy => by cases hy⟩
    · rw [mg_step h]
      cases hf : freeOf rows with
      | nil => exact ⟨by have := headsOf_len rows []; simpa using this, fun y hy => by
          rcases (mem_headsOf rows [] y).mp hy with z | ⟨r, hr, z⟩
          · cases z
          · exact ⟨r, hr, List.mem_of_mem_head? z⟩⟩
      | cons x t =>
        have hx : x ∈ freeOf rows := by rw [hf]; exact List.mem_cons_self
        have := size_cut x (mem_freeOf.mp hx).1
        omega
  | succ n ih =>
    intro rows hn
    by_cases h : rows = []
    · subst h; rw [mg_nil]; exact ⟨by simp, fun y hy => by cases hy⟩
    · rw [mg_step h]
      cases hf : freeOf rows with
      | nil => exact ⟨by have := headsOf_len rows []; simpa using this, fun y hy => by
          rcases (mem_headsOf rows [] y).mp hy with z | ⟨r, hr, z⟩
          · cases z
          · exact ⟨r, hr, List.mem_of_mem_head? z⟩⟩
      | cons x t =>
        have hx : x ∈ freeOf rows := by rw [hf]; exact List.mem_cons_self
        have hs := size_cut x (mem_freeOf.mp hx).1
        have ih := ih (cutRows x rows) (by omega)
        show match consE x (mg (cutRows x rows)) with | .ok r => _ | .error h => _
        cases e : mg (cutRows x rows) with
        | ok r =>
          rw [e] at ih
          obtain ⟨i1, i2⟩ := ih
          refine ⟨by simp; omega, fun y hy => ?_⟩
          rcases List.mem_cons.mp hy with rfl | hy
          · obtain ⟨r', hr', z⟩ := (mem_freeOf.mp hx).1
            exact ⟨r', hr', List.mem_of_mem_head? z⟩
          · obtain ⟨s, hs', z⟩ := i2 y hy
            obtain ⟨s2, h2, z2⟩ := cutRows_sub hs'
            exact ⟨s2, h2, z2 y z⟩
        | error h' =>
          rw [e] at ih
          obtain ⟨i1, i2⟩ := ih
          refine ⟨Nat.le_trans i1 (cutRows_len x rows), fun y hy => ?_⟩
          obtain ⟨s, hs', z⟩ := i2 y hy
          obtain ⟨s2, h2, z2⟩ := cutRows_sub hs'
          exact ⟨s2, h2, z2 y z⟩
theorem size_le {rows : List Nm} {B : Nat} (h : ∀ r ∈ rows, r.length ≤ B) : size rows ≤ rows.length * B := by
  induction rows with
  | nil => simp [size]
  | cons r rs ih =>
    have h1 := ih fun x hx => h x (List.mem_cons_of_mem _ hx)
    have h2 := h r List.mem_cons_self
    rw [size_cons, List.length_cons, Nat.add_mul]; omega
/-- what is merged, or the heads: how long, and of which names -/
theorem merged_out (rows : List Nm) : match merged rows with
    | .ok r => r.length ≤ size rows ∧ ∀ y ∈ r, ∃ s ∈ rows, y ∈ s
    | .error h => h.length ≤ rows.length ∧ ∀ y ∈ h, ∃ s ∈ rows, y ∈ s := by
  have h := mg_out _ (rows.filter fun r => decide (r ≠ [])) (Nat.le_refl _)
  rw [merged_mg]
  have fl := List.length_filter_le (fun r => decide (r ≠ [])) rows
  have fs : size (rows.filter fun r => decide (r ≠ [])) = size rows := size_filter rows
  cases e : mg (rows.filter fun r => decide (r ≠ [])) with
  | ok r =>
    rw [e] at h
    refine ⟨by rw [← fs]; exact h.1, fun y hy => ?_⟩
    obtain ⟨s, hs, z⟩ := h.2 y hy
    exact ⟨s, (List.mem_filter.mp hs).1, z⟩
  | error h' =>
    rw [e] at h
    refine ⟨Nat.le_trans h.1 fl, fun y hy => ?_⟩
    obtain ⟨s, hs, z⟩ := h.2 y hy
    exact ⟨s, (List.mem_filter.mp hs).1, z⟩
theorem letter_len {x : Nme} (h : x ∈ letters) : x.s.length ≤ 1 := by
  simp only [letters, List.mem_cons, List.not_mem_nil, or_false] at h
  rcases h with rfl | rfl | rfl | rfl | rfl | rfl | rfl <;> decide
def nmA : Nme := ⟨"a", by decide +kernel⟩
theorem spec_law {tb : Addr} : ∀ ds m Q E, sp_law tb ds m Q E → rd_law tb (Dend Q E) (startD ["_law_script", "_law_spot", "_law_turn", "_law_n", "_law_m", "_law_rows", "_law_k", "_law_kept", "_law_due", "_law_told"] ds) m := by
  rintro ds m Q E ⟨ns, rfl, hl, ht, hQ⟩
  show rd_law tb (Dend Q E) [some (.klst (ns.map .int)), none, none, none, none, none, none, none, none, none] m
  have sz := szl
  simp -dsimp [rd_law]
  refine ⟨by decide, fun p hp => ⟨by omega, by omega, ?_⟩⟩
  have htn : (if (ns.length : Int) < 16 then (ns.length : Int) else 16) = ((min ns.length 16 : Nat) : Int) := by
    by_cases h : ns.length < 16
    · rw [if_pos (by omega), Nat.min_eq_left (by omega)]
    · rw [if_neg (by omega), Nat.min_eq_right (by omega)]; rfl
  rw [htn]
  have htp : tb ≠ p := fun e => by rw [e, hp] at ht; cases ht
  obtain ⟨Iv, hIv⟩ : ∃ Iv : Nat → En → Mem → Prop, Iv = fun (i : Nat) env m' => ∃ (x2 x3 x4 x5 x6 x7 x8 x9 : Option D) (k : Int), env = [some (.klst (ns.map .int)), some (.ref p), x2, x3, x4, x5, x6, x7, x8, x9] ∧ lstOf m' (.ref p) = some [.int k] ∧ m' tb = some (.tab (lamQ "_law_asked")) ∧ 0 ≤ k ∧ k ≤ 100 * i := ⟨_, rfl⟩
  refine ForR.intro (3 + min ns.length 16) (by push_cast; rfl) Iv ?_ ?_ ?_
  · rw [hIv]
    exact ⟨_, _, _, _, _, _, _, _, 0, rfl, by simp, by rw [Mem.put_ne htp]; exact ht, by omega, by omega⟩
  · intro i env m1 hi iv
    rw [hIv] at iv
    obtain ⟨x2, x3, x4, x5, x6, x7, x8, x9, k, rfl, g1, gt, g2, g3⟩ := iv
    simp -dsimp
    refine App.intro ⟨ns, p, k, rfl, hl, lst_iff.mp g1, g2, by omega, fun n n0 n1 => ?_⟩
    simp -dsimp
    refine App.intro ⟨ns, p, k + 1, rfl, hl, by simp, by omega, by omega, fun w w0 w1 => ?_⟩
    simp -dsimp
    intro q hq
    have hqp : q ≠ p := fun e => by rw [e] at hq; simp at hq
    have htq : tb ≠ q := fun e => by rw [← e, Mem.put_ne htp, gt] at hq; cases hq
    obtain ⟨d, hd, c, rfl, c0, c1⟩ := pick (xs := [D.int 0, D.int 1, D.int 2, D.int 3, D.int 2, D.int 3, D.int 4, D.int 4]) (i := n % 8) (fun d => ∃ c : Int, d = .int c ∧ 0 ≤ c ∧ c ≤ 4) (by omega) (by simp; omega) (by simp)
    refine ⟨by decide, Is.intro hd ?_⟩
    simp -dsimp
    refine ⟨by omega, by omega, ?_⟩
    obtain ⟨t, rfl⟩ := Int.eq_ofNat_of_zero_le c0
    obtain ⟨Jv, hJv⟩ : ∃ Jv : Nat → En → Mem → Prop, Jv = fun (j : Nat) env m2 => ∃ (x6 : Option D) (k' : Int) (rows : List Nm), env = [some (.klst (ns.map .int)), some (.ref p), some (.int i), some (.int n), some (.int w), some (.ref q), x6, x7, x8, x9] ∧ lstOf m2 (.ref p) = some [.int k'] ∧ lstOf m2 (.ref q) = some (rows.map dT) ∧ m2 tb = some (.tab (lamQ "_law_asked")) ∧
      0 ≤ k' ∧ k' ≤ k + 2 + j ∧ rows.length = j ∧ ∀ r ∈ rows, (∀ x ∈ r, x ∈ letters) ∧ r.length ≤ 7 := ⟨_, rfl⟩
    refine ForR.intro t rfl Jv ?_ ?_ ?_
    · rw [hJv]
      refine ⟨_, k + 2, [], rfl, ?_, by simp, ?_, by omega, by omega, rfl, fun r hr => by cases hr⟩
      · rw [lstOf_ne (Ne.symm hqp)]; simp; omega
      · rw [Mem.put_ne htq, Mem.put_ne htp]; exact gt
    · intro j env m2 hj jv
      rw [hJv] at jv
      obtain ⟨x6, k', rows, rfl, e1, e2, e3, e4, e5, e6, e7⟩ := jv
      simp -dsimp [e2]
      refine App.intro ⟨ns, p, k', rfl, hl, lst_iff.mp e1, e4, by omega, fun n' n0' n1' => ?_⟩
      obtain ⟨d, hd, c, rfl, c0, c1⟩ := pick (xs := [D.int 7, D.int 3, D.int 4, D.int 2]) (i := w % 4) (fun d => ∃ c : Int, d = .int c ∧ 0 ≤ c ∧ c ≤ 7) (by omega) (by simp; omega) (by simp)
      simp -dsimp
      refine ⟨by decide, Is.intro hd ?_⟩
      simp -dsimp
      refine App.intro ⟨n', c, rfl, n0', n1', c0, c1, fun r hr hrl => ?_⟩
      simp -dsimp [lstOf_ne hqp, e2]
      refine ⟨by omega, ?_⟩
      rw [hJv]
      refine ⟨_, k' + 1, rows ++ [r], rfl, ?_, by simp, ?_, by omega, by push_cast; omega, by simp [e6], fun s hs => ?_⟩
      · rw [lstOf_ne (Ne.symm hqp)]; simp
      · rw [Mem.put_ne htq, Mem.put_ne htp]; exact e3
      · rcases List.mem_append.mp hs with z | z
        · exact e7 s z
        · rw [List.mem_singleton.mp z]; exact ⟨hr, hrl⟩
    · intro env m2 jv
      rw [hJv] at jv
      obtain ⟨x6, k', rows, rfl, e1, e2, e3, e4, e5, e6, e7⟩ := jv
      have L1 : ∀ r ∈ rows, ∀ x ∈ r, x.s.length ≤ 1 := fun r hr x hx => letter_len ((e7 r hr).1 x hx)
      have gR : goods (rows.map dT) = true := goods_map _ fun r _ => good_dT r
      have wR : wgts (rows.map dT) ≤ 1000 := by
        have := wgts_map dT 101 (xs := rows) fun r hr => by
          have := wgt_dT (L1 r hr); have := (e7 r hr).2; omega
        omega
      have dR : deps (rows.map dT) ≤ 1 := deps_map dT 1 fun r _ => by simp
      have sR := showD_cell e2 gR (by omega) (by omega)
      have hsz := size_le fun r hr => (e7 r hr).2
      have mo := merged_out rows
      have lw := log_small w0 w1
      have gw : good (.str ("c" ++ strI w)) = true := by simp only [good]; exact okStr_app (by decide) (okStr_I w)
      have lw2 : (("c" : Str) ++ strI w).length ≤ 32 := by
        have := strLen_I w
        rw [strLen_app]
        have : ("c" : Str).length = 1 := by decide
        omega
      have lw3 : ("c" : Str).length + (strI w).length ≤ 32 := by rw [strLen_app] at lw2; exact lw2
      simp -dsimp [sR]
      refine App.intro ⟨_, rows, rfl, e2, by omega, fun r hr => by have := (e7 r hr).2; omega, ?_⟩
      cases em : DL.merged rows with
      | ok r =>
        rw [em] at mo
        simp -dsimp
        refine ⟨by omega, by omega, App.intro ⟨q, _, rows, rfl, e3, e2, by omega, fun r hr => by have := (e7 r hr).2; omega, ?_⟩⟩
        simp -dsimp [saidD, em]
        refine Is.intro (x := "list") rfl (Is.intro (x := false) (by decide +kernel) ?_)
        simp -dsimp
        have gD : good (.lst [.lst [dT r], .lst [dT r]]) = true := by simp [good, goods]
        have lr : ∀ x ∈ r, x.s.length ≤ 1 := fun x hx => let ⟨s, hs, z⟩ := mo.2 x hx; L1 s hs x z
        have wD : wgt (.lst [.lst [dT r], .lst [dT r]]) ≤ 10000 := by
          have := wgt_dT lr
          simp only [wgt, wgts] at this ⊢
          omega
        have sD := showD_good (m := m2) gD (by omega) (by simp [dep, deps])
        refine ⟨by decide, by decide, Is.intro sD ?_⟩
        simp -dsimp [sD]
        refine Is.intro sR ?_
        simp -dsimp
        rw [hIv]
        exact ⟨_, _, _, _, _, _, _, _, k', rfl, e1, e3, e4, by omega⟩
      | error h =>
        rw [em] at mo
        simp -dsimp
        refine ⟨by omega, by omega, App.intro ⟨q, _, rows, rfl, e3, e2, by omega, fun r hr => by have := (e7 r hr).2; omega, ?_⟩⟩
        simp -dsimp [saidD, em]
        refine Is.intro (x := "tuple") rfl (Is.intro (x := true) (by decide +kernel) ?_)
        simp -dsimp
        have gc : good (.str "conflict") = true := by decide
        have gD : good (.lst [.tup [.str "conflict", .non, dT h], .tup [.str "conflict", .str ("c" ++ strI w), dT h]]) = true := by
          simp only [good, goods, Bool.and_true, Bool.and_eq_true] at gc gw ⊢
          simp [gc, gw]
        have lr : ∀ x ∈ h, x.s.length ≤ 1 := fun x hx => let ⟨s, hs, z⟩ := mo.2 x hx; L1 s hs x z
        have wD : wgt (.lst [.tup [.str "conflict", .non, dT h], .tup [.str "conflict", .str ("c" ++ strI w), dT h]]) ≤ 10000 := by
          have := wgt_dT lr
          have l8 : ("conflict" : Str).length = 8 := by decide
          simp only [wgt, wgts] at this ⊢
          omega
        have sD := showD_good (m := m2) gD (by omega) (by simp [dep, deps])
        refine ⟨by decide, by omega, by omega, by decide, by decide, Is.intro sD ?_⟩
        simp -dsimp [sD]
        refine Is.intro sR ?_
        simp -dsimp
        rw [hIv]
        exact ⟨_, _, _, _, _, _, _, _, k', rfl, e1, e3, e4, by omega⟩
  · intro env m' iv
    rw [hIv] at iv
    obtain ⟨x2, x3, x4, x5, x6, x7, x8, x9, k, rfl, g1, gt, g2, g3⟩ := iv
    simp -dsimp
    refine App.intro ⟨[], rfl, ⟨by simp, by simp⟩, ?_⟩
    show mrgOut [] .non m' _ _
    have e0 : DL.merged [] = Except.ok [] := rfl
    simp only [mrgOut, e0]
    simp -dsimp
    refine eqD_pl (pl_dT 59 []) (pl_dT 59 []) ?_
    have q0 : eqB (dT []) (D.tup []) = true := rfl
    simp -dsimp [q0]
    refine ⟨by decide, App.intro ⟨[[], [nmA], []], rfl, ⟨by simp, by simp [nmA]⟩, ?_⟩⟩
    have e1 : DL.merged [[], [nmA], []] = Except.ok [nmA] := by rfl
    simp only [mrgOut, e1]
    simp -dsimp
    refine ⟨by decide, eqD_pl (pl_dT 59 [nmA]) (pl_dT 59 [nmA]) ?_⟩
    have q1 : eqB (dT [nmA]) (D.tup [D.str "a"]) = true := by decide +kernel
    simp -dsimp [q1]
    exact ⟨m', Mem.le_refl _, hQ m'⟩
end K03

/-! D23: def f(*v, k = d) called without k; classes of errors by the Hook. -/
namespace DL
open PySem PySem.Spec PyProof.Rows L2 NdefX
/-- the statements of a class -/
def clsBody (s : Stmt) : List Stmt := match s with
  | .ClassDef _ _ _ b _ _ _ _ _ _ _ => b
  | _ => []
/-- binding def f(*v, k = d), no keyword written -/
theorem bind_star0 {K : Frag} {nk pv : Str} {a1 a2 : Option Expr} {p1 p2 : Pos} {kd : List (Option Expr)} {df : List Expr} {x qual : Str} {body : List Stmt} {scope : Scope} {D : Addr} {doc pm : Value} {an : Option Addr} {cdv ct : Value} {rest : List Value} {u : Value} {s : Shared}
    (KI : K.In s.heap) (hu : PySem.W.nsIn K D nk = some (some u)) {M : Model} {A : Around} {E : Value → Shared → Prop} {Q : List (Str × Value) → Shared → Prop} (h : wpAny M A (newTuple rest >>= fun t => pure [(nk, u), (pv, t)]) Q E s) :
    wpAny M A (bindArgs (PySem.W.fnOf x qual ⟨[], [], some ⟨pv, a1, p1⟩, [⟨nk, a2, p2⟩], kd, none, df⟩ body scope .none (.ref D) doc pm an cdv ct) ⟨rest, []⟩) Q E s := by
  have e0 : seqItems? Value.none = pure none := rfl
  unfold bindArgs
  cases rest with
  | nil =>
    simp [e0]
    refine wpAny_bind (PySem.W.Looks.here (PySem.W.looks_nsIn KI hu) ?_)
    simpa using h
  | cons a r =>
    simp [e0]
    refine wpAny_bind (PySem.W.Looks.here (PySem.W.looks_nsIn KI hu) ?_)
    simpa using h
section
variable {g : Bool} {P : Program} {w : World} {K : Frag} {mg : Str → Option Value} {base : Heap} {k : Nat} {x qual : Str} {params : Arguments} {body : List Stmt} {scope : Scope} {f : Addr} {fd : FuncData} {N ps : List Str} {sp : SpD} {wb : WS}
theorem Fn.star0 {pv nk : Str} {dv : V} {dd : D} (F : FunD K x qual params body scope [] [(nk, dv)] f fd) (hd : ∀ F, Den K F dd dv) (S : FnScope N ([nk] ++ [pv]) scope) (der : Der g P w K mg base k N scope body wb)
    (spec : ∀ ds m Q E, sp ds m Q E → wb (Dend Q E) (startD N ds) m) (hm : mg x = some (.ref f))
    (hp : ∃ a1 a2 p1 p2 kd df, params = ⟨[], [], some ⟨pv, a1, p1⟩, [⟨nk, a2, p2⟩], kd, none, df⟩) :
    Fn g P w K mg base (k + 1) x [] (fun ds m Q E => ds.length ≤ sizeLine ∧ sp [dd, .tup ds] m Q E) := by
  obtain ⟨oc, od, dV, kV, doc, pm, an, cdv, ct, osl, efd, lk, hcd, hD, hK⟩ := id F.ex
  subst efd
  rcases hK with e | ⟨Dk, rfl, hq⟩
  · cases e
  obtain ⟨u, hu, ru⟩ := hq _ (List.mem_cons_self ..)
  rcases hD with ⟨_, rfl⟩ | ⟨e, _⟩
  · have R := fn_starD (ps := [nk]) (sp := sp) F S der spec hm 0 [] [0] [dd] (ds0 := [u]) (dvs0 := [dv]) (.cons ru .nil) (fun F0 => Dens.one (hd F0)) (fun l h => by
      match l, h with
      | [a], _ => rfl) (fun s us rest ws KI h1 h2 M A E Q hw => by
      match us, ws, h1, h2 with
      | [], [], _, _ =>
        obtain ⟨a1, a2, p1, p2, kd, df, rfl⟩ := hp
        exact bind_star0 KI hu hw)
    exact R.imp fun ds m Q E ⟨hz, h⟩ => ⟨[], ds, [], by simp, rfl, rfl, hz, h⟩
  · exact absurd rfl e
end
end DL

/-! D24: repr of a dict of plain data. -/
namespace DL
open PySem PySem.Spec PyProof.Rows L2
mutual
/-- no list within -/
def nl : PyData → Bool
  | .list _ => false
  | .dict _ => false
  | .tuple xs => nls xs
  | _ => true
def nls : List PyData → Bool
  | [] => true
  | x :: xs => nl x && nls xs
end
mutual
theorem reads_nl {h : Heap} : ∀ {d : PyData} {v : Value} {as : List Addr}, Reads h v d as → nl d = true → as = []
  | .none, _, _, r, _ => by cases r; rfl
  | .bool _, _, _, r, _ => by cases r; rfl
  | .int _, _, _, r, _ => by cases r; rfl
  | .str _, _, _, r, _ => by cases r; rfl
  | .list _, _, _, _, e => by simp [nl] at e
  | .dict _, _, _, _, e => by simp [nl] at e
  | .tuple xs, _, _, r, e => by
    cases r with
    | tuple h1 h2 h3 h4 => exact readsAll_nl h4 (by simpa only [nl] using e)
theorem readsAll_nl {h : Heap} : ∀ {ds : List PyData} {vs : List Value} {as : List Addr}, ReadsAll h vs ds as → nls ds = true → as = []
  | [], _, _, r, _ => by cases r; rfl
  | d :: ds, _, _, r, e => by
    simp only [nls, Bool.and_eq_true] at e
    cases r with
    | cons h1 h2 => rw [reads_nl h1 e.1, readsAll_nl h2 e.2]; rfl
end
/-- a key as data -/
def kyD : Key → D
  | .inl i => .int i
  | .inr x => .str x
def kyP (k : Key) : PyData := toPy (kyD k)
def toKv (kvs : List (Key × D)) : List (PyData × PyData) := kvs.map fun q => (kyP q.1, toPy q.2)
def wK : List (Key × D) → Nat
  | [] => 3
  | q :: r => wgt (kyD q.1) + wgt q.2 + 4 + wK r
def goodK (kvs : List (Key × D)) : Bool := kvs.all fun q => good (kyD q.1) && good q.2 && nl (toPy q.2)
theorem keys_shown {kvs : List (Key × D)} (h : goodK kvs = true) : ((PyData.shownKv (toKv kvs)).map (·.length)).sum + 2 * (PyData.shownKv (toKv kvs)).length + 3 ≤ wK kvs := by
  induction kvs with
  | nil => simp [toKv, PyData.shownKv, wK]
  | cons q r ih =>
    simp only [goodK, List.all_cons, Bool.and_eq_true] at h
    obtain ⟨⟨⟨h1, h2⟩, _⟩, h4⟩ := h
    have ih := ih h4
    have w1 := shown_wgt h1
    have w2 := shown_wgt h2
    have e : ((": " : Str)).length = 2 := rfl
    simp only [toKv, List.map_cons, PyData.shownKv, List.sum_cons, List.length_cons, wK, PySem.strLen_append, e, kyP] at ih ⊢
    omega
theorem kv_shown {kvs : List (Key × D)} (h : goodK kvs = true) : (PyData.dict (toKv kvs)).shown.length ≤ wK kvs := by
  have h1 := PySem.dictText_len_le (PyData.shownKv (toKv kvs))
  have h2 := keys_shown h
  simp only [PyData.shown]; omega
theorem kv_showable {kvs : List (Key × D)} (h : goodK kvs = true) : (PyData.dict (toKv kvs)).showable = true := by
  simp only [PyData.showable]
  induction kvs with
  | nil => rfl
  | cons q r ih =>
    simp only [goodK, List.all_cons, Bool.and_eq_true] at h
    obtain ⟨⟨⟨h1, h2⟩, _⟩, h4⟩ := h
    show PyData.showableKv ((kyP q.1, toPy q.2) :: toKv r) = true
    simp only [PyData.showableKv, kyP, showable_good h1, showable_good h2, Bool.and_self, ih h4]
theorem kv_depth {kvs : List (Key × D)} {B : Nat} (h : ∀ q ∈ kvs, dep q.2 ≤ B) : (PyData.dict (toKv kvs)).depth ≤ B + 1 := by
  simp only [PyData.depth]
  suffices PyData.depthKv (toKv kvs) ≤ B by omega
  induction kvs with
  | nil => exact Nat.zero_le _
  | cons q r ih =>
    have ih := ih fun p hp => h p (List.mem_cons_of_mem _ hp)
    have h1 : (toPy q.2).depth ≤ dep q.2 := depth_dep
    have h2 := h q (List.mem_cons_self ..)
    have h3 : (kyP q.1).depth ≤ 0 := by cases q.1 <;> simp [kyP, kyD, toPy, PyData.depth]
    show PyData.depthKv ((kyP q.1, toPy q.2) :: toKv r) ≤ B
    simp only [PyData.depthKv]; omega
/-- what is shown of a dict -/
def showK (m : Mem) (d : D) : Option Str := match dctOf m d with
  | some kvs => if goodK kvs = true ∧ wK kvs ≤ sizeLine ∧ (PyData.dict (toKv kvs)).depth ≤ 40 then some (PyData.dict (toKv kvs)).shown else none
  | none => none
theorem showK_ok {m : Mem} {d : D} {kvs : List (Key × D)} (e : dctOf m d = some kvs) (h1 : goodK kvs = true) (h2 : wK kvs ≤ sizeLine) (h3 : ∀ q ∈ kvs, dep q.2 ≤ 39) : showK m d = some (PyData.dict (toKv kvs)).shown := by
  unfold showK
  rw [e]
  exact if_pos ⟨h1, h2, kv_depth h3⟩
def fReprK : FB := fun ds m Q => match ds with
  | [d] => ∃ x, showK m d = some x ∧ Q (.str x) m
  | _ => False
section
variable {X : Cx}
theorem call_reprK (hg : X.A.guards = some []) (hu : X.A.units + 64 < cLine) : CallR X (.builtin "repr") (fun xs H Q => ∃ a kvs D, xs = [.ref a] ∧ H a = some (.dK kvs) ∧ Paired (fun (p : Key × V) (q : PyData × PyData) => q.1 = kyP p.1 ∧ nl q.2 = true ∧ Dp X.K H p.2 q.2) kvs D ∧ (PyData.dict D).shown.length ≤ sizeLine ∧ (PyData.dict D).showable = true ∧ (PyData.dict D).depth ≤ 40 ∧ Q (.str (PyData.dict D).shown) H) := by
  intro pins s σ H xs us Q I r ⟨a, kvs, D, e, ha, dp, h1, h2, h4, q⟩
  subst e
  cases r with
  | @cons _ u _ us' ru rr =>
    cases rr
    obtain rfl : u = Value.ref a := ru
    obtain ⟨hlen0, hsm, vs, kv, hd⟩ := dk_of I.hok ha
    have pr : ∃ bs, bs = [] ∧ PyProof.V.PairsRead s.heap kyP vs D bs := by
      clear hd h1 h2 h4 q ha hlen0
      induction dp generalizing vs with
      | nil => cases kv; exact ⟨_, rfl, .nil⟩
      | @cons p q l1 l2 hp ht ih =>
        cases kv with
        | @cons p1 q1 k1 k2 hk kt =>
          obtain ⟨bs, rfl, hr⟩ := ih _ kt
          obtain ⟨e1, e2, e3⟩ := hp
          obtain ⟨f1, f2⟩ := hk
          obtain ⟨as, rd⟩ := Dp.reads I _ _ _ e3 f2
          have ea := reads_nl rd e2
          subst ea
          obtain ⟨x1, x2⟩ := q1
          obtain ⟨y1, y2⟩ := q
          have f1 : p.1 = x1 := f1
          have e1 : y1 = kyP p.1 := e1
          subst f1 e1
          exact ⟨[], rfl, .cons rd hr⟩
    obtain ⟨bs, rfl, pr⟩ := pr
    have rd : Reads s.heap (.ref a) (.dict D) (a :: []) := PyProof.V.reads_dictOf (knd := mixKind X.prog X.w) (enc := kyP) (fun k key hk => by
      rcases keyIs_shape hk with ⟨i, t, rfl, rfl⟩ | ⟨x, t, rfl, rfl⟩
      · exact .int i t
      · exact .str x t) hd pr
    refine repr_of_reads' rd h2 (fun _ hm => ?_) hg (by omega) (fun _ _ e => e) (fun h' w tk hk => ?_) h1
    · have : sysModules = a := by simpa using hm
      rw [this] at hsm
      simp at hsm
    · exact ⟨V.str _, H, I.kept (t' := tk) hk, ⟨_, rfl⟩, q⟩
theorem bd_reprK : BD X (fun xs H Q => ∃ a kvs D, xs = [.ref a] ∧ H a = some (.dK kvs) ∧ Paired (fun (p : Key × V) (q : PyData × PyData) => q.1 = kyP p.1 ∧ nl q.2 = true ∧ Dp X.K H p.2 q.2) kvs D ∧ (PyData.dict D).shown.length ≤ sizeLine ∧ (PyData.dict D).showable = true ∧ (PyData.dict D).depth ≤ 40 ∧ Q (.str (PyData.dict D).shown) H) fReprK := fun F m H ds vs Qd Q r dn q k => by
  match ds, q with
  | [d], q =>
    obtain ⟨x, e, q⟩ := q
    obtain ⟨v, rfl, d1⟩ := dens1 dn
    unfold showK at e
    cases hd : dctOf m d with
    | none => rw [hd] at e; cases e
    | some kvs =>
      rw [hd] at e
      have e : (if goodK kvs = true ∧ wK kvs ≤ sizeLine ∧ (PyData.dict (toKv kvs)).depth ≤ 40 then some (PyData.dict (toKv kvs)).shown else none) = some x := e
      split at e
      · rename_i hh
        cases e
        obtain ⟨hgd, hw, hdp⟩ := hh
        obtain ⟨a, qs, rfl, rfl, hm, ha, dp⟩ := r.dct d1 hd
        refine ⟨a, qs, toKv kvs, rfl, ha, ?_, Nat.le_trans (kv_shown hgd) hw, kv_showable hgd, hdp, k _ H F m _ (Sub.refl F) r (by simp only [Den]) q⟩
        clear ha hm hd q d1 dn hw hdp k e
        induction dp with
        | nil => exact .nil
        | @cons p q l1 l2 hp ht ih =>
          simp only [goodK, List.all_cons, Bool.and_eq_true] at hgd
          obtain ⟨⟨⟨_, h2⟩, h3⟩, h4⟩ := hgd
          obtain ⟨e1, e2⟩ := hp
          exact .cons ⟨by show kyP p.1 = kyP q.1; rw [e1], h3, pyM_dp r 0 e2 (pyM_pure h2)⟩ (ih h4)
      · cases e
theorem dreprK {k : Nat} {p pos : Pos} {e : Expr} {we : WA} (hr : Rm true k X.A) (hg : Gl X "repr") (hm : X.mg "repr" = none) (ha : DA X [e] we) (he : starEach [e] X.env = (false, eval e X.env) :: starEach [] X.env := by rfl) : DE X (.Call (.Name "repr" p) [e] [] pos) (wCB fReprK we) :=
  dcb (call_reprK (hr.gd rfl) hr.units) bd_reprK hg hm PyProof.Rows.boot_repr ha (he := he)
end
@[simp ↓] theorem fReprK_ {d : D} {m : Mem} {Q : Po} : fReprK [d] m Q = Is (showK m d) (fun x => Q (.str x) m) .mk := by simp [fReprK, Is]
end DL

/-! D25: instances of own classes over data: attributes, methods, making. -/
namespace DL
open PySem PySem.Spec PyProof.Rows L2 NdefX

/-! ### promises at an address -/
structure FA (g : Bool) (P : Program) (w : World) (K : Frag) (mg : Str → Option Value) (base : Heap) (k : Nat) (f : Addr) (ks : List Str) (sp : SpD) : Prop where
  kp : PySem.W.keepIn K (.ref f) = true
  run : ∀ (A : Around) (outer : List Env) (s : Shared) (H : Hp) (us ws : List Value) (vs : List V) (Q : VK) (E : XK), Rm g k A → Env0 P w K mg base A outer s H → ws.length = ks.length → Vals vs (us ++ ws) → liftSp K sp vs H Q E →
      codeAny (model P w) A (.call (.ref f) ⟨us, ks.zip ws⟩) (CR (CX P w) outer P w H s Q E) s
section
variable {g : Bool} {P : Program} {w : World} {K : Frag} {mg : Str → Option Value} {base : Heap} {k : Nat} {x qual : Str} {params : Arguments} {body : List Stmt} {scope : Scope} {kws : List (Str × V)} {f : Addr} {fd : FuncData} {N ps ks : List Str} {sp sp' : SpD} {wb : WS}
theorem FA.fn (F : FA g P w K mg base k f ks sp) (hm : mg x = some (.ref f)) : Fn g P w K mg base k x ks sp := ⟨f, hm, F.kp, F.run⟩
theorem FA.mono {j : Nat} (F : FA g P w K mg base j f ks sp) (h : j ≤ k) : FA g P w K mg base k f ks sp := ⟨F.kp, fun A outer s H us ws vs Q E hr => F.run A outer s H us ws vs Q E (hr.mono h)⟩
theorem FA.imp (F : FA g P w K mg base k f ks sp) (h : ∀ ds m Q E, sp' ds m Q E → sp ds m Q E) : FA g P w K mg base k f ks sp' :=
  ⟨F.kp, fun A outer s H us ws vs Q E hr e0 hl r ⟨F0, m, ds, QD, ED, rr, dn, q, k1, k2⟩ => F.run A outer s H us ws vs Q E hr e0 hl r ⟨F0, m, ds, QD, ED, rr, dn, h _ _ _ _ q, k1, k2⟩⟩
theorem FA.less {g' : Bool} (F : FA g' P w K mg base k f ks sp) (h : g' = true → g = true) : FA g P w K mg base k f ks sp := ⟨F.kp, fun A outer s H us ws vs Q E hr => F.run A outer s H us ws vs Q E (hr.less h)⟩
theorem FA.plain (F : FunD K x qual params body scope [] kws f fd) (S : FnScope N ps scope) (hl : ∀ ds m Q E, sp ds m Q E → ds.length = ps.length) (der : Der g P w K mg base k N scope body wb)
    (spec : ∀ ds m Q E, sp ds m Q E → wb (Dend Q E) (startD N ds) m)
    (hb : ∀ (kV doc pm : Value) (an : Option Addr) (cdv ct : Value) (us : List Value), us.length = ps.length → bindArgs (PySem.W.fnOf x qual params body scope .none kV doc pm an cdv ct) ⟨us, []⟩ = pure (ps.zip us)) : FA g P w K mg base (k + 1) f [] sp := by
  refine ⟨F.kp, fun A outer s H us ws vs Q E hr e0 hw rv h => ?_⟩
  have ew : ws = [] := List.length_eq_zero_iff.mp hw
  subst ew
  rw [List.append_nil] at rv
  have hlen : us.length = ps.length := by
    obtain ⟨F0, m, ds, QD, ED, r, dn, h, _⟩ := h
    rw [← rv.length, ← dn.length]; exact hl _ _ _ _ h
  obtain ⟨oc, od, dV, kV, doc, pm, an, cdv, ct, osl, rfl, lk, hcd, hD, hK⟩ := F.ex
  rcases hD with ⟨_, rfl⟩ | ⟨e, _⟩
  · exact LamX.run_ofS lk hcd S hr.room e0 (.of_eq (hb kV doc pm an cdv ct us hlen)) rv (rv.length.trans hlen) fun hr' => body_rule der spec ⟨hr', hr.gd⟩ h
  · exact absurd rfl e
theorem FA.kw (F : FunD K x qual params body scope [] kws f fd) (S : FnScope N ps scope) (hl : ∀ ds m Q E, sp ds m Q E → ds.length = ps.length) (der : Der g P w K mg base k N scope body wb)
    (spec : ∀ ds m Q E, sp ds m Q E → wb (Dend Q E) (startD N ds) m) (n : Nat) (ks : List Str) (perm : List Nat)
    (hb : ∀ (kV doc pm : Value) (an : Option Addr) (cdv ct : Value) (us ws : List Value), us.length = n → ws.length = ks.length → bindArgs (PySem.W.fnOf x qual params body scope .none kV doc pm an cdv ct) ⟨us, ks.zip ws⟩ = pure (ps.zip (sel perm (us ++ ws)))) :
    FA g P w K mg base (k + 1) f ks (fun ds m Q E => ds.length = n + ks.length ∧ sp (sel perm ds) m Q E) := by
  refine ⟨F.kp, fun A outer s H us ws vs Q E hr e0 hw rv ⟨F0, m, ds, QD, ED, r, dn, ⟨hn, h⟩, kq, ke⟩ => ?_⟩
  have l1 := rv.length
  have l2 := dn.length
  have l3 := hl _ _ _ _ h
  rw [List.length_append] at l1
  have dn' := sel_dens dn perm
  obtain ⟨oc, od, dV, kV, doc, pm, an, cdv, ct, osl, rfl, lk, hcd, hD, hK⟩ := F.ex
  rcases hD with ⟨_, rfl⟩ | ⟨e, _⟩
  · exact LamX.run_ofS lk hcd S hr.room e0 (.of_eq (hb kV doc pm an cdv ct us ws (by omega) hw)) (sel_vals rv perm) (by rw [← dn'.length]; exact l3) fun hr' => body_rule der spec ⟨hr', hr.gd⟩ ⟨F0, m, _, QD, ED, r, dn', h, kq, ke⟩
  · exact absurd rfl e
/-- def m(self, *v) -/
theorem FA.star {ps1 pv : Str} (F : FunD K x qual params body scope [] kws f fd) (S : FnScope N ([ps1] ++ [pv]) scope) (der : Der g P w K mg base k N scope body wb)
    (spec : ∀ ds m Q E, sp ds m Q E → wb (Dend Q E) (startD N ds) m)
    (hb : ∀ (kV doc pm : Value) (an : Option Addr) (cdv ct : Value) (u : Value) (rest : List Value), bindArgs (PySem.W.fnOf x qual params body scope .none kV doc pm an cdv ct) ⟨u :: rest, []⟩ = (newTuple rest >>= fun t => pure [(ps1, u), (pv, t)])) :
    FA g P w K mg base (k + 1) f [] (fun ds m Q E => ∃ d rest, ds = d :: rest ∧ rest.length ≤ sizeLine ∧ sp [d, .tup rest] m Q E) := by
  refine ⟨F.kp, fun A outer s H us ws vs Q E hr e0 hl rv ⟨F0, m, ds, QD, ED, r, dn, ⟨d, rest, eds, hsz, h⟩, kq, ke⟩ => ?_⟩
  have ew : ws = [] := List.length_eq_zero_iff.mp hl
  subst ew
  rw [List.append_nil] at rv
  obtain ⟨oc, od, dV, kV, doc, pm, an, cdv, ct, osl, rfl, lk, hcd, hD, _⟩ := F.ex
  subst eds
  have hdv : dV = .none := by
    rcases hD with ⟨_, e⟩ | ⟨e, _⟩
    · exact e
    · exact absurd rfl e
  subst hdv
  simp only [Dens] at dn
  obtain ⟨v, vr, rfl, dv, dr⟩ := dn
  cases rv with
  | @cons _ u _ u2 ru r2 =>
    have lr := dr.length
    have hfree : H s.heap.objs.size = Option.none := e0.hok.fresh (Nat.le_refl _)
    have hl2 : u2.length ≤ sizeLine := by rw [← r2.length]; omega
    have hz2 : vr.length ≤ sizeLine := by omega
    refine StX.run_bnd lk hcd S hr.room e0 (G := fun xs H2 => ∃ p, H p = Option.none ∧ xs = [v] ++ [V.ref p] ∧ H2 = upd H p (.tup vr)) (fun A' Ex Q' hh => ?_) fun s2 H2 xs ⟨p, hp, ex, eH⟩ hr' => ?_
    · show wpAny (model P w) A' (bindArgs _ ⟨u :: u2, []⟩) Q' Ex s
      rw [hb]
      refine wpAny_bind (wpAny_newTuple (wpAny_pure ?_) hl2)
      have new : ObjOk P w (upd H s.heap.objs.size (.tup vr)) (s.heap.push ({ cls := .type "tuple", data := .seq u2.toArray } : Obj)) s.heap.objs.size (.tup vr) := ⟨hz2, u2, r2, ⟨_, Heap.get?_push_size _ rfl, rfl, _, rfl⟩⟩
      have un := StX.un_laid (fs := frs outer) (s := s) (o := ({ cls := .type "tuple", data := .seq u2.toArray } : Obj)) (u := .tup vr) hfree
      exact hh _ _ ([v] ++ [V.ref s.heap.objs.size]) [u, Value.ref s.heap.objs.size] (StX.env0_laid e0 new) un rfl (fun e s' => StX.cxUp outer s H _ _ E e s' un (fun b o q => Heap.get?_push_of_some _ q) rfl) (.cons ru (.cons rfl .nil)) rfl ⟨_, hfree, rfl, rfl⟩
    · subst ex eH
      obtain ⟨r', s'⟩ := r.frozen (o := .tup vr) hp
      refine body_rule der spec ⟨hr', hr.gd⟩ ⟨_, m, _, QD, ED, r', ?_, h, fun v H' F' m' d s => kq v H' F' m' d (s'.trans s), fun cls dd H' F' m' y s => ke cls dd H' F' m' y (s'.trans s)⟩
      refine Dens.cons (dv.mono s') (Dens.one ?_)
      simp only [Den]
      exact ⟨p, vr, rfl, .inl (.inl upd_same), dr.mono s'⟩
end
/-! ### calls with a first argument -/
section
variable {M : Model} {A : Around} {E : Value → Shared → Prop} {s : Shared}
theorem callWith_H {K : Frag} {f : Value} {first : List Value} {pos : Pos} {args : List (Bool × Sem Value)} {keywords : List (Option Str × Sem Value)} {Q : Value → Shared → Prop} (hk : PySem.W.keepIn K f = true) (hl : lone args = false) (hall : keywords.all (·.1.isSome) = true)
    (h : wpAny M A (spliced args) (fun vs s₁ => wpAny M A (evalAll (keywords.map (·.2))) (fun ks s₂ => K.In s₂.heap ∧ wpAny M A (call f (first ++ vs) ((keywords.filterMap (·.1)).zip ks)) Q E s₂) E s₁) E s) : wpAny M A (callWith pos f first args keywords) Q E s := by
  have h' := evalArgs_g (f := f) (Q := fun a s₁ => K.In s₁.heap ∧ wpAny M A (call f (first ++ a.pos) a.kw) Q E s₁) hl hall h
  cases hst : (args.any (·.1) || keywords.any (·.1.isNone)) with
  | false => exact PySem.W.callWith_of hst (PySem.W.keeps_K hk) h'
  | true =>
    unfold callWith
    refine wpAny_bind (wpAny_holding (wpAny_mono h' (fun a s₁ h₁ => wpAny_bind (wpAny_standAt ?_)) fun _ _ x => x))
    obtain ⟨k, hk', L⟩ := PySem.W.keeps_K (M := M) hk _ h₁.1
    simp only [hst]
    refine wpAny_bind (L.here ?_)
    have tail : ∀ {t : Sem Value}, wpAny M A t Q E s₁ → wpAny M A (t >>= fun r => holding [r] point >>= fun _ => pure r) Q E s₁ :=
      fun ht => wpAny_bind (wpAny_mono ht (fun r s₂ hr => wpAny_bind (wpAny_holding (wpAny_point (wpAny_pure hr)))) fun _ _ x => x)
    have marked (mk : Value) : wpAny M A (callMarked mk f (first ++ a.pos) a.kw) Q E s₁ := by unfold callMarked; exact Calls.wpAny_keep h₁.2
    rcases hk' with rfl | rfl | rfl <;> dsimp only <;> first | exact tail (marked _) | exact tail (wpAny_operating h₁.2)
end
section
variable {X : Cx} {g : Bool} {k n : Nat} {f : Addr} {ks : List Str} {sp : SpD}
/-- the callee runs -/
theorem FA.go {pins : List (Addr × Obj)} {σ : L2.St} {H : Hp} {s : Shared} {Q : VK} {us ws : List Value} {vs : List V} (F : FA g X.prog X.w X.K X.mg X.base k f ks sp) (hr : Rm g k X.A) (I : Inv X pins σ H s) (hw : ws.length = ks.length) (rv : Vals vs (us ++ ws)) (h : liftSp X.K sp vs H Q (Emax X σ)) :
    wpAny (model X.prog X.w) X.A (call (.ref f) us (ks.zip ws)) (EP X pins σ Q) X.xe s := by
  refine wpAny_call (codeAny_mono (F.run X.A X.stack s H us ws _ Q _ hr I.env0 hw rv h) fun rr s' hq => ?_)
  cases rr with
  | error e => exact passes_max σ pins H s e s' I hq
  | ok fl =>
    cases fl with
    | ret u => exact I.after hq
    | next => exact False.elim hq
    | brk => exact False.elim hq
    | cont => exact False.elim hq
/-! ### cells of instances -/
theorem DenP.look {K : Frag} {F : Hp} {fs : List (Str × D)} {gs : List (Str × V)} (h : DenP K F fs gs) {f : Str} {d : D} (e : fs.lookup f = some d) : ∃ v, gs.lookup f = some v ∧ Den K F d v := DenP.lookup h e
theorem Rel.ins {K : Frag} {F : Hp} {m : Mem} {H : Hp} (r : Rel K F m H) {p : Addr} {C : Str} {fs : List (Str × D)} (e : m p = some (.ins C fs)) : ∃ dx gs, H p = some (.ins (ga K C) dx gs) ∧ DenP K F fs gs := by
  obtain ⟨_, q⟩ := r.me p _ e
  simpa only [CellOk] using q
/-- o.m(es, kws), o an instance of C -/
def wMeth (C m : Str) (sp : SpD) (n : Nat) (wo : WE) (wa wk : WA) : WE := fun env m0 Q E => wo env m0 (fun d m1 => ∃ p fs, d = .ref p ∧ m1 p = some (.ins C fs) ∧ fs.lookup m = none ∧ wa env m1 (fun ds m2 => wk env m2 (fun es m3 => es.length = n ∧ sp (.ref p :: (ds ++ es)) m3 Q E) E) E) E
theorem dmeth {C m : Str} {o : Expr} {wo : WE} {p apos pos : Pos} {es : List Expr} {kws : List Keyword} {wa wk : WA} {pl : Sem Bool} (c : Cls X.K (ga X.K C)) (hm : Meth X.K (ga X.K C) m f) (F : FA g X.prog X.w X.K X.mg X.base k f ks sp) (hr : Rm g k X.A) (ho : DE X o wo) (ha : DA X es wa) (hk : DK X kws wk)
    (hl : lone (backTo pos (starEach es X.env)) = false := by rfl) (hall : (backToKw pos (keywordEach kws X.env)).all (·.1.isSome) = true := by rfl)
    (hks : (backToKw pos (keywordEach kws X.env)).filterMap (·.1) = ks := by rfl) (hn : ks.length = n := by rfl)
    (ht : eval (.Call (.Attribute o m apos) es kws pos) X.env = (do
      let ov ← eval o X.env
      standAt apos.atName
      let (f, first) ← holding [ov] (getMethod ov m pl)
      callWith pos f first (backTo pos (starEach es X.env)) (backToKw pos (keywordEach kws X.env))) := by rfl) : DE X (.Call (.Attribute o m apos) es kws pos) (wMeth C m sp n wo wa wk) := by
  subst hn
  refine ⟨fun pins s σ H Q I ⟨F0, m0, env, Qd, xc, r, en, a, q, kQ⟩ => ?_⟩
  let R0 : V → Hp → Prop := fun v H1 => ∃ F1 m1 p fs, v = .ref p ∧ Sub F0 F1 ∧ Rel X.K F1 m1 H1 ∧ EnvDen X.K F1 σ env ∧ m1 p = some (.ins C fs) ∧ fs.lookup m = none ∧ wa env m1 (fun ds m2 => wk env m2 (fun es m3 => es.length = ks.length ∧ sp (.ref p :: (ds ++ es)) m3 Qd (fun x m' => xc x env m')) (fun x m' => xc x env m')) (fun x m' => xc x env m')
  have hO : tW X wo σ H R0 := tW.sub r en a q fun v1 H1 F1 m1 d1 s1 r1 en1 dn1 ⟨p, fs, e1, e2, e3, q1⟩ => by
    subst e1
    simp only [Den] at dn1
    exact ⟨F1, m1, p, fs, dn1, s1, r1, en1, e2, e3, q1⟩
  refine PySem.W.methodCall_KW (pl := pl) (thn (ho.run pins s σ H R0 I hO) fun u s1 ⟨v, H1, I1, rv, F1, m1, p, fs, ev, s01, r1, en1, e2, e3, q1⟩ => ?_) ht
  subst ev
  obtain rfl : u = Value.ref p := rv
  obtain ⟨dx, gs, hp, dp⟩ := r1.ins e2
  refine getmeth_ok I1 hp c hm (DenP.lookup_none dp e3) ?_
  refine callWith_H (first := [.ref p]) hm.kp hl hall ?_
  let R1 : List V → Hp → Prop := fun vs H1 => ∃ F2 m2 ds, Sub F1 F2 ∧ Rel X.K F2 m2 H1 ∧ EnvDen X.K F2 σ env ∧ Dens X.K F2 ds vs ∧ wk env m2 (fun es m3 => es.length = ks.length ∧ sp (.ref p :: (ds ++ es)) m3 Qd (fun x m' => xc x env m')) (fun x m' => xc x env m')
  have hA : tWA X wa σ H1 R1 := tWA.sub r1 en1 (a.mono s01) q1 fun vs H2 F2 m2 ds s2 r2 en2 dn2 q2 => ⟨F2, m2, ds, s2, r2, en2, dn2, q2⟩
  refine thn (ha.run pos pins s1 σ H1 R1 I1 hA) fun us s2 ⟨vs, H2, I2, rv2, F2, m2, ds, u2, r2, en2, dn2, q2⟩ => ?_
  let R2 : List V → Hp → Prop := fun zs H3 => ∃ F3 m3 es, Sub F2 F3 ∧ Rel X.K F3 m3 H3 ∧ EnvDen X.K F3 σ env ∧ Dens X.K F3 es zs ∧ es.length = ks.length ∧ sp (.ref p :: (ds ++ es)) m3 Qd (fun x m' => xc x env m')
  have hK : tWA X wk σ H2 R2 := tWA.sub r2 en2 (a.mono (s01.trans u2)) q2 fun zs H3 F3 m3 es s3 r3 en3 dn3 q3 => ⟨F3, m3, es, s3, r3, en3, dn3, q3.1, q3.2⟩
  refine thn (hk.run pos pins s2 σ H2 R2 I2 hK) fun ws s3 ⟨zs, H3, I3, rz, F3, m3, es', u3, r3, en3, dn3, hlen, q3⟩ => ?_
  refine ⟨I3.kIn, ?_⟩
  rw [hks]
  have ss := (s01.trans u2).trans u3
  have sp' := lift_call (vs := .ref p :: (vs ++ zs)) r3 en3 (a.mono ss) (Dens.cons (by simp only [Den]) ((dn2.mono u3).append dn3)) q3 (Q := Q) (fun v H' F' m' d s => kQ v H' F' m' d (ss.trans s))
  exact F.go (us := .ref p :: us) (vs := .ref p :: (vs ++ zs)) hr I3 (by rw [← rz.length, ← dn3.length]; exact hlen) (.cons rfl (rv2.append rz)) sp'
/-- e.f, an attribute of the instance; cs: the classes -/
def wFld (cs : List Str) (f : Str) (we : WE) : WE := fun env m Q E => we env m (fun d m1 => ∃ p C fs v, d = .ref p ∧ m1 p = some (.ins C fs) ∧ C ∈ cs ∧ fs.lookup f = some v ∧ Q v m1) E
theorem dfld {cs : List Str} {f : Str} {e : Expr} {we : WE} {pos : Pos} (hc : ∀ C ∈ cs, Cls X.K (ga X.K C) ∧ NoAttr X.K (ga X.K C) f) (he : DE X e we) (hb : attributeBase e f X.env (eval e X.env) = eval e X.env := by rfl) : DE X (.Attribute e f pos) (wFld cs f we) :=
  wkE (pe_fld he hb) fun σ H Q ⟨F, m, env, Qd, xc, r, en, a, q, k⟩ => tW.sub r en a q fun v1 H1 F1 m1 d1 s1 r1 en1 dn1 ⟨p, C, fs, v, e1, e2, e3, e4, q1⟩ => by
    subst e1
    simp only [Den] at dn1
    subst dn1
    obtain ⟨dx, gs, hp, dp⟩ := r1.ins e2
    obtain ⟨u, hu, du⟩ := DenP.lookup dp e4
    exact ⟨p, _, dx, gs, u, rfl, hp, (hc C e3).1, (hc C e3).2, hu, k u H1 F1 m1 v s1 r1 du q1⟩
/-- o.f = e -/
def putFD (f : Str) (d : D) : List (Str × D) → List (Str × D)
  | [] => [(f, d)]
  | (g, x) :: r => if g = f then (g, d) :: r else (g, x) :: putFD f d r
theorem denP_putF {K : Frag} {F : Hp} {f : Str} {d : D} {v : V} (dn : Den K F d v) : ∀ {fs : List (Str × D)} {gs : List (Str × V)}, DenP K F fs gs → DenP K F (putFD f d fs) (putF f v gs)
  | _, _, .nil => .cons ⟨rfl, dn⟩ .nil
  | (a, x) :: _, (b, y) :: _, .cons h t => by
    obtain ⟨h1, h2⟩ := h
    have h1 : a = b := h1
    subst h1
    show DenP K F (if a = f then (a, d) :: _ else (a, x) :: _) (if a = f then (a, v) :: _ else (a, y) :: _)
    split
    · exact .cons ⟨rfl, dn⟩ t
    · exact .cons ⟨rfl, h2⟩ (denP_putF dn t)
def sFldS (cs : List Str) (f : Str) (wo wv : WE) : WS := fun D env m => wv env m (fun dv m1 => wo env m1 (fun d m2 => ∃ p C fs, d = .ref p ∧ m2 p = some (.ins C fs) ∧ C ∈ cs ∧ fs.length < 1000 ∧ D.nx env (m2.put p (.ins C (putFD f dv fs)))) (fun x m' => D.xc x env m')) (fun x m' => D.xc x env m')
theorem dsfld {cs : List Str} {f : Str} {o v : Expr} {wo wv : WE} {pos pos' : Pos} (hc : ∀ C ∈ cs, Cls X.K (ga X.K C) ∧ NoAttr X.K (ga X.K C) f) (ho : DE X o wo) (hv : DE X v wv) (hs : swapsWith v (some (.Attribute o f pos')) pos.line X.env = pure false := by rfl) :
    DS X (.Assign [.Attribute o f pos'] v pos) (sFldS cs f wo wv) := wkS (ps_fld ho hv hs) fun D σ H ⟨F, m, env, E, r, en, a, q, n, b, c, t⟩ =>
  tW.sub r en a q fun v1 H1 F1 m1 d1 s1 r1 en1 dn1 q1 => tW.sub r1 en1 (a.mono s1) q1 fun v2 H2 F2 m2 d2 s2 r2 en2 dn2 ⟨p, C, fs, e1, e2, e3, e4, q2⟩ => by
    subst e1
    simp only [Den] at dn2
    subst dn2
    obtain ⟨dx, gs, hp, dp⟩ := r2.ins e2
    refine ⟨p, _, dx, gs, rfl, hp, (hc C e3).1, (hc C e3).2, by rw [← dp.length]; exact e4, ?_⟩
    refine n _ _ F2 _ _ (s1.trans s2) (r2.store e2 ?_) en2 q2
    simp only [CellOk]
    exact ⟨dx, _, upd_same, denP_putF (dn1.mono s2) dp⟩
end
end DL

/-! D26: own __len__, __contains__; properties, constants, making. -/
namespace DL
open PySem PySem.Spec PyProof.Rows L2 NdefX
section
variable {X : Cx} {k : Nat} {f C : Addr} {sp : SpD}
/-- within a built-in: a callee that lets nothing out -/
theorem FA.quiet {pins : List (Addr × Obj)} {σ : L2.St} {H : Hp} {s : Shared} {Q : VK} {us : List Value} {vs : List V} {E' : Value → Shared → Prop} {A : Around} (F : FA false X.prog X.w X.K X.mg X.base k f [] sp) (hr : Room k A) (I : Inv X pins σ H s) (e0 : Env0 X.prog X.w X.K X.mg X.base A X.stack s H) (rv : Vals vs us)
    (h : liftSp X.K sp vs H Q (fun _ _ _ => False)) : wpAny (model X.prog X.w) A (call (.ref f) us) (EP X pins σ Q) E' s := by
  refine wpAny_call (codeAny_mono (F.run A X.stack s H us [] vs Q _ ⟨hr, nofun⟩ e0 rfl (by rw [List.append_nil]; exact rv) h) fun rr s' hq => ?_)
  cases rr with
  | error e =>
    obtain ⟨_, _, _, _, _, _, _, _, _, _, _, _, z⟩ := hq
    exact z.elim
  | ok fl =>
    cases fl with
    | ret u => exact I.after hq
    | next => exact False.elim hq
    | brk => exact False.elim hq
    | cont => exact False.elim hq
/-- o.__name__(args), looked up on the type -/
theorem special_own {K : Frag} {M : Model} {A : Around} {E : Value → Shared → Prop} {s : Shared} {a : Addr} {ox : Obj} {od : Option Obj} {name : Str} {args : List Value} {Q : Option Value → Shared → Prop} (KI : K.In s.heap) (I : PySem.W.InstAt s.heap a ox C od) (m : Meth K C name f)
    (hc : wpAny M A (call (.ref f) (.ref a :: args)) (fun v s' => Q (some v) s') E s) : wpAny M A (callSpecial? (.ref a) name args) Q E s := by
  unfold callSpecial? specialOf
  refine wpAny_bind (wpAny_bind (I.type.here ((PySem.W.looks_findIn KI m.at_).here ?_)))
  refine wpAny_holding ?_
  refine wpAny_bind ((PySem.W.bind_fn KI _ (beq_iff_eq.mp m.fn)).here ?_)
  exact wpAny_bind (wpAny_mono hc (fun v s' z => wpAny_pure z) fun _ _ z => z)
theorem special_ownN {K : Frag} {M : Model} {A : Around} {E : Value → Shared → Prop} {s : Shared} {a : Addr} {ox : Obj} {od : Option Obj} {name : Str} {args : List Value} {refuse : Sem Value} {Q : Option Value → Shared → Prop} (KI : K.In s.heap) (I : PySem.W.InstAt s.heap a ox C od) (m : Meth K C name f)
    (hc : wpAny M A (call (.ref f) (.ref a :: args)) (fun v s' => Q (some v) s') E s) : wpAny M A (callSpecialUnlessNone? (.ref a) name args refuse) Q E s := by
  unfold callSpecialUnlessNone? specialOf
  refine wpAny_bind (wpAny_bind (I.type.here ((PySem.W.looks_findIn KI m.at_).here ?_)))
  refine wpAny_holding ?_
  refine wpAny_bind ((PySem.W.bind_fn KI _ (beq_iff_eq.mp m.fn)).here ?_)
  show wpAny _ _ (if (Value.ref f == Value.none) = true then _ else _) _ _ _
  rw [if_neg (by simp)]
  exact wpAny_bind (wpAny_mono hc (fun v s' z => wpAny_pure z) fun _ _ z => z)
/-- len(o) -/
theorem call_lenI (m : Meth X.K C "__len__" f) (F : FA false X.prog X.w X.K X.mg X.base k f [] sp) (hr : Room (k + 1) X.A) :
    CallR X (.builtin "len") (fun xs H Q => ∃ a dx gs, xs = [.ref a] ∧ H a = some (.ins C dx gs) ∧ liftSp X.K sp [.ref a] H (fun v H' => ∃ n : Nat, v = .int n ∧ n ≤ 1000000 ∧ Q (.int n) H') (fun _ _ _ => False)) := by
  intro pins s σ H xs us Q I r ⟨a, dx, gs, e, ha, h⟩
  subst e
  cases r with
  | @cons _ u _ us' ru rr =>
    cases rr
    obtain rfl : u = Value.ref a := ru
    obtain ⟨mA, O, _, _, _, _⟩ := ins_get I.hok ha
    obtain ⟨od, J, _⟩ := O.look
    refine Calls.call_function_entry kind_len plain_len entry_len (args_len1 _) ?_
    unfold Builtin.«len»
    refine wpAny_bind (m := oneArg "len" _) (wpAny_pure ?_)
    refine wpAny_bind (m := callSpecial? (.ref a) (Str.ofString "__len__")) (special_own I.kIn J m ?_)
    refine wpAny_mono (F.quiet (A := X.A.in1) (us := [.ref a]) (vs := [.ref a]) hr.in1 I I.env0.in1 (.cons rfl .nil) h) (fun v s' ⟨w', H', I', rv, n, e, hn, q⟩ => ?_) fun _ _ z => z
    subst e
    obtain ⟨t, rfl⟩ := (show ∃ t, v = Value.int n t from rv)
    refine wpAny_bind (wpAny_holding (wpAny_pure ?_))
    refine wpAny_bind (wpAny_letGo ?_)
    show wpAny _ _ (if (n : Int) < 0 then _ else _) _ _ _
    rw [if_neg (by omega)]
    show wpAny _ _ (if (n : Int) ≥ 2 ^ 63 then _ else _) _ _ _
    rw [if_neg (by omega)]
    exact wpAny_bind (wpAny_mkInt (wpAny_pure ⟨_, rfl, ⟨.int n, H', I'.tok _, ⟨_, rfl⟩, q⟩⟩))
def wLenI (C : Str) (sp : SpD) (we : WE) : WE := fun env m Q E => we env m (fun d m1 => ∃ p fs, d = .ref p ∧ m1 p = some (.ins C fs) ∧ sp [.ref p] m1 (fun d2 m2 => ∃ n : Nat, d2 = .int n ∧ n ≤ 1000000 ∧ Q (.int n) m2) (fun _ _ => False)) E
theorem lift_quiet {F : Hp} {m : Mem} {H : Hp} {Qd : Po} {Q : VK} {vs : List V} {ds : List D} (r : Rel X.K F m H) (dn : Dens X.K F ds vs) (h : sp ds m Qd (fun _ _ => False)) (k : ∀ v H' F' m' d, Sub F F' → Rel X.K F' m' H' → Den X.K F' d v → Qd d m' → Q v H') :
    liftSp X.K sp vs H Q (fun _ _ _ => False) := ⟨F, m, ds, Qd, _, r, dn, h, k, fun cls dd H' F' m' x s r' xa hx => hx⟩
theorem dlenI {C : Str} {p pos : Pos} {e : Expr} {we : WE} (m : Meth X.K (ga X.K C) "__len__" f) (F : FA false X.prog X.w X.K X.mg X.base k f [] sp) (hr : Room (k + 1) X.A) (hg : Gl X "len") (hm : X.mg "len" = none) (he : DE X e we) (hs : starEach [e] X.env = (false, eval e X.env) :: starEach [] X.env := by rfl) :
    DE X (.Call (.Name "len" p) [e] [] pos) (wLenI C sp we) :=
  wkE (pe_callB (call_lenI m F hr) hg hm boot_len (dacons he danil (hs := hs)) (he := hs)) fun σ H Q ⟨F0, m0, env, Qd, xc, r, en, a, q, k⟩ =>
    tWA.sub r en a (show wCons we wNil env m0 (fun ds m1 => ∃ d, ds = [d] ∧ ∃ p fs, d = .ref p ∧ m1 p = some (.ins C fs) ∧ sp [.ref p] m1 (fun d2 m2 => ∃ n : Nat, d2 = .int n ∧ n ≤ 1000000 ∧ Qd (.int n) m2) (fun _ _ => False)) (fun x m' => xc x env m') from by
      have : ∀ {P1 P2 : Po} {E : Xo}, we env m0 P1 E → (P1 = P2) → we env m0 P2 E := fun h e => e ▸ h
      refine this q ?_
      funext d m1
      simp [wNil]) fun vs H1 F1 m1 ds s1 r1 en1 dn1 ⟨d, e0, p, fs, e1, e2, q1⟩ => by
      subst e0 e1
      obtain ⟨v, rfl, dv⟩ := dens1 dn1
      have dv0 := dv
      simp only [Den] at dv
      subst dv
      obtain ⟨dx, gs, hp, dp⟩ := r1.ins e2
      refine ⟨p, dx, gs, rfl, hp, lift_quiet r1 (Dens.one dv0) q1 fun v H' F' m' d s r' dn ⟨n, e3, hn, q2⟩ => ?_⟩
      subst e3
      simp only [Den] at dn
      exact ⟨n, dn, hn, k _ H' F' m' (.int n) (s1.trans s) r' (by simp only [Den]) q2⟩
/-- x in o -/
theorem op_inI (m : Meth X.K C "__contains__" f) (F : FA false X.prog X.w X.K X.mg X.base k f [] sp) (hr : Room k X.A) :
    OpR X (compareOp .In) (fun x y H Q => ∃ a dx gs, y = .ref a ∧ H a = some (.ins C dx gs) ∧ liftSp X.K sp [.ref a, x] H (fun v H' => ∃ b : Bool, v = .bl b ∧ Q (.bl b) H') (fun _ _ _ => False)) := by
  intro pins s σ H x y v u Q I rx ry ⟨a, dx, gs, e, ha, h⟩
  subst e
  obtain rfl : u = Value.ref a := ry
  obtain ⟨mA, O, _, _, _, _⟩ := ins_get I.hok ha
  obtain ⟨od, J, _⟩ := O.look
  show wpAny _ _ (contains (.ref a) v >>= fun r => pure (Value.bool r)) _ _ s
  unfold contains
  refine wpAny_bind (wpAny_holding ?_)
  show wpAny _ _ (specialOf (.ref a) "__contains__" >>= _) _ _ s
  unfold specialOf
  refine wpAny_bind (wpAny_bind (J.type.here ((PySem.W.looks_findIn I.kIn m.at_).here ?_)))
  show wpAny _ _ (if (some (Value.ref f) == some Value.none) = true then _ else _) _ _ s
  rw [if_neg (by simp)]
  refine wpAny_bind (special_ownN I.kIn J m ?_)
  refine wpAny_mono (F.quiet (A := X.A) (us := [.ref a, v]) (vs := [.ref a, x]) hr I I.env0 (.cons rfl (.cons rx .nil)) h) (fun z s' ⟨w', H', I', rv, b, e, q⟩ => ?_) fun _ _ z => z
  subst e
  obtain rfl : z = Value.bool b := rv
  exact wpAny_pure (wpAny_pure ⟨.bl b, H', I', rfl, q⟩)
def inID (C : Str) (sp : SpD) : WO := fun x y m Q _ => ∃ p fs, y = .ref p ∧ m p = some (.ins C fs) ∧ sp [.ref p, x] m (fun d2 m2 => ∃ b : Bool, d2 = .bl b ∧ Q (.bl b) m2) (fun _ _ => False)
theorem cinI {C : Str} (m : Meth X.K (ga X.K C) "__contains__" f) (F : FA false X.prog X.w X.K X.mg X.base k f [] sp) (hr : Room k X.A) : CmpD X .In (inID C sp) := ⟨_, op_inI m F hr, fun F0 m0 H x y v u Qd E Q r d1 d2 ⟨p, fs, e1, e2, q1⟩ kk => by
  subst e1
  have d20 := d2
  simp only [Den] at d2
  subst d2
  obtain ⟨dx, gs, hp, dp⟩ := r.ins e2
  refine ⟨p, dx, gs, rfl, hp, lift_quiet r (Dens.cons d20 (Dens.one d1)) q1 fun v H' F' m' d s r' dn ⟨b, e3, q2⟩ => ?_⟩
  subst e3
  simp only [Den] at dn
  exact ⟨b, dn, kk _ H' F' m' (.bl b) s r' (by simp only [Den]) q2⟩⟩
theorem dinI {C : Str} {a b : Expr} {pos : Pos} {wa wb : WE} (m : Meth X.K (ga X.K C) "__contains__" f) (F : FA false X.prog X.w X.K X.mg X.base k f [] sp) (hr : Room k X.A) (ha : DE X a wa) (hb : DE X b wb) (hm : behindInMarks .In b = false := by rfl) :
    DE X (.Compare a [.In] [b] pos) (wBin (inID C sp) wa wb) := dcmpC (cinI m F hr) ha hb hm
/-- e.f, a property; fd its getter -/
def wProp (C : Str) (sp : SpD) (we : WE) : WE := fun env m Q E => we env m (fun d m1 => ∃ p fs, d = .ref p ∧ m1 p = some (.ins C fs) ∧ sp [.ref p] m1 Q (fun _ _ => False)) E
theorem dprop {C nm : Str} {pa gf : Addr} {fd : FuncData} {e : Expr} {we : WE} {pos : Pos} {ps : List Str} (c : Cls X.K (ga X.K C)) (hp : PropOf X.K (ga X.K C) nm pa gf) (F : FnOk X.prog X.w X.K X.mg X.base (CX X.prog X.w) k gf fd ps (liftSp X.K sp)) (hr : Room (k + 1) X.A) (hb : Binds X.K fd ps [])
    (he : DE X e we) (hab : attributeBase e nm X.env (eval e X.env) = eval e X.env := by rfl) : DE X (.Attribute e nm pos) (wProp C sp we) :=
  wkE (pe_prop (E := fun _ _ _ => False) he c hp F hr hb .nil (fun _ _ _ _ _ _ _ z => by
    obtain ⟨_, _, _, _, _, _, _, _, _, _, _, _, z⟩ := z
    exact z.elim) hab) fun σ H Q ⟨F0, m0, env, Qd, xc, r, en, a, q, k⟩ => tW.sub r en a q fun v1 H1 F1 m1 d1 s1 r1 en1 dn1 ⟨p, fs, e1, e2, q1⟩ => by
    subst e1
    have d10 := dn1
    simp only [Den] at dn1
    subst dn1
    obtain ⟨dx, gs, hp, dp⟩ := r1.ins e2
    exact ⟨p, dx, gs, rfl, hp, lift_quiet r1 (Dens.one d10) q1 fun v H' F' m' d s => k v H' F' m' d (s1.trans s)⟩
/-- e.f, a constant of the class -/
def wCon (cs : List Str) (f : Str) (v : D) (we : WE) : WE := fun env m Q E => we env m (fun d m1 => ∃ p C fs, d = .ref p ∧ m1 p = some (.ins C fs) ∧ C ∈ cs ∧ fs.lookup f = none ∧ Q v m1) E
theorem dcon {cs : List Str} {nm : Str} {v : D} {e : Expr} {we : WE} {pos : Pos} (hc : ∀ C ∈ cs, Cls X.K (ga X.K C) ∧ ∃ vv u, Con X.K (ga X.K C) nm vv u ∧ ∀ F, Den X.K F v vv) (he : DE X e we) (hb : attributeBase e nm X.env (eval e X.env) = eval e X.env := by rfl) : DE X (.Attribute e nm pos) (wCon cs nm v we) :=
  wkE (pe_con he hb) fun σ H Q ⟨F, m, env, Qd, xc, r, en, a, q, k⟩ => tW.sub r en a q fun v1 H1 F1 m1 d1 s1 r1 en1 dn1 ⟨p, C, fs, e1, e2, e3, e4, q1⟩ => by
    subst e1
    simp only [Den] at dn1
    subst dn1
    obtain ⟨dx, gs, hp, dp⟩ := r1.ins e2
    obtain ⟨c, vv, u, cc, dv⟩ := hc C e3
    exact ⟨p, _, dx, gs, vv, u, rfl, hp, c, cc, DenP.lookup_none dp e4, k vv H1 F1 m1 v s1 r1 (dv F1) q1⟩
/-- C(es): a new instance, then its __init__ -/
def wMake (C : Str) (sp : SpD) (wa : WA) : WE := fun env m Q E => wa env m (fun ds m1 => ∀ p, m1 p = none → sp (.ref p :: ds) (m1.put p (.ins C [])) (fun d m2 => d = .non ∧ Q (.ref p) m2) E) E
theorem Rel.make {K : Frag} {F : Hp} {m : Mem} {H : Hp} (r : Rel K F m H) {C : Str} {x dx : Addr} (hx : H x = none) (hdx : H dx = none) (hne : dx ≠ x) : Rel K F (m.put x (.ins C [])) (upd (upd H dx (.own x)) x (.ins (ga K C) dx [])) := by
  obtain ⟨fx, mx⟩ := r.free hx
  obtain ⟨fd, md⟩ := r.free hdx
  have r1 : Rel K F m (upd H dx (.own x)) := by
    refine ⟨fun b u e => ?_, fun b c e => ?_⟩
    · rw [upd_ne (fun z => by rw [z, fd] at e; cases e)]; exact r.fz b u e
    · obtain ⟨g, q⟩ := r.me b c e
      exact ⟨g, q.to (Sub.refl _) (upd_ne (fun z => by rw [z, md] at e; cases e))⟩
  refine r1.fresh (by rw [upd_ne (Ne.symm hne)]; exact hx) ?_
  simp only [CellOk]
  exact ⟨dx, [], upd_same, .nil⟩
theorem dmake {g : Bool} {C : Str} {p pos : Pos} {es : List Expr} {wa : WA} (M : Mk X.K (ga X.K C) f) (F : FA g X.prog X.w X.K X.mg X.base k f [] sp) (hr : Rm g (k + 1) X.A) (hg : Gl X C) (hm : X.mg C = some (.ref (ga X.K C))) (ha : DA X es wa) (hdb : (C == ("__debug__" : Str)) = false := by decide)
    (hl : lone (backTo pos (starEach es X.env)) = false := by rfl) : DE X (.Call (.Name C p) es [] pos) (wMake C sp wa) := by
  refine ⟨fun pins s σ H Q I ⟨F0, m0, env, Qd, xc, r, en, a, q, kQ⟩ => ?_⟩
  refine wpAny_Call_Name_kw (ld_glob I hg hm ?_ hdb)
  refine callWith_H (first := []) (K := X.K) M.kp hl rfl ?_
  let R1 : List V → Hp → Prop := fun vs H1 => ∃ F1 m1 ds, Sub F0 F1 ∧ Rel X.K F1 m1 H1 ∧ EnvDen X.K F1 σ env ∧ Dens X.K F1 ds vs ∧ ∀ p, m1 p = none → sp (.ref p :: ds) (m1.put p (.ins C [])) (fun d m2 => d = .non ∧ Qd (.ref p) m2) (fun x m' => xc x env m')
  have hA : tWA X wa σ H R1 := tWA.sub r en a q fun vs H1 F1 m1 ds s1 r1 en1 dn1 q1 => ⟨F1, m1, ds, s1, r1, en1, dn1, q1⟩
  refine thn (ha.run pos pins s σ H R1 I hA) fun us s1 ⟨vs, H1, I1, rv, F1, m1, ds, u1, r1, en1, dn1, q1⟩ => ?_
  show wpAny _ _ (evalAll []) _ _ s1
  refine wpAny_pure ⟨I1.kIn, ?_⟩
  show wpAny (model X.prog X.w) X.A (call (.ref (ga X.K C)) us) (EP X pins σ Q) X.xe s1
  have ne : s1.heap.objs.size ≠ s1.heap.objs.size + 1 := Nat.ne_of_lt (Nat.lt_succ_self _)
  have hx := I1.hok.fresh (Nat.le_succ s1.heap.objs.size)
  have hd := I1.hok.fresh (Nat.le_refl s1.heap.objs.size)
  have I2 := Inv.made (C := ga X.K C) I1
  have r2 := r1.make (C := C) hx hd ne
  have q2 := q1 (s1.heap.objs.size + 1) (r1.free hx).2
  have sp' := lift_call (vs := .ref (s1.heap.objs.size + 1) :: vs) (Q := fun v H2 => v = .non ∧ Q (.ref (s1.heap.objs.size + 1)) H2) r2 en1 (a.mono u1) (Dens.cons (by simp only [Den]) dn1) q2 (fun v H' F' m' d s r' dn ⟨e, q3⟩ => by
    subst e
    simp only [Den] at dn
    exact ⟨dn, kQ _ H' F' m' _ (u1.trans s) r' (by simp only [Den]) q3⟩)
  have run := F.run _ X.stack _ _ (Value.ref (s1.heap.objs.size + 1) :: us) [] (.ref (s1.heap.objs.size + 1) :: vs) _ (Emax X σ) ⟨hr.room.make (ga X.K C) us [], fun z => hr.gd z⟩ (I2.env0.make (ga X.K C) us []) rfl (by rw [List.append_nil]; exact .cons rfl rv) sp'
  refine wpAny_call (make_map (f := f) I1.kIn M.makes M.init (beq_iff_eq.mp M.fn) (codeAny_mono run fun rr s' hq' => ?_))
  cases rr with
  | error e => exact passes_max σ pins _ _ e s' I2 hq'
  | ok fl =>
    cases fl with
    | ret u =>
      obtain ⟨v, H', I3, rv, ev, q3⟩ := I2.after hq'
      subst ev
      exact ⟨rv, ⟨V.ref (s1.heap.objs.size + 1), H', I3, rfl, q3⟩⟩
    | next => exact False.elim hq'
    | brk => exact False.elim hq'
    | cont => exact False.elim hq'
end
end DL

/-! D27: errors as values behind their suite; enumerate. -/
namespace DL
open PySem PySem.Spec PyProof.Rows L2 NdefX
section
variable {X : Cx}
theorem Rel.err {K : Frag} {F : Hp} {m : Mem} {H : Hp} (r : Rel K F m H) {a : Addr} {c : Str} {d : Option Addr} (e : m a = some (.err c d)) : ∃ oe : Obj, H a = some (errO a oe) ∧ oe.cls = .ref (ga K c) ∧ oe.dict = d ∧ ∃ vs, oe.data = .fields vs := by
  obtain ⟨_, q⟩ := r.me a _ e
  simpa only [CellOk] using q
/-- the error at a, its fields -/
def tXo (te : TE) (f : Str) : TE := fun σ H Q => te σ H fun x H1 => ∃ (a C dd : Addr) (oe : Obj) (fs : List (Str × V)) (v : V), x = .ref a ∧ H1 a = some (errO a oe) ∧ oe.cls = .ref C ∧ oe.dict = some dd ∧ (∃ vs, oe.data = .fields vs) ∧ XfC X.K C ∧ PySem.W.findIn X.K (.ref C) f = some none ∧ H1 dd = some (.xd fs) ∧ fs.lookup f = some v ∧ Q v H1
theorem pe_xo {e : Expr} {te : TE} {pos : Pos} {n : Str} (he : PE X e te) (hb : attributeBase e n X.env (eval e X.env) = eval e X.env := by rfl) : PE X (.Attribute e n pos) (tXo (X := X) te n) := by
  refine ⟨fun pins s σ H Q I h => ?_⟩
  refine attr_of hb (thn (he.run pins s σ H _ I h) fun u s1 hh => ?_)
  obtain ⟨x, H1, I1, rx, a, C, dd, oe, fs, v, ex, ea, ec, ed, ⟨vs, hd⟩, T, hno, ex2, l, q⟩ := hh
  subst ex
  obtain rfl : u = Value.ref a := rx
  have ha : s1.heap.get? a = some oe := (I1.hok a _ ea).1
  have hx : ObjOk X.prog X.w H1 s1.heap dd (.xd fs) := I1.hok dd _ ex2
  obtain ⟨mA, hns, hr⟩ := hx
  obtain ⟨od, ho, hl⟩ := lookIn_ns hns
  obtain ⟨u, hu, ru⟩ := RelO.some_of (v := v) (o := mA n) (by rw [← l]; exact hr n)
  have J : PySem.W.InstAt s1.heap a oe C (some od) := ⟨ha, ec, by unfold PySem.W.notCls; rw [hd] <;> rfl, by rw [ed]; exact ho⟩
  exact HandSPX.exc_get I1.kIn J T.ga T.gg T.exC (PySem.W.findObj_own T.hdC hno rfl (by rw [hl, hu])) (handed_of ru) ⟨v, H1, I1.tok _, ru, q⟩
/-- e.f, e an error that is a value; cs: its classes -/
def wXo (cs : List Str) (f : Str) (we : WE) : WE := fun env m Q E => we env m (fun d1 m1 => ∃ a c d ns xs e, d1 = .exc a c d ns xs ∧ m1 a = some (.err c d) ∧ c ∈ cs ∧ (ns.zip xs).lookup f = some e ∧ Q e m1) E
theorem dxo {cs : List Str} {f : Str} {e : Expr} {we : WE} {pos : Pos} (hc : ∀ c ∈ cs, XfC X.K (ga X.K c) ∧ PySem.W.findIn X.K (.ref (ga X.K c)) f = some none) (he : DE X e we) (hb : attributeBase e f X.env (eval e X.env) = eval e X.env := by rfl) : DE X (.Attribute e f pos) (wXo cs f we) :=
  wkE (pe_xo he hb) fun σ H Q ⟨F, m, env, Qd, xc, r, en, ac, q, k⟩ => tW.sub r en ac q fun v1 H1 F1 m1 d1 s1 r1 en1 dn1 ⟨a, c, d, ns, xs, e1, ed, em, ec, el, q1⟩ => by
    subst ed
    obtain ⟨oe, h1, h2, h3, h4⟩ := r1.err em
    simp only [Den] at dn1
    obtain ⟨rfl, vs, dv, ⟨_, hns⟩ | ⟨dd, gs, rfl, hd, g1, g2⟩⟩ := dn1
    · subst hns; simp at el
    · subst g1 g2
      obtain ⟨v, hv, dn⟩ := (denP_of dv).lookup el
      exact ⟨a, _, dd, oe, gs, v, rfl, h1, h2, h3, h4, (hc c ec).1, (hc c ec).2, r1.fz _ _ hd, hv, k v H1 F1 m1 e1 s1 r1 dn q1⟩
end
/-- what of its class an error's isinstance asks -/
theorem err_class {pr : Program} {wo : World} {A : Around} {E : Value → Shared → Prop} {st : Shared} {K : Frag} {x D : Addr} {ox od : Obj} {Q : Option Value → Shared → Prop} (C : ExcC K D)
    (KI : K.In st.heap) (J : PySem.W.InstAt st.heap x ox D (some od)) (fin : Q (some (.ref D)) { st with toks := st.toks + 1 }) : wpAny (model pr wo) A (getAttr? (.ref x) "__class__") Q E st := by
  obtain ⟨cd, hcd, _⟩ := PySem.W.any_some C.hd
  have found : PySem.W.findObj K D (some od) "__class__" = some (.bind (.builtin "getset_descriptor.__get__") (.builtin "object.__class__")) := PySem.W.findObj_data (by rw [hcd]; rfl) C.ha C.hn C.ht
  obtain ⟨hp, g, d, t, os⟩ := st
  have lt := J.type (M := model pr wo)
  have lg := PySem.W.looks_findIn (M := model pr wo) KI C.hg
  have lk := PySem.W.looks_findIn (M := model pr wo) KI C.hk
  have lf := PySem.W.looks_find (M := model pr wo) KI J found
  have isB : PySem.W.Looks (model pr wo) hp (isInstance (.ref x) (.type "BaseException")) true := lt.andThen (PySem.W.looks_subIn KI C.hs)
  have ne : (Value.builtin "BaseException.__getattribute__" == Value.builtin "object.__getattribute__") = false := by decide +kernel
  unfold getAttr?; unfold getAttrBy?; unfold getAttrBy
  refine wpAny_bind (wpAny_mkText (wpAny_bind (wpAny_attempt (wpAny_holding (wpAny_bind (lt.at (wpAny_bind (lg.at ?_))))))))
  have n1 : (onTheHeap (Value.ref D) && Value.builtin "BaseException.__getattribute__" == Value.builtin "object.__getattribute__") = false := by rw [ne]; rfl
  show wpAny _ _ (if (onTheHeap (Value.ref D) && Value.builtin "BaseException.__getattribute__" == Value.builtin "object.__getattribute__") = true then _ else _) _ _ (⟨hp, g, d, t + 1, os⟩ : Shared)
  rw [n1]; rw [if_neg Bool.false_ne_true]
  unfold getAttrByItsOwn; unfold hookBefore
  refine wpAny_bind ?_
  have oh : onTheHeap (Value.ref D) = true := rfl
  rw [if_pos oh]
  refine lk.at ?_
  refine wpAny_bind (wpAny_attempt (wpAny_holding ?_))
  unfold callGetattribute
  have n0 : (false && onTheHeap (Value.builtin "BaseException.__getattribute__")) = false := rfl
  rw [n0]; rw [if_neg Bool.false_ne_true]
  unfold boundAndCalled
  have bd := PySem.F.excAttr_ValueError.ga.bind (Value.ref x)
  rw [bd]
  refine wpAny_bind (wpAny_pure ?_)
  have ar := PySem.F.args_bexc_ga (.ref x) (.str "__class__" t)
  show wpAny _ _ (call (.builtin "BaseException.__getattribute__") [.ref x, .str "__class__" t]) _ _ (⟨hp, g, d, t + 1, os⟩ : Shared)
  refine wpAny_call (codeAny_call_builtin PySem.F.excAttr_ValueError.ga.plain PySem.F.entry_bexc_ga (@PySem.W.check_slot (model pr wo) _ _ ⟨hp, g, d, t + 1, os⟩ "BaseException.__getattribute__" "BaseException" "__getattribute__" (.ref x) [.str "__class__" t] [] _ (by decide +kernel) (by decide +kernel) isB ar ?_))
  unfold Builtin.«object.__getattribute__»
  refine wpAny_bind (wpAny_of_eq (a := ((Value.ref x : Value), [Value.str "__class__" t])) (by first | rfl | (simp only [slotArgs]; rfl)) (wpAny_bind (wpAny_pure (wpAny_bind (lt.at (wpAny_bind (lf.at ?_)))))))
  have KI' : K.In (⟨hp, g, d, t + 1, os⟩ : Shared).heap := KI
  show wpAny _ _ (holding [Value.builtin "object.__class__"] (call (.builtin "getset_descriptor.__get__") [.builtin "object.__class__", .ref x, .ref D]) >>= ret) _ _ (⟨hp, g, d, t + 1, os⟩ : Shared)
  refine wpAny_bind (wpAny_holding (wpAny_call (PySem.W.class_get (s := ⟨hp, g, d, t + 1, os⟩) (ox := ox) (od := some od) KI' J C.hm (wpAny_pure ?_))))
  have hnd : handedOut (.ref D) = pure (.ref D) := PySem.W.handedOut_of (v := .ref D) rfl
  show wpAny _ _ (handedOut (.ref D)) _ _ (⟨hp, g, d, t + 1, os⟩ : Shared)
  rw [hnd]
  first
    | exact wpAny_pure (wpAny_pure fin)
    | exact wpAny_pure fin
    | exact wpAny_pure (wpAny_bind (wpAny_pure (wpAny_pure fin)))
theorem err_kit {K : Frag} {x D : Addr} {ox od : Obj} (C : ExcC K D) : PySem.W.KitX K (.ref x) (.ref D) (fun h => PySem.W.InstAt h x ox D (some od)) := by
  obtain ⟨cd, hcd, _⟩ := PySem.W.any_some C.hd
  unfold PySem.W.clsIn at hcd
  have at_ : ∃ c' d' sl', K.lookup D = some ⟨c', d', .cls cd, sl'⟩ := by
    split at hcd
    · rename_i c' d' cd' sl' ho
      cases hcd
      exact ⟨_, _, _, ho⟩
    · cases hcd
  obtain ⟨c', d', sl', ho⟩ := at_
  refine ⟨fun _ _ _ J => J.type, fun _ _ KI _ => fun A' Q' E' s' k q => ?_, fun h tp dd its n sl KI htp => ?_, fun KI J k => err_class C KI J k⟩
  · unfold isType; unfold loadHead
    exact wpAny_bind (wpAny_loadPart (k _ _ (KI _ _ ho)) (wpAny_pure q))
  · refine Bool.eq_false_iff.mpr fun q => ?_
    have e : D = tp := Value.ref.inj (beq_iff_eq.mp q)
    rw [← e] at htp
    have z := (KI _ _ ho).symm.trans htp
    cases z
/-- isinstance(e, C), e an error that is a value -/
theorem call_isO {X : Cx} : CallR X (.builtin "isinstance") (fun xs H Q => ∃ (a D dd c : Addr) (oe : Obj) (fs : List (Str × V)) (b : Bool), xs = [.ref a, .ref c] ∧ H a = some (errO a oe) ∧ oe.cls = .ref D ∧ oe.dict = some dd ∧ (∃ vs, oe.data = .fields vs) ∧ H dd = some (.xd fs) ∧ ExcC X.K D ∧ PySem.W.kitOne X.K (.ref D) (.ref c) = some b ∧ Q (.bl b) H) := by
  intro pins s σ H xs us Q I r ⟨a, D, dd, c, oe, fs, b, e, ha, hc, hd, ⟨vs, hv⟩, hx, C, hk, q⟩
  subst e
  cases r with
  | cons rx rr =>
    cases rr with
    | cons rt rr =>
      cases rr
      cases rx
      cases rt
      have hg : s.heap.get? a = some oe := (I.hok a _ ha).1
      obtain ⟨mA, hns, _⟩ := (show ObjOk X.prog X.w H s.heap dd (.xd fs) from I.hok dd _ hx)
      obtain ⟨od, ho, _⟩ := lookIn_ns hns
      have J : PySem.W.InstAt s.heap a oe D (some od) := ⟨hg, hc, by unfold PySem.W.notCls; rw [hv] <;> rfl, by rw [hd]; exact ho⟩
      exact PySem.W.kia_one (err_kit C) I.kIn J hk (fun z => nomatch z) fun tk => ⟨.bl b, H, I.kept (t' := tk) fun _ _ z => z, rfl, q⟩
def wIsO (tbl : Str → Option Bool) (we : WE) : WE := fun env m Q E => we env m (fun d m1 => ∃ a c dd ns xs b, d = .exc a c dd ns xs ∧ ns ≠ [] ∧ m1 a = some (.err c dd) ∧ tbl c = some b ∧ Q (.bl b) m1) E
theorem disO {X : Cx} {x : Str} {tbl : Str → Option Bool} {e : Expr} {we : WE} {p p2 pos : Pos} (hC : ∀ s b, tbl s = some b → ExcC X.K (ga X.K s) ∧ PySem.W.kitOne X.K (.ref (ga X.K s)) (.ref (ga X.K x)) = some b) (hx : X.mg x = some (.ref (ga X.K x))) (hgx : Gl X x)
    (hg : Gl X "isinstance") (hm : X.mg "isinstance" = none) (he : DE X e we) (hdb : (x == ("__debug__" : Str)) = false := by decide) (hs : starEach [e, .Name x p2] X.env = (false, eval e X.env) :: starEach [.Name x p2] X.env := by rfl) (hs2 : starEach [.Name x p2] X.env = (false, eval (.Name x p2) X.env) :: starEach [] X.env := by rfl) (hpl : (backTo pos (starEach [.Name x p2] X.env)).any (·.1) = false := by rfl) :
    DE X (.Call (.Name "isinstance" p) [e, .Name x p2] [] pos) (wIsO tbl we) :=
  wkE (pe_callB call_isO hg hm PyProof.Rows.boot_isinstance (pa_cons he (pa_cons (pe_glob (v := V.ref (ga X.K x)) hgx hx rfl hdb) pa_nil hs2) hs) (he := hs) (hpl := hpl)) fun σ H Q ⟨F, m, env, Qd, xc, r, en, a, q, k⟩ => tW.sub r en a q fun v1 H1 F1 m1 d1 s1 r1 en1 dn1 ⟨a, c, dd, ns, xs, b, e1, ens, e2, e3, q1⟩ => by
    subst e1
    obtain ⟨oe, h1, h2, h3, h4⟩ := r1.err e2
    simp only [Den] at dn1
    obtain ⟨rfl, vs, dv, ⟨_, z⟩ | ⟨dd', gs, z, hd, g1, g2⟩⟩ := dn1
    · exact (ens z).elim
    · cases z
      exact ⟨_, _, dd', _, oe, gs, b, rfl, h1, h2, h3, h4, r1.fz _ _ hd, (hC c b e3).1, (hC c b e3).2, k _ H1 F1 m1 (.bl b) s1 r1 (by simp only [Den]) q1⟩
end DL

/-! D28: enumerate, items of a dict, displays, targets o.f. -/
namespace DL
open PySem PySem.Spec PyProof.Rows L2 NdefX
section
variable {X : Cx}
/-! ### enumerate -/
def enumD (ds : List D) : List D := ds.zipIdx.map fun p => .tup [.int (p.2 : Nat), p.1]
theorem enumD_length (ds : List D) : (enumD ds).length = ds.length := by simp [enumD]
theorem enumD_get {ds : List D} {i : Nat} {d : D} (h : ds[i]? = some d) : (enumD ds)[i]? = some (.tup [.int (i : Nat), d]) := by
  simp [enumD, h]
theorem Dens.two {K : Frag} {F : Hp} {a b : D} {x y : V} (h1 : Den K F a x) (h2 : Den K F b y) : Dens K F [a, b] [x, y] := Dens.cons h1 (Dens.one h2)
theorem den_pair {K : Frag} {F : Hp} {T : Addr} {a b : D} {x y : V} (h : F T = some (.tup [x, y])) (h1 : Den K F a x) (h2 : Den K F b y) : Den K F (.tup [a, b]) (.ref T) := by
  simp only [Den]
  exact ⟨T, [x, y], rfl, .inl (.inl h), Dens.two h1 h2⟩
theorem yields_enum {K : Frag} {F : Hp} {a : Addr} {d : D} {ds : List D} (hl : ∀ (F' : Hp) m H, Sub F F' → Rel K F' m H → seqOf m d = some ds → ∃ vs, SqL K H a vs ∧ Dens K F' ds vs) : Yields K F (Ite K a) (enumD ds) (fun m' => seqOf m' d = some ds) := by
  intro F' m H i s r kp
  obtain ⟨vs, h, z⟩ := hl F' m H s r kp
  rw [enumD_length]
  refine ⟨fun hi => ?_, fun hi => ⟨vs, h, by rw [← z.length]; exact hi⟩⟩
  obtain ⟨v, e, dv⟩ := z.get (List.getElem?_eq_getElem hi)
  refine ⟨⟨vs, v, h, e⟩, fun x H' ⟨T, y, ex, hT, eH, hy⟩ => ?_⟩
  have := hy vs h
  rw [e] at this
  cases this
  subst ex eH
  obtain ⟨r', s'⟩ := r.frozen (o := .tup [.int (i : Nat), v]) hT
  exact ⟨_, _, s', r', enumD_get (List.getElem?_eq_getElem hi), den_pair upd_same (by simp only [Den]) (dv.mono s')⟩
def wiEnum (we : WA) : WI := fun env m Q E => we env m (fun l m1 => ∃ d ds, l = [d] ∧ (∀ ys, d ≠ .tup ys) ∧ seqOf m1 d = some ds ∧ Q (enumD ds) (fun m' => seqOf m' d = some ds) m1) E
theorem direnum {elts : List Expr} {kk : Nat} {tpos p pos : Pos} {e : Expr} {we : WA} (hg : Gl X "enumerate") (hm : X.mg "enumerate" = none) (ha : DA X [e] we) (hs : starEach [e] X.env = [(false, eval e X.env)] := by rfl) : DI X (.Tuple elts kk tpos) (.Call (.Name "enumerate" p) [e] [] pos) (wiEnum we) :=
  wkI (pi_enum hg hm ha hs) fun σ H R ⟨F, m, env, Qd, xc, r, en, a, q, k⟩ => tWA.sub r en a q fun vs H1 F1 m1 l s1 r1 en1 dn1 ⟨d, ds, e0, nt, e1, q1⟩ => by
    subst e0
    obtain ⟨v, rfl, dv⟩ := dens1 dn1
    have get : ∀ (F' : Hp) m H, Sub F1 F' → Rel X.K F' m H → seqOf m d = some ds → ∃ b us, v = .ref b ∧ SqL X.K H b us ∧ Dens X.K F' ds us := fun F' m H s r z => by
      have dv' := dv.mono s
      cases d with
      | tup ys => exact absurd rfl (nt ys)
      | klst ys =>
        cases z
        simp only [Den] at dv'
        obtain ⟨b, us, e1, e2, e3⟩ := dv'
        exact ⟨b, us, e1, r.sqL e2, e3⟩
      | lst ys =>
        obtain ⟨b, us, e1, e2, e3⟩ := r.lstOf dv' (show lstOf m (.lst ys) = some ds from z)
        exact ⟨b, us, e1, .inl e2, e3⟩
      | ref a =>
        obtain ⟨b, us, e1, e2, e3⟩ := r.lstOf dv' (show lstOf m (.ref a) = some ds from z)
        exact ⟨b, us, e1, .inl e2, e3⟩
      | _ => cases z
    obtain ⟨b, us, rfl, hb, _⟩ := get F1 m1 H1 (Sub.refl _) r1 e1
    exact ⟨b, us, rfl, hb, k _ H1 F1 m1 _ _ s1 r1 (yields_enum fun F' m H s r z => by
      obtain ⟨b', us', eb, h1, h2⟩ := get F' m H s r z
      cases eb
      exact ⟨us', h1, h2⟩) e1 q1⟩
/-! ### a dict's items, while it is walked -/
theorem DenP.at_ {κ : Type} {K : Frag} {F : Hp} : ∀ {ps : List (κ × D)} {qs : List (κ × V)}, DenP K F ps qs → ∀ {i : Nat} {k : κ} {v : V}, qs[i]? = some (k, v) → ∃ d, ps[i]? = some (k, d) ∧ Den K F d v
  | _, _, .nil, i, k, v, e => by simp at e
  | (a1, a2) :: _, b :: _, .cons h t, 0, k, v, e => by
    simp at e
    subst e
    obtain ⟨h1, h2⟩ := h
    have h1 : a1 = k := h1
    subst h1
    exact ⟨a2, rfl, h2⟩
  | _ :: _, _ :: _, .cons h t, i + 1, k, v, e => by
    obtain ⟨d, e1, e2⟩ := DenP.at_ t (i := i) (by simpa using e)
    exact ⟨d, by simpa using e1, e2⟩
def pairD (p : Key × D) : D := .tup [kyD p.1, p.2]
theorem den_ky {K : Frag} {F : Hp} (k : Key) : Den K F (kyD k) (kV k) := by cases k <;> simp only [kyD, kV, Den]
def wiItems (we : WE) : WI := fun env m Q E => we env m (fun d m1 => ∃ p o qs kvs, d = .ref p ∧ m1 p = some (.fdct o qs kvs) ∧ Q (kvs.map pairD) (fun m' => m' p = some (.fdct o qs kvs)) m1) E
theorem diritems {elts : List Expr} {kk : Nat} {tpos apos cpos : Pos} {e : Expr} {we : WE} (he : DE X e we) (hbase : attributeBase e "items" X.env (eval e X.env) = eval e X.env := by rfl) (hline : (apos.endLine == cpos.line) = true := by rfl) :
    DI X (.Tuple elts kk tpos) (.Call (.Attribute e "items" apos) [] [] cpos) (wiItems we) :=
  wkI (pi_items he hbase hline) fun σ H R ⟨F, m, env, Qd, xc, r, en, a, q, k⟩ => tW.sub r en a q fun v1 H1 F1 m1 d1 s1 r1 en1 dn1 ⟨p, o, qs, kvs, e1, e2, q1⟩ => by
    subst e1
    simp only [Den] at dn1
    subst dn1
    have at_ : ∀ {F' : Hp} {m' : Mem} {H' : Hp}, Rel X.K F' m' H' → m' p = some (.fdct o qs kvs) → H' p = some (.frz o (.dK qs)) ∧ DenP X.K F' kvs qs := fun r' e' => by
      obtain ⟨_, z⟩ := r'.me p _ e'
      simpa only [CellOk] using z
    refine ⟨p, o, qs, rfl, (at_ r1 e2).1, k _ H1 F1 m1 _ _ s1 r1 (fun F' m' H' i s r' kp => ?_) e2 q1⟩
    obtain ⟨h1, h2⟩ := at_ r' kp
    have hl := h2.length
    rw [List.length_map]
    refine ⟨fun hi => ⟨⟨h1, by rw [← hl]; exact hi⟩, fun x H2 ⟨T, kx, v, ek, ex, hT, eH⟩ => ?_⟩, fun hi => ⟨h1, by rw [← hl]; exact hi⟩⟩
    subst ex eH
    obtain ⟨r2, s2⟩ := r'.frozen (o := .tup [kV kx, v]) hT
    obtain ⟨d, ed, dd⟩ := DenP.at_ h2 ek
    exact ⟨_, _, s2, r2, by rw [List.getElem?_map, ed]; rfl, den_pair upd_same (den_ky kx) (dd.mono s2)⟩
/-- e, while a dict that it walks is locked -/
def wLock (w : WE) : WE := fun env m Q _ => ∃ p kvs, m p = some (.dct kvs) ∧ ∀ o qs, w env (m.put p (.fdct o qs kvs)) (fun x m' => m' p = some (.fdct o qs kvs) ∧ Q x (m'.put p (.dct kvs))) (fun _ _ => False)
theorem dlock {e : Expr} {w : WE} (he : DE X e w) : DE X e (wLock w) :=
  wkE (pe_lock he) fun σ H Q ⟨F, m, env, Qd, xc, r, en, a, ⟨p, kvs, hp, q⟩, k⟩ => by
    obtain ⟨fp, cq⟩ := r.me p _ hp
    simp only [CellOk] at cq
    obtain ⟨qs, hq, dq⟩ := cq
    refine ⟨p, .dK qs, hq, True.intro, fun od => ?_⟩
    have r1 : Rel X.K F (m.put p (.fdct od qs kvs)) (upd H p (.frz od (.dK qs))) := r.store hp (by simp only [CellOk]; exact ⟨upd_same, dq⟩)
    refine ⟨F, _, env, _, fun _ _ _ => False, r1, en, Acc.no, q od qs, fun v H' F' m' d s r' dn ⟨h1, h2⟩ => ?_⟩
    obtain ⟨_, z⟩ := r'.me p _ h1
    simp only [CellOk] at z
    refine ⟨z.1, k v _ F' _ d s (r'.store h1 (by simp only [CellOk]; exact ⟨qs, upd_same, z.2⟩)) dn h2⟩
/-! ### targets -/
def gFldS (cs : List Str) (f : Str) (wo : WE) : WG := fun v env m Q => wo env m (fun d m1 => ∃ p C fs, d = .ref p ∧ m1 p = some (.ins C fs) ∧ C ∈ cs ∧ fs.length < 1000 ∧ Q env (m1.put p (.ins C (putFD f v fs)))) (fun _ _ => False)
theorem pg_attr {o : Expr} {f : Str} {pos : Pos} {to : TE} (ho : PE X o to) : PG X (.Attribute o f pos) (fun v σ H Q => to σ H fun x H1 => ∃ a C dx fs, x = .ref a ∧ H1 a = some (.ins C dx fs) ∧ Cls X.K C ∧ NoAttr X.K C f ∧ fs.length < 1000 ∧ Q σ (upd H1 a (.ins C dx (putF f v fs)))) := by
  refine ⟨fun pins s σ H v u Q I r h => PySem.W.kas_attr (thn (ho.run pins s σ H _ I h) fun ov s1 ⟨x, H1, I1, rx, a, C, dx, fs, ex, ea, c, n, l, q⟩ => ?_)⟩
  subst ex
  obtain rfl : ov = Value.ref a := rx
  exact setattr_ok I1 ea c n l r fun s2 I2 => ⟨σ, _, I2, q⟩
theorem dgattr {cs : List Str} {f : Str} {o : Expr} {wo : WE} {pos : Pos} (hc : ∀ C ∈ cs, Cls X.K (ga X.K C) ∧ NoAttr X.K (ga X.K C) f) (ho : DE X o wo) : DG X (.Attribute o f pos) (gFldS cs f wo) :=
  wkG (pg_attr ho) fun v σ H Q ⟨F, m, env, d, Qd, r, en, dn, q, n⟩ => tW.sub (xc := fun _ _ _ => False) r en Acc.no q fun v1 H1 F1 m1 d1 s1 r1 en1 dn1 ⟨p, C, fs, e1, e2, e3, e4, q1⟩ => by
    subst e1
    simp only [Den] at dn1
    subst dn1
    obtain ⟨dx, gs, hp, dp⟩ := r1.ins e2
    refine ⟨p, _, dx, gs, rfl, hp, (hc C e3).1, (hc C e3).2, by rw [← dp.length]; exact e4, n _ _ F1 _ _ s1 (r1.store e2 ?_) en1 q1⟩
    simp only [CellOk]
    exact ⟨dx, _, upd_same, denP_putF (dn.mono s1) dp⟩
end
end DL

/-! D29: instances by tables of promises (class -> promise); evaluation by simp; comprehensions with a state. -/
namespace DL
open PySem PySem.Spec PyProof.Rows L2 NdefX
abbrev Tbl := List (Str × SpD)
def insOf (m : Mem) : D → Option (Str × List (Str × D))
  | .ref p => match m p with
    | some (.ins C fs) => some (C, fs)
    | _ => none
  | _ => none
theorem insOf_iff {m : Mem} {p : Addr} {C : Str} {fs : List (Str × D)} : insOf m (.ref p) = some (C, fs) ↔ m p = some (.ins C fs) := by
  simp only [insOf]
  constructor
  · intro h
    cases e : m p with
    | none => rw [e] at h; cases h
    | some c => rw [e] at h; cases c <;> first | (cases h; done) | (cases h; rfl)
  · intro h; rw [h]
theorem insOf_some {m : Mem} {d : D} {q : Str × List (Str × D)} (h : insOf m d = some q) : ∃ p, d = .ref p ∧ m p = some (.ins q.1 q.2) := by
  cases d with
  | ref p => exact ⟨p, rfl, insOf_iff.mp h⟩
  | _ => cases h
@[simp] theorem insOf_put {m : Mem} {p : Addr} {C : Str} {fs : List (Str × D)} : insOf (m.put p (.ins C fs)) (.ref p) = some (C, fs) := insOf_iff.mpr (by simp)
theorem insOf_ne {m : Mem} {p q : Addr} {c : Cell} (h : q ≠ p) : insOf (m.put p c) (.ref q) = insOf m (.ref q) := by simp only [insOf, Mem.put_ne h]
section
variable {X : Cx} {g : Bool} {k n : Nat} {ks : List Str}
/-! ### methods -/
def methK (tbl : Tbl) (mn : Str) (n : Nat) (wa wk : WA) (env : En) (Q : Po) (E : Xo) (d : D) (m1 : Mem) : Prop :=
  Is (insOf m1 d) (fun q => q.2.lookup mn = none ∧ Is (tbl.lookup q.1) (fun sp => wa env m1 (fun ds m2 => wk env m2 (fun es m3 => es.length = n ∧ App sp (d :: (ds ++ es)) m3 Q E .mk) E) E) .mk) .mk
def wMethT (tbl : Tbl) (mn : Str) (n : Nat) (wo : WE) (wa wk : WA) : WE := fun env m0 Q E => wo env m0 (methK tbl mn n wa wk env Q E) E
@[simp ↓] theorem ev_meth {tbl : Tbl} {mn : Str} {n : Nat} {wo : WE} {wa wk : WA} {env : En} {m0 : Mem} {Q : Po} {E : Xo} : wMethT tbl mn n wo wa wk env m0 Q E = wo env m0 (methK tbl mn n wa wk env Q E) E := rfl
@[simp ↓] theorem methK_ {tbl : Tbl} {mn : Str} {n : Nat} {wa wk : WA} {env : En} {Q : Po} {E : Xo} {p : Addr} {m1 : Mem} : methK tbl mn n wa wk env Q E (.ref p) m1 =
  Is (insOf m1 (.ref p)) (fun q => q.2.lookup mn = none ∧ Is (tbl.lookup q.1) (fun sp => wa env m1 (fun ds m2 => wk env m2 (fun es m3 => es.length = n ∧ App sp (.ref p :: (ds ++ es)) m3 Q E .mk) E) E) .mk) .mk := rfl
/-- the class C has the method mn: its promise -/
def HasM (g : Bool) (P : Program) (w : World) (K : Frag) (mg : Str → Option Value) (base : Heap) (k : Nat) (mn : Str) (ks : List Str) (tbl : Tbl) : Prop :=
  ∀ C sp, tbl.lookup C = some sp → ∃ f, Cls K (ga K C) ∧ Meth K (ga K C) mn f ∧ FA g P w K mg base k f ks sp
theorem HasM.mono {P : Program} {w : World} {K : Frag} {mg : Str → Option Value} {base : Heap} {j : Nat} {mn : Str} {tbl : Tbl} (h : HasM g P w K mg base j mn ks tbl) (l : j ≤ k) : HasM g P w K mg base k mn ks tbl := fun C sp e =>
  let ⟨f, a, b, c⟩ := h C sp e
  ⟨f, a, b, c.mono l⟩
theorem HasM.one {P : Program} {w : World} {K : Frag} {mg : Str → Option Value} {base : Heap} {mn C : Str} {sp : SpD} {f : Addr} (c : Cls K (ga K C)) (m : Meth K (ga K C) mn f) (F : FA g P w K mg base k f ks sp) : HasM g P w K mg base k mn ks [(C, sp)] := fun C' sp' e => by
  rw [List.lookup_cons] at e
  split at e
  · rename_i h
    cases e
    have : C' = C := by simpa using h
    subst this
    exact ⟨f, c, m, F⟩
  · cases e
theorem HasM.cons {P : Program} {w : World} {K : Frag} {mg : Str → Option Value} {base : Heap} {mn C : Str} {sp : SpD} {f : Addr} {tbl : Tbl} (c : Cls K (ga K C)) (m : Meth K (ga K C) mn f) (F : FA g P w K mg base k f ks sp) (r : HasM g P w K mg base k mn ks tbl) : HasM g P w K mg base k mn ks ((C, sp) :: tbl) := fun C' sp' e => by
  rw [List.lookup_cons] at e
  split at e
  · rename_i h
    cases e
    have : C' = C := by simpa using h
    subst this
    exact ⟨f, c, m, F⟩
  · exact r _ _ e
theorem dmethT {tbl : Tbl} {mn : Str} {o : Expr} {wo : WE} {apos pos : Pos} {es : List Expr} {kws : List Keyword} {wa wk : WA} {pl : Sem Bool} (HM : HasM g X.prog X.w X.K X.mg X.base k mn ks tbl) (hr : Rm g k X.A) (ho : DE X o wo) (ha : DA X es wa) (hk : DK X kws wk)
    (hl : lone (backTo pos (starEach es X.env)) = false := by rfl) (hall : (backToKw pos (keywordEach kws X.env)).all (·.1.isSome) = true := by rfl)
    (hks : (backToKw pos (keywordEach kws X.env)).filterMap (·.1) = ks := by rfl) (hn : ks.length = n := by rfl)
    (ht : eval (.Call (.Attribute o mn apos) es kws pos) X.env = (do
      let ov ← eval o X.env
      standAt apos.atName
      let (f, first) ← holding [ov] (getMethod ov mn pl)
      callWith pos f first (backTo pos (starEach es X.env)) (backToKw pos (keywordEach kws X.env))) := by rfl) : DE X (.Call (.Attribute o mn apos) es kws pos) (wMethT tbl mn n wo wa wk) := by
  subst hn
  refine ⟨fun pins s σ H Q I ⟨F0, m0, env, Qd, xc, r, en, a, q, kQ⟩ => ?_⟩
  let R0 : V → Hp → Prop := fun v H1 => ∃ F1 m1 p C fs sp, v = .ref p ∧ Sub F0 F1 ∧ Rel X.K F1 m1 H1 ∧ EnvDen X.K F1 σ env ∧ m1 p = some (.ins C fs) ∧ fs.lookup mn = none ∧ tbl.lookup C = some sp ∧ wa env m1 (fun ds m2 => wk env m2 (fun es m3 => es.length = ks.length ∧ sp (.ref p :: (ds ++ es)) m3 Qd (fun x m' => xc x env m')) (fun x m' => xc x env m')) (fun x m' => xc x env m')
  have hO : tW X wo σ H R0 := tW.sub r en a q fun v1 H1 F1 m1 d1 s1 r1 en1 dn1 ⟨q, e1, e2, sp, e3, q1⟩ => by
    obtain ⟨p, rfl, e4⟩ := insOf_some e1
    simp only [Den] at dn1
    exact ⟨F1, m1, p, q.1, q.2, sp, dn1, s1, r1, en1, e4, e2, e3, q1⟩
  refine PySem.W.methodCall_KW (pl := pl) (thn (ho.run pins s σ H R0 I hO) fun u s1 ⟨v, H1, I1, rv, F1, m1, p, C, fs, sp, ev, s01, r1, en1, e2, e3, e4, q1⟩ => ?_) ht
  subst ev
  obtain rfl : u = Value.ref p := rv
  obtain ⟨f, c, hm, F⟩ := HM C sp e4
  obtain ⟨dx, gs, hp, dp⟩ := r1.ins e2
  refine getmeth_ok I1 hp c hm (DenP.lookup_none dp e3) ?_
  refine callWith_H (first := [.ref p]) hm.kp hl hall ?_
  let R1 : List V → Hp → Prop := fun vs H1 => ∃ F2 m2 ds, Sub F1 F2 ∧ Rel X.K F2 m2 H1 ∧ EnvDen X.K F2 σ env ∧ Dens X.K F2 ds vs ∧ wk env m2 (fun es m3 => es.length = ks.length ∧ sp (.ref p :: (ds ++ es)) m3 Qd (fun x m' => xc x env m')) (fun x m' => xc x env m')
  have hA : tWA X wa σ H1 R1 := tWA.sub r1 en1 (a.mono s01) q1 fun vs H2 F2 m2 ds s2 r2 en2 dn2 q2 => ⟨F2, m2, ds, s2, r2, en2, dn2, q2⟩
  refine thn (ha.run pos pins s1 σ H1 R1 I1 hA) fun us s2 ⟨vs, H2, I2, rv2, F2, m2, ds, u2, r2, en2, dn2, q2⟩ => ?_
  let R2 : List V → Hp → Prop := fun zs H3 => ∃ F3 m3 es, Sub F2 F3 ∧ Rel X.K F3 m3 H3 ∧ EnvDen X.K F3 σ env ∧ Dens X.K F3 es zs ∧ es.length = ks.length ∧ sp (.ref p :: (ds ++ es)) m3 Qd (fun x m' => xc x env m')
  have hK : tWA X wk σ H2 R2 := tWA.sub r2 en2 (a.mono (s01.trans u2)) q2 fun zs H3 F3 m3 es s3 r3 en3 dn3 q3 => ⟨F3, m3, es, s3, r3, en3, dn3, q3.1, q3.2⟩
  refine thn (hk.run pos pins s2 σ H2 R2 I2 hK) fun ws s3 ⟨zs, H3, I3, rz, F3, m3, es', u3, r3, en3, dn3, hlen, q3⟩ => ?_
  refine ⟨I3.kIn, ?_⟩
  rw [hks]
  have ss := (s01.trans u2).trans u3
  have sp' := lift_call (vs := .ref p :: (vs ++ zs)) r3 en3 (a.mono ss) (Dens.cons (by simp only [Den]) ((dn2.mono u3).append dn3)) q3 (Q := Q) (fun v H' F' m' d s => kQ v H' F' m' d (ss.trans s))
  exact F.go (us := .ref p :: us) (vs := .ref p :: (vs ++ zs)) hr I3 (by rw [← rz.length, ← dn3.length]; exact hlen) (.cons rfl (rv2.append rz)) sp'
/-! ### evaluation -/
@[simp ↓] theorem ev_fld {cs : List Str} {f : Str} {we : WE} {env : En} {m : Mem} {Q : Po} {E : Xo} : wFld cs f we env m Q E = we env m (fun d m1 => Is (insOf m1 d) (fun q => q.1 ∈ cs ∧ Is (q.2.lookup f) (fun v => Q v m1) .mk) .mk) E := by
  unfold wFld
  refine congrArg (fun z => we env m z E) (by
    funext d m1
    apply propext
    constructor
    · rintro ⟨p, C, fs, v, rfl, h1, h2, h3, h4⟩
      exact ⟨(C, fs), insOf_iff.mpr h1, h2, v, h3, h4⟩
    · rintro ⟨⟨C, fs⟩, h1, h2, v, h3, h4⟩
      obtain ⟨p, rfl, h5⟩ := insOf_some h1
      exact ⟨p, C, fs, v, rfl, h5, h2, h3, h4⟩)
def sfldK (cs : List Str) (f : Str) (D : De) (env : En) (dv d : DL.D) (m2 : Mem) : Prop := match d with
  | .ref p => Is (insOf m2 (.ref p)) (fun q => q.1 ∈ cs ∧ q.2.length < 1000 ∧ D.nx env (m2.put p (.ins q.1 (putFD f dv q.2)))) .mk
  | _ => False
@[simp ↓] theorem ev_sfld {cs : List Str} {f : Str} {wo wv : WE} {D : De} {env : En} {m : Mem} : sFldS cs f wo wv D env m = wv env m (fun dv m1 => wo env m1 (sfldK cs f D env dv) (fun x m' => D.xc x env m')) (fun x m' => D.xc x env m') := by
  unfold sFldS
  refine congrArg (fun z => wv env m z (fun x m' => D.xc x env m')) (by
    funext dv m1
    refine congrArg (fun z => wo env m1 z (fun x m' => D.xc x env m')) (by
      funext d m2
      apply propext
      constructor
      · rintro ⟨p, C, fs, rfl, h1, h2, h3, h4⟩
        exact ⟨(C, fs), insOf_iff.mpr h1, h2, h3, h4⟩
      · intro h
        cases d with
        | ref p =>
          obtain ⟨⟨C, fs⟩, h1, h2, h3, h4⟩ := h
          exact ⟨p, C, fs, rfl, insOf_iff.mp h1, h2, h3, h4⟩
        | _ => exact h.elim))
@[simp ↓] theorem sfldK_ {cs : List Str} {f : Str} {D : De} {env : En} {dv : DL.D} {p : Addr} {m2 : Mem} : sfldK cs f D env dv (.ref p) m2 = Is (insOf m2 (.ref p)) (fun q => q.1 ∈ cs ∧ q.2.length < 1000 ∧ D.nx env (m2.put p (.ins q.1 (putFD f dv q.2)))) .mk := rfl
def gfldK (cs : List Str) (f : Str) (v : DL.D) (env : En) (Q : En → Mem → Prop) (d : DL.D) (m1 : Mem) : Prop := match d with
  | .ref p => Is (insOf m1 (.ref p)) (fun q => q.1 ∈ cs ∧ q.2.length < 1000 ∧ Q env (m1.put p (.ins q.1 (putFD f v q.2)))) .mk
  | _ => False
@[simp ↓] theorem ev_gfld {cs : List Str} {f : Str} {wo : WE} {v : DL.D} {env : En} {m : Mem} {Q : En → Mem → Prop} : gFldS cs f wo v env m Q = wo env m (gfldK cs f v env Q) (fun _ _ => False) := by
  unfold gFldS
  refine congrArg (fun z => wo env m z (fun _ _ => False)) (by
    funext d m2
    apply propext
    constructor
    · rintro ⟨p, C, fs, rfl, h1, h2, h3, h4⟩
      exact ⟨(C, fs), insOf_iff.mpr h1, h2, h3, h4⟩
    · intro h
      cases d with
      | ref p =>
        obtain ⟨⟨C, fs⟩, h1, h2, h3, h4⟩ := h
        exact ⟨p, C, fs, rfl, insOf_iff.mp h1, h2, h3, h4⟩
      | _ => exact h.elim)
@[simp ↓] theorem gfldK_ {cs : List Str} {f : Str} {v : DL.D} {env : En} {Q : En → Mem → Prop} {p : Addr} {m1 : Mem} : gfldK cs f v env Q (.ref p) m1 = Is (insOf m1 (.ref p)) (fun q => q.1 ∈ cs ∧ q.2.length < 1000 ∧ Q env (m1.put p (.ins q.1 (putFD f v q.2)))) .mk := rfl
def makeK (C : Str) (sp : SpD) (Q : Po) (E : Xo) (ds : List DL.D) (m1 : Mem) : Prop := ∀ p, m1 p = none → App sp (.ref p :: ds) (m1.put p (.ins C [])) (fun d m2 => d = .non ∧ Q (.ref p) m2) E .mk
@[simp ↓] theorem ev_make {C : Str} {sp : SpD} {wa : WA} {env : En} {m : Mem} {Q : Po} {E : Xo} : wMake C sp wa env m Q E = wa env m (makeK C sp Q E) E := rfl
end
end DL

/-! D30: len, in, properties, constants by tables; displays; comprehensions with a state, over enumerate, over items. -/
namespace DL
open PySem PySem.Spec PyProof.Rows L2 NdefX
section
variable {X : Cx} {k : Nat}
/-- a promise that lets nothing out, shut -/
def AppN (sp : SpD) (ds : List D) (m : Mem) (Q : Po) (t : Tag Q) : Prop := sp ds m Q (fun _ _ => False)
theorem AppN.intro {sp : SpD} {ds : List D} {m : Mem} {Q : Po} {t : Tag Q} (h : sp ds m Q (fun _ _ => False)) : AppN sp ds m Q t := h
def lenK (Q : Po) (d : D) (m : Mem) : Prop := ∃ n : Nat, d = .int n ∧ n ≤ 1000000 ∧ Q (.int n) m
@[simp ↓] theorem lenK_ {Q : Po} {n : Nat} {m : Mem} : lenK Q (.int n) m = (n ≤ 1000000 ∧ Q (.int n) m) := by
  unfold lenK
  apply propext
  constructor
  · rintro ⟨i, e, h⟩
    have : n = i := by injection e with e; omega
    subst this; exact h
  · intro h; exact ⟨n, rfl, h⟩
def boolK (Q : Po) (d : D) (m : Mem) : Prop := ∃ b : Bool, d = .bl b ∧ Q (.bl b) m
@[simp ↓] theorem boolK_ {Q : Po} {b : Bool} {m : Mem} : boolK Q (.bl b) m = Q (.bl b) m := by simp [boolK]
def spK (tbl : Tbl) (R : SpD → Prop) (m : Mem) (d : D) : Prop := ∃ q sp, insOf m d = some q ∧ tbl.lookup q.1 = some sp ∧ R sp
/-- len(o) -/
def wLenT (tbl : Tbl) (we : WE) : WE := fun env m Q E => we env m (fun d m1 => Is (insOf m1 d) (fun q => Is (tbl.lookup q.1) (fun sp => AppN sp [d] m1 (lenK Q) .mk) .mk) .mk) E
theorem dlenT {tbl : Tbl} {p pos : Pos} {e : Expr} {we : WE} (HM : HasM false X.prog X.w X.K X.mg X.base k "__len__" [] tbl) (hr : Room (k + 1) X.A) (hg : Gl X "len") (hm : X.mg "len" = none) (he : DE X e we) (hs : starEach [e] X.env = (false, eval e X.env) :: starEach [] X.env := by rfl) :
    DE X (.Call (.Name "len" p) [e] [] pos) (wLenT tbl we) := by
  refine ⟨fun pins s σ H Q I ⟨F0, m0, env, Qd, xc, r, en, a, q, kQ⟩ => ?_⟩
  refine wpAny_Call_Name_kw (ld_blt I hg hm boot_len ?_ (by decide) (by decide))
  refine PyProof.Rows.callWith_builtin1 ?_ hs rfl
  let R1 : V → Hp → Prop := fun v H1 => ∃ F1 m1 p C fs sp, v = .ref p ∧ Sub F0 F1 ∧ Rel X.K F1 m1 H1 ∧ EnvDen X.K F1 σ env ∧ m1 p = some (.ins C fs) ∧ tbl.lookup C = some sp ∧ sp [.ref p] m1 (lenK Qd) (fun _ _ => False)
  have hE : tW X we σ H R1 := tW.sub r en a q fun v1 H1 F1 m1 d1 s1 r1 en1 dn1 ⟨qq, e1, sp, e2, q1⟩ => by
    obtain ⟨p, rfl, e4⟩ := insOf_some e1
    simp only [Den] at dn1
    exact ⟨F1, m1, p, qq.1, qq.2, sp, dn1, s1, r1, en1, e4, e2, q1⟩
  have hA := pa_cons he (pa_nil (X := X)) hs
  refine thn (hA.run pos pins s σ H (fun vs H1 => ∃ v, vs = [v] ∧ R1 v H1) I (show tW X we σ H (fun v H1 => tNil σ H1 fun vs H2 => ∃ v', v :: vs = [v'] ∧ R1 v' H2) from by
    obtain ⟨F, m, env', Qd', xc', r', en', a', q', k'⟩ := hE
    exact ⟨F, m, env', Qd', xc', r', en', a', q', fun v H' F' m' d s r'' dn qd => ⟨v, rfl, k' v H' F' m' d s r'' dn qd⟩⟩)) fun us s1 ⟨vs, H1, I1, rv, v, ev, F1, m1, p, C, fs, sp, ep, s01, r1, en1, e2, e3, q1⟩ => ?_
  subst ev ep
  obtain ⟨f, c, mm, F⟩ := HM C sp e3
  obtain ⟨dx, gs, hp, dp⟩ := r1.ins e2
  refine call_lenI mm F hr pins s1 σ H1 _ us Q I1 rv ⟨p, dx, gs, rfl, hp, lift_quiet r1 (Dens.one (by simp only [Den])) q1 fun v H' F' m' d s r' dn ⟨n, e3, hn, q2⟩ => ?_⟩
  subst e3
  simp only [Den] at dn
  exact ⟨n, dn, hn, kQ _ H' F' m' (.int n) (s01.trans s) r' (by simp only [Den]) q2⟩
/-- x in o -/
def inT (tbl : Tbl) : WO := fun x y m Q _ => Is (insOf m y) (fun q => Is (tbl.lookup q.1) (fun sp => AppN sp [y, x] m (boolK Q) .mk) .mk) .mk
theorem dinT {tbl : Tbl} {a b : Expr} {pos : Pos} {wa wb : WE} (HM : HasM false X.prog X.w X.K X.mg X.base k "__contains__" [] tbl) (hr : Room k X.A) (ha : DE X a wa) (hb : DE X b wb) (hm : behindInMarks .In b = false := by rfl) : DE X (.Compare a [.In] [b] pos) (wBin (inT tbl) wa wb) := by
  refine dcmpC (f := inT tbl) ⟨fun x y H Q => ∃ C sp f a dx gs, tbl.lookup C = some sp ∧ Meth X.K (ga X.K C) "__contains__" f ∧ FA false X.prog X.w X.K X.mg X.base k f [] sp ∧ y = .ref a ∧ H a = some (.ins (ga X.K C) dx gs) ∧ liftSp X.K sp [.ref a, x] H (fun v H' => ∃ b : Bool, v = .bl b ∧ Q (.bl b) H') (fun _ _ _ => False), ?_, ?_⟩ ha hb hm
  · rintro pins s σ H x y v u Q I rx ry ⟨C, sp, f, a, dx, gs, _, mm, F, e1, e2, h⟩
    exact op_inI mm F hr pins s σ H x y v u Q I rx ry ⟨a, dx, gs, e1, e2, h⟩
  · rintro F0 m0 H x y v u Qd E Q r d1 d2 ⟨q, e1, sp, e2, q1⟩ kk
    obtain ⟨p, rfl, e4⟩ := insOf_some e1
    have d20 := d2
    simp only [Den] at d2
    subst d2
    obtain ⟨f, c, mm, F⟩ := HM _ sp e2
    obtain ⟨dx, gs, hp, dp⟩ := r.ins e4
    refine ⟨q.1, sp, f, p, dx, gs, e2, mm, F, rfl, hp, lift_quiet r (Dens.cons d20 (Dens.one d1)) q1 fun v H' F' m' d s r' dn ⟨b, e3, q2⟩ => ?_⟩
    subst e3
    simp only [Den] at dn
    exact ⟨b, dn, kk _ H' F' m' (.bl b) s r' (by simp only [Den]) q2⟩
/-- e.f, a property -/
def HasP (P : Program) (w : World) (K : Frag) (mg : Str → Option Value) (base : Heap) (k : Nat) (nm : Str) (tbl : Tbl) : Prop :=
  ∀ C sp, tbl.lookup C = some sp → ∃ pa gf fd ps, Cls K (ga K C) ∧ PropOf K (ga K C) nm pa gf ∧ FnOk P w K mg base (CX P w) k gf fd ps (liftSp K sp) ∧ Binds K fd ps []
def wPropT (tbl : Tbl) (we : WE) : WE := fun env m Q E => we env m (fun d m1 => Is (insOf m1 d) (fun q => Is (tbl.lookup q.1) (fun sp => AppN sp [d] m1 Q .mk) .mk) .mk) E
theorem dpropT {tbl : Tbl} {nm : Str} {e : Expr} {we : WE} {pos : Pos} (HP : HasP X.prog X.w X.K X.mg X.base k nm tbl) (hr : Room (k + 1) X.A) (he : DE X e we) (hab : attributeBase e nm X.env (eval e X.env) = eval e X.env := by rfl) : DE X (.Attribute e nm pos) (wPropT tbl we) := by
  refine ⟨fun pins s σ H Q I ⟨F0, m0, env, Qd, xc, r, en, a, q, kQ⟩ => ?_⟩
  let R1 : V → Hp → Prop := fun v H1 => ∃ F1 m1 p C fs sp, v = .ref p ∧ Sub F0 F1 ∧ Rel X.K F1 m1 H1 ∧ EnvDen X.K F1 σ env ∧ m1 p = some (.ins C fs) ∧ tbl.lookup C = some sp ∧ sp [.ref p] m1 Qd (fun _ _ => False)
  have hE : tW X we σ H R1 := tW.sub r en a q fun v1 H1 F1 m1 d1 s1 r1 en1 dn1 ⟨qq, e1, sp, e2, q1⟩ => by
    obtain ⟨p, rfl, e4⟩ := insOf_some e1
    simp only [Den] at dn1
    exact ⟨F1, m1, p, qq.1, qq.2, sp, dn1, s1, r1, en1, e4, e2, q1⟩
  refine attr_of hab (thn (he.run pins s σ H R1 I hE) fun u s1 ⟨v, H1, I1, rv, F1, m1, p, C, fs, sp, ev, s01, r1, en1, e2, e3, q1⟩ => ?_)
  subst ev
  obtain rfl : u = Value.ref p := rv
  obtain ⟨pa, gf, fd, ps, c, hp, F, hb⟩ := HP C sp e3
  obtain ⟨dx, gs, ha, dp⟩ := r1.ins e2
  exact getprop_ok (E := fun _ _ _ => False) I1 ha c hp F hr hb .nil (fun _ _ _ _ _ _ _ z => by
    obtain ⟨_, _, _, _, _, _, _, _, _, _, _, _, z⟩ := z
    exact z.elim) (lift_quiet r1 (Dens.one (by simp only [Den])) q1 fun v H' F' m' d s => kQ v H' F' m' d (s01.trans s))
@[simp ↓] theorem ev_lenT {tbl : Tbl} {we : WE} {env : En} {m : Mem} {Q : Po} {E : Xo} : wLenT tbl we env m Q E = we env m (fun d m1 => Is (insOf m1 d) (fun q => Is (tbl.lookup q.1) (fun sp => AppN sp [d] m1 (lenK Q) .mk) .mk) .mk) E := rfl
@[simp ↓] theorem ev_inT {tbl : Tbl} {x y : D} {m : Mem} {Q : Po} {E : Xo} : inT tbl x y m Q E = Is (insOf m y) (fun q => Is (tbl.lookup q.1) (fun sp => AppN sp [y, x] m (boolK Q) .mk) .mk) .mk := rfl
@[simp ↓] theorem ev_propT {tbl : Tbl} {we : WE} {env : En} {m : Mem} {Q : Po} {E : Xo} : wPropT tbl we env m Q E = we env m (fun d m1 => Is (insOf m1 d) (fun q => Is (tbl.lookup q.1) (fun sp => AppN sp [d] m1 Q .mk) .mk) .mk) E := rfl
/-- e.f, a constant of the classes -/
@[simp ↓] theorem ev_con {cs : List Str} {f : Str} {v : D} {we : WE} {env : En} {m : Mem} {Q : Po} {E : Xo} : wCon cs f v we env m Q E = we env m (fun d m1 => Is (insOf m1 d) (fun q => q.1 ∈ cs ∧ q.2.lookup f = none ∧ Q v m1) .mk) E := by
  unfold wCon
  refine congrArg (fun z => we env m z E) (by
    funext d m1
    apply propext
    constructor
    · rintro ⟨p, C, fs, rfl, h1, h2, h3, h4⟩
      exact ⟨(C, fs), insOf_iff.mpr h1, h2, h3, h4⟩
    · rintro ⟨⟨C, fs⟩, h1, h2, h3, h4⟩
      obtain ⟨p, rfl, h5⟩ := insOf_some h1
      exact ⟨p, C, fs, rfl, h5, h2, h3, h4⟩)
/-! ### errors as values -/
def xoK (cs : List Str) (f : Str) (Q : Po) (d : D) (m : Mem) : Prop := ∃ a c dd ns xs e, d = .exc a c dd ns xs ∧ m a = some (.err c dd) ∧ c ∈ cs ∧ (ns.zip xs).lookup f = some e ∧ Q e m
@[simp ↓] theorem ev_xo {cs : List Str} {f : Str} {we : WE} {env : En} {m : Mem} {Q : Po} {E : Xo} : wXo cs f we env m Q E = we env m (xoK cs f Q) E := rfl
theorem xoK.intro {cs : List Str} {f : Str} {Q : Po} {a : Addr} {x : Exc} {dd : Option Addr} {m : Mem} {e : D} (h1 : m a = some (.err x.cls dd)) (h2 : x.cls ∈ cs) (h3 : x.fs.lookup f = some e) (q : Q e m) : xoK cs f Q (excD a x dd) m :=
  ⟨a, x.cls, dd, _, _, e, rfl, h1, h2, by rw [zip_maps]; exact h3, q⟩
def isoK (tbl : Str → Option Bool) (Q : Po) (d : D) (m : Mem) : Prop := ∃ a c dd ns xs b, d = .exc a c dd ns xs ∧ ns ≠ [] ∧ m a = some (.err c dd) ∧ tbl c = some b ∧ Q (.bl b) m
@[simp ↓] theorem ev_iso {tbl : Str → Option Bool} {we : WE} {env : En} {m : Mem} {Q : Po} {E : Xo} : wIsO tbl we env m Q E = we env m (isoK tbl Q) E := rfl
theorem isoK.intro {tbl : Str → Option Bool} {Q : Po} {a : Addr} {dd : Option Addr} {x : Exc} {m : Mem} {b : Bool} (h0 : x.fs ≠ []) (h1 : m a = some (.err x.cls dd)) (h2 : tbl x.cls = some b) (q : Q (.bl b) m) : isoK tbl Q (excD a x dd) m :=
  ⟨a, x.cls, dd, _, _, b, rfl, by simpa using h0, h1, h2, q⟩
/-! ### comprehensions with a state -/
def LcG (g : WG) (wt : WT) (we : WE) (vs : List Nat) (env : En) (Q : Po) (ds : List D) (keep : Mem → Prop) (m1 : Mem) : Prop := ∀ p, m1 p = none → ∃ Iv : List D → List D → List D → Mem → Prop, Iv [] ds [] (m1.put p (.lst [])) ∧
  (∀ done d rest acc m, ds = done ++ d :: rest → Iv done (d :: rest) acc m → keep m ∧ m p = some (.lst acc) ∧ acc.length < sizeLine ∧ g d (wipeD env vs) m (fun e2 m2 => wt e2 m2 (fun b m3 =>
    if b = true then we e2 m3 (fun y m4 => m4 p = some (.lst acc) ∧ Iv (done ++ [d]) rest (acc ++ [y]) (m4.put p (.lst (acc ++ [y])))) noX else Iv (done ++ [d]) rest acc m3) noX)) ∧
  ∀ acc m, Iv ds [] acc m → keep m ∧ m p = some (.lst acc) ∧ Q (.ref p) m
def rngG (g : WG) (wt : WT) (we : WE) (vs : List Nat) (env : En) (Q : Po) (t : Tag Q) (ds : List D) (m1 : Mem) : Prop := ∃ j : Int, ds = [.int j] ∧ -(2 ^ 62) ≤ j ∧ j < 2 ^ 62 ∧ LcG g wt we vs env Q (rngD 0 j.toNat) (fun _ => True) m1
@[simp ↓] theorem ev_lcR {wa : WA} {g : WG} {wt : WT} {we : WE} {vs : List Nat} {env : En} {m : Mem} {Q : Po} {E : Xo} : wLc (wiRng1 wa) g wt we vs env m Q E = wa env m (rngG g wt we vs env Q .mk) E := rfl
/-- over range(n), one name -/
theorem rngG.intro {i : Nat} {wt : WT} {we : WE} {vs : List Nat} {env : En} {Q : Po} {t : Tag Q} {m1 : Mem} {j : Int} (n : Nat) (hj : j = n) (hn : n ≤ 1000000) (h : ∀ p, m1 p = none → ∃ I : Nat → List D → Mem → Prop, I 0 [] (m1.put p (.lst [])) ∧
    (∀ i' acc m, i' < n → I i' acc m → m p = some (.lst acc) ∧ acc.length < sizeLine ∧ wt ((wipeD env vs).set i (some (.int (i' : Nat)))) m (fun b m3 => if b = true then we ((wipeD env vs).set i (some (.int (i' : Nat)))) m3 (fun y m4 => m4 p = some (.lst acc) ∧ I (i' + 1) (acc ++ [y]) (m4.put p (.lst (acc ++ [y])))) noX else I (i' + 1) acc m3) noX) ∧
    ∀ acc m, I n acc m → m p = some (.lst acc) ∧ Q (.ref p) m) : rngG (gN i) wt we vs env Q t [.int j] m1 := by
  subst hj
  refine ⟨n, rfl, by omega, by omega, fun p hp => ?_⟩
  obtain ⟨I, h0, h1, h2⟩ := h p hp
  rw [show ((n : Int)).toNat = n by omega]
  refine ⟨fun done _ acc m => I done.length acc m, h0, fun done d rest acc m e iv => ?_, fun acc m iv => ⟨trivial, h2 acc m (by simpa [rngD_length] using iv)⟩⟩
  have hl : done.length < n := by
    have := congrArg List.length e
    rw [rngD_length] at this
    simp at this; omega
  have hd : d = .int (done.length : Nat) := by
    have e1 : (rngD 0 n)[done.length]? = some d := by rw [e]; simp
    simp [rngD, hl] at e1
    exact e1.symm
  subst hd
  obtain ⟨a, b, c⟩ := h1 _ acc m hl iv
  refine ⟨trivial, a, b, ?_⟩
  simpa [gN] using c
/-! ### comprehensions without, over enumerate and items -/
def enumB (g : WG) (wt : WT) (we : WE) (vs : List Nat) (env : En) (Q : Po) (t : Tag Q) (l : List D) (m1 : Mem) : Prop := ∃ d ds, l = [d] ∧ (∀ ys, d ≠ .tup ys) ∧ seqOf m1 d = some ds ∧ LcB g wt we vs env m1 (enumD ds) (fun m' => seqOf m' d = some ds) (fun r => Q (.lst r) m1)
@[simp ↓] theorem ev_lcE {wa : WA} {g : WG} {wt : WT} {we : WE} {vs : List Nat} {env : En} {m : Mem} {Q : Po} {E : Xo} : wLcP (wiEnum wa) g wt we vs env m Q E = wa env m (enumB g wt we vs env Q .mk) E := rfl
def itemB (g : WG) (wt : WT) (we : WE) (vs : List Nat) (env : En) (Q : Po) (t : Tag Q) (d : D) (m1 : Mem) : Prop := ∃ p o qs kvs, d = .ref p ∧ m1 p = some (.fdct o qs kvs) ∧ LcB g wt we vs env m1 (kvs.map pairD) (fun m' => m' p = some (.fdct o qs kvs)) (fun r => Q (.lst r) m1)
@[simp ↓] theorem ev_lcI {w : WE} {g : WG} {wt : WT} {we : WE} {vs : List Nat} {env : En} {m : Mem} {Q : Po} {E : Xo} : wLcP (wiItems w) g wt we vs env m Q E = w env m (itemB g wt we vs env Q .mk) E := rfl
def ForE (g : WG) (wb : WS) (Z : De) (env : En) (l : List D) (m1 : Mem) : Prop := ∃ d ds, l = [d] ∧ (∀ ys, d ≠ .tup ys) ∧ seqOf m1 d = some ds ∧ ForB g wb Z env m1 (enumD ds) (fun m' => seqOf m' d = some ds)
@[simp ↓] theorem ev_forE {wa : WA} {g : WG} {wb : WS} {Z : De} {env : En} {m : Mem} : sFor (wiEnum wa) g wb Z env m = wa env m (ForE g wb Z env) (fun x m1 => Z.xc x env m1) := rfl
end
end DL

/-! D31: dict displays with keys that are texts. -/
namespace DL
open PySem PySem.Spec PyProof.Rows L2 NdefX
section
variable {X : Cx}
inductive DPs (X : Cx) : List (Option Expr) → List Expr → List Str → WA → Prop
  | nil : DPs X [] [] [] wNil
  | cons {x : Str} {ke e : Expr} {we : WE} {keys : List (Option Expr)} {values : List Expr} {ks : List Str} {wa : WA} (hk : DE X ke (wC (.str x))) (hv : DE X e we) (r : DPs X keys values ks wa) : DPs X (some ke :: keys) (e :: values) (x :: ks) (wCons we wa)
def strK (ks : List Str) (vs : List V) : List (V × V) := (ks.map V.str).zip vs
theorem DPs.pps {keys : List (Option Expr)} {values : List Expr} {ks : List Str} {wa : WA} (h : DPs X keys values ks wa) (pos : Pos) : ∃ trs, PPs X pos keys values trs ∧ ∀ (σ : L2.St) (H : Hp) (Q : List (V × V) → Hp → Prop), tWA X wa σ H (fun vs H' => Q (strK ks vs) H') → tPairs trs σ H Q := by
  induction h with
  | nil => exact ⟨[], pps_nil, fun σ H Q ⟨F, m, env, Qd, xc, r, en, a, q, k⟩ => k [] H F m [] (Sub.refl F) r Dens.nil q⟩
  | @cons x ke e we keys values ks wa hk hv r ih =>
    obtain ⟨trs, hp, ih⟩ := ih
    refine ⟨_, pps_cons hk hv hp, fun σ H Q ⟨F, m, env, Qd, xc, r, en, a, q, k⟩ => ?_⟩
    refine ⟨F, m, env, fun d m' => d = .str x ∧ m' = m, xc, r, en, a, ⟨rfl, rfl⟩, fun v H' F' m' d s r' dn ⟨e1, e2⟩ => ?_⟩
    subst e1 e2
    simp only [Den] at dn
    subst dn
    refine tW.sub r' (en.mono s) (a.mono s) q fun v1 H1 F1 m1 d1 s1 r1 en1 dn1 q1 => ih σ H1 _ ?_
    exact tWA.sub r1 en1 (a.mono (s.trans s1)) q1 fun vs H2 F2 m2 ds s2 r2 en2 dn2 q2 => k (v1 :: vs) H2 F2 m2 (d1 :: ds) ((s.trans s1).trans s2) r2 (Dens.cons (dn1.mono s2) dn2) q2
def mergeD (kvs : List (Key × D)) : List (Key × D) → List (Key × D)
  | [] => kvs
  | p :: r => mergeD (putD kvs p.1 p.2) r
theorem merge_den {K : Frag} {F : Hp} : ∀ {ks : List Str} {ds : List D} {vs : List V} {kvs : List (Key × D)} {qs : List (Key × V)}, Dens K F ds vs → DenP K F kvs qs → DenP K F (mergeD kvs ((ks.map Sum.inr).zip ds)) (mergeK qs ((ks.map (Sum.inr : Str → Key)).zip vs))
  | [], _, _, _, _, _, h => by simpa [mergeD, mergeK] using h
  | _ :: _, [], _, _, _, d, h => by
    simp only [Dens] at d
    subst d
    simpa [mergeD, mergeK] using h
  | x :: ks, d :: ds, _, kvs, qs, dd, h => by
    simp only [Dens] at dd
    obtain ⟨v, r, rfl, h1, h2⟩ := dd
    exact merge_den (ks := ks) h2 (putD_den h1 h)
def wDisp (ks : List Str) (wa : WA) : WE := fun env m Q E => ∀ p, m p = none → wa env (m.put p (.dct [])) (fun ds m2 => m2 p = some (.dct []) ∧ ds.length = ks.length ∧ Q (.ref p) (m2.put p (.dct (mergeD [] ((ks.map Sum.inr).zip ds))))) E
theorem ddisp {pos : Pos} {keys : List (Option Expr)} {values : List Expr} {ks : List Str} {wa : WA} (h : DPs X keys values ks wa) (h15 : keys.length ≤ 15 := by decide) (hks : ks.length ≤ 15 := by decide) (hall : keys.all (·.isSome) = true := by rfl) (hl : keys.length = values.length := by rfl) (h0 : keys ≠ [] := by exact fun z => nomatch z) : DE X (.Dict keys values pos) (wDisp ks wa) := by
  obtain ⟨trs, hp, ht⟩ := h.pps pos
  refine wkE (pe_disp hp hall hl h0 h15) fun σ H Q ⟨F, m, env, Qd, xc, r, en, a, q, k⟩ => fun p hpn => ht σ _ _ ?_
  have r1 : Rel X.K F (m.put p (.dct [])) (upd H p (.dK [])) := r.fresh hpn (by simp only [CellOk]; exact ⟨[], upd_same, .nil⟩)
  refine tWA.sub r1 en a (q p (r.free hpn).2) fun vs H2 F2 m2 ds s2 r2 en2 dn2 ⟨e1, e2, q2⟩ => ?_
  obtain ⟨_, cq⟩ := r2.me p _ e1
  simp only [CellOk] at cq
  obtain ⟨qs, hq, dq⟩ := cq
  cases dq
  refine ⟨hq, (ks.map (Sum.inr : Str → Key)).zip vs, ?_, ?_, ?_⟩
  · unfold strK
    have : ∀ (ks : List Str) (vs : List V), (ks.map V.str).zip vs = ((ks.map (Sum.inr : Str → Key)).zip vs).map (fun kv => (kV kv.1, kv.2)) := by
      intro ks
      induction ks with
      | nil => intro vs; rfl
      | cons x ks ih => intro vs; cases vs with
        | nil => rfl
        | cons v vs => simp only [List.map_cons, List.zip_cons_cons, ih]; rfl
    exact this ks vs
  · have := List.length_zip (l₁ := ks.map (Sum.inr : Str → Key)) (l₂ := vs)
    rw [this, List.length_map]; omega
  · refine k _ _ F2 _ (.ref p) s2 (r2.store e1 ?_) (by simp only [Den]) q2
    simp only [CellOk]
    exact ⟨_, upd_same, merge_den dn2 .nil⟩
@[simp ↓] theorem ev_disp {ks : List Str} {wa : WA} {env : En} {m : Mem} {Q : Po} {E : Xo} : wDisp ks wa env m Q E = ∀ p, m p = none → wa env (m.put p (.dct [])) (fun ds m2 => Is (dctOf m2 (.ref p)) (fun z => z = [] ∧ ds.length = ks.length ∧ Q (.ref p) (m2.put p (.dct (mergeD [] ((ks.map Sum.inr).zip ds))))) .mk) E := by
  unfold wDisp
  refine forall_congr fun p => forall_congr fun _ => congrArg (fun z => wa env (m.put p (.dct [])) z E) (by
    funext ds m2
    apply propext
    constructor
    · rintro ⟨h1, h2, h3⟩; exact ⟨[], dct_iff.mpr h1, rfl, h2, h3⟩
    · rintro ⟨z, h1, rfl, h2, h3⟩; exact ⟨dct_iff.mp h1, h2, h3⟩)
end
end DL

/-! D32: the Hook with getters of properties; facts of own classes as tests; constants read on the class. -/
namespace DL
open PySem PySem.Spec PyProof.Rows L2 NdefX ClX
/-! ### getters -/
/-- where a property's object stands, its getter -/
def ppA (K : Frag) (C f : Str) : Addr := He.ma K (ga K C) f
def gtA (K : Frag) (C f : Str) : Addr := match PySem.W.recIn K (ppA K C f) "property" with
  | some (.ref g :: _) => g
  | _ => 0
structure GetD where
  cls : Str
  nm : Str
  qual : Str
  params : Arguments
  body : List Stmt
  scope : Scope
def fnG (K : Frag) (d : GetD) : He.FnW := match K.lookup (gtA K d.cls d.nm) with
  | some ⟨_, _, .func fd, _⟩ => some (fd.name, fd.qualname, fd.params, fd.body, fd.scope, fd.globals, fd.closure, fd.builtins)
  | _ => none
def GetD.val (d : GetD) : He.FnW := some (d.nm, d.qual, d.params, .stmts d.body, d.scope, mainGlobals, [], builtinsNs)
def noDfl : Value → Bool
  | .none => true
  | _ => false
def GetD.ok (K : Frag) (d : GetD) : Bool := He.eqO (PySem.W.findIn K (.ref (ga K d.cls)) d.nm) (some (some (.ref (ppA K d.cls d.nm)))) && (He.eqO (PySem.W.specialIn K (.ref (ppA K d.cls d.nm)) "__get__") (some (some (.builtin "property.__get__"))) && (decide (PySem.W.takesIn K (.ref (ppA K d.cls d.nm)) = some true) &&
  ((match PySem.W.recIn K (ppA K d.cls d.nm) "property" with | some (.ref _ :: _) => true | _ => false) && (PySem.W.keepIn K (.ref (gtA K d.cls d.nm)) && (match K.lookup (gtA K d.cls d.nm) with
  | some ⟨_, _, .func fd, _⟩ => PySem.W.codeIn K fd.code d.qual && noDfl fd.defaults
  | _ => false)))))
theorem GetD.prop {K : Frag} {d : GetD} (c : d.ok K = true) : PropOf K (ga K d.cls) d.nm (ppA K d.cls d.nm) (gtA K d.cls d.nm) := by
  obtain ⟨h1, c⟩ := He.ba c
  obtain ⟨h2, c⟩ := He.ba c
  obtain ⟨h3, c⟩ := He.ba c
  obtain ⟨h4, c⟩ := He.ba c
  refine ⟨He.eqO_ok h1, He.eqO_ok h2, of_decide_eq_true h3, ?_⟩
  unfold gtA
  split at h4
  · rename_i g r e
    exact ⟨r, by rw [e]⟩
  · cases h4
theorem GetD.funD {K : Frag} {d : GetD} (e : fnG K d = d.val) (c : d.ok K = true) : ∃ fd, FunD K d.nm d.qual d.params d.body d.scope [] [] (gtA K d.cls d.nm) fd := by
  obtain ⟨_, c⟩ := He.ba c
  obtain ⟨_, c⟩ := He.ba c
  obtain ⟨_, c⟩ := He.ba c
  obtain ⟨_, c⟩ := He.ba c
  obtain ⟨kp, c2⟩ := He.ba c
  unfold fnG at e
  cases q : K.lookup (gtA K d.cls d.nm) with
  | none => rw [q] at c2; cases c2
  | some o =>
    obtain ⟨oc, od, dt, osl⟩ := o
    rw [q] at c2 e
    cases dt with
    | func fd =>
      obtain ⟨m1, m2, m3, m4, m5, m6, m7, m8, m9, m10, m11, m12, m13, m14, m15⟩ := fd
      have e2 : (some (m1, m2, m3, m4, m5, m6, m7, m15) : He.FnW) = some (d.nm, d.qual, d.params, .stmts d.body, d.scope, mainGlobals, [], builtinsNs) := e
      simp only [Option.some.injEq, Prod.mk.injEq] at e2
      obtain ⟨g1, g2, g3, g4, g5, g6, g7, g8⟩ := e2
      subst g1 g2 g3 g4 g5 g6 g7 g8
      obtain ⟨k1, k2⟩ := He.ba (show (PySem.W.codeIn K m13 d.qual && noDfl m8) = true from c2)
      cases m8 with
      | none => exact ⟨_, ⟨oc, od, .none, m9, m10, m11, m12, m13, m14, osl, rfl, q, k1, .inl ⟨rfl, rfl⟩, .inl rfl⟩, kp⟩
      | _ => cases k2
    | _ => cases c2
/-! ### the Hook -/
abbrev AlQ : Type := AlZ × Bool × List He.FnW
def obsQG (n : Nat) (file : Str) (fa : List He.Fa) (fn : List He.DefD) (er : List ErrD) (tf : List He.Defn) (gs : List GetD) (ex : Frag → Bool) (g : Addr → Option Obj) : AlQ := (obsZG n file fa fn er tf ex g, gs.all (fun d => d.ok (He.frT g (asY g n))), gs.map fun d => fnG (He.frT g (asY g n)) d)
def valQ (fn : List He.DefD) (er : List ErrD) (gs : List GetD) : AlQ := (valZ fn er, true, gs.map GetD.val)
structure SaysQ (file : Str) (fa : List He.Fa) (fn : List He.DefD) (er : List ErrD) (tf : List He.Defn) (gs : List GetD) (ex : Frag → Bool) (h : Heap) (K : Frag) : Prop where
  z : SaysZ file fa fn er tf ex h K
  gt : ∀ d ∈ gs, fnG K d = d.val ∧ d.ok K = true
theorem saysQ_of {n : Nat} {file : Str} {fa : List He.Fa} {fn : List He.DefD} {er : List ErrD} {tf : List He.Defn} {gs : List GetD} {ex : Frag → Bool} {h : Heap} (e : obsQG n file fa fn er tf gs ex h.get? = valQ fn er gs) : SaysQ file fa fn er tf gs ex h (He.frT h.get? (asY h.get? n)) := by
  have e1 : obsZG n file fa fn er tf ex h.get? = valZ fn er := congrArg (fun z : AlQ => z.1) e
  have e2 : gs.all (fun d => d.ok (He.frT h.get? (asY h.get? n))) = true := congrArg (fun z : AlQ => z.2.1) e
  have e3 : (gs.map fun d => fnG (He.frT h.get? (asY h.get? n)) d) = gs.map GetD.val := congrArg (fun z : AlQ => z.2.2) e
  refine ⟨saysZ_of e1, fun d hd => ⟨?_, List.all_eq_true.mp e2 d hd⟩⟩
  obtain ⟨i, hi, rfl⟩ := List.getElem_of_mem hd
  have := congrArg (fun l => l[i]?) e3
  simpa [hi] using this
def hookQ (n : Nat) (file : Str) (fa : List He.Fa) (fn : List He.DefD) (er : List ErrD) (tf : List He.Defn) (gs : List GetD) (ex : Frag → Bool) : PySem.W.Hook where
  α := AlQ
  obs := fun s => obsQG n file fa fn er tf gs ex s.heap.get?
  val := fun _ => valQ fn er gs
  says := fun _ h => ∃ K : Frag, K.In h ∧ SaysQ file fa fn er tf gs ex h K
  of := fun _ _ e => ⟨_, He.frT_in, saysQ_of e⟩
  keeps := fun _ _ _ ⟨K, hK, c⟩ k => ⟨K, PySem.W.Frag.In.keeps hK k, ⟨c.z.y, c.z.hd, c.z.out, fun p hp => k _ _ (c.z.nil p hp)⟩, c.gt⟩
theorem obsQG_eq {n : Nat} {file : Str} {fa : List He.Fa} {fn : List He.DefD} {er : List ErrD} {tf : List He.Defn} {gs : List GetD} {ex : Frag → Bool} {g : Addr → Option Obj} {s : Shared} (h : ∀ a, g a = s.heap.get? a) : obsQG n file fa fn er tf gs ex g = (hookQ n file fa fn er tf gs ex).obs s := by
  rw [show g = s.heap.get? from funext h]
  first | rfl | trivial
/-! ### tests -/
/-- the class C has the constant f, the text x -/
def conB (K : Frag) (C f x : Str) : Bool := match PySem.W.findIn K (.ref (ga K C)) f with
  | some (some (.str y t)) => decide (y = x) && (decide (PySem.W.specialIn K (.str y t) "__get__" = some none) && !(PySem.W.copiedNames.contains f))
  | _ => false
theorem conB_ok {K : Frag} {C f x : Str} (h : conB K C f x = true) : ∃ vv u, Con K (ga K C) f vv u ∧ ∀ F, Den K F (.str x) vv := by
  unfold conB at h
  split at h
  · rename_i y t e
    obtain ⟨h1, h⟩ := He.ba h
    obtain ⟨h2, h3⟩ := He.ba h
    have ey : y = x := of_decide_eq_true h1
    subst ey
    exact ⟨.str y, .str y t, ⟨e, ⟨t, rfl⟩, of_decide_eq_true h2, by simpa using h3⟩, fun F => by simp only [Den]⟩
  · cases h
/-- .. read on the class -/
def cvlB (K : Frag) (C f x : Str) : Bool := PySem.W.readsIn K (ga K C) (.type "type") && (decide (PySem.W.specialIn K (.ref (ga K C)) "__getattribute__" = some (some (.builtin "type.__getattribute__"))) && (match PySem.W.findCls K (.ref (ga K C)) (.type "type") f with
  | some (.val (.str y _)) => decide (y = x)
  | _ => false))
theorem cvlB_ok {K : Frag} {C f x : Str} (h : cvlB K C f x = true) : CRead K (ga K C) (.type "type") ∧ ∃ u, CVal K (ga K C) (.type "type") f (.str x) u := by
  obtain ⟨h1, h⟩ := He.ba h
  obtain ⟨h2, h3⟩ := He.ba h
  refine ⟨⟨h1, of_decide_eq_true h2⟩, ?_⟩
  split at h3
  · rename_i y t e
    have ey : y = x := of_decide_eq_true h3
    subst ey
    exact ⟨_, e, ⟨t, rfl⟩⟩
  · cases h3
section
variable {X : Cx}
theorem dcval {C f x : Str} {p pos : Pos} (h : CRead X.K (ga X.K C) (.type "type") ∧ ∃ u, CVal X.K (ga X.K C) (.type "type") f (.str x) u) (hg : Gl X C) (hm : X.mg C = some (.ref (ga X.K C))) (hdb : (C == ("__debug__" : Str)) = false := by decide) (hb : attributeBase (.Name C p) f X.env (eval (.Name C p) X.env) = eval (.Name C p) X.env := by rfl) :
    DE X (.Attribute (.Name C p) f pos) (wC (.str x)) :=
  wkE (pe_cval (pe_glob (v := V.ref (ga X.K C)) hg hm rfl hdb) hb) fun σ H Q ⟨F, m, env, Qd, xc, r, en, a, q, k⟩ => by
    obtain ⟨h1, u, h2⟩ := h
    exact ⟨_, _, .str x, u, rfl, h1, h2, k _ H F m (.str x) (Sub.refl F) r (by simp only [Den]) q⟩
end
/-- what isinstance and except ask of an error's class -/
def excCB (K : Frag) (D : Addr) : Bool := He.eqO (PySem.W.findIn K (.ref D) "__getattribute__") (some (some (.builtin "BaseException.__getattribute__"))) && (He.eqO (PySem.W.findIn K (.ref D) "__getattr__") (some none) && (decide (PySem.W.subIn K (.ref D) (.type "BaseException") = some true) && (PySem.W.hasDictIn K D &&
  (He.eqO (PySem.W.findIn K (.ref D) "__class__") (some (some (.builtin "object.__class__"))) && (He.eqO (PySem.W.specialIn K (.builtin "object.__class__") "__get__") (some (some (.builtin "getset_descriptor.__get__"))) && (decide (PySem.W.takesIn K (.builtin "object.__class__") = some true) && decide (PySem.W.mroIn K D (.type "object") = some true)))))))
theorem excCB_ok {K : Frag} {D : Addr} (h : excCB K D = true) : ExcC K D := by
  obtain ⟨h1, h⟩ := He.ba h
  obtain ⟨h2, h⟩ := He.ba h
  obtain ⟨h3, h⟩ := He.ba h
  obtain ⟨h4, h⟩ := He.ba h
  obtain ⟨h5, h⟩ := He.ba h
  obtain ⟨h6, h⟩ := He.ba h
  obtain ⟨h7, h8⟩ := He.ba h
  exact ⟨He.eqO_ok h1, He.eqO_ok h2, of_decide_eq_true h3, h4, He.eqO_ok h5, He.eqO_ok h6, of_decide_eq_true h7, of_decide_eq_true h8⟩
def kitBB (K : Frag) (s x : Str) (b : Bool) : Bool := excCB K (ga K s) && decide (PySem.W.kitOne K (.ref (ga K s)) (.ref (ga K x)) = some b)
/-- a table of isinstance: yes, no -/
structure IsTb (K : Frag) (x : Str) (yes no : List Str) : Prop where
  yes : ∀ s ∈ yes, ExcC K (ga K s) ∧ PySem.W.kitOne K (.ref (ga K s)) (.ref (ga K x)) = some true
  no : ∀ s ∈ no, ExcC K (ga K s) ∧ PySem.W.kitOne K (.ref (ga K s)) (.ref (ga K x)) = some false
def isTB (K : Frag) (x : Str) (yes no : List Str) : Bool := (yes.all fun s => kitBB K s x true) && no.all fun s => kitBB K s x false
theorem isTB_ok {K : Frag} {x : Str} {yes no : List Str} (h : isTB K x yes no = true) : IsTb K x yes no := by
  obtain ⟨h1, h2⟩ := He.ba h
  refine ⟨fun s hs => ?_, fun s hs => ?_⟩
  · obtain ⟨a, b⟩ := He.ba (List.all_eq_true.mp h1 s hs)
    exact ⟨excCB_ok a, of_decide_eq_true b⟩
  · obtain ⟨a, b⟩ := He.ba (List.all_eq_true.mp h2 s hs)
    exact ⟨excCB_ok a, of_decide_eq_true b⟩
theorem IsTb.hit {K : Frag} {x : Str} {yes no : List Str} (t : IsTb K x yes no) : ∀ s b, DL.hit yes no s = some b → ExcC K (ga K s) ∧ PySem.W.kitOne K (.ref (ga K s)) (.ref (ga K x)) = some b := fun s b e => by
  unfold DL.hit at e
  split at e
  · cases e; exact t.yes s (by assumption)
  · split at e
    · cases e; exact t.no s (by assumption)
    · cases e
end DL

/-! D33: len of a dict; items that are walked, shut. -/
namespace DL
open PySem PySem.Spec PyProof.Rows L2 NdefX
def fLenD : FB := fun ds m Q => match ds with
  | [d] => ∃ kvs, dctOf m d = some kvs ∧ Q (.int (kvs.length : Nat)) m
  | _ => False
section
variable {X : Cx}
theorem bd_lenD : BD X (fun xs H Q => ∃ a kvs, xs = [V.ref a] ∧ H a = some (.dK kvs) ∧ Q (.int kvs.length) H) fLenD := fun F m H ds vs Qd Q r dn q k => by
  match ds, q with
  | [d], q =>
    obtain ⟨kvs, e, q⟩ := q
    obtain ⟨v, rfl, d1⟩ := dens1 dn
    obtain ⟨a, qs, rfl, rfl, hm, ha, dp⟩ := r.dct d1 e
    exact ⟨a, qs, rfl, ha, by rw [← dp.length]; exact k _ H F m _ (Sub.refl F) r (by simp only [Den]) q⟩
theorem dlenD {p pos : Pos} {e : Expr} {we : WA} (hg : Gl X "len") (hm : X.mg "len" = none) (ha : DA X [e] we) (he : starEach [e] X.env = (false, eval e X.env) :: starEach [] X.env := by rfl) : DE X (.Call (.Name "len" p) [e] [] pos) (wCB fLenD we) := dcb call_lenD bd_lenD hg hm PySem.boot_len ha (he := he)
end
@[simp ↓] theorem fLenD_ {d : D} {m : Mem} {Q : Po} : fLenD [d] m Q = Is (dctOf m d) (fun kvs => Q (.int (kvs.length : Nat)) m) .mk := by simp [fLenD, Is]
theorem inj_kyD : ∀ a b : Key, kyD a = kyD b → a = b := fun a b h => by
  cases a <;> cases b <;> simp only [kyD] at h <;> first | (cases h; rfl) | cases h
theorem inj_pairD : ∀ a b : Key × D, pairD a = pairD b → a = b := fun ⟨a1, a2⟩ ⟨b1, b2⟩ h => by
  injection h with h
  injection h with h1 h2
  injection h2 with h2 _
  have h1 : a1 = b1 := inj_kyD _ _ h1
  have h2 : a2 = b2 := h2
  rw [h1, h2]
theorem wLock.intro {w : WE} {env : En} {m : Mem} {Q : Po} {E : Xo} {p : Addr} {kvs : List (Key × D)} (h : m p = some (.dct kvs)) (q : ∀ o qs, w env (m.put p (.fdct o qs kvs)) (fun x m' => m' p = some (.fdct o qs kvs) ∧ Q x (m'.put p (.dct kvs))) (fun _ _ => False)) : wLock w env m Q E := ⟨p, kvs, h, q⟩
theorem itemB.intro {β : Type} {g : WG} {wt : WT} {we : WE} {vs : List Nat} {env : En} {Q : Po} {t : Tag Q} {p : Addr} {m1 : Mem} {o : Obj} {qs : List (Key × V)} {kvs : List (Key × D)} (h : m1 p = some (.fdct o qs kvs)) (hz : kvs.length ≤ sizeLine) (f : Key × D → Option β) (ψ : β → D)
    (turn : ∀ a ∈ kvs, ∀ m', m1.le m' → g (pairD a) (wipeD env vs) m' (fun e2 m2 => wt e2 m2 (fun b m3 => if b = true then we e2 m3 (fun y m4 => m4 = m' ∧ (f a).map ψ = some y) noX else m3 = m' ∧ f a = none) noX)) (q : Q (.lst ((kvs.filterMap f).map ψ)) m1) : itemB g wt we vs env Q t (.ref p) m1 :=
  ⟨p, o, qs, kvs, rfl, h, LcB.intro kvs pairD f ψ inj_pairD rfl hz (fun m' hm => hm p _ h) turn q⟩
theorem inj_enum {α : Type} {φ : α → D} (hφ : ∀ a b, φ a = φ b → a = b) : ∀ a b : α × Nat, (D.tup [.int (a.2 : Nat), φ a.1]) = (D.tup [.int (b.2 : Nat), φ b.1]) → a = b := fun ⟨a1, a2⟩ ⟨b1, b2⟩ h => by
  injection h with h
  injection h with h1 h2
  injection h1 with h1
  injection h2 with h2 _
  have h2 : φ a1 = φ b1 := h2
  have h1 : (a2 : Int) = b2 := h1
  rw [hφ _ _ h2, show a2 = b2 by omega]
theorem enumD_map {α : Type} (φ : α → D) (l : List α) : enumD (l.map φ) = l.zipIdx.map fun p => .tup [.int (p.2 : Nat), φ p.1] := by
  unfold enumD
  rw [List.zipIdx_map, List.map_map]
  rfl
theorem enumB.intro {α β : Type} {g : WG} {wt : WT} {we : WE} {vs : List Nat} {env : En} {Q : Po} {t : Tag Q} {d : D} {m1 : Mem} (l : List α) (φ : α → D) (hφ : ∀ a b, φ a = φ b → a = b) (nt : ∀ ys, d ≠ .tup ys) (h : seqOf m1 d = some (l.map φ)) (hz : l.length ≤ sizeLine) (f : α × Nat → Option β) (ψ : β → D)
    (turn : ∀ a ∈ l.zipIdx, ∀ m', m1.le m' → g (.tup [.int (a.2 : Nat), φ a.1]) (wipeD env vs) m' (fun e2 m2 => wt e2 m2 (fun b m3 => if b = true then we e2 m3 (fun y m4 => m4 = m' ∧ (f a).map ψ = some y) noX else m3 = m' ∧ f a = none) noX)) (q : Q (.lst ((l.zipIdx.filterMap f).map ψ)) m1) : enumB g wt we vs env Q t [d] m1 :=
  ⟨d, _, rfl, nt, h, LcB.intro l.zipIdx (fun a => .tup [.int (a.2 : Nat), φ a.1]) f ψ (inj_enum hφ) (enumD_map φ l) (by rw [List.length_zipIdx]; exact hz) (fun m' hm => seqOf_le hm h) turn q⟩
end DL

/-! D34: getters and methods keep their promises. -/
namespace DL
open PySem PySem.Spec PyProof.Rows L2 NdefX
section
variable {P : Program} {w : World} {K : Frag} {mg : Str → Option Value} {base : Heap} {k : Nat} {x qual : Str} {params : Arguments} {body : List Stmt} {scope : Scope} {f : Addr} {fd : FuncData} {N ps : List Str} {sp : SpD} {wb : WS}
theorem getter_ok {kws : List (Str × V)} (F : FunD K x qual params body scope [] kws f fd) (S : FnScope N ps scope) (hl : ∀ ds m Q E, sp ds m Q E → ds.length = ps.length) (der : Der false P w K mg base k N scope body wb)
    (spec : ∀ ds m Q E, sp ds m Q E → wb (Dend Q E) (startD N ds) m) : FnOk P w K mg base (CX P w) (k + 1) f fd ps (liftSp K sp) := by
  have ln : ∀ vs H Q E, liftSp K sp vs H Q E → vs.length = ps.length := fun vs H Q E ⟨F0, m, ds, QD, ED, r, dn, h, _⟩ => by
    rw [← dn.length]; exact hl _ _ _ _ h
  refine ⟨ln, fun A outer s H args us vs Q E hr e0 hb rv h => ?_⟩
  obtain ⟨oc, od, dV, kV, doc, pm, an, cdv, ct, osl, rfl, lk, hcd, hD, hK⟩ := F.ex
  exact LamX.run_ofS lk hcd S hr e0 hb rv (ln _ _ _ _ h) fun hr' => body_rule der spec ⟨hr', nofun⟩ h
theorem getter_binds {kws : List (Str × V)} (F : FunD K x qual params body scope [] kws f fd) (hb : ∀ (kV doc pm : Value) (an : Option Addr) (cdv ct : Value) (us : List Value), us.length = ps.length → bindArgs (PySem.W.fnOf x qual params body scope .none kV doc pm an cdv ct) ⟨us, []⟩ = pure (ps.zip us)) : Binds K fd ps [] := by
  obtain ⟨oc, od, dV, kV, doc, pm, an, cdv, ct, osl, rfl, lk, hcd, hD, hK⟩ := F.ex
  rcases hD with ⟨_, rfl⟩ | ⟨e, _⟩
  · exact Binds.all fun us h => hb kV doc pm an cdv ct us h
  · exact absurd rfl e
theorem HasP.one {nm C : Str} {pa gf : Addr} (c : Cls K (ga K C)) (p : PropOf K (ga K C) nm pa gf) (F : FnOk P w K mg base (CX P w) k gf fd ps (liftSp K sp)) (hb : Binds K fd ps []) : HasP P w K mg base k nm [(C, sp)] := fun C' sp' e => by
  rw [List.lookup_cons] at e
  split at e
  · rename_i h
    cases e
    have : C' = C := by simpa using h
    subst this
    exact ⟨pa, gf, fd, ps, c, p, F, hb⟩
  · cases e
theorem HasP.cons {nm C : Str} {pa gf : Addr} {tbl : Tbl} (c : Cls K (ga K C)) (p : PropOf K (ga K C) nm pa gf) (F : FnOk P w K mg base (CX P w) k gf fd ps (liftSp K sp)) (hb : Binds K fd ps []) (r : HasP P w K mg base k nm tbl) : HasP P w K mg base k nm ((C, sp) :: tbl) := fun C' sp' e => by
  rw [List.lookup_cons] at e
  split at e
  · rename_i h
    cases e
    have : C' = C := by simpa using h
    subst this
    exact ⟨pa, gf, fd, ps, c, p, F, hb⟩
  · exact r _ _ e
theorem HasP.mono {nm : Str} {tbl : Tbl} {j : Nat} (h : HasP P w K mg base j nm tbl) (l : j ≤ k) : HasP P w K mg base k nm tbl := fun C sp e =>
  let ⟨pa, gf, fd, ps, a, b, c, d⟩ := h C sp e
  ⟨pa, gf, fd, ps, a, b, c.mono l, d⟩
end
end DL

/-! D35: super().m(..) in a method of an own class. -/
namespace DL
open PySem PySem.Spec L2 NdefX
/-! ### judgements inside a def's own code -/
structure PEc (X : Cx) (body : List Stmt) (e : Expr) (t : TE) : Prop where
  run : ∀ (s : Shared) (σ : L2.St) (H : Hp) (Q : VK), Inv X [] σ H s → t σ H Q → wpAt (model X.prog X.w) X.A (.func body X.env) (eval e X.env) (EP X [] σ Q) X.xe s
structure PSc (X : Cx) (body : List Stmt) (st : Stmt) (t : TS) : Prop where
  run : ∀ (s : Shared) (σ : L2.St) (H : Hp) (D : Ends), Inv X [] σ H s → t D σ H → wpAt (model X.prog X.w) X.A (.func body X.env) (exec st X.env) (SP X [] D) X.xe s
structure PSsc (X : Cx) (body : List Stmt) (st : List Stmt) (t : TS) : Prop where
  run : ∀ (s : Shared) (σ : L2.St) (H : Hp) (D : Ends), Inv X [] σ H s → t D σ H → wpAt (model X.prog X.w) X.A (.func body X.env) (execs st X.env) (SP X [] D) X.xe s
section
variable {X : Cx} {body : List Stmt}
theorem PEc.of {e : Expr} {t : TE} (h : PE X e t) : PEc X body e t := ⟨fun s σ H Q I q => wpAt_of_wpAny (h.run [] s σ H Q I q)⟩
theorem PSc.of {st : Stmt} {t : TS} (h : PS X st t) : PSc X body st t := ⟨fun s σ H D I q => wpAt_of_wpAny (h.run [] s σ H D I q)⟩
theorem PSsc.of {st : List Stmt} {t : TS} (h : PSs X st t) : PSsc X body st t := ⟨fun s σ H D I q => wpAt_of_wpAny (h.run [] s σ H D I q)⟩
theorem pec_ifExp {c a b : Expr} {pos : Pos} {tA : TT} {ta tb : TE} (hc : PT X c tA) (ha : PEc X body a ta) (hb : PEc X body b tb) : PEc X body (.IfExp c a b pos) (tIf tA ta tb) := by
  refine ⟨fun s σ H Q I h => ?_⟩
  rw [arm_eval_IfExp]
  refine wpAt_bind (wpAt_of_wpAny (thn (hc.run [] s σ H _ I h) fun d s1 ⟨H1, I1, q1⟩ => ?_))
  cases d with
  | true => exact ha.run s1 σ H1 Q I1 q1
  | false => exact hb.run s1 σ H1 Q I1 q1
theorem psc_expr {e : Expr} {pos : Pos} {te : TE} (he : PEc X body e te) (hs : swapsWith e none pos.line X.env = pure false := by rfl) : PSc X body (.Expr e pos) (tDrop te) := by
  refine ⟨fun s σ H D I h => ?_⟩
  exact ks_wpAt_Expr_any (ks_wpAt_mono (he.run s σ H _ I h) (fun v s1 ⟨x, H1, I1, r1, q1⟩ => ⟨σ, H1, I1, q1⟩) fun _ _ z => z) I.quiet hs
theorem psc_ret {e : Expr} {pos : Pos} {te : TE} (he : PEc X body e te) : PSc X body (.Return (some e) pos) (tRet te) := by
  refine ⟨fun s σ H D I h => ?_⟩
  exact ks_wpAt_Return_some (ks_wpAt_mono (he.run s σ H _ I h) (fun v s1 ⟨x, H1, I1, r1, q1⟩ => ⟨x, σ, H1, I1, r1, q1⟩) fun _ _ z => z)
theorem pssc_cons {st : Stmt} {rest : List Stmt} {t u : TS} (h1 : PSc X body st t) (h2 : PSsc X body rest u) : PSsc X body (st :: rest) (tSeq t u) := by
  refine ⟨fun s σ H D I h => ?_⟩
  refine ks_wpAt_execs_cons (ks_wpAt_mono (h1.run s σ H { D with nx := u D } I h) (fun f s1 q => ?_) fun _ _ z => z)
  cases f with
  | next =>
    obtain ⟨σ', H', I', q⟩ := q
    exact h2.run s1 σ' H' D I' q
  | ret v => exact q
  | brk => exact q
  | cont => exact q
end
abbrev DEc (X : Cx) (body : List Stmt) (e : Expr) (w : WE) : Prop := PEc X body e (tW X w)
abbrev DSc (X : Cx) (body : List Stmt) (st : Stmt) (w : WS) : Prop := PSc X body st (tWS X w)
abbrev DSsc (X : Cx) (body : List Stmt) (st : List Stmt) (w : WS) : Prop := PSsc X body st (tWS X w)
section
variable {X : Cx} {body : List Stmt}
theorem wkEc {e : Expr} {t t' : TE} (h : PEc X body e t) (k : ∀ σ H Q, t' σ H Q → t σ H Q) : PEc X body e t' := ⟨fun s σ H Q I q => h.run s σ H Q I (k _ _ _ q)⟩
theorem wkSc {e : Stmt} {t t' : TS} (h : PSc X body e t) (k : ∀ D σ H, t' D σ H → t D σ H) : PSc X body e t' := ⟨fun s σ H Q I q => h.run s σ H Q I (k _ _ _ q)⟩
theorem wkSsc {e : List Stmt} {t t' : TS} (h : PSsc X body e t) (k : ∀ D σ H, t' D σ H → t D σ H) : PSsc X body e t' := ⟨fun s σ H Q I q => h.run s σ H Q I (k _ _ _ q)⟩
theorem dcite {t a b : Expr} {pos : Pos} {wt : WT} {wa wb : WE} (ht : DT X t wt) (ha : DEc X body a wa) (hb : DEc X body b wb) : DEc X body (.IfExp t a b pos) (wIte wt wa wb) := wkEc (pec_ifExp ht ha hb) fun σ H Q ⟨F, m, env, Qd, xc, r, en, a, q, k⟩ =>
  tWT.sub r en a q fun c H1 F1 m1 s1 r1 en1 q1 => by
    cases c with
    | true => exact ⟨F1, m1, env, Qd, xc, r1, en1, a.mono s1, q1, fun v H' F' m' d s => k v H' F' m' d (s1.trans s)⟩
    | false => exact ⟨F1, m1, env, Qd, xc, r1, en1, a.mono s1, q1, fun v H' F' m' d s => k v H' F' m' d (s1.trans s)⟩
theorem dcexpr {e : Expr} {pos : Pos} {w : WE} (he : DEc X body e w) (hs : swapsWith e none pos.line X.env = pure false := by rfl) : DSc X body (.Expr e pos) (sDrop w) := wkSc (psc_expr he hs) fun D σ H ⟨F, m, env, E, r, en, a, q, n, b, c, t⟩ =>
  tW.sub r en a q fun v1 H1 F1 m1 d1 s1 r1 en1 dn1 q1 => n σ H1 F1 m1 env s1 r1 en1 q1
theorem dcret {e : Expr} {pos : Pos} {w : WE} (he : DEc X body e w) : DSc X body (.Return (some e) pos) (sRet w) := wkSc (psc_ret he) fun D σ H ⟨F, m, env, E, r, en, a, q, n, b, c, t⟩ =>
  tW.sub r en a q fun v1 H1 F1 m1 d1 s1 r1 en1 dn1 q1 => t _ H1 F1 m1 d1 s1 r1 dn1 q1
theorem dccons {st : Stmt} {rest : List Stmt} {wa wb : WS} (h1 : DSc X body st wa) (h2 : DSsc X body rest wb) : DSsc X body (st :: rest) (sSeq wa wb) := wkSsc (pssc_cons h1 h2) fun D σ H ⟨F, m, env, E, r, en, a, q, n, b, c, t⟩ =>
  tWS.sub (E := { E with nx := fun e' m' => wb E e' m' }) r en a q (fun σ' H' F' m' env' s r' en' q' => ⟨F', m', env', E, r', en', a.mono s, q', n.mono s, b.mono s, c.mono s, fun v H' F'' m' d s' => t v H' F'' m' d (s.trans s')⟩) b c t
theorem pssc_one {st : Stmt} {t : TS} (h1 : PSc X body st t) : PSsc X body [st] t := ⟨fun s σ H D I h => ks_wpAt_execs_cons (ks_wpAt_mono (h1.run s σ H D I h) (fun f s1 q => by
  cases f with
  | next => exact wpAt_of_wpAny (wpAny_execs_nil q)
  | ret v => exact q
  | brk => exact q
  | cont => exact q) fun _ _ z => z)⟩
theorem dcone {st : Stmt} {wa : WS} (h1 : DSc X body st wa) : DSsc X body [st] wa := pssc_one h1
end
end DL
namespace DL
open PySem PySem.Spec L2 NdefX
/-! ### super().m(..) -/
structure SupK (prog : Program) (K : Frag) (D f cc : Addr) (F : NF) (m : Str) (f2 : Addr) : Prop where
  cl : F.cl = [(("__class__" : Str), cc)]
  fn : ∃ oc od osl kV doc pm an ct, K.lookup f = some ⟨oc, od, .func (PySem.W.fnX F.name F.qual F.params F.body F.scope F.cl .none kV doc pm an (.ref F.c) ct), osl⟩
  kp : PySem.W.keepIn K (.ref f) = true
  code : PySem.W.codeIn K (.ref F.c) F.qual = true
  file : ∃ ccl cdd vs ccs file tf, K.lookup F.c = some ⟨ccl, cdd, .fields vs, ccs⟩ ∧ vs[2]? = some (.str file tf) ∧ ((prog.main.file : Str) == file) = true
  cell : ∃ cl cld csl, K.lookup cc = some ⟨cl, cld, .cell (some (.ref D)), csl⟩
  sup : PySem.W.ks_superIn K D D m = some (some (.ref f2))
  t2 : PySem.W.typeIn K (.ref f2) = some (.type "function")
  f2n : PySem.W.fnIn K f2 = true
  mro : PySem.W.mroIn K D (.ref D) = some true
  opq : PySem.W.nsIn K cStatics "thirdparty.any" = some none
def wSup (C : Str) (sp : SpD) (wa : WA) : WE := fun env m Q E => ∃ p fs, env[0]? = some (some (.ref p)) ∧ m p = some (.ins C fs) ∧ wa env m (fun ds m1 => sp (.ref p :: ds) m1 Q E) E
section
variable {X : Cx} {body : List Stmt} {k : Nat} {g : Bool} {C m : Str} {f cc f2 : Addr} {F : NF} {ar : Arg} {sp : SpD} {e : Expr} {es : List Expr} {wa : WA} {p0 p1 p2 p3 : Pos} {pl : Sem Bool}
theorem dsuper (W : SupK X.prog X.K (ga X.K C) f cc F m f2) (henv : X.env = PySem.W.envX F.qual F.scope X.env.locals f (.ref F.c) F.cl) (hk : F.scope.kind = .function) (hks : F.scope.names.lookup ("super" : Str) = some .globalImplicit)
    (hkc : F.scope.names.lookup ("__class__" : Str) = some .free) (hka : F.scope.names.lookup ar.arg = some .local) (hN : X.N[0]? = some ar.arg) (hp : (F.params.posonlyargs ++ F.params.args).head? = some ar)
    (hsm : X.mg "super" = none) (htop : (X.prog.main.scope.names.lookup ("super" : Str)).isSome = false) (FM : FA g X.prog X.w X.K X.mg X.base k f2 [] sp) (hr : Rm g k X.A) (ha : DA X (e :: es) wa)
    (he : eval (.Call (.Attribute (.Call (.Name "super" p0) [] [] p1) m p2) (e :: es) [] p3) X.env = (do
      let ov ← attributeBase (.Call (.Name "super" p0) [] [] p1) m X.env (eval (.Call (.Name "super" p0) [] [] p1) X.env)
      standAt p2.atName
      let (f, first) ← holding [ov] (getMethod ov m pl)
      callWith p3 f first (backTo p3 (starEach (e :: es) X.env)) []))
    (hn : (m == ("__class__" : Str)) = false := by decide)
    (hst : starEach (e :: es) X.env = (false, eval e X.env) :: starEach es X.env := by rfl) (hpl : (backTo p3 (starEach es X.env)).any (·.1) = false := by rfl) :
    DEc X body (.Call (.Attribute (.Call (.Name "super" p0) [] [] p1) m p2) (e :: es) [] p3) (wSup C sp wa) := by
  refine ⟨fun s σ H Q I ⟨F0, m0, env, Qd, xc, r, en, a, ⟨p, fs, e1, e2, q⟩, kQ⟩ => ?_⟩
  obtain ⟨v, ev, dn⟩ := en.at_ 0 _ e1
  simp only [Den] at dn
  subst dn
  obtain ⟨dx, gs, hpi, dp⟩ := r.ins e2
  obtain ⟨mA, O, _⟩ := ins_get I.hok hpi
  obtain ⟨od, J, hl⟩ := O.look
  obtain ⟨ml, hns, hloc⟩ := I.loc
  obtain ⟨u, ru, lk⟩ := hloc 0 ar.arg (.ref p) hN ev (Or.inl (by rw [henv]; exact hka))
  obtain rfl : u = Value.ref p := ru
  have hself : ml ar.arg = some (.ref p) := by
    have hka' : X.env.kindOf ar.arg = some .local := by rw [henv]; exact hka
    rcases lk with ⟨_, h⟩ | ⟨h | h, _⟩
    · exact h
    · rw [hka'] at h; cases h
    · rw [hka'] at h; cases h
  obtain ⟨oc, ofd, osl, kV, doc, pm, an, ct, lkf⟩ := W.fn
  obtain ⟨ccl, cdd, vs, ccs, file, tf, lc, hvs, hfile⟩ := W.file
  obtain ⟨cl, cld, csl, lcell⟩ := W.cell
  have KI := I.kIn
  have keys : ∃ cd, PySem.W.clsIn X.K (ga X.K C) = some cd := by
    have := W.sup
    unfold PySem.W.ks_superIn at this
    cases z : PySem.W.clsIn X.K (ga X.K C) with
    | none => rw [z] at this; cases this
    | some cd => exact ⟨cd, rfl⟩
  obtain ⟨cd, hcd⟩ := keys
  obtain ⟨oD, hD1, hD2⟩ := clsIn_at hcd
  have hsup : PySem.W.alongIn X.K m ((cd.mro.dropWhile (· != .ref (ga X.K C))).drop 1) = some (some (.ref f2)) := by
    have := W.sup
    unfold PySem.W.ks_superIn at this
    rw [hcd] at this
    exact this
  obtain ⟨mb, hb1, hb2⟩ := I.mod.blt
  have hne : p ≠ ga X.K C := PySem.W.ks_ne KI J hcd
  refine ks_wpAt_MethodCall ?_ he
  obtain ⟨h, gg, d, t, os⟩ := s
  refine ks_wpAt_super_base (env := X.env) (by rw [henv]; exact hks) (by rw [henv]; exact hkc) hn (by rw [henv] <;> rfl) (KI _ _ lkf) rfl hp (by rw [henv] <;> rfl) (KI _ _ lc) rfl hvs hfile htop ?_
  refine PySem.W.ks_loadName_global (by rw [henv]; exact hk) (by rw [henv]; exact hks) (Calls.loadGlobal_builtin (by rw [I.ok.glob]; exact I.mod.glob.keeps I.bk) hsm (by rw [I.ok.blt]; exact hb1.keeps I.bk) ((hb2 _ (by decide)).trans (by decide +kernel : bootBuiltins "super" = some (.type "super"))) ⟨rfl, ?_⟩)
  refine wpAny_loadName_free (v := .ref (ga X.K C)) (by rw [henv]; exact hk) (by rw [henv]; exact hkc) (c := cc) (by rw [henv, W.cl] <;> rfl) ⟨_, KI _ _ lcell, rfl⟩ ?_
  refine wpAny_loadName_local (by rw [henv]; exact hk) (by rw [henv]; exact hka) hns hself ?_
  refine ks_wpAny_isType_cls (KI _ _ hD1) hD2 ⟨rfl, ?_⟩
  refine ks_wpAny_call_super (KI _ _ hD1) hD2 J.at_ J.cls (fun c z => ?_) (PySem.W.looks_mroIn KI W.mro) (fun h1 hso k1 => ?_)
  · have := J.no
    unfold PySem.W.notCls at this
    rw [z] at this
    exact Bool.noConfusion this
  have I1 : Inv X [] σ H ⟨h1, gg, d, t, os⟩ := I.kept (t' := t) k1
  have K1 := I1.kIn
  obtain ⟨of, hof, hofc⟩ : ∃ of, h1.get? f2 = some of ∧ of.cls = .type "function" := by
    have ht' : (X.K.lookup f2).map (·.cls) = some (.type "function") := W.t2
    cases z : X.K.lookup f2 with
    | none => rw [z] at ht'; cases ht'
    | some of => rw [z] at ht'; exact ⟨of, K1 _ _ z, Option.some.inj ht'⟩
  refine ks_wpAny_getMethod_super hso (PySem.W.looks_opaque K1 W.opq) (l₀ := cd.mro) (fun A Q E s k q => wpAny_bind ((PySem.W.looks_clsIn K1 hcd) A _ E s k (wpAny_pure q))) rfl K1 hsup hof hofc hne hn ?_
  have I2 : Inv X [(h1.objs.size, PySem.W.methodObj (.ref f2) (.ref p))] σ H ⟨h1.push (PySem.W.methodObj (.ref f2) (.ref p)), gg, d, t + 1, os⟩ :=
    ClX.pin_new (s := ⟨h1, gg, d, t, os⟩) I1 (fun _ _ z => Heap.get?_push_of_some _ z) (Nat.le_refl _) (Heap.get?_push_size h1 rfl) (fun v z => nomatch z)
  have hb : X.base.get? h1.objs.size = none := ClX.base_none (s := ⟨h1, gg, d, t, os⟩) I1 (Nat.le_refl _)
  have hL : h1.objs.size ≠ X.env.locals := (I2.pin (h1.objs.size, PySem.W.methodObj (.ref f2) (.ref p)) (List.mem_append_right _ List.mem_cons_self)).2.2.1
  refine PySem.W.callWith_M (K := X.K) (h₀ := X.base) (first := []) I.ok.mod.kin (news_at hL hb (ClX.pin_at I2)) List.mem_cons_self W.f2n ?_ hst hpl
  let R1 : List V → Hp → Prop := fun vs H1 => ∃ F2 m2 ds, Sub F0 F2 ∧ Rel X.K F2 m2 H1 ∧ EnvDen X.K F2 σ env ∧ Dens X.K F2 ds vs ∧ sp (.ref p :: ds) m2 Qd (fun x m' => xc x env m')
  have hA : tWA X wa σ H R1 := tWA.sub r en a q fun vs H2 F2 m2 ds s2 r2 en2 dn2 q2 => ⟨F2, m2, ds, s2, r2, en2, dn2, q2⟩
  refine thn (ha.run p3 _ _ σ H R1 I2 hA) fun us s3 ⟨vs', H2, I3, rv, F2, m2, ds, s02, r2, en2, dn2, q2⟩ => ⟨⟨ClX.pin_at I3, I3.kIn⟩, ?_⟩
  have sp' := lift_call (vs := .ref p :: vs') r2 en2 (a.mono s02) (Dens.cons (by simp only [Den]) dn2) q2 (Q := Q) (fun v H' F' m' d s => kQ v H' F' m' d (s02.trans s))
  have I4 := ClX.unpin I3
  refine wpAny_call (PySem.W.method_call (ClX.pin_at I3) (codeAny_mono (FM.run X.A X.stack s3 H2 (.ref p :: us) [] (.ref p :: vs') Q _ hr I4.env0 rfl (by rw [List.append_nil]; exact .cons rfl rv) sp') fun rr s' hq => ?_))
  cases rr with
  | error e => exact passes_max σ [] H2 s3 e s' I4 hq
  | ok fl =>
    cases fl with
    | ret u => exact I4.after hq
    | next => exact False.elim hq
    | brk => exact False.elim hq
    | cont => exact False.elim hq
end
end DL

/-! D36: static methods, a sole starred argument, own classes asked by isinstance, constants by class, defs with super(). -/
namespace DL
open PySem PySem.Spec PyProof.Rows L2 NdefX
/-! ### static methods -/
structure Stat (K : Frag) (C : Addr) (m : Str) (f : Addr) : Prop where
  rd : ClX.CRead K C (.type "type")
  at_ : ∃ p rest, PySem.W.findCls K (.ref C) (.type "type") m = some (.get (.builtin "staticmethod.__get__") (.ref p) .none (.ref C)) ∧ PySem.W.recIn K p "staticmethod" = some (.ref f :: rest)
/-- .. reached through an instance -/
structure StatI (K : Frag) (C : Addr) (m : Str) (f : Addr) : Prop where
  pg : PySem.W.plainGet K C m = true
  ic : PySem.W.isClsIn K C = true
  cp : PySem.W.copiedNames.contains m = false
  at_ : ∃ p rest, PySem.W.findIn K (.ref C) m = some (some (.ref p)) ∧ PySem.W.typeIn K (.ref p) = some (.type "staticmethod") ∧ PySem.W.specialIn K (.ref p) "__get__" = some (some (.builtin "staticmethod.__get__")) ∧ PySem.W.takesIn K (.ref p) = some false ∧ PySem.W.recIn K p "staticmethod" = some (.ref f :: rest)
section
variable {X : Cx} {pins : List (Addr × Obj)} {σ : L2.St} {H : Hp} {s : Shared} {a C f : Addr} {m : Str} {A : Around} {E : Value → Shared → Prop} {pl : Sem Bool} {Q : Value × List Value → Shared → Prop}
theorem getstat_ok (I : Inv X pins σ H s) (S : Stat X.K C m f) (h : ∀ s', Inv X pins σ H s' → Q (.ref f, []) s') : wpAny (model X.prog X.w) A (getMethod (.ref C) m pl) Q E s := by
  obtain ⟨p, rest, e, hp⟩ := S.at_
  refine PySem.W.method_cls I.kIn S.rd.ga ?_
  refine PySem.W.cls_bind I.kIn S.rd.rd e ?_
  refine wpAny_call (PySem.W.sm_get (s := { s with toks := s.toks + 1 }) I.kIn hp (PySem.W.handed_on rfl ?_))
  exact h _ (I.tok _)
theorem getstati_ok {ox od : Obj} (I : Inv X pins σ H s) (J : PySem.W.InstAt s.heap a ox C (some od)) (hl : PySem.W.lookIn m od = some none) (S : StatI X.K C m f) (h : ∀ s', Inv X pins σ H s' → Q (.ref f, []) s') : wpAny (model X.prog X.w) A (getMethod (.ref a) m pl) Q E s := by
  obtain ⟨p, rest, ha, ty, get, tk, hp⟩ := S.at_
  refine PySem.W.method_usual (r := some (.ref p)) I.kIn J (PySem.W.plainGet_of S.pg).1 (PySem.W.plainGet_of S.pg).2 ha ?_ ?_
  · show ((PySem.W.typeIn X.K (.ref p)).any fun t => t != .type "function" && t != .type "method_descriptor" && t != .type "wrapper_descriptor") = true
    rw [ty]
    first
    | rfl
    | decide +kernel
  · refine PySem.W.get_bind I.kIn J (PySem.W.plainGet_of S.pg).1 (ClX.find_cm S.ic ha get tk S.cp hl) (PySem.W.plainGet_of S.pg).2 ?_
    refine wpAny_call (PySem.W.sm_get (s := { s with toks := s.toks + 1 }) I.kIn hp (PySem.W.handed_on rfl ?_))
    exact h _ (I.tok _)
end
section
variable {X : Cx} {k n : Nat} {g : Bool} {C m : Str} {f : Addr} {ks : List Str} {sp : SpD}
/-- the arguments, then the call of f -/
theorem stat_call {pos : Pos} {pins : List (Addr × Obj)} {σ : L2.St} {H : Hp} {s : Shared} {Q : VK} {es : List Expr} {kws : List Keyword} {wa wk : WA} {F0 : Hp} {m0 : Mem} {env : En} {Qd : Po} {xc : Xc} (F : FA g X.prog X.w X.K X.mg X.base k f ks sp) (hr : Rm g k X.A) (ha : DA X es wa) (hk : DK X kws wk)
    (hl : lone (backTo pos (starEach es X.env)) = false) (hall : (backToKw pos (keywordEach kws X.env)).all (·.1.isSome) = true) (hks : (backToKw pos (keywordEach kws X.env)).filterMap (·.1) = ks)
    (I : Inv X pins σ H s) (r : Rel X.K F0 m0 H) (en : EnvDen X.K F0 σ env) (a : Acc X F0 xc) (q : wCall sp ks.length wa wk env m0 Qd (fun x m' => xc x env m')) (kQ : ∀ v H' F' m' d, Sub F0 F' → Rel X.K F' m' H' → Den X.K F' d v → Qd d m' → Q v H') :
    wpAny (model X.prog X.w) X.A (callWith pos (.ref f) [] (backTo pos (starEach es X.env)) (backToKw pos (keywordEach kws X.env))) (EP X pins σ Q) X.xe s := by
  refine callWith_H (first := []) F.kp hl hall ?_
  let R1 : List V → Hp → Prop := fun vs H1 => ∃ F2 m2 ds, Sub F0 F2 ∧ Rel X.K F2 m2 H1 ∧ EnvDen X.K F2 σ env ∧ Dens X.K F2 ds vs ∧ wk env m2 (fun es m3 => es.length = ks.length ∧ sp (ds ++ es) m3 Qd (fun x m' => xc x env m')) (fun x m' => xc x env m')
  have hA : tWA X wa σ H R1 := tWA.sub r en a q fun vs H2 F2 m2 ds s2 r2 en2 dn2 q2 => ⟨F2, m2, ds, s2, r2, en2, dn2, q2⟩
  refine thn (ha.run pos pins s σ H R1 I hA) fun us s2 ⟨vs, H2, I2, rv2, F2, m2, ds, u2, r2, en2, dn2, q2⟩ => ?_
  let R2 : List V → Hp → Prop := fun zs H3 => ∃ F3 m3 es, Sub F2 F3 ∧ Rel X.K F3 m3 H3 ∧ EnvDen X.K F3 σ env ∧ Dens X.K F3 es zs ∧ es.length = ks.length ∧ sp (ds ++ es) m3 Qd (fun x m' => xc x env m')
  have hK : tWA X wk σ H2 R2 := tWA.sub r2 en2 (a.mono u2) q2 fun zs H3 F3 m3 es s3 r3 en3 dn3 q3 => ⟨F3, m3, es, s3, r3, en3, dn3, q3.1, q3.2⟩
  refine thn (hk.run pos pins s2 σ H2 R2 I2 hK) fun ws s3 ⟨zs, H3, I3, rz, F3, m3, es', u3, r3, en3, dn3, hlen, q3⟩ => ?_
  refine ⟨I3.kIn, ?_⟩
  rw [hks]
  have ss := u2.trans u3
  have sp' := lift_call (vs := vs ++ zs) r3 en3 (a.mono ss) ((dn2.mono u3).append dn3) q3 (Q := Q) (fun v H' F' m' d s => kQ v H' F' m' d (ss.trans s))
  exact F.go (us := us) (vs := vs ++ zs) hr I3 (by rw [← rz.length, ← dn3.length]; exact hlen) (rv2.append rz) sp'
/-- C.m(..), m a static method -/
theorem dstat {p apos pos : Pos} {es : List Expr} {kws : List Keyword} {wa wk : WA} {pl : Sem Bool} (S : Stat X.K (ga X.K C) m f) (F : FA g X.prog X.w X.K X.mg X.base k f ks sp) (hr : Rm g k X.A) (hg : Gl X C) (hm : X.mg C = some (.ref (ga X.K C))) (ha : DA X es wa) (hk : DK X kws wk) (hdb : (C == ("__debug__" : Str)) = false := by decide)
    (hl : lone (backTo pos (starEach es X.env)) = false := by rfl) (hall : (backToKw pos (keywordEach kws X.env)).all (·.1.isSome) = true := by rfl)
    (hks : (backToKw pos (keywordEach kws X.env)).filterMap (·.1) = ks := by rfl) (hn : ks.length = n := by rfl)
    (ht : eval (.Call (.Attribute (.Name C p) m apos) es kws pos) X.env = (do
      let ov ← eval (.Name C p) X.env
      standAt apos.atName
      let (f, first) ← holding [ov] (getMethod ov m pl)
      callWith pos f first (backTo pos (starEach es X.env)) (backToKw pos (keywordEach kws X.env))) := by rfl) : DE X (.Call (.Attribute (.Name C p) m apos) es kws pos) (wCall sp n wa wk) := by
  subst hn
  refine ⟨fun pins s σ H Q I ⟨F0, m0, env, Qd, xc, r, en, a, q, kQ⟩ => ?_⟩
  refine PySem.W.methodCall_KW (pl := pl) (thn ((pe_glob (X := X) (v := V.ref (ga X.K C)) hg hm rfl hdb).run pins s σ H (fun v H1 => v = .ref (ga X.K C) ∧ H1 = H) I ⟨rfl, rfl⟩) fun u s1 ⟨v, H1, I1, rv, e1, e2⟩ => ?_) ht
  subst e1 e2
  obtain rfl : u = Value.ref (ga X.K C) := rv
  refine getstat_ok I1 S fun s2 I2 => ?_
  exact stat_call F hr ha hk hl hall hks I2 r en a q kQ
/-- o.m(..), o an instance of C -/
def wStI (C m : Str) (sp : SpD) (n : Nat) (wo : WE) (wa wk : WA) : WE := fun env m0 Q E => wo env m0 (fun d m1 => Is (insOf m1 d) (fun q => q.1 = C ∧ q.2.lookup m = none ∧ wCall sp n wa wk env m1 Q E) .mk) E
@[simp ↓] theorem ev_stI {sp : SpD} {n : Nat} {wo : WE} {wa wk : WA} {env : En} {m0 : Mem} {Q : Po} {E : Xo} : wStI C m sp n wo wa wk env m0 Q E = wo env m0 (fun d m1 => Is (insOf m1 d) (fun q => q.1 = C ∧ q.2.lookup m = none ∧ wCall sp n wa wk env m1 Q E) .mk) E := rfl
theorem dstatI {o : Expr} {wo : WE} {apos pos : Pos} {es : List Expr} {kws : List Keyword} {wa wk : WA} {pl : Sem Bool} (S : StatI X.K (ga X.K C) m f) (F : FA g X.prog X.w X.K X.mg X.base k f ks sp) (hr : Rm g k X.A) (ho : DE X o wo) (ha : DA X es wa) (hk : DK X kws wk)
    (hl : lone (backTo pos (starEach es X.env)) = false := by rfl) (hall : (backToKw pos (keywordEach kws X.env)).all (·.1.isSome) = true := by rfl)
    (hks : (backToKw pos (keywordEach kws X.env)).filterMap (·.1) = ks := by rfl) (hn : ks.length = n := by rfl)
    (ht : eval (.Call (.Attribute o m apos) es kws pos) X.env = (do
      let ov ← eval o X.env
      standAt apos.atName
      let (f, first) ← holding [ov] (getMethod ov m pl)
      callWith pos f first (backTo pos (starEach es X.env)) (backToKw pos (keywordEach kws X.env))) := by rfl) : DE X (.Call (.Attribute o m apos) es kws pos) (wStI C m sp n wo wa wk) := by
  subst hn
  refine ⟨fun pins s σ H Q I ⟨F0, m0, env, Qd, xc, r, en, a, q, kQ⟩ => ?_⟩
  let R0 : V → Hp → Prop := fun v H1 => ∃ F1 m1 p fs, v = .ref p ∧ Sub F0 F1 ∧ Rel X.K F1 m1 H1 ∧ EnvDen X.K F1 σ env ∧ m1 p = some (.ins C fs) ∧ fs.lookup m = none ∧ wCall sp ks.length wa wk env m1 Qd (fun x m' => xc x env m')
  have hO : tW X wo σ H R0 := tW.sub r en a q fun v1 H1 F1 m1 d1 s1 r1 en1 dn1 ⟨q, e1, e2, e3, q1⟩ => by
    obtain ⟨p, rfl, e4⟩ := insOf_some e1
    simp only [Den] at dn1
    rw [e2] at e4
    exact ⟨F1, m1, p, q.2, dn1, s1, r1, en1, e4, e3, q1⟩
  refine PySem.W.methodCall_KW (pl := pl) (thn (ho.run pins s σ H R0 I hO) fun u s1 ⟨v, H1, I1, rv, F1, m1, p, fs, ev, s01, r1, en1, e2, e3, q1⟩ => ?_) ht
  subst ev
  obtain rfl : u = Value.ref p := rv
  obtain ⟨dx, gs, hp, dp⟩ := r1.ins e2
  obtain ⟨mA, O, rr, _, _, _⟩ := ins_get I1.hok hp
  have hn : mA m = none := RelO.none_of (by rw [← DenP.lookup_none dp e3]; exact rr m)
  obtain ⟨od, J, hl'⟩ := O.look
  refine getstati_ok I1 J (by rw [hl' m, hn]) S fun s2 I2 => ?_
  exact stat_call F hr ha hk hl hall hks I2 r1 en1 (a.mono s01) q1 fun v H' F' m' d s => kQ v H' F' m' d (s01.trans s)
/-! ### C(*e) -/
/-- the class is called -/
theorem make_go {pins : List (Addr × Obj)} {σ : L2.St} {H : Hp} {s : Shared} {Q : VK} {us : List Value} {vs : List V} {F1 : Hp} {m1 : Mem} {env : En} {ds : List D} {Qd : Po} {xc : Xc} (M : Mk X.K (ga X.K C) f) (F : FA g X.prog X.w X.K X.mg X.base k f [] sp) (hr : Rm g (k + 1) X.A)
    (I1 : Inv X pins σ H s) (rv : Vals vs us) (r1 : Rel X.K F1 m1 H) (en1 : EnvDen X.K F1 σ env) (a : Acc X F1 xc) (dn1 : Dens X.K F1 ds vs) (q1 : ∀ p, m1 p = none → sp (.ref p :: ds) (m1.put p (.ins C [])) (fun d m2 => d = .non ∧ Qd (.ref p) m2) (fun x m' => xc x env m'))
    (kQ : ∀ v H' F' m' d, Sub F1 F' → Rel X.K F' m' H' → Den X.K F' d v → Qd d m' → Q v H') : wpAny (model X.prog X.w) X.A (call (.ref (ga X.K C)) us) (EP X pins σ Q) X.xe s := by
  have ne : s.heap.objs.size ≠ s.heap.objs.size + 1 := Nat.ne_of_lt (Nat.lt_succ_self _)
  have hx := I1.hok.fresh (Nat.le_succ s.heap.objs.size)
  have hd := I1.hok.fresh (Nat.le_refl s.heap.objs.size)
  have I2 := Inv.made (C := ga X.K C) I1
  have r2 := r1.make (C := C) hx hd ne
  have q2 := q1 (s.heap.objs.size + 1) (r1.free hx).2
  have sp' := lift_call (vs := .ref (s.heap.objs.size + 1) :: vs) (Q := fun v H2 => v = .non ∧ Q (.ref (s.heap.objs.size + 1)) H2) r2 en1 a (Dens.cons (by simp only [Den]) dn1) q2 (fun v H' F' m' d s r' dn ⟨e, q3⟩ => by
    subst e
    simp only [Den] at dn
    exact ⟨dn, kQ _ H' F' m' _ s r' (by simp only [Den]) q3⟩)
  have run := F.run _ X.stack _ _ (Value.ref (s.heap.objs.size + 1) :: us) [] (.ref (s.heap.objs.size + 1) :: vs) _ (Emax X σ) ⟨hr.room.make (ga X.K C) us [], fun z => hr.gd z⟩ (I2.env0.make (ga X.K C) us []) rfl (by rw [List.append_nil]; exact .cons rfl rv) sp'
  refine wpAny_call (make_map (f := f) I1.kIn M.makes M.init (beq_iff_eq.mp M.fn) (codeAny_mono run fun rr s' hq' => ?_))
  cases rr with
  | error e => exact passes_max σ pins _ _ e s' I2 hq'
  | ok fl =>
    cases fl with
    | ret u =>
      obtain ⟨v, H', I3, rv, ev, q3⟩ := I2.after hq'
      subst ev
      exact ⟨rv, ⟨V.ref (s.heap.objs.size + 1), H', I3, rfl, q3⟩⟩
    | next => exact False.elim hq'
    | brk => exact False.elim hq'
    | cont => exact False.elim hq'
theorem dmakeS {p pos sp_ : Pos} {e : Expr} {we : WE} (M : Mk X.K (ga X.K C) f) (F : FA g X.prog X.w X.K X.mg X.base k f [] sp) (hr : Rm g (k + 1) X.A) (hg : Gl X C) (hm : X.mg C = some (.ref (ga X.K C))) (he : DE X e we) (hdb : (C == ("__debug__" : Str)) = false := by decide)
    (hst : starEach [.Starred e sp_] X.env = [(true, eval e X.env)] := by rfl) : DE X (.Call (.Name C p) [.Starred e sp_] [] pos) (wMake C sp (wStar we wNil)) := by
  refine ⟨fun pins s σ H Q I ⟨F0, m0, env, Qd, xc, r, en, a, q, kQ⟩ => ?_⟩
  refine wpAny_Call_Name_kw (ld_glob I hg hm ?_ hdb)
  let R1 : V → Hp → Prop := fun v H1 => ∃ F1 m1 d xs, Sub F0 F1 ∧ Rel X.K F1 m1 H1 ∧ EnvDen X.K F1 σ env ∧ Den X.K F1 d v ∧ seqOf m1 d = some xs ∧ ∀ p, m1 p = none → sp (.ref p :: xs) (m1.put p (.ins C [])) (fun d m2 => d = .non ∧ Qd (.ref p) m2) (fun x m' => xc x env m')
  have hE : tW X we σ H R1 := tW.sub r en a q fun v1 H1 F1 m1 d1 s1 r1 en1 dn1 ⟨xs, e1, q1⟩ => ⟨F1, m1, d1, xs, s1, r1, en1, dn1, e1, by
    have q1 : ∀ p, m1 p = none → sp (.ref p :: (xs ++ [])) (m1.put p (.ins C [])) (fun d m2 => d = .non ∧ Qd (.ref p) m2) (fun x m' => xc x env m') := q1
    simpa only [List.append_nil] using q1⟩
  refine PySem.W.callWith_S (h₀ := X.base) I.ok.mod.kin M.kp (thn (he.run pins s σ H R1 I hE) fun v s1 ⟨y, H1, I1, ry, F1, m1, d, xs, s01, r1, en1, dn1, e1, q1⟩ => ?_) hst
  obtain ⟨a', vs, rfl, hs, dx⟩ := r1.seqOf dn1 e1
  obtain rfl : v = Value.ref a' := ry
  exact StX.star_any I1 hs.symm fun us s2 I2 rv => ⟨I2.kIn, make_go M F hr I2 rv r1 en1 (a.mono s01) dx q1 fun v H' F' m' d s => kQ v H' F' m' d (s01.trans s)⟩
end
end DL

/-! D37: defs with super() keep their promises; own classes asked by isinstance; constants by class. -/
namespace DL
open PySem PySem.Spec PyProof.Rows L2 NdefX
theorem start_denF {K : Frag} {F : Hp} {N : List Str} {ds : List D} {vs : List V} {ws : List (Option V)} (dn : Dens K F ds vs) (hw : vs.length + ws.length ≤ N.length) : EnvDen K F (NdefX.startF N vs ws) (startD N ds) := by
  have hl := dn.length
  refine ⟨by simp [NdefX.startF, startD, hl]; omega, fun i d e => ?_⟩
  unfold startD at e
  by_cases hi : i < ds.length
  · rw [List.getElem?_append_left (by simpa using hi), List.getElem?_map] at e
    cases q : ds[i]? with
    | none => rw [q] at e; cases e
    | some x =>
      rw [q] at e; cases e
      obtain ⟨v, ev, dv⟩ := dn.get q
      refine ⟨v, ?_, dv⟩
      unfold NdefX.startF
      rw [List.getElem?_append_left (by rw [List.length_map, ← hl]; exact hi), List.getElem?_map, ev]
      rfl
  · rw [List.getElem?_append_right (by simpa using hi), List.getElem?_replicate] at e
    split at e <;> cases e
section
variable {P : Program} {w : World} {K : Frag} {mg : Str → Option Value} {base : Heap} {g : Bool} {k : Nat} {C m : Str} {f cc f2 : Addr} {F : NF} {N ps : List Str} {sp : SpD} {wb : WS}
/-- a def with super(), its body by a derivation inside its own code -/
theorem FA.own (W : SupK P K (ga K C) f cc F m f2) (S : NScope N ps ["__class__"] F.scope)
    (hb : ∀ (kV doc pm : Value) (an : Option Addr) (ct : Value) (us : List Value), us.length = ps.length → bindArgs (PySem.W.fnX F.name F.qual F.params F.body F.scope F.cl .none kV doc pm an (.ref F.c) ct) ⟨us, []⟩ = pure (ps.zip us))
    (hl : ∀ ds m Q E, sp ds m Q E → ds.length = ps.length)
    (der : ∀ (A : Around) (outer : List Env) (s : Shared) (H : Hp) (E : XK), Rm g k (A.deeper (envF F f s.heap.objs.size)) → DSsc (ncx (CX P w) P w K mg base N F f A outer s H E) F.body F.body wb)
    (spec : ∀ ds m Q E, sp ds m Q E → wb (Dend Q E) (startD N ds) m) : FA g P w K mg base (k + 1) f [] sp := by
  obtain ⟨oc, od, osl, kV, doc, pm, an, ct, lk⟩ := W.fn
  obtain ⟨cl, cld, csl, lcell⟩ := W.cell
  refine ⟨W.kp, fun A outer s H us ws vs Q E hr e0 hw rv hsp => ?_⟩
  have ew : ws = [] := List.length_eq_zero_iff.mp hw
  subst ew
  rw [List.append_nil] at rv
  obtain ⟨F0, m0, ds, QD, ED, r, dn, h, kq, ke⟩ := hsp
  have hlen : us.length = ps.length := by rw [← rv.length, ← dn.length]; exact hl _ _ _ _ h
  have hlv : vs.length = ps.length := by rw [← dn.length]; exact hl _ _ _ _ h
  have KX : K.In s.heap := e0.mod.kin.keeps fun b o e => (e0.bs b o e).1
  refine ks_codeAny_call_defAt hr.room.depth (KX _ _ lk) rfl (e0.mod.nolimit.keeps fun b o e => (e0.bs b o e).1) (PySem.W.codeRec_of KX W.code) rfl (.of_eq (hb kV doc pm an ct us hlen)) S.nocell (fun y hy => S.par y.1 (List.of_mem_zip hy).1) (fun h₁ hns kp => ?_) S.co S.gen S.kind
  have hcellA : CellsAt F.cl ["__class__"] [some (.ref (ga K C))] s.heap H := by
    rw [W.cl]
    have only : ∀ (y : Str) (c : Addr), [(("__class__" : Str), cc)].lookup y = some c → y = "__class__" ∧ c = cc := fun y c e => by
      rw [List.lookup_cons] at e
      split at e
      · rename_i q
        cases e
        exact ⟨beq_iff_eq.mp q, rfl⟩
      · cases e
    refine ⟨rfl, fun y c e => ?_, fun x y c e1 e2 => ?_, fun i y e => ?_⟩
    · obtain ⟨_, rfl⟩ := only y c e
      exact ⟨(e0.bs _ _ (e0.mod.kin _ _ lcell)).2, some (.ref (ga K C)), _, KX _ _ lcell, rfl⟩
    · rw [(only x c e1).1, (only y c e2).1]
    · match i, e with
      | 0, e =>
        have e : some ("__class__" : Str) = some y := e
        cases e
        exact ⟨cc, rfl, fun v ev => by
          have ev : some (some (V.ref (ga K C))) = some (some v) := ev
          cases ev
          exact ⟨.ref (ga K C), rfl, _, KX _ _ lcell, rfl⟩⟩
  have I : Inv (ncx (CX P w) P w K mg base N F f A outer s H E) [] (startF N vs [some (.ref (ga K C))]) H { s with heap := h₁, toks := s.toks + (ps.zip us).length } := inv_startN S hr.room.hd e0 hlv rv hcellA hns kp
  have hN : vs.length + [some (V.ref (ga K C))].length ≤ N.length := by
    have q := congrArg List.length S.pre
    rw [List.length_take, List.length_append] at q
    have e1 : [some (V.ref (ga K C))].length = 1 := rfl
    have e2 : [("__class__" : Str)].length = 1 := rfl
    rw [e2] at q
    rw [e1, hlv]
    omega
  have D0 := der A outer s H E (hr.deeper _)
  let DD : Ends := { nx := fun _ H' => Q .non H', rt := Q }
  have ht : tWS (ncx (CX P w) P w K mg base N F f A outer s H E) wb DD (startF N vs [some (.ref (ga K C))]) H := by
    refine ⟨F0, m0, startD N ds, Dend QD ED, r, start_denF dn hN, ?_, spec _ _ _ _ h, ?_, ?_, ?_, ?_⟩
    · exact ⟨F0, Sub.refl F0, Takes.imp (takes_of rfl rfl rfl rfl) fun cls dd σ' H' ⟨F', m', env', y, s', r', en', xa, m0, hle, hE⟩ => ke cls dd H' F' m0 y s' (r'.le hle) xa hE⟩
    · exact fun σ' H' F' m' env' s r' en' ⟨m0, hle, q⟩ => kq _ H' F' m0 .non s (r'.le hle) (by simp only [Den]) q
    · exact fun σ' H' F' m' env' s r' en' q => q.elim
    · exact fun σ' H' F' m' env' s r' en' q => q.elim
    · exact fun v H' F' m' d s r' dn' ⟨m0, hle, q⟩ => kq v H' F' m0 d s (r'.le hle) dn' q
  show PySem.wpAt (model P w) (ncx (CX P w) P w K mg base N F f A outer s H E).A (.func F.body (ncx (CX P w) P w K mg base N F f A outer s H E).env) (execs F.body (ncx (CX P w) P w K mg base N F f A outer s H E).env) _ _ _
  refine ks_wpAt_mono (Q := SP (ncx (CX P w) P w K mg base N F f A outer s H E) [] DD) (E := (ncx (CX P w) P w K mg base N F f A outer s H E).xe) (D0.run _ _ H DD I ht) (fun fl s'' hs' => ?_) (fun _ _ z => z)
  have fin : ∀ {σ' : L2.St} {H' : Hp} {v : V} {u : Value}, Inv (ncx (CX P w) P w K mg base N F f A outer s H E) [] σ' H' s'' → L2.RelV v u → Q v H' → CE outer P w H s Q u s'' :=
    fun {σ' H' v u} J rv q => ⟨v, H', J.os, J.bare, J.base, J.hok, rv, q⟩
  cases fl with
  | ret u =>
    obtain ⟨v, σ', H', J, rv, q⟩ := hs'
    exact fin J rv q
  | next =>
    obtain ⟨σ', H', J, q⟩ := hs'
    exact fin (v := V.non) (u := Value.none) J rfl q
  | brk =>
    obtain ⟨_, _, _, q⟩ := hs'
    exact False.elim q
  | cont =>
    obtain ⟨_, _, _, q⟩ := hs'
    exact False.elim q
end
theorem wSup.intro {C : Str} {sp : SpD} {wa : WA} {env : En} {m : Mem} {Q : Po} {E : Xo} {p : Addr} {fs : List (Str × D)} (h1 : env[0]? = some (some (.ref p))) (h2 : m p = some (.ins C fs)) (q : wa env m (fun ds m1 => sp (.ref p :: ds) m1 Q E) E) : wSup C sp wa env m Q E := ⟨p, fs, h1, h2, q⟩
/-! ### isinstance(o, C), both own -/
structure InsK (K : Frag) (C : Addr) : Prop where
  cl : Cls K C
  ha : PySem.W.findIn K (.ref C) "__class__" = some (some (.builtin "object.__class__"))
  hn : PySem.W.specialIn K (.builtin "object.__class__") "__get__" = some (some (.builtin "getset_descriptor.__get__"))
  ht : PySem.W.takesIn K (.builtin "object.__class__") = some true
  hm : PySem.W.mroIn K C (.type "object") = some true
def wIsI (tbl : List (Str × Bool)) (we : WE) : WE := fun env m Q E => we env m (fun d m1 => Is (insOf m1 d) (fun q => Is (tbl.lookup q.1) (fun b => Q (.bl b) m1) .mk) .mk) E
@[simp ↓] theorem ev_isI {tbl : List (Str × Bool)} {we : WE} {env : En} {m : Mem} {Q : Po} {E : Xo} : wIsI tbl we env m Q E = we env m (fun d m1 => Is (insOf m1 d) (fun q => Is (tbl.lookup q.1) (fun b => Q (.bl b) m1) .mk) .mk) E := rfl
theorem disI {X : Cx} {x : Str} {tbl : List (Str × Bool)} {e : Expr} {we : WE} {p p2 pos : Pos} (hC : ∀ s b, tbl.lookup s = some b → InsK X.K (ga X.K s) ∧ PySem.W.kitOne X.K (.ref (ga X.K s)) (.ref (ga X.K x)) = some b) (hx : X.mg x = some (.ref (ga X.K x))) (hgx : Gl X x)
    (hg : Gl X "isinstance") (hm : X.mg "isinstance" = none) (he : DE X e we) (hdb : (x == ("__debug__" : Str)) = false := by decide) (hs : starEach [e, .Name x p2] X.env = (false, eval e X.env) :: starEach [.Name x p2] X.env := by rfl) (hs2 : starEach [.Name x p2] X.env = (false, eval (.Name x p2) X.env) :: starEach [] X.env := by rfl) (hpl : (backTo pos (starEach [.Name x p2] X.env)).any (·.1) = false := by rfl) :
    DE X (.Call (.Name "isinstance" p) [e, .Name x p2] [] pos) (wIsI tbl we) :=
  wkE (pe_callB call_isi hg hm PyProof.Rows.boot_isinstance (pa_cons he (pa_cons (pe_glob (v := V.ref (ga X.K x)) hgx hx rfl hdb) pa_nil hs2) hs) (he := hs) (hpl := hpl)) fun σ H Q ⟨F, m, env, Qd, xc, r, en, a, q, k⟩ => tW.sub r en a q fun v1 H1 F1 m1 d1 s1 r1 en1 dn1 ⟨q, e1, b, e2, q1⟩ => by
    obtain ⟨p, rfl, e4⟩ := insOf_some e1
    simp only [Den] at dn1
    subst dn1
    obtain ⟨dx, gs, hp, dp⟩ := r1.ins e4
    obtain ⟨ik, hk⟩ := hC q.1 b e2
    exact ⟨.ref p, .ref (ga X.K x), .ref (ga X.K q.1), .ref (ga X.K x), b, rfl, .own _, .base (.ins hp ik.cl ik.ha ik.hn ik.ht ik.hm), hk, k _ H1 F1 m1 (.bl b) s1 r1 (by simp only [Den]) q1⟩
/-! ### constants by class -/
def wConT (tbl : List (Str × D)) (f : Str) (we : WE) : WE := fun env m Q E => we env m (fun d m1 => Is (insOf m1 d) (fun q => q.2.lookup f = none ∧ Is (tbl.lookup q.1) (fun v => Q v m1) .mk) .mk) E
@[simp ↓] theorem ev_conT {tbl : List (Str × D)} {f : Str} {we : WE} {env : En} {m : Mem} {Q : Po} {E : Xo} : wConT tbl f we env m Q E = we env m (fun d m1 => Is (insOf m1 d) (fun q => q.2.lookup f = none ∧ Is (tbl.lookup q.1) (fun v => Q v m1) .mk) .mk) E := rfl
theorem dconT {X : Cx} {tbl : List (Str × D)} {nm : Str} {e : Expr} {we : WE} {pos : Pos} (hc : ∀ C v, tbl.lookup C = some v → Cls X.K (ga X.K C) ∧ ∃ vv u, Con X.K (ga X.K C) nm vv u ∧ ∀ F, Den X.K F v vv) (he : DE X e we) (hb : attributeBase e nm X.env (eval e X.env) = eval e X.env := by rfl) : DE X (.Attribute e nm pos) (wConT tbl nm we) :=
  wkE (pe_con he hb) fun σ H Q ⟨F, m, env, Qd, xc, r, en, a, q, k⟩ => tW.sub r en a q fun v1 H1 F1 m1 d1 s1 r1 en1 dn1 ⟨q, e1, e2, v, e3, q1⟩ => by
    obtain ⟨p, rfl, e4⟩ := insOf_some e1
    simp only [Den] at dn1
    subst dn1
    obtain ⟨dx, gs, hp, dp⟩ := r1.ins e4
    obtain ⟨c, vv, u, cc, dv⟩ := hc q.1 v e3
    exact ⟨p, _, dx, gs, vv, u, rfl, hp, c, cc, DenP.lookup_none dp e2, k vv H1 F1 m1 v s1 r1 (dv F1) q1⟩
end DL

/-! D38: the Hook with static methods and with defs that say super(); more facts of own classes as tests. -/
namespace DL
open PySem PySem.Spec PyProof.Rows L2 NdefX ClX
/-- a static method (st), or a def with super() whose target is base's -/
structure MbD where
  st : Bool
  cls : Str
  base : Str
  nm : Str
  qual : Str
  params : Arguments
  body : List Stmt
  scope : Scope
def stA (K : Frag) (C m : Str) : Addr := match PySem.W.recIn K (He.ma K (ga K C) m) "staticmethod" with
  | some (.ref g :: _) => g
  | _ => 0
def mbA (K : Frag) (d : MbD) : Addr := match d.st with
  | true => stA K d.cls d.nm
  | false => He.ma K (ga K d.cls) d.nm
def fnM (K : Frag) (d : MbD) : FnC := match K.lookup (mbA K d) with
  | some ⟨_, _, .func fd, _⟩ => some (fd.name, fd.qualname, fd.params, fd.body, fd.scope, fd.globals, fd.closure.map (·.1), fd.builtins)
  | _ => none
def MbD.cl (d : MbD) : List Str := match d.st with
  | true => []
  | false => ["__class__"]
def MbD.val (d : MbD) : FnC := some (d.nm, d.qual, d.params, .stmts d.body, d.scope, mainGlobals, d.cl, builtinsNs)
def stB (K : Frag) (C m : Str) : Bool := PySem.W.readsIn K (ga K C) (.type "type") && (He.eqO (PySem.W.specialIn K (.ref (ga K C)) "__getattribute__") (some (some (.builtin "type.__getattribute__"))) && ((match PySem.W.findCls K (.ref (ga K C)) (.type "type") m with
  | some (.get (.builtin b) (.ref p) .none (.ref C')) => b == "staticmethod.__get__" && (p == He.ma K (ga K C) m && C' == ga K C)
  | _ => false) && (PySem.W.plainGet K (ga K C) m && (PySem.W.isClsIn K (ga K C) && (!(PySem.W.copiedNames.contains m) && (He.eqO (PySem.W.findIn K (.ref (ga K C)) m) (some (some (.ref (He.ma K (ga K C) m)))) && (decide (PySem.W.typeIn K (.ref (He.ma K (ga K C) m)) = some (.type "staticmethod")) &&
  (He.eqO (PySem.W.specialIn K (.ref (He.ma K (ga K C) m)) "__get__") (some (some (.builtin "staticmethod.__get__"))) && (decide (PySem.W.takesIn K (.ref (He.ma K (ga K C) m)) = some false) && ((match PySem.W.recIn K (He.ma K (ga K C) m) "staticmethod" with | some (.ref _ :: _) => true | _ => false) &&
  (PySem.W.keepIn K (.ref (stA K C m)) && (match K.lookup (stA K C m) with
  | some ⟨_, _, .func fd, _⟩ => PySem.W.codeIn K fd.code fd.qualname && noDfl fd.defaults
  | _ => false))))))))))))
def suB (file : Str) (K : Frag) (C base m : Str) : Bool := PySem.W.keepIn K (.ref (He.ma K (ga K C) m)) && (iniB file K (ga K C) (He.ma K (ga K C) m) && (He.eqO (PySem.W.ks_superIn K (ga K C) (ga K C) m) (some (some (.ref (He.ma K (ga K base) m)))) && (decide (PySem.W.typeIn K (.ref (He.ma K (ga K base) m)) = some (.type "function")) &&
  (PySem.W.fnIn K (He.ma K (ga K base) m) && (decide (PySem.W.mroIn K (ga K C) (.ref (ga K C)) = some true) && He.eqO (PySem.W.nsIn K cStatics "thirdparty.any") (some none))))))
def MbD.ok (file : Str) (K : Frag) (d : MbD) : Bool := match d.st with
  | true => stB K d.cls d.nm
  | false => suB file K d.cls d.base d.nm
theorem stB_ok {K : Frag} {C m : Str} (c : stB K C m = true) : Stat K (ga K C) m (stA K C m) ∧ StatI K (ga K C) m (stA K C m) := by
  unfold stB at c
  obtain ⟨h1, c⟩ := He.ba c
  obtain ⟨h2, c⟩ := He.ba c
  obtain ⟨h3, c⟩ := He.ba c
  obtain ⟨h4, c⟩ := He.ba c
  obtain ⟨h5, c⟩ := He.ba c
  obtain ⟨h6, c⟩ := He.ba c
  obtain ⟨h7, c⟩ := He.ba c
  obtain ⟨h8, c⟩ := He.ba c
  obtain ⟨h9, c⟩ := He.ba c
  obtain ⟨h10, c⟩ := He.ba c
  obtain ⟨h11, c⟩ := He.ba c
  have hr : ∃ rest, PySem.W.recIn K (He.ma K (ga K C) m) "staticmethod" = some (.ref (stA K C m) :: rest) := by
    unfold stA
    split at h11
    · rename_i g r e
      exact ⟨r, by rw [e]⟩
    · cases h11
  obtain ⟨rest, hr⟩ := hr
  refine ⟨⟨⟨h1, He.eqO_ok h2⟩, He.ma K (ga K C) m, rest, ?_, hr⟩, ⟨h4, h5, by simpa using h6, He.ma K (ga K C) m, rest, He.eqO_ok h7, of_decide_eq_true h8, He.eqO_ok h9, of_decide_eq_true h10, hr⟩⟩
  split at h3
  · rename_i b p C' e
    obtain ⟨g1, h3⟩ := He.ba h3
    obtain ⟨g2, g3⟩ := He.ba h3
    have g1 := beq_iff_eq.mp g1
    have g2 := beq_iff_eq.mp g2
    have g3 := beq_iff_eq.mp g3
    rw [e, g1, g2, g3]
  · cases h3
theorem MbD.stat {K : Frag} {file : Str} {d : MbD} (hs : d.st = true) (c : d.ok file K = true) : Stat K (ga K d.cls) d.nm (stA K d.cls d.nm) ∧ StatI K (ga K d.cls) d.nm (stA K d.cls d.nm) := by
  unfold MbD.ok at c
  rw [hs] at c
  exact stB_ok c
theorem MbD.funD {K : Frag} {file : Str} {d : MbD} (hs : d.st = true) (e : fnM K d = d.val) (c : d.ok file K = true) : ∃ fd, FunD K d.nm d.qual d.params d.body d.scope [] [] (stA K d.cls d.nm) fd := by
  unfold MbD.ok at c
  unfold fnM mbA MbD.val MbD.cl at e
  rw [hs] at c e
  have c : stB K d.cls d.nm = true := c
  unfold stB at c
  obtain ⟨_, c⟩ := He.ba c
  obtain ⟨_, c⟩ := He.ba c
  obtain ⟨_, c⟩ := He.ba c
  obtain ⟨_, c⟩ := He.ba c
  obtain ⟨_, c⟩ := He.ba c
  obtain ⟨_, c⟩ := He.ba c
  obtain ⟨_, c⟩ := He.ba c
  obtain ⟨_, c⟩ := He.ba c
  obtain ⟨_, c⟩ := He.ba c
  obtain ⟨_, c⟩ := He.ba c
  obtain ⟨_, c⟩ := He.ba c
  obtain ⟨kp, c2⟩ := He.ba c
  cases q : K.lookup (stA K d.cls d.nm) with
  | none => rw [q] at c2; cases c2
  | some o =>
    obtain ⟨oc, od, dt, osl⟩ := o
    rw [q] at c2 e
    cases dt with
    | func fd =>
      obtain ⟨m1, m2, m3, m4, m5, m6, m7, m8, m9, m10, m11, m12, m13, m14, m15⟩ := fd
      have e2 : (some (m1, m2, m3, m4, m5, m6, m7.map (·.1), m15) : FnC) = some (d.nm, d.qual, d.params, .stmts d.body, d.scope, mainGlobals, [], builtinsNs) := e
      simp only [Option.some.injEq, Prod.mk.injEq] at e2
      obtain ⟨g1, g2, g3, g4, g5, g6, g7, g8⟩ := e2
      have g7 : m7 = [] := List.map_eq_nil_iff.mp g7
      subst g1 g2 g3 g4 g5 g6 g7 g8
      obtain ⟨k1, k2⟩ := He.ba (show (PySem.W.codeIn K m13 d.qual && noDfl m8) = true from c2)
      cases m8 with
      | none => exact ⟨_, ⟨oc, od, .none, m9, m10, m11, m12, m13, m14, osl, rfl, q, k1, .inl ⟨rfl, rfl⟩, .inl rfl⟩, kp⟩
      | _ => cases k2
    | _ => cases c2
theorem MbD.sup {prog : Program} {K : Frag} {d : MbD} (hs : d.st = false) (e : fnM K d = d.val) (c : d.ok prog.main.file K = true) :
    ∃ c cc, SupK prog K (ga K d.cls) (He.ma K (ga K d.cls) d.nm) cc ⟨d.nm, d.qual, d.params, d.body, d.scope, [("__class__", cc)], c⟩ d.nm (He.ma K (ga K d.base) d.nm) := by
  unfold MbD.ok at c
  unfold fnM mbA MbD.val MbD.cl at e
  rw [hs] at c e
  have c : suB prog.main.file K d.cls d.base d.nm = true := c
  unfold suB at c
  obtain ⟨h1, c⟩ := He.ba c
  obtain ⟨h5, c⟩ := He.ba c
  obtain ⟨h6, c⟩ := He.ba c
  obtain ⟨h7, c⟩ := He.ba c
  obtain ⟨h8, c⟩ := He.ba c
  obtain ⟨h9, h10⟩ := He.ba c
  unfold iniB at h5
  cases q : K.lookup (He.ma K (ga K d.cls) d.nm) with
  | none => rw [q] at h5; cases h5
  | some o =>
    obtain ⟨oc, od, dt, osl⟩ := o
    rw [q] at e h5
    cases dt with
    | func fd =>
      obtain ⟨n1, n2, n3, n4, n5, n6, n7, n8, n9, n10, n11, n12, n13, n14, n15⟩ := fd
      have e2 : (some (n1, n2, n3, n4, n5, n6, n7.map (·.1), n15) : FnC) = some (d.nm, d.qual, d.params, FuncBody.stmts d.body, d.scope, mainGlobals, [("__class__" : Str)], builtinsNs) := e
      simp only [Option.some.injEq, Prod.mk.injEq] at e2
      obtain ⟨g1, g2, g3, g4, g5, g6, g7, g8⟩ := e2
      subst g1 g2 g3 g4 g5 g6 g8
      match n7, g7 with
      | [(y, cc)], g7 =>
        have g7 : y = "__class__" := by simpa using g7
        subst g7
        cases n13 with
        | ref c =>
          cases n8 with
          | none =>
            have h5 : (PySem.W.codeIn K (.ref c) d.qual && ((match K.lookup c with
              | some ⟨_, _, .fields (vs : Array Value), _⟩ => (match (vs[2]? : Option Value) with
                | some (.str g _) => prog.main.file == g
                | _ => false)
              | _ => false) && (match K.lookup cc with
              | some ⟨_, _, .cell (some (.ref C')), _⟩ => C' == ga K d.cls
              | _ => false))) = true := h5
            obtain ⟨k1, h5⟩ := He.ba h5
            obtain ⟨k2, k3⟩ := He.ba h5
            refine ⟨c, cc, ⟨rfl, ⟨oc, od, osl, n9, n10, n11, n12, n14, q⟩, h1, k1, ?_, ?_, He.eqO_ok h6, of_decide_eq_true h7, h8, of_decide_eq_true h9, He.eqO_ok h10⟩⟩
            · split at k2
              · rename_i a b vs d' hl
                split at k2
                · rename_i g t hv
                  exact ⟨_, _, vs, _, g, t, hl, hv, k2⟩
                · cases k2
              · cases k2
            · split at k3
              · rename_i a b C' d' hl
                have := beq_iff_eq.mp k3
                subst this
                exact ⟨_, _, _, hl⟩
              · cases k3
          | _ => cases h5
        | _ => cases h5
    | _ => cases h5
/-! ### the Hook -/
abbrev AlR : Type := AlQ × Bool × List FnC
def obsRG (n : Nat) (file : Str) (fa : List He.Fa) (fn : List He.DefD) (er : List ErrD) (tf : List He.Defn) (gs : List GetD) (mb : List MbD) (ex : Frag → Bool) (g : Addr → Option Obj) : AlR := (obsQG n file fa fn er tf gs ex g, mb.all (fun d => d.ok file (He.frT g (asY g n))), mb.map fun d => fnM (He.frT g (asY g n)) d)
def valR (fn : List He.DefD) (er : List ErrD) (gs : List GetD) (mb : List MbD) : AlR := (valQ fn er gs, true, mb.map MbD.val)
structure SaysR (file : Str) (fa : List He.Fa) (fn : List He.DefD) (er : List ErrD) (tf : List He.Defn) (gs : List GetD) (mb : List MbD) (ex : Frag → Bool) (h : Heap) (K : Frag) : Prop where
  q : SaysQ file fa fn er tf gs ex h K
  mb : ∀ d ∈ mb, fnM K d = d.val ∧ d.ok file K = true
theorem saysR_of {n : Nat} {file : Str} {fa : List He.Fa} {fn : List He.DefD} {er : List ErrD} {tf : List He.Defn} {gs : List GetD} {mb : List MbD} {ex : Frag → Bool} {h : Heap} (e : obsRG n file fa fn er tf gs mb ex h.get? = valR fn er gs mb) : SaysR file fa fn er tf gs mb ex h (He.frT h.get? (asY h.get? n)) := by
  have e1 : obsQG n file fa fn er tf gs ex h.get? = valQ fn er gs := congrArg (fun z : AlR => z.1) e
  have e2 : mb.all (fun d => d.ok file (He.frT h.get? (asY h.get? n))) = true := congrArg (fun z : AlR => z.2.1) e
  have e3 : (mb.map fun d => fnM (He.frT h.get? (asY h.get? n)) d) = mb.map MbD.val := congrArg (fun z : AlR => z.2.2) e
  refine ⟨saysQ_of e1, fun d hd => ⟨?_, List.all_eq_true.mp e2 d hd⟩⟩
  obtain ⟨i, hi, rfl⟩ := List.getElem_of_mem hd
  have := congrArg (fun l => l[i]?) e3
  simpa [hi] using this
def hookR (n : Nat) (file : Str) (fa : List He.Fa) (fn : List He.DefD) (er : List ErrD) (tf : List He.Defn) (gs : List GetD) (mb : List MbD) (ex : Frag → Bool) : PySem.W.Hook where
  α := AlR
  obs := fun s => obsRG n file fa fn er tf gs mb ex s.heap.get?
  val := fun _ => valR fn er gs mb
  says := fun _ h => ∃ K : Frag, K.In h ∧ SaysR file fa fn er tf gs mb ex h K
  of := fun _ _ e => ⟨_, He.frT_in, saysR_of e⟩
  keeps := fun _ _ _ ⟨K, hK, c⟩ k => ⟨K, PySem.W.Frag.In.keeps hK k, ⟨⟨c.q.z.y, c.q.z.hd, c.q.z.out, fun p hp => k _ _ (c.q.z.nil p hp)⟩, c.q.gt⟩, c.mb⟩
theorem obsRG_eq {n : Nat} {file : Str} {fa : List He.Fa} {fn : List He.DefD} {er : List ErrD} {tf : List He.Defn} {gs : List GetD} {mb : List MbD} {ex : Frag → Bool} {g : Addr → Option Obj} {s : Shared} (h : ∀ a, g a = s.heap.get? a) : obsRG n file fa fn er tf gs mb ex g = (hookR n file fa fn er tf gs mb ex).obs s := by
  rw [show g = s.heap.get? from funext h]
  first | rfl | trivial
/-! ### tests -/
def insB (K : Frag) (C : Str) : Bool := PySem.W.plainGet K (ga K C) Str.empty && (PySem.W.hasDictIn K (ga K C) && (PySem.W.plainOver K (ga K C) && (He.eqO (PySem.W.findIn K (.ref (ga K C)) "__setattr__") (some (some (.builtin "object.__setattr__"))) && (He.eqO (PySem.W.findIn K (.ref (ga K C)) "__class__") (some (some (.builtin "object.__class__"))) &&
  (He.eqO (PySem.W.specialIn K (.builtin "object.__class__") "__get__") (some (some (.builtin "getset_descriptor.__get__"))) && (decide (PySem.W.takesIn K (.builtin "object.__class__") = some true) && decide (PySem.W.mroIn K (ga K C) (.type "object") = some true)))))))
theorem insB_ok {K : Frag} {C : Str} (h : insB K C = true) : InsK K (ga K C) := by
  unfold insB at h
  obtain ⟨h1, h⟩ := He.ba h
  obtain ⟨h2, h⟩ := He.ba h
  obtain ⟨h3, h⟩ := He.ba h
  obtain ⟨h4, h⟩ := He.ba h
  obtain ⟨h5, h⟩ := He.ba h
  obtain ⟨h6, h⟩ := He.ba h
  obtain ⟨h7, h8⟩ := He.ba h
  have c : (He.Fa.cls C).ok K = true := by
    show (PySem.W.plainGet K (He.ga K C) Str.empty && (PySem.W.hasDictIn K (He.ga K C) && (PySem.W.plainOver K (He.ga K C) && He.eqO (PySem.W.findIn K (.ref (He.ga K C)) "__setattr__") (some (some (.builtin "object.__setattr__")))))) = true
    rw [Bool.and_eq_true, Bool.and_eq_true, Bool.and_eq_true]
    exact ⟨h1, h2, h3, h4⟩
  exact ⟨He.cls_ok c, He.eqO_ok h5, He.eqO_ok h6, of_decide_eq_true h7, of_decide_eq_true h8⟩
/-- isinstance's answers for instances of the classes of tbl, asked for x -/
def isIB (K : Frag) (x : Str) (tbl : List (Str × Bool)) : Bool := tbl.all fun p => insB K p.1 && decide (PySem.W.kitOne K (.ref (ga K p.1)) (.ref (ga K x)) = some p.2)
theorem isIB_ok {K : Frag} {x : Str} {tbl : List (Str × Bool)} (h : isIB K x tbl = true) : ∀ s b, tbl.lookup s = some b → InsK K (ga K s) ∧ PySem.W.kitOne K (.ref (ga K s)) (.ref (ga K x)) = some b := fun s b e => by
  have hm := PySem.mem_of_lookup e
  obtain ⟨a, c⟩ := He.ba (List.all_eq_true.mp h (s, b) hm)
  exact ⟨insB_ok a, of_decide_eq_true c⟩
/-- the classes' texts for f -/
def conTB (K : Frag) (f : Str) (tbl : List (Str × Str)) : Bool := tbl.all fun p => He.Fa.ok K (.cls p.1) && conB K p.1 f p.2
def conTb (tbl : List (Str × Str)) : List (Str × D) := tbl.map fun p => (p.1, .str p.2)
theorem conTB_ok {K : Frag} {f : Str} {tbl : List (Str × Str)} (h : conTB K f tbl = true) : ∀ C v, (conTb tbl).lookup C = some v → Cls K (ga K C) ∧ ∃ vv u, Con K (ga K C) f vv u ∧ ∀ F, Den K F v vv := fun s b e => by
  have hm := PySem.mem_of_lookup e
  obtain ⟨p, hp, ep⟩ := List.mem_map.mp hm
  cases ep
  obtain ⟨a, c⟩ := He.ba (List.all_eq_true.mp h p hp)
  exact ⟨He.cls_ok a, conB_ok c⟩
end DL

/-! D39: a list's items into names; match over texts; def m(p, *v) called with p= alone. -/
namespace DL
open PySem PySem.Spec PyProof.Rows L2 NdefX
section
variable {X : Cx}
/-! ### a, b = xs -/
def gLs (n : Nat) (gs : WGs) : WG := fun d env m Q => Is (lstOf m d) (fun ds => ds.length = n ∧ gs ds env m Q) .mk
@[simp ↓] theorem ev_gLs {n : Nat} {gs : WGs} {d : D} {env : En} {m : Mem} {Q : En → Mem → Prop} : gLs n gs d env m Q = Is (lstOf m d) (fun ds => ds.length = n ∧ gs ds env m Q) .mk := rfl
theorem dgls {es : List Expr} {k : Nat} {pos : Pos} {gs : WGs} {n : Nat} (hc : X.calm = true) (h : DGs X es gs) (hn : (assignEach es X.env).length = n := by rfl) (hst : (assignEach es X.env).findIdx? (·.1) = none := by rfl) : DG X (.Tuple es k pos) (gLs n gs) :=
  wkG (pg_unl hc h hn hst) fun v σ H Q ⟨F, m, env, d, Qd, r, en, dn, ⟨ds, e1, e2, q⟩, n⟩ => by
    obtain ⟨a, vs, rfl, hs, dx⟩ := r.lstOf dn e1
    exact ⟨a, vs, rfl, .inl hs, by rw [← dx.length]; exact e2, F, m, env, _, Qd, r, en, dx, q, n⟩
/-! ### match d: case "x": .. case _: .. -/
def mRun : List (Option Str × WS) → Str → WS
  | [], _ => sNil
  | (none, wb) :: _, _ => wb
  | (some c, wb) :: r, y => fun D env m => if y = c then wb D env m else mRun r y D env m
def DMs (X : Cx) (cases : List MatchCase) (cs : List (Option Str × WS)) : Prop := ∀ (y : Str) (t : Tok) (first : Bool) (pins : List (Addr × Obj)) (s : Shared) (σ : L2.St) (H : Hp) (D : Ends), Inv X pins σ H s → tWS X (mRun cs y) D σ H →
  wpAny (model X.prog X.w) X.A (matchCases cases X.env (.str y t) first) (SP X pins D) X.xe s
theorem dmnil : DMs X [] [] := fun y t first pins s σ H D I ⟨F, m, env, E, r, en, a, q, n, b, c, z⟩ => wpAny_matchCases_nil ⟨σ, H, I, n σ H F m env (Sub.refl F) r en q⟩
theorem dmwild {body : List Stmt} {rest : List MatchCase} {pos : Pos} {wb : WS} {cs : List (Option Str × WS)} (hb : DSs X body wb) : DMs X (⟨.MatchAs none none pos, none, body⟩ :: rest) ((none, wb) :: cs) := fun y t first pins s σ H D I h => by
  refine wpAny_matchCases_cons (wpAny_matchPattern_Capture ?_)
  exact wpAny_assignInOrder_none (hb.run pins s σ H D I h)
theorem dmval {body : List Stmt} {rest : List MatchCase} {e : Expr} {c : Str} {pos : Pos} {wb : WS} {cs : List (Option Str × WS)} (he : PE X e (tC (.str c))) (hb : DSs X body wb) (hr : DMs X rest cs) : DMs X (⟨.MatchValue e pos, none, body⟩ :: rest) ((some c, wb) :: cs) := fun y t first pins s σ H D I h => by
  refine wpAny_matchCases_cons (wpAny_matchPattern_Value ?_)
  refine thn (he.run pins s σ H (fun v H1 => v = .str c ∧ H1 = H) I ⟨rfl, rfl⟩) fun u s1 ⟨v, H1, I1, ru, e1, e2⟩ => ?_
  subst e1 e2
  refine thn (op_eq pins s1 σ H1 (.str y) (.str c) (.str y t) u (fun v H2 => v = .bl (decide (y = c)) ∧ H2 = H1) I1 ⟨t, rfl⟩ ru ⟨rfl, by simp, rfl⟩) fun z s2 ⟨v2, H2, I2, rz, e3, e4⟩ => ?_
  subst e3 e4
  obtain rfl : z = Value.bool (decide (y = c)) := rz
  refine wpAny_pure ?_
  by_cases yc : y = c
  · rw [decide_eq_true yc]
    refine wpAny_assignInOrder_none (hb.run pins s2 σ H2 D I2 ?_)
    obtain ⟨F, m, env, E, r, en, a, q, n⟩ := h
    have q : (if y = c then wb E env m else mRun cs y E env m) := q
    rw [if_pos yc] at q
    exact ⟨F, m, env, E, r, en, a, q, n⟩
  · rw [decide_eq_false yc]
    refine hr y t false pins s2 σ H2 D I2 ?_
    obtain ⟨F, m, env, E, r, en, a, q, n⟩ := h
    have q : (if y = c then wb E env m else mRun cs y E env m) := q
    rw [if_neg yc] at q
    exact ⟨F, m, env, E, r, en, a, q, n⟩
def sMatch (we : WE) (cs : List (Option Str × WS)) : WS := fun D env m => we env m (fun d m1 => ∃ y, d = .str y ∧ mRun cs y D env m1) (fun x m1 => D.xc x env m1)
theorem dmatch {e : Expr} {cases : List MatchCase} {pos : Pos} {we : WE} {cs : List (Option Str × WS)} (he : DE X e we) (hc : DMs X cases cs) : DS X (.Match e cases pos) (sMatch we cs) := by
  refine ⟨fun pins s σ H D I ⟨F, m, env, E, r, en, a, q, n, b, c, t⟩ => ?_⟩
  let R : V → Hp → Prop := fun v H1 => ∃ y F1 m1, v = .str y ∧ Sub F F1 ∧ Rel X.K F1 m1 H1 ∧ EnvDen X.K F1 σ env ∧ mRun cs y E env m1
  have hE : tW X we σ H R := tW.sub r en a q fun v1 H1 F1 m1 d1 s1 r1 en1 dn1 ⟨y, e1, q1⟩ => by
    subst e1
    simp only [Den] at dn1
    exact ⟨y, F1, m1, dn1, s1, r1, en1, q1⟩
  refine wpAny_Match (thn (he.run pins s σ H R I hE) fun u s1 ⟨v, H1, I1, ru, y, F1, m1, ev, s01, r1, en1, q1⟩ => ?_)
  subst ev
  obtain ⟨tk, rfl⟩ := (show ∃ tk, u = Value.str y tk from ru)
  exact hc y tk true pins s1 σ H1 D I1 ⟨F1, m1, env, E, r1, en1, a.mono s01, q1, n.mono s01, b.mono s01, c.mono s01, fun v H' F'' m' d s' => t v H' F'' m' d (s01.trans s')⟩
end
section
variable {g : Bool} {P : Program} {w : World} {K : Frag} {mg : Str → Option Value} {base : Heap} {k : Nat} {x qual : Str} {params : Arguments} {body : List Stmt} {scope : Scope} {kws : List (Str × V)} {f : Addr} {fd : FuncData} {N : List Str} {sp : SpD} {wb : WS}
/-- def m(p, *v), called with p= alone -/
theorem FA.starK {ps1 pv : Str} (F : FunD K x qual params body scope [] kws f fd) (S : FnScope N ([ps1] ++ [pv]) scope) (der : Der g P w K mg base k N scope body wb)
    (spec : ∀ ds m Q E, sp ds m Q E → wb (Dend Q E) (startD N ds) m)
    (hb : ∀ (kV doc pm : Value) (an : Option Addr) (cdv ct : Value) (u : Value), bindArgs (PySem.W.fnOf x qual params body scope .none kV doc pm an cdv ct) ⟨[], [(ps1, u)]⟩ = (newTuple [] >>= fun t => pure [(ps1, u), (pv, t)])) :
    FA g P w K mg base (k + 1) f [ps1] (fun ds m Q E => ∃ d, ds = [d] ∧ sp [d, .tup []] m Q E) := by
  refine ⟨F.kp, fun A outer s H us ws vs Q E hr e0 hl rv ⟨F0, m, ds, QD, ED, r, dn, ⟨d, eds, h⟩, kq, ke⟩ => ?_⟩
  obtain ⟨oc, od, dV, kV, doc, pm, an, cdv, ct, osl, rfl, lk, hcd, hD, _⟩ := F.ex
  subst eds
  have hdv : dV = .none := by
    rcases hD with ⟨_, e⟩ | ⟨e, _⟩
    · exact e
    · exact absurd rfl e
  subst hdv
  obtain ⟨v, rfl, dv⟩ := dens1 dn
  have lall : us.length + ws.length = 1 := by rw [← List.length_append, ← rv.length]; rfl
  have hl : ws.length = 1 := hl
  have hus : us = [] := List.length_eq_zero_iff.mp (by omega)
  subst hus
  rw [List.nil_append] at rv
  cases rv with
  | @cons _ u _ u2 ru r2 =>
    cases r2
    have hfree : H s.heap.objs.size = Option.none := e0.hok.fresh (Nat.le_refl _)
    refine StX.run_bnd lk hcd S hr.room e0 (G := fun xs H2 => ∃ p, H p = Option.none ∧ xs = [v] ++ [V.ref p] ∧ H2 = upd H p (.tup [])) (fun A' Ex Q' hh => ?_) fun s2 H2 xs ⟨p, hp, ex, eH⟩ hr' => ?_
    · show wpAny (model P w) A' (bindArgs _ ⟨[], [(ps1, u)]⟩) Q' Ex s
      rw [hb]
      refine wpAny_bind (wpAny_newTuple (wpAny_pure ?_) (by decide))
      have new : ObjOk P w (upd H s.heap.objs.size (.tup [])) (s.heap.push ({ cls := .type "tuple", data := .seq [].toArray } : Obj)) s.heap.objs.size (.tup []) := ⟨by decide, [], .nil, ⟨_, Heap.get?_push_size _ rfl, rfl, _, rfl⟩⟩
      have un := StX.un_laid (fs := frs outer) (s := s) (o := ({ cls := .type "tuple", data := .seq [].toArray } : Obj)) (u := .tup []) hfree
      exact hh _ _ ([v] ++ [V.ref s.heap.objs.size]) [u, Value.ref s.heap.objs.size] (StX.env0_laid e0 new) un rfl (fun e s' => StX.cxUp outer s H _ _ E e s' un (fun b o q => Heap.get?_push_of_some _ q) rfl) (.cons ru (.cons rfl .nil)) rfl ⟨_, hfree, rfl, rfl⟩
    · subst ex eH
      obtain ⟨r', s'⟩ := r.frozen (o := .tup []) hp
      refine body_rule der spec ⟨hr', hr.gd⟩ ⟨_, m, _, QD, ED, r', ?_, h, fun v H' F' m' d s => kq v H' F' m' d (s'.trans s), fun cls dd H' F' m' y s => ke cls dd H' F' m' y (s'.trans s)⟩
      refine Dens.cons (dv.mono s') (Dens.one ?_)
      simp only [Den]
      exact ⟨p, [], rfl, .inl (.inl upd_same), by simp only [Dens]⟩
theorem HasP.app {nm C : Str} {tbl : Tbl} (h1 : HasP P w K mg base k nm [(C, sp)]) (h2 : HasP P w K mg base k nm tbl) : HasP P w K mg base k nm ((C, sp) :: tbl) := fun C' sp' e => by
  rw [List.lookup_cons] at e
  cases hb : (C' == C) with
  | true =>
    rw [hb] at e
    exact h1 C' sp' (by rw [List.lookup_cons, hb]; exact e)
  | false =>
    rw [hb] at e
    exact h2 C' sp' e
end
end DL

/-! D40: a def with super() called with keywords. -/
namespace DL
open PySem PySem.Spec PyProof.Rows L2 NdefX
section
variable {P : Program} {w : World} {K : Frag} {mg : Str → Option Value} {base : Heap} {g : Bool} {k : Nat} {C m : Str} {f cc f2 : Addr} {F : NF} {N ps : List Str} {sp : SpD} {wb : WS}
/-- a def with super(), its body by a derivation inside its own code -/
theorem FA.ownK (W : SupK P K (ga K C) f cc F m f2) (S : NScope N ps ["__class__"] F.scope)
    (hl : ∀ ds m Q E, sp ds m Q E → ds.length = ps.length)
    (der : ∀ (A : Around) (outer : List Env) (s : Shared) (H : Hp) (E : XK), Rm g k (A.deeper (envF F f s.heap.objs.size)) → DSsc (ncx (CX P w) P w K mg base N F f A outer s H E) F.body F.body wb)
    (spec : ∀ ds m Q E, sp ds m Q E → wb (Dend Q E) (startD N ds) m) (n : Nat) (ks : List Str) (perm : List Nat)
    (hb : ∀ (kV doc pm : Value) (an : Option Addr) (ct : Value) (us ws : List Value), us.length = n → ws.length = ks.length → bindArgs (PySem.W.fnX F.name F.qual F.params F.body F.scope F.cl .none kV doc pm an (.ref F.c) ct) ⟨us, ks.zip ws⟩ = pure (ps.zip (sel perm (us ++ ws)))) : FA g P w K mg base (k + 1) f ks (fun ds m Q E => ds.length = n + ks.length ∧ sp (sel perm ds) m Q E) := by
  obtain ⟨oc, od, osl, kV, doc, pm, an, ct, lk⟩ := W.fn
  obtain ⟨cl, cld, csl, lcell⟩ := W.cell
  refine ⟨W.kp, fun A outer s H us ws vs Q E hr e0 hw rv0 hsp => ?_⟩
  obtain ⟨F0, m0, ds, QD, ED, r, dn0, ⟨hn, h⟩, kq, ke⟩ := hsp
  have dn := sel_dens dn0 perm
  have rv := sel_vals rv0 perm
  have l1 := dn0.length
  have l2 : vs.length = us.length + ws.length := by have := rv0.length; rwa [List.length_append] at this
  have l3 := hl _ _ _ _ h
  have hlv : (sel perm vs).length = ps.length := by rw [← dn.length]; exact l3
  have KX : K.In s.heap := e0.mod.kin.keeps fun b o e => (e0.bs b o e).1
  refine ks_codeAny_call_defAt hr.room.depth (KX _ _ lk) rfl (e0.mod.nolimit.keeps fun b o e => (e0.bs b o e).1) (PySem.W.codeRec_of KX W.code) rfl (.of_eq (hb kV doc pm an ct us ws (by omega) hw)) S.nocell (fun y hy => S.par y.1 (List.of_mem_zip hy).1) (fun h₁ hns kp => ?_) S.co S.gen S.kind
  have hcellA : CellsAt F.cl ["__class__"] [some (.ref (ga K C))] s.heap H := by
    rw [W.cl]
    have only : ∀ (y : Str) (c : Addr), [(("__class__" : Str), cc)].lookup y = some c → y = "__class__" ∧ c = cc := fun y c e => by
      rw [List.lookup_cons] at e
      split at e
      · rename_i q
        cases e
        exact ⟨beq_iff_eq.mp q, rfl⟩
      · cases e
    refine ⟨rfl, fun y c e => ?_, fun x y c e1 e2 => ?_, fun i y e => ?_⟩
    · obtain ⟨_, rfl⟩ := only y c e
      exact ⟨(e0.bs _ _ (e0.mod.kin _ _ lcell)).2, some (.ref (ga K C)), _, KX _ _ lcell, rfl⟩
    · rw [(only x c e1).1, (only y c e2).1]
    · match i, e with
      | 0, e =>
        have e : some ("__class__" : Str) = some y := e
        cases e
        exact ⟨cc, rfl, fun v ev => by
          have ev : some (some (V.ref (ga K C))) = some (some v) := ev
          cases ev
          exact ⟨.ref (ga K C), rfl, _, KX _ _ lcell, rfl⟩⟩
  have I : Inv (ncx (CX P w) P w K mg base N F f A outer s H E) [] (startF N (sel perm vs) [some (.ref (ga K C))]) H { s with heap := h₁, toks := s.toks + (ps.zip (sel perm (us ++ ws))).length } := inv_startN S hr.room.hd e0 hlv rv hcellA hns kp
  have hN : (sel perm vs).length + [some (V.ref (ga K C))].length ≤ N.length := by
    have q := congrArg List.length S.pre
    rw [List.length_take, List.length_append] at q
    have e1 : [some (V.ref (ga K C))].length = 1 := rfl
    have e2 : [("__class__" : Str)].length = 1 := rfl
    rw [e2] at q
    rw [e1, hlv]
    omega
  have D0 := der A outer s H E (hr.deeper _)
  let DD : Ends := { nx := fun _ H' => Q .non H', rt := Q }
  have ht : tWS (ncx (CX P w) P w K mg base N F f A outer s H E) wb DD (startF N (sel perm vs) [some (.ref (ga K C))]) H := by
    refine ⟨F0, m0, startD N (sel perm ds), Dend QD ED, r, start_denF dn hN, ?_, spec _ _ _ _ h, ?_, ?_, ?_, ?_⟩
    · exact ⟨F0, Sub.refl F0, Takes.imp (takes_of rfl rfl rfl rfl) fun cls dd σ' H' ⟨F', m', env', y, s', r', en', xa, m0, hle, hE⟩ => ke cls dd H' F' m0 y s' (r'.le hle) xa hE⟩
    · exact fun σ' H' F' m' env' s r' en' ⟨m0, hle, q⟩ => kq _ H' F' m0 .non s (r'.le hle) (by simp only [Den]) q
    · exact fun σ' H' F' m' env' s r' en' q => q.elim
    · exact fun σ' H' F' m' env' s r' en' q => q.elim
    · exact fun v H' F' m' d s r' dn' ⟨m0, hle, q⟩ => kq v H' F' m0 d s (r'.le hle) dn' q
  show PySem.wpAt (model P w) (ncx (CX P w) P w K mg base N F f A outer s H E).A (.func F.body (ncx (CX P w) P w K mg base N F f A outer s H E).env) (execs F.body (ncx (CX P w) P w K mg base N F f A outer s H E).env) _ _ _
  refine ks_wpAt_mono (Q := SP (ncx (CX P w) P w K mg base N F f A outer s H E) [] DD) (E := (ncx (CX P w) P w K mg base N F f A outer s H E).xe) (D0.run _ _ H DD I ht) (fun fl s'' hs' => ?_) (fun _ _ z => z)
  have fin : ∀ {σ' : L2.St} {H' : Hp} {v : V} {u : Value}, Inv (ncx (CX P w) P w K mg base N F f A outer s H E) [] σ' H' s'' → L2.RelV v u → Q v H' → CE outer P w H s Q u s'' :=
    fun {σ' H' v u} J rv q => ⟨v, H', J.os, J.bare, J.base, J.hok, rv, q⟩
  cases fl with
  | ret u =>
    obtain ⟨v, σ', H', J, rv, q⟩ := hs'
    exact fin J rv q
  | next =>
    obtain ⟨σ', H', J, q⟩ := hs'
    exact fin (v := V.non) (u := Value.none) J rfl q
  | brk =>
    obtain ⟨_, _, _, q⟩ := hs'
    exact False.elim q
  | cont =>
    obtain ⟨_, _, _, q⟩ := hs'
    exact False.elim q
end
end DL

/-! D41: == of plain data with truth values in it. -/
namespace DL
open PySem PySem.Spec PyProof.Rows L2
mutual
def pb : Nat → D → Bool
  | _, .non => true
  | _, .bl _ => true
  | _, .int _ => true
  | _, .str s => PyData.strOk s
  | n + 1, .tup xs => pbA n xs
  | n + 1, .lst xs => pbA n xs
  | _, _ => false
def pbA : Nat → List D → Bool
  | _, [] => true
  | n, x :: xs => pb n x && pbA n xs
end
mutual
theorem pb_py {r : Addr → Option PyData} : ∀ {n : Nat} {x : D}, pb n x = true → pyR r x = some (toP x)
  | _, .non, _ => rfl
  | _, .int _, _ => rfl
  | _, .bl _, _ => rfl
  | _, .str _, _ => rfl
  | _ + 1, .tup xs, h => by simp only [pb] at h; simp only [pyR, toP, pbA_py h, Option.map_some]
  | _ + 1, .lst xs, h => by simp only [pb] at h; simp only [pyR, toP, pbA_py h, Option.map_some]
  | 0, .tup _, h => by simp [pb] at h
  | 0, .lst _, h => by simp [pb] at h
  | _, .ty _, h => by simp [pb] at h
  | _, .ref _, h => by simp [pb] at h
  | _, .klst _, h => by simp [pb] at h
theorem pbA_py {r : Addr → Option PyData} : ∀ {n : Nat} {xs : List D}, pbA n xs = true → pyRs r xs = some (toPs xs)
  | _, [], _ => rfl
  | n, x :: xs, h => by
    simp only [pbA, Bool.and_eq_true] at h
    simp only [pyRs, toPs, pb_py h.1, pbA_py h.2]
end
mutual
theorem pb_lay : ∀ {n : Nat} {x : D}, pb n x = true → (toP x).canLay0 = true ∧ (toP x).depth ≤ n
  | _, .non, _ => ⟨rfl, by simp [toP, PyData.depth]⟩
  | _, .int _, _ => ⟨rfl, by simp [toP, PyData.depth]⟩
  | _, .bl _, _ => ⟨rfl, by simp [toP, PyData.depth]⟩
  | _, .str _, h => ⟨by simp only [toP, PyData.canLay0]; simpa [pb] using h, by simp [toP, PyData.depth]⟩
  | n + 1, .tup xs, h => by
    simp only [pb] at h
    have := pbA_lay h
    simp only [toP, PyData.canLay0, PyData.depth]
    exact ⟨this.1, by omega⟩
  | n + 1, .lst xs, h => by
    simp only [pb] at h
    have := pbA_lay h
    simp only [toP, PyData.canLay0, PyData.depth]
    exact ⟨this.1, by omega⟩
  | 0, .tup _, h => by simp [pb] at h
  | 0, .lst _, h => by simp [pb] at h
  | _, .ty _, h => by simp [pb] at h
  | _, .ref _, h => by simp [pb] at h
  | _, .klst _, h => by simp [pb] at h
theorem pbA_lay : ∀ {n : Nat} {xs : List D}, pbA n xs = true → PyData.canLayAll0 (toPs xs) = true ∧ PyData.depthAll (toPs xs) ≤ n
  | _, [], _ => ⟨rfl, by simp [toPs, PyData.depthAll]⟩
  | n, x :: xs, h => by
    simp only [pbA, Bool.and_eq_true] at h
    have h1 := pb_lay h.1
    have h2 := pbA_lay h.2
    simp only [toPs, PyData.canLayAll0, PyData.depthAll, Bool.and_eq_true]
    exact ⟨⟨h1.1, h2.1⟩, by omega⟩
end
theorem pb_shaped {n : Nat} {x : D} (hn : n ≤ 64) (h : pb n x = true) : SeqAt.shaped (toP x) = true := by
  obtain ⟨a, b⟩ := pb_lay h
  unfold SeqAt.shaped
  rw [a, Bool.true_and]
  exact decide_eq_true (by omega)
theorem pyM_pb {n k : Nat} {m : Mem} {x : D} (h : pb n x = true) : pyM m k x = some (toP x) := by
  cases k <;> exact pb_py h
theorem eqD_pb {x y : D} {m : Mem} {Q : Po} {E : Xo} (hx : pb 60 x = true) (hy : pb 60 y = true) (q : Q (.bl (eqB x y)) m) : eqD x y m Q E := by
  have gen : ∃ d e, pyM m 3 x = some d ∧ pyM m 3 y = some e ∧ SeqAt.shaped d = true ∧ SeqAt.shaped e = true ∧ Q (.bl (PyData.eqv d e)) m := ⟨_, _, pyM_pb hx, pyM_pb hy, pb_shaped (by decide) hx, pb_shaped (by decide) hy, q⟩
  cases x <;> cases y <;> first | exact gen | skip
  · have e : ∀ i j : Int, eqB (.int i) (.int j) = decide (i = j) := fun i j => by show (i == j) = _; exact Bool.beq_eq_decide_eq _ _
    rw [e] at q; exact q
  · have e : ∀ i j : Str, eqB (.str i) (.str j) = decide (i = j) := fun i j => by show (i == j) = _; exact Bool.beq_eq_decide_eq _ _
    rw [e] at q; exact q
theorem neD_pb {x y : D} {m : Mem} {Q : Po} {E : Xo} (hx : pb 60 x = true) (hy : pb 60 y = true) (q : Q (.bl (!eqB x y)) m) : neD x y m Q E := by
  have gen : ∃ d e, pyM m 3 x = some d ∧ pyM m 3 y = some e ∧ SeqAt.shaped d = true ∧ SeqAt.shaped e = true ∧ Q (.bl (!PyData.eqv d e)) m := ⟨_, _, pyM_pb hx, pyM_pb hy, pb_shaped (by decide) hx, pb_shaped (by decide) hy, q⟩
  cases x <;> cases y <;> first | exact gen | skip
  · have e : ∀ i j : Int, eqB (.int i) (.int j) = decide (i = j) := fun i j => by show (i == j) = _; exact Bool.beq_eq_decide_eq _ _
    rw [e] at q; exact q
  · have e : ∀ i j : Str, eqB (.str i) (.str j) = decide (i = j) := fun i j => by show (i == j) = _; exact Bool.beq_eq_decide_eq _ _
    rw [e] at q; exact q
mutual
theorem eqv_self : ∀ {n : Nat} {x : D}, pb n x = true → PyData.eqv (toP x) (toP x) = true
  | _, .non, _ => rfl
  | _, .bl b, _ => by cases b <;> rfl
  | _, .int _, _ => by simp [toP, PyData.eqv]
  | _, .str _, _ => by simp [toP, PyData.eqv]
  | n + 1, .tup xs, h => by
    simp only [pb] at h
    simp only [toP, PyData.eqv]
    exact eqv_selfs h
  | n + 1, .lst xs, h => by
    simp only [pb] at h
    simp only [toP, PyData.eqv]
    exact eqv_selfs h
  | 0, .tup _, h => by simp [pb] at h
  | 0, .lst _, h => by simp [pb] at h
  | _, .ty _, h => by simp [pb] at h
  | _, .ref _, h => by simp [pb] at h
  | _, .klst _, h => by simp [pb] at h
theorem eqv_selfs : ∀ {n : Nat} {xs : List D}, pbA n xs = true → PyData.eqvAll (toPs xs) (toPs xs) = true
  | _, [], _ => rfl
  | n, x :: xs, h => by
    simp only [pbA, Bool.and_eq_true] at h
    simp only [toPs, PyData.eqvAll, eqv_self h.1, eqv_selfs h.2, Bool.and_self]
end
theorem eqB_self {x : D} (h : pb 60 x = true) : eqB x x = true := eqv_self h
theorem eqD_self {x : D} {m : Mem} {Q : Po} {E : Xo} (h : pb 60 x = true) (q : Q (.bl true) m) : eqD x x m Q E := eqD_pb h h (by rw [eqB_self h]; exact q)
theorem neD_self {x : D} {m : Mem} {Q : Po} {E : Xo} (h : pb 60 x = true) (q : Q (.bl false) m) : neD x x m Q E := neD_pb h h (by rw [eqB_self h]; exact q)
end DL

/-! D42: match, evaluated. -/
namespace DL
open PySem PySem.Spec PyProof.Rows L2
def mK (cs : List (Option Str × WS)) (D : De) (env : En) (d : DL.D) (m : Mem) : Prop := ∃ y, d = .str y ∧ mRun cs y D env m
@[simp ↓] theorem ev_match {we : WE} {cs : List (Option Str × WS)} {D : De} {env : En} {m : Mem} : sMatch we cs D env m = we env m (mK cs D env) (fun x m' => D.xc x env m') := rfl
@[simp ↓] theorem mK_ {cs : List (Option Str × WS)} {D : De} {env : En} {y : Str} {m : Mem} : mK cs D env (.str y) m = mRun cs y D env m := by
  unfold mK
  apply propext
  constructor
  · rintro ⟨z, e, h⟩; cases e; exact h
  · intro h; exact ⟨y, rfl, h⟩
@[simp ↓] theorem mRun_hit {c : Str} {wb : WS} {r : List (Option Str × WS)} {D : De} {env : En} {m : Mem} : mRun ((some c, wb) :: r) c D env m = wb D env m := if_pos rfl
@[simp ↓] theorem mRun_wild {wb : WS} {r : List (Option Str × WS)} {y : Str} {D : De} {env : En} {m : Mem} : mRun ((none, wb) :: r) y D env m = wb D env m := rfl
theorem mRun_miss {c y : Str} {wb : WS} {r : List (Option Str × WS)} {D : De} {env : En} {m : Mem} (h : y ≠ c) : mRun ((some c, wb) :: r) y D env m = mRun r y D env m := if_neg h
end DL

/-! D43: dict(pairs), list(d), d.get(k), for over a dict's keys, isinstance of an error and two classes, x not in o. -/
namespace DL
open PySem PySem.Spec PyProof.Rows L2 NdefX
/-! ### dict(pairs) -/
def pairsD : List D → Option (List (Key × D))
  | [] => some []
  | .tup [k, v] :: r => (keyD k).bind fun k => (pairsD r).map fun l => (k, v) :: l
  | _ => none
theorem pairsD_map {α : Type} (f : α → Str) (g : α → D) : ∀ l : List α, pairsD (l.map fun x => .tup [.str (f x), g x]) = some (l.map fun x => (.inr (f x), g x))
  | [] => rfl
  | x :: l => by
    have ih := pairsD_map f g l
    show ((keyD (.str (f x))).bind fun k => (pairsD (l.map fun x => .tup [.str (f x), g x])).map fun l => (k, g x) :: l) = _
    rw [ih]; rfl
def fDictP : FB := fun ds m Q => match ds with
  | [d] => ∃ xs kvs, lstOf m d = some xs ∧ pairsD xs = some kvs ∧ ∀ p, m p = none → Q (.ref p) (m.put p (.dct (mergeD [] kvs)))
  | _ => False
section
variable {X : Cx}
theorem pairs_den {K : Frag} {F : Hp} {H : Hp} {m : Mem} (r : Rel K F m H) : ∀ {xs : List D} {vs : List V} {kvs : List (Key × D)}, Dens K F xs vs → pairsD xs = some kvs →
    ∃ (ps : List Addr) (qs : List (Key × V)), vs = ps.map V.ref ∧ Paired (fun p (kv : Key × V) => SqT K H p [kV kv.1, kv.2]) ps qs ∧ DenP K F kvs qs
  | [], vs, kvs, d, e => by
    simp only [Dens] at d; subst d; cases e
    exact ⟨[], [], rfl, .nil, .nil⟩
  | x :: xs, vs, kvs, d, e => by
    simp only [Dens] at d
    obtain ⟨v, vr, rfl, dx, dr⟩ := d
    cases x <;> first | (cases e; done) | skip
    rename_i ys
    match ys, e with
    | [k, z], e =>
      have e : ((keyD k).bind fun k => (pairsD xs).map fun l => (k, z) :: l) = some kvs := e
      cases hk : keyD k with
      | none => rw [hk] at e; cases e
      | some kk =>
        cases hp : pairsD xs with
        | none => rw [hk, hp] at e; cases e
        | some l =>
          rw [hk, hp] at e
          cases e
          obtain ⟨ps, qs, e1, h1, h2⟩ := pairs_den r dr hp
          simp only [Den] at dx
          obtain ⟨a, us, rfl, hs, du⟩ := dx
          obtain ⟨u1, u2, rfl, d1, d2⟩ := dens2 du
          obtain rfl := keyD_den d1 hk
          exact ⟨a :: ps, (kk, u2) :: qs, by rw [e1]; rfl, .cons (r.sqT hs) h1, .cons ⟨rfl, d2⟩ h2⟩
theorem mergeP_den {K : Frag} {F : Hp} : ∀ {kvs : List (Key × D)} {qs : List (Key × V)} {a : List (Key × D)} {b : List (Key × V)}, DenP K F kvs qs → DenP K F a b → DenP K F (mergeD a kvs) (mergeK b qs)
  | _, _, _, _, .nil, h => by simpa [mergeD, mergeK] using h
  | (k, d) :: kvs, (k', v) :: qs, a, b, .cons h t, h2 => by
    obtain ⟨e, dv⟩ := h
    have e : k = k' := e
    subst e
    show DenP K F (mergeD (putD a k d) kvs) (mergeK (putK b k v) qs)
    exact mergeP_den (kvs := kvs) (qs := qs) t (putD_den dv h2)
theorem ddictP {p pos : Pos} {e : Expr} {we : WA} (hc : X.calm = true) (hg : Gl X "dict") (hm : X.mg "dict" = none) (ha : DA X [e] we) (he : starEach [e] X.env = (false, eval e X.env) :: starEach [] X.env := by rfl) : DE X (.Call (.Name "dict" p) [e] [] pos) (wCB fDictP we) :=
  dct (call_dictP hc) (fun F m H ds vs Qd Q r dn q k => by
    match ds, q with
    | [d], ⟨xs, kvs, e1, e2, q⟩ =>
      obtain ⟨v, rfl, dv⟩ := dens1 dn
      obtain ⟨a, us, rfl, hs, du⟩ := r.lstOf dv e1
      obtain ⟨ps, qs, rfl, h1, h2⟩ := pairs_den r du e2
      refine ⟨a, ps, qs, rfl, .inl hs, h1, fun p hp => ?_⟩
      obtain ⟨fp, mp⟩ := r.free hp
      refine k _ _ F _ (.ref p) (Sub.refl F) (r.fresh hp ?_) (by simp only [Den]) (q p mp)
      simp only [CellOk]
      exact ⟨_, upd_same, mergeP_den h2 .nil⟩) hg hm (by decide +kernel) ha (he := he)
/-! ### list(d) -/
def fListK : FB := fun ds m Q => match ds with
  | [d] => ∃ kvs, dctOf m d = some kvs ∧ Q (.lst (kvs.map fun kv => kyD kv.1)) m
  | _ => False
theorem dens_keys {K : Frag} {F : Hp} : ∀ {ps : List (Key × D)} {qs : List (Key × V)}, DenP K F ps qs → Dens K F (ps.map fun kv => kyD kv.1) (qs.map fun kv => kV kv.1)
  | _, _, .nil => by simp only [List.map_nil, Dens]
  | (a, x) :: _, (b, y) :: _, .cons h t => by
    obtain ⟨h1, _⟩ := h
    have h1 : a = b := h1
    subst h1
    exact Dens.cons (den_ky a) (dens_keys t)
theorem dlistK {p pos : Pos} {e : Expr} {we : WA} (hc : X.calm = true) (hg : Gl X "list") (hm : X.mg "list" = none) (ha : DA X [e] we) (he : starEach [e] X.env = (false, eval e X.env) :: starEach [] X.env := by rfl) : DE X (.Call (.Name "list" p) [e] [] pos) (wCB fListK we) :=
  dct (call_list_dK hc) (fun F m H ds vs Qd Q r dn q k => by
    match ds, q with
    | [d], ⟨kvs, e1, q⟩ =>
      obtain ⟨v, rfl, dv⟩ := dens1 dn
      obtain ⟨a, qs, rfl, rfl, hm, ha, dp⟩ := r.dct dv e1
      refine ⟨a, qs, rfl, ha, fun p hp => ?_⟩
      obtain ⟨r', s'⟩ := r.frozen (o := .lst (qs.map fun kv => kV kv.1)) hp
      refine k _ _ _ m _ s' r' ?_ q
      simp only [Den]
      exact ⟨p, _, rfl, .inl upd_same, (dens_keys dp).mono s'⟩) hg hm (by decide +kernel) ha (he := he)
/-! ### d.get(k) -/
def wDGet (wo we : WE) : WE := fun env m Q E => wo env m (fun d m1 => (dctOf m1 d).isSome = true ∧ we env m1 (fun i m2 => Is (dctOf m2 d) (fun kvs => Is (keyD i) (fun k => Q ((valD kvs k).getD .non) m2) .mk) .mk) E) E
@[simp ↓] theorem ev_dget {wo we : WE} {env : En} {m : Mem} {Q : Po} {E : Xo} : wDGet wo we env m Q E = wo env m (fun d m1 => (dctOf m1 d).isSome = true ∧ we env m1 (fun i m2 => Is (dctOf m2 d) (fun kvs => Is (keyD i) (fun k => Q ((valD kvs k).getD .non) m2) .mk) .mk) E) E := rfl
theorem ddgetM {o e : Expr} {apos cpos : Pos} {wo we : WE} (hu : X.A.units + 64 < cLine) (ho : DE X o wo) (he : DE X e we) (hb : attributeBase o "get" X.env (eval o X.env) = eval o X.env := by rfl)
    (few : ((backTo cpos (starEach [e] X.env)).all (fun x => !x.1) && (backToKw cpos (keywordEach [] X.env)).all (fun x => x.1.isSome) && decide (([e] : List Expr).length + ([] : List Keyword).length + (if ([] : List Keyword).isEmpty then 0 else 1) < 30)) = true := by rfl)
    (line : (apos.endLine == cpos.line) = true := by rfl) (trees : backTo cpos (starEach [e] X.env) = [(false, eval e X.env)] := by rfl) : DE X (.Call (.Attribute o "get" apos) [e] [] cpos) (wDGet wo we) :=
  wkE (pe_dget1 (by omega) ho he ⟨hb, few, line, trees⟩) fun σ H Q ⟨F, m, env, Qd, xc, r, en, a, q, k⟩ => tW.sub r en a q fun v1 H1 F1 m1 d1 s1 r1 en1 dn1 ⟨hs, q1⟩ => by
    obtain ⟨kvs, e⟩ := Option.isSome_iff_exists.mp hs
    obtain ⟨p, qs, rfl, rfl, hm, hp, dp⟩ := r1.dct dn1 e
    refine ⟨p, rfl, .inl ⟨qs, .inl hp⟩, tW.sub r1 en1 (a.mono s1) q1 fun v2 H2 F2 m2 d2 s2 r2 en2 dn2 ⟨kvs2, e2, kk, e3, q2⟩ => ?_⟩
    obtain ⟨p', qs2, e4, e5, hm2, hp2, dp2⟩ := r2.dct (dn1.mono s2) e2
    cases e4
    obtain rfl := keyD_den dn2 e3
    refine ⟨valV qs2 kk, .k hp2, ?_⟩
    have q2 : Qd ((valD kvs2 kk).getD .non) m2 := q2
    rcases valD_den (k := kk) dp2 with ⟨h1, h2⟩ | ⟨dd, vv, h1, h2, h3⟩
    · rw [h1] at q2
      rw [h2]
      exact k _ H2 F2 m2 .non (s1.trans s2) r2 (by simp only [Den]; rfl) q2
    · rw [h1] at q2
      rw [h2]
      exact k _ H2 F2 m2 dd (s1.trans s2) r2 h3 q2
/-! ### for x in d, d locked -/
def wiKeys (we : WE) : WI := fun env m Q E => we env m (fun d m1 => ∃ p o qs kvs, d = .ref p ∧ m1 p = some (.fdct o qs kvs) ∧ Q (kvs.map fun kv => kyD kv.1) (fun m' => m' p = some (.fdct o qs kvs)) m1) E
theorem dirkeys {tg e : Expr} {we : WE} (he : DE X e we) : DI X tg e (wiKeys we) :=
  wkI (pi_keys he) fun σ H R ⟨F, m, env, Qd, xc, r, en, a, q, k⟩ => tW.sub r en a q fun v1 H1 F1 m1 d1 s1 r1 en1 dn1 ⟨p, o, qs, kvs, e1, e2, q1⟩ => by
    subst e1
    simp only [Den] at dn1
    subst dn1
    have at_ : ∀ {F' : Hp} {m' : Mem} {H' : Hp}, Rel X.K F' m' H' → m' p = some (.fdct o qs kvs) → H' p = some (.frz o (.dK qs)) ∧ DenP X.K F' kvs qs := fun r' e' => by
      obtain ⟨_, z⟩ := r'.me p _ e'
      simpa only [CellOk] using z
    refine ⟨p, o, rfl, .inl ⟨qs, (at_ r1 e2).1, k _ H1 F1 m1 _ _ s1 r1 (fun F' m' H' i s r' kp => ?_) e2 q1⟩⟩
    obtain ⟨h1, h2⟩ := at_ r' kp
    have hl := h2.length
    rw [List.length_map]
    refine ⟨fun hi => ⟨⟨h1, by rw [← hl]; exact hi⟩, fun x H2 ⟨eH, kx, v, ek, ex⟩ => ?_⟩, fun hi => ⟨h1, by rw [← hl]; exact hi⟩⟩
    subst ex eH
    obtain ⟨d, ed, dd⟩ := DenP.at_ h2 ek
    exact ⟨_, _, Sub.refl _, r', by rw [List.getElem?_map, ed]; rfl, den_ky kx⟩
def keyB (g : WG) (wt : WT) (we : WE) (vs : List Nat) (env : En) (Q : Po) (t : Tag Q) (d : D) (m1 : Mem) : Prop := ∃ p o qs kvs, d = .ref p ∧ m1 p = some (.fdct o qs kvs) ∧ LcB g wt we vs env m1 (kvs.map fun kv => kyD kv.1) (fun m' => m' p = some (.fdct o qs kvs)) (fun r => Q (.lst r) m1)
@[simp ↓] theorem ev_lcK {w : WE} {g : WG} {wt : WT} {we : WE} {vs : List Nat} {env : En} {m : Mem} {Q : Po} {E : Xo} : wLcP (wiKeys w) g wt we vs env m Q E = w env m (keyB g wt we vs env Q .mk) E := rfl
theorem keyB.intro {β : Type} {g : WG} {wt : WT} {we : WE} {vs : List Nat} {env : En} {Q : Po} {t : Tag Q} {p : Addr} {m1 : Mem} {o : Obj} {qs : List (Key × V)} {kvs : List (Key × D)} (l : List Str) (hl : kvs.map (fun kv => kyD kv.1) = l.map D.str) (h : m1 p = some (.fdct o qs kvs)) (hz : l.length ≤ sizeLine) (f : Str → Option β) (ψ : β → D)
    (turn : ∀ a ∈ l, ∀ m', m1.le m' → g (.str a) (wipeD env vs) m' (fun e2 m2 => wt e2 m2 (fun b m3 => if b = true then we e2 m3 (fun y m4 => m4 = m' ∧ (f a).map ψ = some y) noX else m3 = m' ∧ f a = none) noX)) (q : Q (.lst ((l.filterMap f).map ψ)) m1) : keyB g wt we vs env Q t (.ref p) m1 :=
  ⟨p, o, qs, kvs, rfl, h, LcB.intro l D.str f ψ (fun a b h => by cases h; rfl) hl hz (fun m' hm => hm p _ h) turn q⟩
/-! ### x not in o -/
theorem op_ninI {k : Nat} {f C : Addr} {sp : SpD} (m : Meth X.K C "__contains__" f) (F : FA false X.prog X.w X.K X.mg X.base k f [] sp) (hr : Room k X.A) :
    OpR X (compareOp .NotIn) (fun x y H Q => ∃ a dx gs, y = .ref a ∧ H a = some (.ins C dx gs) ∧ liftSp X.K sp [.ref a, x] H (fun v H' => ∃ b : Bool, v = .bl b ∧ Q (.bl (!b)) H') (fun _ _ _ => False)) := by
  intro pins s σ H x y v u Q I rx ry ⟨a, dx, gs, e, ha, h⟩
  subst e
  obtain rfl : u = Value.ref a := ry
  obtain ⟨mA, O, _, _, _, _⟩ := ins_get I.hok ha
  obtain ⟨od, J, _⟩ := O.look
  show wpAny _ _ (contains (.ref a) v >>= fun r => pure (Value.bool (!r))) _ _ s
  unfold contains
  refine wpAny_bind (wpAny_holding ?_)
  show wpAny _ _ (specialOf (.ref a) "__contains__" >>= _) _ _ s
  unfold specialOf
  refine wpAny_bind (wpAny_bind (J.type.here ((PySem.W.looks_findIn I.kIn m.at_).here ?_)))
  show wpAny _ _ (if (some (Value.ref f) == some Value.none) = true then _ else _) _ _ s
  rw [if_neg (by simp)]
  refine wpAny_bind (special_ownN I.kIn J m ?_)
  refine wpAny_mono (F.quiet (A := X.A) (us := [.ref a, v]) (vs := [.ref a, x]) hr I I.env0 (.cons rfl (.cons rx .nil)) h) (fun z s' ⟨w', H', I', rv, b, e, q⟩ => ?_) fun _ _ z => z
  subst e
  obtain rfl : z = Value.bool b := rv
  exact wpAny_pure (wpAny_pure ⟨.bl (!b), H', I', rfl, q⟩)
def nboolK (Q : Po) (d : D) (m : Mem) : Prop := ∃ b : Bool, d = .bl b ∧ Q (.bl (!b)) m
@[simp ↓] theorem nboolK_ {Q : Po} {b : Bool} {m : Mem} : nboolK Q (.bl b) m = Q (.bl (!b)) m := by simp [nboolK]
def ninT (tbl : Tbl) : WO := fun x y m Q _ => Is (insOf m y) (fun q => Is (tbl.lookup q.1) (fun sp => AppN sp [y, x] m (nboolK Q) .mk) .mk) .mk
@[simp ↓] theorem ev_ninT {tbl : Tbl} {x y : D} {m : Mem} {Q : Po} {E : Xo} : ninT tbl x y m Q E = Is (insOf m y) (fun q => Is (tbl.lookup q.1) (fun sp => AppN sp [y, x] m (nboolK Q) .mk) .mk) .mk := rfl
theorem cninT {k : Nat} {tbl : Tbl} (HM : HasM false X.prog X.w X.K X.mg X.base k "__contains__" [] tbl) (hr : Room k X.A) : CmpD X .NotIn (ninT tbl) := by
  refine ⟨fun x y H Q => ∃ C sp f a dx gs, tbl.lookup C = some sp ∧ Meth X.K (ga X.K C) "__contains__" f ∧ FA false X.prog X.w X.K X.mg X.base k f [] sp ∧ y = .ref a ∧ H a = some (.ins (ga X.K C) dx gs) ∧ liftSp X.K sp [.ref a, x] H (fun v H' => ∃ b : Bool, v = .bl b ∧ Q (.bl (!b)) H') (fun _ _ _ => False), ?_, ?_⟩
  · rintro pins s σ H x y v u Q I rx ry ⟨C, sp, f, a, dx, gs, _, mm, F, e1, e2, h⟩
    exact op_ninI mm F hr pins s σ H x y v u Q I rx ry ⟨a, dx, gs, e1, e2, h⟩
  · rintro F0 m0 H x y v u Qd E Q r d1 d2 ⟨q, e1, sp, e2, q1⟩ kk
    obtain ⟨p, rfl, e4⟩ := insOf_some e1
    have d20 := d2
    simp only [Den] at d2
    subst d2
    obtain ⟨f, c, mm, F⟩ := HM _ sp e2
    obtain ⟨dx, gs, hp, dp⟩ := r.ins e4
    refine ⟨q.1, sp, f, p, dx, gs, e2, mm, F, rfl, hp, lift_quiet r (Dens.cons d20 (Dens.one d1)) q1 fun v H' F' m' d s r' dn ⟨b, e3, q2⟩ => ?_⟩
    subst e3
    simp only [Den] at dn
    exact ⟨b, dn, kk _ H' F' m' (.bl (!b)) s r' (by simp only [Den]) q2⟩
theorem dninT {k : Nat} {tbl : Tbl} {a b : Expr} {pos : Pos} {wa wb : WE} (HM : HasM false X.prog X.w X.K X.mg X.base k "__contains__" [] tbl) (hr : Room k X.A) (ha : DE X a wa) (hb : DE X b wb) (hm : behindInMarks .NotIn b = false := by rfl) : DE X (.Compare a [.NotIn] [b] pos) (wBin (ninT tbl) wa wb) := dcmpC (cninT HM hr) ha hb hm
theorem dninTT {k : Nat} {tbl : Tbl} {a b : Expr} {pos : Pos} {wa wb : WE} (HM : HasM false X.prog X.w X.K X.mg X.base k "__contains__" [] tbl) (hr : Room k X.A) (ha : DE X a wa) (hb : DE X b wb) (hm : behindInMarks .NotIn b = false := by rfl) : DT X (.Compare a [.NotIn] [b] pos) (wTruB (wBin (ninT tbl) wa wb)) := dcmpT (cninT HM hr) ha hb hm
theorem cinT {k : Nat} {tbl : Tbl} (HM : HasM false X.prog X.w X.K X.mg X.base k "__contains__" [] tbl) (hr : Room k X.A) : CmpD X .In (inT tbl) := by
  refine ⟨fun x y H Q => ∃ C sp f a dx gs, tbl.lookup C = some sp ∧ Meth X.K (ga X.K C) "__contains__" f ∧ FA false X.prog X.w X.K X.mg X.base k f [] sp ∧ y = .ref a ∧ H a = some (.ins (ga X.K C) dx gs) ∧ liftSp X.K sp [.ref a, x] H (fun v H' => ∃ b : Bool, v = .bl b ∧ Q (.bl b) H') (fun _ _ _ => False), ?_, ?_⟩
  · rintro pins s σ H x y v u Q I rx ry ⟨C, sp, f, a, dx, gs, _, mm, F, e1, e2, h⟩
    exact op_inI mm F hr pins s σ H x y v u Q I rx ry ⟨a, dx, gs, e1, e2, h⟩
  · rintro F0 m0 H x y v u Qd E Q r d1 d2 ⟨q, e1, sp, e2, q1⟩ kk
    obtain ⟨p, rfl, e4⟩ := insOf_some e1
    have d20 := d2
    simp only [Den] at d2
    subst d2
    obtain ⟨f, c, mm, F⟩ := HM _ sp e2
    obtain ⟨dx, gs, hp, dp⟩ := r.ins e4
    refine ⟨q.1, sp, f, p, dx, gs, e2, mm, F, rfl, hp, lift_quiet r (Dens.cons d20 (Dens.one d1)) q1 fun v H' F' m' d s r' dn ⟨b, e3, q2⟩ => ?_⟩
    subst e3
    simp only [Den] at dn
    exact ⟨b, dn, kk _ H' F' m' (.bl b) s r' (by simp only [Den]) q2⟩
theorem dinTT {k : Nat} {tbl : Tbl} {a b : Expr} {pos : Pos} {wa wb : WE} (HM : HasM false X.prog X.w X.K X.mg X.base k "__contains__" [] tbl) (hr : Room k X.A) (ha : DE X a wa) (hb : DE X b wb) (hm : behindInMarks .In b = false := by rfl) : DT X (.Compare a [.In] [b] pos) (wTruB (wBin (inT tbl) wa wb)) := dcmpT (cinT HM hr) ha hb hm
/-! ### isinstance(e, (C, D)), e an error -/
theorem call_isO2 : CallR X (.builtin "isinstance") (fun xs H Q => ∃ (a D dd c1 c2 tp : Addr) (oe : Obj) (fs : List (Str × V)) (b : Bool), xs = [.ref a, .ref tp] ∧ H tp = some (.tup [.ref c1, .ref c2]) ∧ H a = some (errO a oe) ∧ oe.cls = .ref D ∧ oe.dict = some dd ∧ (∃ vs, oe.data = .fields vs) ∧ H dd = some (.xd fs) ∧ ExcC X.K D ∧ PySem.W.kitAny X.K (.ref D) [.ref c1, .ref c2] = some b ∧ Q (.bl b) H) := by
  intro pins s σ H xs us Q I r ⟨a, D, dd, c1, c2, tp, oe, fs, b, e, ht, ha, hc, hd, ⟨vs, hv⟩, hx, C, hk, q⟩
  subst e
  cases r with
  | cons rx rr =>
    cases rr with
    | cons rt rr =>
      cases rr
      cases rx
      cases rt
      have hg : s.heap.get? a = some oe := (I.hok a _ ha).1
      obtain ⟨mA, hns, _⟩ := (show ObjOk X.prog X.w H s.heap dd (.xd fs) from I.hok dd _ hx)
      obtain ⟨od, ho, _⟩ := lookIn_ns hns
      have J : PySem.W.InstAt s.heap a oe D (some od) := ⟨hg, hc, by unfold PySem.W.notCls; rw [hv] <;> rfl, by rw [hd]; exact ho⟩
      obtain ⟨_, its, rv, o, h1, h2, n, h3⟩ := (show ObjOk X.prog X.w H s.heap tp (.tup [.ref c1, .ref c2]) from I.hok tp _ ht)
      have e3 : its = [.ref c1, .ref c2] := by
        cases rv with
        | cons r1 rv => cases rv with
          | cons r2 rv => cases rv; cases r1; cases r2; rfl
      subst e3
      obtain ⟨oc, od', dt, sl⟩ := o
      simp only at h2 h3
      subst h2 h3
      exact PySem.W.kia_tup (err_kit C) I.kIn J h1 hk (fun z => nomatch z) fun tk => ⟨.bl b, H, I.kept (t' := tk) fun _ _ z => z, rfl, q⟩
def wIsO2 (tbl : Str → Option Bool) (we : WE) : WE := wIsO tbl we
theorem disO2 {x1 x2 : Str} {tbl : Str → Option Bool} {e : Expr} {we : WE} {kk : Nat} {p p1 p2 pt pos : Pos} (hC : ∀ s b, tbl s = some b → ExcC X.K (ga X.K s) ∧ PySem.W.kitAny X.K (.ref (ga X.K s)) [.ref (ga X.K x1), .ref (ga X.K x2)] = some b) (hx1 : X.mg x1 = some (.ref (ga X.K x1))) (hx2 : X.mg x2 = some (.ref (ga X.K x2))) (hg1 : Gl X x1) (hg2 : Gl X x2)
    (hg : Gl X "isinstance") (hm : X.mg "isinstance" = none) (he : DE X e we) (hdb1 : (x1 == ("__debug__" : Str)) = false := by decide) (hdb2 : (x2 == ("__debug__" : Str)) = false := by decide)
    (hs : starEach [e, .Tuple [.Name x1 p1, .Name x2 p2] kk pt] X.env = (false, eval e X.env) :: starEach [.Tuple [.Name x1 p1, .Name x2 p2] kk pt] X.env := by rfl) (hs2 : starEach [.Tuple [.Name x1 p1, .Name x2 p2] kk pt] X.env = (false, eval (.Tuple [.Name x1 p1, .Name x2 p2] kk pt) X.env) :: starEach [] X.env := by rfl)
    (hs3 : starEach [.Name x1 p1, .Name x2 p2] X.env = (false, eval (.Name x1 p1) X.env) :: starEach [.Name x2 p2] X.env := by rfl) (hs4 : starEach [.Name x2 p2] X.env = (false, eval (.Name x2 p2) X.env) :: starEach [] X.env := by rfl) (hpl : (backTo pos (starEach [.Tuple [.Name x1 p1, .Name x2 p2] kk pt] X.env)).any (·.1) = false := by rfl) :
    DE X (.Call (.Name "isinstance" p) [e, .Tuple [.Name x1 p1, .Name x2 p2] kk pt] [] pos) (wIsO tbl we) :=
  wkE (pe_callB call_isO2 hg hm PyProof.Rows.boot_isinstance (pa_cons he (pa_cons (pe_tup (pa_cons (pe_glob (v := V.ref (ga X.K x1)) hg1 hx1 rfl hdb1) (pa_cons (pe_glob (v := V.ref (ga X.K x2)) hg2 hx2 rfl hdb2) pa_nil hs4) hs3)) pa_nil hs2) hs) (he := hs) (hpl := hpl)) fun σ H Q ⟨F, m, env, Qd, xc, r, en, a, q, k⟩ => tW.sub r en a q fun v1 H1 F1 m1 d1 s1 r1 en1 dn1 ⟨a, c, dd, ns, xs, b, e1, ens, e2, e3, q1⟩ => by
    subst e1
    refine ⟨by show 2 ≤ sizeLine; decide, fun tp ht => ?_⟩
    obtain ⟨r2, s2⟩ := r1.frozen (o := .tup [.ref (ga X.K x1), .ref (ga X.K x2)]) ht
    obtain ⟨oe, h1, h2, h3, h4⟩ := r2.err e2
    have dn2 := dn1.mono s2
    simp only [Den] at dn2
    obtain ⟨rfl, vs, dv, ⟨_, z⟩ | ⟨dd', gs, z, hd, g1, g2⟩⟩ := dn2
    · exact (ens z).elim
    · cases z
      exact ⟨_, _, dd', _, _, tp, oe, gs, b, rfl, upd_same, h1, h2, h3, h4, r2.fz _ _ hd, (hC c b e3).1, (hC c b e3).2, k _ _ _ m1 (.bl b) (s1.trans s2) r2 (by simp only [Den]) q1⟩
/-- the table of isinstance(e, (x1, x2)) -/
structure IsTb2 (K : Frag) (x1 x2 : Str) (yes : List Str) : Prop where
  yes : ∀ s ∈ yes, ExcC K (ga K s) ∧ PySem.W.kitAny K (.ref (ga K s)) [.ref (ga K x1), .ref (ga K x2)] = some true
def isTB2 (K : Frag) (x1 x2 : Str) (yes : List Str) : Bool := yes.all fun s => excCB K (ga K s) && decide (PySem.W.kitAny K (.ref (ga K s)) [.ref (ga K x1), .ref (ga K x2)] = some true)
theorem isTB2_ok {K : Frag} {x1 x2 : Str} {yes : List Str} (h : isTB2 K x1 x2 yes = true) : IsTb2 K x1 x2 yes := ⟨fun s hs => by
  obtain ⟨a, b⟩ := He.ba (List.all_eq_true.mp h s hs)
  exact ⟨excCB_ok a, of_decide_eq_true b⟩⟩
theorem IsTb2.hit {K : Frag} {x1 x2 : Str} {yes : List Str} (t : IsTb2 K x1 x2 yes) : ∀ s b, DL.hit yes [] s = some b → ExcC K (ga K s) ∧ PySem.W.kitAny K (.ref (ga K s)) [.ref (ga K x1), .ref (ga K x2)] = some b := fun s b e => by
  unfold DL.hit at e
  split at e
  · cases e; exact t.yes s (by assumption)
  · split at e
    · rename_i h; exact absurd h (by simp)
    · cases e
end
end DL

/-! D44: d[k] while d is gone through. -/
namespace DL
open PySem PySem.Spec PyProof.Rows L2 NdefX
/-- the dict, walked or not -/
def dctL (m : Mem) : D → Option (List (Key × D))
  | .ref p => match m p with
    | some (.dct kvs) => some kvs
    | some (.fdct _ _ kvs) => some kvs
    | _ => none
  | _ => none
theorem dctL_f {m : Mem} {p : Addr} {o : Obj} {qs : List (Key × V)} {kvs : List (Key × D)} (h : m p = some (.fdct o qs kvs)) : dctL m (.ref p) = some kvs := by simp [dctL, h]
theorem dctL_d {m : Mem} {p : Addr} {kvs : List (Key × D)} (h : m p = some (.dct kvs)) : dctL m (.ref p) = some kvs := by simp [dctL, h]
theorem Rel.dctL {K : Frag} {F : Hp} {m : Mem} {H : Hp} (r : Rel K F m H) {d : D} {v : V} {kvs : List (Key × D)} (dn : Den K F d v) (e : dctL m d = some kvs) : ∃ p qs, v = .ref p ∧ Rd H p (.dK qs) ∧ DenP K F kvs qs := by
  cases d <;> first | (cases e; done) | skip
  rename_i p
  simp only [Den] at dn
  have e : (match m p with
    | some (.dct kvs) => some kvs
    | some (.fdct _ _ kvs) => some kvs
    | _ => none) = some kvs := e
  cases hm : m p with
  | none => rw [hm] at e; cases e
  | some c =>
    rw [hm] at e
    obtain ⟨_, q⟩ := r.me p _ hm
    cases c <;> first | (cases e; done) | skip
    · cases e
      simp only [CellOk] at q
      obtain ⟨qs, h1, h2⟩ := q
      exact ⟨p, qs, dn, .inl h1, h2⟩
    · cases e
      simp only [CellOk] at q
      exact ⟨p, _, dn, .inr ⟨_, q.1⟩, q.2⟩
section
variable {X : Cx}
def dgetL : WO := fun x y m Q _ => ∃ kvs k d, dctL m x = some kvs ∧ keyD y = some k ∧ valD kvs k = some d ∧ Q d m
@[simp ↓] theorem dgetL_ {x y : D} {m : Mem} {Q : Po} {E : Xo} : dgetL x y m Q E = Is (dctL m x) (fun kvs => Is (keyD y) (fun k => Is (valD kvs k) (fun d => Q d m) .mk) .mk) .mk := by simp [dgetL, Is]
theorem ddgetL {a b : Expr} {pos : Pos} {wa wb : WE} (hu : X.A.units + 64 < cLine) (ha : DE X a wa) (hb : DE X b wb) (hs : NoSl b := by exact fun _ _ => rfl) : DE X (.Subscript a b pos) (wBin dgetL wa wb) :=
  wkE (pe_dget (Nat.lt_of_le_of_lt (by omega) hu) ha hb hs) fun σ H Q ⟨F, m, env, Qd, xc, r0, en, a, q, k⟩ =>
    tW.sub r0 en a q fun v1 H1 F1 m1 d1 s1 r1 en1 dn1 q1 => tW.sub r1 en1 (a.mono s1) q1 fun v2 H2 F2 m2 d2 s2 r2 en2 dn2 ⟨kvs, kk, d, e1, e2, e3, q2⟩ => by
      obtain ⟨p, qs, rfl, hp, dp⟩ := r2.dctL (dn1.mono s2) e1
      rcases valD_den (k := kk) dp with ⟨z, _⟩ | ⟨d', v', a1, a2, a3⟩
      · rw [z] at e3; cases e3
      · rw [a1] at e3; cases e3
        exact ⟨p, v', rfl, .inl ⟨qs, kk, hp, keyD_den dn2 e2, a2.symm⟩, k v' H2 F2 m2 _ (s1.trans s2) r2 a3 q2⟩
end
end DL

/-! D45: an error made as a value. -/
namespace DL
open PySem PySem.Spec PyProof.Rows L2 NdefX
section
variable {X : Cx}
/-- what makes an exception, as a value -/
theorem pe_of_pmk {e : Expr} {t : L2.St → Hp → XK → Prop} (he : PMk X e t) :
    PE X e (fun σ H Q => t σ H fun cls d H' => ∀ a oe, H' a = none → Zc cls d oe → (∃ vs, oe.data = .fields vs) → Q (.ref a) (upd H' a (errO a oe))) := by
  refine ⟨fun pins s σ H Q I h => ?_⟩
  refine wpAny_mono (he pins s σ H _ I h) (fun u s1 hu => ?_) fun _ _ x => x
  obtain ⟨a, oe, vs, sI, H', cls, d, rfl, J, k, hne, ha, hz, hd, h1, na, os, ag, r, q⟩ := hu
  have new : ObjOk X.prog X.w (upd H' a (errO a oe)) s1.heap a (errO a oe) := ⟨ha, ⟨_, ha⟩, fun _ _ q k => k _ q⟩
  obtain ⟨hp, g, dr, tk, os1⟩ := s1
  have I1 : Inv X pins σ (upd H' a (errO a oe)) ⟨hp, g, dr, tk, os1⟩ := J.call' (ch := []) os (Un.laidN k hne na) (J.hok.laidN k na new) ag (fun b z => absurd z (by simp))
  exact ⟨.ref a, _, I1, rfl, q a oe na hz ⟨vs, hd⟩⟩
/-- C(args), C an error class: the error -/
def wMkE (c : Str) (fs : List Str) (wa : WA) : WE := fun env m Q E => wa env m (fun ds m1 => ds.length = fs.length ∧ ∀ a dd, m1 a = none → Q (excD a ⟨c, (fs.zip ds).reverse⟩ (some dd)) (m1.put a (.err c (some dd)))) E
theorem dmkE {x : Str} {k : Nat} {fs : List Str} {e : Expr} {es : List Expr} {wa : WA} {p pos : Pos} (W : ErrOk X.prog X.w X.K X.mg X.base k x fs) (hr : Room (k + 1) X.A) (hg : Gl X x) (ha : DA X (e :: es) wa) (hf8 : fs.length ≤ 800 := by decide)
    (hdb : (x == ("__debug__" : Str)) = false := by decide) (he : starEach (e :: es) X.env = (false, eval e X.env) :: starEach es X.env := by rfl) (hpl : (backTo pos (starEach es X.env)).any (·.1) = false := by rfl) :
    DE X (.Call (.Name x p) (e :: es) [] pos) (wMkE x fs wa) := by
  obtain ⟨fI, fd, ps, iC, tI, F1, hb⟩ := W.init
  exact wkE (pe_of_pmk (pmk_oex W.T iC tI F1 hr hb .nil (fun _ _ _ _ _ _ _ c => by
    exact absurd c (by rintro ⟨_, _, _, _, _, _, _, _, _, _, _, _, _, _, w⟩)) hg W.mg_ ha hdb he hpl)) fun σ H Q ⟨F, m, env, Qd, xc, r, en, a, q, k⟩ =>
  tWA.sub r en a q fun vs H1 F1 m1 ds s1 r1 en1 dn1 ⟨hl, q1⟩ => by
    have hlv : vs.length = fs.length := by rw [← dn1.length]; exact hl
    refine ⟨by omega, fun o ho => ⟨o, vs, by rw [List.append_nil], hlv, upd_same, fun dx H2 hdx hne ⟨e1, e2, e3⟩ => ⟨rfl, dx, _, e1, e2, by rw [upd_ne hne] at hdx; exact hdx, fun a2 oe na hz hf => ?_⟩⟩⟩
    have hdx1 : H1 dx = none := by rw [upd_ne hne] at hdx; exact hdx
    have at_ : ∀ b u, H1 b = some u → upd (del H2 o) dx (.xd (fs.zip vs).reverse) b = some u := fun b u eb => by
      have n1 : b ≠ o := fun z => by rw [z, ho] at eb; cases eb
      have n2 : b ≠ dx := fun z => by rw [z, hdx1] at eb; cases eb
      rw [upd_ne n2, del_ne n1, e3 b n1 n2, upd_ne n1]
      exact eb
    have r2 : Rel X.K F1 m1 (upd (del H2 o) dx (.xd (fs.zip vs).reverse)) := by
      refine ⟨fun b u eb => at_ b u (r1.fz b u eb), fun b cc eb => ?_⟩
      obtain ⟨g, q⟩ := r1.me b cc eb
      obtain ⟨u, hu⟩ := q.some
      exact ⟨g, q.to (Sub.refl _) ((at_ b u hu).trans hu.symm)⟩
    obtain ⟨F3, sb, r3, dn3⟩ := exc_den (cls := .ref (ga X.K x)) (d := some dx) (x := ⟨x, (fs.zip ds).reverse⟩) r2 ⟨rfl, .inr ⟨dx, _, rfl, upd_same, denP_rev (dens_zip dn1)⟩⟩ a2
    obtain ⟨hc, hd⟩ := hz
    have cell : CellOk X.K F3 (upd (upd (del H2 o) dx (.xd (fs.zip vs).reverse)) a2 (errO a2 oe)) a2 (.err x (some dx)) := by
      simp only [CellOk]
      exact ⟨oe, upd_same, hc, hd, hf⟩
    exact k _ _ F3 _ _ (s1.trans sb) (r3.fresh na cell) dn3 (q1 a2 dx (r3.free na).2)
end
end DL

/-! D46: an error made with arguments by name. -/
namespace PySem.HandSPX
open PySem PySem.Spec PyProof.Rows
section
variable {M : Model} {A : Around} {E : Value → Shared → Prop} {h : Heap} {g : Array GenState} {d : Drawn} {t : Nat} {os : OsState}
variable {nm q : Str} {C N : Addr} {bs bm bmB : List Value} {hdct : Bool} {sn : List Str} {sub : List Value} {ab : Bool} {col : Option Bool} {dd : Option Addr} {k0 k1 k2 k3 k5 : Option Value} {B newId initId : String}
theorem check_call_kw {rest : List Value} {kw : List (Str × Value)} {Q : Unit → Shared → Prop} (hC : h.get? C = some (excClassObj nm q C N bs bm hdct sn sub ab col dd k0 k1 k2 k3 k5 newId))
    (hq : Q () ⟨h, g, d, t, os⟩) : wpAny M A (checkBuiltinCall "type.__call__" ⟨.ref C :: rest, kw⟩) Q E ⟨h, g, d, t, os⟩ := by
  have f3 := tc_sub
  have hT : (⟨h, g, d, t, os⟩ : Shared).TypeIs (.ref C) "type" := ⟨_, hC, rfl⟩
  simp only [checkBuiltinCall, tc_kind, tc_split]
  repeat (any_goals (first | assumption | with_reducible refine wpAny_loadPart_at hC ?_ | with_reducible refine wpAny_onRaise ?_ | with_reducible refine wpAny_map ?_ | wp_step))
theorem check_new_kw (F : ExcBaseFacts B newId initId bmB) (hT : ∀ X : String, bm.contains (.type X) = bmB.contains (.type X)) {rest : List Value} {kw : List (Str × Value)} {Q : Unit → Shared → Prop}
    (hC : h.get? C = some (excClassObj nm q C N bs bm hdct sn sub ab col dd k0 k1 k2 k3 k5 newId)) (hq : Q () ⟨h, g, d, t, os⟩) : wpAny M A (checkBuiltinCall newId ⟨.ref C :: rest, kw⟩) Q E ⟨h, g, d, t, os⟩ := by
  have hcont : (Value.ref C :: bm).contains (.type B) = true := by rw [List.contains_cons, hT, F.hasB, Bool.or_true]
  have hstar := F.noStar
  simp only [checkBuiltinCall, F.newKind, F.newSplit, F.newRow]
  repeat (first | refine wpAny_loadPart_at hC ?_ | (refine wpAny_isSubtype_exc hC ?_; rw [hcont]) | refine wpAny_staticBase_exc hC ?_ | refine wpAny_madeBy_exc hC ?_ | simp only [bne_self_eq_false, Bool.false_eq_true, if_false] | wp_step)
  exact hq
end
section
variable {prog : Program} {w : World} {A : Around} {E : Value → Shared → Prop} {R : Result → Shared → Prop} {h : Heap} {g : Array GenState} {d : Drawn} {t : Nat} {os : OsState}
variable {nm q : Str} {C N : Addr} {bs bm bmB : List Value} {hdct : Bool} {sn : List Str} {sub : List Value} {ab : Bool} {col : Option Bool} {dd : Option Addr} {k0 k1 k2 k3 k5 : Option Value} {B newId initId : String}
theorem new_kw (F : ExcBaseFacts B newId initId bmB) (hT : ∀ X : String, bm.contains (.type X) = bmB.contains (.type X)) {rest : List Value} {kw : List (Str × Value)}
    (hC : h.get? C = some (excClassObj nm q C N bs bm hdct sn sub ab col dd k0 k1 k2 k3 k5 newId))
    (hq : R (.ok (.ret (.ref (h.objs.size + 1)))) ⟨(h.push { cls := .type "tuple", data := .seq rest.toArray }).push
      { cls := .ref C, data := .fields #[.ref h.objs.size, .none, .none, .none, .bool false, .none] }, g, d, t, os⟩) (hrest : rest.length ≤ sizeLine) :
    codeAny (model prog w) A (.builtin newId ⟨.ref C :: rest, kw⟩) R ⟨h, g, d, t, os⟩ := by
  have hends := F.ends
  have hcB : (Value.ref C :: bm).contains (.type B) = true := by rw [List.contains_cons, hT, F.hasB, Bool.or_true]
  have hcA : (Value.ref C :: bm).contains (.type "AttributeError") = false := by rw [List.contains_cons, hT, F.noAttr]; rfl
  have hcN : (Value.ref C :: bm).contains (.type "NameError") = false := by rw [List.contains_cons, hT, F.noName]; rfl
  refine codeAny_builtinAt F.entry ?_
  unfold Builtin.«BaseException.__new__»
  refine wpAt_bind ?_
  show wpAt _ _ _ (stack >>= _) _ _ _
  refine wpAt_bind (wpAt_stack fun p below => wpAt_of_wpAny ?_)
  wp_walk
  refine wpAt_of_wpAny ?_
  rw [F.owner]
  repeat (first | with_reducible refine wpAny_madeHere_exc F.canon hC ?_ | with_reducible refine wpAny_loadPart_at hC ?_ | (with_reducible refine wpAny_isSubtype_exc hC ?_; first | rw [hcB] | rw [hcA] | rw [hcN]) | wp_step)
  show R _ _
  rw [Heap.size_push]
  exact hq
theorem type_call_kw (F : ExcBaseFacts B newId initId bmB) (hT : ∀ X : String, bm.contains (.type X) = bmB.contains (.type X)) {rest : List Value} {kw : List (Str × Value)} {fI : Addr} {Q : Fin → Shared → Prop}
    (hC : h.get? C = some (excClassObj nm q C N bs bm hdct sn sub ab col dd k0 k1 k2 k3 k5 newId))
    (hi : W.Looks (model prog w) h (typeLookup (.ref C) "__init__") (some (.ref fI))) (hb : ∀ self, W.Looks (model prog w) h (bindSpecial (.ref fI) self) (.ref fI, [self])) (hrest : rest.length ≤ sizeLine)
    (hq : codeAny (model prog w) A (.call (.ref fI) ⟨.ref (h.objs.size + 1) :: rest, kw⟩)
      (fun r s' => match r with | .ok (.ret v) => v = .none ∧ Q (.done (.ret (.ref (h.objs.size + 1)))) s' | .ok _ => False | .error e => E e s')
      ⟨(h.push (W.kdv_tup rest)).push (excO C h.objs.size), g, d, t, os⟩) :
    wpAny (model prog w) A (Builtin.«type.__call__» ⟨.ref C :: rest, kw⟩) Q E ⟨h, g, d, t, os⟩ := by
  repeat (first | with_reducible refine wpAny_loadPart_at hC ?_ | with_reducible refine wpAny_madeBy_exc hC ?_ | wp_step)
  refine codeAny_call_builtin_code (Code.quiet_builtin _ F.quiet) (check_new_kw F hT hC ?_)
  refine new_kw F hT hC ?_ hrest
  show wpAny _ _ _ _ _ _
  have k : ∀ b o, h.get? b = some o → ((h.push (W.kdv_tup rest)).push (excO C h.objs.size)).get? b = some o := fun b o e => Heap.get?_push_of_some _ (Heap.get?_push_of_some _ e)
  have hC₁ := k _ _ hC
  have hget : ((h.push (W.kdv_tup rest)).push (excO C h.objs.size)).get? (h.objs.size + 1) = some (excO C h.objs.size) := by heap_get
  have hcC : (Value.ref C :: bm).contains (.ref C) = true := by simp
  have i1 := hi.keeps k
  have b1 := (hb (.ref (h.objs.size + 1))).keeps k
  unfold isInstance
  repeat (first | with_reducible refine wpAny_loadPart_at hget ?_ | (with_reducible refine wpAny_isSubtype_exc hC₁ ?_; rw [hcC]) | wp_step)
  show wpAny _ _ (typeLookup (.ref C) _) _ _ _
  refine i1.at ?_
  refine wpAny_holding (wpAny_bind (b1.at ?_))
  refine wpAny_bind (wpAny_call (codeAny_mono hq fun r s' z => ?_))
  rcases r with e | (v | _ | _ | _) <;> first | exact z | exact z.elim | skip
  obtain ⟨rfl, z⟩ := z
  first
    | exact wpAny_pure (wpAny_pure z)
    | (wp_walk; exact z)
theorem call_kw (F : ExcBaseFacts B newId initId bmB) (hT : ∀ X : String, bm.contains (.type X) = bmB.contains (.type X)) {rest : List Value} {kw : List (Str × Value)} {fI : Addr}
    (hC : h.get? C = some (excClassObj nm q C N bs bm hdct sn sub ab col dd k0 k1 k2 k3 k5 newId))
    (hi : W.Looks (model prog w) h (typeLookup (.ref C) "__init__") (some (.ref fI))) (hb : ∀ self, W.Looks (model prog w) h (bindSpecial (.ref fI) self) (.ref fI, [self])) (hrest : rest.length ≤ sizeLine)
    (hq : codeAny (model prog w) (A.under (.builtin "type.__call__" ⟨.ref C :: rest, kw⟩)) (.call (.ref fI) ⟨.ref (h.objs.size + 1) :: rest, kw⟩) (W.InitBack (h.objs.size + 1) R)
      ⟨(h.push (W.kdv_tup rest)).push (excO C h.objs.size), g, d, t, os⟩) :
    codeAny (model prog w) A (.call (.ref C) ⟨rest, kw⟩) R ⟨h, g, d, t, os⟩ := by
  have f1 := tc_lookup
  have f2 := tc_bind (.ref C)
  have hTy : (⟨h, g, d, t, os⟩ : Shared).TypeIs (.ref C) "type" := ⟨_, hC, rfl⟩
  refine codeAny_of_tree ?_
  show wpAny _ _ (callAny (.ref C) _) _ _ _
  repeat (any_goals (first | assumption | with_reducible refine wpAny_loadPart_at hC ?_ | wp_step))
  refine ⟨rfl, ?_⟩
  refine codeAny_call_builtin_at (Code.quiet_builtin _ (by decide +kernel)) entry_typeCall (check_call_kw hC (type_call_kw F hT hC hi hb hrest ?_))
  refine codeAny_mono hq fun r s' z => ?_
  rcases r with e | (v | _ | _ | _) <;> exact z
end
end PySem.HandSPX
namespace DL
open PySem PySem.Spec PyProof.Rows L2 NdefX
section
variable {X : Cx}
theorem run_errK {CX : CXT} {C fI : Addr} {k n : Nat} {fd : FuncData} {ps ks : List Str} {sp : Sp} {g : List Value → List Value → List Value} {gV : List V → List V → List V} {pins : List (Addr × Obj)} {σ : L2.St} {H1 : Hp} {Q : XK} {s1 : Shared} {us ws : List Value} {vs zs : List V}
    (T : OexC X.K C) (iC : PySem.W.findIn X.K (.ref C) "__init__" = some (some (.ref fI))) (tI : PySem.W.typeIn X.K (.ref fI) = some (.type "function"))
    (F1 : FnOk X.prog X.w X.K X.mg X.base CX k fI fd ps sp) (hr : Room (k + 1) X.A) (hb : KBn X.K fd ps (n + 1) ks g gV) (hx : Passes CX X (fun _ _ _ => False)) (I1 : Inv X pins σ H1 s1) (r1 : Vals vs us) (rz : Vals zs ws) (l1 : vs.length = n) (l2 : zs.length = ks.length) (hz : vs.length ≤ 1000)
    (q1 : ∀ a, H1 a = none → sp (gV (.ref a :: vs) zs) (upd H1 a (exo a C none)) (fun v H2 => v = .non ∧ ∃ (d : Addr) (fs : List (Str × V)), H2 a = some (exo a C (some d)) ∧ H2 d = some (exd d fs) ∧ H1 d = none ∧ Q (.ref C) (some d) (upd (del H2 a) d (.xd fs))) (fun _ _ _ => False)) :
    wpAny (model X.prog X.w) X.A (call (.ref C) us (ks.zip ws)) (MkP X pins σ Q) X.xe s1 := by
  obtain ⟨nm, q, N, bs, bm, sn, sub, ab, col, dd, k0, k1, k2, k3, k5, hC, hbm⟩ := T.cls
  obtain ⟨hp, g0, dr, tk, os⟩ := s1
  have hsz : hp.objs.size ≤ hp.objs.size + 1 := Nat.le_succ _
  have hn : H1 (hp.objs.size + 1) = none := I1.hok.fresh hsz
  have hq := q1 (hp.objs.size + 1) hn
  have kk : ∀ b o, hp.get? b = some o → ((hp.push (PySem.W.kdv_tup us)).push (PySem.HandSPX.excO C hp.objs.size)).get? b = some o := fun b o e => Heap.get?_push_of_some _ (Heap.get?_push_of_some _ e)
  have hget : ((hp.push (PySem.W.kdv_tup us)).push (PySem.HandSPX.excO C hp.objs.size)).get? (hp.objs.size + 1) = some (PySem.HandSPX.excO C hp.objs.size) := by heap_get
  have I2 : Inv X pins σ (upd H1 (hp.objs.size + 1) (exo (hp.objs.size + 1) C none)) ⟨(hp.push (PySem.W.kdv_tup us)).push (PySem.HandSPX.excO C hp.objs.size), g0, dr, tk, os⟩ :=
    I1.laid (t' := tk) (a := hp.objs.size + 1) (o := exo (hp.objs.size + 1) C none) (h' := (hp.push (PySem.W.kdv_tup us)).push (PySem.HandSPX.excO C hp.objs.size)) kk hsz (exo_ok hget)
  have ra : Vals (V.ref (hp.objs.size + 1) :: vs) (Value.ref (hp.objs.size + 1) :: us) := .cons rfl r1
  have r2 := hb.rel ra rz
  have e1 : (Value.ref (hp.objs.size + 1) :: us).length = n + 1 := ra.length.symm.trans (congrArg Nat.succ l1)
  have e2 : ws.length = ks.length := rz.length.symm.trans l2
  have hus : us.length ≤ sizeLine := by
    rw [← Paired.length r1, sizeLine_eq]
    omega
  refine wpAny_call (PySem.HandSPX.call_kw F.excBase_ValueError (fun Y => PySem.HandSPX.refsVE_contains Y bm hbm) (I1.kIn _ _ hC) (PySem.W.looks_findIn I1.kIn iC) (fun self => PySem.W.bind_fn I1.kIn self tI) hus
    (codeAny_mono (F1.run _ X.stack _ _ ⟨Value.ref (hp.objs.size + 1) :: us, ks.zip ws⟩ (g (Value.ref (hp.objs.size + 1) :: us) ws) _ _ (fun _ _ _ => False) (hr.make C us (ks.zip ws)) (I2.env0.make C us (ks.zip ws)) (hb.to _ (Value.ref (hp.objs.size + 1) :: us) ws I2.kIn e1 e2) r2 hq) fun r s' hq' => ?_))
  cases r with
  | error er => exact hx pins σ _ _ er s' I2 hq'
  | ok fl =>
    cases fl with
    | ret u =>
      obtain ⟨v, H2, os2, bare2, un2, hok2, rv, ev, d, fs, ea, ed, hd1, q2⟩ := hq'
      subst ev
      obtain ⟨h2, g2, d2, t2, os'⟩ := s'
      exact ⟨rv, mk_end (raises_own T.exC T.tyC) I1 hsz kk un2 hok2 os2 bare2 ea ed hd1 q2⟩
    | next => exact False.elim hq'
    | brk => exact False.elim hq'
    | cont => exact False.elim hq'
def tMkK (C : Addr) (n : Nat) (ks : List Str) (sp : Sp) (gV : List V → List V → List V) (ta tk : TA) : L2.St → Hp → XK → Prop := fun σ H Q => ta σ H fun vs H1 => tk σ H1 fun zs H2 => vs.length = n ∧ zs.length = ks.length ∧ vs.length ≤ 1000 ∧ ∀ a, H2 a = none →
  sp (gV (.ref a :: vs) zs) (upd H2 a (exo a C none)) (fun v H3 => v = .non ∧ ∃ (d : Addr) (fs : List (Str × V)), H3 a = some (exo a C (some d)) ∧ H3 d = some (exd d fs) ∧ H2 d = none ∧ Q (.ref C) (some d) (upd (del H3 a) d (.xd fs))) (fun _ _ _ => False)
theorem pmk_errK {CX : CXT} {x : Str} {C fI : Addr} {k n : Nat} {fd : FuncData} {ps ks : List Str} {sp : Sp} {g : List Value → List Value → List Value} {gV : List V → List V → List V} {p pos : Pos} {es : List Expr} {kws : List Keyword} {ta tk : TA}
    (T : OexC X.K C) (iC : PySem.W.findIn X.K (.ref C) "__init__" = some (some (.ref fI))) (tI : PySem.W.typeIn X.K (.ref fI) = some (.type "function"))
    (F1 : FnOk X.prog X.w X.K X.mg X.base CX k fI fd ps sp) (hr : Room (k + 1) X.A) (hb : KBn X.K fd ps (n + 1) ks g gV) (hx : Passes CX X (fun _ _ _ => False)) (hg : Gl X x) (hm : X.mg x = some (.ref C)) (ha : PA X es ta) (hk : PK X kws tk)
    (hdb : (x == ("__debug__" : Str)) = false := by decide) (hl : lone (backTo pos (starEach es X.env)) = false := by rfl) (hall : (backToKw pos (keywordEach kws X.env)).all (·.1.isSome) = true := by rfl)
    (hks : (backToKw pos (keywordEach kws X.env)).filterMap (·.1) = ks := by rfl) :
    PMk X (.Call (.Name x p) es kws pos) (tMkK C n ks sp gV ta tk) := by
  intro pins s σ H Q I h
  refine wpAny_Call_Name_kw (ld_glob I hg hm ?_ hdb)
  refine callWith_G T.kC hl hall ?_
  refine thn (ha.run pos pins s σ H _ I h) fun us s1 ⟨vs, H1, I1, r1, q1⟩ => ?_
  refine thn (hk.run pos pins s1 σ H1 _ I1 q1) fun ws s2 ⟨zs, H2, I2, rz, l1, l2, hz, q2⟩ => ⟨I2.kIn, ?_⟩
  rw [hks]
  exact run_errK T iC tI F1 hr hb hx I2 r1 rz l1 l2 hz q2
/-- the class x can be made with the fields fs by n positions and the names ks -/
structure ErrKw (P : Program) (w : World) (K : Frag) (mg : Str → Option Value) (base : Heap) (k : Nat) (x : Str) (fs : List Str) (n : Nat) (ks : List Str) (perm : List Nat) : Prop where
  mg_ : mg x = some (.ref (ga K x))
  T : OexC K (ga K x)
  init : ∃ fI fd ps, PySem.W.findIn K (.ref (ga K x)) "__init__" = some (some (.ref fI)) ∧ PySem.W.typeIn K (.ref fI) = some (.type "function") ∧ FnOk P w K mg base (CX P w) k fI fd ps (spErr (ga K x) fs) ∧ KBn K fd ps (n + 1) ks (fun us ws => sel (0 :: perm.map (· + 1)) (us ++ ws)) (fun us ws => sel (0 :: perm.map (· + 1)) (us ++ ws))
theorem sel_self {α : Type} (perm : List Nat) (x : α) (l : List α) : sel (0 :: perm.map (· + 1)) (x :: l) = x :: sel perm l := by
  unfold sel
  simp [List.filterMap_map, Function.comp_def]
/-- C(args, name=..) -/
def wMkEK (c : Str) (fs : List Str) (n nk : Nat) (perm : List Nat) (wa wk : WA) : WE := fun env m Q E => wa env m (fun ds m1 => wk env m1 (fun es m2 => ds.length = n ∧ es.length = nk ∧ (sel perm (ds ++ es)).length = fs.length ∧ ∀ a dd, m2 a = none → Q (excD a ⟨c, (fs.zip (sel perm (ds ++ es))).reverse⟩ (some dd)) (m2.put a (.err c (some dd)))) E) E
theorem dmkEK {x : Str} {k n nk : Nat} {fs ks : List Str} {perm : List Nat} {es : List Expr} {kws : List Keyword} {wa wk : WA} {p pos : Pos} (W : ErrKw X.prog X.w X.K X.mg X.base k x fs n ks perm) (hr : Room (k + 1) X.A) (hg : Gl X x) (ha : DA X es wa) (hk : DK X kws wk) (hn8 : n ≤ 800 := by decide)
    (hdb : (x == ("__debug__" : Str)) = false := by decide) (hl : lone (backTo pos (starEach es X.env)) = false := by rfl) (hall : (backToKw pos (keywordEach kws X.env)).all (·.1.isSome) = true := by rfl)
    (hks : (backToKw pos (keywordEach kws X.env)).filterMap (·.1) = ks := by rfl) (hn : ks.length = nk := by rfl) :
    DE X (.Call (.Name x p) es kws pos) (wMkEK x fs n nk perm wa wk) := by
  subst hn
  obtain ⟨fI, fd, ps, iC, tI, F1, hb⟩ := W.init
  exact wkE (pe_of_pmk (pmk_errK W.T iC tI F1 hr hb (fun _ _ _ _ _ _ _ c => by
    exact absurd c (by rintro ⟨_, _, _, _, _, _, _, _, _, _, _, _, _, _, w⟩)) hg W.mg_ ha hk hdb hl hall hks)) fun σ H Q ⟨F, m, env, Qd, xc, r, en, a, q, kq⟩ =>
  tWA.sub r en a q fun vs H0 F0 m0 ds s0 r0 en0 dn0 q0 => tWA.sub r0 en0 (a.mono s0) q0 fun zs H1 F1 m1 es' s1 r1 en1 dn1 ⟨hl1, hl2, hl3, q1⟩ => by
    have hz1 : vs.length = n := by rw [← dn0.length]; exact hl1
    have hz2 : zs.length = ks.length := by rw [← dn1.length]; exact hl2
    have dnA := sel_dens ((dn0.mono s1).append dn1) perm
    have hlv : (sel perm (vs ++ zs)).length = fs.length := by rw [← dnA.length]; exact hl3
    refine ⟨hz1, hz2, by omega, fun o ho => ⟨o, sel perm (vs ++ zs), sel_self perm _ _, hlv, upd_same, fun dx H2 hdx hne ⟨e1, e2, e3⟩ => ⟨rfl, dx, _, e1, e2, by rw [upd_ne hne] at hdx; exact hdx, fun a2 oe na hz hf => ?_⟩⟩⟩
    have hdx1 : H1 dx = none := by rw [upd_ne hne] at hdx; exact hdx
    have at_ : ∀ b u, H1 b = some u → upd (del H2 o) dx (.xd (fs.zip (sel perm (vs ++ zs))).reverse) b = some u := fun b u eb => by
      have n1 : b ≠ o := fun z => by rw [z, ho] at eb; cases eb
      have n2 : b ≠ dx := fun z => by rw [z, hdx1] at eb; cases eb
      rw [upd_ne n2, del_ne n1, e3 b n1 n2, upd_ne n1]
      exact eb
    have r2 : Rel X.K F1 m1 (upd (del H2 o) dx (.xd (fs.zip (sel perm (vs ++ zs))).reverse)) := by
      refine ⟨fun b u eb => at_ b u (r1.fz b u eb), fun b cc eb => ?_⟩
      obtain ⟨g, q⟩ := r1.me b cc eb
      obtain ⟨u, hu⟩ := q.some
      exact ⟨g, q.to (Sub.refl _) ((at_ b u hu).trans hu.symm)⟩
    obtain ⟨F3, sb, r3, dn3⟩ := exc_den (cls := .ref (ga X.K x)) (d := some dx) (x := ⟨x, (fs.zip (sel perm (ds ++ es'))).reverse⟩) r2 ⟨rfl, .inr ⟨dx, _, rfl, upd_same, denP_rev (dens_zip dnA)⟩⟩ a2
    obtain ⟨hc, hd⟩ := hz
    have cell : CellOk X.K F3 (upd (upd (del H2 o) dx (.xd (fs.zip (sel perm (vs ++ zs))).reverse)) a2 (errO a2 oe)) a2 (.err x (some dx)) := by
      simp only [CellOk]
      exact ⟨oe, upd_same, hc, hd, hf⟩
    exact kq _ _ F3 _ _ ((s0.trans s1).trans sb) (r3.fresh na cell) dn3 (q1 a2 dx (r3.free na).2)
end
end DL

/-! D47: isinstance of an error and a builtin class; a list, n times. -/
namespace DL
open PySem PySem.Spec PyProof.Rows L2 NdefX
section
variable {X : Cx}
theorem call_isOT : CallR X (.builtin "isinstance") (fun xs H Q => ∃ (a D dd : Addr) (T : String) (oe : Obj) (fs : List (Str × V)) (b : Bool), xs = [.ref a, .ty T] ∧ H a = some (errO a oe) ∧ oe.cls = .ref D ∧ oe.dict = some dd ∧ (∃ vs, oe.data = .fields vs) ∧ H dd = some (.xd fs) ∧ ExcC X.K D ∧ PySem.W.kitOne X.K (.ref D) (.type T) = some b ∧ Q (.bl b) H) := by
  intro pins s σ H xs us Q I r ⟨a, D, dd, T, oe, fs, b, e, ha, hc, hd, ⟨vs, hv⟩, hx, C, hk, q⟩
  subst e
  cases r with
  | cons rx rr =>
    cases rr with
    | @cons _ u _ us' rt rr =>
      cases rr
      cases rx
      obtain rfl : u = Value.type T := rt
      have hg : s.heap.get? a = some oe := (I.hok a _ ha).1
      obtain ⟨mA, hns, _⟩ := (show ObjOk X.prog X.w H s.heap dd (.xd fs) from I.hok dd _ hx)
      obtain ⟨od, ho, _⟩ := lookIn_ns hns
      have J : PySem.W.InstAt s.heap a oe D (some od) := ⟨hg, hc, by unfold PySem.W.notCls; rw [hv] <;> rfl, by rw [hd]; exact ho⟩
      exact PySem.W.kia_one (err_kit C) I.kIn J hk (fun z => nomatch z) fun tk => ⟨.bl b, H, I.kept (t' := tk) fun _ _ z => z, rfl, q⟩
/-- isinstance(e, T), e an error that is a value, T a class of the language -/
theorem disOT {x : Str} {T : String} {tbl : Str → Option Bool} {e : Expr} {we : WE} {p p2 pos : Pos} (hC : ∀ s b, tbl s = some b → ExcC X.K (ga X.K s) ∧ PySem.W.kitOne X.K (.ref (ga X.K s)) (.type T) = some b) (hx : X.mg x = none) (hgx : Gl X x) (hv : bootBuiltins x = some (.type T))
    (hg : Gl X "isinstance") (hm : X.mg "isinstance" = none) (he : DE X e we) (hn : x ≠ "__name__" := by decide) (hdb : (x == ("__debug__" : Str)) = false := by decide) (hs : starEach [e, .Name x p2] X.env = (false, eval e X.env) :: starEach [.Name x p2] X.env := by rfl) (hs2 : starEach [.Name x p2] X.env = (false, eval (.Name x p2) X.env) :: starEach [] X.env := by rfl) (hpl : (backTo pos (starEach [.Name x p2] X.env)).any (·.1) = false := by rfl) :
    DE X (.Call (.Name "isinstance" p) [e, .Name x p2] [] pos) (wIsO tbl we) :=
  wkE (pe_callB call_isOT hg hm PyProof.Rows.boot_isinstance (pa_cons he (pa_cons (pe_bltn (v := V.ty T) hgx hx hv rfl hn hdb) pa_nil hs2) hs) (he := hs) (hpl := hpl)) fun σ H Q ⟨F, m, env, Qd, xc, r, en, a, q, k⟩ => tW.sub r en a q fun v1 H1 F1 m1 d1 s1 r1 en1 dn1 ⟨a, c, dd, ns, xs, b, e1, ens, e2, e3, q1⟩ => by
    subst e1
    obtain ⟨oe, h1, h2, h3, h4⟩ := r1.err e2
    simp only [Den] at dn1
    obtain ⟨rfl, vs, dv, ⟨_, z⟩ | ⟨dd', gs, z, hd, g1, g2⟩⟩ := dn1
    · exact (ens z).elim
    · cases z
      exact ⟨_, _, dd', T, oe, gs, b, rfl, h1, h2, h3, h4, r1.fz _ _ hd, (hC c b e3).1, (hC c b e3).2, k _ H1 F1 m1 (.bl b) s1 r1 (by simp only [Den]) q1⟩
/-- xs * n -/
def rRepR : R2 := fun x y H Q => ∃ l k xs, x = .ref l ∧ y = .int k ∧ Rd H l (.lst xs) ∧ -(2 ^ 63) ≤ k ∧ k < 2 ^ 63 ∧ xs.length * k.toNat ≤ sizeLine ∧
  ∀ p, H p = none → Q (.ref p) (upd H p (.lst (List.replicate k.toNat xs).flatten))
theorem op_repR : OpR X (binaryOp .Mult) rRepR := by
  intro pins s σ H x y v u Q I rx ry h
  obtain ⟨l, k, xs, rfl, rfl, hR, h1, h2, hz, q⟩ := h
  cases rx
  obtain ⟨t, rfl⟩ := ry
  obtain ⟨z, its, n, r, e⟩ := (show ObjOk X.prog X.w H s.heap l (.lst xs) from hR.ok I.hok)
  have hl := r.length
  have hlen : its.toArray.size * k.toNat ≤ sizeLine := by rw [List.size_toArray, ← hl]; exact hz
  have hcap : ¬ its.toArray.size * k.toNat > (2 ^ 63 - 1) / 8 := by
    have : (sizeLine : Nat) ≤ (2 ^ 63 - 1) / 8 := by decide
    omega
  have hfit : ¬ (!Builtin.List.listFitsIndex k) = true := by
    rw [fitsIndex_both h1 h2]
    exact Bool.false_ne_true
  have hlong : ¬ Builtin.List.listTooLong (its.toArray.size * k.toNat) = true := by
    rw [notLongL hlen]
    exact Bool.false_ne_true
  have hnew : List.foldl (fun x1 x2 => x1 ++ x2) #[] (List.replicate (if its.toArray.isEmpty = true then 0 else k.toNat) its.toArray) = (List.replicate k.toNat its).flatten.toArray := by
    have f0 : ∀ m : Nat, List.foldl (fun x1 x2 => x1 ++ x2) #[] (List.replicate m its.toArray) = (List.replicate m its).flatten.toArray := fun m => by
      have := foldl_rep its m []
      rw [List.nil_append] at this
      exact this
    rw [f0]
    cases its with
    | nil => simp
    | cons a r' => rw [if_neg (by simp)]
  refine wpAny_binaryOp_repeat_ref (T := "list") (U := "int") (by decide) ⟨_, e, rfl⟩ (fun s' => typeIs_int s' k t) noFill_list_mul F.fills_int_mul F.slot_int_rmul repeat_list F.slot_int_index.lookup
    (call_meets F.slot_int_rmul (typeIs_int s k t) F.entry_int_rmul (F.args_int_rmul_2 _ _) (int___rmul___int_list k t l its.toArray n)
      ⟨e, rfl, ⟨_, e, rfl⟩, call_meets F.slot_list_mul ⟨_, e, rfl⟩ F.entry_list_mul (F.args_list_mul_2 _ _) (AutoListH.list___mul___list_int_3 l its.toArray n k t hfit hcap hlong) ⟨e, ?_⟩⟩)
  rw [hnew]
  exact ⟨.ref _, _, I.lnew (t' := s.toks) (r.rep k.toNat) (by rw [PyProof.Rows.lm_len_rep_flat, Nat.mul_comm]; exact hz), rfl, q _ I.fresh⟩
def mulL : WO := fun x y m Q _ => ∃ xs k, lstOf m x = some xs ∧ y = .int k ∧ -(2 ^ 63) ≤ k ∧ k < 2 ^ 63 ∧ xs.length * k.toNat ≤ sizeLine ∧ Q (.lst (List.replicate k.toNat xs).flatten) m
theorem dens_rep {K : Frag} {F : Hp} {xs : List D} {vs : List V} (h : Dens K F xs vs) : ∀ n : Nat, Dens K F (List.replicate n xs).flatten (List.replicate n vs).flatten
  | 0 => Dens.nil
  | n + 1 => by
    rw [List.replicate_succ, List.replicate_succ, List.flatten_cons, List.flatten_cons]
    exact h.append (dens_rep h n)
theorem od_mulL : OpD X rRepR mulL := fun F m H x y v u Qd E Q r dx dy ⟨xs, k, e1, e2, h1, h2, hz, q⟩ kk => by
  subst e2
  obtain ⟨a, vs, rfl, hR, dv⟩ := r.lstOf dx e1
  simp only [Den] at dy
  subst dy
  refine ⟨a, k, vs, rfl, rfl, hR, h1, h2, by rw [← dv.length]; exact hz, fun p hp => ?_⟩
  obtain ⟨r', s'⟩ := r.frozen (o := .lst (List.replicate k.toNat vs).flatten) hp
  refine kk _ _ _ m _ s' r' ?_ q
  simp only [Den]
  exact ⟨p, _, rfl, .inl upd_same, (dens_rep dv _).mono s'⟩
theorem dmulL {a b : Expr} {pos : Pos} {wa wb : WE} (ha : DE X a wa) (hb : DE X b wb) : DE X (.BinOp a .Mult b pos) (wBin mulL wa wb) := dbin op_repR od_mulL ha hb
@[simp ↓] theorem mulL_ {x : D} {k : Int} {m : Mem} {Q : Po} {E : Xo} : mulL x (.int k) m Q E = Is (lstOf m x) (fun xs => -(2 ^ 63) ≤ k ∧ k < 2 ^ 63 ∧ xs.length * k.toNat ≤ sizeLine ∧ Q (.lst (List.replicate k.toNat xs).flatten) m) .mk := by
  unfold mulL Is
  refine propext ⟨fun ⟨xs, k', e1, e2, h⟩ => ?_, fun ⟨xs, e1, h⟩ => ⟨xs, k, e1, rfl, h⟩⟩
  injection e2 with e2
  subst e2
  exact ⟨xs, e1, h⟩
end
end DL

/-! D48: repr of a list whose items are one dict. -/
namespace DL
open PySem PySem.Spec PyProof.Rows L2 NdefX
section
variable {prog : Program} {w : World} {h₀ : Heap} {a : Addr} {A : Around} {E : Value → Shared → Prop} {s : Shared} {Q : Value → Shared → Prop}
theorem repr_list_of {o : Obj} {vs : Array Value} {n : Nat} {xs : List PyData} {bs₀ : List Addr} (h1 : h₀.get? a = some o) (h2 : o.cls = .type "list") (h3 : o.data = .seq vs n) (h4 : ReadsAll h₀ vs.toList xs bs₀) (hs : PyData.showableAll xs = true) (hsm : sysModules ∉ bs₀) (hg : A.guards = some []) (hu : A.units + ((PyData.list xs).depth + 1) < cLine)
    (hk0 : ∀ b o, h₀.get? b = some o → s.heap.get? b = some o) (hQ : ∀ h' u tk, (∀ b o, s.heap.get? b = some o → h'.get? b = some o) → Q (.str (PyData.list xs).shown u) { s with heap := h', toks := tk }) (hsz : (PyData.list xs).shown.length ≤ sizeLine) :
    wpAny (model prog w) A (call (.builtin "repr") [.ref a]) Q E s := by
  have hz' : (listText (PyData.shownAll xs)).length ≤ sizeLine := by simpa only [PyData.shown] using hsz
  obtain ⟨bs, hb, hk⟩ := ReprAllK.of_readsAll (prog := prog) (w := w) h4 hs (fun _ => hsm) (fun t ht => Nat.le_trans (listText_mem_le ht) hz')
  have hna : a ∉ bs := not_mem_of_deeper (.list h1 h2 h3 h4) (by simp only [PyData.depth]; omega) hb
  refine call_repr_slot (T := "list") (by omega) ⟨o, hk0 _ _ h1, h2⟩ F.slot_list_repr.toG ?_
  simp only [PyData.depth] at hu
  simp only [PyData.shown] at hQ
  obtain ⟨l⟩ := vs
  cases l with
  | nil =>
    have h4' : ReadsAll h₀ [] xs _ := h4
    cases h4'
    simp only [PyData.shownAll, listText_nil] at hQ
    exact call_list_repr_empty ⟨o, hk0 _ _ h1, h2⟩ (hk0 _ _ h1) h3 ⟨_, _, rfl, hQ s.heap _ _ fun _ _ e => e⟩
  | cons x l =>
    exact call_list_reprK h1 h2 h3 hna (by simpa using hk.length_eq) (fun i y e => hk.item i y (by simpa using e)) hg (fun b _ => Clear.nil b) (by show A.units + 1 + _ < cLine; omega) hk0 (fun h' u tk hk => ⟨_, _, rfl, hQ h' u tk hk⟩) hz'
theorem reads_rep {v : Value} {d : PyData} {p : Addr} (r : Reads h₀ v d [p]) : ∀ n : Nat, ∃ bs, ReadsAll h₀ (List.replicate n v) (List.replicate n d) bs ∧ ∀ b ∈ bs, b = p
  | 0 => ⟨[], .nil, fun _ h => nomatch h⟩
  | n + 1 => by
    obtain ⟨bs, h1, h2⟩ := reads_rep r n
    refine ⟨[p] ++ bs, .cons r h1, fun b hb => ?_⟩
    rcases List.mem_append.mp hb with hb | hb
    · simpa using hb
    · exact h2 b hb
end
section
variable {X : Cx}
theorem reads_dk {pins : List (Addr × Obj)} {σ : L2.St} {H : Hp} {s : Shared} {a : Addr} {kvs : List (Key × V)} {D : List (PyData × PyData)} (I : Inv X pins σ H s) (ha : H a = some (.dK kvs)) (dp : Paired (fun (p : Key × V) (q : PyData × PyData) => q.1 = kyP p.1 ∧ nl q.2 = true ∧ Dp X.K H p.2 q.2) kvs D) : Reads s.heap (.ref a) (.dict D) [a] ∧ a ≠ sysModules := by
  obtain ⟨hlen0, hsm, vs, kv, hd⟩ := dk_of I.hok ha
  have pr : ∃ bs, bs = [] ∧ PyProof.V.PairsRead s.heap kyP vs D bs := by
    clear hd ha hlen0
    induction dp generalizing vs with
    | nil => cases kv; exact ⟨_, rfl, .nil⟩
    | @cons p q l1 l2 hp ht ih =>
      cases kv with
      | @cons p1 q1 k1 k2 hk kt =>
        obtain ⟨bs, rfl, hr⟩ := ih _ kt
        obtain ⟨e1, e2, e3⟩ := hp
        obtain ⟨f1, f2⟩ := hk
        obtain ⟨as, rd⟩ := Dp.reads I _ _ _ e3 f2
        have ea := reads_nl rd e2
        subst ea
        obtain ⟨x1, x2⟩ := q1
        obtain ⟨y1, y2⟩ := q
        have f1 : p.1 = x1 := f1
        have e1 : y1 = kyP p.1 := e1
        subst f1 e1
        exact ⟨[], rfl, .cons rd hr⟩
  obtain ⟨bs, rfl, pr⟩ := pr
  refine ⟨PyProof.V.reads_dictOf (knd := mixKind X.prog X.w) (enc := kyP) (fun k key hk => by
    rcases keyIs_shape hk with ⟨i, t, rfl, rfl⟩ | ⟨x, t, rfl, rfl⟩
    · exact .int i t
    · exact .str x t) hd pr, fun e => ?_⟩
  rw [e] at hsm
  simp at hsm
theorem call_reprLD (hg : X.A.guards = some []) (hu : X.A.units + 64 < cLine) : CallR X (.builtin "repr") (fun xs H Q => ∃ l n a kvs D, xs = [.ref l] ∧ Rd H l (.lst (List.replicate n (V.ref a))) ∧ H a = some (.dK kvs) ∧ Paired (fun (p : Key × V) (q : PyData × PyData) => q.1 = kyP p.1 ∧ nl q.2 = true ∧ Dp X.K H p.2 q.2) kvs D ∧
    (PyData.list (List.replicate n (.dict D))).shown.length ≤ sizeLine ∧ PyData.showableAll (List.replicate n (.dict D)) = true ∧ (PyData.list (List.replicate n (.dict D))).depth ≤ 40 ∧ Q (.str (PyData.list (List.replicate n (.dict D))).shown) H) := by
  intro pins s σ H xs us Q I r ⟨l, n, a, kvs, D, e, hl, ha, dp, h1, h2, h4, q⟩
  subst e
  cases r with
  | @cons _ u _ us' ru rr =>
    cases rr
    obtain rfl : u = Value.ref l := ru
    obtain ⟨rd, hsm⟩ := reads_dk I ha dp
    obtain ⟨z, its, n0, rv, e⟩ := (show ObjOk X.prog X.w H s.heap l (.lst (List.replicate n (V.ref a))) from hl.ok I.hok)
    have ei : its = List.replicate n (Value.ref a) := by
      clear hl h1 h2 h4 q e z
      induction n generalizing its with
      | zero => cases rv; rfl
      | succ n ih =>
        rw [List.replicate_succ] at rv
        cases rv with
        | cons r1 rv =>
          rw [List.replicate_succ, ← ih _ rv]
          cases r1; rfl
    subst ei
    obtain ⟨bs, ra, hb⟩ := reads_rep rd n
    exact repr_list_of e rfl rfl (by simpa using ra) h2 (fun hm => hsm (hb _ hm).symm) hg (by omega) (fun _ _ e => e) (fun h' w tk hk => ⟨V.str _, H, I.kept (t' := tk) hk, ⟨_, rfl⟩, q⟩) h1
def repD (n : Nat) (kvs : List (Key × D)) : PyData := .list (List.replicate n (.dict (toKv kvs)))
/-- repr, of a list whose items are one dict, too -/
def fReprD : FB := fun ds m Q => match ds with
  | [d] => (∃ x, showD m d = some x ∧ Q (.str x) m) ∨ ∃ n p kvs, d = .lst (List.replicate n (.ref p)) ∧ dctOf m (.ref p) = some kvs ∧ goodK kvs = true ∧ (repD n kvs).shown.length ≤ sizeLine ∧ (repD n kvs).depth ≤ 40 ∧ Q (.str (repD n kvs).shown) m
  | _ => False
theorem dens_one {K : Frag} {F : Hp} {p : Addr} : ∀ {n : Nat} {vs : List V}, Dens K F (List.replicate n (.ref p)) vs → vs = List.replicate n (V.ref p)
  | 0, vs, h => by simpa only [List.replicate_zero, Dens] using h
  | n + 1, vs, h => by
    rw [List.replicate_succ] at h
    simp only [Dens] at h
    obtain ⟨v, vr, rfl, dx, dr⟩ := h
    simp only [Den] at dx
    rw [dx, dens_one dr, List.replicate_succ]
theorem showable_rep {d : PyData} (h : d.showable = true) : ∀ n : Nat, PyData.showableAll (List.replicate n d) = true
  | 0 => rfl
  | n + 1 => by rw [List.replicate_succ]; simp only [PyData.showableAll, h, showable_rep h n, Bool.and_self]
theorem bd_reprD : BD X (fun xs H Q => (∃ x p, xs = [x] ∧ Dp X.K H x p ∧ p.shown.length ≤ sizeLine ∧ p.showable = true ∧ p.hasDict = false ∧ p.depth ≤ 40 ∧ Q (.str p.shown) H) ∨ ∃ l n a kvs D, xs = [.ref l] ∧ Rd H l (.lst (List.replicate n (V.ref a))) ∧ H a = some (.dK kvs) ∧ Paired (fun (p : Key × V) (q : PyData × PyData) => q.1 = kyP p.1 ∧ nl q.2 = true ∧ Dp X.K H p.2 q.2) kvs D ∧
    (PyData.list (List.replicate n (.dict D))).shown.length ≤ sizeLine ∧ PyData.showableAll (List.replicate n (.dict D)) = true ∧ (PyData.list (List.replicate n (.dict D))).depth ≤ 40 ∧ Q (.str (PyData.list (List.replicate n (.dict D))).shown) H) fReprD := fun F m H ds vs Qd Q r dn q k => by
  match ds, q with
  | [d], .inl h => exact .inl (bd_repr F m H [d] vs Qd Q r dn h k)
  | [d], .inr ⟨n, p, kvs, e, hd, hgd, hw, hdp, q⟩ =>
    subst e
    obtain ⟨v, rfl, d1⟩ := dens1 dn
    obtain ⟨a0, us, rfl, hl, du⟩ := r.lstOf d1 (show lstOf m (.lst (List.replicate n (.ref p))) = some _ from rfl)
    have eu := dens_one du
    subst eu
    obtain ⟨a, qs, ea, ea2, hm, ha, dp⟩ := r.dct (show Den X.K F (.ref p) (.ref p) by simp only [Den]) hd
    cases ea
    clear ea2
    refine .inr ⟨a0, n, _, qs, toKv kvs, rfl, hl, ha, ?_, hw, showable_rep (kv_showable hgd) n, hdp, k _ H F m _ (Sub.refl F) r (by simp only [Den]; rfl) q⟩
    clear ha hm hd q d1 dn hw hdp k du hl
    induction dp with
    | nil => exact .nil
    | @cons p q l1 l2 hp ht ih =>
      simp only [goodK, List.all_cons, Bool.and_eq_true] at hgd
      obtain ⟨⟨⟨_, h2⟩, h3⟩, h4⟩ := hgd
      obtain ⟨e1, e2⟩ := hp
      exact .cons ⟨by show kyP p.1 = kyP q.1; rw [e1], h3, pyM_dp r 0 e2 (pyM_pure h2)⟩ (ih h4)
theorem dreprD {k : Nat} {p pos : Pos} {e : Expr} {we : WA} (hr : Rm true k X.A) (hg : Gl X "repr") (hm : X.mg "repr" = none) (ha : DA X [e] we) (he : starEach [e] X.env = (false, eval e X.env) :: starEach [] X.env := by rfl) : DE X (.Call (.Name "repr" p) [e] [] pos) (wCB fReprD we) :=
  dcb (fun pins s σ H xs us Q I r h => h.elim (call_repr (hr.gd rfl) hr.units pins s σ H xs us Q I r) (call_reprLD (hr.gd rfl) hr.units pins s σ H xs us Q I r)) bd_reprD hg hm PyProof.Rows.boot_repr ha (he := he)
end
end DL

/-! D49: an error's __init__, its parameters given by name (err_init and err_fn of D12 and D16, the function named). -/
namespace DL
open PySem PySem.Spec L2 NdefX
section
variable {P : Program} {w : World} {K : Frag} {mg : Str → Option Value} {base : Heap} {C f cc : Addr} {F : NF} {N ps : List Str} {k : Nat} {sp : Sp} {slf txt : Str} {p0 p1 p2 p3 p4 pc : Pos} {jc} {rest : List Stmt}
theorem err_initF {ar : Arg} (W : ErrK P K C f cc F) (S : NScope N ps ["__class__"] F.scope) (hks : F.scope.names.lookup ("super" : Str) = some .globalImplicit)
    (hb : ∀ (kV doc pm : Value) (an : Option Addr) (ct : Value) (us : List Value), us.length = ps.length → bindArgs (PySem.W.fnX F.name F.qual F.params F.body F.scope F.cl .none kV doc pm an (.ref F.c) ct) ⟨us, []⟩ = pure (ps.zip us))
    (hp : (F.params.posonlyargs ++ F.params.args).head? = some ar) (h0 : ∃ r, ps = ar.arg :: r) (hbody : F.body = .Expr (.Call (.Attribute (.Call (.Name "super" p0) [] [] p1) "__init__" p2) [.Constant (.str txt) jc pc] [] p3) p4 :: rest)
    (hsm : mg "super" = none) (htop : (P.main.scope.names.lookup ("super" : Str)).isSome = false)
    (he : ∀ L, ∃ pl : Sem Bool, eval (.Call (.Attribute (.Call (.Name "super" p0) [] [] p1) "__init__" p2) [.Constant (.str txt) jc pc] [] p3) (envF F f L) = (do
      let ov ← attributeBase (.Call (.Name "super" p0) [] [] p1) "__init__" (envF F f L) (eval (.Call (.Name "super" p0) [] [] p1) (envF F f L))
      standAt p2.atName
      let (g, first) ← holding [ov] (getMethod ov "__init__" pl)
      callWith p3 g first (backTo p3 (starEach [.Constant (.str txt) jc pc] (envF F f L))) []))
    (hi : ∀ L, interactive (envF F f L) = false) (hs : ∀ L, swapsWith (.Call (.Attribute (.Call (.Name "super" p0) [] [] p1) "__init__" p2) [.Constant (.str txt) jc pc] [] p3) none p4.line (envF F f L) = pure false)
    (hlen : ∀ vs H Q E, sp vs H Q E → vs.length = ps.length)
    (hrest : ∀ (A : Around) (outer : List Env) (s : Shared) (H : Hp) (vs : List V) (Q : VK) (E : XK), Room k (A.deeper (envF F f s.heap.objs.size)) → sp vs H Q E → ∃ a vs', vs = .ref a :: vs' ∧ H a = some (exo a C none) ∧
      ∃ t, PSs (ncx (CX P w) P w K mg base N F f A outer s H E) rest t ∧ t { nx := fun _ H' => Q .non H', rt := Q } (startF N vs [some (.ref C)]) H) :
    ∃ fd, FnOk P w K mg base (CX P w) (k + 1) f fd ps sp ∧ Binds K fd ps [] ∧ ∃ kV doc pm an ct, fd = PySem.W.fnX F.name F.qual F.params F.body F.scope F.cl .none kV doc pm an (.ref F.c) ct := by
  obtain ⟨oc, od, osl, kV, doc, pm, an, ct, lk⟩ := W.fn
  obtain ⟨cl, cld, csl, lcell⟩ := W.cell
  refine ⟨_, ⟨hlen, fun A outer s H args us vs Q E hr e0 hbind r hsp => ?_⟩, Binds.all (hb kV doc pm an ct), kV, doc, pm, an, ct, rfl⟩
  have KX : K.In s.heap := e0.mod.kin.keeps fun b o e => (e0.bs b o e).1
  obtain ⟨a, vs', ev, ha, t, ht, hq⟩ := hrest A outer s H vs Q E (hr.deeper _) hsp
  obtain ⟨psr, hpsr⟩ := h0
  refine ks_codeAny_call_defAt hr.depth (KX _ _ lk) rfl (e0.mod.nolimit.keeps fun b o e => (e0.bs b o e).1) (PySem.W.codeRec_of KX W.code) rfl hbind S.nocell (fun y hy => S.par y.1 (List.of_mem_zip hy).1) (fun h₁ hns kp => ?_) S.co S.gen S.kind
  have hcellA : CellsAt F.cl ["__class__"] [some (.ref C)] s.heap H := by
    rw [W.cl]
    have only : ∀ (y : Str) (c : Addr), [(("__class__" : Str), cc)].lookup y = some c → y = "__class__" ∧ c = cc := fun y c e => by
      rw [List.lookup_cons] at e
      split at e
      · rename_i q
        cases e
        exact ⟨beq_iff_eq.mp q, rfl⟩
      · cases e
    refine ⟨rfl, fun y c e => ?_, fun x y c e1 e2 => ?_, fun i y e => ?_⟩
    · obtain ⟨_, rfl⟩ := only y c e
      exact ⟨(e0.bs _ _ (e0.mod.kin _ _ lcell)).2, some (.ref C), _, KX _ _ lcell, rfl⟩
    · rw [(only x c e1).1, (only y c e2).1]
    · match i, e with
      | 0, e =>
        have e : some ("__class__" : Str) = some y := e
        cases e
        exact ⟨cc, rfl, fun v ev => by
          have ev : some (some (V.ref C)) = some (some v) := ev
          cases ev
          exact ⟨.ref C, rfl, _, KX _ _ lcell, rfl⟩⟩
  have I : Inv (ncx (CX P w) P w K mg base N F f A outer s H E) [] (startF N vs [some (.ref C)]) H { s with heap := h₁, toks := s.toks + (ps.zip us).length } := inv_startN S hr.hd e0 (hlen _ _ _ _ hsp) r hcellA hns kp
  show wpAt (model P w) (ncx (CX P w) P w K mg base N F f A outer s H E).A (.func F.body (ncx (CX P w) P w K mg base N F f A outer s H E).env) (execs F.body (ncx (CX P w) P w K mg base N F f A outer s H E).env) _ _ _
  have hx : execs F.body (ncx (CX P w) P w K mg base N F f A outer s H E).env = execs (.Expr (.Call (.Attribute (.Call (.Name "super" p0) [] [] p1) "__init__" p2) [.Constant (.str txt) jc pc] [] p3) p4 :: rest) (ncx (CX P w) P w K mg base N F f A outer s H E).env := by rw [hbody]
  rw [hx]
  obtain ⟨pl, he'⟩ := he s.heap.objs.size
  refine ks_wpAt_mono (Q := fun fl s' => CR (CX P w) outer P w H s Q E (.ok (.ret (match fl with | .ret v => v | _ => .none))) s') (E := (ncx (CX P w) P w K mg base N F f A outer s H E).xe)
    (ks_wpAt_execs_cons (super_line (X := ncx (CX P w) P w K mg base N F f A outer s H E) (mloc := fun y => (ps.zip us).reverse.lookup y) W I rfl S.kind hks (S.frk _ (by simp)) (S.par _ (by rw [hpsr]; simp)) hp hns ?hself ha hsm htop (fun s' I' => ?hq) he' (hi _) (hs _))) (fun _ _ z => z) (fun _ _ z => z)
  case hself =>
    have ndP : ps.Nodup := by
      have q := S.nd.sublist (List.take_sublist (ps.length + [("__class__" : Str)].length) N)
      rw [S.pre] at q
      exact (List.nodup_append.mp q).1
    subst ev
    cases r with
    | @cons _ u0 _ ur ra rw' =>
      have e0' : u0 = Value.ref a := ra
      subst e0'
      exact zip_look (i := 0) ndP (by rw [hpsr]; rfl) rfl
  case hq =>
    refine wpAt_of_wpAny (wpAny_mono (ht.run [] s' _ H _ I' hq) (fun fl s'' hs' => ?_) fun e s'' hs' => hs')
    have fin : ∀ {σ' : L2.St} {H' : Hp} {v : V} {u : Value}, Inv (ncx (CX P w) P w K mg base N F f A outer s H E) [] σ' H' s'' → L2.RelV v u → Q v H' → CE outer P w H s Q u s'' :=
      fun {σ' H' v u} J rv q => ⟨v, H', J.os, J.bare, J.base, J.hok, rv, q⟩
    cases fl with
    | ret u =>
      obtain ⟨v, σ', H', J, rv, q⟩ := hs'
      exact fin J rv q
    | next =>
      obtain ⟨σ', H', J, q⟩ := hs'
      exact fin (v := V.non) (u := Value.none) J rfl q
    | brk =>
      obtain ⟨_, _, _, q⟩ := hs'
      exact False.elim q
    | cont =>
      obtain ⟨_, _, _, q⟩ := hs'
      exact False.elim q
end
section
variable {P : Program} {w : World} {K : Frag} {mg : Str → Option Value} {base : Heap} {C f cc : Addr} {F : NF} {N ps : List Str} {k : Nat} {txt : Str} {p0 p1 p2 p3 p4 pc : Pos} {jc} {rest : List Stmt}
theorem err_fnF {ar : Arg} {fs : List Str} (W : ErrK P K C f cc F) (S : NScope N ps ["__class__"] F.scope) (hks : F.scope.names.lookup ("super" : Str) = some .globalImplicit)
    (hb : ∀ (kV doc pm : Value) (an : Option Addr) (ct : Value) (us : List Value), us.length = ps.length → bindArgs (PySem.W.fnX F.name F.qual F.params F.body F.scope F.cl .none kV doc pm an (.ref F.c) ct) ⟨us, []⟩ = pure (ps.zip us))
    (hp : (F.params.posonlyargs ++ F.params.args).head? = some ar) (h0 : ∃ r, ps = ar.arg :: r) (hbody : F.body = .Expr (.Call (.Attribute (.Call (.Name "super" p0) [] [] p1) "__init__" p2) [.Constant (.str txt) jc pc] [] p3) p4 :: rest)
    (hsm : mg "super" = none) (htop : (P.main.scope.names.lookup ("super" : Str)).isSome = false)
    (he : ∀ L, ∃ pl : Sem Bool, eval (.Call (.Attribute (.Call (.Name "super" p0) [] [] p1) "__init__" p2) [.Constant (.str txt) jc pc] [] p3) (envF F f L) = (do
      let ov ← attributeBase (.Call (.Name "super" p0) [] [] p1) "__init__" (envF F f L) (eval (.Call (.Name "super" p0) [] [] p1) (envF F f L))
      standAt p2.atName
      let (g, first) ← holding [ov] (getMethod ov "__init__" pl)
      callWith p3 g first (backTo p3 (starEach [.Constant (.str txt) jc pc] (envF F f L))) []))
    (hi : ∀ L, interactive (envF F f L) = false) (hs : ∀ L, swapsWith (.Call (.Attribute (.Call (.Name "super" p0) [] [] p1) "__init__" p2) [.Constant (.str txt) jc pc] [] p3) none p4.line (envF F f L) = pure false)
    (hps : ps.length = fs.length + 1) (hne : fs ≠ []) (hf8 : fs.length ≤ 800) (hno : ∀ g ∈ fs, PySem.W.findIn K (.ref C) g = some none)
    (hst : ∀ (A : Around) (outer : List Env) (s : Shared) (H : Hp) (E : XK), StoreOk (ncx (CX P w) P w K mg base N F f A outer s H E) rest (fs.zipIdx 1)) :
    ∃ fd, FnOk P w K mg base (CX P w) (k + 1) f fd ps (spErr C fs) ∧ Binds K fd ps [] ∧ ∃ kV doc pm an ct, fd = PySem.W.fnX F.name F.qual F.params F.body F.scope F.cl .none kV doc pm an (.ref F.c) ct := by
  refine err_initF W S hks hb hp h0 hbody hsm htop he hi hs (fun vs H Q E ⟨a, ys, e, hl, _⟩ => by rw [e, List.length_cons, hl, hps]) fun A outer s H vs Q E hr ⟨a, ys, ev, hl, ha, hq⟩ => ⟨a, ys, ev, ha, ?_⟩
  subst ev
  cases fs with
  | nil => exact absurd rfl hne
  | cons f0 fr =>
    have st := hst A outer s H E
    rw [List.zipIdx_cons] at st
    obtain ⟨t, ht, hk⟩ := stores_new st W.T
    refine ⟨t, ht, ?_⟩
    have e1 : ((f0, 1) :: fr.zipIdx (1 + 1)) = (f0 :: fr).zipIdx 1 := by rw [List.zipIdx_cons]
    refine hk _ H _ a ys (fun p hp => hno p.1 ?_) rfl ?_ ha (by simp at hf8 ⊢; omega) fun dx H' hn hne' hx => hq dx H' hn hne' ?_
    · rw [e1] at hp
      have := List.mem_map_of_mem (f := (·.1)) hp
      rw [zipIdx_fst] at this
      exact this
    · rw [e1]
      exact zipIdx_at (pre := [some (.ref a)]) hl rfl
    · rw [e1, zipIdx_fst] at hx
      exact hx
end
/-- the test for isinstance(e, T), T a class of the language -/
def kitTB (K : Frag) (s : Str) (T : String) (b : Bool) : Bool := excCB K (ga K s) && decide (PySem.W.kitOne K (.ref (ga K s)) (.type T) = some b)
def isTBT (K : Frag) (T : String) (yes no : List Str) : Bool := (yes.all fun s => kitTB K s T true) && no.all fun s => kitTB K s T false
theorem isTBT_ok {K : Frag} {T : String} {yes no : List Str} (h : isTBT K T yes no = true) : ∀ s b, DL.hit yes no s = some b → ExcC K (ga K s) ∧ PySem.W.kitOne K (.ref (ga K s)) (.type T) = some b := fun s b e => by
  obtain ⟨h1, h2⟩ := He.ba h
  unfold DL.hit at e
  split at e
  · rename_i hs
    cases e
    obtain ⟨a, b⟩ := He.ba (List.all_eq_true.mp h1 s hs)
    exact ⟨excCB_ok a, of_decide_eq_true b⟩
  · split at e
    · rename_i hs
      cases e
      obtain ⟨a, b⟩ := He.ba (List.all_eq_true.mp h2 s hs)
      exact ⟨excCB_ok a, of_decide_eq_true b⟩
    · cases e
theorem kbn_of {K : Frag} {fd : FuncData} {ps ks : List Str} {n : Nat} {perm : List Nat} (h : ∀ us ws : List Value, us.length = n → ws.length = ks.length → bindArgs fd ⟨us, ks.zip ws⟩ = pure (ps.zip (sel perm (us ++ ws)))) : KBn K fd ps n ks (fun us ws => sel perm (us ++ ws)) (fun us ws => sel perm (us ++ ws)) :=
  ⟨fun s us ws _ h1 h2 => .of_eq (h us ws h1 h2), fun r z => sel_vals (r.append z) perm⟩
end DL

/-! D50: sorted(set(a list of texts)), in the heap. -/
namespace DL
open PySem PySem.Spec PyProof.Rows L2
/-- the set of the texts l at a -/
def SetS (P : Program) (w : World) (h : Heap) (a : Addr) (l : List Str) : Prop :=
  ∃ D : Froz.SD, h.get? a = some (Froz.sObj "set" D) ∧ Froz.TxOk P w D l ∧ l.Nodup ∧ l.length < scanBound ∧ Ris D.2.2.place.toList ∧ (w.params.followText "set-order" = true ∨ D.2.2.led = true)
theorem layOff_place (t : SetTable) : (if t.plain = true then { t with plain := false } else t).place = t.place := by split <;> rfl
theorem layOff_led (t : SetTable) : (if t.plain = true then { t with plain := false } else t).led = t.led := by split <;> rfl
theorem tailTx_ris {ep : Nat} {es1 : Array (Int × Value)} {t2 : SetTable} {wd : Bool} (r : Ris t2.place.toList) : Ris (Froz.tailTx ep es1 t2 wd).2.2.place.toList := by
  unfold Froz.tailTx
  split
  · exact relayAll_ris _ _ _
  · exact r
theorem tailTx_led {ep : Nat} {es1 : Array (Int × Value)} {t2 : SetTable} {wd : Bool} : (Froz.tailTx ep es1 t2 wd).2.2.led = t2.led := by
  unfold Froz.tailTx
  split
  · exact relayAll_led _ _ _
  · rfl
theorem addTx_ris {h : Int} {v : Value} {D : Froz.SD} (r : Ris D.2.2.place.toList) : Ris (Froz.addTx h v D).2.2.place.toList := by
  unfold Froz.addTx
  refine tailTx_ris ?_
  rw [layOff_place]
  exact layNew_ris _ _ _ _ r
theorem addTx_led {h : Int} {v : Value} {D : Froz.SD} : (Froz.addTx h v D).2.2.led = D.2.2.led := by
  unfold Froz.addTx
  rw [tailTx_led, layOff_led, layNew_led]
theorem perm_of_sub : ∀ {L M : List Str}, L.Nodup → (∀ x ∈ L, x ∈ M) → M.length ≤ L.length → M.Perm L
  | [], M, _, _, hl => by
    have : M = [] := List.length_eq_zero_iff.mp (by simpa using hl)
    subst this
    exact List.Perm.refl _
  | x :: t, M, nd, hs, hl => by
    have hx := hs x List.mem_cons_self
    have p := List.perm_cons_erase hx
    obtain ⟨n1, n2⟩ := List.nodup_cons.mp nd
    refine p.trans (List.Perm.cons x (perm_of_sub n2 (fun y hy => ?_) ?_))
    · exact (List.mem_erase_of_ne (fun e => n1 (by rw [← e]; exact hy))).mpr (hs y (List.mem_cons_of_mem _ hy))
    · rw [List.length_erase_of_mem hx]
      simp only [List.length_cons] at hl
      omega
section
variable {P : Program} {w : World} {A : Around} {E : Value → Shared → Prop} {s : Shared} {a : Addr} {l : List Str}
theorem SetS.at {h h' : Heap} (R : SetS P w h a l) (k : ∀ o, h.get? a = some o → h'.get? a = some o) : SetS P w h' a l := by
  obtain ⟨D, ho, r⟩ := R
  exact ⟨D, k _ ho, r⟩
theorem setS_new {h : Heap} (ho : h.get? a = some { cls := .type "set", dict := none, data := .set #[] 0 (.fresh 0 0 (!w.params.followText "set-order")) }) : SetS P w h a [] :=
  ⟨(#[], 0, .fresh 0 0 (!w.params.followText "set-order")), ho, Froz.TxOk.nil (by rfl), List.nodup_nil, (by decide), List.Pairwise.nil, by
    show _ ∨ (!w.params.followText "set-order") = true
    cases w.params.followText "set-order"
    · exact .inr rfl
    · exact .inl rfl⟩
theorem setS_add {k : Str} {u : Tok} {Q : Bool → Shared → Prop} (R : SetS P w s.heap a l) (hb : l.length + 1 < scanBound)
    (hQ : ∀ h' b, Heap.SameBut a s.heap h' → SetS P w h' a (if k ∈ l then l else k :: l) → Q b { s with heap := h' }) : wpAny (model P w) A (setAddHashed a (.str k u) ((strKind P w).hash k)) Q E s := by
  have R0 := R
  obtain ⟨D, ho, F, nd, hz, hr, hl⟩ := R
  by_cases hk : k ∈ l
  · obtain ⟨es, ep, t⟩ := D
    have hd : (Froz.sObj "set" (es, ep, t)).data = .set es ep t := rfl
    have hf : t.fits es.size = true := F.fit
    have hel : ElemsOf (strKind P w) es.toList := F.el
    have hsz : es.size = l.length := F.sz
    have hb0 : es.size < scanBound := by omega
    have hkey : (strKind P w).is k (.str k u) = true := Froz.is_str k u
    unfold setAddHashed setAddHashedIn
    refine wpAny_holding (wpAny_bind (wpAny_setState_of ho hd hf ?_))
    dsimp only
    rw [byScan_of rfl hb0 hel]
    simp only [↓reduceIte]
    unfold setAddByScan
    refine wpAny_bind ?_
    refine wpAny_bind (wpAny_rule ?_)
    refine wpAny_bind (wpAny_setScan_of (knd := strKind P w) (k := k) hkey ho hd hf hel ?_)
    cases hfi : List.findIdx? (fun e => (strKind P w).is k e.2) es.toList with
    | some j =>
      dsimp only
      refine wpAny_pure (wpAny_pure ?_)
      have q := hQ s.heap false (Heap.SameBut.refl a s.heap) (by rw [if_pos hk]; exact R0)
      exact q
    | none =>
      obtain ⟨e, he, q⟩ := (F.mem k).mp hk
      have c := List.findIdx?_eq_none_iff.mp hfi e he
      rw [q] at c
      cases c
  · refine Froz.add_x ho F hk hb ?_
    have e : s.heap.update a (fun _ => Froz.sObj "set" (Froz.addTx (hashStr w k) (.str k u) D)) = s.heap.update a (fun _ => Froz.sObj "set" (Froz.addTx (hashStr w k) (.str k u) D)) := rfl
    refine hQ _ true (Heap.SameBut.update s.heap a _) ⟨Froz.addTx (hashStr w k) (.str k u) D, Froz.get_upd _ ho rfl, ?_, ?_, ?_, addTx_ris hr, by rw [addTx_led]; exact hl⟩
    · rw [if_neg hk]; exact Froz.add_ok u F
    · rw [if_neg hk]; exact List.nodup_cons.mpr ⟨hk, nd⟩
    · rw [if_neg hk]; exact hb
theorem set_update_strs {I : Addr} {fp wr : List Addr} {G : Array GenState → Array GenState → Prop} {n : Nat} {Pv : Nat → Value → Prop} {St : Nat → Shared → Prop} {R : Result → Shared → Prop}
    (W : WalksS P w A.in1 I fp wr G n Pv St) (S : Addr) (hSf : S ∉ fp) (ss : List Str) (hn : n = ss.length) (hb : ss.length + 1 < scanBound) (hval : ∀ i v, Pv i v → ∃ k t, ss[i]? = some k ∧ v = .str k t) :
    ∀ (k i : Nat) (s : Shared), n - i = k → i ≤ n → St i s → (∃ l, l.length ≤ i ∧ (∀ x, x ∈ l ↔ x ∈ ss.take i) ∧ SetS P w s.heap S l) →
      (∀ s' l, Moved (S :: wr) G s s' → (∀ x, x ∈ l ↔ x ∈ ss) → SetS P w s'.heap S l → R (.ok (.ret .none)) s') →
      codeAny (model P w) A (.builtin "set.update.loop" ⟨[.ref S, .ref I], []⟩) R s := by
  have hSw : S ∉ wr := fun h => hSf (W.sub _ h)
  have hsub : ∀ b ∈ wr, b ∈ S :: wr := fun b hb => List.mem_cons_of_mem _ hb
  intro k
  induction k with
  | zero =>
    intro i s hk' hi hst ⟨l, hc, hx, hS⟩ hR
    have hin : i = n := by omega
    subst hin
    refine codeAny_builtin F.entry_set_update_loop ?_
    rw [Around.under_plainId F.plain_set_update_loop _]
    show wpAny _ A.in1 (pyNext (.ref I) >>= _) _ _ s
    refine wpAny_bind (W.done s _ _ hst fun s' hm => ?_)
    show wpAny _ A.in1 (ret Value.none) _ _ s'
    have e : ss.take i = ss := List.take_of_length_le (by omega)
    rw [e] at hx
    exact wpAny_pure (hR s' l (hm.mono hsub) hx (hS.at fun o e => hm.heap S o hSw e))
  | succ k ih =>
    intro i s hk' hi hst ⟨l, hc, hx, hS⟩ hR
    have hlt : i < n := by omega
    refine codeAny_builtin F.entry_set_update_loop ?_
    rw [Around.under_plainId F.plain_set_update_loop _]
    show wpAny _ A.in1 (pyNext (.ref I) >>= _) _ _ s
    refine wpAny_bind (W.item i s _ _ hlt hst fun v s' hP hst' hm => ?_)
    obtain ⟨z, t, hz, rfl⟩ := hval i v hP
    have hS' : SetS P w s'.heap S l := hS.at fun o e => hm.heap S o hSw e
    show wpAny _ A.in1 (holding [Value.str z t] (setAdd S (.str z t)) >>= _) _ _ s'
    refine wpAny_bind (wpAny_holding ?_)
    unfold setAdd
    refine wpAny_holding ?_
    refine wpAny_bind ((strKind P w).pyHash (k := z) (Froz.is_str _ _) ?_)
    refine setS_add (s := { s' with toks := s'.toks + 1 }) hS' (by omega) fun h' b hsb hS2 => ?_
    have hx2 : ∀ x, x ∈ (if z ∈ l then l else z :: l) ↔ x ∈ ss.take (i + 1) := fun x => by
      rw [List.take_add_one, hz]
      split
      · rename_i hzl
        simp only [Option.toList_some, List.mem_append, List.mem_singleton, ← hx x]
        exact ⟨.inl, fun q => q.elim id fun e => e ▸ hzl⟩
      · simp only [Option.toList_some, List.mem_append, ← hx x, List.mem_cons, List.not_mem_nil, or_false]
        exact Or.comm
    have hc3 : (if z ∈ l then l else z :: l).length ≤ i + 1 := by
      split
      · omega
      · simp only [List.length_cons]; omega
    refine wpAny_pure ⟨plainId_quiet F.plain_set_update_loop _, ih (i + 1) _ (by omega) hlt (W.frame _ s' _ _ hst' (Nat.le_succ _) fun b hb o e => ?_) ⟨_, hc3, hx2, hS2⟩ fun s'' c2 hm'' hc'' hS'' => ?_⟩
    · rw [hsb.2 b (fun h : b = S => hSf (by rw [← h]; exact hb))]; exact e
    · refine hR s'' c2 (Moved.trans W.gtrans ((hm.mono hsub).then_heap (Nat.le_succ _) fun b o hb e => ?_) hm'') hc'' hS''
      rw [hsb.2 b (fun h : b = S => hb (by rw [h]; exact List.mem_cons_self))]; exact e
theorem strs_get : ∀ {vs : List Value} {ss : List Str}, StrsAre vs ss → ∀ {i : Nat} {v : Value}, vs[i]? = some v → ∃ k t, ss[i]? = some k ∧ v = .str k t
  | _, _, .nil, i, v, e => by simp at e
  | _, _, .cons y t h, 0, v, e => ⟨y, t, rfl, by simpa using e.symm⟩
  | _, _, .cons y t h, i + 1, v, e => by
    rw [List.getElem?_cons_succ] at e ⊢
    exact strs_get h e
theorem call_set_strs {l : Addr} {items : Array Value} (ss : List Str) {Q : Value → Shared → Prop} (hh : A.handled = none) (hl : s.heap.IsList l items) (hit : StrsAre items.toList ss) (hb : ss.length + 1 < scanBound)
    (h : ∀ (h' : Heap) (tk : Nat) L, SetS P w h' s.heap.objs.size L → (∀ x, x ∈ L ↔ x ∈ ss) → (∀ b o, s.heap.get? b = some o → h'.get? b = some o) → Q (.ref s.heap.objs.size) { s with heap := h', toks := tk }) :
    wpAny (model P w) A (call (.type "set") [.ref l]) Q E s := by
  have hisz : items.size = ss.length := by
    have q := hit.length
    rw [Array.length_toList] at q
    exact q
  obtain ⟨c, tl, hmro⟩ := F.called_set.mro
  have hmade := F.called_set.made
  have hsub := F.called_set.sub
  refine wpAny_call (codeAny_of_tree ?_)
  show wpAny _ _ (callAny (.type "set") _) _ _ _
  refine wpAny_pure ⟨Code.quiet_builtin _ (by decide +kernel), codeAny_builtin F.entry_type_call ?_⟩
  rw [Around.under_plain (weight_type_call_type "set" [.ref l] []) rfl]
  have h1 := F.called_set.notType
  have h2 := F.called_set.canCreate
  have hct := F.typeCall_set_1 (.ref l)
  repeat (any_goals (first | assumption | wp_step))

  refine codeAny_mono (code_set_led1 (.ref l) (E := E) (Q₁ := fun obj s₁ => obj = .ref s.heap.objs.size ∧ s₁ = { s with heap := s.heap.push { cls := .type "set", dict := none, data := .set #[] 0 (.fresh 0 0 (!w.params.followText "set-order")) } }) ⟨rfl, rfl⟩) fun r s₁ hr => ?_
  cases r with
  | error e => exact hr
  | ok fl =>
    cases fl with
    | ret obj =>
      obtain ⟨rfl, rfl⟩ := hr
      have hS : (s.heap.push { cls := .type "set", dict := none, data := .set #[] 0 (.fresh 0 0 (!w.params.followText "set-order")) }).get? s.heap.objs.size = some { cls := .type "set", dict := none, data := .set #[] 0 (.fresh 0 0 (!w.params.followText "set-order")) } := Heap.get?_push_size _ rfl
      have hT : Shared.TypeIs { s with heap := s.heap.push { cls := .type "set", dict := none, data := .set #[] 0 (.fresh 0 0 (!w.params.followText "set-order")) } } (.ref s.heap.objs.size) "set" := ⟨_, hS, rfl⟩
      have hli := F.called_set.init.lookup
      have hbi := F.called_set.init.bind (.ref s.heap.objs.size)
      repeat (any_goals (first | assumption | wp_step))

      refine codeAny_mono (codeAny_call_builtin (R := wants (fun r s₂ => r = .none ∧ ∃ h' tk L, s₂ = { s with heap := h', toks := tk } ∧ SetS P w h' s.heap.objs.size L ∧ (∀ x, x ∈ L ↔ x ∈ ss) ∧
          (∀ b o, s.heap.get? b = some o → h'.get? b = some o)) E) F.called_set.init.plain F.entry_set_init (check_set_init_1 hT ?_)) fun r₂ s₂ hr₂ => ?_
      · obtain ⟨ol, hol, hcl, nl, hdl⟩ := hl
        obtain ⟨ocls, odict, odata, oslots⟩ := ol
        simp only at hcl hdl
        subst hcl; subst hdl
        have hol' : (s.heap.push { cls := .type "set", dict := none, data := .set #[] 0 (.fresh 0 0 (!w.params.followText "set-order")) }).get? l = some { cls := .type "list", dict := odict, data := .seq items nl, slots := oslots } := Heap.get?_push_of_some _ hol
        have hsls := F.sub_list_set
        have hslf := F.sub_list_frozenset
        have hne : (Value.type "list" == Value.type "dict") = false := by decide
        have hl1 : (s.heap.push { cls := .type "set", dict := none, data := .set #[] 0 (.fresh 0 0 (!w.params.followText "set-order")) }).IsList l items := ⟨_, hol', rfl, nl, rfl⟩
        unfold Builtin.«set.__init__» noKeywords Builtin.Frozenset.updateFrom
        generalize hPI : pyIter = PI
        wp_walk
        subst hPI

        refine wpAny_pyIter_list hl1 ?_
        refine wpAny_bind (wpAny_runValue ?_)
        have hlS : l < s.heap.objs.size := Heap.lt_size hol
        have hh3 : A.in1.in1.in1.handled = none := by simp [hh]
        have hz1 : (s.heap.push { cls := .type "set", dict := none, data := .set #[] 0 (.fresh 0 0 (!w.params.followText "set-order")) }).objs.size = s.heap.objs.size + 1 := Heap.size_push ..
        have hneI : l ≠ (s.heap.push { cls := .type "set", dict := none, data := .set #[] 0 (.fresh 0 0 (!w.params.followText "set-order")) }).objs.size := by
          rw [Heap.size_push]; exact Nat.ne_of_lt (Nat.lt_succ_of_lt hlS)
        have hSf : s.heap.objs.size ∉ [(s.heap.push { cls := .type "set", dict := none, data := .set #[] 0 (.fresh 0 0 (!w.params.followText "set-order")) }).objs.size, l] := by
          rw [Heap.size_push]; simp only [List.mem_cons, List.mem_singleton, List.not_mem_nil, or_false, not_or]
          exact ⟨Nat.ne_of_lt (Nat.lt_succ_self _), Nat.ne_of_gt hlS⟩
        have hval : ∀ (i : Nat) (v : Value), items[i]? = some v → ∃ k t, ss[i]? = some k ∧ v = .str k t := fun i v hv => strs_get hit (by rw [Array.getElem?_toList]; exact hv)
        refine set_update_strs ((Walks.list hh3 _ l hneI items).toS) s.heap.objs.size
          hSf ss hisz hb hval (items.size - 0) 0 _ (by omega) (Nat.zero_le _)
          ⟨⟨_, Heap.get?_push_size _ rfl, rfl, rfl⟩, (hl1.push _)⟩ ?hS0 ?hR
        case hS0 =>
          have hget : ((s.heap.push { cls := .type "set", dict := none, data := .set #[] 0 (.fresh 0 0 (!w.params.followText "set-order")) }).push { cls := .type "list_iterator", data := .fields #[.ref l, .int 0 0] }).get? s.heap.objs.size
              = some { cls := .type "set", dict := none, data := .set #[] 0 (.fresh 0 0 (!w.params.followText "set-order")) } := Heap.get?_push_of_some _ hS
          exact ⟨[], Nat.le_refl 0, (fun x => by simp), setS_new hget⟩
        case hR =>
          intro s' L hm g' hS'
          obtain ⟨h', g2, d', tk', os'⟩ := s'
          have eg : g2 = s.gens := hm.gens
          have ed : d' = s.drawn := hm.drawn
          have eo : os' = s.os := hm.os
          subst eg; subst ed; subst eo
          show wpAny _ _ _ _ _ _
          refine wpAny_pure ?_
          show wpAny _ _ (ret Value.none) _ _ _
          refine wpAny_pure ⟨rfl, h', tk', L, rfl, hS', g', fun b o e => ?_⟩
          have hb0 : b < s.heap.objs.size := Heap.lt_size e
          have hb1 : b ≠ s.heap.objs.size := Nat.ne_of_lt hb0
          have hb2 : b ≠ (s.heap.push { cls := .type "set", dict := none, data := .set #[] 0 (.fresh 0 0 (!w.params.followText "set-order")) }).objs.size := by
            rw [Heap.size_push]; exact Nat.ne_of_lt (Nat.lt_succ_of_lt hb0)
          exact hm.heap b o (by simp only [List.mem_cons, List.mem_singleton, List.not_mem_nil, or_false, not_or]; exact ⟨hb1, hb2⟩) (Heap.get?_push_of_some _ (Heap.get?_push_of_some _ e))

      · cases r₂ with
        | error e => exact hr₂
        | ok fl₂ =>
          cases fl₂ with
          | ret r =>
            obtain ⟨rfl, h', tk, L, rfl, hS', g', hk'⟩ := hr₂
            repeat (any_goals (first | assumption | wp_step))
            exact h _ _ _ hS' g' hk'
          | _ => exact hr₂.elim
    | _ => exact hr.elim

def strOf : Value → Str
  | .str x _ => x
  | _ => ⟨#[]⟩
theorem strs_of : ∀ (l : List Value), (∀ v ∈ l, ∃ k tk, v = Value.str k tk) → StrsAre l (l.map strOf)
  | [], _ => .nil
  | v :: l, h => by
    obtain ⟨k, tk, rfl⟩ := h v List.mem_cons_self
    exact .cons k tk (strs_of l fun u hu => h u (List.mem_cons_of_mem _ hu))
/-- the members of the payload -/
theorem tx_members {D : Froz.SD} {L : List Str} (F : Froz.TxOk P w D L) (nd : L.Nodup) : (D.1.toList.map fun e => strOf e.2).Perm L := by
  have hs : ∀ e ∈ D.1.toList, ∃ k t, e.2 = Value.str k t := fun e he => by
    obtain ⟨⟨k, hk, _⟩, _⟩ := F.el e he
    obtain ⟨t, q⟩ := Value.isStrOf_shape hk
    exact ⟨k, t, q⟩
  have hm : ∀ x, x ∈ L → x ∈ (D.1.toList.map fun e => strOf e.2) := fun x hx => by
    obtain ⟨e, he, q⟩ := (F.mem x).mp hx
    obtain ⟨t, q⟩ := Value.isStrOf_shape q
    exact List.mem_map.mpr ⟨e, he, by rw [q]; rfl⟩
  refine perm_of_sub nd (fun x hx => hm x hx) ?_
  rw [List.length_map, Array.length_toList, F.sz]
  exact Nat.le_refl _
theorem sorted_setS {L : List Str} {Q : Value → Shared → Prop} (R : SetS P w s.heap a L) (hh : A.handled = none)
    (hQ : ∀ s' p (out : Array Value) (c : Nat) (ns : List Str), (∀ b o, s.heap.get? b = some o → s'.heap.get? b = some o) → s'.gens = s.gens → s'.os = s.os → s.heap.objs.size ≤ p →
      s'.heap.get? p = some (seqObj "list" out c) → StrsAre out.toList ns → sortedS ns = true → ns.Perm L → Q (.ref p) s') :
    wpAny (model P w) A (call (.builtin "sorted") [.ref a]) Q E s := by
  obtain ⟨D, ho, F, nd, hz, hr, hl⟩ := R
  have hb : D.1.size < scanBound := by rw [F.sz]; exact hz
  refine Calls.call_function_entry kind_sorted plain_sorted entry_sorted (args_sorted1 _) ?_
  unfold Builtin.«sorted»
  refine wpAny_bind (m := checkCount "sorted" 1 1 _) (wpAny_pure ?_)
  refine wpAny_bind (collect_set (A := A.in1) (es := D.1) (ep := D.2.1) (t := D.2.2) hh ⟨_, ho, rfl, rfl⟩ F.fit hb hr hl fun s1 vs k1 hz1 g1 o1 pm => ?_)
  have hvl : vs.length = L.length := by rw [pm.length_eq, List.length_map, Array.length_toList]; exact F.sz
  have hI : StrsAre vs (vs.map strOf) := strs_of vs fun v hv => by
    obtain ⟨e, he, q⟩ := List.mem_map.mp (pm.mem_iff.mp hv)
    obtain ⟨⟨k, hk, _⟩, _⟩ := F.el e he
    obtain ⟨t, q2⟩ := Value.isStrOf_shape hk
    exact ⟨k, t, by rw [← q]; exact q2⟩
  have pk : (vs.map strOf).Perm L := by
    have q := pm.map strOf
    rw [List.map_map] at q
    exact q.trans (tx_members F nd)
  have hsl : vs.length ≤ sizeLine := by rw [hvl]; exact fits_of_scanBound hz
  refine wpAny_bind (wpAny_newList ?_ hsl)
  have hoL : (s1.heap.push (seqObj "list" vs.toArray 0)).get? s1.heap.objs.size = some (seqObj "list" vs.toArray 0) := Heap.get?_push_size _ rfl
  refine wpAny_bind (wpAny_holding (wpAny_call_entry slot_list_sort ⟨_, hoL, rfl⟩ entry_list_sort (list_sort_treeKAny strKind_oneLt hoL hI.keysOf (fun v₁ v₂ rest e => keyKind_strs (by rw [← e]; exact hI)) hsl fun st' a1 a2 => ⟨_, rfl, ?_⟩) (args_list_sort _)))
  obtain ⟨ns', h1, h2, h3⟩ := sorted_out_str hI a1 a2
  obtain ⟨c, hc⟩ := sortedHeap_at (vs := vs) (out := Array.map (fun x => x.snd) (arrOf st')) hoL
  refine wpAny_pure ⟨_, rfl, hQ _ s1.heap.objs.size _ c ns' (fun b u e => ?_) g1 o1 hz1 hc h1 h3 (h2.trans pk)⟩
  have q := k1 b u e
  have hlt := Heap.lt_size q
  show (sortedHeap (s1.heap.push (seqObj "list" vs.toArray 0)) s1.heap.objs.size vs _).get? b = some u
  rw [sortedHeap_old (Nat.ne_of_lt hlt) (by rw [size_push']; exact Nat.lt_succ_of_lt hlt)]
  exact Heap.get?_push_of_some _ q
end
end DL

/-! D51: sorted(set(..)) of texts; zip of two tuples. -/
namespace DL
open PySem PySem.Spec PyProof.Rows L2 NdefX
section
variable {X : Cx}
def SetSO (P : Program) (w : World) (a : Addr) (l : List Str) : HO := .ext fun h => SetS P w h a l
theorem setSO_new {P : Program} {w : World} {H : Hp} {h : Heap} {a : Addr} {l : List Str} (R : SetS P w h a l) : ObjOk P w H h a (SetSO P w a l) := by
  have ⟨D, ho, q⟩ := R
  exact ⟨R, ⟨_, ho⟩, fun h1 h2 p k => SetS.at p fun o e => k o e⟩
def rSetOfS (K : Frag) (P : Program) (w : World) : List V → Hp → VK → Prop := fun xs H Q => ∃ (l : Addr) (ss : List Str), xs = [V.ref l] ∧ SqL K H l (ss.map V.str) ∧ ss.length + 1 < scanBound ∧
  ∀ a L, H a = none → (∀ x, x ∈ L ↔ x ∈ ss) → Q (.ref a) (upd H a (SetSO P w a L))
theorem cr_setOfS (hc : X.calm = true) : CallR X (.type "set") (rSetOfS X.K X.prog X.w) := by
  intro pins s σ H xs us Q I r h
  obtain ⟨l, ss, rfl, hl, hb, q⟩ := h
  rw [Vals.ref1 r]
  obtain ⟨its, rv, pl, hz⟩ := I.list hl
  have hn : H s.heap.objs.size = none := I.hok.fresh (Nat.le_refl _)
  refine call_set_strs (P := X.prog) (w := X.w) ss (I.ok.hd hc) pl.isList (by simpa using rv.strs) hb fun h' tk L R g k => ?_
  exact ⟨.ref s.heap.objs.size, upd H s.heap.objs.size (SetSO X.prog X.w s.heap.objs.size L), I.laid (t' := tk) k (Nat.le_refl _) (setSO_new R), rfl, q _ L hn g⟩
def rSortedSetS (P : Program) (w : World) : List V → Hp → VK → Prop := fun vs H Q => ∃ (a : Addr) (L : List Str), vs = [V.ref a] ∧ H a = some (SetSO P w a L) ∧
  ∀ (ys : List Str) (p : Addr), ys.Perm L → ys.Nodup → sortedS ys = true → H p = none → Q (.ref p) (upd H p (.lst (ys.map V.str)))
theorem cr_sortedSetS (hc : X.calm = true) : CallR X (.builtin "sorted") (rSortedSetS X.prog X.w) := by
  intro pins s σ H vs us Q I r h
  obtain ⟨a, L, rfl, ha, q⟩ := h
  have R : SetS X.prog X.w s.heap a L := (I.hok a _ ha).1
  obtain ⟨_, _, _, hnd, hz, _⟩ := id R
  rw [Vals.ref1 r]
  refine sorted_setS R (I.ok.hd hc) fun s' p out c ns k g o hp hg hS hs pm => ?_
  have hlen : (ns.map V.str).length ≤ sizeLine := by rw [List.length_map, pm.length_eq]; exact fits_of_scanBound hz
  have hn : H p = none := I.hok.fresh hp
  have J : Inv X pins σ (upd H p (.lst (ns.map V.str))) { s with heap := s'.heap, gens := s'.gens, drawn := s'.drawn, toks := s'.toks } :=
    I.call (ch := []) (Un.laid k hp hn) (I.hok.laid k hp ⟨hlen, out.toList, c, vals_of_strs hS, hg⟩) (by rw [g]; exact I.bare) (fun _ z => nomatch z)
  have e : s' = { s with heap := s'.heap, gens := s'.gens, drawn := s'.drawn, toks := s'.toks } := by
    cases s'
    cases s
    cases o
    rfl
  rw [e]
  exact ⟨.ref p, _, J, rfl, q ns p pm (pm.nodup_iff.mpr hnd) hs hn⟩
def fSortSet : FB := fun ds m Q => match ds with
  | [d] => ∃ xs ss, lstOf m d = some xs ∧ strsD xs = some ss ∧ ss.length + 1 < scanBound ∧ ∀ ys : List Str, sortedS ys = true → ys.Nodup → (∀ x, x ∈ ys ↔ x ∈ ss) → Q (.lst (ys.map D.str)) m
  | _ => False
theorem dsortset {p p2 pos pos2 : Pos} {e : Expr} {we : WA} (hc : X.calm = true) (hg : Gl X "sorted") (hm : X.mg "sorted" = none) (hg2 : Gl X "set") (hm2 : X.mg "set" = none) (ha : DA X [e] we)
    (he : starEach [e] X.env = (false, eval e X.env) :: starEach [] X.env := by rfl) (hpl : (backTo pos2 (starEach [] X.env)).any (·.1) = false := by rfl)
    (he2 : starEach [.Call (.Name "set" p2) [e] [] pos2] X.env = (false, eval (.Call (.Name "set" p2) [e] [] pos2) X.env) :: starEach [] X.env := by rfl) (hpl2 : (backTo pos (starEach [] X.env)).any (·.1) = false := by rfl) :
    DE X (.Call (.Name "sorted" p) [.Call (.Name "set" p2) [e] [] pos2] [] pos) (wCB fSortSet we) :=
  wkE (pe_callB (cr_sortedSetS hc) hg hm PyProof.Rows.boot_sorted (pa_cons (pe_callTy (cr_setOfS hc) hg2 hm2 PyProof.Rows.boot_set ha (he := he) (hpl := hpl)) pa_nil he2) (he := he2) (hpl := hpl2)) fun σ H Q ⟨F, m, env, Qd, xc, r0, en, a, q, k⟩ =>
  tWA.sub r0 en a q fun vs H1 F1 m1 ds s1 r1 en1 dn1 q1 => by
    match ds, q1 with
    | [d], ⟨xs, ss, e1, e2, hb, q⟩ =>
      obtain ⟨v, rfl, dv⟩ := dens1 dn1
      obtain ⟨b, us, rfl, hs, h2⟩ := r1.lstOf dv e1
      rw [strs_den h2 e2] at hs
      refine ⟨b, ss, rfl, .inl hs, hb, fun c L hcn hL => ⟨c, L, rfl, upd_same, fun ys p pm nd hso hp => ?_⟩⟩
      obtain ⟨r2, s2⟩ := r1.frozen (o := SetSO X.prog X.w c L) hcn
      obtain ⟨r3, s3⟩ := r2.frozen (o := .lst (ys.map V.str)) hp
      refine k _ _ _ m1 _ (s1.trans (s2.trans s3)) r3 ?_ (q ys hso nd fun x => (pm.mem_iff).trans (hL x))
      simp only [Den]
      exact ⟨p, _, rfl, .inl upd_same, dens_strs ys⟩
@[simp ↓] theorem fSortSet_ {d : D} {m : Mem} {Q : Po} : fSortSet [d] m Q = Is (lstOf m d) (fun xs => Is (strsD xs) (fun ss => ss.length + 1 < scanBound ∧ ∀ ys : List Str, sortedS ys = true → ys.Nodup → (∀ x, x ∈ ys ↔ x ∈ ss) → Q (.lst (ys.map D.str)) m) .mk) .mk := by simp [fSortSet, Is]
/-! ### zip -/
def zipD (xs ys : List D) : List D := (xs.zip ys).map fun p => .tup [p.1, p.2]
theorem zipD_length (xs ys : List D) : (zipD xs ys).length = min xs.length ys.length := by simp [zipD]
theorem zipD_get {xs ys : List D} {i : Nat} {x y : D} (h : xs[i]? = some x) (h2 : ys[i]? = some y) : (zipD xs ys)[i]? = some (.tup [x, y]) := by
  unfold zipD
  have e : (xs.zip ys)[i]? = some (x, y) := List.getElem?_zip_eq_some.mpr ⟨h, h2⟩
  rw [List.getElem?_map, e]
  rfl
theorem yields_zipT {K : Frag} {F : Hp} {a b : Addr} {xs ys : List D} {us vs : List V} (h1 : SqT K F a us) (d1 : Dens K F xs us) (h2 : SqT K F b vs) (d2 : Dens K F ys vs) : Yields K F (RZ.ItzT K a b) (zipD xs ys) (fun _ => True) := by
  intro F' m H i s r _
  have q1 := r.sqT (s.sqT h1)
  have q2 := r.sqT (s.sqT h2)
  have z1 := d1.mono s
  have z2 := d2.mono s
  have l1 := z1.length
  have l2 := z2.length
  rw [zipD_length]
  refine ⟨fun hi => ?_, fun hi => ⟨us, vs, q1, q2, by omega⟩⟩
  have hx : i < xs.length := by omega
  have hy : i < ys.length := by omega
  obtain ⟨u, e1, du⟩ := z1.get (List.getElem?_eq_getElem hx)
  obtain ⟨v, e2, dv⟩ := z2.get (List.getElem?_eq_getElem hy)
  refine ⟨⟨us, vs, u, v, q1, q2, e1, e2⟩, fun x H' ⟨T, y, z, ex, hT, eH, hy1, hy2⟩ => ?_⟩
  have g1 := hy1 us q1
  rw [e1] at g1
  cases g1
  have g2 := hy2 vs q2
  rw [e2] at g2
  cases g2
  subst ex eH
  obtain ⟨r', s'⟩ := r.frozen (o := .tup [u, v]) hT
  exact ⟨_, _, s', r', zipD_get (List.getElem?_eq_getElem hx) (List.getElem?_eq_getElem hy), den_pair upd_same (du.mono s') (dv.mono s')⟩
def wiZip (we : WA) : WI := fun env m Q E => we env m (fun l m1 => ∃ xs ys, l = [.tup xs, .tup ys] ∧ Q (zipD xs ys) (fun _ => True) m1) E
theorem dirzip {elts : List Expr} {kk : Nat} {tpos p pos : Pos} {e e2 : Expr} {we : WA} (hg : Gl X "zip") (hm : X.mg "zip" = none) (ha : DA X [e, e2] we)
    (hs : starEach [e, e2] X.env = (false, eval e X.env) :: starEach [e2] X.env := by rfl) (hpl : (backTo pos (starEach [e2] X.env)).any (·.1) = false := by rfl) :
    DI X (.Tuple elts kk tpos) (.Call (.Name "zip" p) [e, e2] [] pos) (wiZip we) :=
  wkI (RZ.pi_zipA hg hm ha hs hpl) fun σ H R ⟨F, m, env, Qd, xc, r, en, a, q, k⟩ => tWA.sub r en a q fun vs H1 F1 m1 l s1 r1 en1 dn1 ⟨xs, ys, e0, q1⟩ => by
    subst e0
    obtain ⟨u, v, rfl, du, dv⟩ := dens2 dn1
    simp only [Den] at du dv
    obtain ⟨b, us, rfl, hb, db⟩ := du
    obtain ⟨c, ws, rfl, hc, dc⟩ := dv
    exact ⟨b, c, us, ws, rfl, .inr ⟨r1.sqT hb, r1.sqT hc, k _ H1 F1 m1 _ _ s1 r1 (yields_zipT hb db hc dc) trivial q1⟩⟩
def ZpK (g : WG) (wb : WS) (Z : De) (env : En) (l : List D) (m1 : Mem) : Prop := ∃ xs ys, l = [.tup xs, .tup ys] ∧ ForB g wb Z env m1 (zipD xs ys) (fun _ => True)
@[simp ↓] theorem ev_forZ {wa : WA} {g : WG} {wb : WS} {Z : De} {env : En} {m : Mem} : sFor (wiZip wa) g wb Z env m = wa env m (ZpK g wb Z env) (fun x m1 => Z.xc x env m1) := rfl
end
end DL

/-! K09S: what the defs of k09 promise. -/
namespace K09
open PySem PySem.Spec L2 DL
abbrev sb_merge := K03.sb_merge
abbrev sp_merge_n := K03.sp_merge_n
abbrev sp_merge_0 := K03.sp_merge_0
abbrev sp_said := K03.sp_said
def letters : Nm := [⟨"f", by decide +kernel⟩, ⟨"b", by decide +kernel⟩, ⟨"e", by decide +kernel⟩, ⟨"a", by decide +kernel⟩, ⟨"d", by decide +kernel⟩, ⟨"c", by decide +kernel⟩]
/-- few short rows of the six names -/
structure Few (k : Nat) (rows : List Nm) : Prop where
  n : rows.length ≤ k
  r : ∀ r ∈ rows, r.length ≤ 6
  l : ∀ r ∈ rows, ∀ x ∈ r, x ∈ letters
/-- y stands behind x in some row, directly -/
def Nx (rows : List Nm) (x y : Nme) : Prop := ∃ r ∈ rows, ∃ i, r[i]? = some x ∧ r[i + 1]? = some y
inductive Far (rows : List Nm) : Nme → Nme → Prop
  | one {x y} : Nx rows x y → Far rows x y
  | more {x y z} : Far rows x y → Nx rows y z → Far rows x z
def nS (f : Nm) : List D := f.map fun x => D.str x.s
def sp_row : SpD := fun ds m Q _ => ∃ n k : Int, ds = [.int n, .int k] ∧ 0 ≤ n ∧ n ≤ 306783378 ∧ 0 ≤ k ∧ k ≤ 6 ∧ ∀ ns : Nm, (∀ x ∈ ns, x ∈ letters) → ns.length ≤ 6 → Q (dT ns) m
def sp_behind : SpD := fun ds m Q _ => ∃ (q : Addr) (x : Nme) (rows : List Nm), ds = [.ref q, .str x.s] ∧ lstOf m (.ref q) = some (rows.map dT) ∧ Few 4 rows ∧ ∀ f : Nm, f.Nodup → (∀ y, y ∈ f ↔ Nx rows x y) → Q (.lst (nS f)) m
def sp_all : SpD := fun ds m Q _ => ∃ (q : Addr) (rows : List Nm), ds = [.ref q] ∧ lstOf m (.ref q) = some (rows.map dT) ∧ Few 4 rows ∧
  ∀ f : Nm, f.Nodup → PyProof.Rows.sortedS (f.map fun x => x.s) = true → (∀ y, y ∈ f ↔ ∃ r ∈ rows, y ∈ r) → Q (.lst (nS f)) m
def sp_ring : SpD := fun ds m Q _ => ∃ (q : Addr) (rows : List Nm), ds = [.ref q] ∧ lstOf m (.ref q) = some (rows.map dT) ∧ Few 4 rows ∧ ∀ b : Bool, (b = true ↔ ∃ x, Far rows x x) → Q (.bl b) m
def sp_merged (tb : Addr) : SpD := fun ds m Q _ => ∃ (d : D) (rows : List Nm), ds = [d] ∧ m tb = some (.tab (lamQ "_law_merged")) ∧ lstOf m d = some (rows.map dT) ∧ Few 5 rows ∧ Q (K03.saidD rows .non) m
def sp_part : SpD := fun ds m Q _ => ∃ row whole : Nm, ds = [dT row, dT whole] ∧ row.length ≤ 6 ∧ whole.length ≤ 6 ∧ Q (.bl (decide (whole.filter (fun x => decide (x ∈ row)) = row))) m
def sp_law (tb : Addr) : SpD := fun ds m Q _ => ∃ ns : List Int, ds = [.klst (ns.map .int)] ∧ ns.length ≤ 63 ∧ m tb = some (.tab (lamQ "_law_merged")) ∧ ∀ m', Q (.bl true) m'
end K09

/-! K09R: readings (printed by gen.py). -/
namespace K09
open PySem PySem.Spec L2 DL
/-- merge: 0 name, 1 sequences, 2 rows, 3 found, 4 heads, 5 free, 6 sequence, 7 head, 8 row -/
def rd_merge : WS := (sSeq (sAsg (wTup (wCons (wLcP (wiSeq (wVar 1)) (gN 6) (wTruB (wBin gtD (wCB fLen (wCons (wVar 6) wNil)) (wC (.int 0)))) (wCB fList (wCons (wVar 6) wNil)) [6]) (wCons (wLstM wNil) wNil))) (gTup 2 (gsCons (gN 2) (gsCons (gN 3) gsNil)))) (sSeq (sWhile (wTruB (wBin neD (wVar 2) (wLst wNil))) (sSeq (sAsg (wCall sp_heads_of 0 (wCons (wVar 2) wNil) wNil) (gN 4)) (sSeq (sAsg (wLcP (wiSeq (wVar 4)) (gN 7) (wNotT (wTru (wCB fAny (wCons (wLcP (wiSeq (wVar 2)) (gN 8) wYes (wBin inD (wVar 7) (wSl (wVar 8) (wPso (wC (.int 1))) wPno)) [8]) wNil)))) (wVar 7) [7]) (gN 5)) (sSeq (sIf (wTruB (wBin eqD (wVar 5) (wLst wNil))) (sRaise "OrderConflict" ["name", "heads"] (wCons (wVar 0) (wCons (wCB fTuple (wCons (wVar 4) wNil)) wNil))) sNil) (sSeq (sDrop (wAppend (wVar 3) (wBin ixD (wVar 5) (wC (.int 0))))) (sSeq (sAsg (wLcP (wiSeq (wVar 2)) (gN 8) wYes (wIte (wTruB (wBin eqD (wBin ixD (wVar 8) (wC (.int 0))) (wBin ixD (wVar 5) (wC (.int 0))))) (wSl (wVar 8) (wPso (wC (.int 1))) wPno) (wVar 8)) [8]) (gN 2)) (sAsg (wLcP (wiSeq (wVar 2)) (gN 8) (wTruB (wBin neD (wVar 8) (wLst wNil))) (wVar 8) [8]) (gN 2)))))))) (sRet (wCB fTuple (wCons (wVar 3) wNil)))))
/-- _law_said: 0 _law_deed, 1 _law_found, 2 e -/
def rd__law_said (W : WE) : WS := (sSeq (sTry (sAsg (wLst (wCons W wNil)) (gN 1)) [(hit ["OrderConflict"] [], (some 2), fun a c d => (sAsg (wTup (wCons (wC (.str "conflict")) (wCons (wXf a c d "OrderConflict" "name" (wVar 2)) (wCons (wXf a c d "OrderConflict" "heads" (wVar 2)) wNil)))) (gN 1))), (hit ["OrderConflict"] [], none, fun a c d => (sAsg (wTup (wCons (wC (.str "other")) (wCons (wC .non) (wCons (wTup wNil) wNil)))) (gN 1)))]) (sRet (wVar 1)))
/-- _law_row: 0 _law_n, 1 _law_most, 2 _law_row_here, 3 _law_k, 4 _law_name, 5 _law_at -/
def rd__law_row : WS := (sSeq (sAsg (wLstM wNil) (gN 2)) (sSeq (sFor (wiEnum (wCons (wLst (wCons (wC (.str "f")) (wCons (wC (.str "b")) (wCons (wC (.str "e")) (wCons (wC (.str "a")) (wCons (wC (.str "d")) (wCons (wC (.str "c")) wNil))))))) wNil)) (gTup 2 (gsCons (gN 3) (gsCons (gN 4) gsNil))) (sIf (wAndT (wTruB (wBin eqD (wBin modD (wBin fdivD (wVar 0) (wBin ixD (wLst (wCons (wC (.int 1)) (wCons (wC (.int 2)) (wCons (wC (.int 4)) (wCons (wC (.int 8)) (wCons (wC (.int 16)) (wCons (wC (.int 32)) wNil))))))) (wVar 3))) (wC (.int 2))) (wC (.int 1)))) (wTruB (wBin ltD (wCB fLen (wCons (wVar 2) wNil)) (wVar 1)))) (sDrop (wAppend (wVar 2) (wVar 4))) sNil)) (sSeq (sIf (wAndT (wTruB (wBin eqD (wBin modD (wBin fdivD (wVar 0) (wC (.int 64))) (wC (.int 5))) (wC (.int 0)))) (wTruB (wBin gtD (wCB fLen (wCons (wVar 2) wNil)) (wC (.int 1))))) (sSeq (sAsg (wBin modD (wBin fdivD (wVar 0) (wC (.int 320))) (wBin subD (wCB fLen (wCons (wVar 2) wNil)) (wC (.int 1)))) (gN 5)) (sAsg (wTup (wCons (wBin ixD (wVar 2) (wBin addD (wVar 5) (wC (.int 1)))) (wCons (wBin ixD (wVar 2) (wVar 5)) wNil))) (gTup 2 (gsCons (gSubL (wVar 2) (wVar 5)) (gsCons (gSubL (wVar 2) (wBin addD (wVar 5) (wC (.int 1)))) gsNil))))) sNil) (sRet (wCB fTuple (wCons (wVar 2) wNil))))))
/-- _law_behind: 0 _law_rows, 1 _law_name, 2 _law_found, 3 _law_row_here, 4 _law_one, 5 _law_next_one -/
def rd__law_behind : WS := (sSeq (sAsg (wLstM wNil) (gN 2)) (sSeq (sFor (wiSeq (wVar 0)) (gN 3) (sFor (wiZip (wCons (wVar 3) (wCons (wSl (wVar 3) (wPso (wC (.int 1))) wPno) wNil))) (gTup 2 (gsCons (gN 4) (gsCons (gN 5) gsNil))) (sIf (wAndT (wTruB (wBin eqD (wVar 4) (wVar 1))) (wTruB (wBin ninD (wVar 5) (wVar 2)))) (sDrop (wAppend (wVar 2) (wVar 5))) sNil))) (sRet (wFrz (wVar 2)))))
/-- _law_all: 0 _law_rows, 1 _law_row_here -/
def rd__law_all : WS := (sRet (wCB fSortSet (wCons (wCB fSumL (wCons (wLcP (wiSeq (wVar 0)) (gN 1) wYes (wCB fList (wCons (wVar 1) wNil)) [1]) (wCons (wLst wNil) wNil))) wNil)))
/-- _law_has_ring: 0 _law_rows, 1 _law_name, 2 _law_found, 3 _law_turn, 4 _law_one, 5 _law_more, 6 _law_far -/
def rd__law_has_ring : WS := (sSeq (sFor (wiSeq (wCall sp_all 0 (wCons (wVar 0) wNil) wNil)) (gN 1) (sSeq (sAsg (wCall sp_behind 0 (wCons (wVar 0) (wCons (wVar 1) wNil)) wNil) (gN 2)) (sSeq (sFor (wiRng1 (wCons (wC (.int 6)) wNil)) (gN 3) (sFor (wiSeq (wCB fList (wCons (wVar 2) wNil))) (gN 4) (sSeq (sAsg (wCall sp_behind 0 (wCons (wVar 0) (wCons (wVar 4) wNil)) wNil) (gN 5)) (sAsg (wBin addD (wVar 2) (wLcP (wiSeq (wVar 5)) (gN 6) (wTruB (wBin ninD (wVar 6) (wVar 2))) (wVar 6) [6])) (gN 2))))) (sIf (wTruB (wBin inD (wVar 1) (wVar 2))) (sRet (wC (.bl true))) sNil)))) (sRet (wC (.bl false))))
/-- _law_merged: 0 _law_rows, 1 _law_one, 2 _law_two, 3 _law_three, 4 _law_four, 5 _law_five -/
def rd__law_merged (tb__law_merged : Addr) : WS := (sSeq (sAsg (wBin addD (wVar 0) (wBin mulL (wLst (wCons (wTup wNil) wNil)) (wBin subD (wC (.int 5)) (wCB fLen (wCons (wVar 0) wNil))))) (gN 0)) (sSeq (sAsg (wVar 0) (gLs 5 (gsCons (gN 1) (gsCons (gN 2) (gsCons (gN 3) (gsCons (gN 4) (gsCons (gN 5) gsNil))))))) (sRet (wLam tb__law_merged (lamQ "_law_merged") sp_said (wCall sp_merge_0 0 (wCons (wVar 1) (wCons (wVar 2) (wCons (wVar 3) (wCons (wVar 4) (wCons (wVar 5) wNil))))) wNil)))))
/-- _law_is_part: 0 _law_row_here, 1 _law_whole, 2 _law_one -/
def rd__law_is_part : WS := (sRet (wBin eqD (wLcP (wiSeq (wVar 1)) (gN 2) (wTruB (wBin inD (wVar 2) (wVar 0))) (wVar 2) [2]) (wCB fList (wCons (wVar 0) wNil))))
/-- law: 0 _law_script, 1 _law_spot, 2 _law_turn, 3 _law_n, 4 _law_rows, 5 _law_k, 6 _law_told, 7 _law_heads, 8 _law_behind_here, 9 _law_whole, 10 _law_row_here, 11 _law_head -/
def rd_law (tb__law_merged : Addr) : WS := (sSeq (sAsg (wLstM (wCons (wC (.int 0)) wNil)) (gN 1)) (sSeq (sFor (wiRng1 (wCons (wBin addD (wC (.int 3)) (wCB fMin2 (wCons (wC (.int 16)) (wCons (wCB fLen (wCons (wVar 0) wNil)) wNil)))) wNil)) (gN 2) (sSeq (sPar2 3 4 (wCons (wCall sp_cell 0 (wCons (wVar 0) (wCons (wVar 1) wNil)) wNil) (wCons (wLstM wNil) wNil))) (sSeq (sFor (wiRng1 (wCons (wBin modD (wVar 3) (wC (.int 5))) wNil)) (gN 5) (sDrop (wAppend (wVar 4) (wCall sp_row 0 (wCons (wCall sp_cell 0 (wCons (wVar 0) (wCons (wVar 1) wNil)) wNil) (wCons (wBin addD (wC (.int 2)) (wBin modD (wBin fdivD (wVar 3) (wC (.int 5))) (wC (.int 5)))) wNil)) wNil)))) (sSeq (sAsg (wCall (sp_merged tb__law_merged) 0 (wCons (wVar 4) wNil) wNil) (gN 6)) (sSeq (sIf (wTruB (wBin eqD (wCB fIsi (wCons (wVar 6) (wCons (wC (.ty "list")) wNil))) (wCall sp_ring 0 (wCons (wVar 4) wNil) wNil))) (sRet (wC (.bl false))) sNil) (sSeq (sIf (wNotT (wTru (wCB fIsi (wCons (wVar 6) (wCons (wC (.ty "list")) wNil))))) (sSeq (sAsg (wBin ixD (wVar 6) (wC (.int 2))) (gN 7)) (sSeq (sAsg (wCB fSumL (wCons (wLcP (wiSeq (wVar 4)) (gN 10) wYes (wCB fList (wCons (wSl (wVar 10) (wPso (wC (.int 1))) wPno) wNil)) [10]) (wCons (wLst wNil) wNil))) (gN 8)) (sSeq (sIf (wOrT (wTruB (wBin neD (wBin ixD (wVar 6) (wC (.int 0))) (wC (.str "conflict")))) (wTruB (wBin eqD (wVar 7) (wTup wNil)))) (sRet (wC (.bl false))) sNil) (sSeq (sIf (wTruB (wBin neD (wLcP (wiSeq (wVar 7)) (gN 11) (wTruB (wBin ninD (wVar 11) (wVar 8))) (wVar 11) [11]) (wLst wNil))) (sRet (wC (.bl false))) sNil) sCnt)))) sNil) (sSeq (sAsg (wBin ixD (wVar 6) (wC (.int 0))) (gN 9)) (sSeq (sIf (wTruB (wBin neD (wCB fSortedS (wCons (wVar 9) wNil)) (wCall sp_all 0 (wCons (wVar 4) wNil) wNil))) (sRet (wC (.bl false))) sNil) (sSeq (sIf (wTruB (wBin neD (wLcP (wiSeq (wVar 4)) (gN 10) (wNotT (wTru (wCall sp_part 0 (wCons (wVar 10) (wCons (wVar 9) wNil)) wNil))) (wVar 10) [10]) (wLst wNil))) (sRet (wC (.bl false))) sNil) (sIf (wOrT (wTruB (wBin neD (wCall (sp_merged tb__law_merged) 0 (wCons (wBin addD (wVar 4) (wLst (wCons (wVar 9) wNil))) wNil) wNil) (wVar 6))) (wTruB (wBin neD (wCall (sp_merged tb__law_merged) 0 (wCons (wBin addD (wLst (wCons (wVar 9) wNil)) (wVar 4)) wNil) wNil) (wVar 6)))) (sRet (wC (.bl false))) sNil)))))))))) (sRet (wC (.bl true)))))
end K09

/-! K09D: derivations (printed by gen.py). -/
namespace K09
open PySem PySem.Spec L2 DL
structure Bi (mg : Str → Option Value) : Prop where
  g_any : mg "any" = none
  g_enumerate : mg "enumerate" = none
  g_isinstance : mg "isinstance" = none
  g_len : mg "len" = none
  g_list : mg "list" = none
  g_min : mg "min" = none
  g_range : mg "range" = none
  g_set : mg "set" = none
  g_sorted : mg "sorted" = none
  g_sum : mg "sum" = none
  g_tuple : mg "tuple" = none
  g_zip : mg "zip" = none
def top (i : Nat) : Stmt := PySem.Challenge.pw_classforge_k09_whole_merges_without_ring.main.body.getD i (.Pass ⟨0, 0, 0, 0⟩)
section
variable {P : Program} {w : World} {K : Frag} {mg : Str → Option Value} {base : Heap} {k : Nat}
abbrev st_heads_of : Stmt := top 4
abbrev ns_heads_of : List Str := ["rows", "found", "row"]
abbrev ps_heads_of : List Str := ["rows"]
theorem sc_heads_of : FnScope ns_heads_of ps_heads_of (defScope st_heads_of) := ⟨rfl, rfl, rfl, by decide +kernel, rfl, by decide +kernel, by decide +kernel⟩
theorem der_heads_of (B : Bi mg) : Der false P w K mg base (k + 2) ns_heads_of (defScope st_heads_of) (defBody st_heads_of) rd_heads_of := fun qual f cdv A outer s H E hr =>
  have S := sc_heads_of
  have hc : Rm false k _ := ⟨hr.room.mono (Nat.le_add_right k 2), nofun⟩
  (dscons (dset (i := 1) S.nd rfl (by first | exact Or.inl rfl | exact Or.inr rfl) (dlstM danil)) (dscons (dfor (passes_of rfl) rfl (diseq (dv 0)) (dgn S.nd (i := 2) rfl (by first | exact Or.inl rfl | exact Or.inr rfl)) (dsone (dif_ (dninqT (dix (dv 2) dint) (dv 1)) (dsone (dexpr (dappend (dv 1) (dix (dv 2) dint)))) dsnil))) (dsone (dret (dfrz (dv 1))))))
abbrev st_merge : Stmt := top 5
abbrev ns_merge : List Str := ["name", "sequences", "rows", "found", "heads", "free", "sequence", "head", "row"]
abbrev ps_merge : List Str := ["name", "sequences"]
theorem sc_merge : FnScope ns_merge ps_merge (defScope st_merge) := ⟨rfl, rfl, rfl, by decide +kernel, rfl, by decide +kernel, by decide +kernel⟩
theorem der_merge (B : Bi mg) (F_heads_of : Fn false P w K mg base k "heads_of" [] sp_heads_of) (E_OrderConflict : ErrOk P w K mg base 1 "OrderConflict" ["name", "heads"]) : Der false P w K mg base (k + 2) ns_merge (defScope st_merge) (defBody st_merge) rd_merge := fun qual f cdv A outer s H E hr =>
  have S := sc_merge
  have hc : Rm false k _ := ⟨hr.room.mono (Nat.le_add_right k 2), nofun⟩
  (dscons (dasg (dtup (dacons (dlcP (own := [("sequence", 6)]) rfl S.nd (diseq (dv 1)) (blkOk_by (by show blkC ns_merge (defScope st_merge) _ _ = true; decide +kernel)) (fun _ _ _ _ _ => (pg_name S.nd (i := 6) rfl (by first | exact Or.inl rfl | exact Or.inr rfl))) ct_name (fun _ _ _ _ _ => (dtsone (dgtT (dlen rfl B.g_len (dacons (dv 6) danil)) dint))) (fun _ _ _ _ _ => (dlist rfl B.g_list (dacons (dv 6) danil)))) (dacons (dlstM danil) danil))) (dgtup rfl (dgscons (dgn S.nd (i := 2) rfl (by first | exact Or.inl rfl | exact Or.inr rfl)) (dgscons (dgn S.nd (i := 3) rfl (by first | exact Or.inl rfl | exact Or.inr rfl)) dgsnil)))) (dscons (dwhile (passes_of rfl) (dneT hr.units (dv 2) (dlst danil)) (dscons (dset (i := 4) S.nd rfl (by first | exact Or.inl rfl | exact Or.inr rfl) (dcall F_heads_of hc rfl (dacons (dv 2) danil) dknil)) (dscons (dset (i := 5) S.nd rfl (by first | exact Or.inl rfl | exact Or.inr rfl) (dlcP (own := [("head", 7)]) rfl S.nd (diseq (dv 4)) (blkOk_by (by show blkC ns_merge (defScope st_merge) _ _ = true; decide +kernel)) (fun _ _ _ _ _ => (pg_name S.nd (i := 7) rfl (by first | exact Or.inl rfl | exact Or.inr rfl))) ct_name (fun _ _ _ _ _ => (dtsone (dnotT (dtru (dany rfl rfl B.g_any (dacons (dlcP (own := [("row", 8)]) rfl S.nd (diseq (dv 2)) (blkOk_by (by show blkC ns_merge (relS _ (defScope st_merge)) _ _ = true; decide +kernel)) (fun _ _ _ _ _ => (pg_name S.nd (i := 8) rfl (by first | exact Or.inl rfl | exact Or.inr rfl))) ct_name (fun _ _ _ _ _ => dtsnil) (fun _ _ _ _ _ => (dinq (dv 7) (dsl (dv 8) (dpso dint) dpno)))) danil)))))) (fun _ _ _ _ _ => (dv 7)))) (dscons (dif_ (deqT hr.units (dv 5) (dlst danil)) (dsone (draiseE E_OrderConflict (hr.room.mono (by omega)) rfl rfl (dacons (dv 0) (dacons (dtuple rfl B.g_tuple (dacons (dv 4) danil)) danil)))) dsnil) (dscons (dexpr (dappend (dv 3) (dix (dv 5) dint))) (dscons (dset (i := 2) S.nd rfl (by first | exact Or.inl rfl | exact Or.inr rfl) (dlcP (own := [("row", 8)]) rfl S.nd (diseq (dv 2)) (blkOk_by (by show blkC ns_merge (defScope st_merge) _ _ = true; decide +kernel)) (fun _ _ _ _ _ => (pg_name S.nd (i := 8) rfl (by first | exact Or.inl rfl | exact Or.inr rfl))) ct_name (fun _ _ _ _ _ => dtsnil) (fun _ _ _ _ _ => (dite (deqT hr.units (dix (dv 8) dint) (dix (dv 5) dint)) (dsl (dv 8) (dpso dint) dpno) (dv 8))))) (dsone (dset (i := 2) S.nd rfl (by first | exact Or.inl rfl | exact Or.inr rfl) (dlcP (own := [("row", 8)]) rfl S.nd (diseq (dv 2)) (blkOk_by (by show blkC ns_merge (defScope st_merge) _ _ = true; decide +kernel)) (fun _ _ _ _ _ => (pg_name S.nd (i := 8) rfl (by first | exact Or.inl rfl | exact Or.inr rfl))) ct_name (fun _ _ _ _ _ => (dtsone (dneT hr.units (dv 8) (dlst danil)))) (fun _ _ _ _ _ => (dv 8))))))))))) (dsone (dret (dtuple rfl B.g_tuple (dacons (dv 3) danil))))))
abbrev st__law_cell : Stmt := top 7
abbrev ns__law_cell : List Str := ["_law_cells", "_law_spot", "_law_k", "_law_base", "_law_at", "_law_turn", "_law_rest", "_law_j"]
abbrev ps__law_cell : List Str := ["_law_cells", "_law_spot"]
theorem sc__law_cell : FnScope ns__law_cell ps__law_cell (defScope st__law_cell) := ⟨rfl, rfl, rfl, by decide +kernel, rfl, by decide +kernel, by decide +kernel⟩
theorem der__law_cell (B : Bi mg) : Der false P w K mg base (k + 2) ns__law_cell (defScope st__law_cell) (defBody st__law_cell) rd__law_cell := fun qual f cdv A outer s H E hr =>
  have S := sc__law_cell
  have hc : Rm false k _ := ⟨hr.room.mono (Nat.le_add_right k 2), nofun⟩
  (dscons (dset (i := 2) S.nd rfl (by first | exact Or.inl rfl | exact Or.inr rfl) (dix (dv 1) dint)) (dscons (dasg (dadd (dv 2) dint) (dgsubl (dv 1) dint)) (dscons (dset (i := 3) S.nd rfl (by first | exact Or.inl rfl | exact Or.inr rfl) (dadd (dmul (dmul dint (dv 2)) (dv 2)) (dmul dint (dv 2)))) (dscons (dif_ (dgtT (dlen rfl B.g_len (dacons (dv 0) danil)) dint) (dscons (dpar2 (i := 4) (j := 5) rfl S.nd rfl rfl (by decide) rfl rfl (dacons (dmod (dv 2) (dlen rfl B.g_len (dacons (dv 0) danil))) (dacons (dfdiv (dv 2) (dlen rfl B.g_len (dacons (dv 0) danil))) danil)) (by rfl)) (dscons (dif_ (dbo (dand (dgeT (dix (dv 0) (dv 4)) (dpow dint dint)) (dand1 (dltT (dv 5) dint)))) (dscons (dset (i := 6) S.nd rfl (by first | exact Or.inl rfl | exact Or.inr rfl) (dix (dv 0) (dv 4))) (dscons (dfor (passes_of rfl) rfl (dirng1 rfl B.g_range (dacons (dv 5) danil)) (dgn S.nd (i := 7) rfl (by first | exact Or.inl rfl | exact Or.inr rfl)) (dsone (dset (i := 6) S.nd rfl (by first | exact Or.inl rfl | exact Or.inr rfl) (dfdiv (dv 6) dint)))) (dsone (dif_ (dgtT (dv 6) dint) (dsone (dret (dmod (dv 6) dint))) dsnil)))) dsnil) (dsone (dset (i := 3) S.nd rfl (by first | exact Or.inl rfl | exact Or.inr rfl) (dadd (dv 3) (dmul (dmod (dix (dv 0) (dv 4)) dint) (dadd dint (dv 5)))))))) dsnil) (dsone (dret (dfdiv (dmod (dpow (dmod (dv 3) dint) dint) dint) dint)))))))
abbrev st__law_said : Stmt := top 8
abbrev ns__law_said : List Str := ["_law_deed", "_law_found", "e"]
abbrev ps__law_said : List Str := ["_law_deed"]
theorem sc__law_said : FnScope ns__law_said ps__law_said (defScope st__law_said) := ⟨rfl, rfl, rfl, by decide +kernel, rfl, by decide +kernel, by decide +kernel⟩
theorem der__law_said (B : Bi mg) (X_OrderConflict : XfC K (ga K "OrderConflict") ∧ ∀ f ∈ (["name", "heads"] : List Str), PySem.W.findIn K (.ref (ga K "OrderConflict")) f = some none) (C_OrderConflict : Clause K mg "OrderConflict" ["OrderConflict"] []) (C_ForgeError : Clause K mg "ForgeError" ["OrderConflict"] []) : DerL P w K mg base (k + 2) ns__law_said "_law_deed" (defScope st__law_said) (defBody st__law_said) rd__law_said := fun qual f cdv A outer s H E W hr act =>
  have S := sc__law_said
  have hc : Rm false k _ := ⟨hr.room.mono (Nat.le_add_right k 2), nofun⟩
  (dscons (dtry rfl rfl (fun pn xe hp => (dsone (dset (i := 1) S.nd rfl (by first | exact Or.inl rfl | exact Or.inr rfl) (dlst (dacons (act _ _ _ _) danil))))) (.cons (C_OrderConflict.names rfl) (.as S.nd rfl rfl) C_OrderConflict.hit (fun a oe c d pn hz hf => (dsone (dset (i := 1) S.nd rfl (by first | exact Or.inl rfl | exact Or.inr rfl) (dtup (dacons dstr (dacons (dxf X_OrderConflict.1 (X_OrderConflict.2 "name" (by decide)) hz hf (dv 2)) (dacons (dxf X_OrderConflict.1 (X_OrderConflict.2 "heads" (by decide)) hz hf (dv 2)) danil))))))) (.cons (C_ForgeError.names rfl) .none C_ForgeError.hit (fun a oe c d pn hz hf => (dsone (dset (i := 1) S.nd rfl (by first | exact Or.inl rfl | exact Or.inr rfl) (dtup (dacons dstr (dacons dnon (dacons (dtup danil) danil))))))) .nil))) (dsone (dret (dv 1))))
abbrev st__law_row : Stmt := top 9
abbrev ns__law_row : List Str := ["_law_n", "_law_most", "_law_row_here", "_law_k", "_law_name", "_law_at"]
abbrev ps__law_row : List Str := ["_law_n", "_law_most"]
theorem sc__law_row : FnScope ns__law_row ps__law_row (defScope st__law_row) := ⟨rfl, rfl, rfl, by decide +kernel, rfl, by decide +kernel, by decide +kernel⟩
theorem der__law_row (B : Bi mg) : Der false P w K mg base (k + 2) ns__law_row (defScope st__law_row) (defBody st__law_row) rd__law_row := fun qual f cdv A outer s H E hr =>
  have S := sc__law_row
  have hc : Rm false k _ := ⟨hr.room.mono (Nat.le_add_right k 2), nofun⟩
  (dscons (dset (i := 2) S.nd rfl (by first | exact Or.inl rfl | exact Or.inr rfl) (dlstM danil)) (dscons (dfor (passes_of rfl) rfl (direnum rfl B.g_enumerate (dacons (dlst (dacons dstr (dacons dstr (dacons dstr (dacons dstr (dacons dstr (dacons dstr danil))))))) danil)) (dgtup rfl (dgscons (dgn S.nd (i := 3) rfl (by first | exact Or.inl rfl | exact Or.inr rfl)) (dgscons (dgn S.nd (i := 4) rfl (by first | exact Or.inl rfl | exact Or.inr rfl)) dgsnil))) (dsone (dif_ (dbo (dand (deqT hr.units (dmod (dfdiv (dv 0) (dix (dlst (dacons dint (dacons dint (dacons dint (dacons dint (dacons dint (dacons dint danil))))))) (dv 3))) dint) dint) (dand1 (dltT (dlen rfl B.g_len (dacons (dv 2) danil)) (dv 1))))) (dsone (dexpr (dappend (dv 2) (dv 4)))) dsnil))) (dscons (dif_ (dbo (dand (deqT hr.units (dmod (dfdiv (dv 0) dint) dint) dint) (dand1 (dgtT (dlen rfl B.g_len (dacons (dv 2) danil)) dint)))) (dscons (dset (i := 5) S.nd rfl (by first | exact Or.inl rfl | exact Or.inr rfl) (dmod (dfdiv (dv 0) dint) (dsub (dlen rfl B.g_len (dacons (dv 2) danil)) dint))) (dsone (dasg (dtup (dacons (dix (dv 2) (dadd (dv 5) dint)) (dacons (dix (dv 2) (dv 5)) danil))) (dgtup rfl (dgscons (dgsubl (dv 2) (dv 5)) (dgscons (dgsubl (dv 2) (dadd (dv 5) dint)) dgsnil)))))) dsnil) (dsone (dret (dtuple rfl B.g_tuple (dacons (dv 2) danil)))))))
abbrev st__law_behind : Stmt := top 10
abbrev ns__law_behind : List Str := ["_law_rows", "_law_name", "_law_found", "_law_row_here", "_law_one", "_law_next_one"]
abbrev ps__law_behind : List Str := ["_law_rows", "_law_name"]
theorem sc__law_behind : FnScope ns__law_behind ps__law_behind (defScope st__law_behind) := ⟨rfl, rfl, rfl, by decide +kernel, rfl, by decide +kernel, by decide +kernel⟩
theorem der__law_behind (B : Bi mg) : Der false P w K mg base (k + 2) ns__law_behind (defScope st__law_behind) (defBody st__law_behind) rd__law_behind := fun qual f cdv A outer s H E hr =>
  have S := sc__law_behind
  have hc : Rm false k _ := ⟨hr.room.mono (Nat.le_add_right k 2), nofun⟩
  (dscons (dset (i := 2) S.nd rfl (by first | exact Or.inl rfl | exact Or.inr rfl) (dlstM danil)) (dscons (dfor (passes_of rfl) rfl (diseq (dv 0)) (dgn S.nd (i := 3) rfl (by first | exact Or.inl rfl | exact Or.inr rfl)) (dsone (dfor (passes_of rfl) rfl (dirzip rfl B.g_zip (dacons (dv 3) (dacons (dsl (dv 3) (dpso dint) dpno) danil))) (dgtup rfl (dgscons (dgn S.nd (i := 4) rfl (by first | exact Or.inl rfl | exact Or.inr rfl)) (dgscons (dgn S.nd (i := 5) rfl (by first | exact Or.inl rfl | exact Or.inr rfl)) dgsnil))) (dsone (dif_ (dbo (dand (deqT hr.units (dv 4) (dv 1)) (dand1 (dninqT (dv 5) (dv 2))))) (dsone (dexpr (dappend (dv 2) (dv 5)))) dsnil))))) (dsone (dret (dfrz (dv 2))))))
abbrev st__law_all : Stmt := top 11
abbrev ns__law_all : List Str := ["_law_rows", "_law_row_here"]
abbrev ps__law_all : List Str := ["_law_rows"]
theorem sc__law_all : FnScope ns__law_all ps__law_all (defScope st__law_all) := ⟨rfl, rfl, rfl, by decide +kernel, rfl, by decide +kernel, by decide +kernel⟩
theorem der__law_all (B : Bi mg) : Der false P w K mg base (k + 2) ns__law_all (defScope st__law_all) (defBody st__law_all) rd__law_all := fun qual f cdv A outer s H E hr =>
  have S := sc__law_all
  have hc : Rm false k _ := ⟨hr.room.mono (Nat.le_add_right k 2), nofun⟩
  (dsone (dret (dsortset rfl rfl B.g_sorted rfl B.g_set (dacons (dsumL rfl rfl B.g_sum (dacons (dlcP (own := [("_law_row_here", 1)]) rfl S.nd (diseq (dv 0)) (blkOk_by (by show blkC ns__law_all (defScope st__law_all) _ _ = true; decide +kernel)) (fun _ _ _ _ _ => (pg_name S.nd (i := 1) rfl (by first | exact Or.inl rfl | exact Or.inr rfl))) ct_name (fun _ _ _ _ _ => dtsnil) (fun _ _ _ _ _ => (dlist rfl B.g_list (dacons (dv 1) danil)))) (dacons (dlst danil) danil))) danil))))
abbrev st__law_has_ring : Stmt := top 12
abbrev ns__law_has_ring : List Str := ["_law_rows", "_law_name", "_law_found", "_law_turn", "_law_one", "_law_more", "_law_far"]
abbrev ps__law_has_ring : List Str := ["_law_rows"]
theorem sc__law_has_ring : FnScope ns__law_has_ring ps__law_has_ring (defScope st__law_has_ring) := ⟨rfl, rfl, rfl, by decide +kernel, rfl, by decide +kernel, by decide +kernel⟩
theorem der__law_has_ring (B : Bi mg) (F__law_all : Fn false P w K mg base k "_law_all" [] sp_all) (F__law_behind : Fn false P w K mg base k "_law_behind" [] sp_behind) : Der false P w K mg base (k + 2) ns__law_has_ring (defScope st__law_has_ring) (defBody st__law_has_ring) rd__law_has_ring := fun qual f cdv A outer s H E hr =>
  have S := sc__law_has_ring
  have hc : Rm false k _ := ⟨hr.room.mono (Nat.le_add_right k 2), nofun⟩
  (dscons (dfor (passes_of rfl) rfl (diseq (dcall F__law_all hc rfl (dacons (dv 0) danil) dknil)) (dgn S.nd (i := 1) rfl (by first | exact Or.inl rfl | exact Or.inr rfl)) (dscons (dset (i := 2) S.nd rfl (by first | exact Or.inl rfl | exact Or.inr rfl) (dcall F__law_behind hc rfl (dacons (dv 0) (dacons (dv 1) danil)) dknil)) (dscons (dfor (passes_of rfl) rfl (dirng1 rfl B.g_range (dacons dint danil)) (dgn S.nd (i := 3) rfl (by first | exact Or.inl rfl | exact Or.inr rfl)) (dsone (dfor (passes_of rfl) rfl (diseq (dlist rfl B.g_list (dacons (dv 2) danil))) (dgn S.nd (i := 4) rfl (by first | exact Or.inl rfl | exact Or.inr rfl)) (dscons (dset (i := 5) S.nd rfl (by first | exact Or.inl rfl | exact Or.inr rfl) (dcall F__law_behind hc rfl (dacons (dv 0) (dacons (dv 4) danil)) dknil)) (dsone (dset (i := 2) S.nd rfl (by first | exact Or.inl rfl | exact Or.inr rfl) (dadd (dv 2) (dlcP (own := [("_law_far", 6)]) rfl S.nd (diseq (dv 5)) (blkOk_by (by show blkC ns__law_has_ring (defScope st__law_has_ring) _ _ = true; decide +kernel)) (fun _ _ _ _ _ => (pg_name S.nd (i := 6) rfl (by first | exact Or.inl rfl | exact Or.inr rfl))) ct_name (fun _ _ _ _ _ => (dtsone (dninqT (dv 6) (dv 2)))) (fun _ _ _ _ _ => (dv 6)))))))))) (dsone (dif_ (dinqT (dv 1) (dv 2)) (dsone (dret dbl)) dsnil))))) (dsone (dret dbl)))
abbrev st__law_merged : Stmt := top 13
abbrev ns__law_merged : List Str := ["_law_rows", "_law_one", "_law_two", "_law_three", "_law_four", "_law_five"]
abbrev ps__law_merged : List Str := ["_law_rows"]
theorem sc__law_merged : FnScope ns__law_merged ps__law_merged (defScope st__law_merged) := ⟨rfl, rfl, rfl, by decide +kernel, rfl, by decide +kernel, by decide +kernel⟩
theorem der__law_merged {tb__law_merged : Addr} (B : Bi mg) (F_merge : Fn false P w K mg base k "merge" [] sp_merge_0) (L__law_said : LFn P w K mg base k "_law_said" sp_said) {c : Addr} (TB : LamX.TabB base mg c tb__law_merged) : DerX false P w K mg base (k + 2) ns__law_merged "_law_merged" c (defScope st__law_merged) (defBody st__law_merged) (rd__law_merged tb__law_merged) := fun f A outer s H E hr =>
  have S := sc__law_merged
  have hc : Rm false k _ := ⟨hr.room.mono (Nat.le_add_right k 2), nofun⟩
  (dscons (dset (i := 0) S.nd rfl (by first | exact Or.inl rfl | exact Or.inr rfl) (dadd (dv 0) (dmulL (dlst (dacons (dtup danil) danil)) (dsub dint (dlen rfl B.g_len (dacons (dv 0) danil)))))) (dscons (dasg (dv 0) (dgls rfl (dgscons (dgn S.nd (i := 1) rfl (by first | exact Or.inl rfl | exact Or.inr rfl)) (dgscons (dgn S.nd (i := 2) rfl (by first | exact Or.inl rfl | exact Or.inr rfl)) (dgscons (dgn S.nd (i := 3) rfl (by first | exact Or.inl rfl | exact Or.inr rfl)) (dgscons (dgn S.nd (i := 4) rfl (by first | exact Or.inl rfl | exact Or.inr rfl)) (dgscons (dgn S.nd (i := 5) rfl (by first | exact Or.inl rfl | exact Or.inr rfl)) dgsnil))))))) (dsone (dret (dlam L__law_said rfl TB rfl hr (LamX.lamS_by (by show LamX.lamSB (defScope st__law_merged) _ = true; decide +kernel)) rfl (fun _ _ _ _ _ => rfl) (fun _ _ _ _ _ _ _ hr2 => have hL : Rm false k _ := ⟨hr2, nofun⟩; (dcall F_merge hL rfl (dacons (dv 1) (dacons (dv 2) (dacons (dv 3) (dacons (dv 4) (dacons (dv 5) danil))))) dknil)))))))
abbrev st__law_is_part : Stmt := top 14
abbrev ns__law_is_part : List Str := ["_law_row_here", "_law_whole", "_law_one"]
abbrev ps__law_is_part : List Str := ["_law_row_here", "_law_whole"]
theorem sc__law_is_part : FnScope ns__law_is_part ps__law_is_part (defScope st__law_is_part) := ⟨rfl, rfl, rfl, by decide +kernel, rfl, by decide +kernel, by decide +kernel⟩
theorem der__law_is_part (B : Bi mg) : Der false P w K mg base (k + 2) ns__law_is_part (defScope st__law_is_part) (defBody st__law_is_part) rd__law_is_part := fun qual f cdv A outer s H E hr =>
  have S := sc__law_is_part
  have hc : Rm false k _ := ⟨hr.room.mono (Nat.le_add_right k 2), nofun⟩
  (dsone (dret (deq hr.units (dlcP (own := [("_law_one", 2)]) rfl S.nd (diseq (dv 1)) (blkOk_by (by show blkC ns__law_is_part (defScope st__law_is_part) _ _ = true; decide +kernel)) (fun _ _ _ _ _ => (pg_name S.nd (i := 2) rfl (by first | exact Or.inl rfl | exact Or.inr rfl))) ct_name (fun _ _ _ _ _ => (dtsone (dinqT (dv 2) (dv 0)))) (fun _ _ _ _ _ => (dv 2))) (dlist rfl B.g_list (dacons (dv 0) danil)))))
abbrev st_law : Stmt := top 15
abbrev ns_law : List Str := ["_law_script", "_law_spot", "_law_turn", "_law_n", "_law_rows", "_law_k", "_law_told", "_law_heads", "_law_behind_here", "_law_whole", "_law_row_here", "_law_head"]
abbrev ps_law : List Str := ["_law_script"]
theorem sc_law : FnScope ns_law ps_law (defScope st_law) := ⟨rfl, rfl, rfl, by decide +kernel, rfl, by decide +kernel, by decide +kernel⟩
theorem der_law {tb__law_merged : Addr} (B : Bi mg) (F__law_cell : Fn false P w K mg base k "_law_cell" [] sp_cell) (F__law_row : Fn false P w K mg base k "_law_row" [] sp_row) (F__law_merged : Fn false P w K mg base k "_law_merged" [] (sp_merged tb__law_merged)) (F__law_has_ring : Fn false P w K mg base k "_law_has_ring" [] sp_ring) (F__law_all : Fn false P w K mg base k "_law_all" [] sp_all) (F__law_is_part : Fn false P w K mg base k "_law_is_part" [] sp_part) : Der true P w K mg base (k + 2) ns_law (defScope st_law) (defBody st_law) (rd_law tb__law_merged) := fun qual f cdv A outer s H E hr =>
  have S := sc_law
  have hc : Rm false k _ := ⟨hr.room.mono (Nat.le_add_right k 2), nofun⟩
  have hg : Rm true k _ := hr.mono (Nat.le_add_right k 2)
  (dscons (dset (i := 1) S.nd rfl (by first | exact Or.inl rfl | exact Or.inr rfl) (dlstM (dacons dint danil))) (dscons (dfor (passes_of rfl) rfl (dirng1 rfl B.g_range (dacons (dadd dint (dmin2 rfl rfl B.g_min (dacons dint (dacons (dlen rfl B.g_len (dacons (dv 0) danil)) danil)))) danil)) (dgn S.nd (i := 2) rfl (by first | exact Or.inl rfl | exact Or.inr rfl)) (dscons (dpar2 (i := 3) (j := 4) rfl S.nd rfl rfl (by decide) rfl rfl (dacons (dcall F__law_cell hc rfl (dacons (dv 0) (dacons (dv 1) danil)) dknil) (dacons (dlstM danil) danil)) (by rfl)) (dscons (dfor (passes_of rfl) rfl (dirng1 rfl B.g_range (dacons (dmod (dv 3) dint) danil)) (dgn S.nd (i := 5) rfl (by first | exact Or.inl rfl | exact Or.inr rfl)) (dsone (dexpr (dappend (dv 4) (dcall F__law_row hc rfl (dacons (dcall F__law_cell hc rfl (dacons (dv 0) (dacons (dv 1) danil)) dknil) (dacons (dadd dint (dmod (dfdiv (dv 3) dint) dint)) danil)) dknil))))) (dscons (dset (i := 6) S.nd rfl (by first | exact Or.inl rfl | exact Or.inr rfl) (dcall F__law_merged hc rfl (dacons (dv 4) danil) dknil)) (dscons (dif_ (deqT hr.units (disi rfl B.g_isinstance (dacons (dv 6) (dacons (dty rfl B.g_list (by decide +kernel)) danil))) (dcall F__law_has_ring hc rfl (dacons (dv 4) danil) dknil)) (dsone (dret dbl)) dsnil) (dscons (dif_ (dnotT (dtru (disi rfl B.g_isinstance (dacons (dv 6) (dacons (dty rfl B.g_list (by decide +kernel)) danil))))) (dscons (dset (i := 7) S.nd rfl (by first | exact Or.inl rfl | exact Or.inr rfl) (dix (dv 6) dint)) (dscons (dset (i := 8) S.nd rfl (by first | exact Or.inl rfl | exact Or.inr rfl) (dsumL rfl rfl B.g_sum (dacons (dlcP (own := [("_law_row_here", 10)]) rfl S.nd (diseq (dv 4)) (blkOk_by (by show blkC ns_law (defScope st_law) _ _ = true; decide +kernel)) (fun _ _ _ _ _ => (pg_name S.nd (i := 10) rfl (by first | exact Or.inl rfl | exact Or.inr rfl))) ct_name (fun _ _ _ _ _ => dtsnil) (fun _ _ _ _ _ => (dlist rfl B.g_list (dacons (dsl (dv 10) (dpso dint) dpno) danil)))) (dacons (dlst danil) danil)))) (dscons (dif_ (dbo (dor (dneT hr.units (dix (dv 6) dint) dstr) (dor1 (deqT hr.units (dv 7) (dtup danil))))) (dsone (dret dbl)) dsnil) (dscons (dif_ (dneT hr.units (dlcP (own := [("_law_head", 11)]) rfl S.nd (diseq (dv 7)) (blkOk_by (by show blkC ns_law (defScope st_law) _ _ = true; decide +kernel)) (fun _ _ _ _ _ => (pg_name S.nd (i := 11) rfl (by first | exact Or.inl rfl | exact Or.inr rfl))) ct_name (fun _ _ _ _ _ => (dtsone (dninqT (dv 11) (dv 8)))) (fun _ _ _ _ _ => (dv 11))) (dlst danil)) (dsone (dret dbl)) dsnil) (dsone dcnt))))) dsnil) (dscons (dset (i := 9) S.nd rfl (by first | exact Or.inl rfl | exact Or.inr rfl) (dix (dv 6) dint)) (dscons (dif_ (dneT hr.units (dsortedS rfl B.g_sorted (dacons (dv 9) danil)) (dcall F__law_all hc rfl (dacons (dv 4) danil) dknil)) (dsone (dret dbl)) dsnil) (dscons (dif_ (dneT hr.units (dlcP (own := [("_law_row_here", 10)]) rfl S.nd (diseq (dv 4)) (blkOk_by (by show blkC ns_law (defScope st_law) _ _ = true; decide +kernel)) (fun _ _ _ _ _ => (pg_name S.nd (i := 10) rfl (by first | exact Or.inl rfl | exact Or.inr rfl))) ct_name (fun _ _ _ _ _ => (dtsone (dnotT (dtru (dcall F__law_is_part hc rfl (dacons (dv 10) (dacons (dv 9) danil)) dknil))))) (fun _ _ _ _ _ => (dv 10))) (dlst danil)) (dsone (dret dbl)) dsnil) (dsone (dif_ (dbo (dor (dneT hr.units (dcall F__law_merged hc rfl (dacons (dadd (dv 4) (dlst (dacons (dv 9) danil))) danil) dknil) (dv 6)) (dor1 (dneT hr.units (dcall F__law_merged hc rfl (dacons (dadd (dlst (dacons (dv 9) danil)) (dv 4)) danil) dknil) (dv 6))))) (dsone (dret dbl)) dsnil))))))))))) (dsone (dret dbl))))
end
end K09

/-! K09M: rings, conflicts, merging again (no program). -/
namespace K09
open PySem PySem.Spec L2 DL
/-! ### merging with the result -/
theorem mg_again : ∀ (r : Nm) (rows : List Nm), (∀ s ∈ rows, s ≠ [] ∧ s.Sublist r) → (r ≠ [] → r ∈ rows) → r.Nodup → mg rows = .ok r
  | [], rows, h, _, _ => by
    have : rows = [] := by
      cases rows with
      | nil => rfl
      | cons s t =>
        obtain ⟨h1, h2⟩ := h s List.mem_cons_self
        exact absurd (List.sublist_nil.mp h2) h1
    subst this
    exact mg_nil
  | x :: t, rows, h, hm, nd => by
    have hm := hm (by simp)
    obtain ⟨n1, n2⟩ := List.nodup_cons.mp nd
    have hne : rows ≠ [] := fun e => by subst e; cases hm
    have tl : ∀ s ∈ rows, x ∉ s.tail := fun s hs hx => by
      obtain ⟨h1, h2⟩ := h s hs
      cases s with
      | nil => cases hx
      | cons y u =>
        have hx : x ∈ u := hx
        have nd2 : (y :: u).Nodup := h2.nodup nd
        have yx : y ≠ x := fun e => (List.nodup_cons.mp nd2).1 (e ▸ hx)
        have h3 : (y :: u).Sublist t := by
          cases h2 with
          | cons _ z => exact z
          | cons_cons _ z => exact absurd rfl yx
        exact n1 (h3.subset (List.mem_cons_of_mem _ hx))
    have hx : x ∈ freeOf rows := mem_freeOf.mpr ⟨⟨_, hm, rfl⟩, tl⟩
    have only : ∀ y ∈ freeOf rows, y = x := fun y hy => by
      obtain ⟨⟨s, hs, e⟩, h2⟩ := mem_freeOf.mp hy
      obtain ⟨h1, h3⟩ := h s hs
      have hy1 : y ∈ x :: t := h3.subset (List.mem_of_mem_head? e)
      rcases List.mem_cons.mp hy1 with z | z
      · exact z
      · exact absurd z (h2 _ hm)
    obtain ⟨t', hf⟩ : ∃ t', freeOf rows = x :: t' := by
      cases e : freeOf rows with
      | nil => rw [e] at hx; cases hx
      | cons y u =>
        have : y = x := only y (by rw [e]; exact List.mem_cons_self)
        subst this
        exact ⟨u, rfl⟩
    have st : mg rows = consE x (mg (cutRows x rows)) := by rw [mg_step hne, hf]
    have ih := mg_again t (cutRows x rows) (fun s hs => by
      refine ⟨cutRows_ne x rows s hs, ?_⟩
      unfold cutRows at hs
      obtain ⟨u, hu, rfl⟩ := List.mem_map.mp (List.mem_filter.mp hs).1
      obtain ⟨h1, h2⟩ := h u hu
      obtain ⟨y, v, rfl⟩ := List.exists_cons_of_ne_nil h1
      unfold cutRow
      by_cases e : y = x
      · subst e
        simp only [List.head?_cons, if_true]
        show v.Sublist t
        exact List.cons_sublist_cons.mp h2
      · rw [if_neg (by simpa using e)]
        cases h2 with
        | cons _ z => exact z
        | cons_cons _ z => exact absurd rfl e) (fun hn => by
      unfold cutRows
      refine List.mem_filter.mpr ⟨List.mem_map.mpr ⟨x :: t, hm, ?_⟩, by simpa using hn⟩
      simp [cutRow]) n2
    rw [st, ih]
    rfl
theorem merged_again {rows : List Nm} {r : Nm} (h : ∀ s ∈ rows, s.Sublist r) (hm : r ∈ rows) (nd : r.Nodup) : DL.merged rows = .ok r := by
  rw [merged_mg]
  refine mg_again r _ (fun s hs => ?_) (fun hn => List.mem_filter.mpr ⟨hm, by simpa using hn⟩) nd
  obtain ⟨h1, h2⟩ := List.mem_filter.mp hs
  exact ⟨by simpa using h2, h s h1⟩
/-! ### sorted texts -/
theorem str_ext {a b : Str} (h : a.cps.toList = b.cps.toList) : a = b := by
  cases a; cases b
  simp at h
  rw [h]
theorem rising_pw : ∀ (l : List Str) (p : Str), PyProof.Rows.risingS p l = true → (p :: l).Pairwise (fun a b : Str => a.cps.toList ≤ b.cps.toList)
  | [], p, _ => List.pairwise_singleton _ _
  | x :: r, p, h => by
    unfold PyProof.Rows.risingS at h
    rw [Bool.and_eq_true] at h
    have h1 : p.cps.toList ≤ x.cps.toList := by
      have := h.1
      rw [PyProof.Rows.ltCps_eq] at this
      simpa using this
    have ih := rising_pw r x h.2
    refine List.pairwise_cons.mpr ⟨fun y hy => ?_, ih⟩
    rcases List.mem_cons.mp hy with rfl | hy
    · exact h1
    · exact List.le_trans h1 ((List.pairwise_cons.mp ih).1 y hy)
theorem sorted_pw {l : List Str} (h : PyProof.Rows.sortedS l = true) : l.Pairwise (fun a b : Str => a.cps.toList ≤ b.cps.toList) := by
  cases l with
  | nil => exact List.Pairwise.nil
  | cons x r => exact rising_pw r x h
theorem sorted_eq {l k : List Str} (p : l.Perm k) (h1 : PyProof.Rows.sortedS l = true) (h2 : PyProof.Rows.sortedS k = true) : l = k :=
  p.eq_of_pairwise (fun a b _ _ x y => str_ext (List.le_antisymm x y)) (sorted_pw h1) (sorted_pw h2)
/-! ### lists without repetition -/
theorem nd_len {α : Type} [BEq α] [LawfulBEq α] : ∀ {c h : List α}, c.Nodup → (∀ x ∈ c, x ∈ h) → c.length ≤ h.length
  | [], _, _, _ => Nat.zero_le _
  | x :: t, h, nd, hs => by
    obtain ⟨n1, n2⟩ := List.nodup_cons.mp nd
    have hx := hs x List.mem_cons_self
    have ih := nd_len (c := t) (h := h.erase x) n2 fun y hy => (List.mem_erase_of_ne (fun e => n1 (by rw [← e]; exact hy))).mpr (hs y (List.mem_cons_of_mem _ hy))
    rw [List.length_erase_of_mem hx] at ih
    have : 0 < h.length := List.length_pos_of_mem hx
    simp only [List.length_cons]
    omega
theorem nd_perm {α : Type} [BEq α] [LawfulBEq α] : ∀ {c h : List α}, c.Nodup → h.Nodup → (∀ x, x ∈ c ↔ x ∈ h) → c.Perm h
  | [], h, _, _, hs => by
    have : h = [] := List.eq_nil_iff_forall_not_mem.mpr fun x hx => by have := (hs x).mpr hx; cases this
    subst this
    exact List.Perm.refl _
  | x :: t, h, nd, nh, hs => by
    obtain ⟨n1, n2⟩ := List.nodup_cons.mp nd
    have hx := (hs x).mp List.mem_cons_self
    refine (List.Perm.cons x (nd_perm (h := h.erase x) n2 (nh.erase x) fun y => ?_)).trans (List.perm_cons_erase hx).symm
    constructor
    · intro hy
      exact (List.mem_erase_of_ne (fun e => n1 (by rw [← e]; exact hy))).mpr ((hs y).mp (List.mem_cons_of_mem _ hy))
    · intro hy
      have hyx : y ≠ x := fun e => by subst e; exact nh.not_mem_erase hy
      rcases List.mem_cons.mp ((hs y).mpr (List.mem_of_mem_erase hy)) with z | z
      · exact absurd z hyx
      · exact z
theorem pw_ring {α : Type} [BEq α] [LawfulBEq α] {R : α → α → Prop} (tr : ∀ x y z, R x y → R y z → R x z) {h : List α} (hne : h ≠ []) (hp : ∀ y ∈ h, ∃ z ∈ h, R z y) : ∃ x, R x x := by
  apply Classical.byContradiction
  intro hno
  have hno : ∀ x, ¬ R x x := fun x hx => hno ⟨x, hx⟩
  have ch : ∀ n : Nat, ∃ z c, (z :: c : List α).length = n + 1 ∧ (z :: c).Pairwise R ∧ ∀ x ∈ z :: c, x ∈ h := by
    intro n
    induction n with
    | zero =>
      obtain ⟨y, t, rfl⟩ := List.exists_cons_of_ne_nil hne
      exact ⟨y, [], rfl, List.pairwise_singleton _ _, fun x hx => by rw [List.mem_singleton.mp hx]; exact List.mem_cons_self⟩
    | succ n ih =>
      obtain ⟨z, c, h1, h2, h3⟩ := ih
      obtain ⟨w, hw, hr⟩ := hp z (h3 z List.mem_cons_self)
      refine ⟨w, z :: c, by simp at h1 ⊢; omega, List.pairwise_cons.mpr ⟨fun y hy => ?_, h2⟩, fun x hx => ?_⟩
      · rcases List.mem_cons.mp hy with rfl | hy
        · exact hr
        · exact tr _ _ _ hr ((List.pairwise_cons.mp h2).1 y hy)
      · rcases List.mem_cons.mp hx with rfl | hx
        · exact hw
        · exact h3 x hx
  obtain ⟨z, c, h1, h2, h3⟩ := ch h.length
  have nd : (z :: c).Nodup := List.Pairwise.imp (S := fun a b : α => a ≠ b) (fun {a b} (r : R a b) (e : a = b) => hno a (by rw [← e] at r; exact r)) h2
  have := nd_len nd h3
  omega
/-! ### no ring where the merge succeeds -/
def Bef (r : List Nme) (x y : Nme) : Prop := ∃ i j : Nat, i < j ∧ r[i]? = some x ∧ r[j]? = some y
theorem nd_inj {r : Nm} (nd : r.Nodup) {i j : Nat} {x : Nme} (h1 : r[i]? = some x) (h2 : r[j]? = some x) : i = j := by
  have hi : i < r.length := (List.getElem?_eq_some_iff.mp h1).1
  exact (List.getElem?_inj hi nd).mp (h1.trans h2.symm)
theorem nx_bef {rows : List Nm} {r : Nm} (h : ∀ s ∈ rows, s.Sublist r) {x y : Nme} (n : Nx rows x y) : Bef r x y := by
  obtain ⟨s, hs, i, h1, h2⟩ := n
  have pr : r.Pairwise (Bef r) := List.pairwise_iff_getElem.mpr fun i j hi hj hij => ⟨i, j, hij, List.getElem?_eq_getElem hi, List.getElem?_eq_getElem hj⟩
  have ps : s.Pairwise (Bef r) := pr.sublist (h s hs)
  obtain ⟨hi, e1⟩ := List.getElem?_eq_some_iff.mp h1
  obtain ⟨hj, e2⟩ := List.getElem?_eq_some_iff.mp h2
  have := List.pairwise_iff_getElem.mp ps i (i + 1) hi hj (Nat.lt_succ_self i)
  rw [e1, e2] at this
  exact this
theorem far_bef {rows : List Nm} {r : Nm} (nd : r.Nodup) (h : ∀ s ∈ rows, s.Sublist r) {x y : Nme} (n : Far rows x y) : Bef r x y := by
  induction n with
  | one n => exact nx_bef h n
  | more _ n ih =>
    obtain ⟨i, j, h1, h2, h3⟩ := ih
    obtain ⟨j', k, g1, g2, g3⟩ := nx_bef h n
    have := nd_inj nd h3 g2
    subst this
    exact ⟨i, k, by omega, h2, g3⟩
theorem no_ring {rows : List Nm} {r : Nm} (nd : r.Nodup) (h : ∀ s ∈ rows, s.Sublist r) (x : Nme) : ¬ Far rows x x := fun n => by
  obtain ⟨i, j, h1, h2, h3⟩ := far_bef nd h n
  have := nd_inj nd h2 h3
  omega
/-! ### a ring where it fails -/
theorem Far.trans {rows : List Nm} {x y z : Nme} (a : Far rows x y) (b : Far rows y z) : Far rows x z := by
  induction b with
  | one n => exact .more a n
  | more _ n ih => exact .more ih n
theorem far_in {rows : List Nm} {u : Nm} (hu : u ∈ rows) : ∀ (n i j : Nat) (x y : Nme), j = i + n + 1 → u[i]? = some x → u[j]? = some y → Far rows x y := by
  intro n
  induction n with
  | zero => intro i j x y e h1 h2; subst e; exact .one ⟨u, hu, i, h1, h2⟩
  | succ n ih =>
    intro i j x y e h1 h2
    subst e
    have hj : i + (n + 1) + 1 < u.length := (List.getElem?_eq_some_iff.mp h2).1
    have hm : u[i + n + 1]? = some u[i + n + 1] := List.getElem?_eq_getElem (by omega)
    exact .more (ih i (i + n + 1) x _ rfl h1 hm) ⟨u, hu, i + n + 1, hm, h2⟩
theorem cut_suf (x : Nme) (r : Nm) : cutRow x r <:+ r := by
  unfold cutRow
  split
  · exact List.tail_suffix r
  · exact List.suffix_refl r
/-- where the merge stops -/
theorem mg_err : ∀ (n : Nat) (rows : List Nm) (h : Nm), size rows ≤ n → (∀ s ∈ rows, s ≠ []) → mg rows = .error h → ∃ a : List Nm, a ≠ [] ∧ (∀ s ∈ a, s ≠ [] ∧ ∃ u ∈ rows, s <:+ u) ∧ freeOf a = [] ∧ h = headsOf a [] := by
  intro n
  induction n with
  | zero =>
    intro rows h hn hs e
    cases rows with
    | nil => rw [mg_nil] at e; cases e
    | cons s t =>
      rw [size_cons] at hn
      have := List.length_pos_iff.mpr (hs s List.mem_cons_self)
      omega
  | succ n ih =>
    intro rows h hn hs e
    by_cases hne : rows = []
    · subst hne; rw [mg_nil] at e; cases e
    rw [mg_step hne] at e
    cases hf : freeOf rows with
    | nil =>
      rw [hf] at e
      injection e with e
      exact ⟨rows, hne, fun s hs' => ⟨hs s hs', s, hs', List.suffix_refl s⟩, hf, e.symm⟩
    | cons x t =>
      rw [hf] at e
      have hx : x ∈ freeOf rows := by rw [hf]; exact List.mem_cons_self
      have hsz := size_cut x (mem_freeOf.mp hx).1
      have e : consE x (mg (cutRows x rows)) = .error h := e
      cases e2 : mg (cutRows x rows) with
      | ok r => rw [e2] at e; cases e
      | error h' =>
        rw [e2] at e
        have : h' = h := by injection e
        subst this
        obtain ⟨a, g1, g2, g3, g4⟩ := ih (cutRows x rows) h' (by omega) (cutRows_ne x rows) e2
        refine ⟨a, g1, fun s hs' => ?_, g3, g4⟩
        obtain ⟨k1, u, k2, k3⟩ := g2 s hs'
        refine ⟨k1, ?_⟩
        unfold cutRows at k2
        obtain ⟨v, hv, rfl⟩ := List.mem_map.mp (List.mem_filter.mp k2).1
        exact ⟨v, hv, k3.trans (cut_suf x v)⟩
structure Conf (rows : List Nm) (h : Nm) : Prop where
  ne : h ≠ []
  beh : ∀ y ∈ h, ∃ u ∈ rows, y ∈ u.tail
  ring : ∃ x, Far rows x x
theorem merged_conf {rows : List Nm} {h : Nm} (e : DL.merged rows = .error h) : Conf rows h := by
  rw [merged_mg] at e
  obtain ⟨a, g1, g2, g3, rfl⟩ := mg_err _ _ _ (Nat.le_refl _) (fun s hs => by simpa using (List.mem_filter.mp hs).2) e
  have back : ∀ s ∈ a, ∃ u ∈ rows, s <:+ u := fun s hs => by
    obtain ⟨_, u, hu, z⟩ := g2 s hs
    exact ⟨u, (List.mem_filter.mp hu).1, z⟩
  have hh : ∀ s ∈ a, ∃ z t, s = z :: t ∧ z ∈ headsOf a [] := fun s hs => by
    obtain ⟨z, t, rfl⟩ := List.exists_cons_of_ne_nil (g2 s hs).1
    exact ⟨z, t, rfl, (mem_headsOf a [] z).mpr (.inr ⟨_, hs, rfl⟩)⟩
  have st : ∀ y ∈ headsOf a [], ∃ s ∈ a, y ∈ s.tail := fun y hy => by
    apply Classical.byContradiction
    intro hno
    rcases (mem_headsOf a [] y).mp hy with z | ⟨r, hr, z⟩
    · cases z
    · have : y ∈ freeOf a := mem_freeOf.mpr ⟨⟨r, hr, z⟩, fun s hs hx => hno ⟨s, hs, hx⟩⟩
      rw [g3] at this
      cases this
  have hne : headsOf a [] ≠ [] := fun e => by
    obtain ⟨s, t, rfl⟩ := List.exists_cons_of_ne_nil g1
    obtain ⟨z, _, _, hz⟩ := hh s List.mem_cons_self
    rw [e] at hz
    cases hz
  refine ⟨hne, fun y hy => ?_, pw_ring (R := Far rows) (fun _ _ _ => Far.trans) hne fun y hy => ?_⟩
  · obtain ⟨s, hs, hys⟩ := st y hy
    obtain ⟨z, t, rfl, _⟩ := hh s hs
    obtain ⟨u, hu, ⟨p, rfl⟩⟩ := back _ hs
    refine ⟨_, hu, ?_⟩
    cases p with
    | nil => exact hys
    | cons w p => exact List.mem_append_right _ (List.mem_cons_of_mem _ hys)
  · obtain ⟨s, hs, hys⟩ := st y hy
    obtain ⟨z, t, rfl, hz⟩ := hh s hs
    obtain ⟨u, hu, ⟨p, rfl⟩⟩ := back _ hs
    refine ⟨z, hz, ?_⟩
    obtain ⟨k, hk⟩ := List.mem_iff_getElem?.mp (show y ∈ t from hys)
    refine far_in hu k p.length (p.length + k + 1) z y rfl ?_ ?_
    · rw [List.getElem?_append_right (Nat.le_refl _)]; simp
    · rw [List.getElem?_append_right (by omega), show p.length + k + 1 - p.length = k + 1 by omega, List.getElem?_cons_succ]
      exact hk
/-! ### the law's walk -/
def Closed (rows : List Nm) (F : Nm) : Prop := ∀ x ∈ F, ∀ y, Nx rows x y → y ∈ F
theorem far_closed {rows : List Nm} {F : Nm} {a : Nme} (h0 : ∀ y, Nx rows a y → y ∈ F) (hc : Closed rows F) {y : Nme} (n : Far rows a y) : y ∈ F := by
  induction n with
  | one n => exact h0 _ n
  | more _ n ih => exact hc _ ih _ n
theorem nx_mem {rows : List Nm} {x y : Nme} (n : Nx rows x y) : (∃ r ∈ rows, x ∈ r) ∧ ∃ r ∈ rows, y ∈ r := by
  obtain ⟨r, hr, i, h1, h2⟩ := n
  exact ⟨⟨r, hr, List.mem_of_getElem? h1⟩, ⟨r, hr, List.mem_of_getElem? h2⟩⟩
theorem far_mem {rows : List Nm} {x y : Nme} (n : Far rows x y) : (∃ r ∈ rows, x ∈ r) ∧ ∃ r ∈ rows, y ∈ r := by
  induction n with
  | one n => exact nx_mem n
  | more _ n ih => exact ⟨ih.1, (nx_mem n).2⟩
end K09

/-! K09P: the defs of k09 keep their promises. -/
namespace K09
open PySem PySem.Spec L2 DL
theorem inj_en {α : Type} {φ : α → D} (hφ : ∀ a b, φ a = φ b → a = b) : ∀ a b : α × Nat, (D.tup [.int (a.2 : Nat), φ a.1]) = .tup [.int (b.2 : Nat), φ b.1] → a = b := fun ⟨a1, a2⟩ ⟨b1, b2⟩ h => by
  injection h with h
  injection h with h1 h2
  injection h1 with h1
  injection h2 with h2 _
  have h1 : a2 = b2 := Int.ofNat_inj.mp h1
  exact Prod.ext (hφ _ _ h2) h1
theorem flat_len (rows : List Nm) : rows.flatten.length = size rows := by
  induction rows with
  | nil => rfl
  | cons r rs ih => rw [List.flatten_cons, List.length_append, ih, size_cons]
theorem Few.flat {k : Nat} {rows : List Nm} (h : Few k rows) : rows.flatten.length ≤ k * 6 := by
  rw [flat_len]
  have := K03.size_le h.r
  have := h.n
  have : rows.length * 6 ≤ k * 6 := Nat.mul_le_mul_right 6 h.n
  omega
theorem strs_nm (ns : Nm) : strsD (ns.map fun x => D.str x.s) = some (ns.map (·.s)) := by
  have := strs_map (ns.map (·.s))
  rw [List.map_map] at this
  exact this
theorem names_of : ∀ {ys : List Str}, (∀ y ∈ ys, ∃ x : Nme, x.s = y) → ∃ f : Nm, f.map (·.s) = ys
  | [], _ => ⟨[], rfl⟩
  | y :: ys, h => by
    obtain ⟨x, e⟩ := h y List.mem_cons_self
    obtain ⟨f, e2⟩ := names_of fun z hz => h z (List.mem_cons_of_mem _ hz)
    exact ⟨x :: f, by simp [e, e2]⟩
theorem mem_s {f : Nm} {x : Nme} : x.s ∈ f.map (·.s) ↔ x ∈ f := by
  constructor
  · intro h
    obtain ⟨y, hy, e⟩ := List.mem_map.mp h
    rwa [← Nme.ext e]
  · intro h
    exact List.mem_map_of_mem h
theorem spec_all : ∀ ds m Q E, sp_all ds m Q E → rd__law_all (Dend Q E) (startD ["_law_rows", "_law_row_here"] ds) m := by
  rintro ds m Q E ⟨q, rows, rfl, hq, hf, hQ⟩
  show rd__law_all (Dend Q E) [some (.ref q), none] m
  have sz := szl
  have hn := hf.n
  have hfl := hf.flat
  have hsq : seqOf m (.ref q) = some (rows.map dT) := hq
  simp -dsimp [rd__law_all]
  refine LcX.intro rows dT (fun r => some r) dL inj_dT hsq (by omega) (fun r hr m3 _ => by simp -dsimp) ?_
  rw [fm_some]
  simp -dsimp [-List.map_map, -List.map_flatten, -List.map_tail, -List.length_flatten, lists_dL, flat_map_str]
  refine ⟨by omega, Is.intro (strs_nm _) ⟨?_, fun ys hs nd hm => ?_⟩⟩
  · have : 1000 < scanBound := by decide
    rw [List.length_map]; omega
  obtain ⟨f, rfl⟩ := names_of (ys := ys) fun y hy => by
    obtain ⟨x, _, e⟩ := List.mem_map.mp ((hm y).mp hy)
    exact ⟨x, e⟩
  have e : (f.map (·.s)).map D.str = nS f := by rw [List.map_map]; rfl
  rw [e]
  refine ⟨m, Mem.le_refl _, hQ f ?_ hs fun y => ?_⟩
  · exact List.Pairwise.of_map (fun x : Nme => x.s) (fun a b h e => h (by rw [e])) nd
  · rw [← mem_s, hm, mem_s, List.mem_flatten]
theorem letters_at {a : Nme × Nat} (h : a ∈ letters.zipIdx) : a.2 < 6 ∧ a.1 ∈ letters := by
  obtain ⟨x, i⟩ := a
  obtain ⟨h1, h2, h3⟩ := List.mem_zipIdx h
  refine ⟨?_, ?_⟩
  · have : letters.length = 6 := rfl
    simp only at h2 ⊢
    omega
  · simp only at h3 ⊢
    rw [h3]
    exact List.getElem_mem _
theorem spec_row : ∀ ds m Q E, sp_row ds m Q E → rd__law_row (Dend Q E) (startD ["_law_n", "_law_most", "_law_row_here", "_law_k", "_law_name", "_law_at"] ds) m := by
  rintro ds m Q E ⟨n, k, rfl, h0, h1, k0, k1, hQ⟩
  show rd__law_row (Dend Q E) [some (.int n), some (.int k), none, none, none, none] m
  have sz := szl
  simp -dsimp [rd__law_row]
  intro p hp
  refine ⟨by omega, _, _, rfl, (fun _ z => nomatch z), rfl, ?_⟩
  obtain ⟨Iv, hIv⟩ : ∃ Iv : List (Nme × Nat) → List (Nme × Nat) → En → Mem → Prop, Iv = fun done rest env M => ∃ (a3 a4 : Option D) (r : Nm), env = [some (.int n), some (.int k), some (.ref p), a3, a4, none] ∧ M = m.put p (cL r) ∧ r.length ≤ done.length ∧ ∀ x ∈ r, x ∈ letters := ⟨_, rfl⟩
  refine ForB.intro letters.zipIdx (fun a => .tup [.int (a.2 : Nat), .str a.1.s]) (inj_en inj_nm) Iv rfl (by rw [hIv]; exact ⟨none, none, [], rfl, rfl, Nat.le_refl _, fun x h => by cases h⟩) ?_ ?_
  · intro done a rest env M e iv
    rw [hIv] at iv
    obtain ⟨a3, a4, r, rfl, rfl, hl, hm⟩ := iv
    refine ⟨rfl, ?_⟩
    have ha : a ∈ letters.zipIdx := by rw [e]; simp
    obtain ⟨ha2, ha1⟩ := letters_at ha
    have hdl : done.length < 6 := by
      have := congrArg List.length e
      have h6 : letters.length = 6 := rfl
      simp at this
      omega
    obtain ⟨d, hd, c, rfl, c0, c1⟩ := pick (xs := [D.int 1, D.int 2, D.int 4, D.int 8, D.int 16, D.int 32]) (i := (a.2 : Int)) (fun d => ∃ c : Int, d = .int c ∧ 1 ≤ c ∧ c ≤ 32) (by omega) (by simp; omega) (by simp)
    simp -dsimp
    refine ⟨by omega, Is.intro hd ?_⟩
    simp -dsimp
    refine ⟨⟨by omega, by omega⟩, ?_⟩
    refine AndK_any.mpr ⟨fun hb => ?_, fun hb => ?_⟩
    · simp -dsimp
      refine Br_any.mpr ⟨fun hb2 => ?_, fun hb2 => ?_⟩
      · simp -dsimp
        refine ⟨by omega, ?_⟩
        rw [hIv]
        refine ⟨_, _, r ++ [a.1], rfl, by simp [cL], by simp; omega, fun x hx => ?_⟩
        rcases List.mem_append.mp hx with z | z
        · exact hm x z
        · rw [List.mem_singleton.mp z]; exact ha1
      · simp -dsimp
        rw [hIv]
        exact ⟨_, _, r, rfl, rfl, by simp; omega, hm⟩
    · simp -dsimp
      rw [hIv]
      exact ⟨_, _, r, rfl, rfl, by simp; omega, hm⟩
  · intro env M iv
    rw [hIv] at iv
    obtain ⟨a3, a4, r, rfl, rfl, hl, hm⟩ := iv
    refine ⟨rfl, ?_⟩
    have h6 : letters.zipIdx.length = 6 := rfl
    have hr6 : r.length ≤ 6 := by rw [← h6]; exact hl
    simp -dsimp
    refine ⟨⟨by omega, by omega⟩, ?_⟩
    have fin : ∀ (M : Mem) (x5 : Option D) (r2 : Nm), M = m.put p (cL r2) → r2.length ≤ 6 → (∀ x ∈ r2, x ∈ letters) → ∃ m', m.le m' ∧ Q (dT r2) m := fun M x5 r2 e h1 h2 => ⟨m, Mem.le_refl _, hQ r2 h2 h1⟩
    refine AndK_any.mpr ⟨fun hb => ?_, fun hb => ?_⟩
    · simp -dsimp
      refine Br_any.mpr ⟨fun hb2 => ?_, fun hb2 => ?_⟩
      · have hr2 : 1 < r.length := by simp at hb2; omega
        simp -dsimp
        have el : (List.map (fun x : Nme => D.str x.s) r).length = r.length := List.length_map _
        rw [el]
        have w0 : 0 ≤ n / 320 % ((r.length : Int) - 1) := Int.emod_nonneg _ (by omega)
        have w1 : n / 320 % ((r.length : Int) - 1) < (r.length : Int) - 1 := Int.emod_lt_of_pos _ (by omega)
        generalize n / 320 % ((r.length : Int) - 1) = w at w0 w1 ⊢
        obtain ⟨j, rfl⟩ := Int.eq_ofNat_of_zero_le w0
        have hj : j + 1 < r.length := by omega
        have hj0 : j < r.length := by omega
        have a1 : atI (r.map fun x => D.str x.s) ((j : Int) + 1) = some (D.str r[j+1].s) := by
          rw [show (j : Int) + 1 = ((j + 1 : Nat) : Int) by omega, DL.atI_nat, List.getElem?_map, List.getElem?_eq_getElem hj]; rfl
        have a0 : atI (r.map fun x => D.str x.s) (j : Int) = some (D.str r[j].s) := by
          rw [DL.atI_nat, List.getElem?_map, List.getElem?_eq_getElem hj0]; rfl
        refine ⟨⟨by omega, by omega⟩, by omega, Is.intro a1 ?_⟩
        simp -dsimp
        refine Is.intro a0 ?_
        simp -dsimp
        have i0 : ixN r.length (j : Int) = some j := by unfold ixN; rw [if_pos (by omega), if_pos (by omega)]; rfl
        have i1 : ixN r.length ((j : Int) + 1) = some (j + 1) := by unfold ixN; rw [if_pos (by omega), if_pos (by omega)]; simp
        refine ⟨by omega, Is.intro i0 ?_⟩
        simp -dsimp
        refine Is.intro i1 ?_
        simp -dsimp
        have em : ((r.map fun x => D.str x.s).set j (D.str r[j + 1].s)).set (j + 1) (D.str r[j].s) = ((r.set j r[j + 1]).set (j + 1) r[j]).map fun x => D.str x.s := by
          rw [List.map_set, List.map_set]
        rw [em]
        refine ⟨m, Mem.le_put hp, hQ ((r.set j r[j + 1]).set (j + 1) r[j]) (fun x hx => ?_) (by simpa using hr6)⟩
        rcases List.mem_or_eq_of_mem_set hx with z | z
        · rcases List.mem_or_eq_of_mem_set z with z | z
          · exact hm x z
          · rw [z]; exact hm _ (List.getElem_mem _)
        · rw [z]; exact hm _ (List.getElem_mem _)
      · simp -dsimp
        exact ⟨m, Mem.le_put hp, hQ r hm hr6⟩
    · simp -dsimp
      exact ⟨m, Mem.le_put hp, hQ r hm hr6⟩
theorem mem_zip_tail {r : Nm} {x y : Nme} : (x, y) ∈ r.zip r.tail ↔ ∃ i, r[i]? = some x ∧ r[i + 1]? = some y := by
  rw [List.mem_iff_getElem?]
  constructor
  · rintro ⟨i, h⟩
    obtain ⟨h1, h2⟩ := List.getElem?_zip_eq_some.mp h
    exact ⟨i, h1, by rw [← List.getElem?_tail]; exact h2⟩
  · rintro ⟨i, h1, h2⟩
    exact ⟨i, List.getElem?_zip_eq_some.mpr ⟨h1, by rw [List.getElem?_tail]; exact h2⟩⟩
theorem nx_snoc {done : List Nm} {r : Nm} {x y : Nme} : Nx (done ++ [r]) x y ↔ Nx done x y ∨ (x, y) ∈ r.zip r.tail := by
  rw [mem_zip_tail]
  constructor
  · rintro ⟨s, hs, i, h⟩
    rcases List.mem_append.mp hs with z | z
    · exact .inl ⟨s, z, i, h⟩
    · rw [List.mem_singleton] at z
      subst z
      exact .inr ⟨i, h⟩
  · rintro (⟨s, hs, i, h⟩ | ⟨i, h⟩)
    · exact ⟨s, List.mem_append_left _ hs, i, h⟩
    · exact ⟨r, List.mem_append_right _ List.mem_cons_self, i, h⟩
theorem inj_zp : ∀ a b : Nme × Nme, D.tup [.str a.1.s, .str a.2.s] = D.tup [.str b.1.s, .str b.2.s] → a = b := fun ⟨a1, a2⟩ ⟨b1, b2⟩ h => by
  injection h with h
  injection h with h1 h2
  injection h2 with h2 _
  injection h1 with h1
  injection h2 with h2
  exact Prod.ext (Nme.ext h1) (Nme.ext h2)
theorem zip_nm (r t : Nm) : zipD (r.map fun x => D.str x.s) (t.map fun x => D.str x.s) = (r.zip t).map fun p => D.tup [.str p.1.s, .str p.2.s] := by
  unfold zipD
  rw [List.zip_map, List.map_map]
  rfl
theorem spec_behind : ∀ ds m Q E, sp_behind ds m Q E → rd__law_behind (Dend Q E) (startD ["_law_rows", "_law_name", "_law_found", "_law_row_here", "_law_one", "_law_next_one"] ds) m := by
  rintro ds m Q E ⟨q, x, rows, rfl, hq, hf, hQ⟩
  show rd__law_behind (Dend Q E) [some (.ref q), some (.str x.s), none, none, none, none] m
  have sz := szl
  have hn := hf.n
  have hsq : seqOf m (.ref q) = some (rows.map dT) := hq
  simp -dsimp [rd__law_behind]
  intro p hp
  have hqp : q ≠ p := fun e => by rw [e, lst_iff, hp] at hq; cases hq
  obtain ⟨Iv, hIv⟩ : ∃ Iv : List Nm → List Nm → En → Mem → Prop, Iv = fun done rest env M => ∃ (a3 a4 a5 : Option D) (f : Nm), env = [some (.ref q), some (.str x.s), some (.ref p), a3, a4, a5] ∧ M = m.put p (cL f) ∧ f.Nodup ∧ (∀ y, y ∈ f ↔ Nx done x y) := ⟨_, rfl⟩
  have keep : ∀ f : Nm, seqOf (m.put p (cL f)) (.ref q) = some (rows.map dT) := fun f => by rw [show seqOf (m.put p (cL f)) (.ref q) = lstOf (m.put p (cL f)) (.ref q) from rfl, lstOf_ne hqp]; exact hq
  refine ForX.intro rows dT inj_dT Iv (keep []) (by rw [hIv]; exact ⟨none, none, none, [], rfl, rfl, List.nodup_nil, fun y => ⟨fun h => (by cases h), fun ⟨r, hr, _⟩ => (by cases hr)⟩⟩) ?_ ?_
  · intro done r rest env M e iv
    rw [hIv] at iv
    obtain ⟨a3, a4, a5, f, rfl, rfl, nd, hf2⟩ := iv
    refine ⟨keep f, ?_⟩
    have hr : r ∈ rows := by rw [e]; simp
    have hr6 := hf.r r hr
    simp -dsimp [-List.map_tail, tail_map]
    refine ⟨_, _, rfl, ?_⟩
    obtain ⟨Jv, hJv⟩ : ∃ Jv : List (Nme × Nme) → List (Nme × Nme) → En → Mem → Prop, Jv = fun d2 r2 env M => ∃ (a4 a5 : Option D) (f : Nm), env = [some (.ref q), some (.str x.s), some (.ref p), some (dT r), a4, a5] ∧ M = m.put p (cL f) ∧ f.Nodup ∧ f.length ≤ 100 + d2.length ∧ (∀ y, y ∈ f ↔ Nx done x y ∨ (x, y) ∈ d2) := ⟨_, rfl⟩
    have hfl : f.length ≤ 6 := nd_len (h := letters) nd fun y hy => by
      obtain ⟨_, s, hs, hy⟩ := nx_mem ((hf2 y).mp hy)
      exact hf.l s (by rw [e]; exact List.mem_append_left _ hs) y hy
    refine ForB.intro (r.zip r.tail) (fun p => D.tup [.str p.1.s, .str p.2.s]) inj_zp Jv (zip_nm r r.tail) (by rw [hJv]; exact ⟨a4, a5, f, rfl, rfl, nd, by simp; omega, fun y => by simpa using hf2 y⟩) ?_ ?_
    · intro d2 a r2 env M e2 jv
      rw [hJv] at jv
      obtain ⟨b4, b5, f, rfl, rfl, nd, hl, hf3⟩ := jv
      refine ⟨trivial, ?_⟩
      have hd2 : d2.length ≤ 6 := by
        have := congrArg List.length e2
        simp at this
        omega
      simp -dsimp
      refine AndK_any.mpr ⟨fun hb => ?_, fun hb => ?_⟩
      · have hb : a.1 = x := of_decide_eq_true hb
        simp -dsimp
        refine (Br_ndec (p := a.2 ∈ f)).mpr ⟨fun hn => ?_, fun hi => ?_⟩
        · simp -dsimp
          refine ⟨by omega, ?_⟩
          rw [hJv]
          refine ⟨_, _, f ++ [a.2], rfl, by simp [cL], ?_, by simp; omega, fun y => ?_⟩
          · exact List.nodup_append.mpr ⟨nd, List.nodup_cons.mpr ⟨(fun h => by cases h), List.nodup_nil⟩, fun y hy z hz e => by rw [List.mem_singleton] at hz; subst hz; subst e; exact hn hy⟩
          · rw [List.mem_append, List.mem_append, hf3 y, List.mem_singleton, List.mem_singleton]
            constructor
            · rintro ((z | z) | z)
              · exact .inl z
              · exact .inr (.inl z)
              · exact .inr (.inr (Prod.ext hb.symm z))
            · rintro (z | z | z)
              · exact .inl (.inl z)
              · exact .inl (.inr z)
              · exact .inr (by rw [← z])
        · simp -dsimp
          rw [hJv]
          refine ⟨_, _, f, rfl, rfl, nd, by simp; omega, fun y => ?_⟩
          rw [List.mem_append, hf3 y, List.mem_singleton]
          constructor
          · exact fun z => z.elim .inl fun z => .inr (.inl z)
          · rintro (z | z | z)
            · exact .inl z
            · exact .inr z
            · have : y = a.2 := by rw [← z]
              subst this
              exact (hf3 _).mp hi
      · have hb : ¬ a.1 = x := of_decide_eq_false hb
        simp -dsimp
        rw [hJv]
        refine ⟨_, _, f, rfl, rfl, nd, by simp; omega, fun y => ?_⟩
        rw [List.mem_append, hf3 y, List.mem_singleton]
        constructor
        · exact fun z => z.elim .inl fun z => .inr (.inl z)
        · rintro (z | z | z)
          · exact .inl z
          · exact .inr z
          · exact absurd (by rw [← z]) hb
    · intro env M jv
      rw [hJv] at jv
      obtain ⟨b4, b5, f, rfl, rfl, nd, hl, hf3⟩ := jv
      refine ⟨trivial, ?_⟩
      simp -dsimp
      rw [hIv]
      exact ⟨_, _, _, f, rfl, rfl, nd, fun y => by rw [nx_snoc]; exact hf3 y⟩
  · intro env M iv
    rw [hIv] at iv
    obtain ⟨a3, a4, a5, f, rfl, rfl, nd, hf2⟩ := iv
    refine ⟨keep f, ?_⟩
    simp -dsimp
    exact ⟨m, by rw [Mem.del_none hp]; exact Mem.le_refl _, hQ f nd hf2⟩
theorem spec_is_part : ∀ ds m Q E, sp_part ds m Q E → rd__law_is_part (Dend Q E) (startD ["_law_row_here", "_law_whole", "_law_one"] ds) m := by
  rintro ds m Q E ⟨row, whole, rfl, hr, hw, hQ⟩
  show rd__law_is_part (Dend Q E) [some (dT row), some (dT whole), none] m
  have sz := szl
  simp -dsimp [rd__law_is_part]
  refine LcX.intro whole (fun x => D.str x.s) (fun x => if x ∈ row then some x else none) (fun x => D.str x.s) inj_nm rfl (by omega) ?_ ?_
  · intro x hx m3 _
    simp -dsimp
  rw [fm_if]
  simp -dsimp
  refine eqD_pl (pl_dL 59 _) (pl_dL 59 row) ?_
  rw [eqB_dL]
  exact ⟨m, Mem.le_refl _, hQ⟩
end K09

/-! K09Q: the ring, the merge. -/
namespace K09
open PySem PySem.Spec L2 DL
theorem nS_len (f : Nm) : (nS f).length = f.length := List.length_map _
theorem lt_letters {rows : List Nm} {k : Nat} (hf : Few k rows) {a y : Nme} (h : Far rows a y) : y ∈ letters := by
  obtain ⟨_, s, hs, hy⟩ := far_mem h
  exact hf.l s hs y hy
theorem spec_ring : ∀ ds m Q E, sp_ring ds m Q E → rd__law_has_ring (Dend Q E) (startD ["_law_rows", "_law_name", "_law_found", "_law_turn", "_law_one", "_law_more", "_law_far"] ds) m := by
  rintro ds m Q E ⟨q, rows, rfl, hq, hf, hQ⟩
  show rd__law_has_ring (Dend Q E) [some (.ref q), none, none, none, none, none, none] m
  have sz := szl
  have l6 : letters.length = 6 := rfl
  simp -dsimp [rd__law_has_ring]
  refine App.intro ⟨q, rows, rfl, hq, hf, fun all nd so hm => ?_⟩
  obtain ⟨Iv, hIv⟩ : ∃ Iv : List Nme → List Nme → En → Mem → Prop, Iv = fun done rest env M => ∃ (a1 a2 a3 a4 a5 a6 : Option D), env = [some (.ref q), a1, a2, a3, a4, a5, a6] ∧ M = m ∧ ∀ x ∈ done, ¬ Far rows x x := ⟨_, rfl⟩
  refine ForX.intro all (fun x => D.str x.s) inj_nm Iv rfl (by rw [hIv]; exact ⟨_, _, _, _, _, _, rfl, rfl, fun x h => by cases h⟩) ?_ ?_
  · intro done a rest env M e iv
    rw [hIv] at iv
    obtain ⟨a1, a2, a3, a4, a5, a6, rfl, rfl, hd⟩ := iv
    refine ⟨rfl, ?_⟩
    simp -dsimp
    refine App.intro ⟨q, a, rows, rfl, hq, hf, fun f0 nd0 hf0 => ?_⟩
    simp -dsimp
    obtain ⟨Jv, hJv⟩ : ∃ Jv : Nat → En → Mem → Prop, Jv = fun i env M' => ∃ (a3 a4 a5 a6 : Option D) (F : Nm), env = [some (.ref q), some (.str a.s), some (.lst (nS F)), a3, a4, a5, a6] ∧ M' = M ∧ F.Nodup ∧ (∀ y ∈ F, Far rows a y) ∧ (∀ y, Nx rows a y → y ∈ F) ∧ (Closed rows F ∨ i + 1 ≤ F.length) := ⟨_, rfl⟩
    refine ForR.intro 6 rfl Jv ?_ ?_ ?_
    · rw [hJv]
      refine ⟨_, _, _, _, f0, rfl, rfl, nd0, fun y hy => .one ((hf0 y).mp hy), fun y hy => (hf0 y).mpr hy, ?_⟩
      cases f0 with
      | nil => exact .inl fun x hx => by cases hx
      | cons x t => exact .inr (by simp)
    · intro i env M' hi jv
      rw [hJv] at jv
      obtain ⟨b3, b4, b5, b6, F, rfl, rfl, ndF, hF1, hF2, hF3⟩ := jv
      have hFl : F.length ≤ 6 := nd_len (h := letters) ndF fun y hy => lt_letters hf (hF1 y hy)
      simp -dsimp [nS]
      obtain ⟨Kv, hKv⟩ : ∃ Kv : List Nme → List Nme → En → Mem → Prop, Kv = fun d2 r2 env M2 => ∃ (a4 a5 a6 : Option D) (G : Nm), env = [some (.ref q), some (.str a.s), some (.lst (nS G)), some (.int (i : Int)), a4, a5, a6] ∧ M2 = M' ∧ G.Nodup ∧ (∀ y ∈ F, y ∈ G) ∧ (∀ y ∈ G, y ∈ F ∨ ∃ x ∈ F, Nx rows x y) ∧ (∀ x ∈ d2, ∀ y, Nx rows x y → y ∈ G) ∧ (G = F ∨ F.length < G.length) := ⟨_, rfl⟩
      refine ForX.intro F (fun x => D.str x.s) inj_nm Kv rfl (by rw [hKv]; exact ⟨_, _, _, F, rfl, rfl, ndF, fun y h => h, fun y h => .inl h, (fun x h => by cases h), .inl rfl⟩) ?_ ?_
      · intro d2 x r2 env M2 e2 kv
        rw [hKv] at kv
        obtain ⟨c4, c5, c6, G, rfl, rfl, ndG, g1, g2, g3, g4⟩ := kv
        refine ⟨rfl, ?_⟩
        have hxF : x ∈ F := by rw [e2]; simp
        have gF : ∀ y ∈ G, Far rows a y := fun y hy => (g2 y hy).elim (hF1 y) fun ⟨z, hz, n⟩ => .more (hF1 z hz) n
        have hGl : G.length ≤ 6 := nd_len (h := letters) ndG fun y hy => lt_letters hf (gF y hy)
        simp -dsimp
        refine App.intro ⟨q, x, rows, rfl, hq, hf, fun f1 nd1 hf1 => ?_⟩
        simp -dsimp [nS]
        have hf1l : f1.length ≤ 6 := nd_len (h := letters) nd1 fun y hy => lt_letters hf (.one ((hf1 y).mp hy))
        refine LcX.intro f1 (fun x => D.str x.s) (fun x => if x ∉ G then some x else none) (fun x => D.str x.s) inj_nm rfl (by omega) ?_ ?_
        · intro y hy m3 _
          simp -dsimp
        rw [fm_if]
        simp -dsimp
        have hfl : (f1.filter fun x => !decide (x ∈ G)).length ≤ f1.length := List.length_filter_le _ _
        refine ⟨by rw [nS_len]; omega, ?_⟩
        have en : nS G ++ List.map (fun x => D.str x.s) (f1.filter fun x => !decide (x ∈ G)) = nS (G ++ f1.filter fun x => !decide (x ∈ G)) := by unfold nS; rw [List.map_append]
        rw [en, hKv]
        have hmm : ∀ y, y ∈ G ++ (f1.filter fun x => !decide (x ∈ G)) ↔ y ∈ G ∨ Nx rows x y := fun y => by
          rw [List.mem_append, List.mem_filter, hf1 y]
          by_cases h : y ∈ G <;> simp [h]
        refine ⟨_, _, _, _, rfl, rfl, ?_, fun y hy => (hmm y).mpr (.inl (g1 y hy)), fun y hy => ?_, fun z hz y n => ?_, ?_⟩
        · refine List.nodup_append.mpr ⟨ndG, nd1.filter _, fun y hy z hz e => ?_⟩
          subst e
          have := (List.mem_filter.mp hz).2
          simp at this
          exact this hy
        · rcases (hmm y).mp hy with h | h
          · exact g2 y h
          · exact .inr ⟨x, hxF, h⟩
        · rcases List.mem_append.mp hz with h | h
          · exact (hmm y).mpr (.inl (g3 z h y n))
          · rw [List.mem_singleton] at h
            subst h
            exact (hmm y).mpr (.inr n)
        · cases hN : (f1.filter fun x => !decide (x ∈ G)) with
          | nil => rw [List.append_nil]; exact g4
          | cons y t =>
            refine .inr ?_
            rcases g4 with rfl | g4
            · simp
            · simp; omega
      · intro env M2 kv
        rw [hKv] at kv
        obtain ⟨c4, c5, c6, G, rfl, rfl, ndG, g1, g2, g3, g4⟩ := kv
        refine ⟨rfl, ?_⟩
        simp -dsimp
        rw [hJv]
        refine ⟨_, _, _, _, G, rfl, rfl, ndG, fun y hy => (g2 y hy).elim (hF1 y) fun ⟨z, hz, n⟩ => .more (hF1 z hz) n, fun y n => g1 y (hF2 y n), ?_⟩
        rcases g4 with rfl | g4
        · exact .inl g3
        · rcases hF3 with z | z
          · refine .inl fun x hx y n => ?_
            have hxF : x ∈ F := (g2 x hx).elim id fun ⟨w, hw, n⟩ => z w hw x n
            exact g1 y (z x hxF y n)
          · exact .inr (by omega)
    · intro env M' jv
      rw [hJv] at jv
      obtain ⟨b3, b4, b5, b6, F, rfl, rfl, ndF, hF1, hF2, hF3⟩ := jv
      have hFl : F.length ≤ 6 := nd_len (h := letters) ndF fun y hy => lt_letters hf (hF1 y hy)
      have hcl : Closed rows F := hF3.elim id fun h => by omega
      simp -dsimp [nS]
      refine ⟨fun x _ => rfl, ?_⟩
      refine Br_any.mpr ⟨fun hb => ?_, fun hb => ?_⟩
      · have hb : a ∈ F := by simpa using hb
        simp -dsimp
        exact ⟨M', Mem.le_refl _, hQ true ⟨fun _ => ⟨a, hF1 a hb⟩, fun _ => rfl⟩⟩
      · have hb : a ∉ F := by simpa using hb
        simp -dsimp
        rw [hIv]
        refine ⟨_, _, _, _, _, _, rfl, rfl, fun x hx n => ?_⟩
        rcases List.mem_append.mp hx with z | z
        · exact hd x z n
        · rw [List.mem_singleton] at z
          subst z
          exact hb (far_closed hF2 hcl n)
  · intro env M iv
    rw [hIv] at iv
    obtain ⟨a1, a2, a3, a4, a5, a6, rfl, rfl, hd⟩ := iv
    refine ⟨rfl, ?_⟩
    simp -dsimp
    exact ⟨M, Mem.le_refl _, hQ false ⟨fun h => (by cases h), fun ⟨x, hx⟩ => absurd hx (hd x ((hm x).mpr (far_mem hx).1))⟩⟩
theorem lst_or {m : Mem} {d : D} {xs : List D} (h : lstOf m d = some xs) : d = .lst xs ∨ ∃ q, d = .ref q := by
  cases d with
  | lst ys => left; injection h with h; rw [h]
  | ref q => exact .inr ⟨q, rfl⟩
  | _ => cases h
theorem merged_pad (rows : List Nm) (k : Nat) : DL.merged (rows ++ List.replicate k []) = DL.merged rows := by
  rw [merged_mg, merged_mg, List.filter_append]
  have : (List.replicate k ([] : Nm)).filter (fun r => decide (r ≠ [])) = [] := by
    rw [List.filter_eq_nil_iff]
    intro r hr
    rw [List.eq_of_mem_replicate hr]
    simp
  rw [this, List.append_nil]
theorem mrg_pad {rows : List Nm} {nm : D} {m : Mem} {Q : Po} {E : Xo} (k : Nat) (h : K03.mrgOut rows nm m Q E) : K03.mrgOut (rows ++ List.replicate k []) nm m Q E := by
  unfold K03.mrgOut at h ⊢
  rw [merged_pad]
  exact h
theorem pad_ok {rows : List Nm} (hf : Few 5 rows) {k : Nat} (hk : k ≤ 5) : K03.RowsOk (rows ++ List.replicate k []) := by
  have := hf.n
  refine ⟨by simp; omega, fun r hr => ?_⟩
  rcases List.mem_append.mp hr with z | z
  · have := hf.r r z; omega
  · rw [List.eq_of_mem_replicate z]; simp
theorem spec_merged {tb : Addr} : ∀ ds m Q E, sp_merged tb ds m Q E → rd__law_merged tb (Dend Q E) (startD ["_law_rows", "_law_one", "_law_two", "_law_three", "_law_four", "_law_five"] ds) m := by
  rintro ds m Q E ⟨d, rows, rfl, ht, hs, hf, hQ⟩
  show rd__law_merged tb (Dend Q E) [some d, none, none, none, none, none] m
  have hl := hf.n
  have sz := szl
  have s5 : 5 ≤ sizeLine := by decide
  rcases lst_or hs with rfl | ⟨q, rfl⟩
  · clear hs
    rcases rows with _ | ⟨a, _ | ⟨b, _ | ⟨c, _ | ⟨d, _ | ⟨e, _ | ⟨f, r⟩⟩⟩⟩⟩⟩
    · simp -dsimp [rd__law_merged]
      repeat (refine And.intro (by first | omega | exact ht | decide) ?_)
      refine K03.appL_of [] .non (fun Q' E' h => by simp -dsimp; exact App.intro ⟨([] ++ List.replicate 5 []), rfl, pad_ok hf (by omega), mrg_pad 5 h⟩) ?_
      exact ⟨m, Mem.le_refl _, hQ⟩
    · simp -dsimp [rd__law_merged]
      repeat (refine And.intro (by first | omega | exact ht | decide) ?_)
      refine K03.appL_of [a] .non (fun Q' E' h => by simp -dsimp; exact App.intro ⟨([a] ++ List.replicate 4 []), rfl, pad_ok hf (by omega), mrg_pad 4 h⟩) ?_
      exact ⟨m, Mem.le_refl _, hQ⟩
    · simp -dsimp [rd__law_merged]
      repeat (refine And.intro (by first | omega | exact ht | decide) ?_)
      refine K03.appL_of [a, b] .non (fun Q' E' h => by simp -dsimp; exact App.intro ⟨([a, b] ++ List.replicate 3 []), rfl, pad_ok hf (by omega), mrg_pad 3 h⟩) ?_
      exact ⟨m, Mem.le_refl _, hQ⟩
    · simp -dsimp [rd__law_merged]
      repeat (refine And.intro (by first | omega | exact ht | decide) ?_)
      refine K03.appL_of [a, b, c] .non (fun Q' E' h => by simp -dsimp; exact App.intro ⟨([a, b, c] ++ List.replicate 2 []), rfl, pad_ok hf (by omega), mrg_pad 2 h⟩) ?_
      exact ⟨m, Mem.le_refl _, hQ⟩
    · simp -dsimp [rd__law_merged]
      repeat (refine And.intro (by first | omega | exact ht | decide) ?_)
      refine K03.appL_of [a, b, c, d] .non (fun Q' E' h => by simp -dsimp; exact App.intro ⟨([a, b, c, d] ++ List.replicate 1 []), rfl, pad_ok hf (by omega), mrg_pad 1 h⟩) ?_
      exact ⟨m, Mem.le_refl _, hQ⟩
    · simp -dsimp [rd__law_merged]
      repeat (refine And.intro (by first | omega | exact ht | decide) ?_)
      refine K03.appL_of [a, b, c, d, e] .non (fun Q' E' h => by simp -dsimp; exact App.intro ⟨([a, b, c, d, e] ++ List.replicate 0 []), rfl, pad_ok hf (by omega), mrg_pad 0 h⟩) ?_
      exact ⟨m, Mem.le_refl _, hQ⟩
    · simp at hl
  · rcases rows with _ | ⟨a, _ | ⟨b, _ | ⟨c, _ | ⟨d, _ | ⟨e, _ | ⟨f, r⟩⟩⟩⟩⟩⟩
    · simp -dsimp [rd__law_merged, hs]
      repeat (refine And.intro (by first | omega | exact ht | decide) ?_)
      refine K03.appL_of [] .non (fun Q' E' h => by simp -dsimp; exact App.intro ⟨([] ++ List.replicate 5 []), rfl, pad_ok hf (by omega), mrg_pad 5 h⟩) ?_
      exact ⟨m, Mem.le_refl _, hQ⟩
    · simp -dsimp [rd__law_merged, hs]
      repeat (refine And.intro (by first | omega | exact ht | decide) ?_)
      refine K03.appL_of [a] .non (fun Q' E' h => by simp -dsimp; exact App.intro ⟨([a] ++ List.replicate 4 []), rfl, pad_ok hf (by omega), mrg_pad 4 h⟩) ?_
      exact ⟨m, Mem.le_refl _, hQ⟩
    · simp -dsimp [rd__law_merged, hs]
      repeat (refine And.intro (by first | omega | exact ht | decide) ?_)
      refine K03.appL_of [a, b] .non (fun Q' E' h => by simp -dsimp; exact App.intro ⟨([a, b] ++ List.replicate 3 []), rfl, pad_ok hf (by omega), mrg_pad 3 h⟩) ?_
      exact ⟨m, Mem.le_refl _, hQ⟩
    · simp -dsimp [rd__law_merged, hs]
      repeat (refine And.intro (by first | omega | exact ht | decide) ?_)
      refine K03.appL_of [a, b, c] .non (fun Q' E' h => by simp -dsimp; exact App.intro ⟨([a, b, c] ++ List.replicate 2 []), rfl, pad_ok hf (by omega), mrg_pad 2 h⟩) ?_
      exact ⟨m, Mem.le_refl _, hQ⟩
    · simp -dsimp [rd__law_merged, hs]
      repeat (refine And.intro (by first | omega | exact ht | decide) ?_)
      refine K03.appL_of [a, b, c, d] .non (fun Q' E' h => by simp -dsimp; exact App.intro ⟨([a, b, c, d] ++ List.replicate 1 []), rfl, pad_ok hf (by omega), mrg_pad 1 h⟩) ?_
      exact ⟨m, Mem.le_refl _, hQ⟩
    · simp -dsimp [rd__law_merged, hs]
      repeat (refine And.intro (by first | omega | exact ht | decide) ?_)
      refine K03.appL_of [a, b, c, d, e] .non (fun Q' E' h => by simp -dsimp; exact App.intro ⟨([a, b, c, d, e] ++ List.replicate 0 []), rfl, pad_ok hf (by omega), mrg_pad 0 h⟩) ?_
      exact ⟨m, Mem.le_refl _, hQ⟩
    · simp at hl
end K09

/-! K09W: the law. -/
namespace K09
open PySem PySem.Spec L2 DL
theorem nm_ok {rows : List Nm} {r : Nm} (hf : Few 4 rows) (e : DL.merged rows = .ok r) : r.length ≤ 6 ∧ ∀ x ∈ r, x ∈ letters := by
  obtain ⟨_, nd, hm⟩ := merged_ok e
  have hl : ∀ x ∈ r, x ∈ letters := fun x hx => by
    obtain ⟨s, hs, z⟩ := hm x hx
    exact hf.l s hs x z
  exact ⟨nd_len (h := letters) nd hl, hl⟩
theorem said_ok {rows : List Nm} {r : Nm} (e : DL.merged rows = .ok r) : K03.saidD rows .non = .lst [dT r] := by unfold K03.saidD; rw [e]
theorem said_err {rows : List Nm} {h : Nm} (e : DL.merged rows = .error h) : K03.saidD rows .non = .tup [.str "conflict", .non, dT h] := by unfold K03.saidD; rw [e]
theorem fm_no {α : Type} (l : List α) : List.filterMap (fun x : α => if False then some x else none) l = [] := by simp
theorem spec_law {tb : Addr} : ∀ ds m Q E, sp_law tb ds m Q E → rd_law tb (Dend Q E) (startD ["_law_script", "_law_spot", "_law_turn", "_law_n", "_law_rows", "_law_k", "_law_told", "_law_heads", "_law_behind_here", "_law_whole", "_law_row_here", "_law_head"] ds) m := by
  rintro ds m Q E ⟨ns, rfl, hl, ht, hQ⟩
  show rd_law tb (Dend Q E) [some (.klst (ns.map .int)), none, none, none, none, none, none, none, none, none, none, none] m
  have sz := szl
  simp -dsimp [rd_law]
  refine ⟨by decide, fun p hp => ⟨by omega, by omega, ?_⟩⟩
  have htn : (if (ns.length : Int) < 16 then (ns.length : Int) else 16) = ((min ns.length 16 : Nat) : Int) := by
    by_cases h : ns.length < 16
    · rw [if_pos (by omega), Nat.min_eq_left (by omega)]
    · rw [if_neg (by omega), Nat.min_eq_right (by omega)]; rfl
  rw [htn]
  have htp : tb ≠ p := fun e => by rw [e, hp] at ht; cases ht
  obtain ⟨Iv, hIv⟩ : ∃ Iv : Nat → En → Mem → Prop, Iv = fun (i : Nat) env m' => ∃ (x2 x3 x4 x5 x6 x7 x8 x9 x10 x11 : Option D) (k : Int), env = [some (.klst (ns.map .int)), some (.ref p), x2, x3, x4, x5, x6, x7, x8, x9, x10, x11] ∧ lstOf m' (.ref p) = some [.int k] ∧ m' tb = some (.tab (lamQ "_law_merged")) ∧ 0 ≤ k ∧ k ≤ 60 * i := ⟨_, rfl⟩
  refine ForR.intro (3 + min ns.length 16) (by push_cast; rfl) Iv ?_ ?_ ?_
  · rw [hIv]
    exact ⟨_, _, _, _, _, _, _, _, _, _, 0, rfl, by simp, by rw [Mem.put_ne htp]; exact ht, by omega, by omega⟩
  · intro i env m1 hi iv
    rw [hIv] at iv
    obtain ⟨x2, x3, x4, x5, x6, x7, x8, x9, x10, x11, k, rfl, g1, gt, g2, g3⟩ := iv
    simp -dsimp
    refine App.intro ⟨ns, p, k, rfl, hl, lst_iff.mp g1, g2, by omega, fun n n0 n1 => ?_⟩
    simp -dsimp
    intro q hq
    have hqp : q ≠ p := fun e => by rw [e] at hq; simp at hq
    have htq : tb ≠ q := fun e => by rw [← e, Mem.put_ne htp, gt] at hq; cases hq
    refine ⟨by omega, by omega, ?_⟩
    obtain ⟨t, et⟩ := Int.eq_ofNat_of_zero_le (show 0 ≤ n % 5 by omega)
    obtain ⟨Jv, hJv⟩ : ∃ Jv : Nat → En → Mem → Prop, Jv = fun (j : Nat) env m2 => ∃ (x5 : Option D) (k' : Int) (rows : List Nm), env = [some (.klst (ns.map .int)), some (.ref p), some (.int i), some (.int n), some (.ref q), x5, x6, x7, x8, x9, x10, x11] ∧ lstOf m2 (.ref p) = some [.int k'] ∧ lstOf m2 (.ref q) = some (rows.map dT) ∧ m2 tb = some (.tab (lamQ "_law_merged")) ∧
      0 ≤ k' ∧ k' ≤ k + 1 + j ∧ rows.length = j ∧ Few j rows := ⟨_, rfl⟩
    refine ForR.intro t et Jv ?_ ?_ ?_
    · rw [hJv]
      refine ⟨_, k + 1, [], rfl, ?_, by simp, ?_, by omega, by omega, rfl, ⟨Nat.le_refl _, fun r hr => (by cases hr), fun r hr => (by cases hr)⟩⟩
      · rw [lstOf_ne (Ne.symm hqp)]; simp
      · rw [Mem.put_ne htq, Mem.put_ne htp]; exact gt
    · intro j env m2 hj jv
      rw [hJv] at jv
      obtain ⟨x5, k', rows, rfl, e1, e2, e3, e4, e5, e6, e7⟩ := jv
      simp -dsimp [e2]
      refine App.intro ⟨ns, p, k', rfl, hl, lst_iff.mp e1, e4, by omega, fun n' n0' n1' => ?_⟩
      simp -dsimp
      refine ⟨⟨by omega, by omega⟩, App.intro ⟨n', _, rfl, n0', n1', by omega, by omega, fun r hr hrl => ?_⟩⟩
      simp -dsimp [lstOf_ne hqp, e2]
      refine ⟨by omega, ?_⟩
      rw [hJv]
      refine ⟨_, k' + 1, rows ++ [r], rfl, ?_, by simp, ?_, by omega, by push_cast; omega, by simp [e6], ⟨by simp; omega, fun s hs => ?_, fun s hs => ?_⟩⟩
      · rw [lstOf_ne (Ne.symm hqp)]; simp
      · rw [Mem.put_ne htq, Mem.put_ne htp]; exact e3
      · rcases List.mem_append.mp hs with z | z
        · exact e7.r s z
        · rw [List.mem_singleton.mp z]; exact hrl
      · rcases List.mem_append.mp hs with z | z
        · exact e7.l s z
        · rw [List.mem_singleton.mp z]; exact hr
    · intro env m2 jv
      rw [hJv] at jv
      obtain ⟨x5, k', rows, rfl, e1, e2, e3, e4, e5, e6, e7⟩ := jv
      have hf : Few 4 rows := ⟨by omega, e7.r, e7.l⟩
      simp -dsimp
      refine App.intro ⟨_, rows, rfl, e3, e2, ⟨by omega, e7.r, e7.l⟩, ?_⟩
      cases em : DL.merged rows with
      | ok r =>
        obtain ⟨mo1, mo2, mo3⟩ := merged_ok em
        have hr6 := nm_ok hf em
        rw [said_ok em]
        simp -dsimp
        refine Is.intro (x := "list") rfl (Is.intro (x := true) (by decide +kernel) ?_)
        simp -dsimp
        refine App.intro ⟨q, rows, rfl, e2, hf, fun b hb => ?_⟩
        have hb : b = false := by
          cases b with
          | false => rfl
          | true =>
            obtain ⟨x, hx⟩ := hb.mp rfl
            exact absurd hx (no_ring mo2 mo1 x)
        subst hb
        refine eqD_pb rfl rfl ?_
        have q0 : eqB (.bl true) (.bl false) = false := by decide +kernel
        rw [q0]
        simp -dsimp
        refine Is.intro (x := "list") rfl (Is.intro (x := true) (by decide +kernel) ?_)
        simp -dsimp
        refine Is.intro (strs_nm r) ?_
        refine ⟨by rw [List.length_map]; omega, fun ys pm so => ?_⟩
        simp -dsimp
        refine App.intro ⟨q, rows, rfl, e2, hf, fun all nda soa hma => ?_⟩
        have eys : ys = all.map (·.s) := sorted_eq (pm.trans ((nd_perm mo2 nda fun x => by rw [hma]; exact ⟨fun h => mo3 x h, fun ⟨s, hs, h⟩ => (mo1 s hs).subset h⟩).map _)) so soa
        have eD : ys.map D.str = nS all := by rw [eys, List.map_map]; rfl
        rw [eD]
        refine neD_pl (pl_dL 59 all) (pl_dL 59 all) ?_
        have q1 : eqB (.lst (nS all)) (.lst (nS all)) = true := (eqB_dL all all).trans (by simp)
        rw [q1]
        simp -dsimp
        have hsq : seqOf m2 (.ref q) = some (rows.map dT) := e2
        refine LcX.intro rows dT (fun s => if False then some s else none) dT inj_dT hsq (by omega) ?_ ?_
        · intro s hs m3 hm3
          simp -dsimp
          refine App.intro ⟨s, r, rfl, hf.r s hs, hr6.1, ?_⟩
          have q2 : decide (r.filter (fun x => decide (x ∈ s)) = s) = true := decide_eq_true (sub_filter (mo1 s hs) mo2)
          rw [q2]
          simp -dsimp
        rw [fm_no]
        simp -dsimp
        refine neD_pl (by rfl) (by rfl) ?_
        have q3 : eqB (.lst []) (.lst []) = true := by decide +kernel
        rw [q3]
        simp -dsimp [e2]
        have hfa : Few 5 (rows ++ [r]) := ⟨by simp; omega, fun s hs => (List.mem_append.mp hs).elim (hf.r s) fun z => by rw [List.mem_singleton.mp z]; exact hr6.1, fun s hs => (List.mem_append.mp hs).elim (hf.l s) fun z => by rw [List.mem_singleton.mp z]; exact hr6.2⟩
        have hfb : Few 5 (r :: rows) := ⟨by simp; omega, fun s hs => (List.mem_cons.mp hs).elim (fun z => by rw [z]; exact hr6.1) (hf.r s), fun s hs => (List.mem_cons.mp hs).elim (fun z => by rw [z]; exact hr6.2) (hf.l s)⟩
        have ma : DL.merged (rows ++ [r]) = .ok r := merged_again (fun s hs => (List.mem_append.mp hs).elim (mo1 s) fun z => by rw [List.mem_singleton.mp z]; exact List.Sublist.refl _) (List.mem_append_right _ List.mem_cons_self) mo2
        have mb : DL.merged (r :: rows) = .ok r := merged_again (fun s hs => (List.mem_cons.mp hs).elim (fun z => by rw [z]; exact List.Sublist.refl _) (mo1 s)) List.mem_cons_self mo2
        have plr : pl 60 (.lst [dT r]) = true := by simp only [pl, plA, Bool.and_true]; exact pl_dT 58 r
        have eqr : eqB (.lst [dT r]) (.lst [dT r]) = true := (eqB_eq plr plr (p := True) ⟨fun _ => trivial, fun _ => rfl⟩).trans (by simp)
        refine ⟨by omega, by omega, App.intro ⟨_, rows ++ [r], rfl, e3, by simp, hfa, ?_⟩⟩
        rw [said_ok ma]
        simp -dsimp
        refine neD_pl plr plr ?_
        rw [eqr]
        simp -dsimp [e2]
        refine ⟨by omega, by omega, App.intro ⟨_, r :: rows, rfl, e3, by simp, hfb, ?_⟩⟩
        rw [said_ok mb]
        simp -dsimp
        refine neD_pl plr plr ?_
        rw [eqr]
        simp -dsimp
        rw [hIv]
        exact ⟨_, _, _, _, _, _, _, _, _, _, k', rfl, e1, e3, e4, by omega⟩
      | error h =>
        have mo := merged_conf em
        rw [said_err em]
        simp -dsimp
        refine Is.intro (x := "tuple") rfl (Is.intro (x := false) (by decide +kernel) ?_)
        simp -dsimp
        refine App.intro ⟨q, rows, rfl, e2, hf, fun b hb => ?_⟩
        have hb : b = true := hb.mpr mo.ring
        subst hb
        refine eqD_pb rfl rfl ?_
        have q0 : eqB (.bl false) (.bl true) = false := by decide +kernel
        rw [q0]
        simp -dsimp
        refine Is.intro (x := "tuple") rfl (Is.intro (x := false) (by decide +kernel) ?_)
        simp -dsimp
        have hsq : seqOf m2 (.ref q) = some (rows.map dT) := e2
        refine LcX.intro rows dT (fun s => some s.tail) dL inj_dT hsq (by omega) (fun s hs m3 _ => by simp -dsimp [-List.map_tail, tail_map]) ?_
        rw [fm_some]
        simp -dsimp [-List.map_map, -List.map_flatten, -List.map_tail, -List.length_flatten, lists_dL, flat_map_str]
        have ft := flat_tails rows
        have hsz : size rows ≤ 24 := by rw [← flat_len]; exact hf.flat
        refine ⟨by omega, ?_⟩
        refine eqD_pl (pl_dT 59 h) (pl_dT 59 []) ?_
        have q1 : eqB (dT h) (D.tup []) = false := (eqB_dT h []).trans (by simpa using mo.ne)
        rw [q1]
        simp -dsimp [-List.map_map, -List.map_flatten, -List.map_tail, -List.length_flatten]
        have hh6 : h.length ≤ 100 := by
          have := K03.merged_out rows
          rw [em] at this
          have := this.1
          omega
        refine LcX.intro h (fun x => D.str x.s) (fun x => if False then some x else none) (fun x => D.str x.s) inj_nm rfl (by omega) ?_ ?_
        · intro x hx m3 _
          simp -dsimp [-List.map_map, -List.map_flatten, -List.map_tail, -List.length_flatten]
          exact mo.beh x hx
        rw [fm_no]
        simp -dsimp [-List.map_map, -List.map_flatten, -List.map_tail, -List.length_flatten]
        rw [hIv]
        exact ⟨_, _, _, _, _, _, _, _, _, _, k', rfl, e1, e3, e4, by omega⟩
  · intro env m' iv
    rw [hIv] at iv
    obtain ⟨x2, x3, x4, x5, x6, x7, x8, x9, x10, x11, k, rfl, g1, gt, g2, g3⟩ := iv
    simp -dsimp
    exact ⟨m', Mem.le_refl _, hQ m'⟩
theorem spec_merge : ∀ ds m Q E, sb_merge ds m Q E → rd_merge (Dend Q E) (startD ["name", "sequences", "rows", "found", "heads", "free", "sequence", "head", "row"] ds) m := K03.spec_merge
theorem spec_said : ∀ (W : WM) (φ : Heap → Prop) (T : Hp → Prop) (f : Addr) (m : Mem) (Q : Po) (E : Xo), sp_said W m Q E → m f = none → rd__law_said (wDeed 0 f φ T W) (Dend Q E) (startD ["_law_deed", "_law_found", "e"] [.ref f]) (m.put f (.lam φ T)) := K03.spec_said
end K09

/-! K09E: the defs of this text keep their promises. -/
namespace K09
open PySem PySem.Spec PyProof.Rows L2 DL NdefX
abbrev FnP (K : Frag) (x : Str) (st : Stmt) (kws : List (Str × V)) (f : Addr) (fd : FuncData) : Prop := FunD K x x (defArgs st) (defBody st) (defScope st) [] kws f fd
structure Defs (P : Program) (K : Frag) (mg : Str → Option Value) : Prop where
  heads_of : ∃ fd, FnP K "heads_of" st_heads_of [] (ga K "heads_of") fd ∧ mg "heads_of" = some (.ref (ga K "heads_of"))
  merge : ∃ fd, FnP K "merge" st_merge [("name", .non)] (ga K "merge") fd ∧ mg "merge" = some (.ref (ga K "merge"))
  _law_cell : ∃ fd, FnP K "_law_cell" st__law_cell [] (ga K "_law_cell") fd ∧ mg "_law_cell" = some (.ref (ga K "_law_cell"))
  _law_said : ∃ fd, FnP K "_law_said" st__law_said [] (ga K "_law_said") fd ∧ mg "_law_said" = some (.ref (ga K "_law_said"))
  _law_row : ∃ fd, FnP K "_law_row" st__law_row [] (ga K "_law_row") fd ∧ mg "_law_row" = some (.ref (ga K "_law_row"))
  _law_behind : ∃ fd, FnP K "_law_behind" st__law_behind [] (ga K "_law_behind") fd ∧ mg "_law_behind" = some (.ref (ga K "_law_behind"))
  _law_all : ∃ fd, FnP K "_law_all" st__law_all [] (ga K "_law_all") fd ∧ mg "_law_all" = some (.ref (ga K "_law_all"))
  _law_has_ring : ∃ fd, FnP K "_law_has_ring" st__law_has_ring [] (ga K "_law_has_ring") fd ∧ mg "_law_has_ring" = some (.ref (ga K "_law_has_ring"))
  _law_merged : ∃ fd, FnP K "_law_merged" st__law_merged [] (ga K "_law_merged") fd ∧ mg "_law_merged" = some (.ref (ga K "_law_merged"))
  _law_is_part : ∃ fd, FnP K "_law_is_part" st__law_is_part [] (ga K "_law_is_part") fd ∧ mg "_law_is_part" = some (.ref (ga K "_law_is_part"))
  law : ∃ fd, FnP K "law" st_law [] (ga K "law") fd ∧ mg "law" = some (.ref (ga K "law"))
structure Errs (P : Program) (w : World) (K : Frag) (mg : Str → Option Value) (base : Heap) : Prop where
  E_OrderConflict : ErrOk P w K mg base 1 "OrderConflict" ["name", "heads"]
  X_OrderConflict : XfC K (ga K "OrderConflict") ∧ ∀ f ∈ (["name", "heads"] : List Str), PySem.W.findIn K (.ref (ga K "OrderConflict")) f = some none
  C_OrderConflict : Clause K mg "OrderConflict" ["OrderConflict"] []
  C_ForgeError : Clause K mg "ForgeError" ["OrderConflict"] []
section
variable {P : Program} {w : World} {K : Frag} {mg : Str → Option Value} {base : Heap}
def tfs : List He.Defn := [("_law_merged", none)]
theorem fn_heads_of (X : Defs P K mg) (B : Bi mg) (Z : Errs P w K mg base) (TB : ∀ p ∈ tfs, LamX.TabB base mg (He.cT K p).1 (He.cT K p).2) : Fn false P w K mg base 3 "heads_of" [] sp_heads_of := by
  obtain ⟨fd, F, hm⟩ := X.heads_of
  exact Fn.plain F sc_heads_of (by intro ds m Q E h; first | (obtain ⟨rfl, _⟩ := h; rfl) | (obtain ⟨_, rfl, _⟩ := h; rfl) | (obtain ⟨_, _, rfl, _⟩ := h; rfl) | (obtain ⟨_, _, _, rfl, _⟩ := h; rfl) | (obtain ⟨_, _, _, _, rfl, _⟩ := h; rfl) | (obtain ⟨_, _, _, _, _, rfl, _⟩ := h; rfl) | (obtain ⟨_, _, _, _, _, _, rfl, _⟩ := h; rfl) | (obtain ⟨_, _, _, _, _, _, _, rfl, _⟩ := h; rfl) | (obtain ⟨_, _, _, _, _, _, _, _, rfl, _⟩ := h; rfl) | (obtain ⟨_, _, _, _, _, _, _, _, _, rfl, _⟩ := h; rfl) | (obtain ⟨_, _, _, _, _, _, _, _, _, _, rfl, _⟩ := h; rfl) | (obtain ⟨_, _, _, _, _, _, _, _, _, _, _, rfl, _⟩ := h; rfl) | (obtain ⟨_, _, _, _, _, _, _, _, _, _, _, _, rfl, _⟩ := h; rfl) | (obtain ⟨_, _, _, _, _, _, _, _, _, _, _, _, _, rfl, _⟩ := h; rfl)) (der_heads_of (k := 0) B) spec_heads_of hm (fun _ _ _ _ _ _ us hl => match us, hl with | [_], _ => rfl)
theorem fn_merge_name (X : Defs P K mg) (B : Bi mg) (Z : Errs P w K mg base) (TB : ∀ p ∈ tfs, LamX.TabB base mg (He.cT K p).1 (He.cT K p).2) : Fn false P w K mg base 6 "merge" ["name"] sp_merge_n := by
  obtain ⟨fd, F, hm⟩ := X.merge
  have R := Fn.starK (P := P) (w := w) (base := base) F sc_merge (der_merge (k := 3) B ((fn_heads_of X B Z TB).mono (by decide)) Z.E_OrderConflict) spec_merge hm (fun kV doc pm an cdv ct rest v => by cases rest <;> rfl)
  refine R.imp ?_
  rintro ds m Q E ⟨rows, nm, rfl, ⟨h1, h2⟩, h3⟩
  exact ⟨_, nm, rfl, by rw [List.length_map]; exact Nat.le_trans h1 (by decide), rows, nm, rfl, ⟨h1, h2⟩, h3⟩
theorem fn_merge (X : Defs P K mg) (B : Bi mg) (Z : Errs P w K mg base) (TB : ∀ p ∈ tfs, LamX.TabB base mg (He.cT K p).1 (He.cT K p).2) : Fn false P w K mg base 6 "merge" [] sp_merge_0 := by
  obtain ⟨fd, F, hm⟩ := X.merge
  have R := Fn.star0 (P := P) (w := w) (base := base) (dd := .non) F (fun _ => by simp only [Den]) sc_merge (der_merge (k := 3) B ((fn_heads_of X B Z TB).mono (by decide)) Z.E_OrderConflict) spec_merge hm ⟨_, _, _, _, _, _, rfl⟩
  refine R.imp ?_
  rintro ds m Q E ⟨rows, rfl, ⟨h1, h2⟩, h3⟩
  exact ⟨by rw [List.length_map]; exact Nat.le_trans h1 (by decide), rows, .non, rfl, ⟨h1, h2⟩, h3⟩
theorem fn__law_cell (X : Defs P K mg) (B : Bi mg) (Z : Errs P w K mg base) (TB : ∀ p ∈ tfs, LamX.TabB base mg (He.cT K p).1 (He.cT K p).2) : Fn false P w K mg base 3 "_law_cell" [] sp_cell := by
  obtain ⟨fd, F, hm⟩ := X._law_cell
  exact Fn.plain F sc__law_cell (by intro ds m Q E h; first | (obtain ⟨rfl, _⟩ := h; rfl) | (obtain ⟨_, rfl, _⟩ := h; rfl) | (obtain ⟨_, _, rfl, _⟩ := h; rfl) | (obtain ⟨_, _, _, rfl, _⟩ := h; rfl) | (obtain ⟨_, _, _, _, rfl, _⟩ := h; rfl) | (obtain ⟨_, _, _, _, _, rfl, _⟩ := h; rfl) | (obtain ⟨_, _, _, _, _, _, rfl, _⟩ := h; rfl) | (obtain ⟨_, _, _, _, _, _, _, rfl, _⟩ := h; rfl) | (obtain ⟨_, _, _, _, _, _, _, _, rfl, _⟩ := h; rfl) | (obtain ⟨_, _, _, _, _, _, _, _, _, rfl, _⟩ := h; rfl) | (obtain ⟨_, _, _, _, _, _, _, _, _, _, rfl, _⟩ := h; rfl) | (obtain ⟨_, _, _, _, _, _, _, _, _, _, _, rfl, _⟩ := h; rfl) | (obtain ⟨_, _, _, _, _, _, _, _, _, _, _, _, rfl, _⟩ := h; rfl) | (obtain ⟨_, _, _, _, _, _, _, _, _, _, _, _, _, rfl, _⟩ := h; rfl)) (der__law_cell (k := 0) B) spec_cell hm (fun _ _ _ _ _ _ us hl => match us, hl with | [_, _], _ => rfl)
theorem fn__law_said (X : Defs P K mg) (B : Bi mg) (Z : Errs P w K mg base) (TB : ∀ p ∈ tfs, LamX.TabB base mg (He.cT K p).1 (He.cT K p).2) : LFn P w K mg base 2 "_law_said" sp_said := by
  obtain ⟨fd, F, hm⟩ := X._law_said
  exact ⟨ns__law_said, "_law_deed", _, fd, defArgs st__law_said, defBody st__law_said, defScope st__law_said, rd__law_said, hm, F, sc__law_said, rfl, by first | exact Or.inl rfl | exact Or.inr (Or.inl rfl), by decide, by decide, fun _ _ _ _ _ _ _ => rfl, der__law_said (k := 0) B Z.X_OrderConflict Z.C_OrderConflict Z.C_ForgeError, spec_said⟩
theorem fn__law_row (X : Defs P K mg) (B : Bi mg) (Z : Errs P w K mg base) (TB : ∀ p ∈ tfs, LamX.TabB base mg (He.cT K p).1 (He.cT K p).2) : Fn false P w K mg base 3 "_law_row" [] sp_row := by
  obtain ⟨fd, F, hm⟩ := X._law_row
  exact Fn.plain F sc__law_row (by intro ds m Q E h; first | (obtain ⟨rfl, _⟩ := h; rfl) | (obtain ⟨_, rfl, _⟩ := h; rfl) | (obtain ⟨_, _, rfl, _⟩ := h; rfl) | (obtain ⟨_, _, _, rfl, _⟩ := h; rfl) | (obtain ⟨_, _, _, _, rfl, _⟩ := h; rfl) | (obtain ⟨_, _, _, _, _, rfl, _⟩ := h; rfl) | (obtain ⟨_, _, _, _, _, _, rfl, _⟩ := h; rfl) | (obtain ⟨_, _, _, _, _, _, _, rfl, _⟩ := h; rfl) | (obtain ⟨_, _, _, _, _, _, _, _, rfl, _⟩ := h; rfl) | (obtain ⟨_, _, _, _, _, _, _, _, _, rfl, _⟩ := h; rfl) | (obtain ⟨_, _, _, _, _, _, _, _, _, _, rfl, _⟩ := h; rfl) | (obtain ⟨_, _, _, _, _, _, _, _, _, _, _, rfl, _⟩ := h; rfl) | (obtain ⟨_, _, _, _, _, _, _, _, _, _, _, _, rfl, _⟩ := h; rfl) | (obtain ⟨_, _, _, _, _, _, _, _, _, _, _, _, _, rfl, _⟩ := h; rfl)) (der__law_row (k := 0) B) spec_row hm (fun _ _ _ _ _ _ us hl => match us, hl with | [_, _], _ => rfl)
theorem fn__law_behind (X : Defs P K mg) (B : Bi mg) (Z : Errs P w K mg base) (TB : ∀ p ∈ tfs, LamX.TabB base mg (He.cT K p).1 (He.cT K p).2) : Fn false P w K mg base 3 "_law_behind" [] sp_behind := by
  obtain ⟨fd, F, hm⟩ := X._law_behind
  exact Fn.plain F sc__law_behind (by intro ds m Q E h; first | (obtain ⟨rfl, _⟩ := h; rfl) | (obtain ⟨_, rfl, _⟩ := h; rfl) | (obtain ⟨_, _, rfl, _⟩ := h; rfl) | (obtain ⟨_, _, _, rfl, _⟩ := h; rfl) | (obtain ⟨_, _, _, _, rfl, _⟩ := h; rfl) | (obtain ⟨_, _, _, _, _, rfl, _⟩ := h; rfl) | (obtain ⟨_, _, _, _, _, _, rfl, _⟩ := h; rfl) | (obtain ⟨_, _, _, _, _, _, _, rfl, _⟩ := h; rfl) | (obtain ⟨_, _, _, _, _, _, _, _, rfl, _⟩ := h; rfl) | (obtain ⟨_, _, _, _, _, _, _, _, _, rfl, _⟩ := h; rfl) | (obtain ⟨_, _, _, _, _, _, _, _, _, _, rfl, _⟩ := h; rfl) | (obtain ⟨_, _, _, _, _, _, _, _, _, _, _, rfl, _⟩ := h; rfl) | (obtain ⟨_, _, _, _, _, _, _, _, _, _, _, _, rfl, _⟩ := h; rfl) | (obtain ⟨_, _, _, _, _, _, _, _, _, _, _, _, _, rfl, _⟩ := h; rfl)) (der__law_behind (k := 0) B) spec_behind hm (fun _ _ _ _ _ _ us hl => match us, hl with | [_, _], _ => rfl)
theorem fn__law_all (X : Defs P K mg) (B : Bi mg) (Z : Errs P w K mg base) (TB : ∀ p ∈ tfs, LamX.TabB base mg (He.cT K p).1 (He.cT K p).2) : Fn false P w K mg base 3 "_law_all" [] sp_all := by
  obtain ⟨fd, F, hm⟩ := X._law_all
  exact Fn.plain F sc__law_all (by intro ds m Q E h; first | (obtain ⟨rfl, _⟩ := h; rfl) | (obtain ⟨_, rfl, _⟩ := h; rfl) | (obtain ⟨_, _, rfl, _⟩ := h; rfl) | (obtain ⟨_, _, _, rfl, _⟩ := h; rfl) | (obtain ⟨_, _, _, _, rfl, _⟩ := h; rfl) | (obtain ⟨_, _, _, _, _, rfl, _⟩ := h; rfl) | (obtain ⟨_, _, _, _, _, _, rfl, _⟩ := h; rfl) | (obtain ⟨_, _, _, _, _, _, _, rfl, _⟩ := h; rfl) | (obtain ⟨_, _, _, _, _, _, _, _, rfl, _⟩ := h; rfl) | (obtain ⟨_, _, _, _, _, _, _, _, _, rfl, _⟩ := h; rfl) | (obtain ⟨_, _, _, _, _, _, _, _, _, _, rfl, _⟩ := h; rfl) | (obtain ⟨_, _, _, _, _, _, _, _, _, _, _, rfl, _⟩ := h; rfl) | (obtain ⟨_, _, _, _, _, _, _, _, _, _, _, _, rfl, _⟩ := h; rfl) | (obtain ⟨_, _, _, _, _, _, _, _, _, _, _, _, _, rfl, _⟩ := h; rfl)) (der__law_all (k := 0) B) spec_all hm (fun _ _ _ _ _ _ us hl => match us, hl with | [_], _ => rfl)
theorem fn__law_has_ring (X : Defs P K mg) (B : Bi mg) (Z : Errs P w K mg base) (TB : ∀ p ∈ tfs, LamX.TabB base mg (He.cT K p).1 (He.cT K p).2) : Fn false P w K mg base 6 "_law_has_ring" [] sp_ring := by
  obtain ⟨fd, F, hm⟩ := X._law_has_ring
  exact Fn.plain F sc__law_has_ring (by intro ds m Q E h; first | (obtain ⟨rfl, _⟩ := h; rfl) | (obtain ⟨_, rfl, _⟩ := h; rfl) | (obtain ⟨_, _, rfl, _⟩ := h; rfl) | (obtain ⟨_, _, _, rfl, _⟩ := h; rfl) | (obtain ⟨_, _, _, _, rfl, _⟩ := h; rfl) | (obtain ⟨_, _, _, _, _, rfl, _⟩ := h; rfl) | (obtain ⟨_, _, _, _, _, _, rfl, _⟩ := h; rfl) | (obtain ⟨_, _, _, _, _, _, _, rfl, _⟩ := h; rfl) | (obtain ⟨_, _, _, _, _, _, _, _, rfl, _⟩ := h; rfl) | (obtain ⟨_, _, _, _, _, _, _, _, _, rfl, _⟩ := h; rfl) | (obtain ⟨_, _, _, _, _, _, _, _, _, _, rfl, _⟩ := h; rfl) | (obtain ⟨_, _, _, _, _, _, _, _, _, _, _, rfl, _⟩ := h; rfl) | (obtain ⟨_, _, _, _, _, _, _, _, _, _, _, _, rfl, _⟩ := h; rfl) | (obtain ⟨_, _, _, _, _, _, _, _, _, _, _, _, _, rfl, _⟩ := h; rfl)) (der__law_has_ring (k := 3) B ((fn__law_all X B Z TB).mono (by decide)) ((fn__law_behind X B Z TB).mono (by decide))) spec_ring hm (fun _ _ _ _ _ _ us hl => match us, hl with | [_], _ => rfl)
theorem fn__law_merged (X : Defs P K mg) (B : Bi mg) (Z : Errs P w K mg base) (TB : ∀ p ∈ tfs, LamX.TabB base mg (He.cT K p).1 (He.cT K p).2) : Fn false P w K mg base 9 "_law_merged" [] (sp_merged (He.cT K ("_law_merged", none)).2) := by
  obtain ⟨fd, F, hm⟩ := X._law_merged
  exact Fn.plainX F sc__law_merged (by intro ds m Q E h; first | (obtain ⟨rfl, _⟩ := h; rfl) | (obtain ⟨_, rfl, _⟩ := h; rfl) | (obtain ⟨_, _, rfl, _⟩ := h; rfl) | (obtain ⟨_, _, _, rfl, _⟩ := h; rfl) | (obtain ⟨_, _, _, _, rfl, _⟩ := h; rfl) | (obtain ⟨_, _, _, _, _, rfl, _⟩ := h; rfl) | (obtain ⟨_, _, _, _, _, _, rfl, _⟩ := h; rfl) | (obtain ⟨_, _, _, _, _, _, _, rfl, _⟩ := h; rfl) | (obtain ⟨_, _, _, _, _, _, _, _, rfl, _⟩ := h; rfl) | (obtain ⟨_, _, _, _, _, _, _, _, _, rfl, _⟩ := h; rfl) | (obtain ⟨_, _, _, _, _, _, _, _, _, _, rfl, _⟩ := h; rfl) | (obtain ⟨_, _, _, _, _, _, _, _, _, _, _, rfl, _⟩ := h; rfl) | (obtain ⟨_, _, _, _, _, _, _, _, _, _, _, _, rfl, _⟩ := h; rfl) | (obtain ⟨_, _, _, _, _, _, _, _, _, _, _, _, _, rfl, _⟩ := h; rfl)) rfl rfl (der__law_merged (k := 6) B ((fn_merge X B Z TB).mono (by decide)) ((fn__law_said X B Z TB).mono (by decide)) (TB ("_law_merged", none) (by decide))) spec_merged hm (fun _ _ _ _ _ _ us hl => match us, hl with | [_], _ => rfl)
theorem fn__law_is_part (X : Defs P K mg) (B : Bi mg) (Z : Errs P w K mg base) (TB : ∀ p ∈ tfs, LamX.TabB base mg (He.cT K p).1 (He.cT K p).2) : Fn false P w K mg base 3 "_law_is_part" [] sp_part := by
  obtain ⟨fd, F, hm⟩ := X._law_is_part
  exact Fn.plain F sc__law_is_part (by intro ds m Q E h; first | (obtain ⟨rfl, _⟩ := h; rfl) | (obtain ⟨_, rfl, _⟩ := h; rfl) | (obtain ⟨_, _, rfl, _⟩ := h; rfl) | (obtain ⟨_, _, _, rfl, _⟩ := h; rfl) | (obtain ⟨_, _, _, _, rfl, _⟩ := h; rfl) | (obtain ⟨_, _, _, _, _, rfl, _⟩ := h; rfl) | (obtain ⟨_, _, _, _, _, _, rfl, _⟩ := h; rfl) | (obtain ⟨_, _, _, _, _, _, _, rfl, _⟩ := h; rfl) | (obtain ⟨_, _, _, _, _, _, _, _, rfl, _⟩ := h; rfl) | (obtain ⟨_, _, _, _, _, _, _, _, _, rfl, _⟩ := h; rfl) | (obtain ⟨_, _, _, _, _, _, _, _, _, _, rfl, _⟩ := h; rfl) | (obtain ⟨_, _, _, _, _, _, _, _, _, _, _, rfl, _⟩ := h; rfl) | (obtain ⟨_, _, _, _, _, _, _, _, _, _, _, _, rfl, _⟩ := h; rfl) | (obtain ⟨_, _, _, _, _, _, _, _, _, _, _, _, _, rfl, _⟩ := h; rfl)) (der__law_is_part (k := 0) B) spec_is_part hm (fun _ _ _ _ _ _ us hl => match us, hl with | [_, _], _ => rfl)
theorem fn_law (X : Defs P K mg) (B : Bi mg) (Z : Errs P w K mg base) (TB : ∀ p ∈ tfs, LamX.TabB base mg (He.cT K p).1 (He.cT K p).2) : Fn true P w K mg base 12 "law" [] (sp_law (He.cT K ("_law_merged", none)).2) := by
  obtain ⟨fd, F, hm⟩ := X.law
  exact Fn.plain F sc_law (by intro ds m Q E h; first | (obtain ⟨rfl, _⟩ := h; rfl) | (obtain ⟨_, rfl, _⟩ := h; rfl) | (obtain ⟨_, _, rfl, _⟩ := h; rfl) | (obtain ⟨_, _, _, rfl, _⟩ := h; rfl) | (obtain ⟨_, _, _, _, rfl, _⟩ := h; rfl) | (obtain ⟨_, _, _, _, _, rfl, _⟩ := h; rfl) | (obtain ⟨_, _, _, _, _, _, rfl, _⟩ := h; rfl) | (obtain ⟨_, _, _, _, _, _, _, rfl, _⟩ := h; rfl) | (obtain ⟨_, _, _, _, _, _, _, _, rfl, _⟩ := h; rfl) | (obtain ⟨_, _, _, _, _, _, _, _, _, rfl, _⟩ := h; rfl) | (obtain ⟨_, _, _, _, _, _, _, _, _, _, rfl, _⟩ := h; rfl) | (obtain ⟨_, _, _, _, _, _, _, _, _, _, _, rfl, _⟩ := h; rfl) | (obtain ⟨_, _, _, _, _, _, _, _, _, _, _, _, rfl, _⟩ := h; rfl) | (obtain ⟨_, _, _, _, _, _, _, _, _, _, _, _, _, rfl, _⟩ := h; rfl)) (der_law (k := 9) B ((fn__law_cell X B Z TB).mono (by decide)) ((fn__law_row X B Z TB).mono (by decide)) ((fn__law_merged X B Z TB).mono (by decide)) ((fn__law_has_ring X B Z TB).mono (by decide)) ((fn__law_all X B Z TB).mono (by decide)) ((fn__law_is_part X B Z TB).mono (by decide))) spec_law hm (fun _ _ _ _ _ _ us hl => match us, hl with | [_], _ => rfl)
end
end K09

/-! K09F: the head and the law. -/
namespace K09
open PySem PySem.Spec PyProof.Rows L2 DL NdefX
def dD (x : Str) (st : Stmt) (kw : List (Str × He.Dv) := []) : He.DefD := ⟨(x, none), x, x, defArgs st, defBody st, defScope st, [], kw⟩
def fn : List He.DefD := [dD "heads_of" st_heads_of [], dD "merge" st_merge [("name", .non)], dD "_law_cell" st__law_cell [], dD "_law_said" st__law_said [], dD "_law_row" st__law_row [], dD "_law_behind" st__law_behind [], dD "_law_all" st__law_all [], dD "_law_has_ring" st__law_has_ring [], dD "_law_merged" st__law_merged [], dD "_law_is_part" st__law_is_part [], dD "law" st_law []]
def fa : List He.Fa := [.glo "heads_of", .glo "merge", .glo "_law_cell", .glo "_law_said", .glo "_law_row", .glo "_law_behind", .glo "_law_all", .glo "_law_has_ring", .glo "_law_merged", .glo "_law_is_part", .glo "law", .free "any", .free "enumerate", .free "isinstance", .free "len", .free "list", .free "min", .free "range", .free "set", .free "sorted", .free "sum", .free "tuple", .free "zip", .glo "OrderConflict", .exm "OrderConflict" "OrderConflict" true, .glo "ForgeError", .exm "OrderConflict" "ForgeError" true, .free "super"]
abbrev cls_OrderConflict : Stmt := top 2
abbrev ini_OrderConflict : Stmt := (clsBody cls_OrderConflict).getD 0 (.Pass ⟨0, 0, 0, 0⟩)
abbrev er_OrderConflict : ErrD := ⟨"OrderConflict", "OrderConflict.__init__", defArgs ini_OrderConflict, defBody ini_OrderConflict, defScope ini_OrderConflict, ["name", "heads"]⟩
def er : List ErrD := [er_OrderConflict]
def ex (K : Frag) : Bool := xfB K (ga K "OrderConflict")
abbrev R : PySem.W.OpenRow := PySem.W.OpenLaw.row PySem.Challenge.rw_classforge_k09_whole_merges_without_ring
def file : Str := R.prog.main.file
abbrev hk : PySem.W.Hook := hookZ 6 file fa fn er tfs ex
def ob (s : PySem.W.SharedT) : AlZ := obsZG 6 file fa fn er tfs ex (HandSHeadRun.getT s)
theorem ob_eq (s : PySem.W.SharedT) : ob s = hk.obs s.abs := obsZG_eq (HandSHeadRun.getT_eq s)
def loose : List Str := ["ForgeError", "OrderConflict", "heads_of", "merge", "_law_cell", "_law_said", "_law_row", "_law_behind", "_law_all", "_law_has_ring", "_law_merged", "_law_is_part"]
theorem run (w : World) : HandSHeadRun.RunEq R (PySem.W.view R.prog [15]) hk ob 4000 loose w := by
  intro os
  kernel_rfl
section
variable {w : World} {K : Frag} {mg : Str → Option Value} {base : Heap}
theorem nsc_OrderConflict : NScope ["self", "name", "heads", "__class__"] ["self", "name", "heads"] ["__class__"] (defScope ini_OrderConflict) := ⟨rfl, rfl, rfl, by decide +kernel, rfl, by decide +kernel, by decide +kernel, by decide +kernel, by decide +kernel⟩
theorem err_OrderConflict (c : SaysY file fa fn er ex K) (hsm : mg "super" = none) (hm : mg "OrderConflict" = some (.ref (ga K "OrderConflict"))) : ErrOk R.prog w K mg base 1 "OrderConflict" ["name", "heads"] := by
  obtain ⟨e1, e2⟩ := c.err 0 (d := er_OrderConflict) rfl
  obtain ⟨cA, cc, W, hno, _⟩ := ErrD.errK (prog := R.prog) e1 e2
  obtain ⟨fd, ok, hb⟩ := err_fn (w := w) (mg := mg) (base := base) (k := 0) (fs := ["name", "heads"]) (N := ["self", "name", "heads", "__class__"]) (ps := ["self", "name", "heads"]) W nsc_OrderConflict rfl (fun _ _ _ _ _ us hl => match us, hl with | [_, _, _], _ => rfl) rfl ⟨_, rfl⟩ rfl hsm (by decide +kernel) (fun L => ⟨_, rfl⟩) (fun L => rfl) (fun L => rfl) rfl (by decide) (by decide) hno (fun A outer s H E => .cons (pv 0) (pv 1) rfl (.cons (pv 0) (pv 2) rfl (.nil)))
  exact ⟨hm, W.T, _, fd, _, W.init, W.tI, ok, hb⟩
end
theorem facts {w : World} {h : Heap} {K : Frag} {mg : Str → Option Value} (X : K.In h) (G : h.Ns mainGlobals mg) (c : SaysZ file fa fn er tfs ex h K) : LawG PySem.Challenge.rw_classforge_k09_whole_merges_without_ring w K 63 12 "law" mg h := by
  have D : Defs R.prog K mg := by
    refine ⟨?_, ?_, ?_, ?_, ?_, ?_, ?_, ?_, ?_, ?_, ?_⟩
    · obtain ⟨fd, F⟩ := c.y.d.def_ 0 (d := dD "heads_of" st_heads_of []) rfl; exact ⟨fd, F, He.glo_ok X G (c.y.d.fact 0 (f := .glo "heads_of") rfl)⟩
    · obtain ⟨fd, F⟩ := c.y.d.def_ 1 (d := dD "merge" st_merge [("name", .non)]) rfl; exact ⟨fd, F, He.glo_ok X G (c.y.d.fact 1 (f := .glo "merge") rfl)⟩
    · obtain ⟨fd, F⟩ := c.y.d.def_ 2 (d := dD "_law_cell" st__law_cell []) rfl; exact ⟨fd, F, He.glo_ok X G (c.y.d.fact 2 (f := .glo "_law_cell") rfl)⟩
    · obtain ⟨fd, F⟩ := c.y.d.def_ 3 (d := dD "_law_said" st__law_said []) rfl; exact ⟨fd, F, He.glo_ok X G (c.y.d.fact 3 (f := .glo "_law_said") rfl)⟩
    · obtain ⟨fd, F⟩ := c.y.d.def_ 4 (d := dD "_law_row" st__law_row []) rfl; exact ⟨fd, F, He.glo_ok X G (c.y.d.fact 4 (f := .glo "_law_row") rfl)⟩
    · obtain ⟨fd, F⟩ := c.y.d.def_ 5 (d := dD "_law_behind" st__law_behind []) rfl; exact ⟨fd, F, He.glo_ok X G (c.y.d.fact 5 (f := .glo "_law_behind") rfl)⟩
    · obtain ⟨fd, F⟩ := c.y.d.def_ 6 (d := dD "_law_all" st__law_all []) rfl; exact ⟨fd, F, He.glo_ok X G (c.y.d.fact 6 (f := .glo "_law_all") rfl)⟩
    · obtain ⟨fd, F⟩ := c.y.d.def_ 7 (d := dD "_law_has_ring" st__law_has_ring []) rfl; exact ⟨fd, F, He.glo_ok X G (c.y.d.fact 7 (f := .glo "_law_has_ring") rfl)⟩
    · obtain ⟨fd, F⟩ := c.y.d.def_ 8 (d := dD "_law_merged" st__law_merged []) rfl; exact ⟨fd, F, He.glo_ok X G (c.y.d.fact 8 (f := .glo "_law_merged") rfl)⟩
    · obtain ⟨fd, F⟩ := c.y.d.def_ 9 (d := dD "_law_is_part" st__law_is_part []) rfl; exact ⟨fd, F, He.glo_ok X G (c.y.d.fact 9 (f := .glo "_law_is_part") rfl)⟩
    · obtain ⟨fd, F⟩ := c.y.d.def_ 10 (d := dD "law" st_law []) rfl; exact ⟨fd, F, He.glo_ok X G (c.y.d.fact 10 (f := .glo "law") rfl)⟩
  have B : Bi mg := ⟨He.free_ok X G (c.y.d.fact 11 (f := .free "any") rfl), He.free_ok X G (c.y.d.fact 12 (f := .free "enumerate") rfl), He.free_ok X G (c.y.d.fact 13 (f := .free "isinstance") rfl), He.free_ok X G (c.y.d.fact 14 (f := .free "len") rfl), He.free_ok X G (c.y.d.fact 15 (f := .free "list") rfl), He.free_ok X G (c.y.d.fact 16 (f := .free "min") rfl), He.free_ok X G (c.y.d.fact 17 (f := .free "range") rfl), He.free_ok X G (c.y.d.fact 18 (f := .free "set") rfl), He.free_ok X G (c.y.d.fact 19 (f := .free "sorted") rfl), He.free_ok X G (c.y.d.fact 20 (f := .free "sum") rfl), He.free_ok X G (c.y.d.fact 21 (f := .free "tuple") rfl), He.free_ok X G (c.y.d.fact 22 (f := .free "zip") rfl)⟩
  have hsm : mg "super" = none := He.free_ok X G (c.y.d.fact 27 (f := .free "super") rfl)
  have Z : ∀ base, Errs R.prog w K mg base := fun base => by
    have mo := c.y.more
    refine ⟨?_, ?_, ?_, ?_⟩
    · exact err_OrderConflict c.y hsm (He.glo_ok X G (c.y.d.fact 23 (f := .glo "OrderConflict") rfl))
    · obtain ⟨e1, e2⟩ := c.y.err 0 (d := er_OrderConflict) rfl
      obtain ⟨_, _, _, hno, _⟩ := ErrD.errK (prog := R.prog) e1 e2
      exact ⟨xfB_ok mo, hno⟩
    · exact ⟨He.glo_ok X G (c.y.d.fact 23 (f := .glo "OrderConflict") rfl), (by intro s hs; rw [List.mem_singleton.mp hs]; exact He.exm_ok (c.y.d.fact 24 (f := .exm "OrderConflict" "OrderConflict" true) rfl)), (by intro s hs; cases hs)⟩
    · exact ⟨He.glo_ok X G (c.y.d.fact 25 (f := .glo "ForgeError") rfl), (by intro s hs; rw [List.mem_singleton.mp hs]; exact He.exm_ok (c.y.d.fact 26 (f := .exm "OrderConflict" "ForgeError" true) rfl)), (by intro s hs; cases hs)⟩
  refine ⟨[((He.cT K ("_law_merged", none)).1, (He.cT K ("_law_merged", none)).2, lamQ "_law_merged")], (sp_law (He.cT K ("_law_merged", none)).2), ?_, ?_, ?_, fun ns hl hbits => ?_, fun base hK hG hT => ?_⟩
  · intro p hp; rw [List.mem_singleton.mp hp]; exact c.nil ("_law_merged", none) (by decide)
  · intro p hp; rw [List.mem_singleton.mp hp]; exact c.out ("_law_merged", none) (by decide)
  · intro p hp; rw [List.mem_singleton.mp hp]; exact PySem.W.codeHd_of_K X (c.hd ("_law_merged", none) (by decide))
  · exact ⟨ns, rfl, hl, by simp [mem0], fun _ => rfl⟩
  · exact fn_law D B (Z base) (by intro p hp; rw [List.mem_singleton.mp hp]; exact hT _ (List.mem_cons_self ..))
end K09
open PySem PySem.W PySem.Calls PyProof.Rows
theorem PySem.Challenge.cw_classforge_k09_whole_merges_without_ring_holds : PySem.Challenge.rw_classforge_k09_whole_merges_without_ring.Holds := by
  w_on; o_law
  refine HandSHeadRun.head_any (r := OpenLaw.row PySem.Challenge.rw_classforge_k09_whole_merges_without_ring) (q := view (OpenLaw.row PySem.Challenge.rw_classforge_k09_whole_merges_without_ring).prog [15]) (H := K09.hk) (ob := K09.ob) (M := 4000) (loose := K09.loose) (d := HandSHeadRun.topDef (OpenLaw.row PySem.Challenge.rw_classforge_k09_whole_merges_without_ring).prog 15) (kwd := []) K09.ob_eq
    (by kernel_rfl) (fun s => by kernel_rfl) K09.run (by kernel_rfl) (by kernel_rfl) (by kernel_rfl) (by rfl) (by first | assumption | decide +kernel) (by decide +kernel) ⟨rfl, rfl, rfl, rfl, rfl, by decide +kernel⟩ ?hw ?hc
  case hw => w_witness2
  case hc =>
    refine DL.walk_G (l := PySem.Challenge.rw_classforge_k09_whole_merges_without_ring) (n := 63) (k := 12) rfl (by decide) (by kernel_rfl) ⟨⟨rfl, by decide, by decide⟩, fun _ => rfl⟩ ?F
    intro w mg fa h Y G hmg0
    obtain ⟨K, KX, c⟩ := Y
    have e : (HandSHeadRun.topDef (OpenLaw.row PySem.Challenge.rw_classforge_k09_whole_merges_without_ring).prog 15).name = ("law" : PySem.Str) := by kernel_rfl
    rw [e]
    exact ⟨K, KX, K09.facts KX G c⟩
