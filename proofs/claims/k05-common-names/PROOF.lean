import PyProof.Rows.All
import Wide.All
import OpenK.AllK
import Wide.FinOn
import KE.KStateDown
import Lean
import HandS.ForMost
import HandS.ForExc
import HandS.Defaults
import HandS.CallSlots
import HandS.TryMany
import HandS.HeadHook1
import HandS.TupAny
import HandS.Style
import PyProof.Rows.SortShellAny
import HandS.IsInst
import HandS.Star
import HandS.Dict
import HandS.Ends
import PySem.Challenge.RW_classforge_k05_common_names
import HandS.Head0
import HandS.Head1
import HandS.Head2
import HandS.HeadEnd
import HandS.HeadHook2
set_option Elab.async false
set_option linter.all false
set_option maxRecDepth 100000
set_option maxHeartbeats 0
/-! D1: pure data over the hand layer: values D, the memory of changing cells, the relation to the abstract heap, judgements. -/
namespace DL
open PySem PySem.Spec L2

/-- data: tuples and lists that never change are values; ref: an object known by its address -/
inductive D where
  | non | bl (b : Bool) | int (i : Int) | str (x : Str) | ty (n : String) | ref (a : Addr)
  | tup (xs : List D) | lst (xs : List D)
  /-- a list that was there ahead of everything -/
  | klst (xs : List D)
  deriving Inhabited

/-- what changes -/
inductive Cell where
  | lst (xs : List D)
  | dct (kvs : List (Key × D))
  | dcT (kvs : List (List Key × D))
  | ins (C : Str) (fs : List (Str × D))
abbrev Mem := Addr → Option Cell
def Mem.put (m : Mem) (a : Addr) (c : Cell) : Mem := fun b => if b = a then some c else m b
def Mem.del (m : Mem) (a : Addr) : Mem := fun b => if b = a then none else m b
def Mem.le (m m' : Mem) : Prop := ∀ a c, m a = some c → m' a = some c
theorem Mem.le_refl (m : Mem) : m.le m := fun _ _ h => h
theorem Mem.le_trans {a b c : Mem} (h : a.le b) (h' : b.le c) : a.le c := fun x y z => h' x y (h x y z)
@[simp] theorem Mem.put_same {m : Mem} {a : Addr} {c : Cell} : (m.put a c) a = some c := by simp [Mem.put]
theorem Mem.put_ne {m : Mem} {a b : Addr} {c : Cell} (h : b ≠ a) : (m.put a c) b = m b := by simp [Mem.put, h]
@[simp] theorem Mem.del_same {m : Mem} {a : Addr} : (m.del a) a = none := by simp [Mem.del]
theorem Mem.del_ne {m : Mem} {a b : Addr} (h : b ≠ a) : (m.del a) b = m b := by simp [Mem.del, h]
@[simp] theorem Mem.put_put {m : Mem} {a : Addr} {c c' : Cell} : (m.put a c).put a c' = m.put a c' := by
  funext b; unfold Mem.put; split <;> rfl
@[simp] theorem Mem.put_del {m : Mem} {a : Addr} {c : Cell} : (m.put a c).del a = m.del a := by
  funext b; unfold Mem.put Mem.del; by_cases h : b = a <;> simp [h]
theorem Mem.del_none {m : Mem} {a : Addr} (h : m a = none) : m.del a = m := by
  funext b; unfold Mem.del; split
  · rename_i e; rw [e, h]
  · rfl
theorem Mem.put_comm {m : Mem} {a b : Addr} {c c' : Cell} (h : a ≠ b) : (m.put a c).put b c' = (m.put b c').put a c := by
  funext x; unfold Mem.put; split
  · split
    · rename_i e1 e2; exact absurd (e2.symm.trans e1) h
    · rfl
  · rfl
theorem Mem.put_del_comm {m : Mem} {a b : Addr} {c : Cell} (h : a ≠ b) : (m.put a c).del b = (m.del b).put a c := by
  funext x; unfold Mem.put Mem.del; split
  · split
    · rename_i e1 e2; exact absurd (e2.symm.trans e1) h
    · rfl
  · rfl
theorem Mem.le_put {m : Mem} {a : Addr} {c : Cell} (h : m a = none) : m.le (m.put a c) := fun b o e => by
  have : b ≠ a := fun z => by rw [z, h] at e; cases e
  rw [Mem.put_ne this]; exact e
theorem Mem.ne_of {m : Mem} {a b : Addr} {c : Cell} (h : m a = some c) (h' : m b = none) : a ≠ b := fun z => by
  rw [z, h'] at h; cases h

/-- the written part -/
abbrev Frag := PySem.W.Frag
abbrev ga (K : Frag) (x : Str) : Addr := He.ga K x

mutual
/-- data as it stands: F is what never changes any more -/
def Den (K : Frag) (F : Hp) : D → V → Prop
  | .non, v => v = .non
  | .bl b, v => v = .bl b
  | .int i, v => v = .int i
  | .str x, v => v = .str x
  | .ty n, v => v = .ty n
  | .ref a, v => v = .ref a
  | .tup ds, v => ∃ a vs, v = .ref a ∧ SqT K F a vs ∧ Dens K F ds vs
  | .lst ds, v => ∃ a vs, v = .ref a ∧ Rd F a (.lst vs) ∧ Dens K F ds vs
  | .klst ds, v => ∃ a vs, v = .ref a ∧ SqL K F a vs ∧ Dens K F ds vs
def Dens (K : Frag) (F : Hp) : List D → List V → Prop
  | [], vs => vs = []
  | d :: ds, vs => ∃ v r, vs = v :: r ∧ Den K F d v ∧ Dens K F ds r
end
def Sub (F F' : Hp) : Prop := ∀ a o, F a = some o → F' a = some o
theorem Sub.refl (F : Hp) : Sub F F := fun _ _ h => h
theorem Sub.trans {F G H : Hp} (a : Sub F G) (b : Sub G H) : Sub F H := fun x o h => b x o (a x o h)
theorem Sub.rd {F F' : Hp} (s : Sub F F') {a : Addr} {u : HO} (h : Rd F a u) : Rd F' a u := by
  rcases h with h | ⟨o, h⟩
  · exact .inl (s _ _ h)
  · exact .inr ⟨o, s _ _ h⟩
theorem Sub.sqL {K : Frag} {F F' : Hp} (s : Sub F F') {a : Addr} {xs : List V} (h : SqL K F a xs) : SqL K F' a xs := by
  rcases h with h | h
  · exact .inl (s.rd h)
  · exact .inr h
theorem Sub.sqT {K : Frag} {F F' : Hp} (s : Sub F F') {a : Addr} {xs : List V} (h : SqT K F a xs) : SqT K F' a xs := by
  rcases h with h | h
  · exact .inl (s.rd h)
  · exact .inr h
mutual
theorem Den.mono {K : Frag} {F F' : Hp} (s : Sub F F') : ∀ {d : D} {v : V}, Den K F d v → Den K F' d v
  | .non, _, h => h
  | .bl _, _, h => h
  | .int _, _, h => h
  | .str _, _, h => h
  | .ty _, _, h => h
  | .ref _, _, h => h
  | .tup ds, _, h => by
    simp only [Den] at h ⊢
    obtain ⟨a, vs, e, q, r⟩ := h
    exact ⟨a, vs, e, s.sqT q, Dens.mono s r⟩
  | .lst ds, _, h => by
    simp only [Den] at h ⊢
    obtain ⟨a, vs, e, q, r⟩ := h
    exact ⟨a, vs, e, s.rd q, Dens.mono s r⟩
  | .klst ds, _, h => by
    simp only [Den] at h ⊢
    obtain ⟨a, vs, e, q, r⟩ := h
    exact ⟨a, vs, e, s.sqL q, Dens.mono s r⟩
theorem Dens.mono {K : Frag} {F F' : Hp} (s : Sub F F') : ∀ {ds : List D} {vs : List V}, Dens K F ds vs → Dens K F' ds vs
  | [], _, h => h
  | d :: ds, _, h => by
    simp only [Dens] at h ⊢
    obtain ⟨v, r, e, q, z⟩ := h
    exact ⟨v, r, e, Den.mono s q, Dens.mono s z⟩
end
theorem Dens.length {K : Frag} {F : Hp} : ∀ {ds : List D} {vs : List V}, Dens K F ds vs → ds.length = vs.length
  | [], _, h => by simp only [Dens] at h; subst h; rfl
  | d :: ds, _, h => by
    simp only [Dens] at h
    obtain ⟨v, r, rfl, q, z⟩ := h
    simp [Dens.length z]
theorem Dens.get {K : Frag} {F : Hp} : ∀ {ds : List D} {vs : List V} {i : Nat} {d : D}, Dens K F ds vs → ds[i]? = some d → ∃ v, vs[i]? = some v ∧ Den K F d v
  | [], _, _, _, _, e => by simp at e
  | d :: ds, _, 0, x, h, e => by
    simp only [Dens] at h
    obtain ⟨v, r, rfl, q, z⟩ := h
    simp at e; subst e
    exact ⟨v, rfl, q⟩
  | d :: ds, _, i + 1, x, h, e => by
    simp only [Dens] at h
    obtain ⟨v, r, rfl, q, z⟩ := h
    simpa using Dens.get (i := i) z (by simpa using e)
theorem Dens.append {K : Frag} {F : Hp} : ∀ {ds es : List D} {vs ws : List V}, Dens K F ds vs → Dens K F es ws → Dens K F (ds ++ es) (vs ++ ws)
  | [], _, _, _, h, h' => by simp only [Dens] at h; subst h; exact h'
  | d :: ds, es, _, ws, h, h' => by
    simp only [Dens] at h
    obtain ⟨v, r, rfl, q, z⟩ := h
    show Dens K F (d :: (ds ++ es)) (v :: (r ++ ws))
    simp only [Dens]
    exact ⟨v, _, rfl, q, Dens.append z h'⟩
theorem Dens.one {K : Frag} {F : Hp} {d : D} {v : V} (h : Den K F d v) : Dens K F [d] [v] := by
  simp only [Dens]; exact ⟨v, [], rfl, h, rfl⟩
theorem Dens.cons {K : Frag} {F : Hp} {d : D} {v : V} {ds : List D} {vs : List V} (h : Den K F d v) (h' : Dens K F ds vs) : Dens K F (d :: ds) (v :: vs) := by
  simp only [Dens]; exact ⟨v, vs, rfl, h, h'⟩
theorem Dens.nil {K : Frag} {F : Hp} : Dens K F [] [] := by simp only [Dens]
theorem Dens.drop {K : Frag} {F : Hp} : ∀ {ds : List D} {vs : List V} (n : Nat), Dens K F ds vs → Dens K F (ds.drop n) (vs.drop n)
  | ds, vs, 0, h => h
  | [], _, n + 1, h => by simp only [Dens] at h; subst h; exact Dens.nil
  | d :: ds, _, n + 1, h => by
    simp only [Dens] at h
    obtain ⟨v, r, rfl, q, z⟩ := h
    exact Dens.drop n z
theorem Dens.take {K : Frag} {F : Hp} : ∀ {ds : List D} {vs : List V} (n : Nat), Dens K F ds vs → Dens K F (ds.take n) (vs.take n)
  | ds, vs, 0, h => by simp only [List.take_zero]; exact Dens.nil
  | [], _, n + 1, h => by simp only [Dens] at h; subst h; exact Dens.nil
  | d :: ds, _, n + 1, h => by
    simp only [Dens] at h
    obtain ⟨v, r, rfl, q, z⟩ := h
    exact Dens.cons q (Dens.take n z)
theorem Dens.set {K : Frag} {F : Hp} {d : D} {v : V} (hd : Den K F d v) : ∀ {ds : List D} {vs : List V} (n : Nat), Dens K F ds vs → Dens K F (ds.set n d) (vs.set n v)
  | [], _, n, h => by simp only [Dens] at h; subst h; exact Dens.nil
  | e :: ds, _, 0, h => by
    simp only [Dens] at h
    obtain ⟨w, r, rfl, q, z⟩ := h
    exact Dens.cons hd z
  | e :: ds, _, n + 1, h => by
    simp only [Dens] at h
    obtain ⟨w, r, rfl, q, z⟩ := h
    exact Dens.cons q (Dens.set hd n z)

/-- pairs of a dict -/
def DenP {κ : Type} (K : Frag) (F : Hp) : List (κ × D) → List (κ × V) → Prop := Paired fun p q => p.1 = q.1 ∧ Den K F p.2 q.2
theorem DenP.mono {κ : Type} {K : Frag} {F F' : Hp} (s : Sub F F') {ps : List (κ × D)} {qs : List (κ × V)} (h : DenP K F ps qs) : DenP K F' ps qs :=
  Paired.mapP h fun _ _ z => ⟨z.1, z.2.mono s⟩
theorem DenP.lookup {κ : Type} [BEq κ] {K : Frag} {F : Hp} {k : κ} : ∀ {ps : List (κ × D)} {qs : List (κ × V)}, DenP K F ps qs → ∀ {d : D}, ps.lookup k = some d → ∃ v, qs.lookup k = some v ∧ Den K F d v
  | _, _, .nil, _, e => by simp at e
  | (a, b) :: _, (a', b') :: _, .cons h t, d, e => by
    obtain ⟨h1, h2⟩ := h
    have h1 : a = a' := h1
    subst h1
    rw [List.lookup_cons] at e ⊢
    split at e
    · cases e; exact ⟨b', rfl, h2⟩
    · exact DenP.lookup t e
theorem DenP.lookup_none {κ : Type} [BEq κ] {K : Frag} {F : Hp} {k : κ} : ∀ {ps : List (κ × D)} {qs : List (κ × V)}, DenP K F ps qs → ps.lookup k = none → qs.lookup k = none
  | _, _, .nil, e => rfl
  | (a, b) :: _, (a', b') :: _, .cons h t, e => by
    obtain ⟨h1, h2⟩ := h
    have h1 : a = a' := h1
    subst h1
    rw [List.lookup_cons] at e ⊢
    split at e
    · cases e
    · exact DenP.lookup_none t e
theorem DenP.length {κ : Type} {K : Frag} {F : Hp} {ps : List (κ × D)} {qs : List (κ × V)} (h : DenP K F ps qs) : ps.length = qs.length := Paired.length h

/-- a cell as it stands -/
def CellOk (K : Frag) (F H : Hp) (a : Addr) : Cell → Prop
  | .lst ds => ∃ vs, H a = some (.lst vs) ∧ Dens K F ds vs
  | .dct kvs => ∃ qs, H a = some (.dK qs) ∧ DenP K F kvs qs
  | .dcT kvs => ∃ qs, H a = some (.dT qs) ∧ DenP K F kvs qs
  | .ins C fs => ∃ dx gs, H a = some (.ins (ga K C) dx gs) ∧ DenP K F fs gs
/-- F: what never changes; m: what may; H: the abstract heap -/
structure Rel (K : Frag) (F : Hp) (m : Mem) (H : Hp) : Prop where
  fz : Sub F H
  me : ∀ a c, m a = some c → F a = none ∧ CellOk K F H a c
theorem CellOk.some {K : Frag} {F H : Hp} {a : Addr} {c : Cell} (h : CellOk K F H a c) : ∃ o, H a = some o := by
  cases c <;> simp only [CellOk] at h
  · obtain ⟨_, e, _⟩ := h; exact ⟨_, e⟩
  · obtain ⟨_, e, _⟩ := h; exact ⟨_, e⟩
  · obtain ⟨_, e, _⟩ := h; exact ⟨_, e⟩
  · obtain ⟨_, _, e, _⟩ := h; exact ⟨_, e⟩
theorem CellOk.to {K : Frag} {F F' H H' : Hp} {a : Addr} {c : Cell} (h : CellOk K F H a c) (s : Sub F F') (e : H' a = H a) : CellOk K F' H' a c := by
  cases c <;> simp only [CellOk] at h ⊢
  · obtain ⟨vs, e1, r⟩ := h; exact ⟨vs, e.trans e1, r.mono s⟩
  · obtain ⟨vs, e1, r⟩ := h; exact ⟨vs, e.trans e1, r.mono s⟩
  · obtain ⟨vs, e1, r⟩ := h; exact ⟨vs, e.trans e1, r.mono s⟩
  · obtain ⟨dx, gs, e1, r⟩ := h; exact ⟨dx, gs, e.trans e1, r.mono s⟩
section
variable {K : Frag} {F : Hp} {m m' : Mem} {H : Hp}
theorem Rel.le (r : Rel K F m H) (h : m'.le m) : Rel K F m' H := ⟨r.fz, fun a c e => r.me a c (h a c e)⟩
theorem Rel.free (r : Rel K F m H) {a : Addr} (h : H a = none) : F a = none ∧ m a = none := by
  constructor
  · cases e : F a with
    | none => rfl
    | some o => rw [r.fz a o e] at h; cases h
  · cases e : m a with
    | none => rfl
    | some c =>
      obtain ⟨_, q⟩ := r.me a c e
      obtain ⟨o, z⟩ := q.some
      rw [z] at h; cases h
/-- a new object that will not change -/
theorem Rel.frozen (r : Rel K F m H) {a : Addr} {o : HO} (h : H a = none) : Rel K (upd F a o) m (upd H a o) ∧ Sub F (upd F a o) := by
  obtain ⟨f1, f2⟩ := r.free h
  have sb : Sub F (upd F a o) := fun b u e => by
    rw [upd_ne (fun z => by rw [z, f1] at e; cases e)]; exact e
  refine ⟨⟨fun b u e => ?_, fun b c e => ?_⟩, sb⟩
  · by_cases z : b = a
    · subst z; rw [upd_same] at e ⊢; exact e
    · rw [upd_ne z] at e ⊢; exact r.fz b u e
  · have z : b ≠ a := fun z => by rw [z, f2] at e; cases e
    obtain ⟨g, q⟩ := r.me b c e
    exact ⟨by rw [upd_ne z]; exact g, q.to sb (upd_ne z)⟩
/-- a new cell -/
theorem Rel.fresh (r : Rel K F m H) {a : Addr} {o : HO} {c : Cell} (h : H a = none) (q : CellOk K F (upd H a o) a c) : Rel K F (m.put a c) (upd H a o) := by
  obtain ⟨f1, f2⟩ := r.free h
  refine ⟨fun b u e => ?_, fun b c' e => ?_⟩
  · rw [upd_ne (fun z => by rw [z, f1] at e; cases e)]; exact r.fz b u e
  · by_cases z : b = a
    · subst z; rw [Mem.put_same] at e; cases e; exact ⟨f1, q⟩
    · rw [Mem.put_ne z] at e
      obtain ⟨g, q'⟩ := r.me b c' e
      exact ⟨g, q'.to (Sub.refl F) (upd_ne z)⟩
/-- a cell changed -/
theorem Rel.store (r : Rel K F m H) {a : Addr} {o : HO} {c c0 : Cell} (h : m a = some c0) (q : CellOk K F (upd H a o) a c) : Rel K F (m.put a c) (upd H a o) := by
  obtain ⟨f1, _⟩ := r.me a c0 h
  refine ⟨fun b u e => ?_, fun b c' e => ?_⟩
  · rw [upd_ne (fun z => by rw [z, f1] at e; cases e)]; exact r.fz b u e
  · by_cases z : b = a
    · subst z; rw [Mem.put_same] at e; cases e; exact ⟨f1, q⟩
    · rw [Mem.put_ne z] at e
      obtain ⟨g, q'⟩ := r.me b c' e
      exact ⟨g, q'.to (Sub.refl F) (upd_ne z)⟩
/-- a list that will not change any more -/
theorem Rel.freeze (r : Rel K F m H) {a : Addr} {ds : List D} (h : m a = some (.lst ds)) : ∃ F', Sub F F' ∧ Rel K F' (m.del a) H ∧ Den K F' (.lst ds) (.ref a) := by
  obtain ⟨f1, q⟩ := r.me a _ h
  simp only [CellOk] at q
  obtain ⟨vs, e, dn⟩ := q
  have sb : Sub F (upd F a (.lst vs)) := fun b u e => by
    rw [upd_ne (fun z => by rw [z, f1] at e; cases e)]; exact e
  refine ⟨upd F a (.lst vs), sb, ⟨fun b u e' => ?_, fun b c e' => ?_⟩, ?_⟩
  · by_cases z : b = a
    · subst z; rw [upd_same] at e'; rw [← e']; exact e
    · rw [upd_ne z] at e'; exact r.fz b u e'
  · have z : b ≠ a := fun z => by rw [z, Mem.del_same] at e'; cases e'
    rw [Mem.del_ne z] at e'
    obtain ⟨g, q'⟩ := r.me b c e'
    exact ⟨by rw [upd_ne z]; exact g, q'.to sb rfl⟩
  · simp only [Den]
    exact ⟨a, vs, rfl, .inl upd_same, dn.mono sb⟩
theorem Rel.sqT (r : Rel K F m H) {a : Addr} {xs : List V} (h : SqT K F a xs) : SqT K H a xs := Sub.sqT r.fz h
theorem Rel.rd (r : Rel K F m H) {a : Addr} {u : HO} (h : Rd F a u) : Rd H a u := Sub.rd r.fz h
theorem Rel.sqL (r : Rel K F m H) {a : Addr} {xs : List V} (h : SqL K F a xs) : SqL K H a xs := Sub.sqL r.fz h
end

/-! ### a def's names -/
abbrev En := List (Option D)
structure EnvDen (K : Frag) (F : Hp) (σ : St) (env : En) : Prop where
  len : env.length = σ.length
  at_ : ∀ (i : Nat) (d : D), env[i]? = some (some d) → ∃ v : V, σ[i]? = some (some v) ∧ Den K F d v
theorem EnvDen.mono {K : Frag} {F F' : Hp} {σ : St} {env : En} (h : EnvDen K F σ env) (s : Sub F F') : EnvDen K F' σ env :=
  ⟨h.len, fun i d e => let ⟨v, a, b⟩ := h.at_ i d e; ⟨v, a, b.mono s⟩⟩
theorem EnvDen.set {K : Frag} {F : Hp} {σ : St} {env : En} (h : EnvDen K F σ env) {d : D} {v : V} (r : Den K F d v) (i : Nat) : EnvDen K F (σ.set i (some v)) (env.set i (some d)) := by
  refine ⟨by simp [h.len], fun j e he => ?_⟩
  by_cases z : i = j
  · subst z
    by_cases l : i < env.length
    · rw [List.getElem?_set_self l] at he
      cases he
      exact ⟨v, List.getElem?_set_self (by rw [← h.len]; exact l), r⟩
    · rw [List.getElem?_eq_none (by simpa using l)] at he; cases he
  · rw [List.getElem?_set_ne z] at he ⊢
    exact h.at_ j e he
theorem EnvDen.unset {K : Frag} {F : Hp} {σ : St} {env : En} (h : EnvDen K F σ env) (i : Nat) : EnvDen K F (σ.set i none) (env.set i none) := by
  refine ⟨by simp [h.len], fun j e he => ?_⟩
  by_cases z : i = j
  · subst z
    by_cases l : i < env.length
    · rw [List.getElem?_set_self l] at he; cases he
    · rw [List.getElem?_eq_none (by simpa using l)] at he; cases he
  · rw [List.getElem?_set_ne z] at he ⊢
    exact h.at_ j e he

/-! ### errors -/
structure Exc where
  cls : Str
  fs : List (Str × D) := []
def ExcAt (K : Frag) (F : Hp) (cls : Value) (d : Option Addr) (H : Hp) (x : Exc) : Prop :=
  cls = .ref (ga K x.cls) ∧ ((x.fs = [] ∧ d = none) ∨ ∃ dd gs, d = some dd ∧ H dd = some (.xd gs) ∧ ∀ f e, x.fs.lookup f = some e → ∃ v, gs.lookup f = some v ∧ Den K F e v)

abbrev Po := D → Mem → Prop
abbrev Xo := Exc → Mem → Prop
abbrev Xc := Exc → En → Mem → Prop
abbrev WE := En → Mem → Po → Xo → Prop
abbrev WT := En → Mem → (Bool → Mem → Prop) → Xo → Prop
abbrev WA := En → Mem → (List D → Mem → Prop) → Xo → Prop
structure De where
  nx : En → Mem → Prop
  rt : D → Mem → Prop
  bk : En → Mem → Prop := fun _ _ => False
  ct : En → Mem → Prop := fun _ _ => False
  xc : Xc := fun _ _ _ => False
abbrev WS := De → En → Mem → Prop

def WofD (K : Frag) (F0 : Hp) (xc : Xc) : WX := fun cls d σ H => ∃ F m env x, Sub F0 F ∧ Rel K F m H ∧ EnvDen K F σ env ∧ ExcAt K F cls d H x ∧ xc x env m
/-- errors that this place lets out -/
def Acc (X : Cx) (F : Hp) (xc : Xc) : Prop := ∃ F0, Sub F0 F ∧ Takes X (WofD X.K F0 xc)
theorem Acc.no {X : Cx} {F : Hp} : Acc X F (fun _ _ _ => False) := ⟨F, Sub.refl F, fun _ _ ⟨_, _, _, _, _, _, _, _, _, _, _, _, _, _, _, _, w⟩ => by
  obtain ⟨_, _, _, _, _, _, _, _, z⟩ := w
  exact z.elim⟩
theorem Acc.mono {X : Cx} {F F' : Hp} {xc : Xc} (a : Acc X F xc) (s : Sub F F') : Acc X F' xc := let ⟨F0, s0, t⟩ := a; ⟨F0, s0.trans s, t⟩
theorem Acc.imp {X : Cx} {F : Hp} {xc xc' : Xc} (a : Acc X F xc) (h : ∀ x e m, xc' x e m → xc x e m) : Acc X F xc' :=
  let ⟨F0, s0, t⟩ := a
  ⟨F0, s0, Takes.imp t fun _ _ _ _ ⟨F, m, env, x, s, r, e, q, z⟩ => ⟨F, m, env, x, s, r, e, q, h _ _ _ z⟩⟩

/-- the readings of the hand layer that these words stand for -/
def tW (X : Cx) (w : WE) : TE := fun σ H Q => ∃ (F : Hp) (m : Mem) (env : En) (Qd : Po) (xc : Xc), Rel X.K F m H ∧ EnvDen X.K F σ env ∧ Acc X F xc ∧ w env m Qd (fun x m' => xc x env m') ∧
  ∀ v H' F' m' d, Sub F F' → Rel X.K F' m' H' → Den X.K F' d v → Qd d m' → Q v H'
def tWT (X : Cx) (w : WT) : TT := fun σ H Q => ∃ (F : Hp) (m : Mem) (env : En) (Qd : Bool → Mem → Prop) (xc : Xc), Rel X.K F m H ∧ EnvDen X.K F σ env ∧ Acc X F xc ∧ w env m Qd (fun x m' => xc x env m') ∧
  ∀ b H' F' m', Sub F F' → Rel X.K F' m' H' → Qd b m' → Q b H'
def tWA (X : Cx) (w : WA) : TA := fun σ H Q => ∃ (F : Hp) (m : Mem) (env : En) (Qd : List D → Mem → Prop) (xc : Xc), Rel X.K F m H ∧ EnvDen X.K F σ env ∧ Acc X F xc ∧ w env m Qd (fun x m' => xc x env m') ∧
  ∀ vs H' F' m' ds, Sub F F' → Rel X.K F' m' H' → Dens X.K F' ds vs → Qd ds m' → Q vs H'
def Fw (K : Frag) (F : Hp) (p : En → Mem → Prop) (q : St → Hp → Prop) : Prop := ∀ σ H F' m env, Sub F F' → Rel K F' m H → EnvDen K F' σ env → p env m → q σ H
theorem Fw.mono {K : Frag} {F F' : Hp} {p : En → Mem → Prop} {q : St → Hp → Prop} (h : Fw K F p q) (s : Sub F F') : Fw K F' p q := fun σ H G m env z => h σ H G m env (s.trans z)
def tWS (X : Cx) (w : WS) : TS := fun D σ H => ∃ (F : Hp) (m : Mem) (env : En) (E : De), Rel X.K F m H ∧ EnvDen X.K F σ env ∧ Acc X F E.xc ∧ w E env m ∧
  Fw X.K F E.nx D.nx ∧ Fw X.K F E.bk D.bk ∧ Fw X.K F E.ct D.ct ∧ ∀ v H' F' m' d, Sub F F' → Rel X.K F' m' H' → Den X.K F' d v → E.rt d m' → D.rt v H'
abbrev DE (X : Cx) (e : Expr) (w : WE) : Prop := PE X e (tW X w)
abbrev DT (X : Cx) (e : Expr) (w : WT) : Prop := PT X e (tWT X w)
abbrev DW (X : Cx) (e : Expr) (w : WT) : Prop := PW X e (tWT X w)
abbrev DA (X : Cx) (es : List Expr) (w : WA) : Prop := PA X es (tWA X w)
abbrev DS (X : Cx) (st : Stmt) (w : WS) : Prop := PS X st (tWS X w)
abbrev DSs (X : Cx) (st : List Stmt) (w : WS) : Prop := PSs X st (tWS X w)

theorem wkE {X : Cx} {e : Expr} {t t' : TE} (h : PE X e t) (i : ∀ σ H Q, t' σ H Q → t σ H Q) : PE X e t' := ⟨fun p s σ H Q I z => h.run p s σ H Q I (i _ _ _ z)⟩
theorem wkT {X : Cx} {e : Expr} {t t' : TT} (h : PT X e t) (i : ∀ σ H Q, t' σ H Q → t σ H Q) : PT X e t' := ⟨fun p s σ H Q I z => h.run p s σ H Q I (i _ _ _ z)⟩
theorem wkW {X : Cx} {e : Expr} {t t' : TT} (h : PW X e t) (i : ∀ σ H Q, t' σ H Q → t σ H Q) : PW X e t' := ⟨fun wh p s σ H Q I z => h.run wh p s σ H Q I (i _ _ _ z)⟩
theorem wkA {X : Cx} {e : List Expr} {t t' : TA} (h : PA X e t) (i : ∀ σ H Q, t' σ H Q → t σ H Q) : PA X e t' := ⟨fun ps p s σ H Q I z => h.run ps p s σ H Q I (i _ _ _ z)⟩
theorem wkS {X : Cx} {e : Stmt} {t t' : TS} (h : PS X e t) (i : ∀ D σ H, t' D σ H → t D σ H) : PS X e t' := ⟨fun p s σ H D I z => h.run p s σ H D I (i _ _ _ z)⟩
theorem wkSs {X : Cx} {e : List Stmt} {t t' : TS} (h : PSs X e t) (i : ∀ D σ H, t' D σ H → t D σ H) : PSs X e t' := ⟨fun p s σ H D I z => h.run p s σ H D I (i _ _ _ z)⟩

section
variable {X : Cx}
/-- a sub-expression within a reading -/
theorem tW.sub {w : WE} {F : Hp} {m : Mem} {env : En} {σ : St} {H : Hp} {Qd : Po} {xc : Xc} {Q : VK} (r : Rel X.K F m H) (e : EnvDen X.K F σ env) (a : Acc X F xc) (h : w env m Qd (fun x m' => xc x env m'))
    (k : ∀ v H' F' m' d, Sub F F' → Rel X.K F' m' H' → EnvDen X.K F' σ env → Den X.K F' d v → Qd d m' → Q v H') : tW X w σ H Q :=
  ⟨F, m, env, Qd, xc, r, e, a, h, fun v H' F' m' d s r' dn q => k v H' F' m' d s r' (e.mono s) dn q⟩
theorem tWT.sub {w : WT} {F : Hp} {m : Mem} {env : En} {σ : St} {H : Hp} {Qd : Bool → Mem → Prop} {xc : Xc} {Q : Bool → Hp → Prop} (r : Rel X.K F m H) (e : EnvDen X.K F σ env) (a : Acc X F xc) (h : w env m Qd (fun x m' => xc x env m'))
    (k : ∀ b H' F' m', Sub F F' → Rel X.K F' m' H' → EnvDen X.K F' σ env → Qd b m' → Q b H') : tWT X w σ H Q :=
  ⟨F, m, env, Qd, xc, r, e, a, h, fun b H' F' m' s r' q => k b H' F' m' s r' (e.mono s) q⟩
theorem tWA.sub {w : WA} {F : Hp} {m : Mem} {env : En} {σ : St} {H : Hp} {Qd : List D → Mem → Prop} {xc : Xc} {Q : List V → Hp → Prop} (r : Rel X.K F m H) (e : EnvDen X.K F σ env) (a : Acc X F xc) (h : w env m Qd (fun x m' => xc x env m'))
    (k : ∀ vs H' F' m' ds, Sub F F' → Rel X.K F' m' H' → EnvDen X.K F' σ env → Dens X.K F' ds vs → Qd ds m' → Q vs H') : tWA X w σ H Q :=
  ⟨F, m, env, Qd, xc, r, e, a, h, fun vs H' F' m' ds s r' dn q => k vs H' F' m' ds s r' (e.mono s) dn q⟩

/-! ### names, constants -/
def wVar (i : Nat) : WE := fun env m Q _ => ∃ d, env[i]? = some (some d) ∧ Q d m
def wC (d : D) : WE := fun _ m Q _ => Q d m
theorem dv (i : Nat) {x : Str} {pos : Pos} (hN : X.N[i]? = some x := by rfl) (hv : Vis X.env.scope x := by first | exact Or.inl rfl | exact Or.inr (Or.inl rfl) | exact Or.inr (Or.inr rfl)) (hd : (x == ("__debug__" : Str)) = false := by decide)
    (hcd : (x == ("__classdict__" : Str)) = false := by decide) : DE X (.Name x pos) (wVar i) := wkE (pe_var hN hv hd hcd) fun σ H Q ⟨F, m, env, Qd, xc, r, en, a, ⟨d, e, q⟩, k⟩ => by
  obtain ⟨v, e1, dn⟩ := en.at_ i d e
  exact ⟨v, e1, k v H F m d (Sub.refl F) r dn q⟩
theorem dC {e : Expr} {v : V} {d : D} (h : PE X e (tC v)) (hd : ∀ F, Den X.K F d v) : DE X e (wC d) := wkE h fun σ H Q ⟨F, m, env, Qd, xc, r, en, a, q, k⟩ => k v H F m d (Sub.refl F) r (hd F) q
theorem dint {i j pos} : DE X (.Constant (.int i) j pos) (wC (.int i)) := dC pe_int fun _ => by simp only [Den]
theorem dbl {b j pos} : DE X (.Constant (.bool b) j pos) (wC (.bl b)) := dC pe_bl fun _ => by simp only [Den]
theorem dnon {j pos} : DE X (.Constant .none j pos) (wC .non) := dC pe_non fun _ => by simp only [Den]
theorem dstr {x j pos} : DE X (.Constant (.str x) j pos) (wC (.str x)) := dC pe_str fun _ => by simp only [Den]

/-! ### operators -/
abbrev WO := D → D → Mem → Po → Xo → Prop
def wBin (f : WO) (wa wb : WE) : WE := fun env m Q E => wa env m (fun x m1 => wb env m1 (fun y m2 => f x y m2 Q E) E) E
/-- an operation by values: r is the hand layer's, f ours -/
def OpD (X : Cx) (r : R2) (f : WO) : Prop := ∀ (F : Hp) (m : Mem) (H : Hp) (x y : D) (v u : V) (Qd : Po) (E : Xo) (Q : VK), Rel X.K F m H → Den X.K F x v → Den X.K F y u → f x y m Qd E →
  (∀ v' H' F' m' d, Sub F F' → Rel X.K F' m' H' → Den X.K F' d v' → Qd d m' → Q v' H') → r v u H Q
theorem dbin_of {e a b : Expr} {r : R2} {f : WO} {wa wb : WE} (h : PE X e (tOp r (tW X wa) (tW X wb))) (o : OpD X r f) : DE X e (wBin f wa wb) := wkE h fun σ H Q ⟨F, m, env, Qd, xc, r0, en, a, q, k⟩ =>
  tW.sub r0 en a q fun v1 H1 F1 m1 d1 s1 r1 en1 dn1 q1 =>
    tW.sub r1 en1 (a.mono s1) q1 fun v2 H2 F2 m2 d2 s2 r2 en2 dn2 q2 =>
      o F2 m2 H2 d1 d2 v1 v2 Qd _ Q r2 (dn1.mono s2) dn2 q2 fun v' H' F' m' d s => k v' H' F' m' d ((s1.trans s2).trans s)
theorem dbin {op : Operator} {a b : Expr} {pos : Pos} {r : R2} {f : WO} {wa wb : WE} (ho : OpR X (binaryOp op) r) (o : OpD X r f) (ha : DE X a wa) (hb : DE X b wb) : DE X (.BinOp a op b pos) (wBin f wa wb) := dbin_of (a := a) (b := b) (pe_op ho ha hb) o
theorem dcmp {op : CmpOp} {a b : Expr} {pos : Pos} {r : R2} {f : WO} {wa wb : WE} (ho : OpR X (compareOp op) r) (o : OpD X r f) (ha : DE X a wa) (hb : DE X b wb) (hm : behindInMarks op b = false) : DE X (.Compare a [op] [b] pos) (wBin f wa wb) :=
  dbin_of (a := a) (b := b) (pe_cmpR ho ha hb hm) o
end
end DL

/-! D2: operators, tests, displays over data. -/
namespace DL
open PySem PySem.Spec L2

/-- the items of a list: a value, or a cell -/
def lstOf (m : Mem) : D → Option (List D)
  | .lst xs => some xs
  | .ref p => match m p with
    | some (.lst xs) => some xs
    | _ => none
  | _ => none
/-- .. of a list or a tuple -/
def seqOf (m : Mem) : D → Option (List D)
  | .tup xs => some xs
  | .lst xs => some xs
  | .klst xs => some xs
  | .ref p => match m p with
    | some (.lst xs) => some xs
    | _ => none
  | _ => none
@[simp] theorem lstOf_lst {m : Mem} {xs : List D} : lstOf m (.lst xs) = some xs := rfl
@[simp] theorem seqOf_lst {m : Mem} {xs : List D} : seqOf m (.lst xs) = some xs := rfl
@[simp] theorem seqOf_klst {m : Mem} {xs : List D} : seqOf m (.klst xs) = some xs := rfl
@[simp] theorem seqOf_tup {m : Mem} {xs : List D} : seqOf m (.tup xs) = some xs := rfl
theorem lstOf_ref {m : Mem} {p : Addr} {xs : List D} (h : m p = some (.lst xs)) : lstOf m (.ref p) = some xs := by simp [lstOf, h]
theorem seqOf_ref {m : Mem} {p : Addr} {xs : List D} (h : m p = some (.lst xs)) : seqOf m (.ref p) = some xs := by simp [seqOf, h]
section
variable {K : Frag} {F : Hp} {m : Mem} {H : Hp}
theorem Rel.lstOf (r : Rel K F m H) {d : D} {v : V} {xs : List D} (dn : Den K F d v) (e : DL.lstOf m d = some xs) : ∃ a vs, v = .ref a ∧ Rd H a (.lst vs) ∧ Dens K F xs vs := by
  cases d with
  | lst ys =>
    cases e
    simp only [Den] at dn
    obtain ⟨a, vs, e, q, z⟩ := dn
    exact ⟨a, vs, e, r.rd q, z⟩
  | ref p =>
    simp only [Den] at dn
    simp only [DL.lstOf] at e
    cases h : m p with
    | none => rw [h] at e; cases e
    | some c =>
      rw [h] at e
      cases c with
      | lst ys =>
        cases e
        obtain ⟨_, q⟩ := r.me p _ h
        simp only [CellOk] at q
        obtain ⟨vs, e1, z⟩ := q
        exact ⟨p, vs, dn, .inl e1, z⟩
      | _ => cases e
  | _ => cases e
theorem Rel.seqOf (r : Rel K F m H) {d : D} {v : V} {xs : List D} (dn : Den K F d v) (e : DL.seqOf m d = some xs) : ∃ a vs, v = .ref a ∧ (SqL K H a vs ∨ SqT K H a vs) ∧ Dens K F xs vs := by
  cases d with
  | tup ys =>
    cases e
    simp only [Den] at dn
    obtain ⟨a, vs, e, q, z⟩ := dn
    exact ⟨a, vs, e, .inr (r.sqT q), z⟩
  | lst ys =>
    obtain ⟨a, vs, e1, q, z⟩ := r.lstOf dn (show DL.lstOf m (.lst ys) = some xs from e)
    exact ⟨a, vs, e1, .inl (.inl q), z⟩
  | klst ys =>
    cases e
    simp only [Den] at dn
    obtain ⟨a, vs, e, q, z⟩ := dn
    exact ⟨a, vs, e, .inl (r.sqL q), z⟩
  | ref p =>
    obtain ⟨a, vs, e1, q, z⟩ := r.lstOf dn (show DL.lstOf m (.ref p) = some xs from e)
    exact ⟨a, vs, e1, .inl (.inl q), z⟩
  | _ => cases e
end

/-! ### data without cells, for == and repr -/
mutual
def pyR (r : Addr → Option PyData) : D → Option PyData
  | .non => some .none
  | .bl b => some (.bool b)
  | .int i => some (.int i)
  | .str x => some (.str x)
  | .ty _ => none
  | .ref a => r a
  | .tup xs => (pyRs r xs).map .tuple
  | .lst xs => (pyRs r xs).map .list
  | .klst xs => (pyRs r xs).map .list
def pyRs (r : Addr → Option PyData) : List D → Option (List PyData)
  | [] => some []
  | d :: ds => match pyR r d, pyRs r ds with
    | some p, some ps => some (p :: ps)
    | _, _ => none
end
/-- the data that stands there, cells read, n deep -/
def pyM (m : Mem) : Nat → D → Option PyData
  | 0 => pyR fun _ => none
  | n + 1 => pyR fun a => match m a with
    | some (.lst xs) => (pyRs (fun b => pyM m n (.ref b)) xs).map .list
    | _ => none
mutual
theorem pyR_dp {K : Frag} {F H : Hp} {r : Addr → Option PyData} (s : Sub F H) (hr : ∀ a p, r a = some p → Dp K H (.ref a) p) : ∀ {d : D} {v : V} {p : PyData}, Den K F d v → pyR r d = some p → Dp K H v p
  | .non, _, _, dn, e => by simp only [Den] at dn; simp only [pyR] at e; cases e; subst dn; exact .non
  | .bl _, _, _, dn, e => by simp only [Den] at dn; simp only [pyR] at e; cases e; subst dn; exact .bl _
  | .int _, _, _, dn, e => by simp only [Den] at dn; simp only [pyR] at e; cases e; subst dn; exact .int _
  | .str _, _, _, dn, e => by simp only [Den] at dn; simp only [pyR] at e; cases e; subst dn; exact .str _
  | .ty _, _, _, _, e => by simp only [pyR] at e; cases e
  | .ref a, _, _, dn, e => by simp only [Den] at dn; simp only [pyR] at e; subst dn; exact hr a _ e
  | .tup ds, _, p, dn, e => by
    simp only [Den] at dn
    obtain ⟨a, vs, e1, q, z⟩ := dn
    simp only [pyR] at e
    cases h : pyRs r ds with
    | none => rw [h] at e; cases e
    | some ps =>
      rw [h] at e; cases e; subst e1
      exact .tup (s.sqT q) (pyRs_dp s hr z h)
  | .lst ds, _, p, dn, e => by
    simp only [Den] at dn
    obtain ⟨a, vs, e1, q, z⟩ := dn
    simp only [pyR] at e
    cases h : pyRs r ds with
    | none => rw [h] at e; cases e
    | some ps =>
      rw [h] at e; cases e; subst e1
      exact .lst (.inl (s.rd q)) (pyRs_dp s hr z h)
  | .klst ds, _, p, dn, e => by
    simp only [Den] at dn
    obtain ⟨a, vs, e1, q, z⟩ := dn
    simp only [pyR] at e
    cases h : pyRs r ds with
    | none => rw [h] at e; cases e
    | some ps =>
      rw [h] at e; cases e; subst e1
      exact .lst (s.sqL q) (pyRs_dp s hr z h)
theorem pyRs_dp {K : Frag} {F H : Hp} {r : Addr → Option PyData} (s : Sub F H) (hr : ∀ a p, r a = some p → Dp K H (.ref a) p) : ∀ {ds : List D} {vs : List V} {ps : List PyData}, Dens K F ds vs → pyRs r ds = some ps → DpAll K H vs ps
  | [], _, _, dn, e => by simp only [Dens] at dn; simp only [pyRs] at e; cases e; subst dn; exact .nil
  | d :: ds, _, ps, dn, e => by
    simp only [Dens] at dn
    obtain ⟨v, r', e1, q, z⟩ := dn
    simp only [pyRs] at e
    cases h : pyR r d with
    | none => rw [h] at e; cases e
    | some p =>
      cases h2 : pyRs r ds with
      | none => rw [h, h2] at e; cases e
      | some qs =>
        rw [h, h2] at e; cases e; subst e1
        exact .cons (pyR_dp s hr q h) (pyRs_dp s hr z h2)
end
theorem pyM_dp {K : Frag} {F : Hp} {m : Mem} {H : Hp} (r : Rel K F m H) : ∀ (n : Nat) {d : D} {v : V} {p : PyData}, Den K F d v → pyM m n d = some p → Dp K H v p
  | 0, d, v, p, dn, e => pyR_dp r.fz (fun a p z => by cases z) dn e
  | n + 1, d, v, p, dn, e => by
    refine pyR_dp r.fz (fun a p z => ?_) dn e
    cases h : m a with
    | none => rw [h] at z; cases z
    | some c =>
      rw [h] at z
      cases c with
      | lst xs =>
        have z : (pyRs (fun b => pyM m n (.ref b)) xs).map PyData.list = some p := z
        cases h2 : pyRs (fun b => pyM m n (.ref b)) xs with
        | none => rw [h2] at z; cases z
        | some ps =>
          rw [h2] at z; cases z
          obtain ⟨_, q⟩ := r.me a _ h
          simp only [CellOk] at q
          obtain ⟨vs, e1, dn1⟩ := q
          exact .lst (SqL.of e1) (pyRs_dp r.fz (fun b p z => pyM_dp r n (d := .ref b) (by simp only [Den]) z) dn1 h2)
      | _ => cases z
/-- data without any cell -/
def pur (d : D) : Option PyData := pyR (fun _ => none) d
def purs (ds : List D) : Option (List PyData) := pyRs (fun _ => none) ds

/-! ### operators by values -/
def flatD : D → Bool
  | .non => true | .bl _ => true | .int _ => true | .str _ => true
  | _ => false
def toV : D → V
  | .non => .non | .bl b => .bl b | .int i => .int i | .str x => .str x
  | _ => .non
theorem flat_den {K : Frag} {F : Hp} {d : D} {v : V} (f : flatD d = true) (dn : Den K F d v) : v = toV d ∧ flatV v = true := by
  cases d <;> simp only [flatD] at f <;> simp only [Den] at dn <;> first | (subst dn; exact ⟨rfl, rfl⟩) | cases f
/-- == of flat data -/
def eqF : D → D → Bool
  | .non, .non => true
  | .bl a, .bl b => a == b
  | .bl a, .int b => (if a then 1 else 0) == b
  | .int a, .bl b => a == (if b then 1 else 0)
  | .int a, .int b => a == b
  | .str a, .str b => a == b
  | _, _ => false
theorem eqF_V {x y : D} : flatD x = true → flatD y = true → eqV (toV x) (toV y) = eqF x y := by
  cases x <;> cases y <;> simp [flatD, toV, eqF, eqV]
def inF (x : D) (xs : List D) : Bool := xs.any fun y => eqF y x
theorem inF_V {K : Frag} {F : Hp} {x : D} (fx : flatD x = true) : ∀ {xs : List D} {vs : List V}, Dens K F xs vs → xs.all flatD = true → vs.all flatV = true ∧ inV (toV x) vs = inF x xs
  | [], _, dn, f => by simp only [Dens] at dn; subst dn; exact ⟨rfl, rfl⟩
  | y :: xs, _, dn, f => by
    simp only [Dens] at dn
    obtain ⟨v, r, e1, q, z⟩ := dn
    rw [List.all_cons, Bool.and_eq_true] at f
    obtain ⟨a1, a2⟩ := inF_V fx z f.2
    obtain ⟨b1, b2⟩ := flat_den f.1 q
    subst e1
    refine ⟨by rw [List.all_cons, b2, a1]; rfl, ?_⟩
    show (eqV v (toV x) || inV (toV x) r) = (eqF y x || inF x xs)
    rw [a2, b1, eqF_V f.1 fx]

def addD : WO := fun x y m Q _ => match x, y with
  | .int i, .int j => Q (.int (i + j)) m
  | .str a, .str b => a.length + b.length ≤ sizeLine ∧ Q (.str (a ++ b)) m
  | .tup xs, .tup ys => xs.length + ys.length ≤ sizeLine ∧ Q (.tup (xs ++ ys)) m
  | x, y => ∃ xs ys, lstOf m x = some xs ∧ lstOf m y = some ys ∧ xs.length + ys.length ≤ sizeLine ∧ Q (.lst (xs ++ ys)) m
def subD : WO := fun x y m Q _ => match x, y with
  | .int i, .int j => Q (.int (i - j)) m
  | _, _ => False
def mulD : WO := fun x y m Q _ => match x, y with
  | .int i, .int j => CMul i j ∧ Q (.int (i * j)) m
  | _, _ => False
def fdivD : WO := fun x y m Q _ => match x, y with
  | .int i, .int j => CDiv i j ∧ Q (.int (i / j)) m
  | _, _ => False
def modD : WO := fun x y m Q _ => match x, y with
  | .int i, .int j => 0 < j ∧ Q (.int (i % j)) m
  | _, _ => False
def powD : WO := fun x y m Q _ => match x, y with
  | .int i, .int j => CPow i j ∧ Q (.int (i ^ j.toNat)) m
  | _, _ => False
def ltD : WO := fun x y m Q _ => match x, y with
  | .int i, .int j => Q (.bl (decide (i < j))) m
  | .str a, .str b => Q (.bl (decide (a.cps.toList < b.cps.toList))) m
  | _, _ => False
def leD : WO := fun x y m Q _ => match x, y with
  | .int i, .int j => Q (.bl (decide (i ≤ j))) m
  | _, _ => False
def gtD : WO := fun x y m Q _ => match x, y with
  | .int i, .int j => Q (.bl (decide (j < i))) m
  | _, _ => False
def geD : WO := fun x y m Q _ => match x, y with
  | .int i, .int j => Q (.bl (decide (j ≤ i))) m
  | _, _ => False
/-- ==: two ints, texts: as they are; else as data -/
def eqD : WO := fun x y m Q _ => match x, y with
  | .int i, .int j => Q (.bl (decide (i = j))) m
  | .str a, .str b => Q (.bl (decide (a = b))) m
  | x, y => ∃ d e, pyM m 3 x = some d ∧ pyM m 3 y = some e ∧ SeqAt.shaped d = true ∧ SeqAt.shaped e = true ∧ Q (.bl (PyData.eqv d e)) m
def neD : WO := fun x y m Q _ => match x, y with
  | .int i, .int j => Q (.bl (!decide (i = j))) m
  | .str a, .str b => Q (.bl (!decide (a = b))) m
  | x, y => ∃ d e, pyM m 3 x = some d ∧ pyM m 3 y = some e ∧ SeqAt.shaped d = true ∧ SeqAt.shaped e = true ∧ Q (.bl (!PyData.eqv d e)) m
def isnD : WO := fun x y m Q _ => y = .non ∧ Q (.bl (match x with | .non => true | _ => false)) m
def notnD : WO := fun x y m Q _ => y = .non ∧ Q (.bl (match x with | .non => false | _ => true)) m
/-- in, not in: a list or tuple of flat things; a dict's keys are apart -/
def inD : WO := fun x y m Q _ => match x, y with
  | .str a, .str b => Q (.bl (!(Builtin.Str.occurrences b a 0 b.length 1).isEmpty)) m
  | x, y => ∃ ys, seqOf m y = some ys ∧ flatD x = true ∧ ys.all flatD = true ∧ Q (.bl (inF x ys)) m
def ninD : WO := fun x y m Q _ => match x, y with
  | .str a, .str b => Q (.bl (!(!(Builtin.Str.occurrences b a 0 b.length 1).isEmpty))) m
  | x, y => ∃ ys, seqOf m y = some ys ∧ flatD x = true ∧ ys.all flatD = true ∧ Q (.bl (!inF x ys)) m

section
variable {X : Cx}
theorem OpD.mono {r r' : R2} {f : WO} (h : OpD X r f) (i : ∀ x y H Q, r x y H Q → r' x y H Q) : OpD X r' f := fun F m H x y v u Qd E Q r0 d1 d2 q k => i _ _ _ _ (h F m H x y v u Qd E Q r0 d1 d2 q k)
theorem od_int {C : Int → Int → Prop} {g : Int → Int → V} {gd : Int → Int → D} (hg : ∀ i j F, Den X.K F (gd i j) (g i j)) :
    OpD X (rI C g) (fun x y m Q _ => match x, y with | .int i, .int j => C i j ∧ Q (gd i j) m | _, _ => False) := by
  intro F m H x y v u Qd E Q r d1 d2 q k
  cases x <;> cases y <;> first | exact q.elim | skip
  simp only [Den] at d1 d2
  subst d1; subst d2
  exact ⟨_, _, rfl, rfl, q.1, k _ H F m _ (Sub.refl F) r (hg _ _ F) q.2⟩
theorem od_int0 {g : Int → Int → V} {gd : Int → Int → D} (hg : ∀ i j F, Den X.K F (gd i j) (g i j)) :
    OpD X (rI0 g) (fun x y m Q _ => match x, y with | .int i, .int j => Q (gd i j) m | _, _ => False) := by
  intro F m H x y v u Qd E Q r d1 d2 q k
  cases x <;> cases y <;> first | exact q.elim | skip
  simp only [Den] at d1 d2
  subst d1; subst d2
  exact ⟨_, _, rfl, rfl, k _ H F m _ (Sub.refl F) r (hg _ _ F) q⟩
/-- list + list, of lists that are read in any way -/
def rCatR (K : Frag) : R2 := fun x y H Q => ∃ a b xs ys, x = .ref a ∧ y = .ref b ∧ SqL K H a xs ∧ SqL K H b ys ∧ xs.length + ys.length ≤ sizeLine ∧ ∀ p, H p = none → Q (.ref p) (upd H p (.lst (xs ++ ys)))
end
end DL

/-! D3: operators, tests, displays, subscripts over data: the rules. -/
namespace DL
open PySem PySem.Spec L2

section
variable {X : Cx} {pins : List (Addr × Obj)} {σ : St} {H : Hp} {s : Shared}
theorem rd_isL (I : Inv X pins σ H s) {a : Addr} {xs : List V} (h : Rd H a (.lst xs)) : ∃ (its : List Value) (n : Nat), Vals xs its ∧ s.heap.get? a = some { cls := .type "list", data := .seq its.toArray n } ∧ xs.length ≤ sizeLine := by
  obtain ⟨z, its, n, r, e⟩ := h.ok I.hok
  exact ⟨its, n, r, e, z⟩
theorem op_catR : OpR X (binaryOp .Add) (fun x y H Q => ∃ a b xs ys, x = .ref a ∧ y = .ref b ∧ Rd H a (.lst xs) ∧ Rd H b (.lst ys) ∧ xs.length + ys.length ≤ sizeLine ∧ ∀ p, H p = none → Q (.ref p) (upd H p (.lst (xs ++ ys)))) := by
  intro pins s σ H x y v u Q I rx ry h
  obtain ⟨l, b, xs, zs, rfl, rfl, hH, hB, hz, q⟩ := h
  cases rx
  cases ry
  obtain ⟨its, n, r, e, _⟩ := rd_isL I hH
  obtain ⟨its2, n2, r2, e2, _⟩ := rd_isL I hB
  have hl := r.length
  have hl2 := r2.length
  refine PySem.P.add_list e e2 ?_ (by rw [List.size_toArray, List.size_toArray]; omega)
  have ea : its.toArray ++ its2.toArray = (its ++ its2).toArray := by simp
  rw [ea]
  exact ⟨.ref _, _, I.lnew (t' := s.toks) (r.append r2) (by rw [List.length_append]; omega), rfl, q _ I.fresh⟩
end
section
variable {X : Cx}
abbrev rAddA (K : Frag) : R2 := fun x y H Q => (rI0 (fun i j => .int (i + j)) x y H Q ∨ (∃ i j, x = .str i ∧ y = .str j ∧ i.length + j.length ≤ sizeLine ∧ Q (.str (i ++ j)) H)) ∨ (rCatA K x y H Q ∨
  (∃ a b xs ys, x = .ref a ∧ y = .ref b ∧ Rd H a (.lst xs) ∧ Rd H b (.lst ys) ∧ xs.length + ys.length ≤ sizeLine ∧ ∀ p, H p = none → Q (.ref p) (upd H p (.lst (xs ++ ys)))))
theorem op_addA : OpR X (binaryOp .Add) (rAddA X.K) := (op_add.or op_add_str).or (op_catA.or op_catR)
theorem od_add : OpD X (rAddA X.K) addD := by
  intro F m H x y v u Qd E Q r d1 d2 q k
  have lists : (∃ xs ys, lstOf m x = some xs ∧ lstOf m y = some ys ∧ xs.length + ys.length ≤ sizeLine ∧ Qd (.lst (xs ++ ys)) m) → rAddA X.K v u H Q := fun ⟨xs, ys, e1, e2, hz, q⟩ => by
    obtain ⟨a, vs, rfl, ra, na⟩ := r.lstOf d1 e1
    obtain ⟨b, ws, rfl, rb, nb⟩ := r.lstOf d2 e2
    refine .inr (.inr ⟨a, b, vs, ws, rfl, rfl, ra, rb, by rw [← na.length, ← nb.length]; exact hz, fun p hp => ?_⟩)
    obtain ⟨r', s'⟩ := r.frozen (o := .lst (vs ++ ws)) hp
    refine k _ _ _ m (.lst (xs ++ ys)) s' r' ?_ q
    simp only [Den]
    exact ⟨p, _, rfl, .inl upd_same, (na.append nb).mono s'⟩
  cases x <;> cases y <;> first | exact lists q | skip
  · simp only [Den] at d1 d2
    subst d1; subst d2
    exact .inl (.inl ⟨_, _, rfl, rfl, k _ H F m _ (Sub.refl F) r (by simp only [Den]) q⟩)
  · simp only [Den] at d1 d2
    subst d1; subst d2
    exact .inl (.inr ⟨_, _, rfl, rfl, q.1, k _ H F m _ (Sub.refl F) r (by simp only [Den]) q.2⟩)
  · rename_i xs ys
    have D1 := d1
    have D2 := d2
    simp only [Den] at d1 d2
    obtain ⟨a, vs, rfl, ha, na⟩ := d1
    obtain ⟨b, ws, rfl, hb, nb⟩ := d2
    have la := na.length
    have lb := nb.length
    refine .inr (.inl ⟨a, b, vs, ws, rfl, rfl, r.sqT ha, r.sqT hb, by rw [← la, ← lb]; exact q.1, fun e => ?_, fun _ e => ?_, fun _ _ p hp => ?_⟩)
    · subst e
      have : xs = [] := List.length_eq_zero_iff.mp la
      subst this
      exact k _ H F m (.tup ys) (Sub.refl F) r D2 (by simpa using q.2)
    · subst e
      have : ys = [] := List.length_eq_zero_iff.mp lb
      subst this
      exact k _ H F m (.tup xs) (Sub.refl F) r D1 (by simpa using q.2)
    · obtain ⟨r', s'⟩ := r.frozen (o := .tup (vs ++ ws)) hp
      refine k _ _ _ m (.tup (xs ++ ys)) s' r' ?_ q.2
      simp only [Den]
      exact ⟨p, _, rfl, .inl (.inl upd_same), (na.append nb).mono s'⟩
theorem dadd {a b : Expr} {pos : Pos} {wa wb : WE} (ha : DE X a wa) (hb : DE X b wb) : DE X (.BinOp a .Add b pos) (wBin addD wa wb) := dbin op_addA od_add ha hb
theorem dsub {a b : Expr} {pos : Pos} {wa wb : WE} (ha : DE X a wa) (hb : DE X b wb) : DE X (.BinOp a .Sub b pos) (wBin subD wa wb) := dbin op_sub (by
  refine OpD.mono (od_int0 (gd := fun i j => .int (i - j)) fun i j F => by simp only [Den]) (fun _ _ _ _ z => z)) ha hb
theorem dmul {a b : Expr} {pos : Pos} {wa wb : WE} (ha : DE X a wa) (hb : DE X b wb) : DE X (.BinOp a .Mult b pos) (wBin mulD wa wb) := dbin op_mul (od_int (gd := fun i j => .int (i * j)) fun i j F => by simp only [Den]) ha hb
theorem dfdiv {a b : Expr} {pos : Pos} {wa wb : WE} (ha : DE X a wa) (hb : DE X b wb) : DE X (.BinOp a .FloorDiv b pos) (wBin fdivD wa wb) := dbin op_fdiv (od_int (gd := fun i j => .int (i / j)) fun i j F => by simp only [Den]) ha hb
theorem dmod {a b : Expr} {pos : Pos} {wa wb : WE} (ha : DE X a wa) (hb : DE X b wb) : DE X (.BinOp a .Mod b pos) (wBin modD wa wb) := dbin op_mod (od_int (gd := fun i j => .int (i % j)) fun i j F => by simp only [Den]) ha hb
theorem dpow {a b : Expr} {pos : Pos} {wa wb : WE} (ha : DE X a wa) (hb : DE X b wb) : DE X (.BinOp a .Pow b pos) (wBin powD wa wb) := dbin op_pow (od_int (gd := fun i j => .int (i ^ j.toNat)) fun i j F => by simp only [Den]) ha hb
def wNeg (wa : WE) : WE := fun env m Q E => wa env m (fun x m1 => match x with | .int i => Q (.int (-i)) m1 | _ => False) E
theorem dneg {a : Expr} {pos : Pos} {wa : WE} (ha : DE X a wa) : DE X (.UnaryOp .USub a pos) (wNeg wa) := wkE (pe_un un_neg ha) fun σ H Q ⟨F, m, env, Qd, xc, r, en, a, q, k⟩ =>
  tW.sub r en a q fun v1 H1 F1 m1 d1 s1 r1 en1 dn1 q1 => by
    cases d1 <;> first | exact q1.elim | skip
    simp only [Den] at dn1
    subst dn1
    exact ⟨_, rfl, k _ H1 F1 m1 _ s1 r1 (by simp only [Den]) q1⟩

/-! ### comparisons -/
theorem od_bool {r : R2} {f : WO} (h : ∀ (F : Hp) (m : Mem) (H : Hp) (x y : D) (v u : V) (Qd : Po) (E : Xo), Rel X.K F m H → Den X.K F x v → Den X.K F y u → f x y m Qd E → ∃ b, Qd (.bl b) m ∧ ∀ Q : VK, Q (.bl b) H → r v u H Q) : OpD X r f := by
  intro F m H x y v u Qd E Q r0 d1 d2 q k
  obtain ⟨b, q', h'⟩ := h F m H x y v u Qd E r0 d1 d2 q
  exact h' Q (k _ H F m _ (Sub.refl F) r0 (by simp only [Den]) q')
def CmpD (X : Cx) (op : CmpOp) (f : WO) : Prop := ∃ r, OpR X (compareOp op) r ∧ OpD X r f
theorem dcmpC {op : CmpOp} {f : WO} {a b : Expr} {pos : Pos} {wa wb : WE} (c : CmpD X op f) (ha : DE X a wa) (hb : DE X b wb) (hm : behindInMarks op b = false) : DE X (.Compare a [op] [b] pos) (wBin f wa wb) :=
  let ⟨_, h, o⟩ := c
  dcmp h o ha hb hm
/-- a comparison as a test -/
def wTruB (w : WE) : WT := fun env m Q E => w env m (fun x m1 => match x with | .bl b => Q b m1 | _ => False) E
theorem dcmpT {op : CmpOp} {f : WO} {a b : Expr} {pos : Pos} {wa wb : WE} (c : CmpD X op f) (ha : DE X a wa) (hb : DE X b wb) (hm : behindInMarks op b = false) : DT X (.Compare a [op] [b] pos) (wTruB (wBin f wa wb)) :=
  let ⟨_, h, o⟩ := c
  wkT (pt_cmpR h ha hb hm) fun σ H Q ⟨F, m, env, Qd, xc, r0, en, a, q, k⟩ =>
    tW.sub r0 en a q fun v1 H1 F1 m1 d1 s1 r1 en1 dn1 q1 =>
      tW.sub r1 en1 (a.mono s1) q1 fun v2 H2 F2 m2 d2 s2 r2 en2 dn2 q2 =>
        o F2 m2 H2 d1 d2 v1 v2 _ _ _ r2 (dn1.mono s2) dn2 q2 fun v' H' F' m' d s r' dn' q' => by
          cases d <;> first | exact q'.elim | skip
          simp only [Den] at dn'; subst dn'
          exact ⟨_, rfl, k _ H' F' m' ((s1.trans s2).trans s) r' q'⟩
theorem clt : CmpD X .Lt ltD := ⟨_, (op_lt.or op_lt_str), (od_bool fun F m H x y v u Qd E r d1 d2 q => by
  cases x <;> cases y <;> first | exact q.elim | skip
  · simp only [Den] at d1 d2; subst d1; subst d2
    exact ⟨_, q, fun Q z => .inl ⟨_, _, rfl, rfl, z⟩⟩
  · simp only [Den] at d1 d2; subst d1; subst d2
    exact ⟨_, q, fun Q z => .inr ⟨_, _, rfl, rfl, z⟩⟩)⟩
theorem dlt {a b : Expr} {pos : Pos} {wa wb : WE} (ha : DE X a wa) (hb : DE X b wb) : DE X (.Compare a [.Lt] [b] pos) (wBin ltD wa wb) := dcmpC clt ha hb (nomark _)
theorem dltT {a b : Expr} {pos : Pos} {wa wb : WE} (ha : DE X a wa) (hb : DE X b wb) : DT X (.Compare a [.Lt] [b] pos) (wTruB (wBin ltD wa wb)) := dcmpT clt ha hb (nomark _)
theorem cle : CmpD X .LtE leD := ⟨_, op_le, (od_bool fun F m H x y v u Qd E r d1 d2 q => by
  cases x <;> cases y <;> first | exact q.elim | skip
  simp only [Den] at d1 d2; subst d1; subst d2
  exact ⟨_, q, fun Q z => ⟨_, _, rfl, rfl, z⟩⟩)⟩
theorem dle {a b : Expr} {pos : Pos} {wa wb : WE} (ha : DE X a wa) (hb : DE X b wb) : DE X (.Compare a [.LtE] [b] pos) (wBin leD wa wb) := dcmpC cle ha hb (nomark _)
theorem dleT {a b : Expr} {pos : Pos} {wa wb : WE} (ha : DE X a wa) (hb : DE X b wb) : DT X (.Compare a [.LtE] [b] pos) (wTruB (wBin leD wa wb)) := dcmpT cle ha hb (nomark _)
theorem cgt : CmpD X .Gt gtD := ⟨_, op_gt, (od_bool fun F m H x y v u Qd E r d1 d2 q => by
  cases x <;> cases y <;> first | exact q.elim | skip
  simp only [Den] at d1 d2; subst d1; subst d2
  exact ⟨_, q, fun Q z => ⟨_, _, rfl, rfl, z⟩⟩)⟩
theorem dgt {a b : Expr} {pos : Pos} {wa wb : WE} (ha : DE X a wa) (hb : DE X b wb) : DE X (.Compare a [.Gt] [b] pos) (wBin gtD wa wb) := dcmpC cgt ha hb (nomark _)
theorem dgtT {a b : Expr} {pos : Pos} {wa wb : WE} (ha : DE X a wa) (hb : DE X b wb) : DT X (.Compare a [.Gt] [b] pos) (wTruB (wBin gtD wa wb)) := dcmpT cgt ha hb (nomark _)
theorem cge : CmpD X .GtE geD := ⟨_, op_ge, (od_bool fun F m H x y v u Qd E r d1 d2 q => by
  cases x <;> cases y <;> first | exact q.elim | skip
  simp only [Den] at d1 d2; subst d1; subst d2
  exact ⟨_, q, fun Q z => ⟨_, _, rfl, rfl, z⟩⟩)⟩
theorem dge {a b : Expr} {pos : Pos} {wa wb : WE} (ha : DE X a wa) (hb : DE X b wb) : DE X (.Compare a [.GtE] [b] pos) (wBin geD wa wb) := dcmpC cge ha hb (nomark _)
theorem dgeT {a b : Expr} {pos : Pos} {wa wb : WE} (ha : DE X a wa) (hb : DE X b wb) : DT X (.Compare a [.GtE] [b] pos) (wTruB (wBin geD wa wb)) := dcmpT cge ha hb (nomark _)
theorem ceq (hu : X.A.units + 64 < cLine) : CmpD X .Eq eqD := ⟨_, (op_eq.or (op_eqD hu)), (od_bool fun F m H x y v u Qd E r d1 d2 q => by
  have gen : (∃ d e, pyM m 3 x = some d ∧ pyM m 3 y = some e ∧ SeqAt.shaped d = true ∧ SeqAt.shaped e = true ∧ Qd (.bl (PyData.eqv d e)) m) → ∃ b, Qd (.bl b) m ∧ ∀ Q : VK, Q (.bl b) H → rEq v u H Q ∨ rEqD X.K v u H Q := fun ⟨d, e, e1, e2, s1, s2, q⟩ =>
    ⟨_, q, fun Q z => .inr ⟨d, e, pyM_dp r 3 d1 e1, pyM_dp r 3 d2 e2, s1, s2, z⟩⟩
  cases x <;> cases y <;> first | exact gen q | skip
  · simp only [Den] at d1 d2; subst d1; subst d2
    exact ⟨_, q, fun Q z => .inl ⟨rfl, by rw [dec_int, Bool.beq_eq_decide_eq]; exact z⟩⟩
  · simp only [Den] at d1 d2; subst d1; subst d2
    exact ⟨_, q, fun Q z => .inl ⟨rfl, by rw [dec_str, Bool.beq_eq_decide_eq]; exact z⟩⟩)⟩
theorem deq {a b : Expr} {pos : Pos} {wa wb : WE} (hu : X.A.units + 64 < cLine) (ha : DE X a wa) (hb : DE X b wb) : DE X (.Compare a [.Eq] [b] pos) (wBin eqD wa wb) := dcmpC (ceq hu) ha hb (nomark _)
theorem deqT {a b : Expr} {pos : Pos} {wa wb : WE} (hu : X.A.units + 64 < cLine) (ha : DE X a wa) (hb : DE X b wb) : DT X (.Compare a [.Eq] [b] pos) (wTruB (wBin eqD wa wb)) := dcmpT (ceq hu) ha hb (nomark _)
theorem cne (hu : X.A.units + 64 < cLine) : CmpD X .NotEq neD := ⟨_, (op_ne.or (op_neD hu)), (od_bool fun F m H x y v u Qd E r d1 d2 q => by
  have gen : (∃ d e, pyM m 3 x = some d ∧ pyM m 3 y = some e ∧ SeqAt.shaped d = true ∧ SeqAt.shaped e = true ∧ Qd (.bl (!PyData.eqv d e)) m) → ∃ b, Qd (.bl b) m ∧ ∀ Q : VK, Q (.bl b) H → rNe v u H Q ∨ rNeD X.K v u H Q := fun ⟨d, e, e1, e2, s1, s2, q⟩ =>
    ⟨_, q, fun Q z => .inr ⟨d, e, pyM_dp r 3 d1 e1, pyM_dp r 3 d2 e2, s1, s2, z⟩⟩
  cases x <;> cases y <;> first | exact gen q | skip
  · simp only [Den] at d1 d2; subst d1; subst d2
    exact ⟨_, q, fun Q z => .inl ⟨rfl, by rw [dec_int, Bool.beq_eq_decide_eq]; exact z⟩⟩
  · simp only [Den] at d1 d2; subst d1; subst d2
    exact ⟨_, q, fun Q z => .inl ⟨rfl, by rw [dec_str, Bool.beq_eq_decide_eq]; exact z⟩⟩)⟩
theorem dne {a b : Expr} {pos : Pos} {wa wb : WE} (hu : X.A.units + 64 < cLine) (ha : DE X a wa) (hb : DE X b wb) : DE X (.Compare a [.NotEq] [b] pos) (wBin neD wa wb) := dcmpC (cne hu) ha hb (nomark _)
theorem dneT {a b : Expr} {pos : Pos} {wa wb : WE} (hu : X.A.units + 64 < cLine) (ha : DE X a wa) (hb : DE X b wb) : DT X (.Compare a [.NotEq] [b] pos) (wTruB (wBin neD wa wb)) := dcmpT (cne hu) ha hb (nomark _)
theorem cisn : CmpD X .Is isnD := ⟨_, op_isN, (od_bool fun F m H x y v u Qd E r d1 d2 q => by
  obtain ⟨rfl, q⟩ := q
  simp only [Den] at d2
  refine ⟨_, q, fun Q z => ⟨d2, ?_⟩⟩
  cases x <;> simp only [Den] at d1 <;> first | (subst d1; simpa using z) | (obtain ⟨a, vs, e, _⟩ := d1; subst e; simpa using z))⟩
theorem disn {a b : Expr} {pos : Pos} {wa wb : WE} (ha : DE X a wa) (hb : DE X b wb) : DE X (.Compare a [.Is] [b] pos) (wBin isnD wa wb) := dcmpC cisn ha hb (nomark _)
theorem disnT {a b : Expr} {pos : Pos} {wa wb : WE} (ha : DE X a wa) (hb : DE X b wb) : DT X (.Compare a [.Is] [b] pos) (wTruB (wBin isnD wa wb)) := dcmpT cisn ha hb (nomark _)
theorem cnotn : CmpD X .IsNot notnD := ⟨_, op_notN, (od_bool fun F m H x y v u Qd E r d1 d2 q => by
  obtain ⟨rfl, q⟩ := q
  simp only [Den] at d2
  refine ⟨_, q, fun Q z => ⟨d2, ?_⟩⟩
  cases x <;> simp only [Den] at d1 <;> first | (subst d1; simpa using z) | (obtain ⟨a, vs, e, _⟩ := d1; subst e; simpa using z))⟩
theorem dnotn {a b : Expr} {pos : Pos} {wa wb : WE} (ha : DE X a wa) (hb : DE X b wb) : DE X (.Compare a [.IsNot] [b] pos) (wBin notnD wa wb) := dcmpC cnotn ha hb (nomark _)
theorem dnotnT {a b : Expr} {pos : Pos} {wa wb : WE} (ha : DE X a wa) (hb : DE X b wb) : DT X (.Compare a [.IsNot] [b] pos) (wTruB (wBin notnD wa wb)) := dcmpT cnotn ha hb (nomark _)
theorem od_in (neg : Bool) {rs : R2} {f : Bool → Bool} (hf : ∀ b, f b = if neg then !b else b) {x y : D} {F : Hp} {m : Mem} {H : Hp} {v u : V} {Qd : Po} (r : Rel X.K F m H) (d1 : Den X.K F x v) (d2 : Den X.K F y u)
    (q : ∃ ys, seqOf m y = some ys ∧ flatD x = true ∧ ys.all flatD = true ∧ Qd (.bl (f (inF x ys))) m) : ∃ b, Qd (.bl b) m ∧ ∀ Q : VK, Q (.bl b) H → rs v u H Q ∨ rIn X.K neg v u H Q := by
  obtain ⟨ys, e, fx, fy, q⟩ := q
  obtain ⟨a, vs, e1, sq, dn⟩ := r.seqOf d2 e
  obtain ⟨a1, a2⟩ := inF_V fx dn fy
  obtain ⟨b1, b2⟩ := flat_den fx d1
  refine ⟨_, q, fun Q z => .inr ⟨a, vs, e1, sq, b2, a1, ?_⟩⟩
  rw [b1, a2]
  rw [hf] at z
  exact z
theorem cinq : CmpD X .In inD := ⟨_, (op_in_str.or op_in_seq), (od_bool fun F m H x y v u Qd E r d1 d2 q => by
  have gen := od_in (X := X) (x := x) (y := y) (v := v) (u := u) (Qd := Qd) false (rs := fun x y H Q => ∃ i j, x = .str i ∧ y = .str j ∧ Q (.bl (!(Builtin.Str.occurrences j i 0 j.length 1).isEmpty)) H) (f := fun b => b) (fun _ => rfl) r d1 d2
  cases x <;> cases y <;> first | exact gen q | skip
  simp only [Den] at d1 d2; subst d1; subst d2
  exact ⟨_, q, fun Q z => .inl ⟨_, _, rfl, rfl, z⟩⟩)⟩
theorem dinq {a b : Expr} {pos : Pos} {wa wb : WE} (ha : DE X a wa) (hb : DE X b wb) (hm : behindInMarks .In b = false := by rfl) : DE X (.Compare a [.In] [b] pos) (wBin inD wa wb) := dcmpC cinq ha hb hm
theorem dinqT {a b : Expr} {pos : Pos} {wa wb : WE} (ha : DE X a wa) (hb : DE X b wb) (hm : behindInMarks .In b = false := by rfl) : DT X (.Compare a [.In] [b] pos) (wTruB (wBin inD wa wb)) := dcmpT cinq ha hb hm
theorem cninq : CmpD X .NotIn ninD := ⟨_, (L2.op_notIn_str.or op_notIn_seq), (od_bool fun F m H x y v u Qd E r d1 d2 q => by
  have gen := od_in (X := X) (x := x) (y := y) (v := v) (u := u) (Qd := Qd) true (rs := fun x y H Q => ∃ i j, x = .str i ∧ y = .str j ∧ Q (.bl (!(!(Builtin.Str.occurrences j i 0 j.length 1).isEmpty))) H) (f := fun b => !b) (fun _ => rfl) r d1 d2
  cases x <;> cases y <;> first | exact gen q | skip
  simp only [Den] at d1 d2; subst d1; subst d2
  exact ⟨_, q, fun Q z => .inl ⟨_, _, rfl, rfl, z⟩⟩)⟩
theorem dninq {a b : Expr} {pos : Pos} {wa wb : WE} (ha : DE X a wa) (hb : DE X b wb) (hm : behindInMarks .NotIn b = false := by rfl) : DE X (.Compare a [.NotIn] [b] pos) (wBin ninD wa wb) := dcmpC cninq ha hb hm
theorem dninqT {a b : Expr} {pos : Pos} {wa wb : WE} (ha : DE X a wa) (hb : DE X b wb) (hm : behindInMarks .NotIn b = false := by rfl) : DT X (.Compare a [.NotIn] [b] pos) (wTruB (wBin ninD wa wb)) := dcmpT cninq ha hb hm

/-! ### tests -/
/-- a bool's value as a test; any value's truth -/
def wTru (w : WE) : WT := fun env m Q E => w env m (fun x m1 => match x with
  | .bl b => Q b m1
  | .non => Q false m1
  | .int i => Q (i != 0) m1
  | .str z => z.length ≤ sizeLine ∧ Q ((z.length : Int) != 0) m1
  | x => ∃ xs, seqOf m1 x = some xs ∧ Q (!xs.isEmpty) m1) E
theorem isEmpty_len {α β : Type} {xs : List α} {ys : List β} (h : xs.length = ys.length) : xs.isEmpty = ys.isEmpty := by
  cases xs <;> cases ys <;> simp at h ⊢
theorem dtru {e : Expr} {w : WE} (h : DE X e w) (he : ∀ whole, isTrue e X.env whole = (do let v ← whole; standAt e.pos; holding [v] (truthy v)) := by intro _; rfl) : DT X e (wTru w) := wkT (pt_truth h he) fun σ H Q ⟨F, m, env, Qd, xc, r, en, a, q, k⟩ => by
  refine tW.sub r en a q fun v1 H1 F1 m1 d1 s1 r1 en1 dn1 q1 => ?_
  have sq : (∃ xs, seqOf m1 d1 = some xs ∧ Qd (!xs.isEmpty) m1) → ∃ k, TruV X.K v1 H1 k ∧ Q k H1 := fun ⟨xs, e, q⟩ => by
    obtain ⟨p, vs, rfl, hs, dn⟩ := r1.seqOf dn1 e
    refine ⟨!vs.isEmpty, ?_, ?_⟩
    · rcases hs with hs | hs
      · exact .inl ⟨vs, hs, rfl⟩
      · exact .inr (.inl ⟨vs, hs, rfl⟩)
    · rw [← isEmpty_len dn.length]
      exact k _ H1 F1 m1 s1 r1 q
  cases d1 with
  | bl b => simp only [Den] at dn1; subst dn1; exact ⟨b, rfl, k _ H1 F1 m1 s1 r1 q1⟩
  | non => simp only [Den] at dn1; subst dn1; exact ⟨false, rfl, k _ H1 F1 m1 s1 r1 q1⟩
  | int i => simp only [Den] at dn1; subst dn1; exact ⟨_, rfl, k _ H1 F1 m1 s1 r1 q1⟩
  | str z => simp only [Den] at dn1; subst dn1; exact ⟨_, ⟨q1.1, rfl⟩, k _ H1 F1 m1 s1 r1 q1.2⟩
  | ty _ => obtain ⟨_, e, _⟩ := q1; cases e
  | ref _ => exact sq q1
  | tup _ => exact sq q1
  | lst _ => exact sq q1
  | klst _ => exact sq q1
def wNotT (w : WT) : WT := fun env m Q E => w env m (fun b m1 => Q (!b) m1) E
theorem dnotT {e : Expr} {pos : Pos} {w : WT} (h : DT X e w) : DT X (.UnaryOp .Not e pos) (wNotT w) := wkT (pt_not h) fun σ H Q ⟨F, m, env, Qd, xc, r, en, a, q, k⟩ =>
  tWT.sub r en a q fun b H1 F1 m1 s1 r1 en1 q1 => k _ H1 F1 m1 s1 r1 q1
def wAndT (wa wb : WT) : WT := fun env m Q E => wa env m (fun b m1 => if b = true then wb env m1 Q E else Q false m1) E
def wOrT (wa wb : WT) : WT := fun env m Q E => wa env m (fun b m1 => if b = true then Q true m1 else wb env m1 Q E) E
theorem dand1 {a : Expr} {pos : Pos} {w : WT} (h : DT X a w) : DW X (.BoolOp .And [a] pos) w := pw_and1 h
theorem dor1 {a : Expr} {pos : Pos} {w : WT} (h : DT X a w) : DW X (.BoolOp .Or [a] pos) w := pw_or1 h
theorem dand {a b : Expr} {rest : List Expr} {pos : Pos} {wa wb : WT} (ha : DT X a wa) (hb : DW X (.BoolOp .And (b :: rest) pos) wb) : DW X (.BoolOp .And (a :: b :: rest) pos) (wAndT wa wb) := wkW (pw_and ha hb) fun σ H Q ⟨F, m, env, Qd, xc, r, en, a, q, k⟩ =>
  tWT.sub r en a q fun c H1 F1 m1 s1 r1 en1 q1 => by
    cases c with
    | true =>
      rw [if_pos rfl] at q1 ⊢
      exact ⟨F1, m1, env, Qd, xc, r1, en1, a.mono s1, q1, fun b H' F' m' s => k b H' F' m' (s1.trans s)⟩
    | false =>
      rw [if_neg Bool.false_ne_true] at q1 ⊢
      exact k _ H1 F1 m1 s1 r1 q1
theorem dor {a b : Expr} {rest : List Expr} {pos : Pos} {wa wb : WT} (ha : DT X a wa) (hb : DW X (.BoolOp .Or (b :: rest) pos) wb) : DW X (.BoolOp .Or (a :: b :: rest) pos) (wOrT wa wb) := wkW (pw_or ha hb) fun σ H Q ⟨F, m, env, Qd, xc, r, en, a, q, k⟩ =>
  tWT.sub r en a q fun c H1 F1 m1 s1 r1 en1 q1 => by
    cases c with
    | true =>
      rw [if_pos rfl] at q1 ⊢
      exact k _ H1 F1 m1 s1 r1 q1
    | false =>
      rw [if_neg Bool.false_ne_true] at q1 ⊢
      exact ⟨F1, m1, env, Qd, xc, r1, en1, a.mono s1, q1, fun b H' F' m' s => k b H' F' m' (s1.trans s)⟩
theorem dbo {e : Expr} {w : WT} (h : DW X e w) : DT X e w := h.pt
/-- and, or, not as values of bools -/
def wOneV (w : WE) : WE := w
def wAndV (wa wb : WE) : WE := fun env m Q E => wa env m (fun x m1 => match x with | .bl b => (if b = true then wb env m1 Q E else Q (.bl false) m1) | _ => False) E
def wOrV (wa wb : WE) : WE := fun env m Q E => wa env m (fun x m1 => match x with | .bl b => (if b = true then Q (.bl true) m1 else wb env m1 Q E) | _ => False) E
def wNotV (wa : WE) : WE := fun env m Q E => wa env m (fun x m1 => match x with | .bl b => Q (.bl (!b)) m1 | _ => False) E
theorem doneV {op} {a : Expr} {pos : Pos} {w : WE} (h : DE X a w) : DE X (.BoolOp op [a] pos) w := pe_one h
theorem dandV {a b : Expr} {rest : List Expr} {pos : Pos} {wa wb : WE} (ha : DE X a wa) (hb : DE X (.BoolOp .And (b :: rest) pos) wb) : DE X (.BoolOp .And (a :: b :: rest) pos) (wAndV wa wb) := wkE (pe_and ha hb) fun σ H Q ⟨F, m, env, Qd, xc, r, en, a, q, k⟩ =>
  tW.sub r en a q fun v1 H1 F1 m1 d1 s1 r1 en1 dn1 q1 => by
    cases d1 <;> first | exact q1.elim | skip
    rename_i c
    simp only [Den] at dn1; subst dn1
    refine ⟨c, rfl, ?_⟩
    cases c with
    | true => exact ⟨F1, m1, env, Qd, xc, r1, en1, a.mono s1, q1, fun v H' F' m' d s => k v H' F' m' d (s1.trans s)⟩
    | false => exact k _ H1 F1 m1 _ s1 r1 (by simp only [Den]) q1
theorem dorV {a b : Expr} {rest : List Expr} {pos : Pos} {wa wb : WE} (ha : DE X a wa) (hb : DE X (.BoolOp .Or (b :: rest) pos) wb) : DE X (.BoolOp .Or (a :: b :: rest) pos) (wOrV wa wb) := wkE (pe_or ha hb) fun σ H Q ⟨F, m, env, Qd, xc, r, en, a, q, k⟩ =>
  tW.sub r en a q fun v1 H1 F1 m1 d1 s1 r1 en1 dn1 q1 => by
    cases d1 <;> first | exact q1.elim | skip
    rename_i c
    simp only [Den] at dn1; subst dn1
    refine ⟨c, rfl, ?_⟩
    cases c with
    | true => exact k _ H1 F1 m1 _ s1 r1 (by simp only [Den]) q1
    | false => exact ⟨F1, m1, env, Qd, xc, r1, en1, a.mono s1, q1, fun v H' F' m' d s => k v H' F' m' d (s1.trans s)⟩
theorem dnotV {a : Expr} {pos : Pos} {wa : WE} (ha : DE X a wa) : DE X (.UnaryOp .Not a pos) (wNotV wa) := wkE (pe_not ha) fun σ H Q ⟨F, m, env, Qd, xc, r, en, a, q, k⟩ =>
  tW.sub r en a q fun v1 H1 F1 m1 d1 s1 r1 en1 dn1 q1 => by
    cases d1 <;> first | exact q1.elim | skip
    rename_i c
    simp only [Den] at dn1; subst dn1
    exact ⟨c, rfl, k _ H1 F1 m1 _ s1 r1 (by simp only [Den]) q1⟩
def wIte (wt : WT) (wa wb : WE) : WE := fun env m Q E => wt env m (fun b m1 => if b = true then wa env m1 Q E else wb env m1 Q E) E
theorem dite {t a b : Expr} {pos : Pos} {wt : WT} {wa wb : WE} (ht : DT X t wt) (ha : DE X a wa) (hb : DE X b wb) : DE X (.IfExp t a b pos) (wIte wt wa wb) := wkE (pe_ifExp ht ha hb) fun σ H Q ⟨F, m, env, Qd, xc, r, en, a, q, k⟩ =>
  tWT.sub r en a q fun c H1 F1 m1 s1 r1 en1 q1 => by
    cases c with
    | true => exact ⟨F1, m1, env, Qd, xc, r1, en1, a.mono s1, q1, fun v H' F' m' d s => k v H' F' m' d (s1.trans s)⟩
    | false => exact ⟨F1, m1, env, Qd, xc, r1, en1, a.mono s1, q1, fun v H' F' m' d s => k v H' F' m' d (s1.trans s)⟩

/-! ### arguments, displays -/
def wNil : WA := fun _ m Q _ => Q [] m
def wCons (we : WE) (wr : WA) : WA := fun env m Q E => we env m (fun d m1 => wr env m1 (fun ds m2 => Q (d :: ds) m2) E) E
theorem danil : DA X [] wNil := wkA pa_nil fun σ H Q ⟨F, m, env, Qd, xc, r, en, a, q, k⟩ => k [] H F m [] (Sub.refl F) r Dens.nil q
theorem dacons {e : Expr} {es : List Expr} {we : WE} {wr : WA} (he : DE X e we) (hr : DA X es wr) (hs : starEach (e :: es) X.env = (false, eval e X.env) :: starEach es X.env := by rfl) : DA X (e :: es) (wCons we wr) := wkA (pa_cons he hr hs) fun σ H Q ⟨F, m, env, Qd, xc, r, en, a, q, k⟩ =>
  tW.sub r en a q fun v1 H1 F1 m1 d1 s1 r1 en1 dn1 q1 => tWA.sub r1 en1 (a.mono s1) q1 fun vs H2 F2 m2 ds s2 r2 en2 dn2 q2 => k _ H2 F2 m2 _ (s1.trans s2) r2 (Dens.cons (dn1.mono s2) dn2) q2
def wTup (wa : WA) : WE := fun env m Q E => wa env m (fun ds m1 => ds.length ≤ sizeLine ∧ Q (.tup ds) m1) E
/-- a list that will not change -/
def wLst (wa : WA) : WE := fun env m Q E => wa env m (fun ds m1 => ds.length ≤ sizeLine ∧ Q (.lst ds) m1) E
/-- a list that may -/
def wLstM (wa : WA) : WE := fun env m Q E => wa env m (fun ds m1 => ds.length ≤ sizeLine ∧ ∀ p, m1 p = none → Q (.ref p) (m1.put p (.lst ds))) E
theorem dtup {es : List Expr} {x1 : Nat} {pos : Pos} {wa : WA} (h : DA X es wa) : DE X (.Tuple es x1 pos) (wTup wa) := wkE (pe_tup h) fun σ H Q ⟨F, m, env, Qd, xc, r, en, a, q, k⟩ =>
  tWA.sub r en a q fun vs H1 F1 m1 ds s1 r1 en1 dn1 q1 => ⟨by rw [← dn1.length]; exact q1.1, fun p hp => by
    obtain ⟨r', s'⟩ := r1.frozen (o := .tup vs) hp
    refine k _ _ _ m1 (.tup ds) (s1.trans s') r' ?_ q1.2
    simp only [Den]
    exact ⟨p, _, rfl, .inl (.inl upd_same), dn1.mono s'⟩⟩
theorem dlst {es : List Expr} {pos : Pos} {wa : WA} (h : DA X es wa) : DE X (.List es pos) (wLst wa) := wkE (pe_lst h) fun σ H Q ⟨F, m, env, Qd, xc, r, en, a, q, k⟩ =>
  tWA.sub r en a q fun vs H1 F1 m1 ds s1 r1 en1 dn1 q1 => ⟨by rw [← dn1.length]; exact q1.1, fun p hp => by
    obtain ⟨r', s'⟩ := r1.frozen (o := .lst vs) hp
    refine k _ _ _ m1 (.lst ds) (s1.trans s') r' ?_ q1.2
    simp only [Den]
    exact ⟨p, _, rfl, .inl upd_same, dn1.mono s'⟩⟩
theorem dlstM {es : List Expr} {pos : Pos} {wa : WA} (h : DA X es wa) : DE X (.List es pos) (wLstM wa) := wkE (pe_lst h) fun σ H Q ⟨F, m, env, Qd, xc, r, en, a, q, k⟩ =>
  tWA.sub r en a q fun vs H1 F1 m1 ds s1 r1 en1 dn1 q1 => ⟨by rw [← dn1.length]; exact q1.1, fun p hp => by
    refine k _ _ F1 _ (.ref p) s1 (r1.fresh hp (c := .lst ds) ?_) (by simp only [Den]) (q1.2 p (r1.free hp).2)
    simp only [CellOk]
    exact ⟨vs, upd_same, dn1⟩⟩
/-- a list, from now on a value -/
def wFrz (w : WE) : WE := fun env m Q E => w env m (fun d m1 => match d with
  | .ref p => (match m1 p with
    | some (.lst xs) => Q (.lst xs) (m1.del p)
    | _ => Q d m1)
  | d => Q d m1) E
theorem dfrz {e : Expr} {w : WE} (h : DE X e w) : DE X e (wFrz w) := wkE h fun σ H Q ⟨F, m, env, Qd, xc, r, en, a, q, k⟩ =>
  tW.sub r en a q fun v1 H1 F1 m1 d1 s1 r1 en1 dn1 q1 => by
    cases d1 with
    | ref p =>
      simp only at q1
      split at q1
      · rename_i xs e
        obtain ⟨F', s', r', dn'⟩ := r1.freeze e
        simp only [Den] at dn1
        subst dn1
        exact k _ H1 F' _ _ (s1.trans s') r' dn' q1
      · exact k _ H1 F1 m1 _ s1 r1 dn1 q1
    | _ => exact k _ H1 F1 m1 _ s1 r1 dn1 q1

/-! ### subscripts -/
def ixD : WO := fun x y m Q _ => match y with
  | .int i => (match x with
    | .str z => ∃ c, z.length ≤ sizeLine ∧ atI z.cps.toList i = some c ∧ Q (.str ⟨#[c]⟩) m
    | x => ∃ xs d, seqOf m x = some xs ∧ atI xs i = some d ∧ Q d m)
  | _ => False
theorem atI_den {K : Frag} {F : Hp} {ds : List D} {vs : List V} (dn : Dens K F ds vs) {i : Int} {d : D} (h : atI ds i = some d) : ∃ v, atI vs i = some v ∧ Den K F d v := by
  unfold atI at h ⊢
  rw [← dn.length]
  cases e : ixN ds.length i with
  | none => rw [e] at h; cases h
  | some j =>
    rw [e] at h
    exact dn.get h
theorem dix {a b : Expr} {pos : Pos} {wa wb : WE} (ha : DE X a wa) (hb : DE X b wb) (hs : PlainIx b := by exact fun _ _ => rfl) : DE X (.Subscript a b pos) (wBin ixD wa wb) := dbin_of (a := a) (b := b) (pe_ix ix_seq ha hb hs) fun F m H x y v u Qd E Q r d1 d2 q k => by
  cases y <;> first | exact q.elim | skip
  rename_i i
  simp only [Den] at d2; subst d2
  have gen : (∃ xs d, seqOf m x = some xs ∧ atI xs i = some d ∧ Qd d m) → rIx X.K v (.int i) H Q := fun ⟨xs, d, e1, e2, q⟩ => by
    obtain ⟨p, vs, rfl, hs, dn⟩ := r.seqOf d1 e1
    obtain ⟨w, e3, dw⟩ := atI_den dn e2
    rcases hs with hs | hs
    · exact .inl ⟨p, vs, i, w, rfl, rfl, hs, e3, k _ H F m d (Sub.refl F) r dw q⟩
    · exact .inr (.inl ⟨p, vs, i, w, rfl, rfl, hs, e3, k _ H F m d (Sub.refl F) r dw q⟩)
  cases x <;> first | exact gen q | skip
  obtain ⟨c, hz, e, q⟩ := q
  simp only [Den] at d1; subst d1
  exact .inr (.inr ⟨_, i, c, rfl, rfl, hz, e, k _ H F m _ (Sub.refl F) r (by simp only [Den]) q⟩)
/-- a slice -/
abbrev WPt := En → Mem → (Option Int → Mem → Prop) → Xo → Prop
def tWP (X : Cx) (w : WPt) : TO := fun σ H Q => ∃ (F : Hp) (m : Mem) (env : En) (Qd : Option Int → Mem → Prop) (xc : Xc), Rel X.K F m H ∧ EnvDen X.K F σ env ∧ Acc X F xc ∧ w env m Qd (fun x m' => xc x env m') ∧
  ∀ o H' F' m', Sub F F' → Rel X.K F' m' H' → Qd o m' → Q o H'
abbrev DP (X : Cx) (e : Option Expr) (w : WPt) : Prop := PO X e (tWP X w)
def wPno : WPt := fun _ m Q _ => Q none m
def wPso (w : WE) : WPt := fun env m Q E => w env m (fun d m1 => match d with | .int i => Q (some i) m1 | _ => False) E
theorem dpno : DP X none wPno := ⟨fun pins s σ H Q I ⟨F, m, env, Qd, xc, r, en, a, q, k⟩ => po_none.run pins s σ H Q I (k _ H F m (Sub.refl F) r q)⟩
theorem dpso {e : Expr} {w : WE} (h : DE X e w) : DP X (some e) (wPso w) := ⟨fun pins s σ H Q I ⟨F, m, env, Qd, xc, r, en, a, q, k⟩ => (po_some h).run pins s σ H Q I (tW.sub r en a q fun v1 H1 F1 m1 d1 s1 r1 en1 dn1 q1 => by
  cases d1 <;> first | exact q1.elim | skip
  simp only [Den] at dn1; subst dn1
  exact ⟨_, rfl, k _ H1 F1 m1 s1 r1 q1⟩)⟩
def cutD (xs : List D) (lo hi : Option Int) : List D := (xs.drop (HT.sIx xs.length 0 lo)).take (HT.sIx xs.length xs.length hi - HT.sIx xs.length 0 lo)
theorem cut_den {K : Frag} {F : Hp} {ds : List D} {vs : List V} (dn : Dens K F ds vs) (lo hi : Option Int) : Dens K F (cutD ds lo hi) (cutV vs lo hi) := by
  unfold cutD cutV
  rw [← dn.length]
  exact (dn.drop _).take _
def slD (x : D) (lo hi : Option Int) (m : Mem) (Q : Po) : Prop := match x with
  | .tup xs => Q (.tup (cutD xs lo hi)) m
  | x => ∃ xs, lstOf m x = some xs ∧ Q (.lst (cutD xs lo hi)) m
def wSl (we : WE) (wl wh : WPt) : WE := fun env m Q E => we env m (fun x m1 => wl env m1 (fun lo m2 => wh env m2 (fun hi m3 => slD x lo hi m3 Q) E) E) E
theorem cutV_all (xs : List V) (lo hi : Option Int) (h : HT.sIx xs.length 0 lo = 0 ∧ HT.sIx xs.length xs.length hi = xs.length) : cutV xs lo hi = xs := by
  unfold cutV; rw [h.1, h.2]; simp
theorem dsl {e : Expr} {lo hi : Option Expr} {p2 pos : Pos} {we : WE} {wl wh : WPt} (he : DE X e we) (hl : DP X lo wl) (hh : DP X hi wh) : DE X (.Subscript e (.Slice lo hi none p2) pos) (wSl we wl wh) :=
  wkE (pe_slice (sl_list.or sl_tupA) he hl hh) fun σ H Q ⟨F, m, env, Qd, xc, r, en, a, q, k⟩ =>
    tW.sub r en a q fun v1 H1 F1 m1 d1 s1 r1 en1 dn1 q1 => ⟨F1, m1, env, _, xc, r1, en1, a.mono s1, q1, fun l H2 F2 m2 s2 r2 q2 => ⟨F2, m2, env, _, xc, r2, en1.mono s2, a.mono (s1.trans s2), q2, fun u H3 F3 m3 s3 r3 q3 => by
      have dn3 := dn1.mono (s2.trans s3)
      have gen : (∃ xs, lstOf m3 d1 = some xs ∧ Qd (.lst (cutD xs l u)) m3) → rSlL X.K v1 l u H3 Q ∨ rSlA X.K v1 l u H3 Q := fun ⟨xs, e, q⟩ => by
        obtain ⟨p, vs, rfl, hs, dn⟩ := r3.lstOf dn3 e
        refine .inl ⟨p, vs, rfl, .inl hs, fun t ht => ?_⟩
        obtain ⟨r', s'⟩ := r3.frozen (o := .lst (cutV vs l u)) ht
        refine k _ _ _ m3 _ (((s1.trans s2).trans s3).trans s') r' ?_ q
        simp only [Den]
        exact ⟨t, _, rfl, .inl upd_same, (cut_den dn l u).mono s'⟩
      cases d1 <;> first | exact gen q3 | skip
      rename_i xs
      have D3 := dn3
      simp only [Den] at dn3
      obtain ⟨p, vs, rfl, hs, dn⟩ := dn3
      refine .inr ⟨p, vs, rfl, r3.sqT hs, fun hw => ?_, fun _ t ht => ?_⟩
      · have hw' : cutD xs l u = xs := by
          unfold cutD
          rw [← dn.length] at hw
          rw [hw.1, hw.2]; simp
        have q3 : Qd (.tup (cutD xs l u)) m3 := q3
        rw [hw'] at q3
        exact k _ H3 F3 m3 _ ((s1.trans s2).trans s3) r3 D3 q3
      · obtain ⟨r', s'⟩ := r3.frozen (o := .tup (cutV vs l u)) ht
        refine k _ _ _ m3 (.tup (cutD xs l u)) (((s1.trans s2).trans s3).trans s') r' ?_ q3
        simp only [Den]
        exact ⟨t, _, rfl, .inl (.inl upd_same), (cut_den dn l u).mono s'⟩⟩⟩
end
end DL

/-! D4: statements over data. -/
namespace DL
open PySem PySem.Spec L2

/-- whatever error this place takes -/
def Wx (X : Cx) : WX := fun cls d σ H => ∃ W, Takes X W ∧ W cls d σ H
theorem takes_max {X : Cx} : Takes X (Wx X) := fun u s' ⟨a, B, sI, pins, σ, H, cls, d, e, I, nb, up, sky, na, os, ag, W, t, w⟩ => t u s' ⟨a, B, sI, pins, σ, H, cls, d, e, I, nb, up, sky, na, os, ag, w⟩

section
variable {X : Cx}
theorem tWS.sub {w : WS} {F : Hp} {m : Mem} {env : En} {σ : St} {H : Hp} {E : De} {D : Ends} (r : Rel X.K F m H) (e : EnvDen X.K F σ env) (a : Acc X F E.xc) (h : w E env m) (n : Fw X.K F E.nx D.nx) (b : Fw X.K F E.bk D.bk) (c : Fw X.K F E.ct D.ct)
    (t : ∀ v H' F' m' d, Sub F F' → Rel X.K F' m' H' → Den X.K F' d v → E.rt d m' → D.rt v H') : tWS X w D σ H := ⟨F, m, env, E, r, e, a, h, n, b, c, t⟩
def sNil : WS := fun D env m => D.nx env m
def sSeq (a b : WS) : WS := fun D env m => a { D with nx := fun e' m' => b D e' m' } env m
theorem dsnil : DSs X [] sNil := wkSs pss_nil fun D σ H ⟨F, m, env, E, r, en, a, q, n, b, c, t⟩ => n σ H F m env (Sub.refl F) r en q
theorem dscons {st : Stmt} {rest : List Stmt} {wa wb : WS} (h1 : DS X st wa) (h2 : DSs X rest wb) : DSs X (st :: rest) (sSeq wa wb) := wkSs (pss_cons h1 h2) fun D σ H ⟨F, m, env, E, r, en, a, q, n, b, c, t⟩ =>
  tWS.sub (E := { E with nx := fun e' m' => wb E e' m' }) r en a q (fun σ' H' F' m' env' s r' en' q' => ⟨F', m', env', E, r', en', a.mono s, q', n.mono s, b.mono s, c.mono s, fun v H' F'' m' d s' => t v H' F'' m' d (s.trans s')⟩) b c t
theorem dsone {st : Stmt} {wa : WS} (h1 : DS X st wa) : DSs X [st] wa := pss_one h1
def sPass : WS := fun D env m => D.nx env m
def sBrk : WS := fun D env m => D.bk env m
def sCnt : WS := fun D env m => D.ct env m
theorem dpass {pos : Pos} : DS X (.Pass pos) sPass := wkS ps_pass fun D σ H ⟨F, m, env, E, r, en, a, q, n, b, c, t⟩ => n σ H F m env (Sub.refl F) r en q
theorem dbrk {pos : Pos} : DS X (.Break pos) sBrk := wkS ps_break fun D σ H ⟨F, m, env, E, r, en, a, q, n, b, c, t⟩ => b σ H F m env (Sub.refl F) r en q
theorem dcnt {pos : Pos} : DS X (.Continue pos) sCnt := wkS ps_continue fun D σ H ⟨F, m, env, E, r, en, a, q, n, b, c, t⟩ => c σ H F m env (Sub.refl F) r en q
def sDrop (w : WE) : WS := fun D env m => w env m (fun _ m1 => D.nx env m1) (fun x m1 => D.xc x env m1)
theorem dexpr {e : Expr} {pos : Pos} {w : WE} (he : DE X e w) (hs : swapsWith e none pos.line X.env = pure false := by rfl) : DS X (.Expr e pos) (sDrop w) := wkS (ps_expr he hs) fun D σ H ⟨F, m, env, E, r, en, a, q, n, b, c, t⟩ =>
  tW.sub r en a q fun v1 H1 F1 m1 d1 s1 r1 en1 dn1 q1 => n σ H1 F1 m1 env s1 r1 en1 q1
theorem dsdoc {x j pos pos'} : DS X (.Expr (.Constant (.str x) j pos) pos') sPass := wkS ps_doc fun D σ H ⟨F, m, env, E, r, en, a, q, n, b, c, t⟩ => n σ H F m env (Sub.refl F) r en q
def sRet (w : WE) : WS := fun D env m => w env m (fun d m1 => D.rt d m1) (fun x m1 => D.xc x env m1)
theorem dret {e : Expr} {pos : Pos} {w : WE} (he : DE X e w) : DS X (.Return (some e) pos) (sRet w) := wkS (ps_ret he) fun D σ H ⟨F, m, env, E, r, en, a, q, n, b, c, t⟩ =>
  tW.sub r en a q fun v1 H1 F1 m1 d1 s1 r1 en1 dn1 q1 => t _ H1 F1 m1 d1 s1 r1 dn1 q1
def sRetN : WS := fun D env m => D.rt .non m
theorem dretN {pos : Pos} : DS X (.Return none pos) sRetN := wkS ps_retN fun D σ H ⟨F, m, env, E, r, en, a, q, n, b, c, t⟩ => t _ H F m .non (Sub.refl F) r (by simp only [Den]) q
def sIf (w : WT) (a b : WS) : WS := fun D env m => w env m (fun k m1 => if k = true then a D env m1 else b D env m1) (fun x m1 => D.xc x env m1)
theorem dif_ {c : Expr} {a b : List Stmt} {pos : Pos} {w : WT} {wa wb : WS} (hc : DT X c w) (ha : DSs X a wa) (hb : DSs X b wb) : DS X (.If c a b pos) (sIf w wa wb) := wkS (ps_if hc ha hb) fun D σ H ⟨F, m, env, E, r, en, a, q, n, b, c, t⟩ =>
  tWT.sub r en a q fun k H1 F1 m1 s1 r1 en1 q1 => by
    cases k with
    | true => exact ⟨F1, m1, env, E, r1, en1, a.mono s1, q1, n.mono s1, b.mono s1, c.mono s1, fun v H' F'' m' d s' => t v H' F'' m' d (s1.trans s')⟩
    | false => exact ⟨F1, m1, env, E, r1, en1, a.mono s1, q1, n.mono s1, b.mono s1, c.mono s1, fun v H' F'' m' d s' => t v H' F'' m' d (s1.trans s')⟩
def sNever : WS := fun _ _ _ => False
theorem dsnever {st : Stmt} : DS X st sNever := ⟨fun _ _ _ _ _ _ ⟨F, m, env, E, r, en, a, q, _⟩ => q.elim⟩
theorem dssnever {st : List Stmt} : DSs X st sNever := ⟨fun _ _ _ _ _ _ ⟨F, m, env, E, r, en, a, q, _⟩ => q.elim⟩
def wNever : WE := fun _ _ _ _ => False
theorem dnever {e : Expr} : DE X e wNever := ⟨fun _ _ _ _ _ _ ⟨F, m, env, Qd, xc, r, en, a, q, _⟩ => q.elim⟩

/-! ### targets (they let nothing out) -/
abbrev WG := D → En → Mem → (En → Mem → Prop) → Prop
abbrev WGs := List D → En → Mem → (En → Mem → Prop) → Prop
def tWG (X : Cx) (w : WG) : TG := fun v σ H Q => ∃ (F : Hp) (m : Mem) (env : En) (d : D) (Qd : En → Mem → Prop), Rel X.K F m H ∧ EnvDen X.K F σ env ∧ Den X.K F d v ∧ w d env m Qd ∧ Fw X.K F Qd Q
def tWGs (X : Cx) (w : WGs) : TGs := fun vs σ H Q => ∃ (F : Hp) (m : Mem) (env : En) (ds : List D) (Qd : En → Mem → Prop), Rel X.K F m H ∧ EnvDen X.K F σ env ∧ Dens X.K F ds vs ∧ w ds env m Qd ∧ Fw X.K F Qd Q
abbrev DG (X : Cx) (e : Expr) (w : WG) : Prop := PG X e (tWG X w)
abbrev DGs (X : Cx) (e : List Expr) (w : WGs) : Prop := PGs X e (tWGs X w)
theorem wkG {e : Expr} {t t' : TG} (h : PG X e t) (i : ∀ v σ H Q, t' v σ H Q → t v σ H Q) : PG X e t' := ⟨fun p s σ H v u Q I r z => h.run p s σ H v u Q I r (i _ _ _ _ z)⟩
theorem wkGs {e : List Expr} {t t' : TGs} (h : PGs X e t) (i : ∀ v σ H Q, t' v σ H Q → t v σ H Q) : PGs X e t' := ⟨fun p s σ H v u Q I r z => h.run p s σ H v u Q I r (i _ _ _ _ z)⟩
def gN (i : Nat) : WG := fun d env m Q => Q (env.set i (some d)) m
theorem dgn {i : Nat} {x : Str} {pos : Pos} (hN : X.N.Nodup) (hi : X.N[i]? = some x) (hx : Loc X.env.scope x) (hf : X.fn x = true ∨ X.env.scope.names.lookup x = some .local := by first | exact .inl rfl | exact .inr rfl | assumption) : DG X (.Name x pos) (gN i) :=
  wkG (pg_name hN hi hx hf) fun v σ H Q ⟨F, m, env, d, Qd, r, en, dn, q, n⟩ => n _ H F m _ (Sub.refl F) r (en.set dn i) q
def gsNil : WGs := fun ds env m Q => ds = [] ∧ Q env m
def gsCons (g : WG) (gs : WGs) : WGs := fun ds env m Q => ∃ d r, ds = d :: r ∧ g d env m (fun env' m' => gs r env' m' Q)
theorem dgsnil : DGs X [] gsNil := wkGs pgs_nil fun vs σ H Q ⟨F, m, env, ds, Qd, r, en, dn, q, n⟩ => by
  obtain ⟨rfl, q⟩ := q
  simp only [Dens] at dn
  exact ⟨dn, n _ H F m _ (Sub.refl F) r en q⟩
theorem dgscons {e : Expr} {es : List Expr} {g : WG} {gs : WGs} (h1 : DG X e g) (h2 : DGs X es gs) (hs : (assignEach (e :: es) X.env).map (·.2) = assign e X.env :: (assignEach es X.env).map (·.2) := by rfl) : DGs X (e :: es) (gsCons g gs) :=
  wkGs (pgs_cons h1 h2 hs) fun vs σ H Q ⟨F, m, env, ds, Qd, r, en, dn, q, n⟩ => by
    obtain ⟨d, rest, rfl, q⟩ := q
    simp only [Dens] at dn
    obtain ⟨v, vr, rfl, d1, d2⟩ := dn
    exact ⟨v, vr, rfl, F, m, env, d, _, r, en, d1, q, fun σ' H' F' m' env' s r' en' q' => ⟨F', m', env', rest, Qd, r', en', d2.mono s, q', n.mono s⟩⟩
/-- a tuple's items, so many -/
def gTup (n : Nat) (gs : WGs) : WG := fun d env m Q => match d with
  | .tup ds => ds.length = n ∧ gs ds env m Q
  | _ => False
theorem dgtup {es : List Expr} {k : Nat} {pos : Pos} {gs : WGs} {n : Nat} (hc : X.calm = true) (h : DGs X es gs) (hn : (assignEach es X.env).length = n := by rfl) (hst : (assignEach es X.env).findIdx? (·.1) = none := by rfl) : DG X (.Tuple es k pos) (gTup n gs) :=
  wkG (pg_tup hc h hn hst) fun v σ H Q ⟨F, m, env, d, Qd, r, en, dn, q, n⟩ => by
    cases d <;> first | exact q.elim | skip
    simp only [Den] at dn
    obtain ⟨a, vs, rfl, hs, dn⟩ := dn
    exact ⟨a, vs, rfl, r.sqT hs, by rw [← dn.length]; exact q.1, F, m, env, _, Qd, r, en, dn, q.2, n⟩
/-- o[i] = v: a list's item -/
def gSubL (wo wi : WE) : WG := fun v env m Q => wo env m (fun o m1 => wi env m1 (fun i m2 => match o, i with
  | .ref p, .int k => ∃ xs j, m2 p = some (.lst xs) ∧ ixN xs.length k = some j ∧ Q env (m2.put p (.lst (xs.set j v)))
  | _, _ => False) (fun _ _ => False)) (fun _ _ => False)
theorem dgsubl {o i : Expr} {pos : Pos} {wo wi : WE} (ho : DE X o wo) (hi : DE X i wi)
    (ha : ∀ v, assign (.Subscript o i pos) X.env v = (do
      let ov ← holding [v] (eval o X.env)
      let iv ← holding [v, ov] (eval i X.env)
      standAt pos
      holding [v, ov, iv] (setItem ov iv v)
      release [v, ov, iv] []) := by intro _; rfl) : DG X (.Subscript o i pos) (gSubL wo wi) :=
  wkG (pg_sub ho hi set_list ha) fun v σ H Q ⟨F, m, env, d, Qd, r, en, dn, q, n⟩ =>
    tW.sub (xc := fun _ _ _ => False) r en Acc.no q fun v1 H1 F1 m1 d1 s1 r1 en1 dn1 q1 => tW.sub (xc := fun _ _ _ => False) r1 en1 Acc.no q1 fun v2 H2 F2 m2 d2 s2 r2 en2 dn2 q2 => by
      cases d1 <;> cases d2 <;> first | exact q2.elim | skip
      obtain ⟨xs, j, e, ej, q2⟩ := q2
      simp only [Den] at dn1 dn2
      subst dn1; subst dn2
      obtain ⟨_, cq⟩ := r2.me _ _ e
      simp only [CellOk] at cq
      obtain ⟨vs, hv, dv⟩ := cq
      refine ⟨_, vs, _, j, rfl, rfl, hv, by rw [← dv.length]; exact ej, n _ _ F2 _ _ (s1.trans s2) (r2.store e ?_) en2 q2⟩
      simp only [CellOk]
      exact ⟨_, upd_same, dv.set (dn.mono (s1.trans s2)) j⟩
/-- target = value -/
def sAsg (w : WE) (g : WG) : WS := fun D env m => w env m (fun d m1 => g d env m1 (fun e' m' => D.nx e' m')) (fun x m1 => D.xc x env m1)
theorem dasg {tg e : Expr} {pos : Pos} {w : WE} {g : WG} (he : DE X e w) (hg : DG X tg g) (hs : swapsWithSole [tg] e pos.line X.env = pure false := by rfl) (hw : swappedStores [tg] e X.env = pure none := by rfl)
    (h1 : (assignEach [tg] X.env).map (·.2) = [assign tg X.env] := by rfl) : DS X (.Assign [tg] e pos) (sAsg w g) := wkS (ps_asg he hg hs hw h1) fun D σ H ⟨F, m, env, E, r, en, a, q, n, b, c, t⟩ =>
  tW.sub r en a q fun v1 H1 F1 m1 d1 s1 r1 en1 dn1 q1 => ⟨F1, m1, env, d1, _, r1, en1, dn1, q1, n.mono s1⟩
/-- name = value -/
theorem dset {i : Nat} {x : Str} {e : Expr} {pos pos' : Pos} {w : WE} (hN : X.N.Nodup) (hi : X.N[i]? = some x) (hx : Loc X.env.scope x) (he : DE X e w) (hs : swapsWith e (some (.Name x pos')) pos.line X.env = pure false := by rfl) (hf : X.fn x = true ∨ X.env.scope.names.lookup x = some .local := by first | exact .inl rfl | exact .inr rfl | assumption) :
    DS X (.Assign [.Name x pos'] e pos) (sAsg w (gN i)) := wkS (ps_set hN hi hx he hs hf) fun D σ H ⟨F, m, env, E, r, en, a, q, n, b, c, t⟩ =>
  tW.sub r en a q fun v1 H1 F1 m1 d1 s1 r1 en1 dn1 q1 => n _ H1 F1 m1 _ s1 r1 (en1.set dn1 i) q1
/-- a, b = x, y of plain locals -/
def sPar2 (i j : Nat) (wa : WA) : WS := fun D env m => wa env m (fun ds m1 => ∃ u v, ds = [u, v] ∧ D.nx ((env.set i (some u)).set j (some v)) m1) (fun x m1 => D.xc x env m1)
theorem dens2 {K : Frag} {F : Hp} {u v : D} {vs : List V} (h : Dens K F [u, v] vs) : ∃ a b, vs = [a, b] ∧ Den K F u a ∧ Den K F v b := by
  simp only [Dens] at h
  obtain ⟨a, r, rfl, h1, b, r', rfl, h2, rfl⟩ := h
  exact ⟨a, b, rfl, h1, h2⟩
theorem dens3 {K : Frag} {F : Hp} {u v w : D} {vs : List V} (h : Dens K F [u, v, w] vs) : ∃ a b c, vs = [a, b, c] ∧ Den K F u a ∧ Den K F v b ∧ Den K F w c := by
  simp only [Dens] at h
  obtain ⟨a, r, rfl, h1, b, r', rfl, h2, c, r'', rfl, h3, rfl⟩ := h
  exact ⟨a, b, c, rfl, h1, h2, h3⟩
theorem dpar2 {i j : Nat} {x y : Str} {a b : Expr} {wa : WA} {px py pt pos : Pos} {kt k2 pt2} (hc : X.calm = true) (hN : X.N.Nodup) (hi : X.N[i]? = some x) (hj : X.N[j]? = some y) (hij : i ≠ j)
    (hx : X.env.scope.names.lookup x = some .local) (hy : X.env.scope.names.lookup y = some .local) (ha : DA X [a, b] wa)
    (hw : swappedStores [.Tuple [.Name x px, .Name y py] kt pt] (.Tuple [a, b] k2 pt2) X.env = pure (some [x, y]))
    (hs : swapsWithSole [.Tuple [.Name x px, .Name y py] kt pt] (.Tuple [a, b] k2 pt2) pos.line X.env = pure false := by rfl) :
    DS X (.Assign [.Tuple [.Name x px, .Name y py] kt pt] (.Tuple [a, b] k2 pt2) pos) (sPar2 i j wa) := wkS (ps_par hc hN hi hj hij hx hy ha hw hs) fun D σ H ⟨F, m, env, E, r, en, a, q, n, b, c, t⟩ =>
  tWA.sub r en a q fun vs H1 F1 m1 ds s1 r1 en1 dn1 q1 => by
    obtain ⟨u, v, rfl, q1⟩ := q1
    obtain ⟨a', b', rfl, h1, h2⟩ := dens2 dn1
    exact ⟨a', b', rfl, n _ H1 F1 m1 _ s1 r1 ((en1.set h1 i).set h2 j) q1⟩
def sPar3 (i j l : Nat) (wa : WA) : WS := fun D env m => wa env m (fun ds m1 => ∃ u v w, ds = [u, v, w] ∧ D.nx (((env.set i (some u)).set j (some v)).set l (some w)) m1) (fun x m1 => D.xc x env m1)
theorem dpar3 {i j l : Nat} {x y z : Str} {a b c : Expr} {wa : WA} {px py pz pt pos : Pos} {kt k2 pt2} (hc : X.calm = true) (hN : X.N.Nodup) (hi : X.N[i]? = some x) (hj : X.N[j]? = some y) (hl : X.N[l]? = some z) (hij : i ≠ j) (hil : i ≠ l) (hjl : j ≠ l)
    (hx : X.env.scope.names.lookup x = some .local) (hy : X.env.scope.names.lookup y = some .local) (hz : X.env.scope.names.lookup z = some .local) (ha : DA X [a, b, c] wa)
    (hw : swappedStores [.Tuple [.Name x px, .Name y py, .Name z pz] kt pt] (.Tuple [a, b, c] k2 pt2) X.env = pure (some [x, y, z]))
    (hs : swapsWithSole [.Tuple [.Name x px, .Name y py, .Name z pz] kt pt] (.Tuple [a, b, c] k2 pt2) pos.line X.env = pure false := by rfl) :
    DS X (.Assign [.Tuple [.Name x px, .Name y py, .Name z pz] kt pt] (.Tuple [a, b, c] k2 pt2) pos) (sPar3 i j l wa) := wkS (ps_par3 hc hN hi hj hl hij hil hjl hx hy hz ha hw hs) fun D σ H ⟨F, m, env, E, r, en, a, q, n, b, c, t⟩ =>
  tWA.sub r en a q fun vs H1 F1 m1 ds s1 r1 en1 dn1 q1 => by
    obtain ⟨u, v, w, rfl, q1⟩ := q1
    obtain ⟨a', b', c', rfl, h1, h2, h3⟩ := dens3 dn1
    exact ⟨a', b', c', rfl, n _ H1 F1 m1 _ s1 r1 (((en1.set h1 i).set h2 j).set h3 l) q1⟩

/-! ### while -/
def sWhile (w : WT) (wb : WS) : WS := fun D env m => ∃ W : Nat → En → Mem → Prop, (∃ k, W k env m) ∧ ∀ k env m, W k env m → w env m (fun b m1 => if b = true then
    wb { D with nx := fun e' m' => ∃ k', k' < k ∧ W k' e' m', ct := fun e' m' => ∃ k', k' < k ∧ W k' e' m', bk := D.nx } env m1 else D.nx env m1) (fun x m1 => D.xc x env m1)
theorem dwhile {c : Expr} {body : List Stmt} {pos : Pos} {w : WT} {wb : WS} (hp : PassesOwn (model X.prog X.w) X.A X.env X.xe) (hc : DT X c w) (hb : DSs X body wb) : DS X (.While c body [] pos) (sWhile w wb) := wkS (ps_while hp hc hb) fun D σ H ⟨F, m, env, E, r, en, a, ⟨W, ⟨k0, w0⟩, turn⟩, n, b, c, t⟩ => by
  refine ⟨fun k σ H => ∃ F' m' env', Sub F F' ∧ Rel X.K F' m' H ∧ EnvDen X.K F' σ env' ∧ W k env' m', ⟨k0, F, m, env, Sub.refl F, r, en, w0⟩, ?_⟩
  rintro k σ1 H1 ⟨F1, m1, env1, s1, r1, en1, w1⟩
  refine tWT.sub (xc := E.xc) r1 en1 (a.mono s1) (turn k env1 m1 w1) fun bb H2 F2 m2 s2 r2 en2 q2 => ?_
  cases bb with
  | false => exact n σ1 H2 F2 m2 env1 (s1.trans s2) r2 en2 q2
  | true =>
    refine ⟨fun σ3 H3 => ∃ k', k' < k ∧ ∃ F' m' env', Sub F F' ∧ Rel X.K F' m' H3 ∧ EnvDen X.K F' σ3 env' ∧ W k' env' m', fun σ3 H3 ⟨k', h, z⟩ => ⟨k', h, z⟩, ?_⟩
    have fw : Fw X.K F2 (fun e' m' => ∃ k', k' < k ∧ W k' e' m') (fun σ3 H3 => ∃ k', k' < k ∧ ∃ F' m' env', Sub F F' ∧ Rel X.K F' m' H3 ∧ EnvDen X.K F' σ3 env' ∧ W k' env' m') := fun σ3 H3 F3 m3 env3 s3 r3 en3 ⟨k', h, z⟩ =>
      ⟨k', h, F3, m3, env3, (s1.trans s2).trans s3, r3, en3, z⟩
    exact tWS.sub (E := { E with nx := fun e' m' => ∃ k', k' < k ∧ W k' e' m', ct := fun e' m' => ∃ k', k' < k ∧ W k' e' m', bk := E.nx }) r2 en2 (a.mono (s1.trans s2)) q2 fw (n.mono (s1.trans s2)) fw fun v H' F'' m' d s' => t v H' F'' m' d ((s1.trans s2).trans s')

/-! ### for -/
/-- what is walked: the items, and what must stay so -/
abbrev WI := En → Mem → (List D → (Mem → Prop) → Mem → Prop) → Xo → Prop
def Yields (K : Frag) (F : Hp) (J : It) (ds : List D) (keep : Mem → Prop) : Prop := ∀ (F' : Hp) (m : Mem) (H : Hp) (i : Nat), Sub F F' → Rel K F' m H → keep m →
  (i < ds.length → J.go i H ∧ ∀ x H', J.yld i H x H' → ∃ F'' d, Sub F' F'' ∧ Rel K F'' m H' ∧ ds[i]? = some d ∧ Den K F'' d x) ∧ (ds.length ≤ i → J.stop i H)
def tWI (X : Cx) (w : WI) : TI := fun σ H R => ∃ (F : Hp) (m : Mem) (env : En) (Qd : List D → (Mem → Prop) → Mem → Prop) (xc : Xc), Rel X.K F m H ∧ EnvDen X.K F σ env ∧ Acc X F xc ∧ w env m Qd (fun x m' => xc x env m') ∧
  ∀ J H' F' m' ds keep, Sub F F' → Rel X.K F' m' H' → Yields X.K F' J ds keep → keep m' → Qd ds keep m' → R J H'
abbrev DI (X : Cx) (tg iter : Expr) (w : WI) : Prop := PI X tg iter (tWI X w)
theorem wkI {tg iter : Expr} {t t' : TI} (h : PI X tg iter t) (i : ∀ σ H R, t' σ H R → t σ H R) : PI X tg iter t' := ⟨fun p s σ H R I z => h.run p s σ H R I (i _ _ _ z)⟩
theorem Yields.mono {K : Frag} {F F' : Hp} {J : It} {ds : List D} {keep : Mem → Prop} (y : Yields K F J ds keep) (s : Sub F F') : Yields K F' J ds keep := fun G m H i s' => y G m H i (s.trans s')
/-- Iv done rest: at a turn -/
def sFor (wi : WI) (g : WG) (wb : WS) : WS := fun Z env m => wi env m (fun ds keep m1 => ∃ Iv : List D → List D → En → Mem → Prop, Iv [] ds env m1 ∧
    (∀ done d rest env m, ds = done ++ d :: rest → Iv done (d :: rest) env m → keep m ∧ g d env m (fun e2 m2 => wb { Z with nx := Iv (done ++ [d]) rest, ct := Iv (done ++ [d]) rest, bk := Z.nx } e2 m2)) ∧
    ∀ env m, Iv ds [] env m → keep m ∧ Z.nx env m) (fun x m1 => Z.xc x env m1)
theorem dfor {tg iter : Expr} {body : List Stmt} {pos : Pos} {wi : WI} {g : WG} {wb : WS} (hp : PassesOwn (model X.prog X.w) X.A X.env X.xe) (hc : X.calm = true) (hi : DI X tg iter wi) (hg : DG X tg g) (hb : DSs X body wb)
    (hs : ∀ x, foldedSetIterable iter X.env x = pure x := by intro _; rfl) : DS X (.For tg iter body [] pos) (sFor wi g wb) := wkS (ps_for hp hc hi hg hb hs) fun D σ H ⟨F, m, env, E, r, en, a, q, n, b, c, t⟩ => by
  refine ⟨F, m, env, _, E.xc, r, en, a, q, fun J H1 F1 m1 ds keep s1 r1 y kp ⟨Iv, i0, turn, fin⟩ => ?_⟩
  let W : Nat → Nat → St → Hp → Prop := fun i k σ H => k = ds.length - i ∧ i ≤ ds.length ∧ ∃ F' m' env', Sub F1 F' ∧ Rel X.K F' m' H ∧ EnvDen X.K F' σ env' ∧ Iv (ds.take i) (ds.drop i) env' m'
  refine ⟨W, ⟨ds.length, by simp, Nat.zero_le _, F1, m1, env, Sub.refl F1, r1, en.mono s1, by simpa using i0⟩, ?_⟩
  rintro i k σ2 H2 ⟨rfl, hi2, F2, m2, env2, s2, r2, en2, iv⟩
  by_cases hlt : i < ds.length
  · have hd : ds.drop i = ds[i] :: ds.drop (i + 1) := List.drop_eq_getElem_cons hlt
    have he : ds = ds.take i ++ ds[i] :: ds.drop (i + 1) := by rw [← hd, List.take_append_drop]
    rw [hd] at iv
    obtain ⟨kp2, q2⟩ := turn _ _ _ env2 m2 he iv
    obtain ⟨hy, _⟩ := y F2 m2 H2 i s2 r2 kp2
    obtain ⟨go, yl⟩ := hy hlt
    have et : ds.take i ++ [ds[i]] = ds.take (i + 1) := by rw [List.take_succ_eq_append_getElem hlt]
    refine .inr ⟨go, fun σ' H' => ∃ m', m' < ds.length - i ∧ W (i + 1) m' σ' H', fun σ' H' z => z, fun x H3 hx => ?_⟩
    obtain ⟨F3, d, s3, r3, e3, dn3⟩ := yl x H3 hx
    have ed : d = ds[i] := by rw [List.getElem?_eq_getElem hlt] at e3; exact (Option.some.inj e3).symm
    subst ed
    refine ⟨F3, m2, env2, _, _, r3, en2.mono s3, dn3, q2, fun σ4 H4 F4 m4 env4 s4 r4 en4 q4 => ?_⟩
    have fw : Fw X.K F4 (Iv (ds.take i ++ [ds[i]]) (ds.drop (i + 1))) (fun σ' H' => ∃ m', m' < ds.length - i ∧ W (i + 1) m' σ' H') := fun σ5 H5 F5 m5 env5 s5 r5 en5 q5 =>
      ⟨ds.length - (i + 1), by omega, rfl, hlt, F5, m5, env5, ((s2.trans s3).trans s4).trans s5, r5, en5, by rw [← et]; exact q5⟩
    have ss := ((s1.trans s2).trans s3).trans s4
    exact tWS.sub (E := { E with nx := Iv (ds.take i ++ [ds[i]]) (ds.drop (i + 1)), ct := Iv (ds.take i ++ [ds[i]]) (ds.drop (i + 1)), bk := E.nx }) r4 en4 (a.mono ss) q4 fw (n.mono ss) fw fun v H' F'' m' d s' => t v H' F'' m' d (ss.trans s')
  · have e : i = ds.length := by omega
    subst e
    rw [List.take_length, List.drop_length] at iv
    obtain ⟨kp2, q2⟩ := fin env2 m2 iv
    obtain ⟨_, st⟩ := y F2 m2 H2 ds.length s2 r2 kp2
    exact .inl ⟨st (Nat.le_refl _), n σ2 H2 F2 m2 env2 (s1.trans s2) r2 en2 q2⟩
/-- over a list or tuple -/
def wiSeq (w : WE) : WI := fun env m Q E => w env m (fun d m1 => ∃ ds, seqOf m1 d = some ds ∧ Q ds (fun m' => seqOf m' d = some ds) m1) E
theorem yields_list {K : Frag} {F : Hp} {m : Mem} {H : Hp} {d : D} {a : Addr} {ds : List D} (dn : Den K F d (.ref a)) (hl : ∀ (F' : Hp) m H, Sub F F' → Rel K F' m H → seqOf m d = some ds → ∃ vs, SqL K H a vs ∧ Dens K F' ds vs) : Yields K F (Itl K a) ds (fun m' => seqOf m' d = some ds) := by
  intro F' m H i s r kp
  obtain ⟨vs, h, z⟩ := hl F' m H s r kp
  refine ⟨fun hi => ?_, fun hi => ⟨vs, h, by rw [← z.length]; exact hi⟩⟩
  obtain ⟨v, e, dv⟩ := z.get (List.getElem?_eq_getElem hi)
  refine ⟨⟨vs, v, h, e⟩, fun x H' hx => ?_⟩
  obtain ⟨rfl, hx⟩ := hx
  have := hx vs h
  rw [e] at this
  cases this
  exact ⟨F', _, Sub.refl _, r, List.getElem?_eq_getElem hi, dv⟩
theorem yields_tup {K : Frag} {F : Hp} {m : Mem} {H : Hp} {d : D} {a : Addr} {ds : List D} (dn : Den K F d (.ref a)) (hl : ∀ (F' : Hp) m H, Sub F F' → Rel K F' m H → seqOf m d = some ds → ∃ vs, SqT K H a vs ∧ Dens K F' ds vs) : Yields K F (Itt K a) ds (fun m' => seqOf m' d = some ds) := by
  intro F' m H i s r kp
  obtain ⟨vs, h, z⟩ := hl F' m H s r kp
  refine ⟨fun hi => ?_, fun hi => ⟨vs, h, by rw [← z.length]; exact hi⟩⟩
  obtain ⟨v, e, dv⟩ := z.get (List.getElem?_eq_getElem hi)
  refine ⟨⟨vs, v, h, e⟩, fun x H' hx => ?_⟩
  obtain ⟨rfl, hx⟩ := hx
  have := hx vs h
  rw [e] at this
  cases this
  exact ⟨F', _, Sub.refl _, r, List.getElem?_eq_getElem hi, dv⟩
theorem pi_seq {tg l : Expr} {tl : TE} (hl : PE X l tl) : PI X tg l (fun σ H R => tl σ H fun x H1 => ∃ a, x = .ref a ∧ (((∃ xs, SqL X.K H1 a xs) ∧ R (Itl X.K a) H1) ∨ ((∃ xs, SqT X.K H1 a xs) ∧ R (Itt X.K a) H1))) := by
  refine ⟨fun pins s σ H R I h => ?_⟩
  refine thn (hl.run pins s σ H _ I h) fun v s1 ⟨x, H1, I1, r1, q1⟩ => ?_
  obtain ⟨a, e, q⟩ := q1
  subst e
  cases r1
  rcases q with ⟨⟨xs, hq⟩, q⟩ | ⟨⟨xs, hq⟩, q⟩
  · obtain ⟨its, rv, p, hz⟩ := I1.list hq
    refine wpAny_pyIter_list p.isList ?_
    refine ⟨s1.heap.objs.size, [s1.heap.objs.size], _, _, H1, rfl, I1.kept (t' := s1.toks) fun b o e => Heap.get?_push_of_some _ e, turn_list a _, ⟨_, Heap.get?_push_size _ rfl, rfl, rfl⟩, fun b hb => ?_, q⟩
    have e : b = s1.heap.objs.size := by simpa using hb
    subst e
    exact I1.fpOk (Nat.le_refl _) (I1.hok.fresh (Nat.le_refl _))
  · obtain ⟨its, rv, p, hz⟩ := I1.tuple hq
    refine wpAny_pyIter_tuple (show s1.heap.IsTuple a its.toArray from p) ?_
    refine ⟨s1.heap.objs.size, [s1.heap.objs.size], _, _, H1, rfl, I1.kept (t' := s1.toks) fun b o e => Heap.get?_push_of_some _ e, turn_tuple a _, ⟨_, Heap.get?_push_size _ rfl, rfl, rfl⟩, fun b hb => ?_, q⟩
    have e : b = s1.heap.objs.size := by simpa using hb
    subst e
    exact I1.fpOk (Nat.le_refl _) (I1.hok.fresh (Nat.le_refl _))
theorem diseq {tg l : Expr} {w : WE} (hl : DE X l w) : DI X tg l (wiSeq w) := wkI (pi_seq hl) fun σ H R ⟨F, m, env, Qd, xc, r, en, a, q, k⟩ =>
  tW.sub r en a q fun v1 H1 F1 m1 d1 s1 r1 en1 dn1 ⟨ds, e, q1⟩ => by
    obtain ⟨p, vs, rfl, hs, _⟩ := r1.seqOf dn1 e
    refine ⟨p, rfl, ?_⟩
    have kind : (∃ ys, d1 = .tup ys) ∨ (∀ ys, d1 ≠ .tup ys) := by cases d1 <;> first | exact .inl ⟨_, rfl⟩ | exact .inr fun ys z => nomatch z
    rcases kind with ⟨ys, rfl⟩ | nt
    · have D1 := dn1
      simp only [Den] at dn1
      obtain ⟨b, us, eb, hb, _⟩ := dn1
      cases eb
      refine .inr ⟨⟨us, r1.sqT hb⟩, k _ H1 F1 m1 ds _ s1 r1 (yields_tup (m := m1) (H := H1) D1 fun F' m H s r z => ?_) e q1⟩
      cases z
      have D2 := D1.mono s
      simp only [Den] at D2
      obtain ⟨b', us', eb', hb', dn'⟩ := D2
      cases eb'
      exact ⟨us', r.sqT hb', dn'⟩
    · have get : ∀ (F' : Hp) m H, Sub F1 F' → Rel X.K F' m H → seqOf m d1 = some ds → ∃ vs, SqL X.K H p vs ∧ Dens X.K F' ds vs := fun F' m H s r z => by
        obtain ⟨b, us, eb, hb, dn'⟩ : ∃ a us, V.ref p = .ref a ∧ SqL X.K H a us ∧ Dens X.K F' ds us := by
          cases d1 with
          | tup ys => exact absurd rfl (nt ys)
          | klst ys =>
            cases z
            have D2 := dn1.mono s
            simp only [Den] at D2
            obtain ⟨b, us, e1, e2, e3⟩ := D2
            exact ⟨b, us, e1, r.sqL e2, e3⟩
          | lst ys =>
            obtain ⟨b, us, e1, e2, e3⟩ := r.lstOf (dn1.mono s) (show lstOf m (.lst ys) = some ds from z)
            exact ⟨b, us, e1, .inl e2, e3⟩
          | ref a =>
            obtain ⟨b, us, e1, e2, e3⟩ := r.lstOf (dn1.mono s) (show lstOf m (.ref a) = some ds from z)
            exact ⟨b, us, e1, .inl e2, e3⟩
          | _ => cases z
        cases eb
        exact ⟨us, hb, dn'⟩
      obtain ⟨us, hb, _⟩ := get F1 m1 H1 (Sub.refl _) r1 e
      exact .inl ⟨⟨us, hb⟩, k _ H1 F1 m1 ds _ s1 r1 (yields_list (m := m1) (H := H1) dn1 get) e q1⟩
/-- range(n), range(a, b) -/
def rngD (lo : Int) (n : Nat) : List D := (List.range n).map fun (i : Nat) => D.int (lo + (i : Int))
theorem rngD_length (lo : Int) (n : Nat) : (rngD lo n).length = n := by simp [rngD]
theorem yields_rng {K : Frag} {F : Hp} (lo : Int) (n : Nat) : Yields K F (Itr lo n) (rngD lo n) (fun _ => True) := by
  intro F' m H i s r _
  rw [rngD_length]
  refine ⟨fun hi => ⟨hi, fun x H' hx => ?_⟩, fun hi => hi⟩
  obtain ⟨rfl, rfl⟩ := hx
  exact ⟨F', .int (lo + i), Sub.refl _, r, by simp [rngD, hi], by simp only [Den]⟩
def wiRng1 (wa : WA) : WI := fun env m Q E => wa env m (fun ds m1 => ∃ j : Int, ds = [.int j] ∧ -(2 ^ 62) ≤ j ∧ j < 2 ^ 62 ∧ Q (rngD 0 j.toNat) (fun _ => True) m1) E
def wiRng2 (wa : WA) : WI := fun env m Q E => wa env m (fun ds m1 => ∃ i j : Int, ds = [.int i, .int j] ∧ (-(2 ^ 62) ≤ i ∧ i < 2 ^ 62 ∧ -(2 ^ 62) ≤ j ∧ j < 2 ^ 62) ∧ Q (rngD i (j - i).toNat) (fun _ => True) m1) E
theorem dirng1 {tg a : Expr} {wa : WA} {p pos : Pos} (hg : Gl X "range") (hm : X.mg "range" = none) (ha : DA X [a] wa) (hs : starEach [a] X.env = [(false, eval a X.env)] := by rfl) : DI X tg (.Call (.Name "range" p) [a] [] pos) (wiRng1 wa) :=
  wkI (pi_range1 hg hm ha hs) fun σ H R ⟨F, m, env, Qd, xc, r, en, a, q, k⟩ => tWA.sub r en a q fun vs H1 F1 m1 ds s1 r1 en1 dn1 ⟨j, e, h1, h2, q1⟩ => by
    subst e
    simp only [Dens, Den] at dn1
    obtain ⟨v, r', rfl, rfl, rfl⟩ := dn1
    exact ⟨j, rfl, h1, h2, k _ H1 F1 m1 _ _ s1 r1 (yields_rng 0 j.toNat) trivial q1⟩
theorem dirng2 {tg a b : Expr} {wa : WA} {p pos : Pos} (hg : Gl X "range") (hm : X.mg "range" = none) (ha : DA X [a, b] wa) (hs : starEach [a, b] X.env = [(false, eval a X.env), (false, eval b X.env)] := by rfl) (hs2 : starEach [b] X.env = [(false, eval b X.env)] := by rfl) :
    DI X tg (.Call (.Name "range" p) [a, b] [] pos) (wiRng2 wa) :=
  wkI (pi_range2 hg hm ha hs hs2) fun σ H R ⟨F, m, env, Qd, xc, r, en, a, q, k⟩ => tWA.sub r en a q fun vs H1 F1 m1 ds s1 r1 en1 dn1 ⟨i, j, e, h1, q1⟩ => by
    subst e
    obtain ⟨u, v, rfl, h2, h3⟩ := dens2 dn1
    simp only [Den] at h2 h3
    subst h2; subst h3
    exact ⟨i, j, rfl, h1, k _ H1 F1 m1 _ _ s1 r1 (yields_rng i (j - i).toNat) trivial q1⟩
end
end DL

/-! D5: list comprehensions over data. -/
namespace DL
open PySem PySem.Spec L2

def wipeD (env : En) : List Nat → En
  | [] => env
  | v :: vs => (wipeD env vs).set v none
@[simp] theorem wipeD_nil {env : En} : wipeD env [] = env := rfl
@[simp] theorem wipeD_cons {env : En} {v : Nat} {vs : List Nat} : wipeD env (v :: vs) = (wipeD env vs).set v none := rfl
theorem EnvDen.wipe {K : Frag} {F : Hp} {σ : St} {env : En} (h : EnvDen K F σ env) : ∀ vs, EnvDen K F (L2.wipe σ vs) (wipeD env vs)
  | [] => h
  | v :: vs => (h.wipe vs).unset v
theorem wipe_set {σ : St} {i : Nat} {x : Option V} : ∀ {vs : List Nat}, i ∈ vs → wipe (σ.set i x) vs = wipe σ vs
  | [], h => by simp at h
  | v :: vs, h => by
    show (wipe (σ.set i x) vs).set v none = (wipe σ vs).set v none
    by_cases e : i ∈ vs
    · rw [wipe_set e]
    · have : i = v := by simpa [e] using h
      subst this
      clear h
      have gen : ∀ (us : List Nat), i ∉ us → (wipe (σ.set i x) us) = (wipe σ us).set i x := by
        intro us
        induction us with
        | nil => intro _; rfl
        | cons u us ih =>
          intro hn
          simp only [List.mem_cons, not_or] at hn
          show (wipe (σ.set i x) us).set u none = ((wipe σ us).set u none).set i x
          rw [ih hn.2, List.set_comm _ _ hn.1]
      rw [gen vs e, List.set_set]

/-- a comprehension's target: names in slots vs -/
def CTg (K : Frag) (vs : List Nat) (g : TG) (g' : WG) : Prop := ∀ (F : Hp) (m : Mem) (v : V) (σ : St) (H : Hp) (env : En) (d : D) (Qd : En → Mem → Prop) (Q : St → Hp → Prop), Rel K F m H → EnvDen K F σ env → Den K F d v → g' d env m Qd →
  (∀ σ' env', EnvDen K F σ' env' → wipe σ' vs = wipe σ vs → Qd env' m → Q σ' H) → g v σ H Q
theorem ct_name {K : Frag} {i : Nat} {vs : List Nat} (h : i ∈ vs := by decide) : CTg K vs (gName i) (gN i) := fun F m v σ H env d Qd Q r en dn q k => k _ _ (en.set dn i) (wipe_set h) q
def CTgs (K : Frag) (vs : List Nat) (g : TGs) (g' : WGs) : Prop := ∀ (F : Hp) (m : Mem) (us : List V) (σ : St) (H : Hp) (env : En) (ds : List D) (Qd : En → Mem → Prop) (Q : St → Hp → Prop), Rel K F m H → EnvDen K F σ env → Dens K F ds us → g' ds env m Qd →
  (∀ σ' env', EnvDen K F σ' env' → wipe σ' vs = wipe σ vs → Qd env' m → Q σ' H) → g us σ H Q
theorem ct_nil {K : Frag} {vs : List Nat} : CTgs K vs L2.gNil gsNil := fun F m us σ H env ds Qd Q r en dn q k => by
  obtain ⟨rfl, q⟩ := q
  simp only [Dens] at dn
  exact ⟨dn, k σ env en rfl q⟩
theorem ct_cons {K : Frag} {vs : List Nat} {i : Nat} {g : TGs} {g' : WGs} (h2 : CTgs K vs g g') (h : i ∈ vs := by decide) : CTgs K vs (gCons (gName i) g) (gsCons (gN i) g') := fun F m us σ H env ds Qd Q r en dn q k => by
  obtain ⟨d, rest, rfl, q⟩ := q
  simp only [Dens] at dn
  obtain ⟨v, vr, rfl, d1, d2⟩ := dn
  exact ⟨v, vr, rfl, h2 F m vr _ H _ rest Qd Q r (en.set d1 i) d2 q fun σ' env' e w q' => k σ' env' e (w.trans (wipe_set h)) q'⟩
theorem ct_tup {K : Frag} {vs : List Nat} {n : Nat} {g : TGs} {g' : WGs} (h : CTgs K vs g g') : CTg K vs (L2.gTup K n g) (gTup n g') := fun F m v σ H env d Qd Q r en dn q k => by
  cases d <;> first | exact q.elim | skip
  simp only [Den] at dn
  obtain ⟨a, us, rfl, hs, dn⟩ := dn
  exact ⟨a, us, rfl, r.sqT hs, by rw [← dn.length]; exact q.1, h F m us σ H env _ Qd Q r en dn q.2 k⟩

section
variable {X : Cx}
abbrev DTs (X : Cx) (ifs : List Expr) (w : WT) : Prop := PTs X ifs (tWT X w)
def wYes : WT := fun _ m Q _ => Q true m
theorem dtsnil : DTs X [] wYes := ⟨fun pins s σ H Q I ⟨F, m, env, Qd, xc, r, en, a, q, k⟩ => pts_nil.run pins s σ H Q I (k _ H F m (Sub.refl F) r q)⟩
theorem dtsone {c : Expr} {w : WT} (h : DT X c w) : DTs X [c] w := pts_one h
def noX : Xo := fun _ _ => False
/-- [elt for target in iter if ..], at p -/
def wLc (wi : WI) (g : WG) (wt : WT) (we : WE) (vs : List Nat) : WE := fun env m Q E => wi env m (fun ds keep m1 => ∀ p, m1 p = none → ∃ Iv : List D → List D → List D → Mem → Prop, Iv [] ds [] (m1.put p (.lst [])) ∧
  (∀ done d rest acc m, ds = done ++ d :: rest → Iv done (d :: rest) acc m → keep m ∧ m p = some (.lst acc) ∧ acc.length < sizeLine ∧ g d (wipeD env vs) m (fun e2 m2 => wt e2 m2 (fun b m3 =>
    if b = true then we e2 m3 (fun y m4 => m4 p = some (.lst acc) ∧ Iv (done ++ [d]) rest (acc ++ [y]) (m4.put p (.lst (acc ++ [y])))) noX else Iv (done ++ [d]) rest acc m3) noX)) ∧
  ∀ acc m, Iv ds [] acc m → keep m ∧ m p = some (.lst acc) ∧ Q (.ref p) m) E
theorem lc_step {wi : WI} {g : TG} {g' : WG} {wt : WT} {we : WE} {vs : List Nat} {tt : TT} {te : TE} {σ : St} {H : Hp} {Q : VK} (ct : CTg X.K vs g g')
    (htt : ∀ {σ H Q}, (∃ F m env Qd, Rel X.K F m H ∧ EnvDen X.K F σ env ∧ wt env m Qd noX ∧ ∀ b H' F' m', Sub F F' → Rel X.K F' m' H' → Qd b m' → Q b H') → tt σ H Q)
    (hte : ∀ {σ H Q}, (∃ F m env Qd, Rel X.K F m H ∧ EnvDen X.K F σ env ∧ we env m Qd noX ∧ ∀ v H' F' m' d, Sub F F' → Rel X.K F' m' H' → Den X.K F' d v → Qd d m' → Q v H') → te σ H Q)
    (h : tW X (wLc wi g' wt we vs) σ H Q) : tLc (tWI X wi) g tt te vs σ H Q := by
  obtain ⟨F, m, env, Qd, xc, r, en, a, q, k⟩ := h
  refine ⟨F, m, env, _, xc, r, en, a, q, fun J H1 F1 m1 ds keep s1 r1 y kp q1 => fun p hp => ?_⟩
  obtain ⟨f1, n1⟩ := r1.free hp
  obtain ⟨Iv, i0, turn, fin⟩ := q1 p n1
  let W : Nat → Nat → Hp → Prop := fun i k H => k = ds.length - i ∧ i ≤ ds.length ∧ ∃ F' m' acc, Sub F1 F' ∧ Rel X.K F' m' H ∧ Iv (ds.take i) (ds.drop i) acc m'
  have r1' : Rel X.K F1 (m1.put p (.lst [])) (upd H1 p (.lst [])) := r1.fresh hp (by simp only [CellOk]; exact ⟨[], upd_same, Dens.nil⟩)
  refine ⟨W, ⟨ds.length, by simp, Nat.zero_le _, F1, _, [], Sub.refl F1, r1', by simpa using i0⟩, ?_⟩
  rintro i k2 H2 ⟨rfl, hi2, F2, m2, acc, s2, r2, iv⟩
  by_cases hlt : i < ds.length
  · have hd : ds.drop i = ds[i] :: ds.drop (i + 1) := List.drop_eq_getElem_cons hlt
    have he : ds = ds.take i ++ ds[i] :: ds.drop (i + 1) := by rw [← hd, List.take_append_drop]
    rw [hd] at iv
    obtain ⟨kp2, hp2, hz, q2⟩ := turn _ _ _ acc m2 he iv
    obtain ⟨hy, _⟩ := y F2 m2 H2 i s2 r2 kp2
    obtain ⟨go, yl⟩ := hy hlt
    have et : ds.take i ++ [ds[i]] = ds.take (i + 1) := by rw [List.take_succ_eq_append_getElem hlt]
    rw [et] at q2
    refine .inr ⟨go, fun H' => ∃ m', m' < ds.length - i ∧ W (i + 1) m' H', fun H' z => z, fun x H3 hx => ?_⟩
    obtain ⟨F3, d, s3, r3, e3, dn3⟩ := yl x H3 hx
    have ed : d = ds[i] := by rw [List.getElem?_eq_getElem hlt] at e3; exact (Option.some.inj e3).symm
    subst ed
    have enw := ((en.mono s1).mono s2).mono s3
    refine ct F3 m2 x _ H3 _ _ _ _ r3 (enw.wipe vs) dn3 q2 fun σ' env' e' ew q4 => ?_
    have idem : ∀ us : List Nat, (∀ u ∈ us, u ∈ vs) → wipe (wipe σ us) vs = wipe σ vs := by
      intro us
      induction us with
      | nil => intro _; rfl
      | cons u us ih =>
        intro hu
        show wipe ((wipe σ us).set u none) vs = _
        rw [wipe_set (hu u List.mem_cons_self)]
        exact ih fun x hx => hu x (List.mem_cons_of_mem _ hx)
    refine ⟨ew.trans (idem vs fun _ h => h), htt ⟨F3, m2, env', _, r3, e', q4, fun b H4 F4 m4 s4 r4 q5 => ?_⟩⟩
    cases b with
    | false => exact ⟨ds.length - (i + 1), by omega, rfl, hlt, F4, m4, acc, (s2.trans s3).trans s4, r4, q5⟩
    | true =>
      refine hte ⟨F4, m4, env', _, r4, e'.mono s4, q5, fun v H5 F5 m5 d5 s5 r5 dn5 q6 => ?_⟩
      obtain ⟨e6, q6⟩ := q6
      obtain ⟨_, cq⟩ := r5.me p _ e6
      simp only [CellOk] at cq
      obtain ⟨us, hu, du⟩ := cq
      refine ⟨us, hu, by rw [← du.length]; exact hz, ds.length - (i + 1), by omega, rfl, hlt, F5, _, acc ++ [d5], ((s2.trans s3).trans s4).trans s5, r5.store e6 ?_, q6⟩
      simp only [CellOk]
      exact ⟨_, upd_same, du.append (Dens.one dn5)⟩
  · have e : i = ds.length := by omega
    subst e
    rw [List.take_length, List.drop_length] at iv
    obtain ⟨kp2, hp2, q2⟩ := fin acc m2 iv
    obtain ⟨_, st⟩ := y F2 m2 H2 ds.length s2 r2 kp2
    exact .inl ⟨st (Nat.le_refl _), k _ H2 F2 m2 _ (s1.trans s2) r2 (by simp only [Den]) q2⟩
theorem dlc {elt tg iter : Expr} {ifs : List Expr} {scope : Scope} {own : List (Str × Nat)} {pos : Pos} {wi : WI} {g : TG} {g' : WG} {wt : WT} {we : WE} (hc : X.calm = true) (hN : X.N.Nodup) (hi : DI X tg iter wi) (ok : BlkOk X.N X.env.scope scope own)
    (hg : ∀ (s : Shared) (H : Hp) (C : Addr) (cl : List (Str × Addr)) (fp : List Addr), PG (X.blk s H scope (compEnvC scope cl C X.env) fp) tg g) (ct : CTg X.K (own.map (·.2)) g g')
    (ht : ∀ (s : Shared) (H : Hp) (C : Addr) (cl : List (Str × Addr)) (fp : List Addr), DTs (X.blk s H scope (compEnvC scope cl C X.env) fp) ifs wt)
    (he : ∀ (s : Shared) (H : Hp) (C : Addr) (cl : List (Str × Addr)) (fp : List Addr), DE (X.blk s H scope (compEnvC scope cl C X.env) fp) elt we) (hs : ∀ x, foldedSetIterable iter X.env x = pure x := by intro _; rfl) :
    DE X (.ListComp elt [⟨tg, iter, ifs, 0⟩] scope pos) (wLc wi g' wt we (own.map (·.2))) := by
  let tt : TT := fun σ H Q => ∃ F m env Qd, Rel X.K F m H ∧ EnvDen X.K F σ env ∧ wt env m Qd noX ∧ ∀ b H' F' m', Sub F F' → Rel X.K F' m' H' → Qd b m' → Q b H'
  let te : TE := fun σ H Q => ∃ F m env Qd, Rel X.K F m H ∧ EnvDen X.K F σ env ∧ we env m Qd noX ∧ ∀ v H' F' m' d, Sub F F' → Rel X.K F' m' H' → Den X.K F' d v → Qd d m' → Q v H'
  refine wkE (pe_lc (tt := tt) (te := te) hc hN hi ok hg (fun s H C cl fp => ⟨fun p s' σ H' Q I ⟨F, m, env, Qd, r, en, q, k⟩ => (ht s H C cl fp).run p s' σ H' Q I ⟨F, m, env, Qd, fun _ _ _ => False, r, en, Acc.no, q, k⟩⟩)
    (fun s H C cl fp => ⟨fun p s' σ H' Q I ⟨F, m, env, Qd, r, en, q, k⟩ => (he s H C cl fp).run p s' σ H' Q I ⟨F, m, env, Qd, fun _ _ _ => False, r, en, Acc.no, q, k⟩⟩) hs) fun σ H Q h => lc_step ct (fun z => z) (fun z => z) h
theorem frz_of {w : WE} {σ : St} {H : Hp} {Q : VK} (h : tW X (wFrz w) σ H Q) : tW X w σ H Q := by
  obtain ⟨F, m, env, Qd, xc, r, en, a, q, k⟩ := h
  exact tW.sub r en a q fun v1 H1 F1 m1 d1 s1 r1 en1 dn1 q1 => by
    cases d1 with
    | ref p =>
      simp only at q1
      split at q1
      · rename_i xs e
        obtain ⟨F', s', r', dn'⟩ := r1.freeze e
        simp only [Den] at dn1
        subst dn1
        exact k _ H1 F' _ _ (s1.trans s') r' dn' q1
      · exact k _ H1 F1 m1 _ s1 r1 dn1 q1
    | _ => exact k _ H1 F1 m1 _ s1 r1 dn1 q1
/-- name = [..] on one line -/
theorem dsetlc {i : Nat} {y : Str} {py : Pos} {elt tg iter : Expr} {ifs : List Expr} {scope : Scope} {own : List (Str × Nat)} {pos spos : Pos} {wi : WI} {g : TG} {g' : WG} {wt : WT} {we : WE} (hc : X.calm = true) (hN : X.N.Nodup) (hy : X.N[i]? = some y) (hyl : X.env.scope.names.lookup y = some .local)
    (hsw : swapsWith (.ListComp elt [⟨tg, iter, ifs, 0⟩] scope pos) (some (.Name y py)) spos.line X.env = pure true) (hi : DI X tg iter wi) (ok : BlkOk X.N X.env.scope scope own)
    (hg : ∀ (s : Shared) (H : Hp) (C : Addr) (cl : List (Str × Addr)) (fp : List Addr), PG (X.blk s H scope (compEnvC scope cl C X.env) fp) tg g) (ct : CTg X.K (own.map (·.2)) g g')
    (ht : ∀ (s : Shared) (H : Hp) (C : Addr) (cl : List (Str × Addr)) (fp : List Addr), DTs (X.blk s H scope (compEnvC scope cl C X.env) fp) ifs wt)
    (he : ∀ (s : Shared) (H : Hp) (C : Addr) (cl : List (Str × Addr)) (fp : List Addr), DE (X.blk s H scope (compEnvC scope cl C X.env) fp) elt we) (hs : ∀ x, foldedSetIterable iter X.env x = pure x := by intro _; rfl) :
    DS X (.Assign [.Name y py] (.ListComp elt [⟨tg, iter, ifs, 0⟩] scope pos) spos) (sAsg (wLc wi g' wt we (own.map (·.2))) (gN i)) := by
  let tt : TT := fun σ H Q => ∃ F m env Qd, Rel X.K F m H ∧ EnvDen X.K F σ env ∧ wt env m Qd noX ∧ ∀ b H' F' m', Sub F F' → Rel X.K F' m' H' → Qd b m' → Q b H'
  let te : TE := fun σ H Q => ∃ F m env Qd, Rel X.K F m H ∧ EnvDen X.K F σ env ∧ we env m Qd noX ∧ ∀ v H' F' m' d, Sub F F' → Rel X.K F' m' H' → Den X.K F' d v → Qd d m' → Q v H'
  refine wkS (ps_setLc (tt := tt) (te := te) hc hN hy hyl hsw hi ok hg (fun s H C cl fp => ⟨fun p s' σ H' Q I ⟨F, m, env, Qd, r, en, q, k⟩ => (ht s H C cl fp).run p s' σ H' Q I ⟨F, m, env, Qd, fun _ _ _ => False, r, en, Acc.no, q, k⟩⟩)
    (fun s H C cl fp => ⟨fun p s' σ H' Q I ⟨F, m, env, Qd, r, en, q, k⟩ => (he s H C cl fp).run p s' σ H' Q I ⟨F, m, env, Qd, fun _ _ _ => False, r, en, Acc.no, q, k⟩⟩) hs) fun D σ H ⟨F, m, env, E, r, en, a, q, n, b, c, t⟩ => ?_
  exact lc_step ct (fun z => z) (fun z => z) (tW.sub (xc := E.xc) r en a q fun v1 H1 F1 m1 d1 s1 r1 en1 dn1 q1 => n _ H1 F1 m1 _ s1 r1 (en1.set dn1 i) q1)
/-- .. from then on a value -/
theorem dsetlcF {i : Nat} {y : Str} {py : Pos} {elt tg iter : Expr} {ifs : List Expr} {scope : Scope} {own : List (Str × Nat)} {pos spos : Pos} {wi : WI} {g : TG} {g' : WG} {wt : WT} {we : WE} (hc : X.calm = true) (hN : X.N.Nodup) (hy : X.N[i]? = some y) (hyl : X.env.scope.names.lookup y = some .local)
    (hsw : swapsWith (.ListComp elt [⟨tg, iter, ifs, 0⟩] scope pos) (some (.Name y py)) spos.line X.env = pure true) (hi : DI X tg iter wi) (ok : BlkOk X.N X.env.scope scope own)
    (hg : ∀ (s : Shared) (H : Hp) (C : Addr) (cl : List (Str × Addr)) (fp : List Addr), PG (X.blk s H scope (compEnvC scope cl C X.env) fp) tg g) (ct : CTg X.K (own.map (·.2)) g g')
    (ht : ∀ (s : Shared) (H : Hp) (C : Addr) (cl : List (Str × Addr)) (fp : List Addr), DTs (X.blk s H scope (compEnvC scope cl C X.env) fp) ifs wt)
    (he : ∀ (s : Shared) (H : Hp) (C : Addr) (cl : List (Str × Addr)) (fp : List Addr), DE (X.blk s H scope (compEnvC scope cl C X.env) fp) elt we) (hs : ∀ x, foldedSetIterable iter X.env x = pure x := by intro _; rfl) :
    DS X (.Assign [.Name y py] (.ListComp elt [⟨tg, iter, ifs, 0⟩] scope pos) spos) (sAsg (wFrz (wLc wi g' wt we (own.map (·.2)))) (gN i)) := by
  let tt : TT := fun σ H Q => ∃ F m env Qd, Rel X.K F m H ∧ EnvDen X.K F σ env ∧ wt env m Qd noX ∧ ∀ b H' F' m', Sub F F' → Rel X.K F' m' H' → Qd b m' → Q b H'
  let te : TE := fun σ H Q => ∃ F m env Qd, Rel X.K F m H ∧ EnvDen X.K F σ env ∧ we env m Qd noX ∧ ∀ v H' F' m' d, Sub F F' → Rel X.K F' m' H' → Den X.K F' d v → Qd d m' → Q v H'
  refine wkS (ps_setLc (tt := tt) (te := te) hc hN hy hyl hsw hi ok hg (fun s H C cl fp => ⟨fun p s' σ H' Q I ⟨F, m, env, Qd, r, en, q, k⟩ => (ht s H C cl fp).run p s' σ H' Q I ⟨F, m, env, Qd, fun _ _ _ => False, r, en, Acc.no, q, k⟩⟩)
    (fun s H C cl fp => ⟨fun p s' σ H' Q I ⟨F, m, env, Qd, r, en, q, k⟩ => (he s H C cl fp).run p s' σ H' Q I ⟨F, m, env, Qd, fun _ _ _ => False, r, en, Acc.no, q, k⟩⟩) hs) fun D σ H ⟨F, m, env, E, r, en, a, q, n, b, c, t⟩ => ?_
  exact lc_step ct (fun z => z) (fun z => z) (frz_of (tW.sub (xc := E.xc) r en a q fun v1 H1 F1 m1 d1 s1 r1 en1 dn1 q1 => n _ H1 F1 m1 _ s1 r1 (en1.set dn1 i) q1))
end
/-! ### comprehensions whose turns change nothing: f tells each item's element, or that it is left out -/
section
variable {X : Cx}
def wLcP (wi : WI) (g : WG) (wt : WT) (we : WE) (vs : List Nat) : WE := fun env m Q E => wi env m (fun ds keep m1 => ∃ f : D → Option D, ds.length ≤ sizeLine ∧ (∀ m', m1.le m' → keep m') ∧
  (∀ d, d ∈ ds → ∀ m', m1.le m' → g d (wipeD env vs) m' (fun e2 m2 => wt e2 m2 (fun b m3 => if b = true then we e2 m3 (fun y m4 => m4 = m' ∧ f d = some y) noX else m3 = m' ∧ f d = none) noX)) ∧ Q (.lst (ds.filterMap f)) m1) E
theorem lcp_step {wi : WI} {g : TG} {g' : WG} {wt : WT} {we : WE} {vs : List Nat} {tt : TT} {te : TE} {σ : St} {H : Hp} {Q : VK} (ct : CTg X.K vs g g')
    (htt : ∀ {σ H Q}, (∃ F m env Qd, Rel X.K F m H ∧ EnvDen X.K F σ env ∧ wt env m Qd noX ∧ ∀ b H' F' m', Sub F F' → Rel X.K F' m' H' → Qd b m' → Q b H') → tt σ H Q)
    (hte : ∀ {σ H Q}, (∃ F m env Qd, Rel X.K F m H ∧ EnvDen X.K F σ env ∧ we env m Qd noX ∧ ∀ v H' F' m' d, Sub F F' → Rel X.K F' m' H' → Den X.K F' d v → Qd d m' → Q v H') → te σ H Q)
    (h : tW X (wLcP wi g' wt we vs) σ H Q) : tLc (tWI X wi) g tt te vs σ H Q := by
  obtain ⟨F, m, env, Qd, xc, r, en, a, q, k⟩ := h
  refine ⟨F, m, env, _, xc, r, en, a, q, fun J H1 F1 m1 ds keep s1 r1 y kp q1 => fun p hp => ?_⟩
  obtain ⟨f1, n1⟩ := r1.free hp
  obtain ⟨f, hz, hk, hd, q1⟩ := q1
  let M : List D → Mem := fun xs => m1.put p (.lst xs)
  have leM : ∀ xs, m1.le (M xs) := fun xs => Mem.le_put n1
  let W : Nat → Nat → Hp → Prop := fun i k H => k = ds.length - i ∧ i ≤ ds.length ∧ ∃ F', Sub F1 F' ∧ Rel X.K F' (M ((ds.take i).filterMap f)) H
  have r1' : Rel X.K F1 (m1.put p (.lst [])) (upd H1 p (.lst [])) := r1.fresh hp (by simp only [CellOk]; exact ⟨[], upd_same, Dens.nil⟩)
  refine ⟨W, ⟨ds.length, by simp, Nat.zero_le _, F1, Sub.refl F1, r1'⟩, ?_⟩
  rintro i k2 H2 ⟨rfl, hi2, F2, s2, r2⟩
  by_cases hlt : i < ds.length
  · obtain ⟨hy, _⟩ := y F2 _ H2 i s2 r2 (hk _ (leM _))
    obtain ⟨go, yl⟩ := hy hlt
    have et : (ds.take (i + 1)).filterMap f = (ds.take i).filterMap f ++ (f ds[i]).toList := by
      rw [List.take_succ_eq_append_getElem hlt, List.filterMap_append]
      cases e : f ds[i] <;> simp [e]
    have lt : ((ds.take i).filterMap f).length < sizeLine := by
      have h1 := List.length_filterMap_le f (ds.take i)
      rw [List.length_take] at h1
      omega
    refine .inr ⟨go, fun H' => ∃ m', m' < ds.length - i ∧ W (i + 1) m' H', fun H' z => z, fun x H3 hx => ?_⟩
    obtain ⟨F3, d, s3, r3, e3, dn3⟩ := yl x H3 hx
    have ed : d = ds[i] := by rw [List.getElem?_eq_getElem hlt] at e3; exact (Option.some.inj e3).symm
    subst ed
    have enw := ((en.mono s1).mono s2).mono s3
    refine ct F3 _ x _ H3 _ _ _ _ r3 (enw.wipe vs) dn3 (hd _ (List.getElem_mem hlt) _ (leM _)) fun σ' env' e' ew q4 => ?_
    have idem : ∀ us : List Nat, (∀ u ∈ us, u ∈ vs) → wipe (wipe σ us) vs = wipe σ vs := by
      intro us
      induction us with
      | nil => intro _; rfl
      | cons u us ih =>
        intro hu
        show wipe ((wipe σ us).set u none) vs = _
        rw [wipe_set (hu u List.mem_cons_self)]
        exact ih fun x hx => hu x (List.mem_cons_of_mem _ hx)
    refine ⟨ew.trans (idem vs fun _ h => h), htt ⟨F3, _, env', _, r3, e', q4, fun b H4 F4 m4 s4 r4 q5 => ?_⟩⟩
    cases b with
    | false =>
      rw [if_neg Bool.false_ne_true] at q5
      obtain ⟨rfl, q5⟩ := q5
      exact ⟨ds.length - (i + 1), by omega, rfl, hlt, F4, (s2.trans s3).trans s4, by rw [et, q5]; simpa using r4⟩
    | true =>
      rw [if_pos rfl] at q5
      refine hte ⟨F4, m4, env', _, r4, e'.mono s4, q5, fun v H5 F5 m5 d5 s5 r5 dn5 q6 => ?_⟩
      obtain ⟨rfl, q6⟩ := q6
      have e6 : M ((ds.take i).filterMap f) p = some (.lst ((ds.take i).filterMap f)) := Mem.put_same
      obtain ⟨_, cq⟩ := r5.me p _ e6
      simp only [CellOk] at cq
      obtain ⟨us, hu, du⟩ := cq
      refine ⟨us, hu, by rw [← du.length]; exact lt, ds.length - (i + 1), by omega, rfl, hlt, F5, ((s2.trans s3).trans s4).trans s5, ?_⟩
      rw [et, q6]
      have r6 := r5.store (o := .lst (us ++ [v])) (c := .lst ((ds.take i).filterMap f ++ [d5])) e6 (by
        simp only [CellOk]
        exact ⟨_, upd_same, du.append (Dens.one dn5)⟩)
      rw [show (M ((ds.take i).filterMap f)).put p (.lst ((ds.take i).filterMap f ++ [d5])) = M ((ds.take i).filterMap f ++ [d5]) from Mem.put_put] at r6
      simpa using r6
  · have e : i = ds.length := by omega
    subst e
    rw [List.take_length] at r2
    obtain ⟨_, st⟩ := y F2 _ H2 ds.length s2 r2 (hk _ (leM _))
    obtain ⟨F3, s3, r3, dn3⟩ := r2.freeze (a := p) (ds := ds.filterMap f) Mem.put_same
    rw [show (M (ds.filterMap f)).del p = m1 by show (m1.put p _).del p = m1; rw [Mem.put_del, Mem.del_none n1]] at r3
    exact .inl ⟨st (Nat.le_refl _), k _ H2 F3 m1 _ ((s1.trans s2).trans s3) r3 dn3 q1⟩
theorem dlcP {elt tg iter : Expr} {ifs : List Expr} {scope : Scope} {own : List (Str × Nat)} {pos : Pos} {wi : WI} {g : TG} {g' : WG} {wt : WT} {we : WE} (hc : X.calm = true) (hN : X.N.Nodup) (hi : DI X tg iter wi) (ok : BlkOk X.N X.env.scope scope own)
    (hg : ∀ (s : Shared) (H : Hp) (C : Addr) (cl : List (Str × Addr)) (fp : List Addr), PG (X.blk s H scope (compEnvC scope cl C X.env) fp) tg g) (ct : CTg X.K (own.map (·.2)) g g')
    (ht : ∀ (s : Shared) (H : Hp) (C : Addr) (cl : List (Str × Addr)) (fp : List Addr), DTs (X.blk s H scope (compEnvC scope cl C X.env) fp) ifs wt)
    (he : ∀ (s : Shared) (H : Hp) (C : Addr) (cl : List (Str × Addr)) (fp : List Addr), DE (X.blk s H scope (compEnvC scope cl C X.env) fp) elt we) (hs : ∀ x, foldedSetIterable iter X.env x = pure x := by intro _; rfl) :
    DE X (.ListComp elt [⟨tg, iter, ifs, 0⟩] scope pos) (wLcP wi g' wt we (own.map (·.2))) := by
  let tt : TT := fun σ H Q => ∃ F m env Qd, Rel X.K F m H ∧ EnvDen X.K F σ env ∧ wt env m Qd noX ∧ ∀ b H' F' m', Sub F F' → Rel X.K F' m' H' → Qd b m' → Q b H'
  let te : TE := fun σ H Q => ∃ F m env Qd, Rel X.K F m H ∧ EnvDen X.K F σ env ∧ we env m Qd noX ∧ ∀ v H' F' m' d, Sub F F' → Rel X.K F' m' H' → Den X.K F' d v → Qd d m' → Q v H'
  refine wkE (pe_lc (tt := tt) (te := te) hc hN hi ok hg (fun s H C cl fp => ⟨fun p s' σ H' Q I ⟨F, m, env, Qd, r, en, q, k⟩ => (ht s H C cl fp).run p s' σ H' Q I ⟨F, m, env, Qd, fun _ _ _ => False, r, en, Acc.no, q, k⟩⟩)
    (fun s H C cl fp => ⟨fun p s' σ H' Q I ⟨F, m, env, Qd, r, en, q, k⟩ => (he s H C cl fp).run p s' σ H' Q I ⟨F, m, env, Qd, fun _ _ _ => False, r, en, Acc.no, q, k⟩⟩) hs) fun σ H Q h => lcp_step ct (fun z => z) (fun z => z) h
theorem dsetlcP {i : Nat} {y : Str} {py : Pos} {elt tg iter : Expr} {ifs : List Expr} {scope : Scope} {own : List (Str × Nat)} {pos spos : Pos} {wi : WI} {g : TG} {g' : WG} {wt : WT} {we : WE} (hc : X.calm = true) (hN : X.N.Nodup) (hy : X.N[i]? = some y) (hyl : X.env.scope.names.lookup y = some .local)
    (hsw : swapsWith (.ListComp elt [⟨tg, iter, ifs, 0⟩] scope pos) (some (.Name y py)) spos.line X.env = pure true) (hi : DI X tg iter wi) (ok : BlkOk X.N X.env.scope scope own)
    (hg : ∀ (s : Shared) (H : Hp) (C : Addr) (cl : List (Str × Addr)) (fp : List Addr), PG (X.blk s H scope (compEnvC scope cl C X.env) fp) tg g) (ct : CTg X.K (own.map (·.2)) g g')
    (ht : ∀ (s : Shared) (H : Hp) (C : Addr) (cl : List (Str × Addr)) (fp : List Addr), DTs (X.blk s H scope (compEnvC scope cl C X.env) fp) ifs wt)
    (he : ∀ (s : Shared) (H : Hp) (C : Addr) (cl : List (Str × Addr)) (fp : List Addr), DE (X.blk s H scope (compEnvC scope cl C X.env) fp) elt we) (hs : ∀ x, foldedSetIterable iter X.env x = pure x := by intro _; rfl) :
    DS X (.Assign [.Name y py] (.ListComp elt [⟨tg, iter, ifs, 0⟩] scope pos) spos) (sAsg (wLcP wi g' wt we (own.map (·.2))) (gN i)) := by
  let tt : TT := fun σ H Q => ∃ F m env Qd, Rel X.K F m H ∧ EnvDen X.K F σ env ∧ wt env m Qd noX ∧ ∀ b H' F' m', Sub F F' → Rel X.K F' m' H' → Qd b m' → Q b H'
  let te : TE := fun σ H Q => ∃ F m env Qd, Rel X.K F m H ∧ EnvDen X.K F σ env ∧ we env m Qd noX ∧ ∀ v H' F' m' d, Sub F F' → Rel X.K F' m' H' → Den X.K F' d v → Qd d m' → Q v H'
  refine wkS (ps_setLc (tt := tt) (te := te) hc hN hy hyl hsw hi ok hg (fun s H C cl fp => ⟨fun p s' σ H' Q I ⟨F, m, env, Qd, r, en, q, k⟩ => (ht s H C cl fp).run p s' σ H' Q I ⟨F, m, env, Qd, fun _ _ _ => False, r, en, Acc.no, q, k⟩⟩)
    (fun s H C cl fp => ⟨fun p s' σ H' Q I ⟨F, m, env, Qd, r, en, q, k⟩ => (he s H C cl fp).run p s' σ H' Q I ⟨F, m, env, Qd, fun _ _ _ => False, r, en, Acc.no, q, k⟩⟩) hs) fun D σ H ⟨F, m, env, E, r, en, a, q, n, b, c, t⟩ => ?_
  exact lcp_step ct (fun z => z) (fun z => z) (tW.sub (xc := E.xc) r en a q fun v1 H1 F1 m1 d1 s1 r1 en1 dn1 q1 => n _ H1 F1 m1 _ s1 r1 (en1.set dn1 i) q1)
/-! ### the same, the list itself a cell -/
def wLcQ (wi : WI) (g : WG) (wt : WT) (we : WE) (vs : List Nat) : WE := fun env m Q E => wi env m (fun ds keep m1 => ∃ f : D → Option D, ds.length ≤ sizeLine ∧ (∀ m', m1.le m' → keep m') ∧
  (∀ d, d ∈ ds → ∀ m', m1.le m' → g d (wipeD env vs) m' (fun e2 m2 => wt e2 m2 (fun b m3 => if b = true then we e2 m3 (fun y m4 => m4 = m' ∧ f d = some y) noX else m3 = m' ∧ f d = none) noX)) ∧ ∀ p, m1 p = none → Q (.ref p) (m1.put p (.lst (ds.filterMap f)))) E
theorem lcq_step {wi : WI} {g : TG} {g' : WG} {wt : WT} {we : WE} {vs : List Nat} {tt : TT} {te : TE} {σ : St} {H : Hp} {Q : VK} (ct : CTg X.K vs g g')
    (htt : ∀ {σ H Q}, (∃ F m env Qd, Rel X.K F m H ∧ EnvDen X.K F σ env ∧ wt env m Qd noX ∧ ∀ b H' F' m', Sub F F' → Rel X.K F' m' H' → Qd b m' → Q b H') → tt σ H Q)
    (hte : ∀ {σ H Q}, (∃ F m env Qd, Rel X.K F m H ∧ EnvDen X.K F σ env ∧ we env m Qd noX ∧ ∀ v H' F' m' d, Sub F F' → Rel X.K F' m' H' → Den X.K F' d v → Qd d m' → Q v H') → te σ H Q)
    (h : tW X (wLcQ wi g' wt we vs) σ H Q) : tLc (tWI X wi) g tt te vs σ H Q := by
  obtain ⟨F, m, env, Qd, xc, r, en, a, q, k⟩ := h
  refine ⟨F, m, env, _, xc, r, en, a, q, fun J H1 F1 m1 ds keep s1 r1 y kp q1 => fun p hp => ?_⟩
  obtain ⟨f1, n1⟩ := r1.free hp
  obtain ⟨f, hz, hk, hd, q1⟩ := q1
  let M : List D → Mem := fun xs => m1.put p (.lst xs)
  have leM : ∀ xs, m1.le (M xs) := fun xs => Mem.le_put n1
  let W : Nat → Nat → Hp → Prop := fun i k H => k = ds.length - i ∧ i ≤ ds.length ∧ ∃ F', Sub F1 F' ∧ Rel X.K F' (M ((ds.take i).filterMap f)) H
  have r1' : Rel X.K F1 (m1.put p (.lst [])) (upd H1 p (.lst [])) := r1.fresh hp (by simp only [CellOk]; exact ⟨[], upd_same, Dens.nil⟩)
  refine ⟨W, ⟨ds.length, by simp, Nat.zero_le _, F1, Sub.refl F1, r1'⟩, ?_⟩
  rintro i k2 H2 ⟨rfl, hi2, F2, s2, r2⟩
  by_cases hlt : i < ds.length
  · obtain ⟨hy, _⟩ := y F2 _ H2 i s2 r2 (hk _ (leM _))
    obtain ⟨go, yl⟩ := hy hlt
    have et : (ds.take (i + 1)).filterMap f = (ds.take i).filterMap f ++ (f ds[i]).toList := by
      rw [List.take_succ_eq_append_getElem hlt, List.filterMap_append]
      cases e : f ds[i] <;> simp [e]
    have lt : ((ds.take i).filterMap f).length < sizeLine := by
      have h1 := List.length_filterMap_le f (ds.take i)
      rw [List.length_take] at h1
      omega
    refine .inr ⟨go, fun H' => ∃ m', m' < ds.length - i ∧ W (i + 1) m' H', fun H' z => z, fun x H3 hx => ?_⟩
    obtain ⟨F3, d, s3, r3, e3, dn3⟩ := yl x H3 hx
    have ed : d = ds[i] := by rw [List.getElem?_eq_getElem hlt] at e3; exact (Option.some.inj e3).symm
    subst ed
    have enw := ((en.mono s1).mono s2).mono s3
    refine ct F3 _ x _ H3 _ _ _ _ r3 (enw.wipe vs) dn3 (hd _ (List.getElem_mem hlt) _ (leM _)) fun σ' env' e' ew q4 => ?_
    have idem : ∀ us : List Nat, (∀ u ∈ us, u ∈ vs) → wipe (wipe σ us) vs = wipe σ vs := by
      intro us
      induction us with
      | nil => intro _; rfl
      | cons u us ih =>
        intro hu
        show wipe ((wipe σ us).set u none) vs = _
        rw [wipe_set (hu u List.mem_cons_self)]
        exact ih fun x hx => hu x (List.mem_cons_of_mem _ hx)
    refine ⟨ew.trans (idem vs fun _ h => h), htt ⟨F3, _, env', _, r3, e', q4, fun b H4 F4 m4 s4 r4 q5 => ?_⟩⟩
    cases b with
    | false =>
      rw [if_neg Bool.false_ne_true] at q5
      obtain ⟨rfl, q5⟩ := q5
      exact ⟨ds.length - (i + 1), by omega, rfl, hlt, F4, (s2.trans s3).trans s4, by rw [et, q5]; simpa using r4⟩
    | true =>
      rw [if_pos rfl] at q5
      refine hte ⟨F4, m4, env', _, r4, e'.mono s4, q5, fun v H5 F5 m5 d5 s5 r5 dn5 q6 => ?_⟩
      obtain ⟨rfl, q6⟩ := q6
      have e6 : M ((ds.take i).filterMap f) p = some (.lst ((ds.take i).filterMap f)) := Mem.put_same
      obtain ⟨_, cq⟩ := r5.me p _ e6
      simp only [CellOk] at cq
      obtain ⟨us, hu, du⟩ := cq
      refine ⟨us, hu, by rw [← du.length]; exact lt, ds.length - (i + 1), by omega, rfl, hlt, F5, ((s2.trans s3).trans s4).trans s5, ?_⟩
      rw [et, q6]
      have r6 := r5.store (o := .lst (us ++ [v])) (c := .lst ((ds.take i).filterMap f ++ [d5])) e6 (by
        simp only [CellOk]
        exact ⟨_, upd_same, du.append (Dens.one dn5)⟩)
      rw [show (M ((ds.take i).filterMap f)).put p (.lst ((ds.take i).filterMap f ++ [d5])) = M ((ds.take i).filterMap f ++ [d5]) from Mem.put_put] at r6
      simpa using r6
  · have e : i = ds.length := by omega
    subst e
    rw [List.take_length] at r2
    obtain ⟨_, st⟩ := y F2 _ H2 ds.length s2 r2 (hk _ (leM _))
    exact .inl ⟨st (Nat.le_refl _), k _ H2 F2 _ (.ref p) (s1.trans s2) r2 (by simp only [Den]) (q1 p n1)⟩
theorem dlcQ {elt tg iter : Expr} {ifs : List Expr} {scope : Scope} {own : List (Str × Nat)} {pos : Pos} {wi : WI} {g : TG} {g' : WG} {wt : WT} {we : WE} (hc : X.calm = true) (hN : X.N.Nodup) (hi : DI X tg iter wi) (ok : BlkOk X.N X.env.scope scope own)
    (hg : ∀ (s : Shared) (H : Hp) (C : Addr) (cl : List (Str × Addr)) (fp : List Addr), PG (X.blk s H scope (compEnvC scope cl C X.env) fp) tg g) (ct : CTg X.K (own.map (·.2)) g g')
    (ht : ∀ (s : Shared) (H : Hp) (C : Addr) (cl : List (Str × Addr)) (fp : List Addr), DTs (X.blk s H scope (compEnvC scope cl C X.env) fp) ifs wt)
    (he : ∀ (s : Shared) (H : Hp) (C : Addr) (cl : List (Str × Addr)) (fp : List Addr), DE (X.blk s H scope (compEnvC scope cl C X.env) fp) elt we) (hs : ∀ x, foldedSetIterable iter X.env x = pure x := by intro _; rfl) :
    DE X (.ListComp elt [⟨tg, iter, ifs, 0⟩] scope pos) (wLcQ wi g' wt we (own.map (·.2))) := by
  let tt : TT := fun σ H Q => ∃ F m env Qd, Rel X.K F m H ∧ EnvDen X.K F σ env ∧ wt env m Qd noX ∧ ∀ b H' F' m', Sub F F' → Rel X.K F' m' H' → Qd b m' → Q b H'
  let te : TE := fun σ H Q => ∃ F m env Qd, Rel X.K F m H ∧ EnvDen X.K F σ env ∧ we env m Qd noX ∧ ∀ v H' F' m' d, Sub F F' → Rel X.K F' m' H' → Den X.K F' d v → Qd d m' → Q v H'
  refine wkE (pe_lc (tt := tt) (te := te) hc hN hi ok hg (fun s H C cl fp => ⟨fun p s' σ H' Q I ⟨F, m, env, Qd, r, en, q, k⟩ => (ht s H C cl fp).run p s' σ H' Q I ⟨F, m, env, Qd, fun _ _ _ => False, r, en, Acc.no, q, k⟩⟩)
    (fun s H C cl fp => ⟨fun p s' σ H' Q I ⟨F, m, env, Qd, r, en, q, k⟩ => (he s H C cl fp).run p s' σ H' Q I ⟨F, m, env, Qd, fun _ _ _ => False, r, en, Acc.no, q, k⟩⟩) hs) fun σ H Q h => lcq_step ct (fun z => z) (fun z => z) h
theorem dsetlcQ {i : Nat} {y : Str} {py : Pos} {elt tg iter : Expr} {ifs : List Expr} {scope : Scope} {own : List (Str × Nat)} {pos spos : Pos} {wi : WI} {g : TG} {g' : WG} {wt : WT} {we : WE} (hc : X.calm = true) (hN : X.N.Nodup) (hy : X.N[i]? = some y) (hyl : X.env.scope.names.lookup y = some .local)
    (hsw : swapsWith (.ListComp elt [⟨tg, iter, ifs, 0⟩] scope pos) (some (.Name y py)) spos.line X.env = pure true) (hi : DI X tg iter wi) (ok : BlkOk X.N X.env.scope scope own)
    (hg : ∀ (s : Shared) (H : Hp) (C : Addr) (cl : List (Str × Addr)) (fp : List Addr), PG (X.blk s H scope (compEnvC scope cl C X.env) fp) tg g) (ct : CTg X.K (own.map (·.2)) g g')
    (ht : ∀ (s : Shared) (H : Hp) (C : Addr) (cl : List (Str × Addr)) (fp : List Addr), DTs (X.blk s H scope (compEnvC scope cl C X.env) fp) ifs wt)
    (he : ∀ (s : Shared) (H : Hp) (C : Addr) (cl : List (Str × Addr)) (fp : List Addr), DE (X.blk s H scope (compEnvC scope cl C X.env) fp) elt we) (hs : ∀ x, foldedSetIterable iter X.env x = pure x := by intro _; rfl) :
    DS X (.Assign [.Name y py] (.ListComp elt [⟨tg, iter, ifs, 0⟩] scope pos) spos) (sAsg (wLcQ wi g' wt we (own.map (·.2))) (gN i)) := by
  let tt : TT := fun σ H Q => ∃ F m env Qd, Rel X.K F m H ∧ EnvDen X.K F σ env ∧ wt env m Qd noX ∧ ∀ b H' F' m', Sub F F' → Rel X.K F' m' H' → Qd b m' → Q b H'
  let te : TE := fun σ H Q => ∃ F m env Qd, Rel X.K F m H ∧ EnvDen X.K F σ env ∧ we env m Qd noX ∧ ∀ v H' F' m' d, Sub F F' → Rel X.K F' m' H' → Den X.K F' d v → Qd d m' → Q v H'
  refine wkS (ps_setLc (tt := tt) (te := te) hc hN hy hyl hsw hi ok hg (fun s H C cl fp => ⟨fun p s' σ H' Q I ⟨F, m, env, Qd, r, en, q, k⟩ => (ht s H C cl fp).run p s' σ H' Q I ⟨F, m, env, Qd, fun _ _ _ => False, r, en, Acc.no, q, k⟩⟩)
    (fun s H C cl fp => ⟨fun p s' σ H' Q I ⟨F, m, env, Qd, r, en, q, k⟩ => (he s H C cl fp).run p s' σ H' Q I ⟨F, m, env, Qd, fun _ _ _ => False, r, en, Acc.no, q, k⟩⟩) hs) fun D σ H ⟨F, m, env, E, r, en, a, q, n, b, c, t⟩ => ?_
  exact lcq_step ct (fun z => z) (fun z => z) (tW.sub (xc := E.xc) r en a q fun v1 H1 F1 m1 d1 s1 r1 en1 dn1 q1 => n _ H1 F1 m1 _ s1 r1 (en1.set dn1 i) q1)
end
end DL

/-! DSum: sum(lists, []). -/
namespace DL
open PySem PySem.Spec L2
theorem args_sum2 (a b : Value) : argsOk "sum" ⟨[a, b], []⟩ := by unfold argsOk; kernel_rfl
theorem sub_list_str : isSubtype (.type "list") (.type "str") = pure false := by rw [isSubtype_type]; kernel_rfl
theorem sub_list_bytes : isSubtype (.type "list") (.type "bytes") = pure false := by rw [isSubtype_type]; kernel_rfl
theorem sub_list_bytearray : isSubtype (.type "list") (.type "bytearray") = pure false := by rw [isSubtype_type]; kernel_rfl
abbrev Ls := List (Addr × List Value × Nat)
def LsAt (h : Heap) (L : Ls) : Prop := ∀ q ∈ L, IsL h q.1 q.2.1.toArray q.2.2
section
variable {prog : Program} {w : World} {A : Around} {R : Result → Shared → Prop}
theorem sum_loop (hh : A.in1.handled = none) {I ax S : Addr} (L : Ls) (hIx : ax ≠ I) (hSI : S ≠ I) (hSx : S ≠ ax) (hSL : ∀ q ∈ L, q.1 ≠ S) (hIL : ∀ q ∈ L, q.1 ≠ I) :
    ∀ (k i : Nat) (s : Shared) (T : Addr) (c nT : Nat) (tot : List Value), L.length - i = k → i ≤ L.length → s.heap.IsListIter I ax i → s.heap.IsList ax (L.map fun q => Value.ref q.1).toArray → LsAt s.heap L →
      s.heap.get? S = some { cls := .type "list", dict := none, data := .seq #[.ref T] c, slots := #[] } → IsL s.heap T tot.toArray nT → T ≠ S → T ≠ I → tot.length + (((L.drop i).map (·.2.1)).flatten).length ≤ sizeLine →
      (∀ h' tk T' nT', (∀ b o, b ≠ S → b ≠ I → s.heap.get? b = some o → h'.get? b = some o) → IsL h' T' (tot ++ ((L.drop i).map (·.2.1)).flatten).toArray nT' → ((i = L.length ∧ T' = T) ∨ (i ≠ L.length ∧ s.heap.objs.size ≤ T')) →
        R (.ok (.ret (.ref T'))) { s with heap := h', toks := tk }) →
      codeAny (model prog w) A (.builtin "sum.loop" ⟨[.ref I, .ref S, rawInt 2, rawInt 0], []⟩) R s := by
  have W := Walks.list (prog := prog) (w := w) hh I ax hIx (L.map fun q => Value.ref q.1).toArray
  have hsz : (L.map fun q => Value.ref q.1).toArray.size = L.length := by simp
  intro k
  induction k with
  | zero =>
    intro i s T c nT tot hk hi hst hax hL hS hT hTS hTI hz hR
    have hin : i = L.length := by omega
    subst hin
    refine codeAny_builtin F.entry_sum_loop ?_
    rw [Around.under_plainId F.plain_sum_loop _]
    show wpAny _ A.in1 (seqItems? (.ref S) >>= _) _ _ s
    refine wpAny_bind (wpAny_seqItems hS rfl ?_)
    show wpAny _ A.in1 (tryCatch (pyNext (.ref I)) _ >>= _) _ _ s
    refine wpAny_bind (wpAny_tryCatch (W.done s _ _ (by rw [hsz]; exact ⟨hst, hax⟩) fun h' tk hm => ?_))
    have hm' : ∀ b o, b ≠ S → b ≠ I → s.heap.get? b = some o → h'.get? b = some o := fun b o _ hb e => hm b o (by simpa using hb) e
    exact wpAny_pure (hR h' tk T nT hm' (by rw [List.drop_length, List.map_nil, List.flatten_nil, List.append_nil]; exact hm _ _ (by simpa using hTI) hT) (.inl ⟨rfl, rfl⟩))
  | succ k ih =>
    intro i s T c nT tot hk hi hst hax hL hS hT hTS hTI hz hR
    have hlt : i < L.length := by omega
    refine codeAny_builtin F.entry_sum_loop ?_
    rw [Around.under_plainId F.plain_sum_loop _]
    show wpAny _ A.in1 (seqItems? (.ref S) >>= _) _ _ s
    refine wpAny_bind (wpAny_seqItems hS rfl ?_)
    show wpAny _ A.in1 (tryCatch (pyNext (.ref I)) _ >>= _) _ _ s
    refine wpAny_bind (wpAny_tryCatch (wpAny_pyNext_list_item hst hax (x := .ref L[i].1) (by simp [hlt]) fun h1 hit1 hs1 => ?_))
    have hst' : h1.IsListIter I ax (i + 1) ∧ h1.IsList ax (L.map fun q => Value.ref q.1).toArray := ⟨hit1, hax.extBut hs1.extBut hIx⟩
    have hm : ∀ b o, b ∉ [I] → s.heap.get? b = some o → h1.get? b = some o := fun b o hb e => hs1.extBut b o (by simpa using hb) e
    have mem : L[i] ∈ L := List.getElem_mem hlt
    have k1 : ∀ b o, b ≠ I → s.heap.get? b = some o → h1.get? b = some o := fun b o hb e => hm b o (by simpa using hb) e
    have hd : L.drop i = L[i] :: L.drop (i + 1) := List.drop_eq_getElem_cons hlt
    have hT1 : IsL h1 T tot.toArray nT := k1 _ _ hTI hT
    have hI1 : IsL h1 L[i].1 L[i].2.1.toArray L[i].2.2 := k1 _ _ (hIL _ mem) (hL _ mem)
    have hS1 := k1 S _ hSI hS
    have hz2 : tot.length + (L[i].2.1.length + (((L.drop (i + 1)).map (·.2.1)).flatten).length) ≤ sizeLine := by
      rw [hd, List.map_cons, List.flatten_cons, List.length_append] at hz
      exact hz
    show wpAny _ A.in1 ((holding [Value.ref L[i].1] (binaryOp .Add (.ref T) (.ref L[i].1))).attempt >>= _) _ _ _
    refine wpAny_bind (wpAny_attempt (wpAny_holding (PySem.P.add_list hT1 hI1 ?_ (by rw [List.size_toArray, List.size_toArray]; omega))))
    have sz1 : s.heap.objs.size ≤ h1.objs.size := Nat.le_of_eq hs1.1.symm
    have k2 : ∀ b o, h1.get? b = some o → (h1.push { cls := .type "list", data := .seq (tot.toArray ++ L[i].2.1.toArray) }).get? b = some o := fun b o e => Heap.get?_push_of_some _ e
    have hS2 := k2 S _ hS1
    show wpAny _ A.in1 (updateSeq S (fun _ => #[.ref h1.objs.size]) >>= _) _ _ _
    refine wpAny_bind (wpAny_updateSeq hS2 rfl ?_)
    have hS3 := Heap.get?_update_self (Obj.mapSeq fun _ => #[Value.ref h1.objs.size]) hS2 rfl
    refine wpAny_bind (wpAny_letGo ?_)
    show wpAny _ A.in1 (updateSeq S (fun _ => #[.ref h1.objs.size]) >>= _) _ _ _
    refine wpAny_bind (wpAny_updateSeq hS3 rfl (wpAny_pure ⟨plainId_quiet F.plain_sum_loop _, ?_⟩))
    have hS4 := Heap.get?_update_self (Obj.mapSeq fun _ => #[Value.ref h1.objs.size]) hS3 rfl
    have k3 : ∀ b o, b ≠ S → b ≠ I → s.heap.get? b = some o → (((h1.push { cls := .type "list", data := .seq (tot.toArray ++ L[i].2.1.toArray) }).update S (Obj.mapSeq fun _ => #[Value.ref h1.objs.size])).update S (Obj.mapSeq fun _ => #[Value.ref h1.objs.size])).get? b = some o := fun b o hb hb2 e =>
      (Heap.get?_update_other _ _ (Ne.symm hb)).trans ((Heap.get?_update_other _ _ (Ne.symm hb)).trans (k2 b o (k1 b o hb2 e)))
    have k4 : ∀ b o, b ≠ S → h1.get? b = some o → (((h1.push { cls := .type "list", data := .seq (tot.toArray ++ L[i].2.1.toArray) }).update S (Obj.mapSeq fun _ => #[Value.ref h1.objs.size])).update S (Obj.mapSeq fun _ => #[Value.ref h1.objs.size])).get? b = some o := fun b o hb e =>
      (Heap.get?_update_other _ _ (Ne.symm hb)).trans ((Heap.get?_update_other _ _ (Ne.symm hb)).trans (k2 b o e))
    have hne : h1.objs.size ≠ S := fun z => by
      have := Heap.lt_size hS1
      rw [← z] at this
      exact Nat.lt_irrefl _ this
    have hIn : h1.objs.size ≠ I := fun z => by
      obtain ⟨o, e, _⟩ := id hst'.1
      have := Heap.lt_size e
      rw [← z] at this
      exact Nat.lt_irrefl _ this
    refine ih (i + 1) _ h1.objs.size _ 0 (tot ++ L[i].2.1) (by omega) hlt ?_ ?_ (fun q hq => k3 _ _ (hSL q hq) (hIL q hq) (hL q hq)) hS4 ?_ hne hIn ?_ fun h' tk' T' nT' kk hT' hor => ?_
    · exact hst'.1.at fun o e => k4 _ _ (Ne.symm hSI) e
    · exact hst'.2.at fun o e => k4 _ _ (Ne.symm hSx) e
    · show (((h1.push _).update S _).update S _).get? h1.objs.size = some _
      rw [Heap.get?_update_other _ _ (Ne.symm hne), Heap.get?_update_other _ _ (Ne.symm hne), Heap.get?_push_size _ rfl]
      simp
    · rw [List.length_append]; omega
    · refine hR h' tk' T' nT' (fun b o hb hb2 e => kk b o hb hb2 (k3 b o hb hb2 e)) ?_ (.inr ?_)
      · rw [hd, List.map_cons, List.flatten_cons, ← List.append_assoc]; exact hT'
      · refine ⟨by omega, ?_⟩
        rcases hor with ⟨_, rfl⟩ | ⟨_, hor⟩
        · exact sz1
        · refine Nat.le_trans sz1 (Nat.le_trans ?_ hor)
          show h1.objs.size ≤ (((h1.push _).update S _).update S _).objs.size
          rw [Heap.size_update, Heap.size_update, Heap.size_push]
          omega
end
section
variable {X : Cx}
theorem ls_of {pins : List (Addr × Obj)} {σ : St} {H : Hp} {s : Shared} (I : Inv X pins σ H s) : ∀ {qs : List (Addr × List V)}, (∀ q ∈ qs, Rd H q.1 (.lst q.2)) → ∃ L : Ls, L.map (·.1) = qs.map (·.1) ∧ LsAt s.heap L ∧ Vals ((qs.map (·.2)).flatten) ((L.map (·.2.1)).flatten)
  | [], _ => ⟨[], rfl, fun _ h => by simp at h, .nil⟩
  | q :: qs, h => by
    obtain ⟨L, e, a, v⟩ := ls_of I (qs := qs) fun x hx => h x (List.mem_cons_of_mem _ hx)
    obtain ⟨its, n, r, g, _⟩ := rd_isL I (h q List.mem_cons_self)
    refine ⟨(q.1, its, n) :: L, by simp [e], fun z hz => ?_, by simpa using r.append v⟩
    rcases List.mem_cons.mp hz with rfl | hz
    · exact g
    · exact a z hz
/-- sum(xs, ys): lists, one behind the other -/
theorem call_sumL (hc : X.calm = true) : CallR X (.builtin "sum") (fun xs H Q => ∃ (a b : Addr) (qs : List (Addr × List V)) (ys : List V), xs = [.ref a, .ref b] ∧ Rd H a (.lst (qs.map fun q => V.ref q.1)) ∧ (∀ q ∈ qs, Rd H q.1 (.lst q.2)) ∧ Rd H b (.lst ys) ∧
    ys.length + ((qs.map (·.2)).flatten).length ≤ sizeLine ∧ (qs = [] → Q (.ref b) H) ∧ (qs ≠ [] → ∀ p, H p = none → Q (.ref p) (upd H p (.lst (ys ++ (qs.map (·.2)).flatten))))) := by
  intro pins s σ H xs us Q I r h
  obtain ⟨a, b, qs, ys, rfl, ha, hq, hb, hz, q0, q1⟩ := h
  obtain ⟨u1, u2, rfl, r1, r2⟩ := vals2 r
  cases r1
  cases r2
  obtain ⟨L, eL, hL, vL⟩ := ls_of I hq
  obtain ⟨its, n, rv, g, _⟩ := rd_isL I ha
  obtain ⟨its2, n2, rv2, g2, _⟩ := rd_isL I hb
  have eits : its = L.map fun q => Value.ref q.1 := by
    have gen : ∀ {qs : List (Addr × List V)} {its : List Value} {L : Ls}, Vals (qs.map fun q => V.ref q.1) its → L.map (·.1) = qs.map (·.1) → its = L.map fun q => Value.ref q.1 := by
      intro qs
      induction qs with
      | nil => intro its L r e; cases r; simp at e; subst e; rfl
      | cons q qs ih =>
        intro its L r e
        cases L with
        | nil => simp at e
        | cons l L =>
          simp at e
          cases r with
          | cons r1 r2 =>
            cases r1
            rw [List.map_cons, ih r2 (by simpa using e.2), e.1]
    exact gen rv eL
  subst eits
  refine call_function_tree F.kind_sum F.plain_sum F.entry_sum (args_sum2 _ _) ?_
  unfold Builtin.«sum»
  simp only [List.length_cons, List.length_nil]
  rw [if_neg (by decide)]
  refine wpAny_bind (wpAny_of_eq (show Builtin.Builtins.bindParams "sum" ["start"] 0 ⟨[.ref b], []⟩ = pure [some (.ref b)] from rfl) ?_)
  have hl : s.heap.IsList a (L.map fun q => Value.ref q.1).toArray := ⟨_, g, rfl, n, rfl⟩
  refine wpAny_bind (wpAny_pyIter_list hl ?_)
  refine wpAny_bind (wpAny_pure ?_)
  have k1 : ∀ x o, s.heap.get? x = some o → (s.heap.push { cls := .type "list_iterator", data := .fields #[.ref a, rawInt 0] }).get? x = some o := fun x o e => Heap.get?_push_of_some _ e
  have tb : ∀ {s' : Shared}, (∀ x o, s.heap.get? x = some o → s'.heap.get? x = some o) → s'.TypeIs (.ref b) "list" := fun {s'} k => ⟨_, k _ _ g2, rfl⟩
  simp only [List.forIn_cons, List.forIn_nil]
  refine wpAny_bind (wpAny_bind (wpAny_bind (wpAny_isInstance (T := "list") (b := false) (tb k1) sub_list_str ?_)))
  simp only [Bool.false_eq_true, if_false]
  refine wpAny_pure (wpAny_bind (wpAny_bind (wpAny_isInstance (T := "list") (b := false) (tb k1) sub_list_bytes ?_)))
  simp only [Bool.false_eq_true, if_false]
  refine wpAny_pure (wpAny_bind (wpAny_bind (wpAny_isInstance (T := "list") (b := false) (tb k1) sub_list_bytearray ?_)))
  simp only [Bool.false_eq_true, if_false]
  refine wpAny_pure (wpAny_pure ?_)
  refine wpAny_bind (wpAny_newObj_type ?_)
  have lt : ∀ {x : Addr} {o : Obj}, s.heap.get? x = some o → x < s.heap.objs.size := fun e => Heap.lt_size e
  have sz1 : (s.heap.push { cls := .type "list_iterator", data := .fields #[.ref a, rawInt 0] }).objs.size = s.heap.objs.size + 1 := Heap.size_push _ _
  have k2 : ∀ x o, s.heap.get? x = some o → ((s.heap.push { cls := .type "list_iterator", data := .fields #[.ref a, rawInt 0] }).push { cls := .type "list", data := .seq #[.ref b] }).get? x = some o := fun x o e => Heap.get?_push_of_some _ (k1 x o e)
  have nI : ∀ {x : Addr} {o : Obj}, s.heap.get? x = some o → x ≠ s.heap.objs.size := fun e => Nat.ne_of_lt (lt e)
  have nS : ∀ {x : Addr} {o : Obj}, s.heap.get? x = some o → x ≠ (s.heap.push { cls := .type "list_iterator", data := .fields #[.ref a, rawInt 0] }).objs.size := fun e => by rw [sz1]; exact Nat.ne_of_lt (Nat.lt_succ_of_lt (lt e))
  have vl2 : ((L.map (·.2.1)).flatten).length = ((qs.map (·.2)).flatten).length := vL.length.symm
  refine wpAny_pure ⟨plainId_quiet F.plain_sum_loop _, sum_loop (I.ok.hd hc) (I := s.heap.objs.size) (ax := a) (S := (s.heap.push { cls := .type "list_iterator", data := .fields #[.ref a, rawInt 0] }).objs.size) L (nI g) (by rw [sz1]; exact Nat.succ_ne_self _) (Ne.symm (nS g))
    (fun q hq => nS (hL q hq)) (fun q hq => nI (hL q hq)) L.length 0 _ b 0 n2 its2 (by omega) (Nat.zero_le _) ?_ ?_ (fun q hq => k2 _ _ (hL q hq)) (Heap.get?_push_size _ rfl) (k2 _ _ g2) (nS g2) (nI g2) (by rw [List.drop_zero, vl2, ← rv2.length]; exact hz) fun h' tk T' nT' kk hT' hor => ?_⟩
  · exact ⟨_, Heap.get?_push_of_some _ (Heap.get?_push_size _ rfl), rfl, rfl⟩
  · exact ⟨_, k2 _ _ g, rfl, n, rfl⟩
  · have K : ∀ x o, s.heap.get? x = some o → h'.get? x = some o := fun x o e => kk x o (nS e) (nI e) (k2 x o e)
    rw [List.drop_zero] at hT'
    by_cases hn : qs = []
    · subst hn
      have : L = [] := by simpa using eL
      subst this
      rcases hor with ⟨_, rfl⟩ | hor
      · exact ⟨.ref T', H, I.kept (t' := tk) K, rfl, q0 rfl⟩
      · exact absurd rfl hor.1
    · rcases hor with ⟨e0, _⟩ | ⟨_, hor⟩
      · have : L = [] := List.length_eq_zero_iff.mp e0.symm
        subst this
        exact absurd (by simpa using eL.symm) hn
      · have hp : s.heap.objs.size ≤ T' := by
          refine Nat.le_trans ?_ hor
          show s.heap.objs.size ≤ ((s.heap.push _).push _).objs.size
          rw [Heap.size_push, Heap.size_push]
          omega
        refine ⟨.ref T', _, I.laid (t' := tk) (o := .lst (ys ++ (qs.map (·.2)).flatten)) K hp ?_, rfl, q1 hn T' (I.hok.fresh hp)⟩
        exact ⟨by rw [List.length_append]; exact hz, _, nT', rv2.append vL, hT'⟩
end
end DL

/-! DSort: sorted(a tuple of texts). -/
namespace PyProof.Rows
open PySem
section
variable {prog : Program} {w : World} {A : Around} {E : Value → Shared → Prop} {s : Shared}
theorem collect_tupD {l : Addr} {vs : List Value} {Q : List Value → Shared → Prop} (hl : IsTup s.heap l vs.toArray)
    (h : Q vs { s with heap := (s.heap.push (seqObj "list" #[] 0)).update s.heap.objs.size (Obj.mapSeq (· ++ vs.toArray)) }) (hsz : vs.length ≤ sizeLine := by size_fits) :
    wpAny (model prog w) A (collect (.ref l)) Q E s := by
  obtain ⟨o, ho, hc, n, hd⟩ := id hl
  unfold collect
  refine wpAny_bind (wpAny_runValue (codeAny_builtin entry_proto_collect' ?_))
  show wpAny _ _ (do again (.builtin "list.__iadd__" ⟨[← newList [], .ref l], []⟩)) _ _ s
  refine wpAny_bind (wpAny_newList (wpAny_pure ⟨Code.quiet_builtin _ (by decide +kernel), codeAny_builtin entry_list_iadd' ?_⟩))
  show wpAny _ _ (Builtin.List.listExtendWith (.ref s.heap.objs.size) (.ref l) (.ref s.heap.objs.size)) _ _ { s with heap := s.heap.push (seqObj "list" #[] 0) }
  unfold Builtin.List.listExtendWith
  have ho' : (s.heap.push (seqObj "list" #[] 0)).get? l = some o := Heap.get?_push_of_some _ ho
  refine wpAny_bind (wpAny_typeOf (T := "tuple") ⟨o, ho', hc⟩ ?_)
  have ht : (Value.type "tuple" == Value.type "tuple") = true := by rfl
  rw [if_pos (by rw [ht]; simp)]
  refine wpAny_bind (listItems_at ho' hd ?_)
  refine wpAny_bind (listItems_at (xs := #[]) (n := 0) (Heap.get?_push_size _ rfl) rfl ?_)
  rw [if_neg (by simp)]
  refine wpAny_bind (listUpdate_at (xs := #[]) (n := 0) (Heap.get?_push_size _ rfl) rfl ?_ (Nat.zero_le _) (by show (#[] ++ vs.toArray).size ≤ sizeLine + 1; simp only [Array.size_append, List.size_toArray, List.length_nil]; omega))
  refine wpAny_pure ?_
  show wpAny (model prog w) A (do
      let o ← load s.heap.objs.size
      match o.data with
      | .seq xs _ => pure xs.toList
      | _ => unsupported "internal:collect") Q E { s with heap := (s.heap.push (seqObj "list" #[] 0)).update s.heap.objs.size (Obj.mapSeq (· ++ vs.toArray)) }
  refine wpAny_bind (wpAny_load (get?_update_seq (Heap.get?_push_size _ rfl) _) ?_)
  show wpAny _ _ (pure ((#[] : Array Value) ++ vs.toArray).toList) Q E _
  rw [show ((#[] : Array Value) ++ vs.toArray).toList = vs by simp]
  exact wpAny_pure h
theorem sorted_strsT {l : Addr} {vs : List Value} {ss : List Str} {Q : Value → Shared → Prop} (hl : IsTup s.heap l vs.toArray) (hS : StrsAre vs ss) (hL : vs.length ≤ sizeLine)
    (h : ∀ (out : Array Value) (ss' : List Str), StrsAre out.toList ss' → ss'.Perm ss → sortedS ss' = true → Q (.ref (s.heap.objs.size + 1)) { s with heap := sortedAll s.heap vs out }) :
    wpAny (model prog w) A (call (.builtin "sorted") [.ref l]) Q E s := by
  refine Calls.call_function_entry kind_sorted plain_sorted entry_sorted (args_sorted1 _) ?_
  unfold Builtin.«sorted»
  refine wpAny_bind (m := checkCount "sorted" 1 1 _) (wpAny_pure ?_)
  refine wpAny_bind (collect_tupD hl ?_)
  refine wpAny_bind (wpAny_newList ?_)
  have hsz : ((s.heap.push (seqObj "list" #[] 0)).update s.heap.objs.size (Obj.mapSeq (· ++ vs.toArray))).objs.size = s.heap.objs.size + 1 := by
    rw [Heap.size_update, size_push']
  have hoL : (((s.heap.push (seqObj "list" #[] 0)).update s.heap.objs.size (Obj.mapSeq (· ++ vs.toArray))).push (seqObj "list" vs.toArray 0)).get? (s.heap.objs.size + 1) = some (seqObj "list" vs.toArray 0) := by
    rw [← hsz]; exact Heap.get?_push_size _ rfl
  show wpAny _ _ _ _ _ { s with heap := ((s.heap.push (seqObj "list" #[] 0)).update s.heap.objs.size (Obj.mapSeq (· ++ vs.toArray))).push (seqObj "list" vs.toArray 0) }
  rw [hsz]
  refine wpAny_bind (wpAny_holding (wpAny_call_entry slot_list_sort ⟨_, hoL, rfl⟩ entry_list_sort (list_sort_treeKAny strKind_oneLt hoL hS.keysOf (fun v₁ v₂ rest e => keyKind_strs (by rw [← e]; exact hS)) hL fun st' a1 a2 => ⟨_, rfl, ?_⟩) (args_list_sort _)))
  obtain ⟨ss', h1, h2, h3⟩ := sorted_out_str hS a1 a2
  exact wpAny_pure ⟨_, rfl, h _ ss' h1 h2 h3⟩
end
end PyProof.Rows
namespace DL
open PySem PySem.Spec L2
section
variable {X : Cx}
/-- sorted of texts: a list or a tuple -/
theorem call_sortedSS : CallR X (.builtin "sorted") (fun vs H Q => ∃ (a : Addr) (xs : List Str), vs = [V.ref a] ∧ (SqL X.K H a (xs.map V.str) ∨ SqT X.K H a (xs.map V.str)) ∧ xs.length ≤ sizeLine ∧
    ∀ (ys : List Str) (p : Addr), ys.Perm xs → PyProof.Rows.sortedS ys = true → H p = none → Q (.ref p) (upd H p (.lst (ys.map V.str)))) := by
  intro pins s σ H vs us Q I r h
  obtain ⟨a, xs, rfl, hs, hz, q⟩ := h
  rw [Vals.ref1 r]
  have fin : ∀ (its : List Value) (rv : Vals (xs.map V.str) its) (out : Array Value) (ys : List Str), PyProof.Rows.StrsAre out.toList ys → ys.Perm xs → PyProof.Rows.sortedS ys = true → EP X pins σ Q (.ref (s.heap.objs.size + 1)) { s with heap := PyProof.Rows.sortedAll s.heap its out } := fun its rv out ys h1 h2 h3 => by
    obtain ⟨ep, he'⟩ := PyProof.Rows.sortedAll_at s.heap its out
    have hlen : (ys.map V.str).length ≤ sizeLine := by rw [List.length_map, h2.length_eq]; exact hz
    exact ⟨.ref _, upd H (s.heap.objs.size + 1) (.lst (ys.map V.str)), I.laid (t' := s.toks) (fun _ _ => PyProof.Rows.sortedAll_old) (Nat.le_succ _) ⟨hlen, out.toList, ep, vals_of_strs h1, he'⟩, rfl, q ys _ h2 h3 (I.hok.fresh (Nat.le_succ _))⟩
  rcases hs with hs | hs
  · obtain ⟨its, rv, hl, _⟩ := I.list hs
    have hlen0 := rv.length
    rw [List.length_map] at hlen0
    exact PyProof.Rows.sorted_strsAny hl.isList rv.strs (by rw [← hlen0]; exact hz) (fin its rv)
  · obtain ⟨its, rv, hl, _⟩ := I.tuple hs
    have hlen0 := rv.length
    rw [List.length_map] at hlen0
    exact PyProof.Rows.sorted_strsT hl rv.strs (by rw [← hlen0]; exact hz) (fin its rv)
end
end DL

/-! D6: calls over data: built-ins, lists' methods, the text's own defs. -/
namespace DL
open PySem PySem.Spec L2

abbrev FB := List D → Mem → Po → Prop
def wCB (f : FB) (wa : WA) : WE := fun env m Q E => wa env m (fun ds m1 => f ds m1 Q) E
def BD (X : Cx) (r : List V → Hp → VK → Prop) (f : FB) : Prop := ∀ (F : Hp) (m : Mem) (H : Hp) (ds : List D) (vs : List V) (Qd : Po) (Q : VK), Rel X.K F m H → Dens X.K F ds vs → f ds m Qd →
  (∀ v' H' F' m' d, Sub F F' → Rel X.K F' m' H' → Den X.K F' d v' → Qd d m' → Q v' H') → r vs H Q
theorem seq_cases {m : Mem} {d : D} {xs : List D} (e : seqOf m d = some xs) : d = .tup xs ∨ d = .klst xs ∨ lstOf m d = some xs := by
  cases d <;> simp only [seqOf, lstOf] at e ⊢ <;> first | (cases e; exact .inl rfl) | (cases e; exact .inr (.inl rfl)) | exact .inr (.inr e) | (exact .inr (.inr rfl)) | cases e
section
variable {X : Cx}
theorem dens1 {K : Frag} {F : Hp} {u : D} {vs : List V} (h : Dens K F [u] vs) : ∃ a, vs = [a] ∧ Den K F u a := by
  simp only [Dens] at h
  obtain ⟨a, r, rfl, h1, rfl⟩ := h
  exact ⟨a, rfl, h1⟩
theorem dcb {r : List V → Hp → VK → Prop} {f : FB} {id : String} {x : Str} {p pos : Pos} {e : Expr} {es : List Expr} {wa : WA} (hc : CallR X (.builtin id) r) (bd : BD X r f) (hg : Gl X x) (hm : X.mg x = none) (hv : bootBuiltins x = some (.builtin id)) (ha : DA X (e :: es) wa)
    (hn : x ≠ "__name__" := by decide) (hdb : (x == ("__debug__" : Str)) = false := by decide) (he : starEach (e :: es) X.env = (false, eval e X.env) :: starEach es X.env := by rfl) (hpl : (backTo pos (starEach es X.env)).any (·.1) = false := by rfl) :
    DE X (.Call (.Name x p) (e :: es) [] pos) (wCB f wa) := wkE (pe_callB hc hg hm hv ha hn hdb he hpl) fun σ H Q ⟨F, m, env, Qd, xc, r0, en, a, q, k⟩ =>
  tWA.sub r0 en a q fun vs H1 F1 m1 ds s1 r1 en1 dn1 q1 => bd F1 m1 H1 ds vs Qd Q r1 dn1 q1 fun v' H' F' m' d s => k v' H' F' m' d (s1.trans s)
theorem dct {r : List V → Hp → VK → Prop} {f : FB} {T : String} {x : Str} {p pos : Pos} {e : Expr} {es : List Expr} {wa : WA} (hc : CallR X (.type T) r) (bd : BD X r f) (hg : Gl X x) (hm : X.mg x = none) (hv : bootBuiltins x = some (.type T)) (ha : DA X (e :: es) wa)
    (hn : x ≠ "__name__" := by decide) (hdb : (x == ("__debug__" : Str)) = false := by decide) (he : starEach (e :: es) X.env = (false, eval e X.env) :: starEach es X.env := by rfl) (hpl : (backTo pos (starEach es X.env)).any (·.1) = false := by rfl) :
    DE X (.Call (.Name x p) (e :: es) [] pos) (wCB f wa) := wkE (pe_callTy hc hg hm hv ha hn hdb he hpl) fun σ H Q ⟨F, m, env, Qd, xc, r0, en, a, q, k⟩ =>
  tWA.sub r0 en a q fun vs H1 F1 m1 ds s1 r1 en1 dn1 q1 => bd F1 m1 H1 ds vs Qd Q r1 dn1 q1 fun v' H' F' m' d s => k v' H' F' m' d (s1.trans s)

/-! ### len -/
def fLen : FB := fun ds m Q => match ds with
  | [.str z] => z.length ≤ sizeLine ∧ Q (.int z.length) m
  | [d] => ∃ xs, seqOf m d = some xs ∧ Q (.int xs.length) m
  | _ => False
theorem bd_len : BD X (fun xs H Q => ∃ x n, xs = [x] ∧ LenV X.K x H n ∧ Q (.int n) H) fLen := fun F m H ds vs Qd Q r dn q k => by
  have gen : ∀ d, ds = [d] → (∃ xs, seqOf m d = some xs ∧ Qd (.int xs.length) m) → ∃ x n, vs = [x] ∧ LenV X.K x H n ∧ Q (.int n) H := fun d e ⟨xs, e1, q2⟩ => by
    subst e
    obtain ⟨v, rfl, d1⟩ := dens1 dn
    obtain ⟨a, us, rfl, hs, d2⟩ := r.seqOf d1 e1
    refine ⟨.ref a, xs.length, rfl, ?_, k _ H F m (.int xs.length) (Sub.refl F) r (by simp only [Den]) q2⟩
    rcases hs with hs | hs
    · exact .inl ⟨us, hs, d2.length⟩
    · exact .inr ⟨us, hs, d2.length⟩
  match ds, q with
  | [.str z], q =>
    obtain ⟨v, rfl, d1⟩ := dens1 dn
    simp only [Den] at d1; subst d1
    exact ⟨_, z.length, rfl, ⟨q.1, rfl⟩, k _ H F m _ (Sub.refl F) r (by simp only [Den]) q.2⟩
  | [.non], q => exact gen _ rfl q
  | [.bl _], q => exact gen _ rfl q
  | [.int _], q => exact gen _ rfl q
  | [.ty _], q => exact gen _ rfl q
  | [.ref _], q => exact gen _ rfl q
  | [.tup _], q => exact gen _ rfl q
  | [.lst _], q => exact gen _ rfl q
  | [.klst _], q => exact gen _ rfl q
theorem dlen {p pos : Pos} {e : Expr} {we : WA} (hg : Gl X "len") (hm : X.mg "len" = none) (ha : DA X [e] we) (he : starEach [e] X.env = (false, eval e X.env) :: starEach [] X.env := by rfl) : DE X (.Call (.Name "len" p) [e] [] pos) (wCB fLen we) := dcb call_len bd_len hg hm PySem.boot_len ha (he := he)
/-! ### min, max of two ints -/
def fMin2 : FB := fun ds m Q => match ds with
  | [.int i, .int j] => Q (.int (if j < i then j else i)) m
  | _ => False
def fMax2 : FB := fun ds m Q => match ds with
  | [.int i, .int j] => Q (.int (if j > i then j else i)) m
  | _ => False
theorem bd_min2 : BD X (fun xs H Q => ∃ i j, xs = [.int i, .int j] ∧ Q (.int (if j < i then j else i)) H) fMin2 := fun F m H ds vs Qd Q r dn q k => by
  match ds, q with
  | [.int i, .int j], q =>
    obtain ⟨a, b, rfl, h1, h2⟩ := dens2 dn
    simp only [Den] at h1 h2; subst h1; subst h2
    exact ⟨i, j, rfl, k _ H F m _ (Sub.refl F) r (by simp only [Den]) q⟩
theorem bd_max2 : BD X (fun xs H Q => ∃ i j, xs = [.int i, .int j] ∧ Q (.int (if j > i then j else i)) H) fMax2 := fun F m H ds vs Qd Q r dn q k => by
  match ds, q with
  | [.int i, .int j], q =>
    obtain ⟨a, b, rfl, h1, h2⟩ := dens2 dn
    simp only [Den] at h1 h2; subst h1; subst h2
    exact ⟨i, j, rfl, k _ H F m _ (Sub.refl F) r (by simp only [Den]) q⟩
theorem dmin2 {p pos : Pos} {e e' : Expr} {we : WA} (hc : X.calm = true) (hg : Gl X "min") (hm : X.mg "min" = none) (ha : DA X [e, e'] we) (he : starEach [e, e'] X.env = (false, eval e X.env) :: starEach [e'] X.env := by rfl) (hpl : (backTo pos (starEach [e'] X.env)).any (·.1) = false := by rfl) :
    DE X (.Call (.Name "min" p) [e, e'] [] pos) (wCB fMin2 we) := dcb (call_min2 hc) bd_min2 hg hm PyProof.Rows.boot_min ha (he := he) (hpl := hpl)
theorem dmax2 {p pos : Pos} {e e' : Expr} {we : WA} (hc : X.calm = true) (hg : Gl X "max") (hm : X.mg "max" = none) (ha : DA X [e, e'] we) (he : starEach [e, e'] X.env = (false, eval e X.env) :: starEach [e'] X.env := by rfl) (hpl : (backTo pos (starEach [e'] X.env)).any (·.1) = false := by rfl) :
    DE X (.Call (.Name "max" p) [e, e'] [] pos) (wCB fMax2 we) := dcb (call_max2 hc) bd_max2 hg hm PyProof.Rows.boot_max ha (he := he) (hpl := hpl)
/-! ### tuple(x), list(x) -/
def fTuple : FB := fun ds m Q => match ds with
  | [d] => ∃ xs, seqOf m d = some xs ∧ Q (.tup xs) m
  | _ => False
def fList : FB := fun ds m Q => match ds with
  | [d] => ∃ xs, seqOf m d = some xs ∧ Q (.lst xs) m
  | _ => False
def fListM : FB := fun ds m Q => match ds with
  | [d] => ∃ xs, seqOf m d = some xs ∧ ∀ p, m p = none → Q (.ref p) (m.put p (.lst xs))
  | _ => False
theorem bd_tuple : BD X (fun xs H Q => ∃ p ys, xs = [.ref p] ∧ ((SqL X.K H p ys ∧ ∀ l, H l = none → Q (.ref l) (upd H l (.tup ys))) ∨ (SqT X.K H p ys ∧ Q (.ref p) H))) fTuple := fun F m H ds vs Qd Q r dn q k => by
  match ds, q with
  | [d], ⟨xs, e, q⟩ =>
    obtain ⟨v, rfl, d1⟩ := dens1 dn
    rcases seq_cases e with rfl | rfl | e2
    · have D1 := d1
      simp only [Den] at d1
      obtain ⟨b, ws, rfl, hb, db⟩ := d1
      exact ⟨b, ws, rfl, .inr ⟨r.sqT hb, k _ H F m (.tup xs) (Sub.refl F) r D1 q⟩⟩
    · simp only [Den] at d1
      obtain ⟨a, us, rfl, hs, d2⟩ := d1
      refine ⟨a, us, rfl, .inl ⟨r.sqL hs, fun l hl => ?_⟩⟩
      obtain ⟨r', s'⟩ := r.frozen (o := .tup us) hl
      refine k _ _ _ m (.tup xs) s' r' ?_ q
      simp only [Den]
      exact ⟨l, us, rfl, .inl (.inl upd_same), d2.mono s'⟩
    · obtain ⟨a, us, rfl, hs, d2⟩ := r.lstOf d1 e2
      refine ⟨a, us, rfl, .inl ⟨.inl hs, fun l hl => ?_⟩⟩
      obtain ⟨r', s'⟩ := r.frozen (o := .tup us) hl
      refine k _ _ _ m (.tup xs) s' r' ?_ q
      simp only [Den]
      exact ⟨l, us, rfl, .inl (.inl upd_same), d2.mono s'⟩
abbrev rListOf (K : Frag) : List V → Hp → VK → Prop := fun xs H Q => ∃ p ys, xs = [.ref p] ∧ (SqL K H p ys ∨ SqT K H p ys) ∧ ∀ l, H l = none → Q (.ref l) (upd H l (.lst ys))
theorem bd_list : BD X (rListOf X.K) fList := fun F m H ds vs Qd Q r dn q k => by
  match ds, q with
  | [d], ⟨xs, e, q⟩ =>
    obtain ⟨v, rfl, d1⟩ := dens1 dn
    obtain ⟨a, us, rfl, hs, d2⟩ := r.seqOf d1 e
    refine ⟨a, us, rfl, hs, fun l hl => ?_⟩
    obtain ⟨r', s'⟩ := r.frozen (o := .lst us) hl
    refine k _ _ _ m (.lst xs) s' r' ?_ q
    simp only [Den]
    exact ⟨l, us, rfl, .inl upd_same, d2.mono s'⟩
theorem bd_listM : BD X (rListOf X.K) fListM := fun F m H ds vs Qd Q r dn q k => by
  match ds, q with
  | [d], ⟨xs, e, q⟩ =>
    obtain ⟨v, rfl, d1⟩ := dens1 dn
    obtain ⟨a, us, rfl, hs, d2⟩ := r.seqOf d1 e
    refine ⟨a, us, rfl, hs, fun l hl => ?_⟩
    refine k _ _ F _ (.ref l) (Sub.refl F) (r.fresh hl (c := .lst xs) ?_) (by simp only [Den]) (q l (r.free hl).2)
    simp only [CellOk]
    exact ⟨us, upd_same, d2⟩
theorem dtuple {p pos : Pos} {e : Expr} {we : WA} (hg : Gl X "tuple") (hm : X.mg "tuple" = none) (ha : DA X [e] we) (he : starEach [e] X.env = (false, eval e X.env) :: starEach [] X.env := by rfl) : DE X (.Call (.Name "tuple" p) [e] [] pos) (wCB fTuple we) := dct call_tuple_of bd_tuple hg hm (by decide +kernel) ha (he := he)
theorem dlist {p pos : Pos} {e : Expr} {we : WA} (hg : Gl X "list") (hm : X.mg "list" = none) (ha : DA X [e] we) (he : starEach [e] X.env = (false, eval e X.env) :: starEach [] X.env := by rfl) : DE X (.Call (.Name "list" p) [e] [] pos) (wCB fList we) := dct call_list_of bd_list hg hm (by decide +kernel) ha (he := he)
theorem dlistM {p pos : Pos} {e : Expr} {we : WA} (hg : Gl X "list") (hm : X.mg "list" = none) (ha : DA X [e] we) (he : starEach [e] X.env = (false, eval e X.env) :: starEach [] X.env := by rfl) : DE X (.Call (.Name "list" p) [e] [] pos) (wCB fListM we) := dct call_list_of bd_listM hg hm (by decide +kernel) ha (he := he)
/-! ### str(n) -/
def fStrI : FB := fun ds m Q => match ds with
  | [.int i] => i.natAbs.log2 < 1920 ∧ Q (.str (toString i)) m
  | _ => False
theorem bd_stri : BD X (fun xs H Q => ∃ i, xs = [.int i] ∧ i.natAbs.log2 < 1920 ∧ Q (.str (toString i)) H) fStrI := fun F m H ds vs Qd Q r dn q k => by
  match ds, q with
  | [.int i], q =>
    obtain ⟨a, rfl, h1⟩ := dens1 dn
    simp only [Den] at h1; subst h1
    exact ⟨i, rfl, q.1, k _ H F m _ (Sub.refl F) r (by simp only [Den]) q.2⟩
theorem dstri {p pos : Pos} {e : Expr} {we : WA} (hg : Gl X "str") (hm : X.mg "str" = none) (ha : DA X [e] we) (he : starEach [e] X.env = (false, eval e X.env) :: starEach [] X.env := by rfl) : DE X (.Call (.Name "str" p) [e] [] pos) (wCB fStrI we) := dct call_str_int bd_stri hg hm (by decide +kernel) ha (he := he)
/-! ### any, all of a list of bools -/
def bools : List D → Option (List Bool)
  | [] => some []
  | .bl b :: ds => (bools ds).map (b :: ·)
  | _ => none
theorem bools_den {K : Frag} {F : Hp} : ∀ {ds : List D} {vs : List V} {bs : List Bool}, Dens K F ds vs → bools ds = some bs → vs = bs.map V.bl
  | [], _, _, dn, e => by simp only [Dens] at dn; simp only [bools] at e; cases e; exact dn
  | d :: ds, _, bs, dn, e => by
    simp only [Dens] at dn
    obtain ⟨v, r, rfl, h1, h2⟩ := dn
    cases d <;> simp only [bools] at e <;> first | cases e | skip
    rename_i b
    simp only [Den] at h1
    cases q : bools ds with
    | none => rw [q] at e; cases e
    | some cs =>
      rw [q] at e; cases e
      rw [bools_den h2 q, h1]; rfl
@[simp] theorem bools_map {α : Type} (f : α → Bool) (l : List α) : bools (l.map fun x => D.bl (f x)) = some (l.map f) := by
  induction l with
  | nil => rfl
  | cons a l ih => simp [bools, ih]
def fAny : FB := fun ds m Q => match ds with
  | [d] => ∃ xs bs, lstOf m d = some xs ∧ bools xs = some bs ∧ Q (.bl (bs.any id)) m
  | _ => False
def fAll : FB := fun ds m Q => match ds with
  | [d] => ∃ xs bs, lstOf m d = some xs ∧ bools xs = some bs ∧ Q (.bl (bs.all id)) m
  | _ => False
theorem bd_any : BD X (rAny X.K) fAny := fun F m H ds vs Qd Q r dn q k => by
  match ds, q with
  | [d], ⟨xs, bs, e1, e2, q⟩ =>
    obtain ⟨a, rfl, h1⟩ := dens1 dn
    obtain ⟨b, us, rfl, hs, h2⟩ := r.lstOf h1 e1
    rw [bools_den h2 e2] at hs
    exact ⟨b, bs, rfl, .inl hs, k _ H F m _ (Sub.refl F) r (by simp only [Den]) q⟩
theorem bd_all : BD X (rAll X.K) fAll := fun F m H ds vs Qd Q r dn q k => by
  match ds, q with
  | [d], ⟨xs, bs, e1, e2, q⟩ =>
    obtain ⟨a, rfl, h1⟩ := dens1 dn
    obtain ⟨b, us, rfl, hs, h2⟩ := r.lstOf h1 e1
    rw [bools_den h2 e2] at hs
    exact ⟨b, bs, rfl, .inl hs, k _ H F m _ (Sub.refl F) r (by simp only [Den]) q⟩
theorem dany {p pos : Pos} {e : Expr} {we : WA} (hc : X.calm = true) (hg : Gl X "any") (hm : X.mg "any" = none) (ha : DA X [e] we) (he : starEach [e] X.env = (false, eval e X.env) :: starEach [] X.env := by rfl) : DE X (.Call (.Name "any" p) [e] [] pos) (wCB fAny we) := dcb (cr_any hc) bd_any hg hm PyProof.Rows.boot_any ha (he := he)
theorem dall {p pos : Pos} {e : Expr} {we : WA} (hc : X.calm = true) (hg : Gl X "all") (hm : X.mg "all" = none) (ha : DA X [e] we) (he : starEach [e] X.env = (false, eval e X.env) :: starEach [] X.env := by rfl) : DE X (.Call (.Name "all" p) [e] [] pos) (wCB fAll we) := dcb (cr_all hc) bd_all hg hm (by decide +kernel) ha (he := he)
/-! ### sum(lists, []) -/
def lists (m : Mem) : List D → Option (List (List D))
  | [] => some []
  | d :: ds => match lstOf m d, lists m ds with
    | some x, some r => some (x :: r)
    | _, _ => none
def fSumL : FB := fun ds m Q => match ds with
  | [d, e] => ∃ xs xss ys, lstOf m d = some xs ∧ lists m xs = some xss ∧ e = .lst ys ∧ ys.length + xss.flatten.length ≤ sizeLine ∧ Q (.lst (ys ++ xss.flatten)) m
  | _ => False
theorem lists_den {K : Frag} {F : Hp} {m : Mem} {H : Hp} (r : Rel K F m H) : ∀ {ds : List D} {vs : List V} {xss : List (List D)}, Dens K F ds vs → lists m ds = some xss →
    ∃ qs : List (Addr × List V), vs = qs.map (fun q => V.ref q.1) ∧ (∀ q ∈ qs, Rd H q.1 (.lst q.2)) ∧ Dens K F xss.flatten (qs.map (·.2)).flatten ∧ qs.length = xss.length
  | [], _, _, dn, e => by simp only [Dens] at dn; simp only [lists] at e; cases e; exact ⟨[], dn, fun _ h => by simp at h, Dens.nil, rfl⟩
  | d :: ds, _, xss, dn, e => by
    simp only [Dens] at dn
    obtain ⟨v, r', rfl, h1, h2⟩ := dn
    simp only [lists] at e
    cases e1 : DL.lstOf m d with
    | none => rw [e1] at e; cases e
    | some x =>
      cases e2 : lists m ds with
      | none => rw [e1, e2] at e; cases e
      | some y =>
        rw [e1, e2] at e; cases e
        obtain ⟨a, us, rfl, ha, da⟩ := r.lstOf h1 e1
        obtain ⟨qs, rfl, hq, dq, hl⟩ := lists_den r h2 e2
        refine ⟨(a, us) :: qs, rfl, fun q hh => ?_, ?_, by simp [hl]⟩
        · rcases List.mem_cons.mp hh with rfl | hh
          · exact ha
          · exact hq q hh
        · simpa using da.append dq
theorem dsumL {p pos : Pos} {e e' : Expr} {we : WA} (hc : X.calm = true) (hg : Gl X "sum") (hm : X.mg "sum" = none) (ha : DA X [e, e'] we) (he : starEach [e, e'] X.env = (false, eval e X.env) :: starEach [e'] X.env := by rfl) (hpl : (backTo pos (starEach [e'] X.env)).any (·.1) = false := by rfl) :
    DE X (.Call (.Name "sum" p) [e, e'] [] pos) (wCB fSumL we) := dcb (call_sumL hc) (fun F m H ds vs Qd Q r dn q k => by
  match ds, q with
  | [d, _], ⟨xs, xss, ys, e1, e2, rfl, hz, q⟩ =>
    obtain ⟨a, b, rfl, h1, h2⟩ := dens2 dn
    obtain ⟨c, us, rfl, hs, d1⟩ := r.lstOf h1 e1
    obtain ⟨qs, rfl, hq, dq, hl⟩ := lists_den r d1 e2
    have D2 := h2
    simp only [Den] at h2
    obtain ⟨b', ws, rfl, hb, db⟩ := h2
    refine ⟨c, b', qs, ws, rfl, hs, hq, r.rd hb, by rw [← db.length, ← dq.length]; exact hz, fun e => ?_, fun _ p hp => ?_⟩
    · subst e
      have : xss = [] := List.length_eq_zero_iff.mp hl.symm
      subst this
      exact k _ H F m (.lst ys) (Sub.refl F) r D2 (by simpa using q)
    · obtain ⟨r', s'⟩ := r.frozen (o := .lst (ws ++ (qs.map (·.2)).flatten)) hp
      refine k _ _ _ m (.lst (ys ++ xss.flatten)) s' r' ?_ q
      simp only [Den]
      exact ⟨p, _, rfl, .inl upd_same, (db.append dq).mono s'⟩) hg hm PyProof.Rows.boot_sum ha (he := he) (hpl := hpl)
/-! ### sorted of texts -/
def strsD : List D → Option (List Str)
  | [] => some []
  | .str s :: ds => (strsD ds).map (s :: ·)
  | _ => none
theorem strs_den {K : Frag} {F : Hp} : ∀ {ds : List D} {vs : List V} {bs : List Str}, Dens K F ds vs → strsD ds = some bs → vs = bs.map V.str
  | [], _, _, dn, e => by simp only [Dens] at dn; simp only [strsD] at e; cases e; exact dn
  | d :: ds, _, bs, dn, e => by
    simp only [Dens] at dn
    obtain ⟨v, r, rfl, h1, h2⟩ := dn
    cases d <;> simp only [strsD] at e <;> first | cases e | skip
    rename_i b
    simp only [Den] at h1
    cases q : strsD ds with
    | none => rw [q] at e; cases e
    | some cs =>
      rw [q] at e; cases e
      rw [strs_den h2 q, h1]; rfl
theorem dens_strs {K : Frag} {F : Hp} : ∀ (ys : List Str), Dens K F (ys.map D.str) (ys.map V.str)
  | [] => Dens.nil
  | y :: ys => Dens.cons (by simp only [Den]) (dens_strs ys)
@[simp] theorem strs_map (l : List Str) : strsD (l.map D.str) = some l := by
  induction l with
  | nil => rfl
  | cons a l ih => simp [strsD, ih]
def fSortedS : FB := fun ds m Q => match ds with
  | [d] => ∃ xs ss, seqOf m d = some xs ∧ strsD xs = some ss ∧ ss.length ≤ sizeLine ∧ ∀ ys : List Str, ys.Perm ss → PyProof.Rows.sortedS ys = true → Q (.lst (ys.map D.str)) m
  | _ => False
theorem dsortedS {p pos : Pos} {e : Expr} {we : WA} (hg : Gl X "sorted") (hm : X.mg "sorted" = none) (ha : DA X [e] we) (he : starEach [e] X.env = (false, eval e X.env) :: starEach [] X.env := by rfl) : DE X (.Call (.Name "sorted" p) [e] [] pos) (wCB fSortedS we) := dcb call_sortedSS (fun F m H ds vs Qd Q r dn q k => by
  match ds, q with
  | [d], ⟨xs, ss, e1, e2, hz, q⟩ =>
    obtain ⟨a, rfl, h1⟩ := dens1 dn
    obtain ⟨b, us, rfl, hs, h2⟩ := r.seqOf h1 e1
    rw [strs_den h2 e2] at hs
    refine ⟨b, ss, rfl, hs, hz, fun ys p h3 h4 hp => ?_⟩
    obtain ⟨r', s'⟩ := r.frozen (o := .lst (ys.map V.str)) hp
    refine k _ _ _ m _ s' r' ?_ (q ys h3 h4)
    simp only [Den]
    exact ⟨p, _, rfl, .inl upd_same, dens_strs ys⟩) hg hm PyProof.Rows.boot_sorted ha (he := he)
/-! ### isinstance(x, T), T a built-in class -/
def tyD (m : Mem) : D → Option String
  | .non => some "NoneType"
  | .bl _ => some "bool"
  | .int _ => some "int"
  | .str _ => some "str"
  | .tup _ => some "tuple"
  | .lst _ => some "list"
  | .ref p => match m p with
    | some (.lst _) => some "list"
    | some (.dct _) => some "dict"
    | some (.dcT _) => some "dict"
    | _ => none
  | .ty _ => none
  | .klst _ => none
def fIsi : FB := fun ds m Q => match ds with
  | [d, .ty n] => ∃ t b, tyD m d = some t ∧ kitB t n = some b ∧ Q (.bl b) m
  | _ => False
theorem tyD_ok {K : Frag} {F : Hp} {m : Mem} {H : Hp} (r : Rel K F m H) {d : D} {v : V} {t : String} (dn : Den K F d v) (e : tyD m d = some t) : TyX K H v (.type t) := by
  cases d with
  | non => cases e; simp only [Den] at dn; subst dn; exact .base .non
  | bl b => cases e; simp only [Den] at dn; subst dn; exact .base (.bl b)
  | int b => cases e; simp only [Den] at dn; subst dn; exact .base (.int b)
  | str b => cases e; simp only [Den] at dn; subst dn; exact .base (.str b)
  | ty b => cases e
  | tup ds =>
    cases e
    simp only [Den] at dn
    obtain ⟨a, vs, rfl, hs, _⟩ := dn
    rcases hs with hs | ⟨o, its, n, h1, h2, _⟩
    · rcases r.rd hs with h | ⟨o, h⟩
      · exact .base (.tup h)
      · exact .fTuple h
    · exact .kTuple h1 h2
  | lst ds =>
    cases e
    simp only [Den] at dn
    obtain ⟨a, vs, rfl, hs, _⟩ := dn
    rcases r.rd hs with h | ⟨o, h⟩
    · exact .base (.lst h)
    · exact .base (.frz h)
  | klst ds => simp only [tyD] at e; cases e
  | ref p =>
    simp only [Den] at dn; subst dn
    simp only [tyD] at e
    cases h : m p with
    | none => rw [h] at e; cases e
    | some c =>
      rw [h] at e
      obtain ⟨_, q⟩ := r.me p c h
      cases c <;> simp only [CellOk] at q <;> first | cases e | skip
      · obtain ⟨vs, e1, _⟩ := q; exact .base (.lst e1)
      · obtain ⟨vs, e1, _⟩ := q; exact .base (.dK e1)
      · obtain ⟨vs, e1, _⟩ := q; exact .base (.dT e1)
theorem disi {p pos : Pos} {e e' : Expr} {we : WA} (hg : Gl X "isinstance") (hm : X.mg "isinstance" = none) (ha : DA X [e, e'] we) (he : starEach [e, e'] X.env = (false, eval e X.env) :: starEach [e'] X.env := by rfl) (hpl : (backTo pos (starEach [e'] X.env)).any (·.1) = false := by rfl) :
    DE X (.Call (.Name "isinstance" p) [e, e'] [] pos) (wCB fIsi we) := dcb call_isi (fun F m H ds vs Qd Q r dn q k => by
  match ds, q with
  | [d, .ty n], ⟨t, b, e1, e2, q⟩ =>
    obtain ⟨a, c, rfl, h1, h2⟩ := dens2 dn
    simp only [Den] at h2; subst h2
    exact ⟨a, .ty n, .type t, .type n, b, rfl, .ty n, tyD_ok r h1 e1, kit_ty e2, k _ H F m _ (Sub.refl F) r (by simp only [Den]) q⟩) hg hm PyProof.Rows.boot_isinstance ha (he := he) (hpl := hpl)
/-- a built-in class by its name -/
theorem dty {x : Str} {n : String} {pos : Pos} (hg : Gl X x) (hm : X.mg x = none) (hv : bootBuiltins x = some (.type n)) (hn : x ≠ "__name__" := by decide) (hd : (x == ("__debug__" : Str)) = false := by decide) : DE X (.Name x pos) (wC (.ty n)) :=
  dC (pe_bltn (v := .ty n) hg hm hv rfl hn hd) fun _ => by simp only [Den]

/-! ### methods of lists -/
def wAppend (wo we : WE) : WE := fun env m Q E => wo env m (fun o m1 => match o with
  | .ref p => (∃ xs, m1 p = some (.lst xs)) ∧ we env m1 (fun d m2 => ∃ xs, m2 p = some (.lst xs) ∧ xs.length < sizeLine ∧ Q .non (m2.put p (.lst (xs ++ [d])))) E
  | _ => False) E
theorem dappend {o e : Expr} {apos cpos : Pos} {wo we : WE} (ho : DE X o wo) (he : DE X e we) (hbase : attributeBase o "append" X.env (eval o X.env) = eval o X.env := by rfl)
    (hfew : ((backTo cpos (starEach [e] X.env)).all (fun x => !x.1) && (backToKw cpos (keywordEach [] X.env)).all (fun x => x.1.isSome)
      && decide (([e] : List Expr).length + ([] : List Keyword).length + (if ([] : List Keyword).isEmpty then 0 else 1) < 30)) = true := by rfl)
    (hline : (apos.endLine == cpos.line) = true := by rfl) (hs : starEach [e] X.env = (false, eval e X.env) :: starEach [] X.env := by rfl) : DE X (.Call (.Attribute o "append" apos) [e] [] cpos) (wAppend wo we) :=
  wkE (pe_bm PySem.F.plainAttrs_list PySem.F.slot_list_append PySem.F.type_list_append mt_append ho (dacons he danil hs) hbase hfew hline hs rfl) fun σ H Q ⟨F, m, env, Qd, xc, r, en, a, q, k⟩ =>
    tW.sub r en a q fun v1 H1 F1 m1 d1 s1 r1 en1 dn1 q1 => by
      cases d1 <;> first | exact q1.elim | skip
      rename_i p
      simp only [Den] at dn1; subst dn1
      obtain ⟨⟨xs, e⟩, q1⟩ := q1
      obtain ⟨_, cq⟩ := r1.me p _ e
      simp only [CellOk] at cq
      obtain ⟨vs, hv, _⟩ := cq
      refine ⟨.inl ⟨rfl, vs, SqL.of hv⟩, ?_⟩
      refine tWA.sub (w := wCons _ wNil) (Qd := fun ds m2 => ∃ d, ds = [d] ∧ ∃ xs, m2 p = some (.lst xs) ∧ xs.length < sizeLine ∧ Qd .non (m2.put p (.lst (xs ++ [d])))) (xc := xc) r1 en1 (a.mono s1) ?_ fun us H2 F2 m2 ds s2 r2 en2 dn2 ⟨d, hd, xs2, e2, hz, q2⟩ => ?_
      · refine Eq.mp (congrArg (fun z => we env m1 z _) ?_) q1
        funext d m2
        simp [wCons, wNil]
      · subst hd
        obtain ⟨u, rfl, du⟩ := dens1 dn2
        obtain ⟨_, cq⟩ := r2.me p _ e2
        simp only [CellOk] at cq
        obtain ⟨ws, hw, dw⟩ := cq
        refine ⟨p, ws, u, rfl, rfl, hw, by rw [← dw.length]; exact hz, k _ _ F2 _ .non (s1.trans s2) (r2.store e2 ?_) (by simp only [Den]) q2⟩
        simp only [CellOk]
        exact ⟨_, upd_same, dw.append (Dens.one du)⟩
def wPop (wo : WE) : WE := fun env m Q E => wo env m (fun o m1 => match o with
  | .ref p => ∃ xs y, m1 p = some (.lst xs) ∧ xs[xs.length - 1]? = some y ∧ Q y (m1.put p (.lst xs.dropLast))
  | _ => False) E
theorem dpop {o : Expr} {apos cpos : Pos} {wo : WE} (ho : DE X o wo) (hbase : attributeBase o "pop" X.env (eval o X.env) = eval o X.env := by rfl) (hline : (apos.endLine == cpos.line) = true := by rfl) : DE X (.Call (.Attribute o "pop" apos) [] [] cpos) (wPop wo) :=
  wkE (pe_bm0 PySem.F.plainAttrs_list PySem.F.slot_list_pop PySem.F.type_list_pop mt_pop ho hbase hline) fun σ H Q ⟨F, m, env, Qd, xc, r, en, a, q, k⟩ =>
    tW.sub r en a q fun v1 H1 F1 m1 d1 s1 r1 en1 dn1 q1 => by
      cases d1 <;> first | exact q1.elim | skip
      rename_i p
      simp only [Den] at dn1; subst dn1
      obtain ⟨xs, y, e, ey, q1⟩ := q1
      obtain ⟨_, cq⟩ := r1.me p _ e
      simp only [CellOk] at cq
      obtain ⟨vs, hv, dv⟩ := cq
      obtain ⟨v, ev, dy⟩ := dv.get ey
      refine ⟨.inl ⟨rfl, vs, SqL.of hv⟩, p, vs, v, rfl, rfl, hv, by rw [← dv.length]; exact ev, k _ _ F1 _ y s1 (r1.store e ?_) dy q1⟩
      simp only [CellOk]
      refine ⟨_, upd_same, ?_⟩
      rw [List.dropLast_eq_take, List.dropLast_eq_take, ← dv.length]
      exact dv.take _
def wPopAt (wo wi : WE) : WE := fun env m Q E => wo env m (fun o m1 => match o with
  | .ref p => (∃ xs, m1 p = some (.lst xs)) ∧ wi env m1 (fun d m2 => match d with
    | .int i => ∃ xs k y, m2 p = some (.lst xs) ∧ -(2 ^ 63) ≤ i ∧ i < 2 ^ 63 ∧ seqIndex? i xs.length = some k ∧ xs[k]? = some y ∧ Q y (m2.put p (.lst (xs.eraseIdx k)))
    | _ => False) E
  | _ => False) E
theorem Dens.eraseIdx {K : Frag} {F : Hp} : ∀ {ds : List D} {vs : List V} (n : Nat), Dens K F ds vs → Dens K F (ds.eraseIdx n) (vs.eraseIdx n)
  | [], _, n, h => by simp only [Dens] at h; subst h; exact Dens.nil
  | e :: ds, _, 0, h => by
    simp only [Dens] at h
    obtain ⟨w, r, rfl, q, z⟩ := h
    exact z
  | e :: ds, _, n + 1, h => by
    simp only [Dens] at h
    obtain ⟨w, r, rfl, q, z⟩ := h
    exact Dens.cons q (Dens.eraseIdx n z)
theorem dpopat {o e : Expr} {apos cpos : Pos} {wo we : WE} (ho : DE X o wo) (he : DE X e we) (hbase : attributeBase o "pop" X.env (eval o X.env) = eval o X.env := by rfl)
    (hfew : ((backTo cpos (starEach [e] X.env)).all (fun x => !x.1) && (backToKw cpos (keywordEach [] X.env)).all (fun x => x.1.isSome)
      && decide (([e] : List Expr).length + ([] : List Keyword).length + (if ([] : List Keyword).isEmpty then 0 else 1) < 30)) = true := by rfl)
    (hline : (apos.endLine == cpos.line) = true := by rfl) (hs : starEach [e] X.env = (false, eval e X.env) :: starEach [] X.env := by rfl) : DE X (.Call (.Attribute o "pop" apos) [e] [] cpos) (wPopAt wo we) :=
  wkE (pe_bm PySem.F.plainAttrs_list PySem.F.slot_list_pop PySem.F.type_list_pop mt_popAt ho (dacons he danil hs) hbase hfew hline hs rfl) fun σ H Q ⟨F, m, env, Qd, xc, r, en, a, q, k⟩ =>
    tW.sub r en a q fun v1 H1 F1 m1 d1 s1 r1 en1 dn1 q1 => by
      cases d1 <;> first | exact q1.elim | skip
      rename_i p
      simp only [Den] at dn1; subst dn1
      obtain ⟨⟨xs, e⟩, q1⟩ := q1
      obtain ⟨_, cq⟩ := r1.me p _ e
      simp only [CellOk] at cq
      obtain ⟨vs, hv, _⟩ := cq
      refine ⟨.inl ⟨rfl, vs, SqL.of hv⟩, ?_⟩
      refine tWA.sub (w := wCons _ wNil) (Qd := fun ds m2 => ∃ d, ds = [d] ∧ (match d with
        | .int i => ∃ xs k y, m2 p = some (.lst xs) ∧ -(2 ^ 63) ≤ i ∧ i < 2 ^ 63 ∧ seqIndex? i xs.length = some k ∧ xs[k]? = some y ∧ Qd y (m2.put p (.lst (xs.eraseIdx k)))
        | _ => False)) (xc := xc) r1 en1 (a.mono s1) ?_ fun us H2 F2 m2 ds s2 r2 en2 dn2 ⟨d, hd, q2⟩ => ?_
      · refine Eq.mp (congrArg (fun z => we env m1 z _) ?_) q1
        funext d m2
        simp [wCons, wNil]
      · subst hd
        obtain ⟨u, rfl, du⟩ := dens1 dn2
        cases d <;> first | exact q2.elim | skip
        obtain ⟨xs2, j, y, e2, b1, b2, ej, ey, q2⟩ := q2
        simp only [Den] at du; subst du
        obtain ⟨_, cq⟩ := r2.me p _ e2
        simp only [CellOk] at cq
        obtain ⟨ws, hw, dw⟩ := cq
        obtain ⟨v, ev, dy⟩ := dw.get ey
        refine ⟨p, ws, _, j, v, rfl, rfl, hw, b1, b2, by rw [← dw.length]; exact ej, ev, k _ _ F2 _ y (s1.trans s2) (r2.store e2 ?_) dy q2⟩
        simp only [CellOk]
        exact ⟨_, upd_same, dw.eraseIdx j⟩
end

end DL

/-! D7: the text's own defs: promises over data, calls of every form. -/
namespace DL
open PySem PySem.Spec L2

/-! ### arguments in general -/
def lone : List (Bool × Sem Value) → Bool
  | [(true, _)] => true
  | _ => false
section
variable {M : Model} {A : Around} {E : Value → Shared → Prop} {s : Shared}
theorem evalArgs_g {f : Value} {args : List (Bool × Sem Value)} {keywords : List (Option Str × Sem Value)} {Q : Args → Shared → Prop} (hl : lone args = false) (hall : keywords.all (·.1.isSome) = true)
    (h : wpAny M A (spliced args) (fun vs s₁ => wpAny M A (evalAll (keywords.map (·.2))) (fun ks s₂ => Q ⟨vs, (keywords.filterMap (·.1)).zip ks⟩ s₂) E s₁) E s) : wpAny M A (evalArgs f true args keywords) Q E s := by
  unfold evalArgs
  match args, hl, h with
  | [], _, h =>
    show wpAny M A (spliced [] >>= _) Q E s
    refine wpAny_bind (wpAny_mono h (fun vs s₁ h₁ => ?_) fun _ _ x => x)
    refine wpAny_bind (wpAny_pure ?_)
    refine wpAny_holding ?_
    simp only [hall, if_true]
    refine wpAny_bind (wpAny_mono h₁ (fun ks s₂ h₂ => ?_) fun _ _ x => x)
    first | exact wpAny_bind (wpAny_pure (wpAny_pure h₂)) | (simp only [List.append_nil]; exact wpAny_bind (wpAny_pure (wpAny_pure h₂)))
  | (false, x) :: rest, _, h =>
    show wpAny M A (spliced ((false, x) :: rest) >>= _) Q E s
    refine wpAny_bind (wpAny_mono h (fun vs s₁ h₁ => ?_) fun _ _ x => x)
    refine wpAny_holding ?_
    simp only [hall, if_true]
    refine wpAny_bind (wpAny_mono h₁ (fun ks s₂ h₂ => ?_) fun _ _ x => x)
    exact wpAny_bind (wpAny_pure (wpAny_pure h₂))
  | (true, x) :: b :: rest, _, h =>
    show wpAny M A (spliced ((true, x) :: b :: rest) >>= _) Q E s
    refine wpAny_bind (wpAny_mono h (fun vs s₁ h₁ => ?_) fun _ _ x => x)
    refine wpAny_holding ?_
    simp only [hall, if_true]
    refine wpAny_bind (wpAny_mono h₁ (fun ks s₂ h₂ => ?_) fun _ _ x => x)
    exact wpAny_bind (wpAny_pure (wpAny_pure h₂))
theorem callWith_G {K : Frag} {f : Value} {pos : Pos} {args : List (Bool × Sem Value)} {keywords : List (Option Str × Sem Value)} {Q : Value → Shared → Prop} (hk : PySem.W.keepIn K f = true) (hl : lone args = false) (hall : keywords.all (·.1.isSome) = true)
    (h : wpAny M A (spliced args) (fun vs s₁ => wpAny M A (evalAll (keywords.map (·.2))) (fun ks s₂ => K.In s₂.heap ∧ wpAny M A (call f vs ((keywords.filterMap (·.1)).zip ks)) Q E s₂) E s₁) E s) : wpAny M A (callWith pos f [] args keywords) Q E s := by
  have h' := evalArgs_g (f := f) (Q := fun a s₁ => K.In s₁.heap ∧ wpAny M A (call f ([] ++ a.pos) a.kw) Q E s₁) hl hall h
  cases hst : (args.any (·.1) || keywords.any (·.1.isNone)) with
  | false => exact PySem.W.callWith_of hst (PySem.W.keeps_K hk) h'
  | true =>
    unfold callWith
    refine wpAny_bind (wpAny_holding (wpAny_mono h' (fun a s₁ h₁ => wpAny_bind (wpAny_standAt ?_)) fun _ _ x => x))
    obtain ⟨k, hk', L⟩ := PySem.W.keeps_K (M := M) hk _ h₁.1
    simp only [hst]
    refine wpAny_bind (L.here ?_)
    have tail : ∀ {t : Sem Value}, wpAny M A t Q E s₁ → wpAny M A (t >>= fun r => holding [r] point >>= fun _ => pure r) Q E s₁ :=
      fun ht => wpAny_bind (wpAny_mono ht (fun r s₂ hr => wpAny_bind (wpAny_holding (wpAny_point (wpAny_pure hr)))) fun _ _ x => x)
    have marked (mk : Value) : wpAny M A (callMarked mk f ([] ++ a.pos) a.kw) Q E s₁ := by unfold callMarked; exact Calls.wpAny_keep h₁.2
    rcases hk' with rfl | rfl | rfl <;> dsimp only <;> first | exact tail (marked _) | exact tail (wpAny_operating h₁.2)
end

/-! ### promises -/
abbrev SpD := List D → Mem → Po → Xo → Prop
def liftSp (K : Frag) (sp : SpD) : Sp := fun vs H Q E => ∃ (F : Hp) (m : Mem) (ds : List D) (QD : Po) (ED : Xo), Rel K F m H ∧ Dens K F ds vs ∧ sp ds m QD ED ∧ (∀ v H' F' m' d, Sub F F' → Rel K F' m' H' → Den K F' d v → QD d m' → Q v H') ∧
  (∀ cls dd H' F' m' x, Sub F F' → Rel K F' m' H' → ExcAt K F' cls dd H' x → ED x m' → E cls dd H')
/-- a global's def, called with keywords ks (values behind the positional ones) -/
structure Fn (P : Program) (w : World) (K : Frag) (mg : Str → Option Value) (base : Heap) (k : Nat) (x : Str) (ks : List Str) (sp : SpD) : Prop where
  ex : ∃ f : Addr, mg x = some (.ref f) ∧ PySem.W.keepIn K (.ref f) = true ∧
    ∀ (A : Around) (outer : List Env) (s : Shared) (H : Hp) (us ws : List Value) (vs : List V) (Q : VK) (E : XK), Room k A → Env0 P w K mg base A outer s H → ws.length = ks.length → Vals vs (us ++ ws) → liftSp K sp vs H Q E →
      codeAny (model P w) A (.call (.ref f) ⟨us, ks.zip ws⟩) (CR (CX P w) outer P w H s Q E) s
theorem Fn.mono {P : Program} {w : World} {K : Frag} {mg : Str → Option Value} {base : Heap} {j k : Nat} {x : Str} {ks : List Str} {sp : SpD} (F : Fn P w K mg base j x ks sp) (h : j ≤ k) : Fn P w K mg base k x ks sp :=
  let ⟨f, a, b, c⟩ := F.ex
  ⟨f, a, b, fun A outer s H us ws vs Q E hr => c A outer s H us ws vs Q E (hr.mono h)⟩
theorem Fn.imp {P : Program} {w : World} {K : Frag} {mg : Str → Option Value} {base : Heap} {k : Nat} {x : Str} {ks : List Str} {sp sp' : SpD} (F : Fn P w K mg base k x ks sp) (h : ∀ ds m Q E, sp' ds m Q E → sp ds m Q E) : Fn P w K mg base k x ks sp' :=
  let ⟨f, a, b, c⟩ := F.ex
  ⟨f, a, b, fun A outer s H us ws vs Q E hr e0 hl r ⟨F, m, ds, QD, ED, rr, dn, q, k1, k2⟩ => c A outer s H us ws vs Q E hr e0 hl r ⟨F, m, ds, QD, ED, rr, dn, h _ _ _ _ q, k1, k2⟩⟩
def Emax (X : Cx) : St → XK := fun σ cls d H' => ∃ W, Takes X W ∧ W cls d σ H'
theorem passes_max {X : Cx} (σ : St) : PassesAt (CX X.prog X.w) X σ (Emax X σ) := fun pins H s e s' I c => takes_max e s' (XE.of_call (W := Wx X) I (fun _ _ _ h => h) c)
theorem lift_call {X : Cx} {sp : SpD} {F : Hp} {m : Mem} {env : En} {σ : St} {H : Hp} {Qd : Po} {xc : Xc} {Q : VK} {vs : List V} {ds : List D} (r : Rel X.K F m H) (en : EnvDen X.K F σ env) (a : Acc X F xc) (dn : Dens X.K F ds vs) (h : sp ds m Qd (fun x m' => xc x env m'))
    (k : ∀ v H' F' m' d, Sub F F' → Rel X.K F' m' H' → Den X.K F' d v → Qd d m' → Q v H') : liftSp X.K sp vs H Q (Emax X σ) :=
  let ⟨F0, s0, t⟩ := a
  ⟨F, m, ds, Qd, _, r, dn, h, k, fun cls dd H' F' m' x s r' xa hx => ⟨_, t, F', m', env, x, s0.trans s, r', en.mono s, xa, hx⟩⟩

/-! ### keywords, starred -/
abbrev DK (X : Cx) (kws : List Keyword) (w : WA) : Prop := PK X kws (tWA X w)
section
variable {X : Cx}
theorem wkK {kws : List Keyword} {t t' : TA} (h : PK X kws t) (i : ∀ σ H Q, t' σ H Q → t σ H Q) : PK X kws t' := ⟨fun pos p s σ H Q I z => h.run pos p s σ H Q I (i _ _ _ z)⟩
theorem dknil : DK X [] wNil := wkK pk_nil fun σ H Q ⟨F, m, env, Qd, xc, r, en, a, q, k⟩ => k [] H F m [] (Sub.refl F) r Dens.nil q
theorem dkcons {nm : Option Str} {e : Expr} {kpos : Pos} {kws : List Keyword} {we : WE} {wr : WA} (he : DE X e we) (hr : DK X kws wr) : DK X (⟨nm, e, kpos⟩ :: kws) (wCons we wr) := wkK (pk_cons he hr) fun σ H Q ⟨F, m, env, Qd, xc, r, en, a, q, k⟩ =>
  tW.sub r en a q fun v1 H1 F1 m1 d1 s1 r1 en1 dn1 q1 => tWA.sub r1 en1 (a.mono s1) q1 fun vs H2 F2 m2 ds s2 r2 en2 dn2 q2 => k _ H2 F2 m2 _ (s1.trans s2) r2 (Dens.cons (dn1.mono s2) dn2) q2
/-- *e in an argument list -/
def wStar (we : WE) (wr : WA) : WA := fun env m Q E => we env m (fun d m1 => ∃ xs, seqOf m1 d = some xs ∧ wr env m1 (fun ds m2 => Q (xs ++ ds) m2) E) E
theorem dastar {e : Expr} {p : Pos} {es : List Expr} {we : WE} {wr : WA} (he : DE X e we) (hr : DA X es wr) (hs : starEach (.Starred e p :: es) X.env = (true, eval e X.env) :: starEach es X.env := by rfl) : DA X (.Starred e p :: es) (wStar we wr) :=
  wkA (StX.pa_star he hr hs) fun σ H Q ⟨F, m, env, Qd, xc, r, en, a, q, k⟩ => tW.sub r en a q fun v1 H1 F1 m1 d1 s1 r1 en1 dn1 ⟨xs, e1, q1⟩ => by
    obtain ⟨p, us, rfl, hs, dx⟩ := r1.seqOf dn1 e1
    exact ⟨p, us, rfl, hs.symm, tWA.sub r1 en1 (a.mono s1) q1 fun vs H2 F2 m2 ds s2 r2 en2 dn2 q2 => k _ H2 F2 m2 _ (s1.trans s2) r2 ((dx.mono s2).append dn2) q2⟩
/-- the call of a global's def -/
def wCall (sp : SpD) (n : Nat) (wa wk : WA) : WE := fun env m Q E => wa env m (fun ds m1 => wk env m1 (fun es m2 => es.length = n ∧ sp (ds ++ es) m2 Q E) E) E
theorem dcall {k n : Nat} {x : Str} {ks : List Str} {sp : SpD} {p pos : Pos} {es : List Expr} {kws : List Keyword} {wa wk : WA} (F : Fn X.prog X.w X.K X.mg X.base k x ks sp) (hr : Room k X.A) (hg : Gl X x) (ha : DA X es wa) (hk : DK X kws wk)
    (hdb : (x == ("__debug__" : Str)) = false := by decide) (hl : lone (backTo pos (starEach es X.env)) = false := by rfl) (hall : (backToKw pos (keywordEach kws X.env)).all (·.1.isSome) = true := by rfl)
    (hks : (backToKw pos (keywordEach kws X.env)).filterMap (·.1) = ks := by rfl) (hn : ks.length = n := by rfl) : DE X (.Call (.Name x p) es kws pos) (wCall sp n wa wk) := by
  subst hn
  obtain ⟨f, hm, hkp, run⟩ := F.ex
  refine ⟨fun pins s σ H Q I ⟨F, m, env, Qd, xc, r, en, a, q, k⟩ => ?_⟩
  refine wpAny_Call_Name_kw (ld_glob I hg hm ?_ hdb)
  refine callWith_G hkp hl hall ?_
  let R1 : List V → Hp → Prop := fun vs H1 => ∃ F1 m1 ds, Sub F F1 ∧ Rel X.K F1 m1 H1 ∧ EnvDen X.K F1 σ env ∧ Dens X.K F1 ds vs ∧ wk env m1 (fun es m2 => es.length = ks.length ∧ sp (ds ++ es) m2 Qd (fun x m' => xc x env m')) (fun x m' => xc x env m')
  have hA : tWA X wa σ H R1 := tWA.sub r en a q fun vs H1 F1 m1 ds s1 r1 en1 dn1 q1 => ⟨F1, m1, ds, s1, r1, en1, dn1, q1⟩
  refine thn (ha.run pos pins s σ H R1 I hA) fun us s1 ⟨vs, H1, I1, rv, F1, m1, ds, u1, r1, en1, dn1, q1⟩ => ?_
  let R2 : List V → Hp → Prop := fun zs H2 => ∃ F2 m2 es, Sub F1 F2 ∧ Rel X.K F2 m2 H2 ∧ EnvDen X.K F2 σ env ∧ Dens X.K F2 es zs ∧ es.length = ks.length ∧ sp (ds ++ es) m2 Qd (fun x m' => xc x env m')
  have hK : tWA X wk σ H1 R2 := tWA.sub r1 en1 (a.mono u1) q1 fun zs H2 F2 m2 es s2 r2 en2 dn2 q2 => ⟨F2, m2, es, s2, r2, en2, dn2, q2.1, q2.2⟩
  refine thn (hk.run pos pins s1 σ H1 R2 I1 hK) fun ws s2 ⟨zs, H2, I2, rz, F2, m2, es', u2, r2, en2, dn2, hlen, q2⟩ => ?_
  refine ⟨I2.kIn, ?_⟩
  rw [hks]
  have sp' := lift_call r2 en2 (a.mono (u1.trans u2)) ((dn1.mono u2).append dn2) q2 (Q := Q) (fun v H' F' m' d s => k v H' F' m' d ((u1.trans u2).trans s))
  refine wpAny_call (codeAny_mono (run X.A X.stack s2 H2 us ws _ Q _ hr I2.env0 (by rw [← rz.length, ← dn2.length]; exact hlen) (rv.append rz) sp') fun rr s' hq => ?_)
  cases rr with
  | error e => exact passes_max σ pins H2 s2 e s' I2 hq
  | ok fl =>
    cases fl with
    | ret u => exact I2.after hq
    | next => exact False.elim hq
    | brk => exact False.elim hq
    | cont => exact False.elim hq
end

/-! ### THE RULE for a def -/
def startD (N : List Str) (ds : List D) : En := ds.map some ++ List.replicate (N.length - ds.length) none
theorem start_den {K : Frag} {F : Hp} {N : List Str} {ds : List D} {vs : List V} (dn : Dens K F ds vs) : EnvDen K F (L2.start N vs) (startD N ds) := by
  have hl := dn.length
  refine ⟨by simp [L2.start, startD, hl], fun i d e => ?_⟩
  unfold startD at e
  by_cases hi : i < ds.length
  · rw [List.getElem?_append_left (by simpa using hi), List.getElem?_map] at e
    cases q : ds[i]? with
    | none => rw [q] at e; cases e
    | some x =>
      rw [q] at e; cases e
      obtain ⟨v, ev, dv⟩ := dn.get q
      refine ⟨v, ?_, dv⟩
      unfold L2.start
      rw [List.getElem?_append_left (by rw [List.length_map, ← hl]; exact hi), List.getElem?_map, ev]
      rfl
  · rw [List.getElem?_append_right (by simpa using hi), List.getElem?_replicate] at e
    split at e <;> cases e
/-- what a def's body is to reach: cells that were made within may be forgotten -/
def Dend (Q : Po) (E : Xo) : De := { nx := fun _ m' => ∃ m0, m0.le m' ∧ Q .non m0, rt := fun d m' => ∃ m0, m0.le m' ∧ Q d m0, xc := fun x _ m' => ∃ m0, m0.le m' ∧ E x m0 }
/-- the derivation of a body, whatever surrounds it -/
def Der (P : Program) (w : World) (K : Frag) (mg : Str → Option Value) (base : Heap) (k : Nat) (N : List Str) (scope : Scope) (body : List Stmt) (wb : WS) : Prop :=
  ∀ (qual : Str) (f : Addr) (cdv : Value) (A : Around) (outer : List Env) (s : Shared) (H : Hp) (E : XK), Room k (A.deeper (PyProof.Rows.envOfC qual scope s.heap.objs.size f cdv)) →
    DSs (cxOf (CX P w) P w K mg base N qual scope f cdv A outer s H E) body wb
section
variable {P : Program} {w : World} {K : Frag} {mg : Str → Option Value} {base : Heap} {k : Nat} {x qual : Str} {params : Arguments} {body : List Stmt} {scope : Scope} {dvs : List V} {kws : List (Str × V)} {f : Addr} {fd : FuncData} {N ps : List Str} {sp : SpD} {wb : WS}
theorem body_rule (der : Der P w K mg base k N scope body wb) (spec : ∀ ds m Q E, sp ds m Q E → wb (Dend Q E) (startD N ds) m) {cdv : Value} {A : Around} {outer : List Env} {s : Shared} {H : Hp} {vs : List V} {Q : VK} {E : XK}
    (hr : Room k (A.deeper (PyProof.Rows.envOfC qual scope s.heap.objs.size f cdv))) (h : liftSp K sp vs H Q E) :
    ∃ t, PSs (cxOf (CX P w) P w K mg base N qual scope f cdv A outer s H E) body t ∧ t { nx := fun _ H' => Q .non H', rt := Q } (L2.start N vs) H := by
  obtain ⟨F, m, ds, QD, ED, r, dn, h, kq, ke⟩ := h
  refine ⟨_, der qual f cdv A outer s H E hr, F, m, startD N ds, Dend QD ED, r, start_den dn, ?_, spec _ _ _ _ h, ?_, ?_, ?_, ?_⟩
  · exact ⟨F, Sub.refl F, Takes.imp (takes_of rfl rfl rfl rfl) fun cls dd σ' H' ⟨F', m', env', y, s', r', en', xa, m0, hle, hE⟩ => ke cls dd H' F' m0 y s' (r'.le hle) xa hE⟩
  · exact fun σ' H' F' m' env' s r' en' ⟨m0, hle, q⟩ => kq _ H' F' m0 .non s (r'.le hle) (by simp only [Den]) q
  · exact fun σ' H' F' m' env' s r' en' q => q.elim
  · exact fun σ' H' F' m' env' s r' en' q => q.elim
  · exact fun v H' F' m' d s r' dn' ⟨m0, hle, q⟩ => kq v H' F' m0 d s (r'.le hle) dn' q
theorem fn_rule (F : FunD K x qual params body scope dvs kws f fd) (S : FnScope N ps scope) (hl : ∀ ds m Q E, sp ds m Q E → ds.length = ps.length) (der : Der P w K mg base k N scope body wb)
    (spec : ∀ ds m Q E, sp ds m Q E → wb (Dend Q E) (startD N ds) m) : FnOk P w K mg base (CX P w) (k + 1) f fd ps (liftSp K sp) :=
  F.ok S (fun vs H Q E ⟨F, m, ds, QD, ED, r, dn, h, _⟩ => by rw [← dn.length]; exact hl _ _ _ _ h) fun cdv A outer s H vs Q E hr h => body_rule der spec hr h
/-- a choice by place -/
def sel {α : Type} (perm : List Nat) (l : List α) : List α := perm.filterMap (l[·]?)
theorem vals_get : ∀ {vs : List V} {us : List Value}, Vals vs us → ∀ i : Nat, (vs[i]? = none ∧ us[i]? = none) ∨ ∃ v u, vs[i]? = some v ∧ us[i]? = some u ∧ RelV v u
  | _, _, .nil, i => .inl ⟨by simp, by simp⟩
  | v :: vs, u :: us, .cons h t, 0 => .inr ⟨v, u, rfl, rfl, h⟩
  | v :: vs, u :: us, .cons h t, i + 1 => by
    rcases vals_get t i with ⟨a, b⟩ | ⟨v', u', a, b, c⟩
    · exact .inl ⟨by simpa using a, by simpa using b⟩
    · exact .inr ⟨v', u', by simpa using a, by simpa using b, c⟩
theorem sel_vals {vs : List V} {us : List Value} (r : Vals vs us) : ∀ perm : List Nat, Vals (sel perm vs) (sel perm us)
  | [] => .nil
  | i :: p => by
    have ih := sel_vals r p
    unfold sel at ih ⊢
    rw [List.filterMap_cons, List.filterMap_cons]
    rcases vals_get r i with ⟨a, b⟩ | ⟨v', u', a, b, c⟩
    · rw [a, b]; exact ih
    · rw [a, b]; exact .cons c ih
theorem sel_dens {K : Frag} {F : Hp} {ds : List D} {vs : List V} (r : Dens K F ds vs) : ∀ perm : List Nat, Dens K F (sel perm ds) (sel perm vs)
  | [] => Dens.nil
  | i :: p => by
    have ih := sel_dens r p
    unfold sel at ih ⊢
    rw [List.filterMap_cons, List.filterMap_cons]
    cases h1 : ds[i]? with
    | some d =>
      obtain ⟨v, e, dv⟩ := r.get h1
      rw [e]
      exact Dens.cons dv ih
    | none =>
      have e : vs[i]? = none := by rw [List.getElem?_eq_none_iff] at h1 ⊢; rw [← r.length]; exact h1
      rw [e]
      exact ih
/-- a def without *v as a promise of calls with n positional values and keywords ks; dds: values of the defaults -/
theorem Fn.of_ok (ok : FnOk P w K mg base (CX P w) k f fd ps (liftSp K sp)) (hm : mg x = some (.ref f)) (hk : PySem.W.keepIn K (.ref f) = true) (n : Nat) (ks : List Str) (perm : List Nat) (dds : List D) {ds0 : List Value} {dvs0 : List V} (hv : Vals dvs0 ds0) (hd : ∀ F, Dens K F dds dvs0)
    (hb : ∀ (s : Shared) (us ws : List Value), K.In s.heap → us.length = n → ws.length = ks.length → BindsTo s fd ⟨us, ks.zip ws⟩ (ps.zip (sel perm (us ++ ws ++ ds0)))) :
    Fn P w K mg base k x ks (fun ds m Q E => ds.length = n + ks.length ∧ sp (sel perm (ds ++ dds)) m Q E) :=
  ⟨f, hm, hk, fun A outer s H us ws vs Q E hr e0 hl rv ⟨F, m, ds, QD, ED, r, dn, ⟨hn, h⟩, kq, ke⟩ => by
    have l1 := rv.length
    have l2 := dn.length
    rw [List.length_append] at l1
    exact ok.run A outer s H ⟨us, ks.zip ws⟩ _ (sel perm (vs ++ dvs0)) Q E hr e0 (hb s us ws (e0.mod.kin.keeps fun b o e => (e0.bs b o e).1) (by omega) hl) (sel_vals (rv.append hv) perm) ⟨F, m, _, QD, ED, r, sel_dens (dn.append (hd F)) perm, h, kq, ke⟩⟩
/-- the same, no defaults fill up -/
theorem Fn.of_ok0 (ok : FnOk P w K mg base (CX P w) k f fd ps (liftSp K sp)) (hm : mg x = some (.ref f)) (hk : PySem.W.keepIn K (.ref f) = true) (n : Nat) (ks : List Str) (perm : List Nat)
    (hb : ∀ (s : Shared) (us ws : List Value), K.In s.heap → us.length = n → ws.length = ks.length → BindsTo s fd ⟨us, ks.zip ws⟩ (ps.zip (sel perm (us ++ ws)))) :
    Fn P w K mg base k x ks (fun ds m Q E => ds.length = n + ks.length ∧ sp (sel perm ds) m Q E) :=
  (Fn.of_ok ok hm hk n ks perm [] (ds0 := []) .nil (fun _ => Dens.nil) fun s us ws a b c => by rw [List.append_nil]; exact hb s us ws a b c).imp fun ds m Q E ⟨a, b⟩ => ⟨a, by rw [List.append_nil]; exact b⟩

/-! ### *v -/
def KwCh {α : Type} (D : Addr) : List (Str × Value) → Sem α → Sem α → Prop
  | [], t, r => t = r
  | q :: l, t, r => ∃ (β γ : Type) (k1 : Option Value → Sem β) (k2 : β → Sem γ) (k3 : γ → Sem α) (a : β), t = ((nsGet D q.1 >>= k1) >>= k2) >>= k3 ∧ k1 (some q.2) = pure a ∧ KwCh D l (k2 a >>= k3) r
theorem KwCh.wp {α : Type} {M : Model} {A : Around} {s : Shared} {Q : α → Shared → Prop} {E : Value → Shared → Prop} {D : Addr} (X : K.In s.heap) : ∀ {l : List (Str × Value)} {t r : Sem α}, (∀ q ∈ l, PySem.W.nsIn K D q.1 = some (some q.2)) → KwCh D l t r → wpAny M A r Q E s → wpAny M A t Q E s
  | [], t, r, _, e, h => by have e : t = r := e; rw [e]; exact h
  | q :: l, t, r, hl, ⟨β, γ, k1, k2, k3, a, e1, e2, e3⟩, h => by
    rw [e1, bind_assoc]
    refine wpAny_bind (wpAny_bind (PySem.W.Looks.here (PySem.W.looks_nsIn X (hl q (List.mem_cons_self ..))) ?_))
    rw [e2]
    refine wpAny_pure ?_
    exact KwCh.wp X (fun p hp => hl p (List.mem_cons_of_mem _ hp)) e3 h
/-- a def with *v: n positional parameters ahead, keywords ks -/
theorem fn_starD {pv : Str} (FD : FunD K x qual params body scope dvs kws f fd) (S : FnScope N (ps ++ [pv]) scope) (der : Der P w K mg base k N scope body wb)
    (spec : ∀ ds m Q E, sp ds m Q E → wb (Dend Q E) (startD N ds) m) (hm : mg x = some (.ref f)) (n : Nat) (ks : List Str) (perm : List Nat) (dds : List D) {ds0 : List Value} {dvs0 : List V} (hv : Vals dvs0 ds0) (hd : ∀ F, Dens K F dds dvs0) (hp : ∀ l : List Value, l.length = n + ks.length + ds0.length → (sel perm l).length = ps.length)
    (hb : ∀ (s : Shared) (us rest ws : List Value), K.In s.heap → us.length = n → ws.length = ks.length → ∀ (M : Model) (A : Around) (E : Value → Shared → Prop) (Q : List (Str × Value) → Shared → Prop),
      wpAny M A (newTuple rest >>= fun t => pure (ps.zip (sel perm (us ++ ws ++ ds0)) ++ [(pv, t)])) Q E s → wpAny M A (bindArgs fd ⟨us ++ rest, ks.zip ws⟩) Q E s) :
    Fn P w K mg base (k + 1) x ks (fun ds m Q E => ∃ as rest zs, ds = as ++ rest ++ zs ∧ as.length = n ∧ zs.length = ks.length ∧ rest.length ≤ sizeLine ∧ sp (sel perm (as ++ zs ++ dds) ++ [.tup rest]) m Q E) := by
  refine ⟨f, hm, FD.kp, fun A outer s H us ws vs Q E hr e0 hl rv ⟨F, m, ds, QD, ED, r, dn, ⟨as, rest, zs, eds, hn, hz, hsz, h⟩, kq, ke⟩ => ?_⟩
  obtain ⟨oc, od, dV, kV, doc, pm, an, cdv, ct, osl, rfl, lk, hcd, _, _⟩ := FD.ex
  subst eds
  -- the values, cut
  have lv : vs.length = us.length + ws.length := by rw [rv.length, List.length_append]
  have ld : vs.length = n + rest.length + zs.length := by rw [← dn.length, List.length_append, List.length_append, hn]
  have lu : us.length = n + rest.length := by omega
  have cutV : ∃ va vr vz, vs = va ++ vr ++ vz ∧ Dens K F as va ∧ Dens K F rest vr ∧ Dens K F zs vz := by
    have d1 := dn.take (as ++ rest).length
    have d2 := dn.drop (as ++ rest).length
    rw [List.take_left] at d1
    rw [List.drop_left] at d2
    have d3 := d1.take as.length
    have d4 := d1.drop as.length
    rw [List.take_left] at d3
    rw [List.drop_left] at d4
    exact ⟨_, _, _, by rw [List.take_append_drop, List.take_append_drop], d3, d4, d2⟩
  obtain ⟨va, vr, vz, rfl, da, dr, dz⟩ := cutV
  have la := da.length
  have lr := dr.length
  have lz := dz.length
  obtain ⟨u12, u3, eu, r12, r3⟩ := StX.vals_split rv
  obtain ⟨u1, u2, eu', r1, r2⟩ := StX.vals_split r12
  have eq1 : us = u12 ∧ ws = u3 := by
    refine List.append_inj eu ?_
    rw [← r12.length, List.length_append]; omega
  obtain ⟨rfl, rfl⟩ := eq1
  subst eu'
  have hfree : H s.heap.objs.size = Option.none := e0.hok.fresh (Nat.le_refl _)
  have hl1 : u1.length = n := by rw [← r1.length]; omega
  have hl2 : u2.length ≤ sizeLine := by rw [← r2.length]; omega
  have hz2 : vr.length ≤ sizeLine := by omega
  refine StX.run_bnd lk hcd S hr e0 (G := fun xs H2 => ∃ p, H p = Option.none ∧ xs = sel perm (va ++ vz ++ dvs0) ++ [V.ref p] ∧ H2 = upd H p (.tup vr)) (fun A' Ex Q' hh => ?_) fun s2 H2 xs ⟨p, hp, ex, eH⟩ hr' => ?_
  · refine hb s u1 u2 ws (e0.mod.kin.keeps fun b o e => (e0.bs b o e).1) hl1 hl _ _ _ _ ?_
    refine wpAny_bind (wpAny_newTuple (wpAny_pure ?_) hl2)
    have new : ObjOk P w (upd H s.heap.objs.size (.tup vr)) (s.heap.push ({ cls := .type "tuple", data := .seq u2.toArray } : Obj)) s.heap.objs.size (.tup vr) := ⟨hz2, u2, r2, ⟨_, Heap.get?_push_size _ rfl, rfl, _, rfl⟩⟩
    have un := StX.un_laid (fs := frs outer) (s := s) (o := ({ cls := .type "tuple", data := .seq u2.toArray } : Obj)) (u := .tup vr) hfree
    have rel : Vals (sel perm (va ++ vz ++ dvs0)) (sel perm (u1 ++ ws ++ ds0)) := sel_vals ((r1.append r3).append hv) perm
    have hpl : (sel perm (u1 ++ ws ++ ds0)).length = ps.length := hp _ (by rw [List.length_append, List.length_append, hl1, hl])
    have z := hh _ _ (sel perm (va ++ vz ++ dvs0) ++ [V.ref s.heap.objs.size]) (sel perm (u1 ++ ws ++ ds0) ++ [Value.ref s.heap.objs.size]) (StX.env0_laid e0 new) un rfl (fun e s' => StX.cxUp outer s H _ _ E e s' un (fun b o q => Heap.get?_push_of_some _ q) rfl) (rel.append (.cons rfl .nil))
      (by rw [List.length_append, List.length_append, rel.length, hpl] <;> rfl) ⟨_, hfree, rfl, rfl⟩
    rw [List.zip_append hpl.symm] at z
    exact z
  · subst ex eH
    obtain ⟨r', s'⟩ := r.frozen (o := .tup vr) hp
    refine body_rule der spec hr' ⟨_, m, _, QD, ED, r', ?_, h, fun v H' F' m' d s => kq v H' F' m' d (s'.trans s), fun cls dd H' F' m' y s => ke cls dd H' F' m' y (s'.trans s)⟩
    refine (sel_dens (((da.append dz).append (hd F)).mono s') perm).append (Dens.one ?_)
    simp only [Den]
    exact ⟨p, vr, rfl, .inl (.inl upd_same), dr.mono s'⟩
end
end DL

/-! D8: dicts with ints and texts as keys. -/
namespace DL
open PySem PySem.Spec L2

section
variable {κ : Type} [DecidableEq κ]
def valD (kvs : List (κ × D)) (k : κ) : Option D := (kvs.find? fun kv => decide (kv.1 = k)).map (·.2)
def putD (kvs : List (κ × D)) (k : κ) (v : D) : List (κ × D) :=
  if (kvs.any fun kv => decide (kv.1 = k)) = true then kvs.map (fun kv => if kv.1 = k then (kv.1, v) else kv) else kvs ++ [(k, v)]
def dropD (kvs : List (κ × D)) (k : κ) : List (κ × D) := kvs.filter fun kv => decide (kv.1 ≠ k)
theorem valD_nil {k : κ} : valD ([] : List (κ × D)) k = none := rfl
theorem valD_pos {p : κ × D} {r : List (κ × D)} {k : κ} (e : p.1 = k) : valD (p :: r) k = some p.2 := by simp [valD, List.find?_cons, e]
theorem valD_neg {p : κ × D} {r : List (κ × D)} {k : κ} (e : ¬ p.1 = k) : valD (p :: r) k = valD r k := by simp [valD, List.find?_cons, e]
theorem valD_any (k : κ) : ∀ kvs : List (κ × D), (kvs.any fun kv => decide (kv.1 = k)) = (valD kvs k).isSome
  | [] => rfl
  | p :: r => by
    rw [List.any_cons]
    by_cases e : p.1 = k
    · simp only [valD_pos e, decide_eq_true e, Bool.true_or, Option.isSome_some]
    · rw [valD_neg e, decide_eq_false e, Bool.false_or]; exact valD_any k r
theorem putD_new {kvs : List (κ × D)} {k : κ} {v : D} (h : valD kvs k = none) : putD kvs k v = kvs ++ [(k, v)] := by
  unfold putD
  rw [valD_any, h]; rfl
theorem valD_snoc (k j : κ) (y : D) : ∀ kvs : List (κ × D), valD kvs k = none → valD (kvs ++ [(k, y)]) j = if j = k then some y else valD kvs j
  | [], _ => by
    by_cases e : k = j
    · rw [if_pos e.symm]; exact valD_pos (p := (k, y)) e
    · rw [if_neg (fun z => e z.symm)]; exact valD_neg (p := (k, y)) e
  | p :: r, hn => by
    rw [List.cons_append]
    by_cases h : p.1 = k
    · rw [valD_pos h] at hn; cases hn
    · rw [valD_neg h] at hn
      have ih := valD_snoc k j y r hn
      by_cases h2 : p.1 = j
      · rw [valD_pos h2, valD_pos h2, if_neg (fun z => h (h2.trans z))]
      · rw [valD_neg h2, valD_neg h2]; exact ih
theorem valD_map (k j : κ) (y : D) : ∀ kvs : List (κ × D), valD (kvs.map fun kv => if kv.1 = k then (kv.1, y) else kv) j = (valD kvs j).map fun x => if j = k then y else x
  | [] => rfl
  | p :: r => by
    have ih := valD_map k j y r
    rw [List.map_cons]
    by_cases h : p.1 = k
    · rw [if_pos h]
      by_cases h2 : p.1 = j
      · rw [valD_pos (p := (p.1, y)) h2, valD_pos h2]
        simp [h2 ▸ h]
      · rw [valD_neg (p := (p.1, y)) h2, valD_neg h2]; exact ih
    · rw [if_neg h]
      by_cases h2 : p.1 = j
      · rw [valD_pos h2, valD_pos h2, Option.map_some, if_neg (fun z => h (h2.trans z))]
      · rw [valD_neg h2, valD_neg h2]; exact ih
theorem valD_put (kvs : List (κ × D)) (k j : κ) (y : D) : valD (putD kvs k y) j = if j = k then some y else valD kvs j := by
  cases h : valD kvs k with
  | none => rw [putD_new h]; exact valD_snoc k j y kvs h
  | some x =>
    unfold putD
    rw [if_pos (by rw [valD_any, h]; rfl), valD_map]
    by_cases e : j = k
    · rw [if_pos e, e, h]; simp
    · rw [if_neg e]
      cases valD kvs j <;> simp [e]
variable {K : Frag} {F : Hp}
theorem valD_den {k : κ} : ∀ {ps : List (κ × D)} {qs : List (κ × V)}, DenP K F ps qs → (valD ps k = none ∧ valV qs k = none) ∨ ∃ d v, valD ps k = some d ∧ valV qs k = some v ∧ Den K F d v
  | _, _, .nil => .inl ⟨rfl, rfl⟩
  | (a, b) :: _, (a', b') :: _, .cons ⟨h1, h2⟩ t => by
    have h1 : a = a' := h1
    subst h1
    by_cases e : a = k
    · exact .inr ⟨b, b', valD_pos e, valV_pos e, h2⟩
    · rw [valD_neg e, valV_neg e]; exact valD_den t
theorem putD_den {k : κ} {d : D} {v : V} (dn : Den K F d v) {ps : List (κ × D)} {qs : List (κ × V)} (h : DenP K F ps qs) : DenP K F (putD ps k d) (putK qs k v) := by
  have mp : ∀ {ps : List (κ × D)} {qs : List (κ × V)}, DenP K F ps qs → DenP K F (ps.map fun kv => if kv.1 = k then (kv.1, d) else kv) (qs.map fun kv => if kv.1 = k then (kv.1, v) else kv) := by
    intro ps qs h
    induction h with
    | nil => exact .nil
    | @cons p q ps qs hq t ih =>
      obtain ⟨h1, h2⟩ := hq
      rw [List.map_cons, List.map_cons]
      refine .cons ?_ ih
      by_cases e : p.1 = k
      · rw [if_pos e, if_pos (h1.symm.trans e)]; exact ⟨h1, dn⟩
      · rw [if_neg e, if_neg (fun z => e (h1.trans z))]; exact ⟨h1, h2⟩
  have sn : ∀ {ps : List (κ × D)} {qs : List (κ × V)}, DenP K F ps qs → DenP K F (ps ++ [(k, d)]) (qs ++ [(k, v)]) := by
    intro ps qs h
    induction h with
    | nil => exact .cons ⟨rfl, dn⟩ .nil
    | cons hq t ih => exact .cons hq ih
  unfold putD putK
  rw [valD_any, valV_any]
  rcases valD_den (k := k) h with ⟨a, b⟩ | ⟨_, _, a, b, _⟩
  · rw [a, b]; exact sn h
  · rw [a, b]; exact mp h
theorem dropD_den {k : κ} {ps : List (κ × D)} {qs : List (κ × V)} (h : DenP K F ps qs) : DenP K F (dropD ps k) (dropK qs k) := by
  unfold dropD dropK
  induction h with
  | nil => exact .nil
  | @cons p q ps qs hq t ih =>
    obtain ⟨h1, h2⟩ := hq
    rw [List.filter_cons, List.filter_cons]
    by_cases e : p.1 = k
    · have e2 : q.1 = k := h1.symm.trans e
      simp only [e, e2, ne_eq, not_true, decide_false]; exact ih
    · have e2 : ¬ q.1 = k := fun z => e (h1.trans z)
      simp only [e, e2, ne_eq, not_false_iff, decide_true, if_true]
      exact .cons ⟨h1, h2⟩ ih
end

def keyD : D → Option Key
  | .int i => some (.inl i)
  | .str x => some (.inr x)
  | _ => none
@[simp] theorem keyD_str {x : Str} : keyD (.str x) = some (.inr x) := rfl
@[simp] theorem keyD_int {i : Int} : keyD (.int i) = some (.inl i) := rfl
theorem keyD_den {K : Frag} {F : Hp} {d : D} {v : V} {k : Key} (dn : Den K F d v) (e : keyD d = some k) : v = kV k := by
  cases d <;> simp only [keyD] at e <;> first | cases e | skip
  all_goals (simp only [Den] at dn; exact dn)
/-- a dict, by its address -/
def dctOf (m : Mem) : D → Option (List (Key × D))
  | .ref p => match m p with
    | some (.dct kvs) => some kvs
    | _ => none
  | _ => none
theorem dctOf_ref {m : Mem} {p : Addr} {kvs : List (Key × D)} (h : m p = some (.dct kvs)) : dctOf m (.ref p) = some kvs := by simp [dctOf, h]
theorem dctOf_some {m : Mem} {d : D} {kvs : List (Key × D)} (h : dctOf m d = some kvs) : ∃ p, d = .ref p ∧ m p = some (.dct kvs) := by
  cases d <;> simp only [dctOf] at h <;> first | cases h | skip
  rename_i p
  cases e : m p with
  | none => rw [e] at h; cases h
  | some c =>
    rw [e] at h
    cases c <;> first | cases h | skip
    exact ⟨p, rfl, e⟩
theorem Rel.dct {K : Frag} {F : Hp} {m : Mem} {H : Hp} (r : Rel K F m H) {d : D} {v : V} {kvs : List (Key × D)} (dn : Den K F d v) (e : dctOf m d = some kvs) : ∃ p qs, d = .ref p ∧ v = .ref p ∧ m p = some (.dct kvs) ∧ H p = some (.dK qs) ∧ DenP K F kvs qs := by
  obtain ⟨p, rfl, h⟩ := dctOf_some e
  simp only [Den] at dn
  obtain ⟨_, q⟩ := r.me p _ h
  simp only [CellOk] at q
  obtain ⟨qs, h1, h2⟩ := q
  exact ⟨p, qs, rfl, dn, h, h1, h2⟩
section
variable {X : Cx}
def wDNew : WE := fun _ m Q _ => ∀ p, m p = none → Q (.ref p) (m.put p (.dct []))
theorem ddnew {pos : Pos} : DE X (.Dict [] [] pos) wDNew := wkE pe_dnewK fun σ H Q ⟨F, m, env, Qd, xc, r, en, a, q, k⟩ => fun p hp =>
  k _ _ F _ (.ref p) (Sub.refl F) (r.fresh hp (c := .dct []) (by simp only [CellOk]; exact ⟨[], upd_same, .nil⟩)) (by simp only [Den]) (q p (r.free hp).2)
def dgetD : WO := fun x y m Q _ => ∃ kvs k d, dctOf m x = some kvs ∧ keyD y = some k ∧ valD kvs k = some d ∧ Q d m
theorem ddget {a b : Expr} {pos : Pos} {wa wb : WE} (hu : X.A.units + 64 < cLine) (ha : DE X a wa) (hb : DE X b wb) (hs : NoSl b := by exact fun _ _ => rfl) : DE X (.Subscript a b pos) (wBin dgetD wa wb) :=
  wkE (pe_dget (Nat.lt_of_le_of_lt (by omega) hu) ha hb hs) fun σ H Q ⟨F, m, env, Qd, xc, r0, en, a, q, k⟩ =>
    tW.sub r0 en a q fun v1 H1 F1 m1 d1 s1 r1 en1 dn1 q1 => tW.sub r1 en1 (a.mono s1) q1 fun v2 H2 F2 m2 d2 s2 r2 en2 dn2 ⟨kvs, kk, d, e1, e2, e3, q2⟩ => by
      obtain ⟨p, qs, _, rfl, _, hp, dp⟩ := r2.dct (dn1.mono s2) e1
      rcases valD_den (k := kk) dp with ⟨z, _⟩ | ⟨d', v', a1, a2, a3⟩
      · rw [z] at e3; cases e3
      · rw [a1] at e3; cases e3
        exact ⟨p, v', rfl, .inl ⟨qs, kk, .inl hp, keyD_den dn2 e2, a2.symm⟩, k v' H2 F2 m2 _ (s1.trans s2) r2 a3 q2⟩
def dinD : WO := fun x y m Q _ => ∃ kvs k, dctOf m y = some kvs ∧ keyD x = some k ∧ Q (.bl (valD kvs k).isSome) m
def dninD : WO := fun x y m Q _ => ∃ kvs k, dctOf m y = some kvs ∧ keyD x = some k ∧ Q (.bl (!(valD kvs k).isSome)) m
theorem valD_isSome {K : Frag} {F : Hp} {k : Key} {ps : List (Key × D)} {qs : List (Key × V)} (h : DenP K F ps qs) : (valV qs k).isSome = (valD ps k).isSome := by
  rcases valD_den (k := k) h with ⟨a, b⟩ | ⟨_, _, a, b, _⟩ <;> rw [a, b] <;> rfl
theorem ddin {a b : Expr} {pos : Pos} {wa wb : WE} (hu : X.A.units + 64 < cLine) (ha : DE X a wa) (hb : DE X b wb) (hm : behindInMarks .In b = false := by rfl) : DE X (.Compare a [.In] [b] pos) (wBin dinD wa wb) :=
  wkE (pe_cmp (pc_din (Nat.lt_of_le_of_lt (by omega) hu) ha hb) hm) fun σ H Q ⟨F, m, env, Qd, xc, r0, en, a, q, k⟩ =>
    tW.sub r0 en a q fun v1 H1 F1 m1 d1 s1 r1 en1 dn1 q1 => tW.sub r1 en1 (a.mono s1) q1 fun v2 H2 F2 m2 d2 s2 r2 en2 dn2 ⟨kvs, kk, e1, e2, q2⟩ => by
      obtain ⟨p, qs, _, rfl, _, hp, dp⟩ := r2.dct dn2 e1
      refine ⟨p, valV qs kk, rfl, .inl ⟨qs, kk, .inl hp, keyD_den (dn1.mono s2) e2, rfl⟩, ?_⟩
      rw [valD_isSome dp]
      exact k _ H2 F2 m2 _ (s1.trans s2) r2 (by simp only [Den]) q2
theorem ddinT {a b : Expr} {pos : Pos} {wa wb : WE} (hu : X.A.units + 64 < cLine) (ha : DE X a wa) (hb : DE X b wb) (hm : behindInMarks .In b = false := by rfl) : DT X (.Compare a [.In] [b] pos) (wTruB (wBin dinD wa wb)) :=
  wkT (pt_cmp (pc_din (Nat.lt_of_le_of_lt (by omega) hu) ha hb) hm) fun σ H Q ⟨F, m, env, Qd, xc, r0, en, a, q, k⟩ =>
    tW.sub r0 en a q fun v1 H1 F1 m1 d1 s1 r1 en1 dn1 q1 => tW.sub r1 en1 (a.mono s1) q1 fun v2 H2 F2 m2 d2 s2 r2 en2 dn2 ⟨kvs, kk, e1, e2, q2⟩ => by
      obtain ⟨p, qs, _, rfl, _, hp, dp⟩ := r2.dct dn2 e1
      refine ⟨p, valV qs kk, rfl, .inl ⟨qs, kk, .inl hp, keyD_den (dn1.mono s2) e2, rfl⟩, ?_⟩
      rw [valD_isSome dp]
      exact ⟨_, rfl, k _ H2 F2 m2 (s1.trans s2) r2 q2⟩
theorem ddnin {a b : Expr} {pos : Pos} {wa wb : WE} (hu : X.A.units + 64 < cLine) (ha : DE X a wa) (hb : DE X b wb) (hm : behindInMarks .NotIn b = false := by rfl) : DE X (.Compare a [.NotIn] [b] pos) (wBin dninD wa wb) :=
  wkE (pe_cmp (pc_dnotin (Nat.lt_of_le_of_lt (by omega) hu) ha hb) hm) fun σ H Q ⟨F, m, env, Qd, xc, r0, en, a, q, k⟩ =>
    tW.sub r0 en a q fun v1 H1 F1 m1 d1 s1 r1 en1 dn1 q1 => tW.sub r1 en1 (a.mono s1) q1 fun v2 H2 F2 m2 d2 s2 r2 en2 dn2 ⟨kvs, kk, e1, e2, q2⟩ => by
      obtain ⟨p, qs, _, rfl, _, hp, dp⟩ := r2.dct dn2 e1
      refine ⟨p, valV qs kk, rfl, .inl ⟨qs, kk, .inl hp, keyD_den (dn1.mono s2) e2, rfl⟩, ?_⟩
      rw [valD_isSome dp]
      exact k _ H2 F2 m2 _ (s1.trans s2) r2 (by simp only [Den]) q2
theorem ddninT {a b : Expr} {pos : Pos} {wa wb : WE} (hu : X.A.units + 64 < cLine) (ha : DE X a wa) (hb : DE X b wb) (hm : behindInMarks .NotIn b = false := by rfl) : DT X (.Compare a [.NotIn] [b] pos) (wTruB (wBin dninD wa wb)) :=
  wkT (pt_cmp (pc_dnotin (Nat.lt_of_le_of_lt (by omega) hu) ha hb) hm) fun σ H Q ⟨F, m, env, Qd, xc, r0, en, a, q, k⟩ =>
    tW.sub r0 en a q fun v1 H1 F1 m1 d1 s1 r1 en1 dn1 q1 => tW.sub r1 en1 (a.mono s1) q1 fun v2 H2 F2 m2 d2 s2 r2 en2 dn2 ⟨kvs, kk, e1, e2, q2⟩ => by
      obtain ⟨p, qs, _, rfl, _, hp, dp⟩ := r2.dct dn2 e1
      refine ⟨p, valV qs kk, rfl, .inl ⟨qs, kk, .inl hp, keyD_den (dn1.mono s2) e2, rfl⟩, ?_⟩
      rw [valD_isSome dp]
      exact ⟨_, rfl, k _ H2 F2 m2 (s1.trans s2) r2 q2⟩
def sDput (wo wi wv : WE) : WS := fun Z env m => wv env m (fun d m1 => wo env m1 (fun o m2 => wi env m2 (fun i m3 => ∃ p kvs k, o = .ref p ∧ m3 p = some (.dct kvs) ∧ keyD i = some k ∧ kvs.length < sizeLine ∧ Z.nx env (m3.put p (.dct (putD kvs k d)))) (fun x m' => Z.xc x env m')) (fun x m' => Z.xc x env m')) (fun x m' => Z.xc x env m')
theorem ddput {o i e : Expr} {pos' pos : Pos} {wo wi wv : WE} (hu : X.A.units + 64 < cLine) (ho : DE X o wo) (hi : DE X i wi) (hv : DE X e wv) (hs : swapsWith e (some (.Subscript o i pos')) pos.line X.env = pure false := by rfl) :
    DS X (.Assign [.Subscript o i pos'] e pos) (sDput wo wi wv) := wkS (ps_dput (Nat.lt_of_le_of_lt (by omega) hu) ho hi hv hs) fun D σ H ⟨F, m, env, E, r, en, a, q, n, b, c, t⟩ =>
  tW.sub r en a q fun v1 H1 F1 m1 d1 s1 r1 en1 dn1 q1 => tW.sub r1 en1 (a.mono s1) q1 fun v2 H2 F2 m2 d2 s2 r2 en2 dn2 q2 => tW.sub r2 en2 (a.mono (s1.trans s2)) q2 fun v3 H3 F3 m3 d3 s3 r3 en3 dn3 ⟨p, kvs, kk, eo, e1, e2, hz, q3⟩ => by
    subst eo
    obtain ⟨p', qs, e', rfl, hp, hq, dp⟩ := r3.dct (dn2.mono s3) (dctOf_ref e1)
    cases e'
    refine ⟨p, _, rfl, .inl ⟨qs, kk, hq, keyD_den dn3 e2, by rw [← Paired.length dp]; exact hz, rfl⟩, n σ _ F3 _ env ((s1.trans s2).trans s3) (r3.store e1 ?_) en3 q3⟩
    simp only [CellOk]
    exact ⟨_, upd_same, putD_den (dn1.mono (s2.trans s3)) dp⟩
def sDdel (wo wi : WE) : WS := fun Z env m => wo env m (fun o m2 => wi env m2 (fun i m3 => ∃ p kvs k, o = .ref p ∧ m3 p = some (.dct kvs) ∧ keyD i = some k ∧ (valD kvs k).isSome = true ∧ Z.nx env (m3.put p (.dct (dropD kvs k)))) (fun x m' => Z.xc x env m')) (fun x m' => Z.xc x env m')
theorem dddel {o i : Expr} {tpos pos : Pos} {wo wi : WE} (ho : DE X o wo) (hi : DE X i wi) : DS X (.Delete [.Subscript o i tpos] pos) (sDdel wo wi) := wkS (ps_ddel ho hi) fun D σ H ⟨F, m, env, E, r, en, a, q, n, b, c, t⟩ =>
  tW.sub r en a q fun v2 H2 F2 m2 d2 s2 r2 en2 dn2 q2 => tW.sub r2 en2 (a.mono s2) q2 fun v3 H3 F3 m3 d3 s3 r3 en3 dn3 ⟨p, kvs, kk, eo, e1, e2, hz, q3⟩ => by
    subst eo
    obtain ⟨p', qs, e', rfl, hp, hq, dp⟩ := r3.dct (dn2.mono s3) (dctOf_ref e1)
    cases e'
    refine ⟨p, qs, kk, rfl, hq, keyD_den dn3 e2, by rw [valD_isSome dp]; exact hz, n σ _ F3 _ env (s2.trans s3) (r3.store e1 ?_) en3 q3⟩
    simp only [CellOk]
    exact ⟨_, upd_same, dropD_den dp⟩
end
end DL

/-! D9 (printed by mkD9.py): readings evaluated by simp; loops, calls, comprehensions stay shut. -/
namespace DL
open PySem PySem.Spec L2

/-- x is left as it is by simp -dsimp -/
inductive Tag {α : Type} (x : α) : Type
  | mk
/-- o gives something, and Q holds of it -/
def Is {α : Type} (o : Option α) (Q : α → Prop) (t : Tag Q) : Prop := ∃ x, o = some x ∧ Q x
@[simp] theorem Is_some {α : Type} {x : α} {Q : α → Prop} {t : Tag Q} : Is (some x) Q t = Q x := by simp [Is]
theorem Is.intro {α : Type} {o : Option α} {Q : α → Prop} {t : Tag Q} {x : α} (h : o = some x) (q : Q x) : Is o Q t := ⟨x, h, q⟩
def De.next (D : De) (n : En → Mem → Prop) : De := { D with nx := n }
def De.loop (D : De) (n : En → Mem → Prop) : De := { D with nx := n, ct := n, bk := D.nx }
section
variable {D : De} {n : En → Mem → Prop}
@[simp ↓] theorem next_nx : (D.next n).nx = n := rfl
@[simp ↓] theorem next_rt : (D.next n).rt = D.rt := rfl
@[simp ↓] theorem next_bk : (D.next n).bk = D.bk := rfl
@[simp ↓] theorem next_ct : (D.next n).ct = D.ct := rfl
@[simp ↓] theorem next_xc : (D.next n).xc = D.xc := rfl
@[simp ↓] theorem loop_nx : (D.loop n).nx = n := rfl
@[simp ↓] theorem loop_rt : (D.loop n).rt = D.rt := rfl
@[simp ↓] theorem loop_bk : (D.loop n).bk = D.nx := rfl
@[simp ↓] theorem loop_ct : (D.loop n).ct = n := rfl
@[simp ↓] theorem loop_xc : (D.loop n).xc = D.xc := rfl
end
/-- what comes later: shut until it is reached -/
def Later (b : WS) (D : De) : En → Mem → Prop := b D
@[simp ↓] theorem Later_ev {b : WS} {D : De} {env : En} {m : Mem} : Later b D env m = b D env m := rfl
def Br (a b : WS) (D : De) (env : En) : Bool → Mem → Prop := fun k m => if k = true then a D env m else b D env m
@[simp ↓] theorem Br_t {a b : WS} {D : De} {env : En} {m : Mem} : Br a b D env true m = a D env m := rfl
@[simp ↓] theorem Br_f {a b : WS} {D : De} {env : En} {m : Mem} : Br a b D env false m = b D env m := rfl
theorem Br_dec {a b : WS} {D : De} {env : En} {m : Mem} {p : Prop} [Decidable p] : Br a b D env (decide p) m ↔ (p → a D env m) ∧ (¬ p → b D env m) := by
  by_cases h : p <;> simp [h]
theorem Br_ndec {a b : WS} {D : De} {env : En} {m : Mem} {p : Prop} [Decidable p] : Br a b D env (!decide p) m ↔ (¬ p → a D env m) ∧ (p → b D env m) := by
  by_cases h : p <;> simp [h]
theorem Br_any {a b : WS} {D : De} {env : En} {m : Mem} {k : Bool} : Br a b D env k m ↔ (k = true → a D env m) ∧ (k = false → b D env m) := by
  cases k <;> simp
/-- a def's promise, shut -/
def App (sp : SpD) (ds : List D) (m : Mem) (Q : Po) (E : Xo) (t : Tag Q) : Prop := sp ds m Q E
theorem App.intro {sp : SpD} {ds : List D} {m : Mem} {Q : Po} {E : Xo} {t : Tag Q} (h : sp ds m Q E) : App sp ds m Q E t := h
theorem lst_iff {m : Mem} {p : Addr} {xs : List D} : lstOf m (.ref p) = some xs ↔ m p = some (.lst xs) := by
  simp only [lstOf]
  constructor
  · intro h
    cases e : m p with
    | none => rw [e] at h; cases h
    | some c => rw [e] at h; cases c <;> first | (cases h; done) | (cases h; rfl)
  · intro h; rw [h]
theorem dct_iff {m : Mem} {p : Addr} {xs : List (Key × D)} : dctOf m (.ref p) = some xs ↔ m p = some (.dct xs) := by
  simp only [dctOf]
  constructor
  · intro h
    cases e : m p with
    | none => rw [e] at h; cases h
    | some c => rw [e] at h; cases c <;> first | (cases h; done) | (cases h; rfl)
  · intro h; rw [h]
/-! ### expressions -/
@[simp ↓] theorem ev_C {d : D} {env : En} {m : Mem} {Q : Po} {E : Xo} : wC d env m Q E = Q d m := rfl
@[simp ↓] theorem var_0 {d : D} {r : En} {m : Mem} {Q : Po} {E : Xo} : wVar 0 (some d :: r) m Q E = Q d m := by simp [wVar]
@[simp ↓] theorem gn_0 {d : D} {x : Option D} {r : En} {m : Mem} {Q : En → Mem → Prop} : gN 0 d (x :: r) m Q = Q (some d :: r) m := rfl
@[simp ↓] theorem var_1 {x0 : Option D} {d : D} {r : En} {m : Mem} {Q : Po} {E : Xo} : wVar 1 (x0 :: some d :: r) m Q E = Q d m := by simp [wVar]
@[simp ↓] theorem gn_1 {x0 : Option D} {d : D} {x : Option D} {r : En} {m : Mem} {Q : En → Mem → Prop} : gN 1 d (x0 :: x :: r) m Q = Q (x0 :: some d :: r) m := rfl
@[simp ↓] theorem var_2 {x0 x1 : Option D} {d : D} {r : En} {m : Mem} {Q : Po} {E : Xo} : wVar 2 (x0 :: x1 :: some d :: r) m Q E = Q d m := by simp [wVar]
@[simp ↓] theorem gn_2 {x0 x1 : Option D} {d : D} {x : Option D} {r : En} {m : Mem} {Q : En → Mem → Prop} : gN 2 d (x0 :: x1 :: x :: r) m Q = Q (x0 :: x1 :: some d :: r) m := rfl
@[simp ↓] theorem var_3 {x0 x1 x2 : Option D} {d : D} {r : En} {m : Mem} {Q : Po} {E : Xo} : wVar 3 (x0 :: x1 :: x2 :: some d :: r) m Q E = Q d m := by simp [wVar]
@[simp ↓] theorem gn_3 {x0 x1 x2 : Option D} {d : D} {x : Option D} {r : En} {m : Mem} {Q : En → Mem → Prop} : gN 3 d (x0 :: x1 :: x2 :: x :: r) m Q = Q (x0 :: x1 :: x2 :: some d :: r) m := rfl
@[simp ↓] theorem var_4 {x0 x1 x2 x3 : Option D} {d : D} {r : En} {m : Mem} {Q : Po} {E : Xo} : wVar 4 (x0 :: x1 :: x2 :: x3 :: some d :: r) m Q E = Q d m := by simp [wVar]
@[simp ↓] theorem gn_4 {x0 x1 x2 x3 : Option D} {d : D} {x : Option D} {r : En} {m : Mem} {Q : En → Mem → Prop} : gN 4 d (x0 :: x1 :: x2 :: x3 :: x :: r) m Q = Q (x0 :: x1 :: x2 :: x3 :: some d :: r) m := rfl
@[simp ↓] theorem var_5 {x0 x1 x2 x3 x4 : Option D} {d : D} {r : En} {m : Mem} {Q : Po} {E : Xo} : wVar 5 (x0 :: x1 :: x2 :: x3 :: x4 :: some d :: r) m Q E = Q d m := by simp [wVar]
@[simp ↓] theorem gn_5 {x0 x1 x2 x3 x4 : Option D} {d : D} {x : Option D} {r : En} {m : Mem} {Q : En → Mem → Prop} : gN 5 d (x0 :: x1 :: x2 :: x3 :: x4 :: x :: r) m Q = Q (x0 :: x1 :: x2 :: x3 :: x4 :: some d :: r) m := rfl
@[simp ↓] theorem var_6 {x0 x1 x2 x3 x4 x5 : Option D} {d : D} {r : En} {m : Mem} {Q : Po} {E : Xo} : wVar 6 (x0 :: x1 :: x2 :: x3 :: x4 :: x5 :: some d :: r) m Q E = Q d m := by simp [wVar]
@[simp ↓] theorem gn_6 {x0 x1 x2 x3 x4 x5 : Option D} {d : D} {x : Option D} {r : En} {m : Mem} {Q : En → Mem → Prop} : gN 6 d (x0 :: x1 :: x2 :: x3 :: x4 :: x5 :: x :: r) m Q = Q (x0 :: x1 :: x2 :: x3 :: x4 :: x5 :: some d :: r) m := rfl
@[simp ↓] theorem var_7 {x0 x1 x2 x3 x4 x5 x6 : Option D} {d : D} {r : En} {m : Mem} {Q : Po} {E : Xo} : wVar 7 (x0 :: x1 :: x2 :: x3 :: x4 :: x5 :: x6 :: some d :: r) m Q E = Q d m := by simp [wVar]
@[simp ↓] theorem gn_7 {x0 x1 x2 x3 x4 x5 x6 : Option D} {d : D} {x : Option D} {r : En} {m : Mem} {Q : En → Mem → Prop} : gN 7 d (x0 :: x1 :: x2 :: x3 :: x4 :: x5 :: x6 :: x :: r) m Q = Q (x0 :: x1 :: x2 :: x3 :: x4 :: x5 :: x6 :: some d :: r) m := rfl
@[simp ↓] theorem var_8 {x0 x1 x2 x3 x4 x5 x6 x7 : Option D} {d : D} {r : En} {m : Mem} {Q : Po} {E : Xo} : wVar 8 (x0 :: x1 :: x2 :: x3 :: x4 :: x5 :: x6 :: x7 :: some d :: r) m Q E = Q d m := by simp [wVar]
@[simp ↓] theorem gn_8 {x0 x1 x2 x3 x4 x5 x6 x7 : Option D} {d : D} {x : Option D} {r : En} {m : Mem} {Q : En → Mem → Prop} : gN 8 d (x0 :: x1 :: x2 :: x3 :: x4 :: x5 :: x6 :: x7 :: x :: r) m Q = Q (x0 :: x1 :: x2 :: x3 :: x4 :: x5 :: x6 :: x7 :: some d :: r) m := rfl
@[simp ↓] theorem var_9 {x0 x1 x2 x3 x4 x5 x6 x7 x8 : Option D} {d : D} {r : En} {m : Mem} {Q : Po} {E : Xo} : wVar 9 (x0 :: x1 :: x2 :: x3 :: x4 :: x5 :: x6 :: x7 :: x8 :: some d :: r) m Q E = Q d m := by simp [wVar]
@[simp ↓] theorem gn_9 {x0 x1 x2 x3 x4 x5 x6 x7 x8 : Option D} {d : D} {x : Option D} {r : En} {m : Mem} {Q : En → Mem → Prop} : gN 9 d (x0 :: x1 :: x2 :: x3 :: x4 :: x5 :: x6 :: x7 :: x8 :: x :: r) m Q = Q (x0 :: x1 :: x2 :: x3 :: x4 :: x5 :: x6 :: x7 :: x8 :: some d :: r) m := rfl
@[simp ↓] theorem var_10 {x0 x1 x2 x3 x4 x5 x6 x7 x8 x9 : Option D} {d : D} {r : En} {m : Mem} {Q : Po} {E : Xo} : wVar 10 (x0 :: x1 :: x2 :: x3 :: x4 :: x5 :: x6 :: x7 :: x8 :: x9 :: some d :: r) m Q E = Q d m := by simp [wVar]
@[simp ↓] theorem gn_10 {x0 x1 x2 x3 x4 x5 x6 x7 x8 x9 : Option D} {d : D} {x : Option D} {r : En} {m : Mem} {Q : En → Mem → Prop} : gN 10 d (x0 :: x1 :: x2 :: x3 :: x4 :: x5 :: x6 :: x7 :: x8 :: x9 :: x :: r) m Q = Q (x0 :: x1 :: x2 :: x3 :: x4 :: x5 :: x6 :: x7 :: x8 :: x9 :: some d :: r) m := rfl
@[simp ↓] theorem var_11 {x0 x1 x2 x3 x4 x5 x6 x7 x8 x9 x10 : Option D} {d : D} {r : En} {m : Mem} {Q : Po} {E : Xo} : wVar 11 (x0 :: x1 :: x2 :: x3 :: x4 :: x5 :: x6 :: x7 :: x8 :: x9 :: x10 :: some d :: r) m Q E = Q d m := by simp [wVar]
@[simp ↓] theorem gn_11 {x0 x1 x2 x3 x4 x5 x6 x7 x8 x9 x10 : Option D} {d : D} {x : Option D} {r : En} {m : Mem} {Q : En → Mem → Prop} : gN 11 d (x0 :: x1 :: x2 :: x3 :: x4 :: x5 :: x6 :: x7 :: x8 :: x9 :: x10 :: x :: r) m Q = Q (x0 :: x1 :: x2 :: x3 :: x4 :: x5 :: x6 :: x7 :: x8 :: x9 :: x10 :: some d :: r) m := rfl
@[simp ↓] theorem var_12 {x0 x1 x2 x3 x4 x5 x6 x7 x8 x9 x10 x11 : Option D} {d : D} {r : En} {m : Mem} {Q : Po} {E : Xo} : wVar 12 (x0 :: x1 :: x2 :: x3 :: x4 :: x5 :: x6 :: x7 :: x8 :: x9 :: x10 :: x11 :: some d :: r) m Q E = Q d m := by simp [wVar]
@[simp ↓] theorem gn_12 {x0 x1 x2 x3 x4 x5 x6 x7 x8 x9 x10 x11 : Option D} {d : D} {x : Option D} {r : En} {m : Mem} {Q : En → Mem → Prop} : gN 12 d (x0 :: x1 :: x2 :: x3 :: x4 :: x5 :: x6 :: x7 :: x8 :: x9 :: x10 :: x11 :: x :: r) m Q = Q (x0 :: x1 :: x2 :: x3 :: x4 :: x5 :: x6 :: x7 :: x8 :: x9 :: x10 :: x11 :: some d :: r) m := rfl
@[simp ↓] theorem var_13 {x0 x1 x2 x3 x4 x5 x6 x7 x8 x9 x10 x11 x12 : Option D} {d : D} {r : En} {m : Mem} {Q : Po} {E : Xo} : wVar 13 (x0 :: x1 :: x2 :: x3 :: x4 :: x5 :: x6 :: x7 :: x8 :: x9 :: x10 :: x11 :: x12 :: some d :: r) m Q E = Q d m := by simp [wVar]
@[simp ↓] theorem gn_13 {x0 x1 x2 x3 x4 x5 x6 x7 x8 x9 x10 x11 x12 : Option D} {d : D} {x : Option D} {r : En} {m : Mem} {Q : En → Mem → Prop} : gN 13 d (x0 :: x1 :: x2 :: x3 :: x4 :: x5 :: x6 :: x7 :: x8 :: x9 :: x10 :: x11 :: x12 :: x :: r) m Q = Q (x0 :: x1 :: x2 :: x3 :: x4 :: x5 :: x6 :: x7 :: x8 :: x9 :: x10 :: x11 :: x12 :: some d :: r) m := rfl
@[simp ↓] theorem var_14 {x0 x1 x2 x3 x4 x5 x6 x7 x8 x9 x10 x11 x12 x13 : Option D} {d : D} {r : En} {m : Mem} {Q : Po} {E : Xo} : wVar 14 (x0 :: x1 :: x2 :: x3 :: x4 :: x5 :: x6 :: x7 :: x8 :: x9 :: x10 :: x11 :: x12 :: x13 :: some d :: r) m Q E = Q d m := by simp [wVar]
@[simp ↓] theorem gn_14 {x0 x1 x2 x3 x4 x5 x6 x7 x8 x9 x10 x11 x12 x13 : Option D} {d : D} {x : Option D} {r : En} {m : Mem} {Q : En → Mem → Prop} : gN 14 d (x0 :: x1 :: x2 :: x3 :: x4 :: x5 :: x6 :: x7 :: x8 :: x9 :: x10 :: x11 :: x12 :: x13 :: x :: r) m Q = Q (x0 :: x1 :: x2 :: x3 :: x4 :: x5 :: x6 :: x7 :: x8 :: x9 :: x10 :: x11 :: x12 :: x13 :: some d :: r) m := rfl
@[simp ↓] theorem var_15 {x0 x1 x2 x3 x4 x5 x6 x7 x8 x9 x10 x11 x12 x13 x14 : Option D} {d : D} {r : En} {m : Mem} {Q : Po} {E : Xo} : wVar 15 (x0 :: x1 :: x2 :: x3 :: x4 :: x5 :: x6 :: x7 :: x8 :: x9 :: x10 :: x11 :: x12 :: x13 :: x14 :: some d :: r) m Q E = Q d m := by simp [wVar]
@[simp ↓] theorem gn_15 {x0 x1 x2 x3 x4 x5 x6 x7 x8 x9 x10 x11 x12 x13 x14 : Option D} {d : D} {x : Option D} {r : En} {m : Mem} {Q : En → Mem → Prop} : gN 15 d (x0 :: x1 :: x2 :: x3 :: x4 :: x5 :: x6 :: x7 :: x8 :: x9 :: x10 :: x11 :: x12 :: x13 :: x14 :: x :: r) m Q = Q (x0 :: x1 :: x2 :: x3 :: x4 :: x5 :: x6 :: x7 :: x8 :: x9 :: x10 :: x11 :: x12 :: x13 :: x14 :: some d :: r) m := rfl
@[simp ↓] theorem var_16 {x0 x1 x2 x3 x4 x5 x6 x7 x8 x9 x10 x11 x12 x13 x14 x15 : Option D} {d : D} {r : En} {m : Mem} {Q : Po} {E : Xo} : wVar 16 (x0 :: x1 :: x2 :: x3 :: x4 :: x5 :: x6 :: x7 :: x8 :: x9 :: x10 :: x11 :: x12 :: x13 :: x14 :: x15 :: some d :: r) m Q E = Q d m := by simp [wVar]
@[simp ↓] theorem gn_16 {x0 x1 x2 x3 x4 x5 x6 x7 x8 x9 x10 x11 x12 x13 x14 x15 : Option D} {d : D} {x : Option D} {r : En} {m : Mem} {Q : En → Mem → Prop} : gN 16 d (x0 :: x1 :: x2 :: x3 :: x4 :: x5 :: x6 :: x7 :: x8 :: x9 :: x10 :: x11 :: x12 :: x13 :: x14 :: x15 :: x :: r) m Q = Q (x0 :: x1 :: x2 :: x3 :: x4 :: x5 :: x6 :: x7 :: x8 :: x9 :: x10 :: x11 :: x12 :: x13 :: x14 :: x15 :: some d :: r) m := rfl
@[simp ↓] theorem var_17 {x0 x1 x2 x3 x4 x5 x6 x7 x8 x9 x10 x11 x12 x13 x14 x15 x16 : Option D} {d : D} {r : En} {m : Mem} {Q : Po} {E : Xo} : wVar 17 (x0 :: x1 :: x2 :: x3 :: x4 :: x5 :: x6 :: x7 :: x8 :: x9 :: x10 :: x11 :: x12 :: x13 :: x14 :: x15 :: x16 :: some d :: r) m Q E = Q d m := by simp [wVar]
@[simp ↓] theorem gn_17 {x0 x1 x2 x3 x4 x5 x6 x7 x8 x9 x10 x11 x12 x13 x14 x15 x16 : Option D} {d : D} {x : Option D} {r : En} {m : Mem} {Q : En → Mem → Prop} : gN 17 d (x0 :: x1 :: x2 :: x3 :: x4 :: x5 :: x6 :: x7 :: x8 :: x9 :: x10 :: x11 :: x12 :: x13 :: x14 :: x15 :: x16 :: x :: r) m Q = Q (x0 :: x1 :: x2 :: x3 :: x4 :: x5 :: x6 :: x7 :: x8 :: x9 :: x10 :: x11 :: x12 :: x13 :: x14 :: x15 :: x16 :: some d :: r) m := rfl
@[simp ↓] theorem var_18 {x0 x1 x2 x3 x4 x5 x6 x7 x8 x9 x10 x11 x12 x13 x14 x15 x16 x17 : Option D} {d : D} {r : En} {m : Mem} {Q : Po} {E : Xo} : wVar 18 (x0 :: x1 :: x2 :: x3 :: x4 :: x5 :: x6 :: x7 :: x8 :: x9 :: x10 :: x11 :: x12 :: x13 :: x14 :: x15 :: x16 :: x17 :: some d :: r) m Q E = Q d m := by simp [wVar]
@[simp ↓] theorem gn_18 {x0 x1 x2 x3 x4 x5 x6 x7 x8 x9 x10 x11 x12 x13 x14 x15 x16 x17 : Option D} {d : D} {x : Option D} {r : En} {m : Mem} {Q : En → Mem → Prop} : gN 18 d (x0 :: x1 :: x2 :: x3 :: x4 :: x5 :: x6 :: x7 :: x8 :: x9 :: x10 :: x11 :: x12 :: x13 :: x14 :: x15 :: x16 :: x17 :: x :: r) m Q = Q (x0 :: x1 :: x2 :: x3 :: x4 :: x5 :: x6 :: x7 :: x8 :: x9 :: x10 :: x11 :: x12 :: x13 :: x14 :: x15 :: x16 :: x17 :: some d :: r) m := rfl
@[simp ↓] theorem var_19 {x0 x1 x2 x3 x4 x5 x6 x7 x8 x9 x10 x11 x12 x13 x14 x15 x16 x17 x18 : Option D} {d : D} {r : En} {m : Mem} {Q : Po} {E : Xo} : wVar 19 (x0 :: x1 :: x2 :: x3 :: x4 :: x5 :: x6 :: x7 :: x8 :: x9 :: x10 :: x11 :: x12 :: x13 :: x14 :: x15 :: x16 :: x17 :: x18 :: some d :: r) m Q E = Q d m := by simp [wVar]
@[simp ↓] theorem gn_19 {x0 x1 x2 x3 x4 x5 x6 x7 x8 x9 x10 x11 x12 x13 x14 x15 x16 x17 x18 : Option D} {d : D} {x : Option D} {r : En} {m : Mem} {Q : En → Mem → Prop} : gN 19 d (x0 :: x1 :: x2 :: x3 :: x4 :: x5 :: x6 :: x7 :: x8 :: x9 :: x10 :: x11 :: x12 :: x13 :: x14 :: x15 :: x16 :: x17 :: x18 :: x :: r) m Q = Q (x0 :: x1 :: x2 :: x3 :: x4 :: x5 :: x6 :: x7 :: x8 :: x9 :: x10 :: x11 :: x12 :: x13 :: x14 :: x15 :: x16 :: x17 :: x18 :: some d :: r) m := rfl
@[simp ↓] theorem var_20 {x0 x1 x2 x3 x4 x5 x6 x7 x8 x9 x10 x11 x12 x13 x14 x15 x16 x17 x18 x19 : Option D} {d : D} {r : En} {m : Mem} {Q : Po} {E : Xo} : wVar 20 (x0 :: x1 :: x2 :: x3 :: x4 :: x5 :: x6 :: x7 :: x8 :: x9 :: x10 :: x11 :: x12 :: x13 :: x14 :: x15 :: x16 :: x17 :: x18 :: x19 :: some d :: r) m Q E = Q d m := by simp [wVar]
@[simp ↓] theorem gn_20 {x0 x1 x2 x3 x4 x5 x6 x7 x8 x9 x10 x11 x12 x13 x14 x15 x16 x17 x18 x19 : Option D} {d : D} {x : Option D} {r : En} {m : Mem} {Q : En → Mem → Prop} : gN 20 d (x0 :: x1 :: x2 :: x3 :: x4 :: x5 :: x6 :: x7 :: x8 :: x9 :: x10 :: x11 :: x12 :: x13 :: x14 :: x15 :: x16 :: x17 :: x18 :: x19 :: x :: r) m Q = Q (x0 :: x1 :: x2 :: x3 :: x4 :: x5 :: x6 :: x7 :: x8 :: x9 :: x10 :: x11 :: x12 :: x13 :: x14 :: x15 :: x16 :: x17 :: x18 :: x19 :: some d :: r) m := rfl
@[simp ↓] theorem var_21 {x0 x1 x2 x3 x4 x5 x6 x7 x8 x9 x10 x11 x12 x13 x14 x15 x16 x17 x18 x19 x20 : Option D} {d : D} {r : En} {m : Mem} {Q : Po} {E : Xo} : wVar 21 (x0 :: x1 :: x2 :: x3 :: x4 :: x5 :: x6 :: x7 :: x8 :: x9 :: x10 :: x11 :: x12 :: x13 :: x14 :: x15 :: x16 :: x17 :: x18 :: x19 :: x20 :: some d :: r) m Q E = Q d m := by simp [wVar]
@[simp ↓] theorem gn_21 {x0 x1 x2 x3 x4 x5 x6 x7 x8 x9 x10 x11 x12 x13 x14 x15 x16 x17 x18 x19 x20 : Option D} {d : D} {x : Option D} {r : En} {m : Mem} {Q : En → Mem → Prop} : gN 21 d (x0 :: x1 :: x2 :: x3 :: x4 :: x5 :: x6 :: x7 :: x8 :: x9 :: x10 :: x11 :: x12 :: x13 :: x14 :: x15 :: x16 :: x17 :: x18 :: x19 :: x20 :: x :: r) m Q = Q (x0 :: x1 :: x2 :: x3 :: x4 :: x5 :: x6 :: x7 :: x8 :: x9 :: x10 :: x11 :: x12 :: x13 :: x14 :: x15 :: x16 :: x17 :: x18 :: x19 :: x20 :: some d :: r) m := rfl
@[simp ↓] theorem var_22 {x0 x1 x2 x3 x4 x5 x6 x7 x8 x9 x10 x11 x12 x13 x14 x15 x16 x17 x18 x19 x20 x21 : Option D} {d : D} {r : En} {m : Mem} {Q : Po} {E : Xo} : wVar 22 (x0 :: x1 :: x2 :: x3 :: x4 :: x5 :: x6 :: x7 :: x8 :: x9 :: x10 :: x11 :: x12 :: x13 :: x14 :: x15 :: x16 :: x17 :: x18 :: x19 :: x20 :: x21 :: some d :: r) m Q E = Q d m := by simp [wVar]
@[simp ↓] theorem gn_22 {x0 x1 x2 x3 x4 x5 x6 x7 x8 x9 x10 x11 x12 x13 x14 x15 x16 x17 x18 x19 x20 x21 : Option D} {d : D} {x : Option D} {r : En} {m : Mem} {Q : En → Mem → Prop} : gN 22 d (x0 :: x1 :: x2 :: x3 :: x4 :: x5 :: x6 :: x7 :: x8 :: x9 :: x10 :: x11 :: x12 :: x13 :: x14 :: x15 :: x16 :: x17 :: x18 :: x19 :: x20 :: x21 :: x :: r) m Q = Q (x0 :: x1 :: x2 :: x3 :: x4 :: x5 :: x6 :: x7 :: x8 :: x9 :: x10 :: x11 :: x12 :: x13 :: x14 :: x15 :: x16 :: x17 :: x18 :: x19 :: x20 :: x21 :: some d :: r) m := rfl
@[simp ↓] theorem var_23 {x0 x1 x2 x3 x4 x5 x6 x7 x8 x9 x10 x11 x12 x13 x14 x15 x16 x17 x18 x19 x20 x21 x22 : Option D} {d : D} {r : En} {m : Mem} {Q : Po} {E : Xo} : wVar 23 (x0 :: x1 :: x2 :: x3 :: x4 :: x5 :: x6 :: x7 :: x8 :: x9 :: x10 :: x11 :: x12 :: x13 :: x14 :: x15 :: x16 :: x17 :: x18 :: x19 :: x20 :: x21 :: x22 :: some d :: r) m Q E = Q d m := by simp [wVar]
@[simp ↓] theorem gn_23 {x0 x1 x2 x3 x4 x5 x6 x7 x8 x9 x10 x11 x12 x13 x14 x15 x16 x17 x18 x19 x20 x21 x22 : Option D} {d : D} {x : Option D} {r : En} {m : Mem} {Q : En → Mem → Prop} : gN 23 d (x0 :: x1 :: x2 :: x3 :: x4 :: x5 :: x6 :: x7 :: x8 :: x9 :: x10 :: x11 :: x12 :: x13 :: x14 :: x15 :: x16 :: x17 :: x18 :: x19 :: x20 :: x21 :: x22 :: x :: r) m Q = Q (x0 :: x1 :: x2 :: x3 :: x4 :: x5 :: x6 :: x7 :: x8 :: x9 :: x10 :: x11 :: x12 :: x13 :: x14 :: x15 :: x16 :: x17 :: x18 :: x19 :: x20 :: x21 :: x22 :: some d :: r) m := rfl
@[simp ↓] theorem var_24 {x0 x1 x2 x3 x4 x5 x6 x7 x8 x9 x10 x11 x12 x13 x14 x15 x16 x17 x18 x19 x20 x21 x22 x23 : Option D} {d : D} {r : En} {m : Mem} {Q : Po} {E : Xo} : wVar 24 (x0 :: x1 :: x2 :: x3 :: x4 :: x5 :: x6 :: x7 :: x8 :: x9 :: x10 :: x11 :: x12 :: x13 :: x14 :: x15 :: x16 :: x17 :: x18 :: x19 :: x20 :: x21 :: x22 :: x23 :: some d :: r) m Q E = Q d m := by simp [wVar]
@[simp ↓] theorem gn_24 {x0 x1 x2 x3 x4 x5 x6 x7 x8 x9 x10 x11 x12 x13 x14 x15 x16 x17 x18 x19 x20 x21 x22 x23 : Option D} {d : D} {x : Option D} {r : En} {m : Mem} {Q : En → Mem → Prop} : gN 24 d (x0 :: x1 :: x2 :: x3 :: x4 :: x5 :: x6 :: x7 :: x8 :: x9 :: x10 :: x11 :: x12 :: x13 :: x14 :: x15 :: x16 :: x17 :: x18 :: x19 :: x20 :: x21 :: x22 :: x23 :: x :: r) m Q = Q (x0 :: x1 :: x2 :: x3 :: x4 :: x5 :: x6 :: x7 :: x8 :: x9 :: x10 :: x11 :: x12 :: x13 :: x14 :: x15 :: x16 :: x17 :: x18 :: x19 :: x20 :: x21 :: x22 :: x23 :: some d :: r) m := rfl
@[simp ↓] theorem var_25 {x0 x1 x2 x3 x4 x5 x6 x7 x8 x9 x10 x11 x12 x13 x14 x15 x16 x17 x18 x19 x20 x21 x22 x23 x24 : Option D} {d : D} {r : En} {m : Mem} {Q : Po} {E : Xo} : wVar 25 (x0 :: x1 :: x2 :: x3 :: x4 :: x5 :: x6 :: x7 :: x8 :: x9 :: x10 :: x11 :: x12 :: x13 :: x14 :: x15 :: x16 :: x17 :: x18 :: x19 :: x20 :: x21 :: x22 :: x23 :: x24 :: some d :: r) m Q E = Q d m := by simp [wVar]
@[simp ↓] theorem gn_25 {x0 x1 x2 x3 x4 x5 x6 x7 x8 x9 x10 x11 x12 x13 x14 x15 x16 x17 x18 x19 x20 x21 x22 x23 x24 : Option D} {d : D} {x : Option D} {r : En} {m : Mem} {Q : En → Mem → Prop} : gN 25 d (x0 :: x1 :: x2 :: x3 :: x4 :: x5 :: x6 :: x7 :: x8 :: x9 :: x10 :: x11 :: x12 :: x13 :: x14 :: x15 :: x16 :: x17 :: x18 :: x19 :: x20 :: x21 :: x22 :: x23 :: x24 :: x :: r) m Q = Q (x0 :: x1 :: x2 :: x3 :: x4 :: x5 :: x6 :: x7 :: x8 :: x9 :: x10 :: x11 :: x12 :: x13 :: x14 :: x15 :: x16 :: x17 :: x18 :: x19 :: x20 :: x21 :: x22 :: x23 :: x24 :: some d :: r) m := rfl

@[simp ↓] theorem ev_bin {f : WO} {wa wb : WE} {env : En} {m : Mem} {Q : Po} {E : Xo} : wBin f wa wb env m Q E = wa env m (fun x m1 => wb env m1 (fun y m2 => f x y m2 Q E) E) E := rfl
@[simp ↓] theorem ev_neg {wa : WE} {env : En} {m : Mem} {Q : Po} {E : Xo} : wNeg wa env m Q E = wa env m (fun x m1 => match x with | .int i => Q (.int (-i)) m1 | _ => False) E := rfl
@[simp ↓] theorem ev_truB {w : WE} {env : En} {m : Mem} {Q : Bool → Mem → Prop} {E : Xo} : wTruB w env m Q E = w env m (fun x m1 => match x with | .bl b => Q b m1 | _ => False) E := rfl
def truK (Q : Bool → Mem → Prop) (x : D) (m1 : Mem) : Prop := match x with
  | .bl b => Q b m1
  | .non => Q false m1
  | .int i => Q (i != 0) m1
  | .str z => z.length ≤ sizeLine ∧ Q ((z.length : Int) != 0) m1
  | x => ∃ xs, seqOf m1 x = some xs ∧ Q (!xs.isEmpty) m1
@[simp ↓] theorem ev_tru {w : WE} {env : En} {m : Mem} {Q : Bool → Mem → Prop} {E : Xo} : wTru w env m Q E = w env m (truK Q) E := by
  unfold wTru
  exact congrArg (fun z => w env m z E) (by funext x m1; cases x <;> rfl)
@[simp ↓] theorem truK_bl {Q : Bool → Mem → Prop} {b : Bool} {m : Mem} : truK Q (.bl b) m = Q b m := rfl
@[simp ↓] theorem truK_non {Q : Bool → Mem → Prop} {m : Mem} : truK Q .non m = Q false m := rfl
@[simp ↓] theorem truK_int {Q : Bool → Mem → Prop} {i : Int} {m : Mem} : truK Q (.int i) m = Q (i != 0) m := rfl
@[simp ↓] theorem truK_str {Q : Bool → Mem → Prop} {z : Str} {m : Mem} : truK Q (.str z) m = (z.length ≤ sizeLine ∧ Q ((z.length : Int) != 0) m) := rfl
@[simp ↓] theorem ev_notT {w : WT} {env : En} {m : Mem} {Q : Bool → Mem → Prop} {E : Xo} : wNotT w env m Q E = w env m (fun b m1 => Q (!b) m1) E := rfl
def AndK (wb : WT) (env : En) (Q : Bool → Mem → Prop) (E : Xo) (t : Tag Q) (b : Bool) (m1 : Mem) : Prop := if b = true then wb env m1 Q E else Q false m1
@[simp ↓] theorem AndK_t {wb : WT} {env : En} {Q : Bool → Mem → Prop} {E : Xo} {t : Tag Q} {m : Mem} : AndK wb env Q E t true m = wb env m Q E := rfl
@[simp ↓] theorem AndK_f {wb : WT} {env : En} {Q : Bool → Mem → Prop} {E : Xo} {t : Tag Q} {m : Mem} : AndK wb env Q E t false m = Q false m := rfl
theorem AndK_any {wb : WT} {env : En} {Q : Bool → Mem → Prop} {E : Xo} {t : Tag Q} {b : Bool} {m : Mem} : AndK wb env Q E t b m ↔ (b = true → wb env m Q E) ∧ (b = false → Q false m) := by cases b <;> simp
def OrK (wb : WT) (env : En) (Q : Bool → Mem → Prop) (E : Xo) (t : Tag Q) (b : Bool) (m1 : Mem) : Prop := if b = true then Q true m1 else wb env m1 Q E
@[simp ↓] theorem OrK_t {wb : WT} {env : En} {Q : Bool → Mem → Prop} {E : Xo} {t : Tag Q} {m : Mem} : OrK wb env Q E t true m = Q true m := rfl
@[simp ↓] theorem OrK_f {wb : WT} {env : En} {Q : Bool → Mem → Prop} {E : Xo} {t : Tag Q} {m : Mem} : OrK wb env Q E t false m = wb env m Q E := rfl
theorem OrK_any {wb : WT} {env : En} {Q : Bool → Mem → Prop} {E : Xo} {t : Tag Q} {b : Bool} {m : Mem} : OrK wb env Q E t b m ↔ (b = true → Q true m) ∧ (b = false → wb env m Q E) := by cases b <;> simp
@[simp ↓] theorem ev_and {wa wb : WT} {env : En} {m : Mem} {Q : Bool → Mem → Prop} {E : Xo} : wAndT wa wb env m Q E = wa env m (AndK wb env Q E .mk) E := rfl
@[simp ↓] theorem ev_or {wa wb : WT} {env : En} {m : Mem} {Q : Bool → Mem → Prop} {E : Xo} : wOrT wa wb env m Q E = wa env m (OrK wb env Q E .mk) E := rfl
def AndV (wb : WE) (env : En) (Q : Po) (E : Xo) (t : Tag Q) (x : D) (m1 : Mem) : Prop := match x with | .bl b => (if b = true then wb env m1 Q E else Q (.bl false) m1) | _ => False
@[simp ↓] theorem AndV_t {wb : WE} {env : En} {Q : Po} {E : Xo} {t : Tag Q} {m : Mem} : AndV wb env Q E t (.bl true) m = wb env m Q E := rfl
@[simp ↓] theorem AndV_f {wb : WE} {env : En} {Q : Po} {E : Xo} {t : Tag Q} {m : Mem} : AndV wb env Q E t (.bl false) m = Q (.bl false) m := rfl
theorem AndV_any {wb : WE} {env : En} {Q : Po} {E : Xo} {t : Tag Q} {b : Bool} {m : Mem} : AndV wb env Q E t (.bl b) m ↔ (b = true → wb env m Q E) ∧ (b = false → Q (.bl false) m) := by cases b <;> simp
def OrV (wb : WE) (env : En) (Q : Po) (E : Xo) (t : Tag Q) (x : D) (m1 : Mem) : Prop := match x with | .bl b => (if b = true then Q (.bl true) m1 else wb env m1 Q E) | _ => False
@[simp ↓] theorem OrV_t {wb : WE} {env : En} {Q : Po} {E : Xo} {t : Tag Q} {m : Mem} : OrV wb env Q E t (.bl true) m = Q (.bl true) m := rfl
@[simp ↓] theorem OrV_f {wb : WE} {env : En} {Q : Po} {E : Xo} {t : Tag Q} {m : Mem} : OrV wb env Q E t (.bl false) m = wb env m Q E := rfl
theorem OrV_any {wb : WE} {env : En} {Q : Po} {E : Xo} {t : Tag Q} {b : Bool} {m : Mem} : OrV wb env Q E t (.bl b) m ↔ (b = true → Q (.bl true) m) ∧ (b = false → wb env m Q E) := by cases b <;> simp
@[simp ↓] theorem ev_andV {wa wb : WE} {env : En} {m : Mem} {Q : Po} {E : Xo} : wAndV wa wb env m Q E = wa env m (AndV wb env Q E .mk) E := by
  unfold wAndV; exact congrArg (fun z => wa env m z E) (by funext x m1; cases x <;> rfl)
@[simp ↓] theorem ev_orV {wa wb : WE} {env : En} {m : Mem} {Q : Po} {E : Xo} : wOrV wa wb env m Q E = wa env m (OrV wb env Q E .mk) E := by
  unfold wOrV; exact congrArg (fun z => wa env m z E) (by funext x m1; cases x <;> rfl)
@[simp ↓] theorem ev_notV {wa : WE} {env : En} {m : Mem} {Q : Po} {E : Xo} : wNotV wa env m Q E = wa env m (fun x m1 => match x with | .bl b => Q (.bl (!b)) m1 | _ => False) E := rfl
def IteK (wa wb : WE) (env : En) (Q : Po) (E : Xo) (t : Tag Q) (b : Bool) (m1 : Mem) : Prop := if b = true then wa env m1 Q E else wb env m1 Q E
@[simp ↓] theorem IteK_t {wa wb : WE} {env : En} {Q : Po} {E : Xo} {t : Tag Q} {m : Mem} : IteK wa wb env Q E t true m = wa env m Q E := rfl
@[simp ↓] theorem IteK_f {wa wb : WE} {env : En} {Q : Po} {E : Xo} {t : Tag Q} {m : Mem} : IteK wa wb env Q E t false m = wb env m Q E := rfl
theorem IteK_any {wa wb : WE} {env : En} {Q : Po} {E : Xo} {t : Tag Q} {b : Bool} {m : Mem} : IteK wa wb env Q E t b m ↔ (b = true → wa env m Q E) ∧ (b = false → wb env m Q E) := by cases b <;> simp
@[simp ↓] theorem ev_ite {wt : WT} {wa wb : WE} {env : En} {m : Mem} {Q : Po} {E : Xo} : wIte wt wa wb env m Q E = wt env m (IteK wa wb env Q E .mk) E := rfl
@[simp ↓] theorem ev_nil {env : En} {m : Mem} {Q : List D → Mem → Prop} {E : Xo} : wNil env m Q E = Q [] m := rfl
@[simp ↓] theorem ev_cons {we : WE} {wr : WA} {env : En} {m : Mem} {Q : List D → Mem → Prop} {E : Xo} : wCons we wr env m Q E = we env m (fun d m1 => wr env m1 (fun ds m2 => Q (d :: ds) m2) E) E := rfl
@[simp ↓] theorem ev_tup {wa : WA} {env : En} {m : Mem} {Q : Po} {E : Xo} : wTup wa env m Q E = wa env m (fun ds m1 => ds.length ≤ sizeLine ∧ Q (.tup ds) m1) E := rfl
@[simp ↓] theorem ev_lst {wa : WA} {env : En} {m : Mem} {Q : Po} {E : Xo} : wLst wa env m Q E = wa env m (fun ds m1 => ds.length ≤ sizeLine ∧ Q (.lst ds) m1) E := rfl
@[simp ↓] theorem ev_lstM {wa : WA} {env : En} {m : Mem} {Q : Po} {E : Xo} : wLstM wa env m Q E = wa env m (fun ds m1 => ds.length ≤ sizeLine ∧ ∀ p, m1 p = none → Q (.ref p) (m1.put p (.lst ds))) E := rfl
def frzK (Q : Po) (d : D) (m1 : Mem) : Prop := match d with
  | .ref p => (match m1 p with
    | some (.lst xs) => Q (.lst xs) (m1.del p)
    | _ => Q (.ref p) m1)
  | d => Q d m1
def frzO (Q : Po) (p : Addr) (m : Mem) (o : Option (List D)) : Prop := match o with
  | some xs => Q (.lst xs) (m.del p)
  | none => Q (.ref p) m
@[simp ↓] theorem frzO_ {Q : Po} {p : Addr} {m : Mem} {xs : List D} : frzO Q p m (some xs) = Q (.lst xs) (m.del p) := rfl
@[simp ↓] theorem ev_frz {w : WE} {env : En} {m : Mem} {Q : Po} {E : Xo} : wFrz w env m Q E = w env m (frzK Q) E := by
  unfold wFrz; exact congrArg (fun z => w env m z E) (by funext x m1; cases x <;> rfl)
@[simp ↓] theorem frzK_ref {Q : Po} {p : Addr} {m : Mem} : frzK Q (.ref p) m = frzO Q p m (lstOf m (.ref p)) := by
  simp only [frzK, lstOf, frzO]
  cases m p with
  | none => rfl
  | some c => cases c <;> rfl
@[simp ↓] theorem ixD_str {z : Str} {i : Int} {m : Mem} {Q : Po} {E : Xo} : ixD (.str z) (.int i) m Q E = Is (atI z.cps.toList i) (fun c => z.length ≤ sizeLine ∧ Q (.str ⟨#[c]⟩) m) .mk := by simp [ixD, Is]; exact ⟨fun ⟨a, c, b, d⟩ => ⟨c, b, a, d⟩, fun ⟨c, b, a, d⟩ => ⟨a, c, b, d⟩⟩
@[simp ↓] theorem ixD_tup {xs : List D} {i : Int} {m : Mem} {Q : Po} {E : Xo} : ixD (.tup xs) (.int i) m Q E = Is (atI xs i) (fun d => Q d m) .mk := by simp [ixD, Is]
@[simp ↓] theorem ixD_lst {xs : List D} {i : Int} {m : Mem} {Q : Po} {E : Xo} : ixD (.lst xs) (.int i) m Q E = Is (atI xs i) (fun d => Q d m) .mk := by simp [ixD, Is]
@[simp ↓] theorem ixD_klst {xs : List D} {i : Int} {m : Mem} {Q : Po} {E : Xo} : ixD (.klst xs) (.int i) m Q E = Is (atI xs i) (fun d => Q d m) .mk := by simp [ixD, Is]
@[simp ↓] theorem ixD_ref {p : Addr} {i : Int} {m : Mem} {Q : Po} {E : Xo} : ixD (.ref p) (.int i) m Q E = Is (lstOf m (.ref p)) (fun xs => Is (atI xs i) (fun d => Q d m) .mk) .mk := by simp [ixD, Is, seqOf, lstOf]
@[simp ↓] theorem ev_pno {env : En} {m : Mem} {Q : Option Int → Mem → Prop} {E : Xo} : wPno env m Q E = Q none m := rfl
@[simp ↓] theorem ev_pso {w : WE} {env : En} {m : Mem} {Q : Option Int → Mem → Prop} {E : Xo} : wPso w env m Q E = w env m (fun d m1 => match d with | .int i => Q (some i) m1 | _ => False) E := rfl
@[simp ↓] theorem ev_sl {we : WE} {wl wh : WPt} {env : En} {m : Mem} {Q : Po} {E : Xo} : wSl we wl wh env m Q E = we env m (fun x m1 => wl env m1 (fun lo m2 => wh env m2 (fun hi m3 => slD x lo hi m3 Q) E) E) E := rfl
@[simp ↓] theorem slD_tup {xs : List D} {lo hi : Option Int} {m : Mem} {Q : Po} : slD (.tup xs) lo hi m Q = Q (.tup (cutD xs lo hi)) m := rfl
@[simp ↓] theorem slD_lst {xs : List D} {lo hi : Option Int} {m : Mem} {Q : Po} : slD (.lst xs) lo hi m Q = Q (.lst (cutD xs lo hi)) m := by simp [slD]
@[simp ↓] theorem slD_ref {p : Addr} {lo hi : Option Int} {m : Mem} {Q : Po} : slD (.ref p) lo hi m Q = Is (lstOf m (.ref p)) (fun xs => Q (.lst (cutD xs lo hi)) m) .mk := rfl
@[simp ↓] theorem ev_CB {f : FB} {wa : WA} {env : En} {m : Mem} {Q : Po} {E : Xo} : wCB f wa env m Q E = wa env m (fun ds m1 => f ds m1 Q) E := rfl
@[simp ↓] theorem ev_star {we : WE} {wr : WA} {env : En} {m : Mem} {Q : List D → Mem → Prop} {E : Xo} : wStar we wr env m Q E = we env m (fun d m1 => Is (seqOf m1 d) (fun xs => wr env m1 (fun ds m2 => Q (xs ++ ds) m2) E) .mk) E := rfl
@[simp ↓] theorem ev_call {sp : SpD} {n : Nat} {wa wk : WA} {env : En} {m : Mem} {Q : Po} {E : Xo} : wCall sp n wa wk env m Q E = wa env m (fun ds m1 => wk env m1 (fun es m2 => es.length = n ∧ App sp (ds ++ es) m2 Q E .mk) E) E := rfl
/-! ### operators -/
@[simp ↓] theorem add_i {i j : Int} {m : Mem} {Q : Po} {E : Xo} : addD (.int i) (.int j) m Q E = Q (.int (i + j)) m := rfl
@[simp ↓] theorem add_s {a b : Str} {m : Mem} {Q : Po} {E : Xo} : addD (.str a) (.str b) m Q E = (a.length + b.length ≤ sizeLine ∧ Q (.str (a ++ b)) m) := rfl
@[simp ↓] theorem add_t {a b : List D} {m : Mem} {Q : Po} {E : Xo} : addD (.tup a) (.tup b) m Q E = (a.length + b.length ≤ sizeLine ∧ Q (.tup (a ++ b)) m) := rfl
@[simp ↓] theorem add_l {a b : List D} {m : Mem} {Q : Po} {E : Xo} : addD (.lst a) (.lst b) m Q E = (a.length + b.length ≤ sizeLine ∧ Q (.lst (a ++ b)) m) := by simp [addD]
@[simp ↓] theorem add_rl {p : Addr} {b : List D} {m : Mem} {Q : Po} {E : Xo} : addD (.ref p) (.lst b) m Q E = Is (lstOf m (.ref p)) (fun xs => xs.length + b.length ≤ sizeLine ∧ Q (.lst (xs ++ b)) m) .mk := by simp [addD, Is]
@[simp ↓] theorem add_lr {p : Addr} {a : List D} {m : Mem} {Q : Po} {E : Xo} : addD (.lst a) (.ref p) m Q E = Is (lstOf m (.ref p)) (fun ys => a.length + ys.length ≤ sizeLine ∧ Q (.lst (a ++ ys)) m) .mk := by simp [addD, Is]
@[simp ↓] theorem sub_i {i j : Int} {m : Mem} {Q : Po} {E : Xo} : subD (.int i) (.int j) m Q E = Q (.int (i - j)) m := rfl
@[simp ↓] theorem mul_i {i j : Int} {m : Mem} {Q : Po} {E : Xo} : mulD (.int i) (.int j) m Q E = (CMul i j ∧ Q (.int (i * j)) m) := rfl
@[simp ↓] theorem fdiv_i {i j : Int} {m : Mem} {Q : Po} {E : Xo} : fdivD (.int i) (.int j) m Q E = (CDiv i j ∧ Q (.int (i / j)) m) := rfl
@[simp ↓] theorem mod_i {i j : Int} {m : Mem} {Q : Po} {E : Xo} : modD (.int i) (.int j) m Q E = (0 < j ∧ Q (.int (i % j)) m) := rfl
@[simp ↓] theorem pow_i {i j : Int} {m : Mem} {Q : Po} {E : Xo} : powD (.int i) (.int j) m Q E = (CPow i j ∧ Q (.int (i ^ j.toNat)) m) := rfl
@[simp ↓] theorem lt_i {i j : Int} {m : Mem} {Q : Po} {E : Xo} : ltD (.int i) (.int j) m Q E = Q (.bl (decide (i < j))) m := rfl
@[simp ↓] theorem le_i {i j : Int} {m : Mem} {Q : Po} {E : Xo} : leD (.int i) (.int j) m Q E = Q (.bl (decide (i ≤ j))) m := rfl
@[simp ↓] theorem gt_i {i j : Int} {m : Mem} {Q : Po} {E : Xo} : gtD (.int i) (.int j) m Q E = Q (.bl (decide (j < i))) m := rfl
@[simp ↓] theorem ge_i {i j : Int} {m : Mem} {Q : Po} {E : Xo} : geD (.int i) (.int j) m Q E = Q (.bl (decide (j ≤ i))) m := rfl
@[simp ↓] theorem eq_i {i j : Int} {m : Mem} {Q : Po} {E : Xo} : eqD (.int i) (.int j) m Q E = Q (.bl (decide (i = j))) m := rfl
@[simp ↓] theorem eq_s {i j : Str} {m : Mem} {Q : Po} {E : Xo} : eqD (.str i) (.str j) m Q E = Q (.bl (decide (i = j))) m := rfl
@[simp ↓] theorem ne_i {i j : Int} {m : Mem} {Q : Po} {E : Xo} : neD (.int i) (.int j) m Q E = Q (.bl (!decide (i = j))) m := rfl
@[simp ↓] theorem ne_s {i j : Str} {m : Mem} {Q : Po} {E : Xo} : neD (.str i) (.str j) m Q E = Q (.bl (!decide (i = j))) m := rfl
@[simp ↓] theorem isn_ {x y : D} {m : Mem} {Q : Po} {E : Xo} : isnD x y m Q E = (y = .non ∧ Q (.bl (match x with | .non => true | _ => false)) m) := rfl
@[simp ↓] theorem notn_ {x y : D} {m : Mem} {Q : Po} {E : Xo} : notnD x y m Q E = (y = .non ∧ Q (.bl (match x with | .non => false | _ => true)) m) := rfl
@[simp ↓] theorem dget_ {x y : D} {m : Mem} {Q : Po} {E : Xo} : dgetD x y m Q E = Is (dctOf m x) (fun kvs => Is (keyD y) (fun k => Is (valD kvs k) (fun d => Q d m) .mk) .mk) .mk := by simp [dgetD, Is]
@[simp ↓] theorem din_ {x y : D} {m : Mem} {Q : Po} {E : Xo} : dinD x y m Q E = Is (dctOf m y) (fun kvs => Is (keyD x) (fun k => Q (.bl (valD kvs k).isSome) m) .mk) .mk := by simp [dinD, Is]
@[simp ↓] theorem dnin_ {x y : D} {m : Mem} {Q : Po} {E : Xo} : dninD x y m Q E = Is (dctOf m y) (fun kvs => Is (keyD x) (fun k => Q (.bl (!(valD kvs k).isSome)) m) .mk) .mk := by simp [dninD, Is]
@[simp ↓] theorem ev_dnew {env : En} {m : Mem} {Q : Po} {E : Xo} : wDNew env m Q E = ∀ p, m p = none → Q (.ref p) (m.put p (.dct [])) := rfl
@[simp ↓] theorem in_tup {a : Str} {ys : List D} {m : Mem} {Q : Po} {E : Xo} : inD (.str a) (.tup ys) m Q E = (ys.all flatD = true ∧ Q (.bl (inF (.str a) ys)) m) := by simp [inD, flatD]
@[simp ↓] theorem in_lst {a : Str} {ys : List D} {m : Mem} {Q : Po} {E : Xo} : inD (.str a) (.lst ys) m Q E = (ys.all flatD = true ∧ Q (.bl (inF (.str a) ys)) m) := by simp [inD, flatD]
@[simp ↓] theorem in_klst {a : Str} {ys : List D} {m : Mem} {Q : Po} {E : Xo} : inD (.str a) (.klst ys) m Q E = (ys.all flatD = true ∧ Q (.bl (inF (.str a) ys)) m) := by simp [inD, flatD]
@[simp ↓] theorem in_ref {a : Str} {p : Addr} {m : Mem} {Q : Po} {E : Xo} : inD (.str a) (.ref p) m Q E = Is (lstOf m (.ref p)) (fun ys => ys.all flatD = true ∧ Q (.bl (inF (.str a) ys)) m) .mk := by simp [inD, flatD, Is, seqOf, lstOf]
@[simp ↓] theorem nin_tup {a : Str} {ys : List D} {m : Mem} {Q : Po} {E : Xo} : ninD (.str a) (.tup ys) m Q E = (ys.all flatD = true ∧ Q (.bl (!inF (.str a) ys)) m) := by simp [ninD, flatD]
@[simp ↓] theorem nin_lst {a : Str} {ys : List D} {m : Mem} {Q : Po} {E : Xo} : ninD (.str a) (.lst ys) m Q E = (ys.all flatD = true ∧ Q (.bl (!inF (.str a) ys)) m) := by simp [ninD, flatD]
@[simp ↓] theorem nin_klst {a : Str} {ys : List D} {m : Mem} {Q : Po} {E : Xo} : ninD (.str a) (.klst ys) m Q E = (ys.all flatD = true ∧ Q (.bl (!inF (.str a) ys)) m) := by simp [ninD, flatD]
@[simp ↓] theorem nin_ref {a : Str} {p : Addr} {m : Mem} {Q : Po} {E : Xo} : ninD (.str a) (.ref p) m Q E = Is (lstOf m (.ref p)) (fun ys => ys.all flatD = true ∧ Q (.bl (!inF (.str a) ys)) m) .mk := by simp [ninD, flatD, Is, seqOf, lstOf]

@[simp] theorem flat_strs (ns : List Str) : (ns.map D.str).all flatD = true := by simp [flatD]
theorem inF_strs (a : Str) (ns : List Str) : inF (.str a) (ns.map D.str) = decide (a ∈ ns) := by
  unfold inF
  induction ns with
  | nil => simp
  | cons b r ih =>
    rw [List.map_cons, List.any_cons, ih]
    simp only [eqF, List.mem_cons]
    by_cases h : b = a
    · subst h; simp
    · have h' : ¬ a = b := fun z => h z.symm
      simp [h, h']
@[simp] theorem inF_strs' (a : Str) (ns : List Str) : inF (.str a) (ns.map D.str) = decide (a ∈ ns) := inF_strs a ns
/-! ### built-ins -/
@[simp ↓] theorem fLen_str {z : Str} {m : Mem} {Q : Po} : fLen [.str z] m Q = (z.length ≤ sizeLine ∧ Q (.int z.length) m) := rfl
@[simp ↓] theorem fLen_tup {xs : List D} {m : Mem} {Q : Po} : fLen [.tup xs] m Q = Q (.int xs.length) m := by simp [fLen]
@[simp ↓] theorem fLen_lst {xs : List D} {m : Mem} {Q : Po} : fLen [.lst xs] m Q = Q (.int xs.length) m := by simp [fLen]
@[simp ↓] theorem fLen_klst {xs : List D} {m : Mem} {Q : Po} : fLen [.klst xs] m Q = Q (.int xs.length) m := by simp [fLen]
@[simp ↓] theorem fLen_ref {p : Addr} {m : Mem} {Q : Po} : fLen [.ref p] m Q = Is (lstOf m (.ref p)) (fun xs => Q (.int xs.length) m) .mk := by simp [fLen, Is, seqOf, lstOf]
@[simp ↓] theorem fMin_i {i j : Int} {m : Mem} {Q : Po} : fMin2 [.int i, .int j] m Q = Q (.int (if j < i then j else i)) m := rfl
@[simp ↓] theorem fMax_i {i j : Int} {m : Mem} {Q : Po} : fMax2 [.int i, .int j] m Q = Q (.int (if j > i then j else i)) m := rfl
@[simp ↓] theorem fTuple_ {d : D} {m : Mem} {Q : Po} : fTuple [d] m Q = Is (seqOf m d) (fun xs => Q (.tup xs) m) .mk := rfl
@[simp ↓] theorem fList_ {d : D} {m : Mem} {Q : Po} : fList [d] m Q = Is (seqOf m d) (fun xs => Q (.lst xs) m) .mk := rfl
@[simp ↓] theorem fListM_ {d : D} {m : Mem} {Q : Po} : fListM [d] m Q = Is (seqOf m d) (fun xs => ∀ p, m p = none → Q (.ref p) (m.put p (.lst xs))) .mk := rfl
@[simp ↓] theorem fStrI_ {i : Int} {m : Mem} {Q : Po} : fStrI [.int i] m Q = (i.natAbs.log2 < 1920 ∧ Q (.str (toString i)) m) := rfl
@[simp ↓] theorem fAny_ {d : D} {m : Mem} {Q : Po} : fAny [d] m Q = Is (lstOf m d) (fun xs => Is (bools xs) (fun bs => Q (.bl (bs.any id)) m) .mk) .mk := by simp [fAny, Is]
@[simp ↓] theorem fAll_ {d : D} {m : Mem} {Q : Po} : fAll [d] m Q = Is (lstOf m d) (fun xs => Is (bools xs) (fun bs => Q (.bl (bs.all id)) m) .mk) .mk := by simp [fAll, Is]
@[simp ↓] theorem fSumL_ {d : D} {ys : List D} {m : Mem} {Q : Po} : fSumL [d, .lst ys] m Q = Is (lstOf m d) (fun xs => Is (lists m xs) (fun xss => ys.length + xss.flatten.length ≤ sizeLine ∧ Q (.lst (ys ++ xss.flatten)) m) .mk) .mk := by simp [fSumL, Is]
@[simp ↓] theorem fSorted_ {d : D} {m : Mem} {Q : Po} : fSortedS [d] m Q = Is (seqOf m d) (fun xs => Is (strsD xs) (fun ss => ss.length ≤ sizeLine ∧ ∀ ys : List Str, ys.Perm ss → PyProof.Rows.sortedS ys = true → Q (.lst (ys.map D.str)) m) .mk) .mk := by simp [fSortedS, Is]
@[simp ↓] theorem fIsi_ {d : D} {n : String} {m : Mem} {Q : Po} : fIsi [d, .ty n] m Q = Is (tyD m d) (fun t => Is (kitB t n) (fun b => Q (.bl b) m) .mk) .mk := by simp [fIsi, Is]
def appK (we : WE) (env : En) (Q : Po) (E : Xo) (o : D) (m1 : Mem) : Prop := match o with
  | .ref p => (∃ xs, m1 p = some (.lst xs)) ∧ we env m1 (fun d m2 => ∃ xs, m2 p = some (.lst xs) ∧ xs.length < sizeLine ∧ Q .non (m2.put p (.lst (xs ++ [d])))) E
  | _ => False
@[simp ↓] theorem ev_append {wo we : WE} {env : En} {m : Mem} {Q : Po} {E : Xo} : wAppend wo we env m Q E = wo env m (appK we env Q E) E := by
  unfold wAppend; exact congrArg (fun z => wo env m z E) (by funext x m1; cases x <;> rfl)
@[simp ↓] theorem appK_ {we : WE} {env : En} {Q : Po} {E : Xo} {p : Addr} {m1 : Mem} : appK we env Q E (.ref p) m1 = ((lstOf m1 (.ref p)).isSome = true ∧ we env m1 (fun d m2 => Is (lstOf m2 (.ref p)) (fun xs => xs.length < sizeLine ∧ Q .non (m2.put p (.lst (xs ++ [d])))) .mk) E) := by simp [appK, Is, lst_iff, Option.isSome_iff_exists]
def popK (Q : Po) (o : D) (m1 : Mem) : Prop := match o with
  | .ref p => ∃ xs y, m1 p = some (.lst xs) ∧ xs[xs.length - 1]? = some y ∧ Q y (m1.put p (.lst xs.dropLast))
  | _ => False
@[simp ↓] theorem ev_pop {wo : WE} {env : En} {m : Mem} {Q : Po} {E : Xo} : wPop wo env m Q E = wo env m (popK Q) E := by
  unfold wPop; exact congrArg (fun z => wo env m z E) (by funext x m1; cases x <;> rfl)
@[simp ↓] theorem popK_ {Q : Po} {p : Addr} {m1 : Mem} : popK Q (.ref p) m1 = Is (lstOf m1 (.ref p)) (fun xs => Is (xs[xs.length - 1]?) (fun y => Q y (m1.put p (.lst xs.dropLast))) .mk) .mk := by simp [popK, Is, lst_iff]
def popiK (p : Addr) (Q : Po) (d : D) (m2 : Mem) : Prop := match d with
  | .int i => ∃ xs k y, m2 p = some (.lst xs) ∧ -(2 ^ 63) ≤ i ∧ i < 2 ^ 63 ∧ seqIndex? i xs.length = some k ∧ xs[k]? = some y ∧ Q y (m2.put p (.lst (xs.eraseIdx k)))
  | _ => False
def popatK (wi : WE) (env : En) (Q : Po) (E : Xo) (o : D) (m1 : Mem) : Prop := match o with
  | .ref p => (∃ xs, m1 p = some (.lst xs)) ∧ wi env m1 (popiK p Q) E
  | _ => False
@[simp ↓] theorem ev_popat {wo wi : WE} {env : En} {m : Mem} {Q : Po} {E : Xo} : wPopAt wo wi env m Q E = wo env m (popatK wi env Q E) E := by
  unfold wPopAt; refine congrArg (fun z => wo env m z E) (by funext x m1; cases x <;> first | rfl | skip; exact congrArg (fun z => (∃ xs, m1 _ = some (Cell.lst xs)) ∧ wi env m1 z E) (by funext d m2; cases d <;> rfl))
@[simp ↓] theorem popatK_ {wi : WE} {env : En} {Q : Po} {E : Xo} {p : Addr} {m1 : Mem} : popatK wi env Q E (.ref p) m1 = ((lstOf m1 (.ref p)).isSome = true ∧ wi env m1 (popiK p Q) E) := by simp [popatK, lst_iff, Option.isSome_iff_exists]
@[simp ↓] theorem popiK_ {p : Addr} {Q : Po} {i : Int} {m2 : Mem} : popiK p Q (.int i) m2 = Is (lstOf m2 (.ref p)) (fun xs => (-(2 ^ 63) ≤ i ∧ i < 2 ^ 63) ∧ Is (seqIndex? i xs.length) (fun k => Is (xs[k]?) (fun y => Q y (m2.put p (.lst (xs.eraseIdx k)))) .mk) .mk) .mk := by simp [popiK, Is, lst_iff]; exact ⟨fun ⟨xs, a, b, c, k, d, y, e, f⟩ => ⟨xs, a, ⟨b, c⟩, k, d, y, e, f⟩, fun ⟨xs, a, ⟨b, c⟩, k, d, y, e, f⟩ => ⟨xs, a, b, c, k, d, y, e, f⟩⟩
/-! ### statements -/
@[simp ↓] theorem ev_sNil {D : De} {env : En} {m : Mem} : sNil D env m = D.nx env m := rfl
@[simp ↓] theorem ev_sPass {D : De} {env : En} {m : Mem} : sPass D env m = D.nx env m := rfl
@[simp ↓] theorem ev_sBrk {D : De} {env : En} {m : Mem} : sBrk D env m = D.bk env m := rfl
@[simp ↓] theorem ev_sCnt {D : De} {env : En} {m : Mem} : sCnt D env m = D.ct env m := rfl
@[simp ↓] theorem ev_seq {a b : WS} {D : De} {env : En} {m : Mem} : sSeq a b D env m = a (D.next (Later b D)) env m := rfl
@[simp ↓] theorem ev_drop {w : WE} {D : De} {env : En} {m : Mem} : sDrop w D env m = w env m (fun _ m1 => D.nx env m1) (fun x m1 => D.xc x env m1) := rfl
@[simp ↓] theorem ev_ret {w : WE} {D : De} {env : En} {m : Mem} : sRet w D env m = w env m (fun d m1 => D.rt d m1) (fun x m1 => D.xc x env m1) := rfl
@[simp ↓] theorem ev_retN {D : De} {env : En} {m : Mem} : sRetN D env m = D.rt .non m := rfl
@[simp ↓] theorem ev_if {w : WT} {a b : WS} {D : De} {env : En} {m : Mem} : sIf w a b D env m = w env m (Br a b D env) (fun x m1 => D.xc x env m1) := rfl
@[simp ↓] theorem ev_asg {w : WE} {g : WG} {D : De} {env : En} {m : Mem} : sAsg w g D env m = w env m (fun d m1 => g d env m1 D.nx) (fun x m1 => D.xc x env m1) := rfl
def par2K (i j : Nat) (D : De) (env : En) (ds : List DL.D) (m1 : Mem) : Prop := ∃ u v, ds = [u, v] ∧ D.nx ((env.set i (some u)).set j (some v)) m1
@[simp ↓] theorem par2K_ {i j : Nat} {Z : De} {env : En} {u v : D} {m1 : Mem} : par2K i j Z env [u, v] m1 = Z.nx ((env.set i (some u)).set j (some v)) m1 := by
  unfold par2K
  apply propext
  constructor
  · rintro ⟨a, b, e, h⟩; cases e; exact h
  · intro h; exact ⟨u, v, rfl, h⟩
@[simp ↓] theorem ev_par2 {i j : Nat} {wa : WA} {Z : De} {env : En} {m : Mem} : sPar2 i j wa Z env m = wa env m (par2K i j Z env) (fun x m1 => Z.xc x env m1) := rfl
def par3K (i j l : Nat) (D : De) (env : En) (ds : List DL.D) (m1 : Mem) : Prop := ∃ u v w, ds = [u, v, w] ∧ D.nx (((env.set i (some u)).set j (some v)).set l (some w)) m1
@[simp ↓] theorem par3K_ {i j l : Nat} {Z : De} {env : En} {u v w : D} {m1 : Mem} : par3K i j l Z env [u, v, w] m1 = Z.nx (((env.set i (some u)).set j (some v)).set l (some w)) m1 := by
  unfold par3K
  apply propext
  constructor
  · rintro ⟨a, b, c, e, h⟩; cases e; exact h
  · intro h; exact ⟨u, v, w, rfl, h⟩
@[simp ↓] theorem ev_par3 {i j l : Nat} {wa : WA} {Z : De} {env : En} {m : Mem} : sPar3 i j l wa Z env m = wa env m (par3K i j l Z env) (fun x m1 => Z.xc x env m1) := rfl
@[simp ↓] theorem ev_gtup {n : Nat} {gs : WGs} {ds : List D} {env : En} {m : Mem} {Q : En → Mem → Prop} : gTup n gs (.tup ds) env m Q = (ds.length = n ∧ gs ds env m Q) := rfl
@[simp ↓] theorem ev_gcons {g : WG} {gs : WGs} {d : D} {r : List D} {env : En} {m : Mem} {Q : En → Mem → Prop} : gsCons g gs (d :: r) env m Q = g d env m (fun env' m' => gs r env' m' Q) := propext ⟨fun ⟨_, _, e, h⟩ => by cases e; exact h, fun h => ⟨d, r, rfl, h⟩⟩
@[simp ↓] theorem ev_gnil {env : En} {m : Mem} {Q : En → Mem → Prop} : gsNil [] env m Q = Q env m := by simp [gsNil]
def subK (v : D) (env : En) (Q : En → Mem → Prop) (o i : D) (m2 : Mem) : Prop := match o, i with
  | .ref p, .int k => ∃ xs j, m2 p = some (.lst xs) ∧ ixN xs.length k = some j ∧ Q env (m2.put p (.lst (xs.set j v)))
  | _, _ => False
@[simp ↓] theorem ev_gsubl {wo wi : WE} {v : D} {env : En} {m : Mem} {Q : En → Mem → Prop} : gSubL wo wi v env m Q = wo env m (fun o m1 => wi env m1 (fun i m2 => subK v env Q o i m2) (fun _ _ => False)) (fun _ _ => False) := by
  unfold gSubL subK
  rfl
@[simp ↓] theorem subK_ {v : D} {env : En} {Q : En → Mem → Prop} {p : Addr} {k : Int} {m2 : Mem} : subK v env Q (.ref p) (.int k) m2 = Is (lstOf m2 (.ref p)) (fun xs => Is (ixN xs.length k) (fun j => Q env (m2.put p (.lst (xs.set j v)))) .mk) .mk := by simp [subK, Is, lst_iff]
def dputK (Z : De) (env : En) (o i d : D) (m3 : Mem) : Prop := ∃ p kvs k, o = .ref p ∧ m3 p = some (.dct kvs) ∧ keyD i = some k ∧ kvs.length < sizeLine ∧ Z.nx env (m3.put p (.dct (putD kvs k d)))
@[simp ↓] theorem dputK_ {Z : De} {env : En} {p : Addr} {i d : D} {m3 : Mem} : dputK Z env (.ref p) i d m3 = Is (dctOf m3 (.ref p)) (fun kvs => Is (keyD i) (fun k => kvs.length < sizeLine ∧ Z.nx env (m3.put p (.dct (putD kvs k d)))) .mk) .mk := by simp [dputK, Is, dct_iff]
@[simp ↓] theorem ev_dput {wo wi wv : WE} {Z : De} {env : En} {m : Mem} : sDput wo wi wv Z env m = wv env m (fun d m1 => wo env m1 (fun o m2 => wi env m2 (fun i m3 => dputK Z env o i d m3) (fun x m' => Z.xc x env m')) (fun x m' => Z.xc x env m')) (fun x m' => Z.xc x env m') := rfl
@[simp ↓] theorem ev_ddel {wo wi : WE} {Z : De} {env : En} {m : Mem} : sDdel wo wi Z env m = wo env m (fun o m2 => wi env m2 (fun i m3 => ∃ p kvs k, o = .ref p ∧ m3 p = some (.dct kvs) ∧ keyD i = some k ∧ (valD kvs k).isSome = true ∧ Z.nx env (m3.put p (.dct (dropD kvs k)))) (fun x m' => Z.xc x env m')) (fun x m' => Z.xc x env m') := rfl
/-! ### loops, comprehensions: shut -/
def SeqX (d : D) (m1 : Mem) (R : List D → (Mem → Prop) → Prop) : Prop := ∃ ds, seqOf m1 d = some ds ∧ R ds (fun m' => seqOf m' d = some ds)
def ForB (g : WG) (wb : WS) (Z : De) (env : En) (m1 : Mem) (ds : List D) (keep : Mem → Prop) : Prop := ∃ Iv : List D → List D → En → Mem → Prop, Iv [] ds env m1 ∧
    (∀ done d rest env m, ds = done ++ d :: rest → Iv done (d :: rest) env m → keep m ∧ g d env m (fun e2 m2 => wb (Z.loop (Iv (done ++ [d]) rest)) e2 m2)) ∧
    ∀ env m, Iv ds [] env m → keep m ∧ Z.nx env m
def ForX (g : WG) (wb : WS) (Z : De) (env : En) (d : D) (m1 : Mem) : Prop := ∃ ds, seqOf m1 d = some ds ∧ ForB g wb Z env m1 ds (fun m' => seqOf m' d = some ds)
@[simp ↓] theorem ev_for {w : WE} {g : WG} {wb : WS} {Z : De} {env : En} {m : Mem} : sFor (wiSeq w) g wb Z env m = w env m (ForX g wb Z env) (fun x m1 => Z.xc x env m1) := rfl
def ForR (g : WG) (wb : WS) (Z : De) (env : En) (j : Int) (m1 : Mem) : Prop := ForB g wb Z env m1 (rngD 0 j.toNat) (fun _ => True)
def rngK (g : WG) (wb : WS) (Z : De) (env : En) (ds : List D) (m1 : Mem) : Prop := ∃ j : Int, ds = [.int j] ∧ -(2 ^ 62) ≤ j ∧ j < 2 ^ 62 ∧ ForR g wb Z env j m1
@[simp ↓] theorem ev_forR {wa : WA} {g : WG} {wb : WS} {Z : De} {env : En} {m : Mem} : sFor (wiRng1 wa) g wb Z env m = wa env m (rngK g wb Z env) (fun x m1 => Z.xc x env m1) := rfl
@[simp ↓] theorem rngK_ {g : WG} {wb : WS} {Z : De} {env : En} {j : Int} {m1 : Mem} : rngK g wb Z env [.int j] m1 = (-(2 ^ 62) ≤ j ∧ j < 2 ^ 62 ∧ ForR g wb Z env j m1) := by
  unfold rngK
  apply propext
  constructor
  · rintro ⟨i, e, r⟩; cases e; exact r
  · rintro r; exact ⟨j, rfl, r⟩
def WhB (wb : WS) (D : De) (env : En) (P : En → Mem → Prop) (b : Bool) (m1 : Mem) : Prop := if b = true then wb (D.loop P) env m1 else D.nx env m1
@[simp ↓] theorem WhB_t {wb : WS} {D : De} {env : En} {P : En → Mem → Prop} {m1 : Mem} : WhB wb D env P true m1 = wb (D.loop P) env m1 := rfl
@[simp ↓] theorem WhB_f {wb : WS} {D : De} {env : En} {P : En → Mem → Prop} {m1 : Mem} : WhB wb D env P false m1 = D.nx env m1 := rfl
theorem WhB_any {wb : WS} {D : De} {env : En} {P : En → Mem → Prop} {b : Bool} {m1 : Mem} : WhB wb D env P b m1 ↔ (b = true → wb (D.loop P) env m1) ∧ (b = false → D.nx env m1) := by cases b <;> simp
def WhileX (w : WT) (wb : WS) (D : De) (env : En) (m : Mem) : Prop := sWhile w wb D env m
@[simp ↓] theorem ev_while {w : WT} {wb : WS} {D : De} {env : En} {m : Mem} : sWhile w wb D env m = WhileX w wb D env m := rfl
def LcB (g : WG) (wt : WT) (we : WE) (vs : List Nat) (env : En) (m1 : Mem) (ds : List D) (keep : Mem → Prop) (R : List D → Prop) : Prop := ∃ f : D → Option D, ds.length ≤ sizeLine ∧ (∀ m', m1.le m' → keep m') ∧
  (∀ d, d ∈ ds → ∀ m', m1.le m' → g d (wipeD env vs) m' (fun e2 m2 => wt e2 m2 (fun b m3 => if b = true then we e2 m3 (fun y m4 => m4 = m' ∧ f d = some y) noX else m3 = m' ∧ f d = none) noX)) ∧ R (ds.filterMap f)
def LcX (g : WG) (wt : WT) (we : WE) (vs : List Nat) (env : En) (Q : Po) (t : Tag Q) (d : D) (m1 : Mem) : Prop := ∃ ds, seqOf m1 d = some ds ∧ LcB g wt we vs env m1 ds (fun m' => seqOf m' d = some ds) (fun r => Q (.lst r) m1)
@[simp ↓] theorem ev_lcP {w : WE} {g : WG} {wt : WT} {we : WE} {vs : List Nat} {env : En} {m : Mem} {Q : Po} {E : Xo} : wLcP (wiSeq w) g wt we vs env m Q E = w env m (LcX g wt we vs env Q .mk) E := rfl
def LcY (g : WG) (wt : WT) (we : WE) (vs : List Nat) (env : En) (Q : Po) (t : Tag Q) (d : D) (m1 : Mem) : Prop := ∃ ds, seqOf m1 d = some ds ∧ LcB g wt we vs env m1 ds (fun m' => seqOf m' d = some ds) (fun r => ∀ p, m1 p = none → Q (.ref p) (m1.put p (.lst r)))
@[simp ↓] theorem ev_lcQ {w : WE} {g : WG} {wt : WT} {we : WE} {vs : List Nat} {env : En} {m : Mem} {Q : Po} {E : Xo} : wLcQ (wiSeq w) g wt we vs env m Q E = w env m (LcY g wt we vs env Q .mk) E := rfl
@[simp ↓] theorem ev_yes {env : En} {m : Mem} {Q : Bool → Mem → Prop} {E : Xo} : wYes env m Q E = Q true m := rfl
/-! ### a def's end -/
@[simp ↓] theorem Dend_nx {Q : Po} {E : Xo} {e : En} {m : Mem} : (Dend Q E).nx e m = ∃ m0, m0.le m ∧ Q .non m0 := rfl
@[simp ↓] theorem Dend_rt {Q : Po} {E : Xo} {d : D} {m : Mem} : (Dend Q E).rt d m = ∃ m0, m0.le m ∧ Q d m0 := rfl
@[simp ↓] theorem Dend_xc {Q : Po} {E : Xo} {x : Exc} {e : En} {m : Mem} : (Dend Q E).xc x e m = ∃ m0, m0.le m ∧ E x m0 := rfl
/-! ### memory -/
@[simp] theorem lstOf_put {m : Mem} {p : Addr} {xs : List D} : lstOf (m.put p (.lst xs)) (.ref p) = some xs := by simp [lstOf]
@[simp] theorem seqOf_put {m : Mem} {p : Addr} {xs : List D} : seqOf (m.put p (.lst xs)) (.ref p) = some xs := by simp [seqOf]
@[simp] theorem dctOf_put {m : Mem} {p : Addr} {xs : List (Key × D)} : dctOf (m.put p (.dct xs)) (.ref p) = some xs := by simp [dctOf]
theorem lstOf_ne {m : Mem} {p q : Addr} {c : Cell} (h : q ≠ p) : lstOf (m.put p c) (.ref q) = lstOf m (.ref q) := by simp only [lstOf, Mem.put_ne h]
theorem seqOf_ne {m : Mem} {p q : Addr} {c : Cell} (h : q ≠ p) : seqOf (m.put p c) (.ref q) = seqOf m (.ref q) := by simp only [seqOf, Mem.put_ne h]
theorem dctOf_ne {m : Mem} {p q : Addr} {c : Cell} (h : q ≠ p) : dctOf (m.put p c) (.ref q) = dctOf m (.ref q) := by simp only [dctOf, Mem.put_ne h]
theorem Mem.put4 {m : Mem} {p q : Addr} {a b c d : Cell} (h : q ≠ p) : (((m.put p a).put q b).put p c).put q d = (m.put p c).put q d := by
  rw [Mem.put_comm (m := m.put p a) h, Mem.put_put, Mem.put_put]
theorem seqOf_le {m m' : Mem} (h : m.le m') {d : D} {ds : List D} (e : seqOf m d = some ds) : seqOf m' d = some ds := by
  cases d <;> simp only [seqOf] at e ⊢ <;> first | exact e | skip
  rename_i p
  cases q : m p with
  | none => rw [q] at e; cases e
  | some c => rw [q] at e; rw [h p c q]; exact e
theorem lstOf_le {m m' : Mem} (h : m.le m') {d : D} {ds : List D} (e : lstOf m d = some ds) : lstOf m' d = some ds := by
  cases d <;> simp only [lstOf] at e ⊢ <;> first | exact e | skip
  rename_i p
  cases q : m p with
  | none => rw [q] at e; cases e
  | some c => rw [q] at e; rw [h p c q]; exact e
theorem dctOf_le {m m' : Mem} (h : m.le m') {d : D} {ds : List (Key × D)} (e : dctOf m d = some ds) : dctOf m' d = some ds := by
  obtain ⟨p, rfl, q⟩ := dctOf_some e
  exact dctOf_ref (h p _ q)
@[simp] theorem Mem.le_rfl {m : Mem} : m.le m := Mem.le_refl m
/-! ### use of comprehensions, loops -/
theorem LcB.intro {α β : Type} {g : WG} {wt : WT} {we : WE} {vs : List Nat} {env : En} {m1 : Mem} {ds : List D} {keep : Mem → Prop} {R : List D → Prop} (l : List α) (φ : α → D) (h : α → Option β) (ψ : β → D) (hφ : ∀ a b, φ a = φ b → a = b) (hds : ds = l.map φ) (hz : l.length ≤ sizeLine) (hk : ∀ m', m1.le m' → keep m')
    (turn : ∀ a ∈ l, ∀ m', m1.le m' → g (φ a) (wipeD env vs) m' (fun e2 m2 => wt e2 m2 (fun b m3 => if b = true then we e2 m3 (fun y m4 => m4 = m' ∧ (h a).map ψ = some y) noX else m3 = m' ∧ h a = none) noX)) (q : R ((l.filterMap h).map ψ)) : LcB g wt we vs env m1 ds keep R := by
  classical
  subst hds
  let f : D → Option D := fun d => if e : ∃ a, φ a = d then (h e.choose).map ψ else none
  have hf : ∀ a, f (φ a) = (h a).map ψ := fun a => by
    have e : ∃ b, φ b = φ a := ⟨a, rfl⟩
    show (if e : ∃ b, φ b = φ a then (h e.choose).map ψ else none) = _
    rw [dif_pos e, hφ _ _ e.choose_spec]
  refine ⟨f, by rw [List.length_map]; exact hz, hk, fun d hd m' hm => ?_, ?_⟩
  · obtain ⟨a, ha, rfl⟩ := List.mem_map.mp hd
    have t := turn a ha m' hm
    have e : (fun (e2 : En) (m2 : Mem) => wt e2 m2 (fun b m3 => if b = true then we e2 m3 (fun y m4 => m4 = m' ∧ (h a).map ψ = some y) noX else m3 = m' ∧ h a = none) noX) =
        (fun (e2 : En) (m2 : Mem) => wt e2 m2 (fun b m3 => if b = true then we e2 m3 (fun y m4 => m4 = m' ∧ f (φ a) = some y) noX else m3 = m' ∧ f (φ a) = none) noX) := by
      rw [hf a]
      simp only [Option.map_eq_none_iff]
    rw [e] at t
    exact t
  · have e : (l.map φ).filterMap f = (l.filterMap h).map ψ := by
      rw [List.filterMap_map, ← List.filterMap_eq_map, List.filterMap_filterMap]
      congr 1
      funext a
      show f (φ a) = _
      rw [hf a]
      cases h a <;> rfl
    rw [e]; exact q
theorem LcX.intro {α β : Type} {g : WG} {wt : WT} {we : WE} {vs : List Nat} {env : En} {Q : Po} {t : Tag Q} {d : D} {m1 : Mem} (l : List α) (φ : α → D) (h : α → Option β) (ψ : β → D) (hφ : ∀ a b, φ a = φ b → a = b) (hs : seqOf m1 d = some (l.map φ)) (hz : l.length ≤ sizeLine)
    (turn : ∀ a ∈ l, ∀ m', m1.le m' → g (φ a) (wipeD env vs) m' (fun e2 m2 => wt e2 m2 (fun b m3 => if b = true then we e2 m3 (fun y m4 => m4 = m' ∧ (h a).map ψ = some y) noX else m3 = m' ∧ h a = none) noX)) (q : Q (.lst ((l.filterMap h).map ψ)) m1) : LcX g wt we vs env Q t d m1 :=
  ⟨_, hs, LcB.intro l φ h ψ hφ rfl hz (fun m' hm => seqOf_le hm hs) turn q⟩
theorem LcY.intro {α β : Type} {g : WG} {wt : WT} {we : WE} {vs : List Nat} {env : En} {Q : Po} {t : Tag Q} {d : D} {m1 : Mem} (l : List α) (φ : α → D) (h : α → Option β) (ψ : β → D) (hφ : ∀ a b, φ a = φ b → a = b) (hs : seqOf m1 d = some (l.map φ)) (hz : l.length ≤ sizeLine)
    (turn : ∀ a ∈ l, ∀ m', m1.le m' → g (φ a) (wipeD env vs) m' (fun e2 m2 => wt e2 m2 (fun b m3 => if b = true then we e2 m3 (fun y m4 => m4 = m' ∧ (h a).map ψ = some y) noX else m3 = m' ∧ h a = none) noX)) (q : ∀ p, m1 p = none → Q (.ref p) (m1.put p (.lst ((l.filterMap h).map ψ)))) : LcY g wt we vs env Q t d m1 :=
  ⟨_, hs, LcB.intro l φ h ψ hφ rfl hz (fun m' hm => seqOf_le hm hs) turn q⟩
theorem inj_str : ∀ a b : Str, D.str a = D.str b → a = b := fun _ _ h => by cases h; rfl
theorem inj_int : ∀ a b : Int, D.int a = D.int b → a = b := fun _ _ h => by cases h; rfl
theorem map_inj {α : Type} {φ : α → D} (h : ∀ a b, φ a = φ b → a = b) : ∀ {xs ys : List α}, xs.map φ = ys.map φ → xs = ys
  | [], [], _ => rfl
  | [], _ :: _, e => by cases e
  | _ :: _, [], e => by cases e
  | x :: xs, y :: ys, e => by
    rw [List.map_cons, List.map_cons] at e
    injection e with e1 e2
    rw [h _ _ e1, map_inj h e2]
/-- a loop over things of one kind -/
theorem ForB.intro {α : Type} {g : WG} {wb : WS} {Z : De} {env : En} {m1 : Mem} {ds : List D} {keep : Mem → Prop} (l : List α) (φ : α → D) (hφ : ∀ a b, φ a = φ b → a = b) (Iv : List α → List α → En → Mem → Prop) (hs : ds = l.map φ) (i0 : Iv [] l env m1)
    (turn : ∀ done a rest env m, l = done ++ a :: rest → Iv done (a :: rest) env m → keep m ∧ g (φ a) env m (fun e2 m2 => wb (Z.loop (Iv (done ++ [a]) rest)) e2 m2))
    (fin : ∀ env m, Iv l [] env m → keep m ∧ Z.nx env m) : ForB g wb Z env m1 ds keep := by
  subst hs
  let Jv : List D → List D → En → Mem → Prop := fun done rest e m => ∃ d2 r2, done = d2.map φ ∧ rest = r2.map φ ∧ Iv d2 r2 e m
  have eJ : ∀ d2 r2, Jv (d2.map φ) (r2.map φ) = Iv d2 r2 := fun d2 r2 => by
    funext e m
    apply propext
    constructor
    · rintro ⟨d3, r3, h1, h2, h⟩
      cases map_inj hφ h1
      cases map_inj hφ h2
      exact h
    · exact fun h => ⟨d2, r2, rfl, rfl, h⟩
  refine ⟨Jv, ⟨[], l, rfl, rfl, i0⟩, ?_, ?_⟩
  · rintro done x rest e m hd ⟨d2, r2, e2, e3, iv⟩
    subst e2
    cases r2 with
    | nil => cases e3
    | cons a r2 =>
      rw [List.map_cons] at e3
      injection e3 with e4 e5
      subst e4 e5
      have el : l = d2 ++ a :: r2 := map_inj hφ (by rw [hd]; simp)
      have t := turn d2 a r2 e m el iv
      rw [← eJ (d2 ++ [a]) r2] at t
      rw [show d2.map φ ++ [φ a] = (d2 ++ [a]).map φ by simp]
      exact t
  · intro e m iv
    have iv : Jv (l.map φ) (([] : List α).map φ) e m := iv
    rw [eJ] at iv
    exact fin e m iv
theorem ForX.intro {α : Type} {g : WG} {wb : WS} {Z : De} {env : En} {d : D} {m1 : Mem} (l : List α) (φ : α → D) (hφ : ∀ a b, φ a = φ b → a = b) (Iv : List α → List α → En → Mem → Prop) (hs : seqOf m1 d = some (l.map φ)) (i0 : Iv [] l env m1)
    (turn : ∀ done a rest env m, l = done ++ a :: rest → Iv done (a :: rest) env m → seqOf m d = some (l.map φ) ∧ g (φ a) env m (fun e2 m2 => wb (Z.loop (Iv (done ++ [a]) rest)) e2 m2))
    (fin : ∀ env m, Iv l [] env m → seqOf m d = some (l.map φ) ∧ Z.nx env m) : ForX g wb Z env d m1 :=
  ⟨_, hs, ForB.intro l φ hφ Iv rfl i0 turn fin⟩
theorem ForR.intro {g : WG} {wb : WS} {Z : De} {env : En} {j : Int} {m1 : Mem} (n : Nat) (hj : j = n) (Iv : Nat → En → Mem → Prop) (i0 : Iv 0 env m1)
    (turn : ∀ (i : Nat) env m, i < n → Iv i env m → g (.int (i : Int)) env m (fun e2 m2 => wb (Z.loop (Iv (i + 1))) e2 m2)) (fin : ∀ env m, Iv n env m → Z.nx env m) : ForR g wb Z env j m1 := by
  subst hj
  refine ForB.intro (List.range n) (fun i => D.int (i : Int)) (fun a b h => by injection h with h; exact Int.ofNat_inj.mp h) (fun done rest e m => Iv done.length e m) (by simp [rngD]) i0 ?_ ?_
  · intro done a rest e m hd iv
    have ha : a = done.length ∧ done.length < n := by
      have h1 : (List.range n)[done.length]? = some a := by rw [hd]; simp
      rw [List.getElem?_range] at h1
      · cases h1
        refine ⟨rfl, ?_⟩
        have := congrArg List.length hd
        simp at this
        omega
      · have := congrArg List.length hd
        simp at this
        omega
    obtain ⟨rfl, hlt⟩ := ha
    refine ⟨trivial, ?_⟩
    have t := turn _ e m hlt iv
    simpa using t
  · intro e m iv
    rw [List.length_range] at iv
    exact ⟨trivial, fin e m iv⟩
/-- a turn on, with less left -/
def Nxt {α : Type} (S : α → En → Mem → Prop) (μ : α → Nat) (a : α) : En → Mem → Prop := fun e m => ∃ a', μ a' < μ a ∧ S a' e m
theorem Nxt.intro {α : Type} {S : α → En → Mem → Prop} {μ : α → Nat} {a : α} {e : En} {m : Mem} (a' : α) (h : μ a' < μ a) (s : S a' e m) : Nxt S μ a e m := ⟨a', h, s⟩
theorem WhileX.intro {α : Type} {w : WT} {wb : WS} {Z : De} {env : En} {m : Mem} (S : α → En → Mem → Prop) (μ : α → Nat) (a0 : α) (h0 : S a0 env m)
    (turn : ∀ a env m, S a env m → w env m (WhB wb Z env (Nxt S μ a)) (fun x m1 => Z.xc x env m1)) : WhileX w wb Z env m := by
  refine ⟨fun k e m => ∃ a, μ a = k ∧ S a e m, ⟨_, a0, rfl, h0⟩, ?_⟩
  rintro k e m ⟨a, rfl, h⟩
  have eN : (fun e' m' => ∃ k', k' < μ a ∧ ∃ a', μ a' = k' ∧ S a' e' m') = Nxt S μ a := by
    funext e' m'
    exact propext ⟨fun ⟨k', h1, a', h2, h3⟩ => ⟨a', by rw [h2]; exact h1, h3⟩, fun ⟨a', h1, h2⟩ => ⟨_, h1, a', rfl, h2⟩⟩
  have t := turn a e m h
  rw [← eN] at t
  exact t
end DL

/-! D10: places, slices, equality of plain data, names. -/
namespace DL
open PySem PySem.Spec L2

/-! ### places -/
theorem atI_nat {α : Type} (xs : List α) (i : Nat) : atI xs (i : Int) = xs[i]? := by
  unfold atI ixN
  rw [if_pos (by omega)]
  by_cases h : (i : Int) < xs.length
  · rw [if_pos h]; simp
  · rw [if_neg h]
    rw [List.getElem?_eq_none (by omega)]; rfl
@[simp] theorem atI_0 {α : Type} (x : α) (xs : List α) : atI (x :: xs) 0 = some x := by
  have := atI_nat (x :: xs) 0
  simpa using this
@[simp] theorem atI_1 {α : Type} (x y : α) (xs : List α) : atI (x :: y :: xs) 1 = some y := by
  have := atI_nat (x :: y :: xs) 1
  simpa using this
@[simp] theorem atI_2 {α : Type} (x y z : α) (xs : List α) : atI (x :: y :: z :: xs) 2 = some z := by
  have := atI_nat (x :: y :: z :: xs) 2
  simpa using this
@[simp] theorem atI_last {α : Type} (xs : List α) (x : α) : atI (xs ++ [x]) (-1) = some x := by
  unfold atI ixN
  rw [if_neg (by omega), if_pos (by simp; omega)]
  have e : (-1 + ((xs ++ [x]).length : Int)).toNat = xs.length := by rw [List.length_append]; simp; omega
  rw [e]
  simp
theorem atI_some {α : Type} {xs : List α} {i : Int} (h0 : 0 ≤ i) (h1 : i < xs.length) : ∃ x, atI xs i = some x ∧ xs[i.toNat]? = some x := by
  obtain ⟨n, rfl⟩ := Int.eq_ofNat_of_zero_le h0
  have hn : n < xs.length := by omega
  refine ⟨xs[n], ?_, ?_⟩
  · have := atI_nat xs n
    rw [List.getElem?_eq_getElem hn] at this
    simpa using this
  · simp [hn]
theorem seqIndex_nat {i : Int} {n : Nat} (h0 : 0 ≤ i) (h1 : i < n) : seqIndex? i n = some i.toNat := (ixN_seq (show ixN n i = some i.toNat by unfold ixN; rw [if_pos h0, if_pos h1])).1
@[simp] theorem ixN_10 : ixN 1 0 = some 0 := by decide
theorem ixN_nat {i : Int} {n : Nat} (h0 : 0 ≤ i) (h1 : i < n) : ixN n i = some i.toNat := by unfold ixN; rw [if_pos h0, if_pos h1]
@[simp] theorem cutD_tail (xs : List D) : cutD xs (some 1) none = xs.tail := by
  cases xs with
  | nil => rfl
  | cons x r =>
    have e1 : HT.sIx (x :: r).length 0 (some 1) = 1 := by
      have := HT.sIx_nat (x :: r).length 0 1
      simpa using this
    unfold cutD
    rw [e1, HT.sIx_none]
    simp
theorem tail_map {α β : Type} (f : α → β) (xs : List α) : (xs.map f).tail = xs.tail.map f := by cases xs <;> rfl

/-! ### plain data -/
mutual
/-- data without cells, bools, classes, at most n deep -/
def pl : Nat → D → Bool
  | _, .non => true
  | _, .int _ => true
  | _, .str s => PyData.strOk s
  | n + 1, .tup xs => plA n xs
  | n + 1, .lst xs => plA n xs
  | _, _ => false
def plA : Nat → List D → Bool
  | _, [] => true
  | n, x :: xs => pl n x && plA n xs
end
mutual
def toP : D → PyData
  | .non => .none
  | .bl b => .bool b
  | .int i => .int i
  | .str s => .str s
  | .tup xs => .tuple (toPs xs)
  | .lst xs => .list (toPs xs)
  | .klst xs => .list (toPs xs)
  | _ => .none
def toPs : List D → List PyData
  | [] => []
  | x :: xs => toP x :: toPs xs
end
mutual
theorem pl_py {r : Addr → Option PyData} : ∀ {n : Nat} {x : D}, pl n x = true → pyR r x = some (toP x)
  | _, .non, _ => rfl
  | _, .int _, _ => rfl
  | _, .str _, _ => rfl
  | _ + 1, .tup xs, h => by simp only [pl] at h; simp only [pyR, toP, plA_py h, Option.map_some]
  | _ + 1, .lst xs, h => by simp only [pl] at h; simp only [pyR, toP, plA_py h, Option.map_some]
  | 0, .tup _, h => by simp [pl] at h
  | 0, .lst _, h => by simp [pl] at h
  | _, .bl _, h => by simp [pl] at h
  | _, .ty _, h => by simp [pl] at h
  | _, .ref _, h => by simp [pl] at h
  | _, .klst _, h => by simp [pl] at h
theorem plA_py {r : Addr → Option PyData} : ∀ {n : Nat} {xs : List D}, plA n xs = true → pyRs r xs = some (toPs xs)
  | _, [], _ => rfl
  | n, x :: xs, h => by
    simp only [plA, Bool.and_eq_true] at h
    simp only [pyRs, toPs, pl_py h.1, plA_py h.2]
end
mutual
theorem pl_lay : ∀ {n : Nat} {x : D}, pl n x = true → (toP x).canLay0 = true ∧ (toP x).depth ≤ n
  | _, .non, _ => ⟨rfl, by simp [toP, PyData.depth]⟩
  | _, .int _, _ => ⟨rfl, by simp [toP, PyData.depth]⟩
  | _, .str _, h => ⟨by simp only [toP, PyData.canLay0]; simpa [pl] using h, by simp [toP, PyData.depth]⟩
  | n + 1, .tup xs, h => by
    simp only [pl] at h
    have := plA_lay h
    simp only [toP, PyData.canLay0, PyData.depth]
    exact ⟨this.1, by omega⟩
  | n + 1, .lst xs, h => by
    simp only [pl] at h
    have := plA_lay h
    simp only [toP, PyData.canLay0, PyData.depth]
    exact ⟨this.1, by omega⟩
  | 0, .tup _, h => by simp [pl] at h
  | 0, .lst _, h => by simp [pl] at h
  | _, .bl _, h => by simp [pl] at h
  | _, .ty _, h => by simp [pl] at h
  | _, .ref _, h => by simp [pl] at h
  | _, .klst _, h => by simp [pl] at h
theorem plA_lay : ∀ {n : Nat} {xs : List D}, plA n xs = true → PyData.canLayAll0 (toPs xs) = true ∧ PyData.depthAll (toPs xs) ≤ n
  | _, [], _ => ⟨rfl, by simp [toPs, PyData.depthAll]⟩
  | n, x :: xs, h => by
    simp only [plA, Bool.and_eq_true] at h
    have h1 := pl_lay h.1
    have h2 := plA_lay h.2
    simp only [toPs, PyData.canLayAll0, PyData.depthAll, Bool.and_eq_true]
    exact ⟨⟨h1.1, h2.1⟩, by omega⟩
end
theorem pl_shaped {n : Nat} {x : D} (hn : n ≤ 64) (h : pl n x = true) : SeqAt.shaped (toP x) = true := by
  obtain ⟨a, b⟩ := pl_lay h
  unfold SeqAt.shaped
  rw [a, Bool.true_and]
  exact decide_eq_true (by omega)
/-- == of plain data -/
def eqB (x y : D) : Bool := PyData.eqv (toP x) (toP y)
theorem pyM_pl {n k : Nat} {m : Mem} {x : D} (h : pl n x = true) : pyM m k x = some (toP x) := by
  cases k <;> exact pl_py h
theorem eqD_pl {x y : D} {m : Mem} {Q : Po} {E : Xo} (hx : pl 60 x = true) (hy : pl 60 y = true) (q : Q (.bl (eqB x y)) m) : eqD x y m Q E := by
  have gen : ∃ d e, pyM m 3 x = some d ∧ pyM m 3 y = some e ∧ SeqAt.shaped d = true ∧ SeqAt.shaped e = true ∧ Q (.bl (PyData.eqv d e)) m := ⟨_, _, pyM_pl hx, pyM_pl hy, pl_shaped (by decide) hx, pl_shaped (by decide) hy, q⟩
  cases x <;> cases y <;> first | exact gen | skip
  · have e : ∀ i j : Int, eqB (.int i) (.int j) = decide (i = j) := fun i j => by show (i == j) = _; exact Bool.beq_eq_decide_eq _ _
    rw [e] at q; exact q
  · have e : ∀ i j : Str, eqB (.str i) (.str j) = decide (i = j) := fun i j => by show (i == j) = _; exact Bool.beq_eq_decide_eq _ _
    rw [e] at q; exact q
theorem neD_pl {x y : D} {m : Mem} {Q : Po} {E : Xo} (hx : pl 60 x = true) (hy : pl 60 y = true) (q : Q (.bl (!eqB x y)) m) : neD x y m Q E := by
  have gen : ∃ d e, pyM m 3 x = some d ∧ pyM m 3 y = some e ∧ SeqAt.shaped d = true ∧ SeqAt.shaped e = true ∧ Q (.bl (!PyData.eqv d e)) m := ⟨_, _, pyM_pl hx, pyM_pl hy, pl_shaped (by decide) hx, pl_shaped (by decide) hy, q⟩
  cases x <;> cases y <;> first | exact gen | skip
  · have e : ∀ i j : Int, eqB (.int i) (.int j) = decide (i = j) := fun i j => by show (i == j) = _; exact Bool.beq_eq_decide_eq _ _
    rw [e] at q; exact q
  · have e : ∀ i j : Str, eqB (.str i) (.str j) = decide (i = j) := fun i j => by show (i == j) = _; exact Bool.beq_eq_decide_eq _ _
    rw [e] at q; exact q
/-- .. a list that is a cell -/
theorem neD_cell {p : Addr} {xs : List D} {y : D} {m : Mem} {Q : Po} {E : Xo} (hp : lstOf m (.ref p) = some xs) (hx : plA 59 xs = true) (hy : pl 60 y = true) (q : Q (.bl (!eqB (.lst xs) y)) m) : neD (.ref p) y m Q E := by
  have e1 : pyM m 3 (.ref p) = some (toP (.lst xs)) := by
    show (match m p with | some (.lst xs) => (pyRs (fun b => pyM m 2 (.ref b)) xs).map PyData.list | _ => none) = _
    rw [lst_iff.mp hp]
    show (pyRs _ xs).map PyData.list = _
    rw [plA_py hx]; rfl
  have gen : ∃ d e, pyM m 3 (.ref p) = some d ∧ pyM m 3 y = some e ∧ SeqAt.shaped d = true ∧ SeqAt.shaped e = true ∧ Q (.bl (!PyData.eqv d e)) m := ⟨_, _, e1, pyM_pl hy, pl_shaped (n := 60) (by decide) (by simp only [pl]; exact hx), pl_shaped (by decide) hy, q⟩
  cases y <;> exact gen
mutual
theorem eqB_iff : ∀ {n k : Nat} {x y : D}, pl n x = true → pl k y = true → (PyData.eqv (toP x) (toP y) = true ↔ x = y)
  | _, _, .non, y, _, hy => by cases y <;> simp [toP, PyData.eqv, pl] at hy ⊢
  | _, _, .int _, y, _, hy => by cases y <;> simp [toP, PyData.eqv, pl] at hy ⊢
  | _, _, .str _, y, _, hy => by cases y <;> simp [toP, PyData.eqv, pl] at hy ⊢
  | n + 1, k, .tup xs, y, hx, hy => by
    cases y with
    | tup ys =>
      cases k with
      | zero => simp [pl] at hy
      | succ k =>
        simp only [pl] at hx hy
        simp only [toP, PyData.eqv, D.tup.injEq]
        exact eqA_iff hx hy
    | _ => simp [toP, PyData.eqv, pl] at hy ⊢
  | n + 1, k, .lst xs, y, hx, hy => by
    cases y with
    | lst ys =>
      cases k with
      | zero => simp [pl] at hy
      | succ k =>
        simp only [pl] at hx hy
        simp only [toP, PyData.eqv, D.lst.injEq]
        exact eqA_iff hx hy
    | klst ys => simp [pl] at hy
    | _ => simp [toP, PyData.eqv, pl] at hy ⊢
  | 0, _, .tup _, _, h, _ => by simp [pl] at h
  | 0, _, .lst _, _, h, _ => by simp [pl] at h
  | _, _, .bl _, _, h, _ => by simp [pl] at h
  | _, _, .ty _, _, h, _ => by simp [pl] at h
  | _, _, .ref _, _, h, _ => by simp [pl] at h
  | _, _, .klst _, _, h, _ => by simp [pl] at h
theorem eqA_iff : ∀ {n k : Nat} {xs ys : List D}, plA n xs = true → plA k ys = true → (PyData.eqvAll (toPs xs) (toPs ys) = true ↔ xs = ys)
  | _, _, [], [], _, _ => by simp [toPs, PyData.eqvAll]
  | _, _, [], _ :: _, _, _ => by simp [toPs, PyData.eqvAll]
  | _, _, _ :: _, [], _, _ => by simp [toPs, PyData.eqvAll]
  | n, k, x :: xs, y :: ys, hx, hy => by
    simp only [plA, Bool.and_eq_true] at hx hy
    simp only [toPs, PyData.eqvAll, Bool.and_eq_true, List.cons.injEq]
    rw [eqB_iff hx.1 hy.1, eqA_iff hx.2 hy.2]
end
theorem eqB_eq {x y : D} (hx : pl 60 x = true) (hy : pl 60 y = true) {p : Prop} [Decidable p] (h : x = y ↔ p) : eqB x y = decide p := by
  have e := eqB_iff hx hy
  cases q : eqB x y with
  | true => exact (decide_eq_true (h.mp (e.mp q))).symm
  | false => exact (decide_eq_false fun z => by rw [← h, ← e] at z; rw [show eqB x y = true from z] at q; cases q).symm
theorem plA_map {α : Type} {φ : α → D} {n : Nat} {l : List α} (h : ∀ a ∈ l, pl n (φ a) = true) : plA n (l.map φ) = true := by
  induction l with
  | nil => rfl
  | cons a l ih =>
    rw [List.map_cons]
    simp only [plA, Bool.and_eq_true]
    exact ⟨h a List.mem_cons_self, ih fun b hb => h b (List.mem_cons_of_mem _ hb)⟩
/-! ### names: texts that can be laid -/
@[ext] structure Nme where
  s : Str
  ok : PyData.strOk s = true
  deriving DecidableEq
abbrev Nm := List Nme
abbrev dS (x : Nme) : D := .str x.s
abbrev dT (ns : Nm) : D := .tup (ns.map fun x => D.str x.s)
abbrev dL (ns : Nm) : D := .lst (ns.map fun x => D.str x.s)
@[simp ↓] theorem flat_nm (ns : Nm) : (ns.map fun x => D.str x.s).all flatD = true := by simp [flatD]
@[simp ↓] theorem inF_nm (a : Nme) (ns : Nm) : inF (.str a.s) (ns.map fun x => D.str x.s) = decide (a ∈ ns) := by
  have := inF_strs a.s (ns.map (·.s))
  rw [List.map_map] at this
  rw [show (ns.map fun x => D.str x.s) = ns.map (D.str ∘ fun x => x.s) from rfl, this]
  simp only [List.mem_map, decide_eq_decide]
  constructor
  · rintro ⟨b, hb, e⟩
    rw [← Nme.ext e]; exact hb
  · exact fun h => ⟨a, h, rfl⟩
theorem inj_nm : ∀ a b : Nme, D.str a.s = D.str b.s → a = b := fun a b h => by injection h with h; exact Nme.ext h
theorem inj_dT : ∀ a b : Nm, dT a = dT b → a = b := fun a b h => by injection h with h; exact map_inj inj_nm h
theorem inj_dL : ∀ a b : Nm, dL a = dL b → a = b := fun a b h => by injection h with h; exact map_inj inj_nm h
@[simp] theorem nm_eq (a b : Nme) : (a.s = b.s) = (a = b) := propext ⟨Nme.ext, fun h => by rw [h]⟩
theorem pl_nm (n : Nat) (ns : Nm) : plA n (ns.map fun x => D.str x.s) = true := plA_map fun a _ => by simp only [pl]; exact a.ok
@[simp] theorem pl_dT (n : Nat) (ns : Nm) : pl (n + 1) (dT ns) = true := by simp only [pl]; exact pl_nm n ns
@[simp] theorem pl_dL (n : Nat) (ns : Nm) : pl (n + 1) (dL ns) = true := by simp only [pl]; exact pl_nm n ns
theorem pl_LL (n : Nat) (rs : List Nm) : pl (n + 2) (.lst (rs.map dL)) = true := by simp only [pl]; exact plA_map fun a _ => by simp only [pl]; exact pl_nm n a
theorem pl_nil (n : Nat) : pl (n + 1) (.lst []) = true := by simp only [pl, plA]
@[simp] theorem eqB_nil (xs : List D) : eqB (.lst xs) (.lst []) = xs.isEmpty := by cases xs <;> simp [eqB, toP, toPs, PyData.eqv, PyData.eqvAll]
@[simp] theorem eqB_dT (a b : Nm) : eqB (dT a) (dT b) = decide (a = b) := eqB_eq (pl_dT 59 a) (pl_dT 59 b) ⟨inj_dT a b, fun h => by rw [h]⟩
@[simp] theorem eqB_dL (a b : Nm) : eqB (dL a) (dL b) = decide (a = b) := eqB_eq (pl_dL 59 a) (pl_dL 59 b) ⟨inj_dL a b, fun h => by rw [h]⟩
theorem eqD_eq {x y : D} {m : Mem} {Q : Po} {E : Xo} (hx : pl 60 x = true) (hy : pl 60 y = true) : eqD x y m Q E = Q (.bl (eqB x y)) m := by
  refine propext ⟨fun h => ?_, eqD_pl hx hy⟩
  have gen : (∃ d e, pyM m 3 x = some d ∧ pyM m 3 y = some e ∧ SeqAt.shaped d = true ∧ SeqAt.shaped e = true ∧ Q (.bl (PyData.eqv d e)) m) → Q (.bl (eqB x y)) m := fun ⟨d, e, h1, h2, _, _, q⟩ => by
    rw [pyM_pl hx] at h1; rw [pyM_pl hy] at h2
    cases h1; cases h2; exact q
  cases x <;> cases y <;> first | exact gen h | skip
  · have e : ∀ i j : Int, eqB (.int i) (.int j) = decide (i = j) := fun i j => by show (i == j) = _; exact Bool.beq_eq_decide_eq _ _
    rw [e]; exact h
  · have e : ∀ i j : Str, eqB (.str i) (.str j) = decide (i = j) := fun i j => by show (i == j) = _; exact Bool.beq_eq_decide_eq _ _
    rw [e]; exact h
theorem neD_eq {x y : D} {m : Mem} {Q : Po} {E : Xo} (hx : pl 60 x = true) (hy : pl 60 y = true) : neD x y m Q E = Q (.bl (!eqB x y)) m := by
  refine propext ⟨fun h => ?_, neD_pl hx hy⟩
  have gen : (∃ d e, pyM m 3 x = some d ∧ pyM m 3 y = some e ∧ SeqAt.shaped d = true ∧ SeqAt.shaped e = true ∧ Q (.bl (!PyData.eqv d e)) m) → Q (.bl (!eqB x y)) m := fun ⟨d, e, h1, h2, _, _, q⟩ => by
    rw [pyM_pl hx] at h1; rw [pyM_pl hy] at h2
    cases h1; cases h2; exact q
  cases x <;> cases y <;> first | exact gen h | skip
  · have e : ∀ i j : Int, eqB (.int i) (.int j) = decide (i = j) := fun i j => by show (i == j) = _; exact Bool.beq_eq_decide_eq _ _
    rw [e]; exact h
  · have e : ∀ i j : Str, eqB (.str i) (.str j) = decide (i = j) := fun i j => by show (i == j) = _; exact Bool.beq_eq_decide_eq _ _
    rw [e]; exact h
@[simp ↓] theorem ne_LL {rows : List Nm} {m : Mem} {Q : Po} {E : Xo} : neD (.lst (rows.map dL)) (.lst []) m Q E = Q (.bl (!rows.isEmpty)) m := by rw [neD_eq (pl_LL 58 rows) (pl_nil 59)]; simp
@[simp ↓] theorem ne_Ln {r : Nm} {m : Mem} {Q : Po} {E : Xo} : neD (.lst (r.map fun x => D.str x.s)) (.lst []) m Q E = Q (.bl (!r.isEmpty)) m := by rw [neD_eq (pl_dL 59 r) (pl_nil 59)]; simp
@[simp ↓] theorem eq_Ln {r : Nm} {m : Mem} {Q : Po} {E : Xo} : eqD (.lst (r.map fun x => D.str x.s)) (.lst []) m Q E = Q (.bl r.isEmpty) m := by rw [eqD_eq (pl_dL 59 r) (pl_nil 59)]; simp
@[simp ↓] theorem ne_TT {a b : Nm} {m : Mem} {Q : Po} {E : Xo} : neD (.tup (a.map fun x => D.str x.s)) (.tup (b.map fun x => D.str x.s)) m Q E = Q (.bl (!decide (a = b))) m := by rw [neD_eq (pl_dT 59 a) (pl_dT 59 b)]; simp
@[simp ↓] theorem ne_LLn {a b : Nm} {m : Mem} {Q : Po} {E : Xo} : neD (.lst (a.map fun x => D.str x.s)) (.lst (b.map fun x => D.str x.s)) m Q E = Q (.bl (!decide (a = b))) m := by rw [neD_eq (pl_dL 59 a) (pl_dL 59 b)]; simp
theorem map_erase {α β : Type} (f : α → β) : ∀ (l : List α) (j : Nat), (l.map f).eraseIdx j = (l.eraseIdx j).map f
  | [], _ => by simp
  | _ :: _, 0 => rfl
  | a :: l, j + 1 => by
    rw [List.map_cons, List.eraseIdx_cons_succ, List.eraseIdx_cons_succ, List.map_cons, map_erase f l j]
/-! ### memory that only grew, but for one own cell -/
def Ext (m : Mem) (q : Addr) (m' : Mem) : Prop := m.le (m'.del q)
theorem Ext.start {m : Mem} {q : Addr} {c : Cell} (h : m q = none) : Ext m q (m.put q c) := by
  unfold Ext; rw [Mem.put_del, Mem.del_none h]; exact Mem.le_refl m
theorem Ext.own {m m' : Mem} {q : Addr} {c : Cell} (h : Ext m q m') : Ext m q (m'.put q c) := by
  unfold Ext at *; rw [Mem.put_del]; exact h
theorem Ext.none {m m' : Mem} {p q : Addr} (h : Ext m q m') (hp : m' p = none) : m p = none := by
  cases e : m p with
  | none => rfl
  | some c =>
    have := h p c e
    unfold Mem.del at this
    split at this
    · cases this
    · rw [hp] at this; cases this
theorem Ext.put {m m' : Mem} {p q : Addr} {c : Cell} (h : Ext m q m') (hp : m p = Option.none) : Ext m q (m'.put p c) := fun b o e => by
  have hb : b ≠ p := fun z => by rw [z, hp] at e; cases e
  have := h b o e
  unfold Mem.del at *
  split at this
  · cases this
  · rename_i hq; rw [if_neg hq, Mem.put_ne hb]; exact this
theorem Ext.fresh {m m' : Mem} {p q : Addr} {c : Cell} (h : Ext m q m') (hp : m' p = Option.none) : Ext m q (m'.put p c) := h.put (h.none hp)
theorem Ext.le {m m' : Mem} {q : Addr} (h : Ext m q m') : m.le m' := fun b o e => by
  have := h b o e
  unfold Mem.del at this
  split at this
  · cases this
  · exact this
theorem lists_dL {m : Mem} (l : List Nm) : lists m (l.map dL) = some (l.map fun r => r.map fun x => D.str x.s) := by
  induction l with
  | nil => rfl
  | cons a l ih => rw [List.map_cons]; simp only [lists, lstOf_lst, ih]; rfl
theorem flat_map_str (l : List Nm) : (l.map fun r => r.map fun x => D.str x.s).flatten = l.flatten.map fun x => D.str x.s := by
  rw [List.map_flatten]
theorem fm_some {α β : Type} (f : α → β) (l : List α) : l.filterMap (fun x => some (f x)) = l.map f := by
  induction l with
  | nil => rfl
  | cons a l ih => simp [ih]
theorem fm_if {α : Type} (p : α → Prop) [DecidablePred p] (l : List α) : l.filterMap (fun x => if p x then some x else none) = l.filter fun x => decide (p x) := by
  induction l with
  | nil => rfl
  | cons a l ih => by_cases h : p a <;> simp [h, ih]
theorem Ext.bump {m m' : Mem} {p q : Addr} {c c' : Cell} (h : Ext (m.put p c) q m') (hpq : p ≠ q) : Ext (m.put p c') q (m'.put p c') := fun b o e => by
  by_cases hb : b = p
  · subst hb
    rw [Mem.put_same] at e
    unfold Mem.del
    rw [if_neg hpq, Mem.put_same]; exact e
  · rw [Mem.put_ne hb] at e
    have := h b o (by rw [Mem.put_ne hb]; exact e)
    unfold Mem.del at *
    split at this
    · cases this
    · rename_i hq; rw [if_neg hq, Mem.put_ne hb]; exact this
end DL

/-! D11: defs as promises of calls; the law's end. -/
namespace DL
open PySem PySem.Spec L2
section
variable {P : Program} {w : World} {K : Frag} {mg : Str → Option Value} {base : Heap} {k : Nat} {x qual : Str} {params : Arguments} {body : List Stmt} {scope : Scope} {kws : List (Str × V)} {f : Addr} {fd : FuncData} {N ps : List Str} {sp : SpD} {wb : WS}
/-- a def without defaults, every parameter written -/
theorem Fn.plain (F : FunD K x qual params body scope [] kws f fd) (S : FnScope N ps scope) (hl : ∀ ds m Q E, sp ds m Q E → ds.length = ps.length) (der : Der P w K mg base k N scope body wb)
    (spec : ∀ ds m Q E, sp ds m Q E → wb (Dend Q E) (startD N ds) m) (hm : mg x = some (.ref f))
    (hb : ∀ (kV doc pm : Value) (an : Option Addr) (cdv ct : Value) (us : List Value), us.length = ps.length → bindArgs (PySem.W.fnOf x qual params body scope .none kV doc pm an cdv ct) ⟨us, []⟩ = pure (ps.zip us)) : Fn P w K mg base (k + 1) x [] sp := by
  have ok := fn_rule F S hl der spec
  refine ⟨f, hm, F.kp, fun A outer s H us ws vs Q E hr e0 hw rv h => ?_⟩
  have ew : ws = [] := List.length_eq_zero_iff.mp hw
  subst ew
  rw [List.append_nil] at rv
  have hlen : us.length = ps.length := by
    obtain ⟨F0, m, ds, QD, ED, r, dn, h, _⟩ := h
    rw [← rv.length, ← dn.length]; exact hl _ _ _ _ h
  obtain ⟨oc, od, dV, kV, doc, pm, an, cdv, ct, osl, rfl, lk, hcd, hD, hK⟩ := F.ex
  rcases hD with ⟨_, rfl⟩ | ⟨e, _⟩
  · exact ok.run A outer s H ⟨us, []⟩ us vs Q E hr e0 (.of_eq (hb kV doc pm an cdv ct us hlen)) rv h
  · exact absurd rfl e
/-- .. n positional values, keywords ks -/
theorem Fn.kw (F : FunD K x qual params body scope [] kws f fd) (S : FnScope N ps scope) (hl : ∀ ds m Q E, sp ds m Q E → ds.length = ps.length) (der : Der P w K mg base k N scope body wb)
    (spec : ∀ ds m Q E, sp ds m Q E → wb (Dend Q E) (startD N ds) m) (hm : mg x = some (.ref f)) (n : Nat) (ks : List Str) (perm : List Nat)
    (hb : ∀ (kV doc pm : Value) (an : Option Addr) (cdv ct : Value) (us ws : List Value), us.length = n → ws.length = ks.length → bindArgs (PySem.W.fnOf x qual params body scope .none kV doc pm an cdv ct) ⟨us, ks.zip ws⟩ = pure (ps.zip (sel perm (us ++ ws)))) :
    Fn P w K mg base (k + 1) x ks (fun ds m Q E => ds.length = n + ks.length ∧ sp (sel perm ds) m Q E) := by
  have ok := fn_rule F S hl der spec
  refine Fn.of_ok0 ok hm F.kp n ks perm fun s us ws _ h1 h2 => ?_
  obtain ⟨oc, od, dV, kV, doc, pm, an, cdv, ct, osl, rfl, lk, hcd, hD, hK⟩ := F.ex
  rcases hD with ⟨_, rfl⟩ | ⟨e, _⟩
  · exact .of_eq (hb kV doc pm an cdv ct us ws h1 h2)
  · exact absurd rfl e
/-- def f(*v, k = d), called with the keyword written -/
theorem Fn.starK {pv nk : Str} (F : FunD K x qual params body scope [] kws f fd) (S : FnScope N ([nk] ++ [pv]) scope) (der : Der P w K mg base k N scope body wb)
    (spec : ∀ ds m Q E, sp ds m Q E → wb (Dend Q E) (startD N ds) m) (hm : mg x = some (.ref f))
    (hb : ∀ (kV doc pm : Value) (an : Option Addr) (cdv ct : Value) (rest : List Value) (v : Value), bindArgs (PySem.W.fnOf x qual params body scope .none kV doc pm an cdv ct) ⟨rest, [(nk, v)]⟩ = (newTuple rest >>= fun t => pure [(nk, v), (pv, t)])) :
    Fn P w K mg base (k + 1) x [nk] (fun ds m Q E => ∃ rest v, ds = rest ++ [v] ∧ rest.length ≤ sizeLine ∧ sp [v, .tup rest] m Q E) := by
  have R := fn_starD (sp := sp) F S der spec hm 0 [nk] [0] [] (ds0 := []) (dvs0 := []) .nil (fun _ => Dens.nil) (fun l h => by
    match l, h with
    | [a], _ => rfl) (fun s us rest ws _ h1 h2 M A E Q hw => by
    obtain ⟨oc, od, dV, kV, doc, pm, an, cdv, ct, osl, rfl, lk, hcd, hD, hK⟩ := F.ex
    match us, ws, h1, h2 with
    | [], [v], _, _ =>
      rcases hD with ⟨_, rfl⟩ | ⟨e, _⟩
      · show wpAny M A (bindArgs _ ⟨rest, [(nk, v)]⟩) Q E s
        rw [hb kV doc pm an cdv ct rest v]
        exact hw
      · exact absurd rfl e)
  exact R.imp fun ds m Q E ⟨rest, v, e, hz, h⟩ => ⟨[], rest, [v], by rw [e]; rfl, rfl, rfl, hz, h⟩
/-- the law's def, told without exceptions -/
theorem law_ok {p : Str} (ok : FnOk P w K mg base (CX P w) k f fd ps (liftSp K sp)) : FnOk P w K mg base CX0 k f fd ps (fun vs H Q _ => liftSp K sp vs H Q fun _ _ _ => False) :=
  ⟨fun vs H Q E h => ok.len vs H Q _ h, fun A outer s H args us vs Q E hr e0 hb rv h => codeAny_mono (ok.run A outer s H args us vs Q _ hr e0 hb rv h) fun r s' hq => by
    cases r with
    | ok fl => cases fl <;> exact hq
    | error e =>
      obtain ⟨a, B, H', cls, d, ea, fl, hok, un, na, os, ag, he⟩ := hq
      exact he.elim⟩
end
theorem den_ints {K : Frag} {F : Hp} : ∀ ns : List Int, Dens K F (ns.map D.int) (ns.map V.int)
  | [] => Dens.nil
  | n :: ns => Dens.cons (by simp only [Den]) (den_ints ns)
/-- the law's promise at its script -/
theorem law_at {K : Frag} {H : Hp} {a : Addr} {ns : List Int} {sp : SpD} (hS : SqL K H a (ns.map V.int)) (h : sp [.klst (ns.map .int)] (fun _ => none) (fun d _ => d = .bl true) (fun _ _ => False)) :
    liftSp K sp [.ref a] H (fun v _ => v = .bl true) (fun _ _ _ => False) :=
  ⟨H, fun _ => none, [.klst (ns.map .int)], _, _, ⟨Sub.refl H, fun _ _ e => by cases e⟩, Dens.one (by simp only [Den]; exact ⟨a, _, rfl, hS, den_ints ns⟩), h,
    fun v H' F' m' d _ _ dn e => by subst e; simpa only [Den] using dn, fun _ _ _ _ _ _ _ _ _ z => z⟩
end DL

/-! K05S: what the defs promise (pure functions over names). -/
namespace DL
open PySem PySem.Spec L2

/-! ### the merge, as a function -/
def headsOf : List Nm → Nm → Nm
  | [], f => f
  | [] :: rs, f => headsOf rs f
  | (x :: _) :: rs, f => headsOf rs (if x ∈ f then f else f ++ [x])
def freeOf (rows : List Nm) : Nm := (headsOf rows []).filter fun h => decide (∀ r ∈ rows, h ∉ r.tail)
def cutRow (x : Nme) (r : Nm) : Nm := if r.head? = some x then r.tail else r
def cutRows (x : Nme) (rows : List Nm) : List Nm := (rows.map (cutRow x)).filter fun r => decide (r ≠ [])
def consE (x : Nme) : Except Nm Nm → Except Nm Nm
  | .ok r => .ok (x :: r)
  | .error h => .error h
/-- the merged names, or the heads at a conflict -/
def mrg : Nat → List Nm → Except Nm Nm
  | 0, _ => .ok []
  | n + 1, rows => if rows = [] then .ok [] else match freeOf rows with
    | [] => .error (headsOf rows [])
    | x :: _ => consE x (mrg n (cutRows x rows))
def size (rows : List Nm) : Nat := (rows.map List.length).sum
def merged (rows : List Nm) : Except Nm Nm := mrg (size (rows.filter fun r => decide (r ≠ [])) + 1) (rows.filter fun r => decide (r ≠ []))

/-! ### promises -/
def sp_heads_of : SpD := fun ds m Q _ => ∃ rows : List Nm, ds = [.lst (rows.map dL)] ∧ (∀ r ∈ rows, r ≠ []) ∧ rows.length ≤ sizeLine ∧ Q (dL (headsOf rows [])) m
def sp_merge_n : SpD := fun ds m Q _ => ∃ (rows : List Nm) (nm : D) (r : Nm), ds = rows.map dT ++ [nm] ∧ rows.length ≤ 100 ∧ (∀ r ∈ rows, r.length ≤ 100) ∧ merged rows = .ok r ∧ Q (dT r) m
def sp_order_of : SpD := fun ds m Q _ => ∃ (x : Nme) (bs : Nm) (o : Addr) (kvs : List (Key × D)) (od : Nme → Nm) (r : Nm), ds = [.str x.s, dT bs, .ref o] ∧ m o = some (.dct kvs) ∧ (∀ b ∈ bs, valD kvs (.inr b.s) = some (dT (od b))) ∧
  bs.length ≤ 90 ∧ (∀ b ∈ bs, (od b).length ≤ 100) ∧ merged (bs.map od ++ [bs]) = .ok r ∧ r.length < 1000 ∧ Q (dT (x :: r)) m
/-- a graph of classes: their names, each one's bases and order -/
structure Grf (names : Nm) (bs od : Nme → Nm) (rk : Nme → Nat) : Prop where
  nd : names.Nodup
  few : names.length ≤ 60
  in_ : ∀ x ∈ names, ∀ b ∈ bs x, b ∈ names ∧ rk b < rk x
  rks : ∀ x ∈ names, rk x < names.length
  bl : ∀ x ∈ names, (bs x).length ≤ 60
  ol : ∀ x ∈ names, (od x).length ≤ 60
  oe : ∀ x ∈ names, ∃ r, merged ((bs x).map od ++ [bs x]) = .ok r ∧ od x = x :: r
def sp_add_orders : SpD := fun ds m Q _ => ∃ (x : Nme) (g o : Addr) (G : List (Key × D)) (names : Nm) (bs od : Nme → Nm) (rk : Nme → Nat), ds = [.str x.s, .ref g, .ref o] ∧ m g = some (.dct G) ∧ m o = some (.dct []) ∧ g ≠ o ∧
  Grf names bs od rk ∧ x ∈ names ∧ (∀ y ∈ names, valD G (.inr y.s) = some (dT (bs y))) ∧ ∀ kvs, valD kvs (.inr x.s) = some (dT (od x)) → Q .non (m.put o (.dct kvs))
def sp_linearize : SpD := fun ds m Q _ => ∃ (x : Nme) (g : Addr) (G : List (Key × D)) (names : Nm) (bs od : Nme → Nm) (rk : Nme → Nat), ds = [.str x.s, .ref g] ∧ m g = some (.dct G) ∧
  Grf names bs od rk ∧ x ∈ names ∧ (∀ y ∈ names, valD G (.inr y.s) = some (dT (bs y))) ∧ Q (dT (od x)) m
def sp_common : SpD := fun ds m Q _ => ∃ a b : Nm, ds = [dT a, dT b] ∧ a.length ≤ 1000 ∧ Q (dT (a.filter fun x => decide (x ∈ b))) m
def sp_common_k : SpD := fun ds m Q E => ds.length = 0 + 2 ∧ sp_common (sel [1, 0] ds) m Q E
def sp_cell : SpD := fun ds m Q _ => ∃ (ns : List Int) (p : Addr) (k : Int), ds = [.klst (ns.map .int), .ref p] ∧ ns.length ≤ 63 ∧ m p = some (.lst [.int k]) ∧ 0 ≤ k ∧ k < 2 ^ 32 ∧ ∀ n : Int, 0 ≤ n → n ≤ 306783378 → Q (.int n) (m.put p (.lst [.int (k + 1)]))
/-- pairs of a class and its bases -/
abbrev Prs := List (Nme × Nm)
def dPrs (ps : Prs) : D := .lst (ps.map fun q => .tup [.str q.1.s, dT q.2])
def cStr (k : Nat) : Str := ("c" : Str) ++ (toString (k : Int) : String)
structure PrsOk (ps : Prs) : Prop where
  few : ps.length ≤ 11
  nm : ∀ i (h : i < ps.length), (ps[i]).1.s = cStr i
  bs : ∀ i (h : i < ps.length), ∀ b ∈ (ps[i]).2, ∃ j, j < i ∧ b.s = cStr j
  nd : ∀ i (h : i < ps.length), (ps[i]).2.Nodup
  bl : ∀ i (h : i < ps.length), (ps[i]).2.length ≤ 3
def sp_graph : SpD := fun ds m Q _ => ∃ (ns : List Int) (p : Addr) (k : Int), ds = [.klst (ns.map .int), .ref p, .int 8] ∧ ns.length ≤ 63 ∧ m p = some (.lst [.int k]) ∧ 0 ≤ k ∧ k < 2 ^ 31 ∧
  ∀ (ps : Prs) (k' : Int), PrsOk ps → k ≤ k' → k' ≤ k + 20 → Q (dPrs ps) (m.put p (.lst [.int k']))
def sp_lmerge : SpD := fun ds m Q _ => ∃ rows : List Nm, ds = [.lst (rows.map dT)] ∧ rows.length ≤ 100 ∧ (∀ r ∈ rows, r.length ≤ 100) ∧ Q (match merged rows with | .ok r => dL r | .error h => dT h) m
/-- the orders of all classes up to the first conflict -/
def ordOf (acc : List (Nme × Nm)) (b : Nme) : Nm := ((acc.find? fun q => decide (q.1 = b)).map (·.2)).getD []
def ordersOf : Prs → List (Nme × Nm) → List (Nme × Nm) × Option (Nme × Nm)
  | [], acc => (acc, none)
  | (x, bs) :: ps, acc => match merged (bs.map (ordOf acc) ++ [bs]) with
    | .ok r => ordersOf ps (acc ++ [(x, x :: r)])
    | .error h => (acc, some (x, h))
def dOrd (acc : List (Nme × Nm)) : List (Key × D) := acc.map fun q => (.inr q.1.s, dT q.2)
def dCfl : Option (Nme × Nm) → D
  | none => .non
  | some (x, h) => .tup [.str x.s, dT h]
def sp_lorders : SpD := fun ds m Q _ => ∃ ps : Prs, ds = [dPrs ps] ∧ PrsOk ps ∧ ∀ o, m o = none → Q (.tup [.ref o, dCfl (ordersOf ps []).2]) (m.put o (.dct (dOrd (ordersOf ps []).1)))
def letters : Nm := [⟨"a", by decide +kernel⟩, ⟨"b", by decide +kernel⟩, ⟨"c", by decide +kernel⟩, ⟨"d", by decide +kernel⟩, ⟨"e", by decide +kernel⟩, ⟨"f", by decide +kernel⟩, ⟨"g", by decide +kernel⟩, ⟨"h", by decide +kernel⟩, ⟨"i", by decide +kernel⟩]
def sp_row : SpD := fun ds m Q _ => ∃ n : Int, ds = [.int n, .int 9] ∧ 0 ≤ n ∧ n ≤ 306783378 ∧ ∀ ns : Nm, ns.Nodup → (∀ x ∈ ns, x ∈ letters) → ns.length ≤ 9 → Q (dT ns) m
def sp_shared : SpD := fun ds m Q _ => ∃ a b : Nm, ds = [dT a, dT b] ∧ a.length ≤ 9 ∧ b.length ≤ 9 ∧ b.Nodup ∧ Q (dT (a.filter fun x => decide (x ∈ b))) m
def sp_law : SpD := fun ds m Q _ => ∃ ns : List Int, ds = [.klst (ns.map .int)] ∧ ns.length ≤ 63 ∧ ∀ m', Q (.bl true) m'
end DL

/-! K05R: readings (printed by gen.py). -/
namespace DL
open PySem PySem.Spec L2
/-- heads_of: 0 rows, 1 found, 2 row -/
def rd_heads_of : WS := (sSeq (sAsg (wLstM wNil) (gN 1)) (sSeq (sFor (wiSeq (wVar 0)) (gN 2) (sIf (wTruB (wBin ninD (wBin ixD (wVar 2) (wC (.int 0))) (wVar 1))) (sDrop (wAppend (wVar 1) (wBin ixD (wVar 2) (wC (.int 0))))) sNil)) (sRet (wFrz (wVar 1)))))
/-- merge: 0 name, 1 sequences, 2 rows, 3 found, 4 heads, 5 free, 6 sequence, 7 head, 8 row -/
def rd_merge : WS := (sSeq (sAsg (wTup (wCons (wLcP (wiSeq (wVar 1)) (gN 6) (wTruB (wBin gtD (wCB fLen (wCons (wVar 6) wNil)) (wC (.int 0)))) (wCB fList (wCons (wVar 6) wNil)) [6]) (wCons (wLstM wNil) wNil))) (gTup 2 (gsCons (gN 2) (gsCons (gN 3) gsNil)))) (sSeq (sWhile (wTruB (wBin neD (wVar 2) (wLst wNil))) (sSeq (sAsg (wCall sp_heads_of 0 (wCons (wVar 2) wNil) wNil) (gN 4)) (sSeq (sAsg (wLcP (wiSeq (wVar 4)) (gN 7) (wNotT (wTru (wCB fAny (wCons (wLcP (wiSeq (wVar 2)) (gN 8) wYes (wBin inD (wVar 7) (wSl (wVar 8) (wPso (wC (.int 1))) wPno)) [8]) wNil)))) (wVar 7) [7]) (gN 5)) (sSeq (sIf (wTruB (wBin eqD (wVar 5) (wLst wNil))) sNever sNil) (sSeq (sDrop (wAppend (wVar 3) (wBin ixD (wVar 5) (wC (.int 0))))) (sSeq (sAsg (wLcP (wiSeq (wVar 2)) (gN 8) wYes (wIte (wTruB (wBin eqD (wBin ixD (wVar 8) (wC (.int 0))) (wBin ixD (wVar 5) (wC (.int 0))))) (wSl (wVar 8) (wPso (wC (.int 1))) wPno) (wVar 8)) [8]) (gN 2)) (sAsg (wLcP (wiSeq (wVar 2)) (gN 8) (wTruB (wBin neD (wVar 8) (wLst wNil))) (wVar 8) [8]) (gN 2)))))))) (sRet (wCB fTuple (wCons (wVar 3) wNil)))))
/-- order_of: 0 name, 1 bases, 2 orders, 3 rows, 4 base -/
def rd_order_of : WS := (sSeq (sAsg (wLcP (wiSeq (wVar 1)) (gN 4) wYes (wBin dgetD (wVar 2) (wVar 4)) [4]) (gN 3)) (sRet (wBin addD (wTup (wCons (wVar 0) wNil)) (wCall sp_merge_n 1 (wStar (wVar 3) (wCons (wVar 1) wNil)) (wCons (wVar 0) wNil)))))
/-- add_orders: 0 name, 1 bases, 2 orders, 3 waiting, 4 here, 5 missing, 6 base -/
def rd_add_orders : WS := (sSeq (sAsg (wLstM (wCons (wVar 0) wNil)) (gN 3)) (sWhile (wTruB (wBin neD (wVar 3) (wLst wNil))) (sSeq (sAsg (wBin ixD (wVar 3) (wNeg (wC (.int 1)))) (gN 4)) (sSeq (sAsg (wLcP (wiSeq (wBin dgetD (wVar 1) (wVar 4))) (gN 6) (wTruB (wBin dninD (wVar 6) (wVar 2))) (wVar 6) [6]) (gN 5)) (sIf (wTruB (wBin neD (wVar 5) (wLst wNil))) (sDrop (wAppend (wVar 3) (wBin ixD (wVar 5) (wC (.int 0))))) (sSeq (sDrop (wPop (wVar 3))) (sIf (wTruB (wBin dninD (wVar 4) (wVar 2))) (sDput (wVar 2) (wVar 4) (wCall sp_order_of 0 (wCons (wVar 4) (wCons (wBin dgetD (wVar 1) (wVar 4)) (wCons (wVar 2) wNil))) wNil)) sNil)))))))
/-- linearize: 0 name, 1 bases, 2 orders -/
def rd_linearize : WS := (sSeq (sAsg wDNew (gN 2)) (sSeq (sDrop (wCall sp_add_orders 0 (wCons (wVar 0) (wCons (wVar 1) (wCons (wVar 2) wNil))) wNil)) (sRet (wBin dgetD (wVar 2) (wVar 0)))))
/-- common: 0 one, 1 other, 2 name -/
def rd_common : WS := (sRet (wCB fTuple (wCons (wLcP (wiSeq (wVar 0)) (gN 2) (wTruB (wBin inD (wVar 2) (wVar 1))) (wVar 2) [2]) wNil)))
/-- _law_cell: 0 _law_cells, 1 _law_spot, 2 _law_k, 3 _law_base, 4 _law_at, 5 _law_turn, 6 _law_rest, 7 _law_j -/
def rd__law_cell : WS := (sSeq (sAsg (wBin ixD (wVar 1) (wC (.int 0))) (gN 2)) (sSeq (sAsg (wBin addD (wVar 2) (wC (.int 1))) (gSubL (wVar 1) (wC (.int 0)))) (sSeq (sAsg (wBin addD (wBin mulD (wBin mulD (wC (.int 31)) (wVar 2)) (wVar 2)) (wBin mulD (wC (.int 7919)) (wVar 2))) (gN 3)) (sSeq (sIf (wTruB (wBin gtD (wCB fLen (wCons (wVar 0) wNil)) (wC (.int 0)))) (sSeq (sPar2 4 5 (wCons (wBin modD (wVar 2) (wCB fLen (wCons (wVar 0) wNil))) (wCons (wBin fdivD (wVar 2) (wCB fLen (wCons (wVar 0) wNil))) wNil))) (sSeq (sIf (wAndT (wTruB (wBin geD (wBin ixD (wVar 0) (wVar 4)) (wBin powD (wC (.int 10)) (wC (.int 18))))) (wTruB (wBin ltD (wVar 5) (wC (.int 60))))) (sSeq (sAsg (wBin ixD (wVar 0) (wVar 4)) (gN 6)) (sSeq (sFor (wiRng1 (wCons (wVar 5) wNil)) (gN 7) (sAsg (wBin fdivD (wVar 6) (wC (.int 306783379))) (gN 6))) (sIf (wTruB (wBin gtD (wVar 6) (wC (.int 0)))) (sRet (wBin modD (wVar 6) (wC (.int 306783379)))) sNil))) sNil) (sAsg (wBin addD (wVar 3) (wBin mulD (wBin modD (wBin ixD (wVar 0) (wVar 4)) (wC (.int 2147483629))) (wBin addD (wC (.int 1)) (wVar 5)))) (gN 3)))) sNil) (sRet (wBin fdivD (wBin modD (wBin powD (wBin modD (wVar 3) (wC (.int 2147483647))) (wC (.int 5))) (wC (.int 2147483647))) (wC (.int 7))))))))
/-- _law_graph: 0 _law_cells, 1 _law_spot, 2 _law_most, 3 _law_n, 4 _law_found, 5 _law_k, 6 _law_m, 7 _law_stock, 8 _law_bases, 9 _law_j, 10 _law_row_here -/
def rd__law_graph : WS := (sSeq (sPar2 3 4 (wCons (wCall sp_cell 0 (wCons (wVar 0) (wCons (wVar 1) wNil)) wNil) (wCons (wLstM wNil) wNil))) (sSeq (sFor (wiRng1 (wCons (wBin addD (wC (.int 1)) (wBin modD (wVar 3) (wVar 2))) wNil)) (gN 5) (sSeq (sPar3 6 7 8 (wCons (wCall sp_cell 0 (wCons (wVar 0) (wCons (wVar 1) wNil)) wNil) (wCons (wLcQ (wiSeq (wVar 4)) (gN 10) wYes (wBin ixD (wVar 10) (wC (.int 0))) [10]) (wCons (wLstM wNil) wNil)))) (sSeq (sFor (wiRng1 (wCons (wCB fMin2 (wCons (wBin ixD (wLst (wCons (wC (.int 0)) (wCons (wC (.int 1)) (wCons (wC (.int 2)) (wCons (wC (.int 1)) (wCons (wC (.int 2)) (wCons (wC (.int 3)) wNil))))))) (wBin modD (wVar 6) (wC (.int 6)))) (wCons (wCB fLen (wCons (wVar 7) wNil)) wNil))) wNil)) (gN 9) (sDrop (wAppend (wVar 8) (wPopAt (wVar 7) (wBin modD (wBin fdivD (wVar 6) (wBin ixD (wLst (wCons (wC (.int 6)) (wCons (wC (.int 60)) (wCons (wC (.int 600)) wNil)))) (wVar 9))) (wCB fLen (wCons (wVar 7) wNil))))))) (sDrop (wAppend (wVar 4) (wTup (wCons (wBin addD (wC (.str "c")) (wCB fStrI (wCons (wVar 5) wNil))) (wCons (wCB fTuple (wCons (wVar 8) wNil)) wNil)))))))) (sRet (wFrz (wVar 4)))))
/-- _law_merge: 0 _law_rows, 1 _law_found, 2 _law_heads, 3 _law_row_here, 4 _law_tails, 5 _law_free, 6 _law_head -/
def rd__law_merge : WS := (sSeq (sPar2 0 1 (wCons (wLcP (wiSeq (wVar 0)) (gN 3) (wTruB (wBin gtD (wCB fLen (wCons (wVar 3) wNil)) (wC (.int 0)))) (wCB fList (wCons (wVar 3) wNil)) [3]) (wCons (wLstM wNil) wNil))) (sSeq (sWhile (wTruB (wBin neD (wVar 0) (wLst wNil))) (sSeq (sAsg (wLstM wNil) (gN 2)) (sSeq (sFor (wiSeq (wVar 0)) (gN 3) (sIf (wTruB (wBin ninD (wBin ixD (wVar 3) (wC (.int 0))) (wVar 2))) (sDrop (wAppend (wVar 2) (wBin ixD (wVar 3) (wC (.int 0))))) sNil)) (sSeq (sAsg (wCB fSumL (wCons (wLcP (wiSeq (wVar 0)) (gN 3) wYes (wSl (wVar 3) (wPso (wC (.int 1))) wPno) [3]) (wCons (wLst wNil) wNil))) (gN 4)) (sSeq (sAsg (wLcP (wiSeq (wVar 2)) (gN 6) (wTruB (wBin ninD (wVar 6) (wVar 4))) (wVar 6) [6]) (gN 5)) (sSeq (sIf (wTruB (wBin eqD (wVar 5) (wLst wNil))) (sRet (wCB fTuple (wCons (wVar 2) wNil))) sNil) (sSeq (sDrop (wAppend (wVar 1) (wBin ixD (wVar 5) (wC (.int 0))))) (sSeq (sAsg (wLcP (wiSeq (wVar 0)) (gN 3) wYes (wIte (wTruB (wBin eqD (wBin ixD (wVar 3) (wC (.int 0))) (wBin ixD (wVar 5) (wC (.int 0))))) (wSl (wVar 3) (wPso (wC (.int 1))) wPno) (wVar 3)) [3]) (gN 0)) (sAsg (wLcP (wiSeq (wVar 0)) (gN 3) (wTruB (wBin neD (wVar 3) (wLst wNil))) (wVar 3) [3]) (gN 0)))))))))) (sRet (wFrz (wVar 1)))))
/-- _law_orders: 0 _law_pairs, 1 _law_orders_here, 2 _law_who, 3 _law_bases, 4 _law_found, 5 _law_base -/
def rd__law_orders : WS := (sSeq (sAsg wDNew (gN 1)) (sSeq (sFor (wiSeq (wVar 0)) (gTup 2 (gsCons (gN 2) (gsCons (gN 3) gsNil))) (sSeq (sAsg (wCall sp_lmerge 0 (wCons (wBin addD (wLcP (wiSeq (wVar 3)) (gN 5) wYes (wBin dgetD (wVar 1) (wVar 5)) [5]) (wLst (wCons (wVar 3) wNil))) wNil) wNil) (gN 4)) (sSeq (sIf (wTru (wCB fIsi (wCons (wVar 4) (wCons (wC (.ty "tuple")) wNil)))) (sRet (wTup (wCons (wVar 1) (wCons (wTup (wCons (wVar 2) (wCons (wVar 4) wNil))) wNil)))) sNil) (sDput (wVar 1) (wVar 2) (wBin addD (wTup (wCons (wVar 2) wNil)) (wCB fTuple (wCons (wVar 4) wNil))))))) (sRet (wTup (wCons (wVar 1) (wCons (wC .non) wNil))))))
/-- _law_row: 0 _law_n, 1 _law_most, 2 _law_stock, 3 _law_found, 4 _law_k -/
def rd__law_row : WS := (sSeq (sPar2 2 3 (wCons (wLstM (wCons (wC (.str "a")) (wCons (wC (.str "b")) (wCons (wC (.str "c")) (wCons (wC (.str "d")) (wCons (wC (.str "e")) (wCons (wC (.str "f")) (wCons (wC (.str "g")) (wCons (wC (.str "h")) (wCons (wC (.str "i")) wNil)))))))))) (wCons (wLstM wNil) wNil))) (sSeq (sFor (wiRng1 (wCons (wBin modD (wVar 0) (wBin addD (wVar 1) (wC (.int 1)))) wNil)) (gN 4) (sSeq (sAsg (wBin addD (wBin addD (wBin fdivD (wVar 0) (wC (.int 7))) (wBin mulD (wC (.int 5)) (wVar 0))) (wVar 4)) (gN 0)) (sDrop (wAppend (wVar 3) (wPopAt (wVar 2) (wBin modD (wVar 0) (wCB fLen (wCons (wVar 2) wNil)))))))) (sRet (wCB fTuple (wCons (wVar 3) wNil)))))
/-- _law_shared: 0 _law_row_here, 1 _law_far, 2 _law_found, 3 _law_sign, 4 _law_item -/
def rd__law_shared : WS := (sSeq (sAsg (wLstM wNil) (gN 2)) (sSeq (sFor (wiSeq (wVar 0)) (gN 3) (sFor (wiSeq (wVar 1)) (gN 4) (sIf (wTruB (wBin eqD (wVar 3) (wVar 4))) (sDrop (wAppend (wVar 2) (wVar 3))) sNil))) (sRet (wCB fTuple (wCons (wVar 2) wNil)))))
/-- law: 0 _law_script, 1 _law_spot, 2 _law_turn, 3 _law_row_here, 4 _law_far, 5 _law_due, 6 _law_pairs, 7 _law_orders_here, 8 _law_conflict, 9 _law_graph_here, 10 _law_who, 11 _law_bases, 12 _law_base, 13 _law_above, 14 _law_below, 15 _law_told -/
def rd_law : WS := (sSeq (sAsg (wLstM (wCons (wC (.int 0)) wNil)) (gN 1)) (sSeq (sFor (wiRng1 (wCons (wBin addD (wC (.int 3)) (wCB fMin2 (wCons (wC (.int 20)) (wCons (wCB fLen (wCons (wVar 0) wNil)) wNil)))) wNil)) (gN 2) (sSeq (sPar2 3 4 (wCons (wCall sp_row 0 (wCons (wCall sp_cell 0 (wCons (wVar 0) (wCons (wVar 1) wNil)) wNil) (wCons (wC (.int 9)) wNil)) wNil) (wCons (wCall sp_row 0 (wCons (wCall sp_cell 0 (wCons (wVar 0) (wCons (wVar 1) wNil)) wNil) (wCons (wC (.int 9)) wNil)) wNil) wNil))) (sSeq (sAsg (wCall sp_shared 0 (wCons (wVar 3) (wCons (wVar 4) wNil)) wNil) (gN 5)) (sSeq (sIf (wOrT (wTruB (wBin neD (wCall sp_common 0 (wCons (wVar 3) (wCons (wVar 4) wNil)) wNil) (wVar 5))) (wTruB (wBin neD (wCB fSortedS (wCons (wCall sp_common 0 (wCons (wVar 4) (wCons (wVar 3) wNil)) wNil) wNil)) (wCB fSortedS (wCons (wVar 5) wNil))))) (sRet (wC (.bl false))) sNil) (sSeq (sIf (wTruB (wBin neD (wLst (wCons (wCall sp_common 0 (wCons (wVar 3) (wCons (wVar 3) wNil)) wNil) (wCons (wCall sp_common 0 (wCons (wVar 3) (wCons (wTup wNil) wNil)) wNil) (wCons (wCall sp_common 0 (wCons (wTup wNil) (wCons (wVar 4) wNil)) wNil) wNil)))) (wLst (wCons (wVar 3) (wCons (wTup wNil) (wCons (wTup wNil) wNil)))))) (sRet (wC (.bl false))) sNil) (sSeq (sAsg (wCall sp_graph 0 (wCons (wVar 0) (wCons (wVar 1) (wCons (wC (.int 8)) wNil))) wNil) (gN 6)) (sSeq (sAsg (wCall sp_lorders 0 (wCons (wVar 6) wNil) wNil) (gTup 2 (gsCons (gN 7) (gsCons (gN 8) gsNil)))) (sSeq (sAsg wDNew (gN 9)) (sSeq (sFor (wiSeq (wVar 6)) (gTup 2 (gsCons (gN 10) (gsCons (gN 11) gsNil))) (sDput (wVar 9) (wVar 10) (wVar 11))) (sFor (wiSeq (wVar 6)) (gTup 2 (gsCons (gN 10) (gsCons (gN 11) gsNil))) (sFor (wiSeq (wIte (wTruB (wBin dinD (wVar 10) (wVar 7))) (wVar 11) (wTup wNil))) (gN 12) (sSeq (sPar2 13 14 (wCons (wCall sp_linearize 0 (wCons (wVar 12) (wCons (wVar 9) wNil)) wNil) (wCons (wCall sp_linearize 0 (wCons (wVar 10) (wCons (wVar 9) wNil)) wNil) wNil))) (sSeq (sAsg (wLst (wCons (wCall sp_common 0 (wCons (wVar 14) (wCons (wVar 13) wNil)) wNil) (wCons (wCall sp_common_k 2 wNil (wCons (wVar 14) (wCons (wVar 13) wNil))) wNil))) (gN 15)) (sIf (wTruB (wBin neD (wVar 15) (wLst (wCons (wVar 13) (wCons (wVar 13) wNil))))) (sRet (wC (.bl false))) sNil)))))))))))))) (sRet (wC (.bl true)))))
end DL

/-! K05P: the defs keep their promises. -/
namespace DL
open PySem PySem.Spec L2
theorem sz1 : (1000 : Nat) ≤ sizeLine := by decide
abbrev cL (ns : Nm) : Cell := .lst (ns.map fun x => D.str x.s)
theorem spec_heads_of : ∀ ds m Q E, sp_heads_of ds m Q E → rd_heads_of (Dend Q E) (startD ["rows", "found", "row"] ds) m := by
  rintro ds m Q E ⟨rows, rfl, hne, hlen, hQ⟩
  show rd_heads_of (Dend Q E) [some (.lst (rows.map dL)), none, none] m
  simp -dsimp [rd_heads_of]
  intro p hp
  obtain ⟨Iv, hIv⟩ : ∃ Iv : List Nm → List Nm → En → Mem → Prop, Iv = fun done rest env m' => ∃ x acc, env = [some (.lst (rows.map dL)), some (.ref p), x] ∧ m' = m.put p (cL acc) ∧ headsOf rows [] = headsOf rest acc ∧ (∀ r ∈ rest, r ≠ []) ∧ acc.length + rest.length ≤ rows.length := ⟨_, rfl⟩
  refine ForX.intro rows dL inj_dL Iv (by simp) (by rw [hIv]; exact ⟨_, [], rfl, rfl, rfl, hne, by simp⟩) ?_ ?_
  · intro done r rest env m' e iv
    rw [hIv] at iv
    obtain ⟨x, acc, rfl, rfl, h1, h3, h2⟩ := iv
    refine ⟨rfl, ?_⟩
    obtain ⟨h, t, rfl⟩ := List.exists_cons_of_ne_nil (h3 r List.mem_cons_self)
    simp -dsimp
    simp at h2
    refine (Br_ndec (p := h ∈ acc)).mpr ⟨fun hn => ?_, fun hi => ?_⟩
    · simp -dsimp
      refine ⟨by omega, ?_⟩
      rw [hIv]
      refine ⟨_, acc ++ [h], rfl, by simp [cL], ?_, fun r hr => h3 r (List.mem_cons_of_mem _ hr), by simp; omega⟩
      rw [h1]; show headsOf ((h :: t) :: rest) acc = _; rw [headsOf, if_neg hn]
    · simp -dsimp
      rw [hIv]
      exact ⟨_, acc, rfl, rfl, by rw [h1, headsOf, if_pos hi], fun r hr => h3 r (List.mem_cons_of_mem _ hr), by omega⟩
  · intro env m' iv
    rw [hIv] at iv
    obtain ⟨x, acc, rfl, rfl, h1, h3, h2⟩ := iv
    refine ⟨rfl, ?_⟩
    simp -dsimp
    refine ⟨m, by rw [Mem.del_none hp]; simp, ?_⟩
    rw [h1] at hQ
    exact hQ
theorem spec_common : ∀ ds m Q E, sp_common ds m Q E → rd_common (Dend Q E) (startD ["one", "other", "name"] ds) m := by
  rintro ds m Q E ⟨a, b, rfl, hl, hQ⟩
  show rd_common (Dend Q E) [some (dT a), some (dT b), none] m
  simp -dsimp [rd_common]
  refine LcX.intro a (fun x => D.str x.s) (fun x => if x ∈ b then some x else none) (fun x => D.str x.s) inj_nm rfl (Nat.le_trans hl sz1) ?_ ?_
  · intro x hx m' hm
    simp -dsimp
  · simp -dsimp
    refine ⟨m, Mem.le_refl m, ?_⟩
    have e : a.filterMap (fun x => if x ∈ b then some x else none) = a.filter fun x => decide (x ∈ b) := by
      rw [← List.filterMap_eq_filter]
      congr 1
      funext x
      simp [Option.guard]
    rw [e]
    exact hQ
theorem spec_shared : ∀ ds m Q E, sp_shared ds m Q E → rd__law_shared (Dend Q E) (startD ["_law_row_here", "_law_far", "_law_found", "_law_sign", "_law_item"] ds) m := by
  rintro ds m Q E ⟨a, b, rfl, hl, hl2, hn, hQ⟩
  show rd__law_shared (Dend Q E) [some (dT a), some (dT b), none, none, none] m
  simp -dsimp [rd__law_shared]
  intro p hp
  have s20 : 20 < sizeLine := by decide
  obtain ⟨Iv, hIv⟩ : ∃ Iv : Nm → Nm → En → Mem → Prop, Iv = fun done rest env m' => ∃ x y, env = [some (dT a), some (dT b), some (.ref p), x, y] ∧ m' = m.put p (cL (done.filter fun x => decide (x ∈ b))) := ⟨_, rfl⟩
  refine ForX.intro a (fun x => D.str x.s) inj_nm Iv rfl (by rw [hIv]; exact ⟨_, _, rfl, rfl⟩) ?_ ?_
  · intro done x rest env m' e iv
    rw [hIv] at iv
    obtain ⟨x1, y1, rfl, rfl⟩ := iv
    refine ⟨rfl, ?_⟩
    simp -dsimp
    have hz : (done.filter fun x => decide (x ∈ b)).length ≤ 9 := by
      have h1 := List.length_filter_le (fun x => decide (x ∈ b)) done
      have h2 := congrArg List.length e
      rw [List.length_append] at h2
      omega
    obtain ⟨Jv, hJv⟩ : ∃ Jv : Nm → Nm → En → Mem → Prop, Jv = fun d2 r2 env m' => ∃ y, env = [some (dT a), some (dT b), some (.ref p), some (.str x.s), y] ∧ m' = m.put p (cL (done.filter (fun x => decide (x ∈ b)) ++ if x ∈ d2 then [x] else [])) := ⟨_, rfl⟩
    refine ForX.intro b (fun x => D.str x.s) inj_nm Jv rfl (by rw [hJv]; exact ⟨_, rfl, by simp⟩) ?_ ?_
    · intro d2 t r2 env m' e2 jv
      rw [hJv] at jv
      obtain ⟨y, rfl, rfl⟩ := jv
      refine ⟨rfl, ?_⟩
      simp -dsimp
      refine (Br_dec (p := x = t)).mpr ⟨fun h => ?_, fun h => ?_⟩
      · subst h
        have hx : x ∉ d2 := by
          rw [e2] at hn
          have := List.nodup_append.mp hn
          intro hx
          exact this.2.2 x hx x List.mem_cons_self rfl
        simp -dsimp [hx]
        refine ⟨by omega, ?_⟩
        rw [hJv]
        exact ⟨_, rfl, by simp [cL]⟩
      · simp -dsimp
        rw [hJv]
        exact ⟨_, rfl, by simp [h]⟩
    · intro env m' jv
      rw [hJv] at jv
      obtain ⟨y, rfl, rfl⟩ := jv
      refine ⟨rfl, ?_⟩
      simp -dsimp
      rw [hIv]
      refine ⟨_, _, rfl, ?_⟩
      rw [List.filter_append]
      by_cases h : x ∈ b <;> simp [h]
  · intro env m' iv
    rw [hIv] at iv
    obtain ⟨x1, y1, rfl, rfl⟩ := iv
    refine ⟨rfl, ?_⟩
    simp -dsimp
    exact ⟨m, Mem.le_put hp, hQ⟩
theorem cell_last (b : Int) : 0 ≤ (b % 2147483647) ^ 5 % 2147483647 / 7 ∧ (b % 2147483647) ^ 5 % 2147483647 / 7 ≤ 306783378 := by
  have h0 : 0 ≤ (b % 2147483647) ^ 5 % 2147483647 := Int.emod_nonneg _ (by decide)
  have h1 : (b % 2147483647) ^ 5 % 2147483647 < 2147483647 := Int.emod_lt_of_pos _ (by decide)
  omega
theorem spec_cell : ∀ ds m Q E, sp_cell ds m Q E → rd__law_cell (Dend Q E) (startD ["_law_cells", "_law_spot", "_law_k", "_law_base", "_law_at", "_law_turn", "_law_rest", "_law_j"] ds) m := by
  rintro ds m Q E ⟨ns, p, k, rfl, hl, hp, h0, h1, hQ⟩
  show rd__law_cell (Dend Q E) [some (.klst (ns.map .int)), some (.ref p), none, none, none, none, none, none] m
  simp -dsimp [rd__law_cell, lst_iff.mpr hp]
  have hQ : ∀ (n : Int) (m' : Mem), m' = m.put p (.lst [.int (k + 1)]) → 0 ≤ n → n ≤ 306783378 → ∃ m0, m0.le m' ∧ Q (.int n) m0 := fun n m' e a b => ⟨_, Mem.le_refl _, by rw [e]; exact hQ n a b⟩
  have last : ∀ b : Int, CPow (b % 2147483647) 5 ∧ CDiv ((b % 2147483647) ^ 5 % 2147483647) 7 ∧ ∃ m0, m0.le (m.put p (.lst [.int (k + 1)])) ∧ Q (.int ((b % 2147483647) ^ 5 % 2147483647 / 7)) m0 := fun b => by
    obtain ⟨c0, c1⟩ := cell_last b
    have hb0 : 0 ≤ b % 2147483647 := Int.emod_nonneg _ (by decide)
    have hb1 : b % 2147483647 < 2147483647 := Int.emod_lt_of_pos _ (by decide)
    exact ⟨⟨by decide, by decide, by omega⟩, ⟨by decide, by decide⟩, hQ _ _ rfl c0 c1⟩
  refine ⟨.inl ⟨by decide, by decide⟩, .inr ⟨by omega, by omega⟩, .inl ⟨by decide, by decide⟩, ?_⟩
  refine (Br_dec (p := 0 < ns.length)).mpr ⟨fun hpos => ?_, fun hz => ?_⟩
  · simp -dsimp
    have hn : (0 : Int) < ns.length := by omega
    refine ⟨hpos, ⟨hn, by omega⟩, ?_⟩
    have hm0 : 0 ≤ k % ns.length := Int.emod_nonneg _ (by omega)
    have hm1 : k % ns.length < ns.length := Int.emod_lt_of_pos _ hn
    have hd0 : 0 ≤ k / ns.length := Int.ediv_nonneg h0 (by omega)
    have hd1 : k / ns.length < 2 ^ 32 := Int.lt_of_le_of_lt (Int.ediv_le_self _ h0) h1
    obtain ⟨v, hv, _⟩ : ∃ v, atI (ns.map D.int) (k % ns.length) = some (.int v) ∧ True := by
      obtain ⟨x, e1, e2⟩ := atI_some (xs := ns.map D.int) hm0 (by simpa using hm1)
      rw [List.getElem?_map] at e2
      cases q : ns[(k % ns.length).toNat]? with
      | none => rw [q] at e2; cases e2
      | some z => rw [q] at e2; cases e2; exact ⟨z, e1, trivial⟩
    obtain ⟨t, ht⟩ := Int.eq_ofNat_of_zero_le hd0
    rw [ht] at hd0 hd1
    have fin : ∀ b : Int, CMul (v % 2147483629) (1 + t) ∧ CPow ((b + v % 2147483629 * (1 + t)) % 2147483647) 5 ∧ CDiv (((b + v % 2147483629 * (1 + t)) % 2147483647) ^ 5 % 2147483647) 7 ∧ ∃ m0, m0.le (m.put p (.lst [.int (k + 1)])) ∧ Q (.int (((b + v % 2147483629 * (1 + t)) % 2147483647) ^ 5 % 2147483647 / 7)) m0 := fun b => by
      have h3 : 0 ≤ v % 2147483629 := Int.emod_nonneg _ (by decide)
      have h4 : v % 2147483629 < 2147483629 := Int.emod_lt_of_pos _ (by decide)
      exact ⟨.inl ⟨by omega, by omega⟩, last _⟩
    simp -dsimp [hv, ht]
    refine ⟨⟨by decide, by decide, by decide⟩, AndK_any.mpr ⟨fun hg => ?_, fun hg => ?_⟩⟩
    · simp -dsimp
      refine (Br_dec (p := (t : Int) < 60)).mpr ⟨fun h6 => ?_, fun h6 => ?_⟩
      · simp -dsimp [hv, ht]
        refine ⟨by omega, ?_⟩
        obtain ⟨Iv, hIv⟩ : ∃ Iv : Nat → En → Mem → Prop, Iv = fun i env m' => ∃ (r : Int) (x7 : Option D), env = [some (.klst (ns.map .int)), some (.ref p), some (.int k), some (.int (31 * k * k + 7919 * k)), some (.int (k % ns.length)), some (.int t), some (.int r), x7] ∧ m' = m.put p (.lst [.int (k + 1)]) := ⟨_, rfl⟩
        refine ForR.intro t rfl Iv (by rw [hIv]; exact ⟨_, _, rfl, rfl⟩) ?_ ?_
        · intro i env m' hi iv
          rw [hIv] at iv
          obtain ⟨r, x7, rfl, rfl⟩ := iv
          simp -dsimp
          refine ⟨⟨by decide, by decide⟩, ?_⟩
          rw [hIv]
          exact ⟨_, _, rfl, rfl⟩
        · intro env m' iv
          rw [hIv] at iv
          obtain ⟨r, x7, rfl, rfl⟩ := iv
          simp -dsimp
          refine (Br_dec (p := 0 < r)).mpr ⟨fun h7 => ?_, fun h7 => ?_⟩
          · simp -dsimp
            exact hQ _ _ rfl (Int.emod_nonneg _ (by decide)) (by have := Int.emod_lt_of_pos r (b := 306783379) (by decide); omega)
          · simp -dsimp [hv, ht]
            exact fin _
      · simp -dsimp [hv, ht]
        exact fin _
    · simp -dsimp [hv, ht]
      exact fin _
  · simp -dsimp
    exact last _
theorem erase_perm {α : Type} : ∀ {l : List α} {j : Nat} (h : j < l.length), (l[j] :: l.eraseIdx j).Perm l
  | [], j, h => absurd h (by simp)
  | a :: l, 0, h => by simp
  | a :: l, j + 1, h => by
    have ih := erase_perm (l := l) (j := j) (by simpa using h)
    rw [List.getElem_cons_succ, List.eraseIdx_cons_succ]
    exact (List.Perm.swap _ _ _).trans (ih.cons a)
theorem spec_row : ∀ ds m Q E, sp_row ds m Q E → rd__law_row (Dend Q E) (startD ["_law_n", "_law_most", "_law_stock", "_law_found", "_law_k"] ds) m := by
  rintro ds m Q E ⟨n, rfl, h0, h1, hQ⟩
  show rd__law_row (Dend Q E) [some (.int n), some (.int 9), none, none, none] m
  simp -dsimp [rd__law_row]
  refine ⟨by decide, fun p hp q hq => ?_⟩
  have hqp : q ≠ p := fun e => by rw [e, Mem.put_same] at hq; cases hq
  have hmq : m q = none := by rw [Mem.put_ne hqp] at hq; exact hq
  have hr0 : 0 ≤ n % 10 := Int.emod_nonneg _ (by decide)
  have hr1 : n % 10 < 10 := Int.emod_lt_of_pos _ (by decide)
  refine ⟨by omega, by omega, ?_⟩
  obtain ⟨t, ht⟩ := Int.eq_ofNat_of_zero_le hr0
  have htl : t ≤ 9 := by omega
  obtain ⟨Iv, hIv⟩ : ∃ Iv : Nat → En → Mem → Prop, Iv = fun i env m' => ∃ (z : Int) (x4 : Option D) (st fo : Nm), env = [some (.int z), some (.int 9), some (.ref p), some (.ref q), x4] ∧ m' = (m.put p (cL st)).put q (cL fo) ∧ 0 ≤ z ∧ z < 2 ^ (29 + 4 * i) ∧ st.length + i = 9 ∧ fo.length = i ∧ (fo ++ st).Nodup ∧ ∀ x ∈ fo ++ st, x ∈ letters := ⟨_, rfl⟩
  refine ForR.intro t ht Iv ?_ ?_ ?_
  · rw [hIv]
    exact ⟨n, _, letters, [], rfl, rfl, h0, by omega, rfl, rfl, by decide +kernel, fun x h => h⟩
  · intro i env m' hi iv
    rw [hIv] at iv
    obtain ⟨z, x4, st, fo, rfl, rfl, z0, z1, l1, l2, nd, mem⟩ := iv
    have c1 : (m.put p (cL st)).put q (cL fo) = (m.put q (cL fo)).put p (cL st) := Mem.put_comm (Ne.symm hqp)
    have e1 : lstOf ((m.put p (cL st)).put q (cL fo)) (.ref p) = some (st.map fun x => D.str x.s) := by rw [c1]; simp
    have e2 : ∀ c : Cell, lstOf (((m.put p (cL st)).put q (cL fo)).put p c) (.ref q) = some (fo.map fun x => D.str x.s) := fun c => by rw [lstOf_ne hqp]; simp
    simp -dsimp [e1, e2]
    have hl : (0 : Int) < st.length := by omega
    have w0 : 0 ≤ (z / 7 + 5 * z + i) % st.length := Int.emod_nonneg _ (by omega)
    have w1 : (z / 7 + 5 * z + i) % st.length < st.length := Int.emod_lt_of_pos _ hl
    have zb : (2 : Int) ^ (29 + 4 * i) ≤ 2 ^ 63 := by exact_mod_cast Nat.pow_le_pow_right (by decide) (by omega)
    have z63 : z < 9223372036854775808 := by omega
    generalize (z / 7 + 5 * z + i) % st.length = w at w0 w1
    obtain ⟨j, rfl⟩ := Int.eq_ofNat_of_zero_le w0
    have hj : j < st.length := by omega
    refine ⟨⟨by decide, by decide⟩, .inl ⟨by decide, by decide⟩, by omega, ⟨by omega, by omega⟩, Is.intro (seqIndex_nat w0 w1) (Is.intro (x := D.str st[j].s) (by simp [hj]) ?_)⟩
    simp -dsimp [e2]
    have s20 : 20 < sizeLine := by decide
    refine ⟨by omega, ?_⟩
    rw [hIv, Mem.put4 hqp]
    have pm := erase_perm hj
    have pm2 : (fo ++ [st[j]] ++ st.eraseIdx j).Perm (fo ++ st) := by
      rw [List.append_assoc]
      exact List.Perm.append_left fo pm
    refine ⟨_, _, st.eraseIdx j, fo ++ [st[j]], rfl, ?_, by omega, ?_, ?_, by simp [l2], pm2.nodup_iff.mpr nd, fun x hx => mem x (pm2.mem_iff.mp hx)⟩
    · simp [cL, map_erase]
    · have : (2 : Int) ^ (29 + 4 * (i + 1)) = 16 * 2 ^ (29 + 4 * i) := by
        rw [show 29 + 4 * (i + 1) = 4 + (29 + 4 * i) by omega, Int.pow_add]; rfl
      have g : (2 : Int) ^ 29 ≤ 2 ^ (29 + 4 * i) := by exact_mod_cast Nat.pow_le_pow_right (by decide) (by omega)
      rw [this]
      omega
    · rw [List.length_eraseIdx_of_lt hj]; omega
  · intro env m' iv
    rw [hIv] at iv
    obtain ⟨z, x4, st, fo, rfl, rfl, z0, z1, l1, l2, nd, mem⟩ := iv
    simp -dsimp
    refine ⟨m, Mem.le_trans (Mem.le_put hp) (Mem.le_put (by rw [Mem.put_ne hqp]; exact hmq)), hQ fo (List.nodup_append.mp nd).1 (fun x hx => mem x (List.mem_append_left _ hx)) (by omega)⟩
end DL

/-! KM: the merge as a function. -/
namespace DL
open PySem PySem.Spec L2
theorem size_cons (r : Nm) (rs : List Nm) : size (r :: rs) = r.length + size rs := by simp [size]
theorem mem_headsOf : ∀ (rows : List Nm) (f : Nm) (x : Nme), x ∈ headsOf rows f ↔ x ∈ f ∨ ∃ r ∈ rows, r.head? = some x
  | [], f, x => by simp [headsOf]
  | [] :: rs, f, x => by rw [headsOf, mem_headsOf rs f x]; simp
  | (y :: t) :: rs, f, x => by
    rw [headsOf, mem_headsOf rs _ x]
    by_cases h : y ∈ f
    · rw [if_pos h]
      simp only [List.mem_cons, exists_eq_or_imp, List.head?_cons, Option.some.injEq]
      constructor
      · rintro (a | b)
        · exact .inl a
        · exact .inr (.inr b)
      · rintro (a | rfl | b)
        · exact .inl a
        · exact .inl h
        · exact .inr b
    · rw [if_neg h]
      simp only [List.mem_append, List.mem_cons, exists_eq_or_imp, List.head?_cons, Option.some.injEq, List.not_mem_nil, or_false]
      constructor
      · rintro ((a | rfl) | b)
        · exact .inl a
        · exact .inr (.inl rfl)
        · exact .inr (.inr b)
      · rintro (a | rfl | b)
        · exact .inl (.inl a)
        · exact .inl (.inr rfl)
        · exact .inr b
theorem mem_freeOf {rows : List Nm} {x : Nme} : x ∈ freeOf rows ↔ (∃ r ∈ rows, r.head? = some x) ∧ ∀ r ∈ rows, x ∉ r.tail := by
  unfold freeOf
  rw [List.mem_filter, mem_headsOf]
  simp
theorem cutRow_len (x : Nme) (r : Nm) : (cutRow x r).length ≤ r.length := by
  unfold cutRow; split
  · simp
  · exact Nat.le_refl _
theorem size_filter (rows : List Nm) : size (rows.filter fun r => decide (r ≠ [])) = size rows := by
  induction rows with
  | nil => rfl
  | cons r rs ih =>
    by_cases h : r = []
    · subst h
      rw [List.filter_cons_of_neg (by simp), size_cons, ih]; simp
    · rw [List.filter_cons_of_pos (by simp [h]), size_cons, size_cons, ih]
theorem size_cut_le (x : Nme) (rows : List Nm) : size (rows.map (cutRow x)) ≤ size rows := by
  induction rows with
  | nil => exact Nat.le_refl _
  | cons r rs ih =>
    rw [List.map_cons, size_cons, size_cons]
    have := cutRow_len x r
    omega
theorem size_cut (x : Nme) {rows : List Nm} (h : ∃ r ∈ rows, r.head? = some x) : size (cutRows x rows) < size rows := by
  unfold cutRows
  rw [size_filter]
  induction rows with
  | nil => obtain ⟨r, hr, _⟩ := h; cases hr
  | cons r rs ih =>
    rw [List.map_cons, size_cons, size_cons]
    by_cases hr : r.head? = some x
    · have h1 : (cutRow x r).length < r.length := by
        unfold cutRow; rw [if_pos hr]
        cases r with
        | nil => cases hr
        | cons a t => simp
      have := size_cut_le x rs
      omega
    · have h2 : ∃ r ∈ rs, r.head? = some x := by
        obtain ⟨s, hs, hx⟩ := h
        rcases List.mem_cons.mp hs with rfl | hs
        · exact absurd hx hr
        · exact ⟨s, hs, hx⟩
      have := ih h2
      have := cutRow_len x r
      omega
/-- one more step of fuel changes nothing -/
theorem mrg_fuel : ∀ (n : Nat) (rows : List Nm), size rows < n → mrg n rows = mrg (size rows + 1) rows
  | 0, rows, h => by omega
  | n + 1, rows, h => by
    have step : ∀ k, mrg (k + 1) rows = if rows = [] then .ok [] else match freeOf rows with
        | [] => .error (headsOf rows [])
        | x :: _ => consE x (mrg k (cutRows x rows)) := fun k => rfl
    rw [step n, step (size rows)]
    by_cases hr : rows = []
    · rw [if_pos hr, if_pos hr]
    · rw [if_neg hr, if_neg hr]
      cases hf : freeOf rows with
      | nil => rfl
      | cons x t =>
        have hx : x ∈ freeOf rows := by rw [hf]; exact List.mem_cons_self
        have hs := size_cut x (mem_freeOf.mp hx).1
        have e1 := mrg_fuel n (cutRows x rows) (by omega)
        have e2 : mrg (size rows) (cutRows x rows) = mrg (size (cutRows x rows) + 1) (cutRows x rows) := by
          cases n with
          | zero => omega
          | succ n' =>
            by_cases q : size rows ≤ n'
            · exact mrg_fuel (size rows) _ hs
            · have : size rows = n' + 1 := by omega
              rw [this]; exact e1
        simp only [e1, e2]
def mg (rows : List Nm) : Except Nm Nm := mrg (size rows + 1) rows
theorem mg_nil : mg [] = .ok [] := rfl
theorem mg_step {rows : List Nm} (h : rows ≠ []) : mg rows = match freeOf rows with
    | [] => .error (headsOf rows [])
    | x :: _ => consE x (mg (cutRows x rows)) := by
  have step : mg rows = if rows = [] then .ok [] else match freeOf rows with
        | [] => .error (headsOf rows [])
        | x :: _ => consE x (mrg (size rows) (cutRows x rows)) := rfl
  rw [step, if_neg h]
  cases hf : freeOf rows with
  | nil => rfl
  | cons x t =>
    have hx : x ∈ freeOf rows := by rw [hf]; exact List.mem_cons_self
    have hs := size_cut x (mem_freeOf.mp hx).1
    show consE x (mrg (size rows) (cutRows x rows)) = _
    rw [mrg_fuel (size rows) (cutRows x rows) hs]
    rfl
theorem merged_mg (rows : List Nm) : merged rows = mg (rows.filter fun r => decide (r ≠ [])) := rfl
/-- what a merge gives: every row in its order, no name twice, no other names -/
theorem mg_ok : ∀ (n : Nat) (rows : List Nm) (r : Nm), size rows ≤ n → (∀ x ∈ rows, x ≠ []) → mg rows = .ok r → (∀ s ∈ rows, s.Sublist r) ∧ r.Nodup ∧ (∀ x ∈ r, ∃ s ∈ rows, x ∈ s)
  | n, [], r, _, _, e => by rw [mg_nil] at e; cases e; exact ⟨by simp, List.nodup_nil, by simp⟩
  | 0, s :: rows, r, hn, hne, e => by
    have := hne s List.mem_cons_self
    rw [size_cons] at hn
    have : s.length = 0 := by omega
    exact absurd (List.length_eq_zero_iff.mp this) (by assumption)
  | n + 1, s :: rows, r, hn, hne, e => by
    generalize hR : s :: rows = R at *
    have hRn : R ≠ [] := by rw [← hR]; simp
    rw [mg_step hRn] at e
    cases hf : freeOf R with
    | nil => rw [hf] at e; cases e
    | cons x t =>
      rw [hf] at e
      have e : consE x (mg (cutRows x R)) = .ok r := e
      have hx : x ∈ freeOf R := by rw [hf]; exact List.mem_cons_self
      obtain ⟨hh, hfree⟩ := mem_freeOf.mp hx
      have hs := size_cut x hh
      cases hm : mg (cutRows x R) with
      | error h => rw [hm] at e; cases e
      | ok r' =>
        rw [hm] at e
        have e : Except.ok (x :: r') = (Except.ok r : Except Nm Nm) := e
        cases e
        have hc : ∀ z ∈ cutRows x R, z ≠ [] := fun z hz => by
          unfold cutRows at hz
          have := (List.mem_filter.mp hz).2
          simpa using this
        obtain ⟨i1, i2, i3⟩ := mg_ok n (cutRows x R) r' (by omega) hc hm
        have notin : ∀ z ∈ R, x ∉ cutRow x z := fun z hz hxz => by
          unfold cutRow at hxz
          split at hxz
          · exact hfree z hz hxz
          · rename_i hd
            cases z with
            | nil => cases hxz
            | cons a b =>
              rcases List.mem_cons.mp hxz with rfl | hb
              · exact hd rfl
              · exact hfree _ hz hb
        have sub : ∀ z ∈ R, (cutRow x z).Sublist r' := fun z hz => by
          by_cases h0 : cutRow x z = []
          · rw [h0]; exact List.nil_sublist _
          · exact i1 _ (by unfold cutRows; rw [List.mem_filter]; exact ⟨List.mem_map_of_mem hz, by simp [h0]⟩)
        refine ⟨fun z hz => ?_, ?_, ?_⟩
        · have hsub := sub z hz
          unfold cutRow at hsub
          split at hsub
          · rename_i hd
            cases z with
            | nil => cases hd
            | cons a b =>
              rw [List.head?_cons] at hd
              cases hd
              exact hsub.cons₂ _
          · exact hsub.cons _
        · refine List.nodup_cons.mpr ⟨fun hxr => ?_, i2⟩
          obtain ⟨z, hz, hxz⟩ := i3 x hxr
          unfold cutRows at hz
          obtain ⟨w, hw, rfl⟩ := List.mem_map.mp (List.mem_filter.mp hz).1
          exact notin w hw hxz
        · intro y hy
          rcases List.mem_cons.mp hy with rfl | hy
          · obtain ⟨z, hz, hd⟩ := hh
            exact ⟨z, hz, List.mem_of_mem_head? hd⟩
          · obtain ⟨z, hz, hyz⟩ := i3 y hy
            unfold cutRows at hz
            obtain ⟨w, hw, rfl⟩ := List.mem_map.mp (List.mem_filter.mp hz).1
            refine ⟨w, hw, ?_⟩
            unfold cutRow at hyz
            split at hyz
            · exact List.mem_of_mem_tail hyz
            · exact hyz
theorem merged_ok {rows : List Nm} {r : Nm} (e : merged rows = .ok r) : (∀ s ∈ rows, s.Sublist r) ∧ r.Nodup ∧ (∀ x ∈ r, ∃ s ∈ rows, x ∈ s) := by
  rw [merged_mg] at e
  obtain ⟨a, b, c⟩ := mg_ok _ _ r (Nat.le_refl _) (fun z hz => by have := (List.mem_filter.mp hz).2; simpa using this) e
  refine ⟨fun s hs => ?_, b, fun x hx => ?_⟩
  · by_cases h : s = []
    · rw [h]; exact List.nil_sublist _
    · exact a s (List.mem_filter.mpr ⟨hs, by simp [h]⟩)
  · obtain ⟨s, hs, h⟩ := c x hx
    exact ⟨s, (List.mem_filter.mp hs).1, h⟩
/-- a part of a row without doubles, picked by its own names -/
theorem sub_filter : ∀ {a b : Nm}, a.Sublist b → b.Nodup → b.filter (fun x => decide (x ∈ a)) = a
  | _, _, .slnil, _ => rfl
  | _, _, .cons (l₁ := a) (l₂ := b) x h, hn => by
    obtain ⟨h1, h2⟩ := List.nodup_cons.mp hn
    have hx : x ∉ a := fun z => h1 (h.subset z)
    rw [List.filter_cons_of_neg (by simpa using hx)]
    exact sub_filter h h2
  | _, _, .cons₂ (l₁ := a) (l₂ := b) x h, hn => by
    obtain ⟨h1, h2⟩ := List.nodup_cons.mp hn
    rw [List.filter_cons_of_pos (by simp)]
    have ih := sub_filter h h2
    congr 1
    rw [show b.filter (fun y => decide (y ∈ x :: a)) = b.filter (fun y => decide (y ∈ a)) from List.filter_congr fun y hy => by
      have : y ≠ x := fun z => h1 (z ▸ hy)
      simp [this]]
    exact ih
end DL

/-! KP2: the two merges keep their promises. -/
namespace DL
open PySem PySem.Spec L2
def appE (a : Nm) : Except Nm Nm → Except Nm Nm
  | .ok r => .ok (a ++ r)
  | .error h => .error h
theorem appE_cons (a : Nm) (x : Nme) (e : Except Nm Nm) : appE a (consE x e) = appE (a ++ [x]) e := by cases e <;> simp [appE, consE]
theorem appE_nil (e : Except Nm Nm) : appE [] e = e := by cases e <;> rfl
theorem size_ge {a : List Nm} (h : ∀ r ∈ a, r ≠ []) : a.length ≤ size a := by
  induction a with
  | nil => exact Nat.le_refl _
  | cons r rs ih =>
    rw [size_cons, List.length_cons]
    have h1 := ih fun x hx => h x (List.mem_cons_of_mem _ hx)
    have h2 : 0 < r.length := List.length_pos_iff.mpr (h r List.mem_cons_self)
    omega
theorem flat_tails (a : List Nm) : (a.map List.tail).flatten.length ≤ size a := by
  induction a with
  | nil => exact Nat.le_refl _
  | cons r rs ih => rw [List.map_cons, List.flatten_cons, List.length_append, size_cons, List.length_tail]; omega
theorem headsOf_len : ∀ (a : List Nm) (f : Nm), (headsOf a f).length ≤ f.length + a.length
  | [], f => by simp [headsOf]
  | [] :: rs, f => by rw [headsOf]; have := headsOf_len rs f; simp; omega
  | (x :: t) :: rs, f => by
    rw [headsOf]
    have := headsOf_len rs (if x ∈ f then f else f ++ [x])
    split at this <;> simp at this ⊢ <;> (split <;> simp_all <;> omega)
theorem free_tails (a : List Nm) : ((headsOf a []).filter fun x => decide (x ∉ (a.map List.tail).flatten)) = freeOf a := by
  unfold freeOf
  apply List.filter_congr
  intro x _
  simp
theorem mem_tails {a : List Nm} {x : Nme} : x ∈ (a.map List.tail).flatten ↔ ∃ r ∈ a, x ∈ r.tail := by
  rw [List.mem_flatten]
  constructor
  · rintro ⟨l, hl, hx⟩
    obtain ⟨r, hr, rfl⟩ := List.mem_map.mp hl
    exact ⟨r, hr, hx⟩
  · rintro ⟨r, hr, hx⟩
    exact ⟨r.tail, List.mem_map_of_mem hr, hx⟩
theorem cutRows_len (x : Nme) (a : List Nm) : (cutRows x a).length ≤ a.length := by
  unfold cutRows
  have := List.length_filter_le (fun r => decide (r ≠ [])) (a.map (cutRow x))
  rwa [List.length_map] at this
theorem cutRows_ne (x : Nme) (a : List Nm) : ∀ r ∈ cutRows x a, r ≠ [] := fun r hr => by
  unfold cutRows at hr
  have := (List.mem_filter.mp hr).2
  simpa using this
theorem szl : 100000 < sizeLine := by decide
theorem spec_lmerge : ∀ ds m Q E, sp_lmerge ds m Q E → rd__law_merge (Dend Q E) (startD ["_law_rows", "_law_found", "_law_heads", "_law_row_here", "_law_tails", "_law_free", "_law_head"] ds) m := by
  rintro ds m Q E ⟨rows, rfl, hl, hrl, hQ⟩
  show rd__law_merge (Dend Q E) [some (.lst (rows.map dT)), none, none, none, none, none, none] m
  have sz := szl
  simp -dsimp [rd__law_merge]
  refine LcX.intro rows dT (fun r => if r ≠ [] then some r else none) dL inj_dT rfl (by omega) ?_ ?_
  · intro r hr m' hm
    simp -dsimp
    cases r with
    | nil => simp
    | cons x t => simp
  rw [fm_if]
  simp -dsimp
  intro q hq
  have hfe : rows.filter (fun r => !decide (r = [])) = rows.filter (fun r => decide (r ≠ [])) := by congr 1; funext r; simp
  rw [hfe]
  generalize ha : rows.filter (fun r => decide (r ≠ [])) = a0
  have ha0 : ∀ r ∈ a0, r ≠ [] := fun r hr => by rw [← ha] at hr; simpa using (List.mem_filter.mp hr).2
  have hs0 : size a0 ≤ 10000 := by
    have : ∀ l : List Nm, (∀ r ∈ l, r.length ≤ 100) → size l ≤ 100 * l.length := fun l => by
      induction l with
      | nil => intro _; exact Nat.le_refl _
      | cons r rs ih =>
        intro h
        rw [size_cons, List.length_cons]
        have := ih fun x hx => h x (List.mem_cons_of_mem _ hx)
        have := h r List.mem_cons_self
        omega
    rw [← ha, size_filter]
    have := this rows hrl
    omega
  have hm : merged rows = mg a0 := by rw [merged_mg, ha]
  obtain ⟨S, hS⟩ : ∃ S : List Nm × Nm → En → Mem → Prop, S = fun z env m' => (∃ x2 x3 x4 x5 x6, env = [some (.lst (z.1.map dL)), some (.ref q), x2, x3, x4, x5, x6]) ∧ lstOf m' (.ref q) = some (z.2.map fun x => D.str x.s) ∧ Ext m q m' ∧ (∀ r ∈ z.1, r ≠ []) ∧ z.2.length + size z.1 ≤ 10000 ∧ merged rows = appE z.2 (mg z.1) := ⟨_, rfl⟩
  refine WhileX.intro S (fun z => size z.1) (a0, []) ?_ ?_
  · rw [hS]
    exact ⟨⟨_, _, _, _, _, rfl⟩, by simp, Ext.start hq, ha0, by simpa using hs0, by rw [appE_nil, hm]⟩
  rintro ⟨a, acc⟩ env m' hs
  rw [hS] at hs
  obtain ⟨⟨x2, x3, x4, x5, x6, rfl⟩, h1, h2, h3, h4, h5⟩ := hs
  simp -dsimp
  simp at h1 h2 h3 h4 h5
  refine WhB_any.mpr ⟨fun hb => ?_, fun hb => ?_⟩
  · have hne : a ≠ [] := by simpa using hb
    simp -dsimp
    intro p hp
    have hqp : q ≠ p := fun z => by rw [← z] at hp; rw [lst_iff] at h1; rw [hp] at h1; cases h1
    obtain ⟨Iv, hIv⟩ : ∃ Iv : List Nm → List Nm → En → Mem → Prop, Iv = fun done rest env m2 => ∃ x3 hs, env = [some (.lst (a.map dL)), some (.ref q), some (.ref p), x3, x4, x5, x6] ∧ m2 = m'.put p (cL hs) ∧ headsOf a [] = headsOf rest hs ∧ (∀ r ∈ rest, r ≠ []) ∧ hs.length + rest.length ≤ a.length := ⟨_, rfl⟩
    have hal := size_ge h3
    refine ForX.intro a dL inj_dL Iv rfl (by rw [hIv]; exact ⟨_, [], rfl, rfl, rfl, h3, by simp⟩) ?_ ?_
    · intro done r rest env m2 e iv
      rw [hIv] at iv
      obtain ⟨y3, hs, rfl, rfl, g1, g3, g2⟩ := iv
      refine ⟨rfl, ?_⟩
      obtain ⟨h, t, rfl⟩ := List.exists_cons_of_ne_nil (g3 r List.mem_cons_self)
      simp -dsimp
      simp at g2
      refine (Br_ndec (p := h ∈ hs)).mpr ⟨fun hn => ?_, fun hi => ?_⟩
      · simp -dsimp
        refine ⟨by omega, ?_⟩
        rw [hIv]
        refine ⟨_, hs ++ [h], rfl, by simp [cL], ?_, fun r hr => g3 r (List.mem_cons_of_mem _ hr), by simp; omega⟩
        rw [g1]; show headsOf ((h :: t) :: rest) hs = _; rw [headsOf, if_neg hn]
      · simp -dsimp
        rw [hIv]
        exact ⟨_, hs, rfl, rfl, by rw [g1, headsOf, if_pos hi], fun r hr => g3 r (List.mem_cons_of_mem _ hr), by omega⟩
    · intro env m2 iv
      rw [hIv] at iv
      obtain ⟨y3, hs, rfl, rfl, g1, _, g2⟩ := iv
      refine ⟨rfl, ?_⟩
      have g1 : headsOf a [] = hs := g1
      simp -dsimp
      refine LcX.intro a dL (fun r => some r.tail) dL inj_dL rfl (by omega) (fun r hr m3 _ => by simp -dsimp [-List.map_tail, tail_map]) ?_
      rw [fm_some]
      simp -dsimp [-List.map_map, -List.map_flatten, -List.map_tail, -List.length_flatten, lists_dL, flat_map_str]
      have ft := flat_tails a
      have hsl : hs.length ≤ a.length := by simpa using g2
      refine ⟨by omega, ?_⟩
      refine LcX.intro hs (fun x => D.str x.s) (fun x => if x ∉ (a.map List.tail).flatten then some x else none) (fun x => D.str x.s) inj_nm (by simp) (by omega) ?_ ?_
      · intro x hx m3 _
        simp -dsimp [-List.mem_flatten, -List.map_flatten, -List.map_tail]
      rw [fm_if, ← g1, free_tails]
      have hM : m.le (m'.put p (cL (headsOf a []))) := (h2.fresh hp).le
      have hE : Ext m q (m'.put p (cL (headsOf a []))) := h2.fresh hp
      have hq1 : lstOf (m'.put p (cL (headsOf a []))) (.ref q) = some (acc.map fun x => D.str x.s) := by rw [lstOf_ne hqp]; exact h1
      simp -dsimp
      refine Br_any.mpr ⟨fun hf => ?_, fun hf => ?_⟩
      · have hf : freeOf a = [] := by simpa using hf
        simp -dsimp
        refine ⟨m, hM, ?_⟩
        have e : mg a = .error (headsOf a []) := by rw [mg_step hne, hf]
        rw [h5, e] at hQ
        exact hQ
      · obtain ⟨x, t, hf⟩ : ∃ x t, freeOf a = x :: t := by
          cases q : freeOf a with
          | nil => rw [q] at hf; cases hf
          | cons x t => exact ⟨x, t, rfl⟩
        have e : mg a = consE x (mg (cutRows x a)) := by rw [mg_step hne, hf]
        have hx : x ∈ freeOf a := by rw [hf]; exact List.mem_cons_self
        have hsz := size_cut x (mem_freeOf.mp hx).1
        rw [hf]
        simp -dsimp [hq1]
        refine ⟨by omega, ?_⟩
        generalize hM2 : (m'.put p (cL (headsOf a []))).put q (.lst (acc.map (fun x => D.str x.s) ++ [D.str x.s])) = M2
        have e2 : lstOf M2 (.ref q) = some ((acc ++ [x]).map fun x => D.str x.s) := by rw [← hM2]; simp
        have hE2 : Ext m q M2 := by rw [← hM2]; exact hE.own
        refine LcX.intro a dL (fun r => some (cutRow x r)) dL inj_dL rfl (by omega) ?_ ?_
        · intro r hr m3 _
          obtain ⟨h, u, rfl⟩ := List.exists_cons_of_ne_nil (h3 r hr)
          simp -dsimp
          refine IteK_any.mpr ⟨fun hd => ?_, fun hd => ?_⟩
          · have hd : h = x := by simpa using hd
            subst hd
            simp -dsimp [cutRow]
          · have hd : ¬ h = x := by simpa using hd
            simp -dsimp [cutRow, hd]
        rw [fm_some]
        simp -dsimp
        refine LcX.intro (a.map (cutRow x)) dL (fun r => if r ≠ [] then some r else none) dL inj_dL (by simp) (by rw [List.length_map]; omega) ?_ ?_
        · intro r hr m3 _
          simp -dsimp
          cases r with
          | nil => simp
          | cons y t => simp
        rw [fm_if]
        simp -dsimp
        have hcut : (a.map (cutRow x)).filter (fun r => !decide (r = [])) = cutRows x a := by unfold cutRows; congr 1; funext r; simp
        rw [hcut]
        refine Nxt.intro (cutRows x a, acc ++ [x]) hsz ?_
        rw [hS]
        refine ⟨⟨_, _, _, _, _, rfl⟩, e2, hE2, cutRows_ne x a, by simp; omega, ?_⟩
        rw [h5, e, appE_cons]
  · have hne : a = [] := by simpa using hb
    subst hne
    rw [mg_nil] at h5
    simp -dsimp [h1]
    rw [h5] at hQ
    exact ⟨m, h2, by simpa [appE] using hQ⟩
end DL

/-! KP3: the program's merge keeps its promise (where there is no conflict). -/
namespace DL
open PySem PySem.Spec L2
def sb_merge : SpD := fun ds m Q _ => ∃ (rows : List Nm) (nm : D) (r : Nm), ds = [nm, .tup (rows.map dT)] ∧ rows.length ≤ 100 ∧ (∀ r ∈ rows, r.length ≤ 100) ∧ merged rows = .ok r ∧ Q (dT r) m
theorem spec_merge : ∀ ds m Q E, sb_merge ds m Q E → rd_merge (Dend Q E) (startD ["name", "sequences", "rows", "found", "heads", "free", "sequence", "head", "row"] ds) m := by
  rintro ds m Q E ⟨rows, nm, res, rfl, hl, hrl, hres, hQ⟩
  show rd_merge (Dend Q E) [some nm, some (.tup (rows.map dT)), none, none, none, none, none, none, none] m
  have sz := szl
  simp -dsimp [rd_merge]
  refine LcX.intro rows dT (fun r => if r ≠ [] then some r else none) dL inj_dT rfl (by omega) ?_ ?_
  · intro r hr m' hm
    simp -dsimp
    cases r with
    | nil => simp
    | cons x t => simp
  rw [fm_if]
  simp -dsimp
  refine fun q hq => ⟨by omega, ?_⟩
  have hfe : rows.filter (fun r => !decide (r = [])) = rows.filter (fun r => decide (r ≠ [])) := by congr 1; funext r; simp
  rw [hfe]
  generalize ha : rows.filter (fun r => decide (r ≠ [])) = a0
  have ha0 : ∀ r ∈ a0, r ≠ [] := fun r hr => by rw [← ha] at hr; simpa using (List.mem_filter.mp hr).2
  have hs0 : size a0 ≤ 10000 := by
    have : ∀ l : List Nm, (∀ r ∈ l, r.length ≤ 100) → size l ≤ 100 * l.length := fun l => by
      induction l with
      | nil => intro _; exact Nat.le_refl _
      | cons r rs ih =>
        intro h
        rw [size_cons, List.length_cons]
        have := ih fun x hx => h x (List.mem_cons_of_mem _ hx)
        have := h r List.mem_cons_self
        omega
    rw [← ha, size_filter]
    have := this rows hrl
    omega
  have hm : mg a0 = .ok res := by rw [← hres, merged_mg, ha]
  obtain ⟨S, hS⟩ : ∃ S : List Nm × Nm → En → Mem → Prop, S = fun z env m' => (∃ x4 x5 x6 x7 x8, env = [some nm, some (.tup (rows.map dT)), some (.lst (z.1.map dL)), some (.ref q), x4, x5, x6, x7, x8]) ∧ lstOf m' (.ref q) = some (z.2.map fun x => D.str x.s) ∧ Ext m q m' ∧ (∀ r ∈ z.1, r ≠ []) ∧ z.2.length + size z.1 ≤ 10000 ∧ appE z.2 (mg z.1) = .ok res := ⟨_, rfl⟩
  refine WhileX.intro S (fun z => size z.1) (a0, []) ?_ ?_
  · rw [hS]
    exact ⟨⟨_, _, _, _, _, rfl⟩, by simp, Ext.start hq, ha0, by simpa using hs0, by rw [appE_nil, hm]⟩
  rintro ⟨a, acc⟩ env m' hs
  rw [hS] at hs
  obtain ⟨⟨x4, x5, x6, x7, x8, rfl⟩, h1, h2, h3, h4, h5⟩ := hs
  simp -dsimp
  simp at h1 h2 h3 h4 h5
  refine WhB_any.mpr ⟨fun hb => ?_, fun hb => ?_⟩
  · have hne : a ≠ [] := by simpa using hb
    have hal := size_ge h3
    simp -dsimp
    refine App.intro ⟨a, rfl, h3, by omega, ?_⟩
    simp -dsimp
    have hhl := headsOf_len a []
    simp at hhl
    refine LcX.intro (headsOf a []) (fun x => D.str x.s) (fun x => if ∀ r ∈ a, x ∉ r.tail then some x else none) (fun x => D.str x.s) inj_nm rfl (by omega) ?_ ?_
    · intro x hx m3 _
      simp -dsimp
      refine LcX.intro a dL (fun r => some (decide (x ∈ r.tail))) (fun b => D.bl b) inj_dL rfl (by omega) ?_ ?_
      · intro r hr m4 _
        simp -dsimp [-List.map_tail, tail_map]
        exact fun _ _ => rfl
      rw [fm_some]
      simp -dsimp [Function.comp_def]
    rw [fm_if]
    have hfr : (headsOf a []).filter (fun x => decide (∀ r ∈ a, x ∉ List.tail r)) = freeOf a := rfl
    rw [hfr]
    simp -dsimp
    refine Br_any.mpr ⟨fun hf => ?_, fun hf => ?_⟩
    · have hf : freeOf a = [] := by simpa using hf
      have e : mg a = .error (headsOf a []) := by rw [mg_step hne, hf]
      rw [e] at h5
      cases h5
    · obtain ⟨x, t, hf⟩ : ∃ x t, freeOf a = x :: t := by
        cases q : freeOf a with
        | nil => rw [q] at hf; cases hf
        | cons x t => exact ⟨x, t, rfl⟩
      have e : mg a = consE x (mg (cutRows x a)) := by rw [mg_step hne, hf]
      have hx : x ∈ freeOf a := by rw [hf]; exact List.mem_cons_self
      have hsz := size_cut x (mem_freeOf.mp hx).1
      rw [hf]
      simp -dsimp [h1]
      refine ⟨by omega, ?_⟩
      generalize hM2 : m'.put q (.lst (acc.map (fun x => D.str x.s) ++ [D.str x.s])) = M2
      have e2 : lstOf M2 (.ref q) = some ((acc ++ [x]).map fun x => D.str x.s) := by rw [← hM2]; simp
      have hE2 : Ext m q M2 := by rw [← hM2]; exact h2.own
      refine LcX.intro a dL (fun r => some (cutRow x r)) dL inj_dL rfl (by omega) ?_ ?_
      · intro r hr m3 _
        obtain ⟨h, u, rfl⟩ := List.exists_cons_of_ne_nil (h3 r hr)
        simp -dsimp
        refine IteK_any.mpr ⟨fun hd => ?_, fun hd => ?_⟩
        · have hd : h = x := by simpa using hd
          subst hd
          simp -dsimp [cutRow]
        · have hd : ¬ h = x := by simpa using hd
          simp -dsimp [cutRow, hd]
      rw [fm_some]
      simp -dsimp
      refine LcX.intro (a.map (cutRow x)) dL (fun r => if r ≠ [] then some r else none) dL inj_dL (by simp) (by rw [List.length_map]; omega) ?_ ?_
      · intro r hr m3 _
        simp -dsimp
        cases r with
        | nil => simp
        | cons y t => simp
      rw [fm_if]
      simp -dsimp
      have hcut : (a.map (cutRow x)).filter (fun r => !decide (r = [])) = cutRows x a := by unfold cutRows; congr 1; funext r; simp
      rw [hcut]
      refine Nxt.intro (cutRows x a, acc ++ [x]) hsz ?_
      rw [hS]
      refine ⟨⟨_, _, _, _, _, rfl⟩, e2, hE2, cutRows_ne x a, by simp; omega, ?_⟩
      rw [← appE_cons, ← e]
      exact h5
  · have hne : a = [] := by simpa using hb
    subst hne
    rw [mg_nil] at h5
    have h1s : seqOf m' (.ref q) = some (acc.map fun x => D.str x.s) := h1
    simp -dsimp [h1s]
    have h5 : Except.ok (acc ++ []) = (Except.ok res : Except Nm Nm) := h5
    cases h5
    exact ⟨m, h2.le, by simpa using hQ⟩
end DL

/-! KP4: orders of classes. -/
namespace DL
open PySem PySem.Spec L2
theorem spec_order_of : ∀ ds m Q E, sp_order_of ds m Q E → rd_order_of (Dend Q E) (startD ["name", "bases", "orders", "rows", "base"] ds) m := by
  rintro ds m Q E ⟨x, bs, o, kvs, od, r, rfl, ho, hb, hl, hol, hm, hrl, hQ⟩
  show rd_order_of (Dend Q E) [some (.str x.s), some (dT bs), some (.ref o), none, none] m
  have sz := szl
  simp -dsimp [rd_order_of]
  refine LcX.intro bs (fun x => D.str x.s) (fun b => some (od b)) dT inj_nm rfl (by omega) ?_ ?_
  · intro b hbm m' hm'
    have hd : dctOf m' (.ref o) = some kvs := dctOf_ref (hm' o _ ho)
    simp -dsimp [hd, hb b hbm]
  rw [fm_some]
  simp -dsimp
  refine ⟨by omega, App.intro ⟨bs.map od ++ [bs], .str x.s, r, by simp, by simp; omega, ?_, hm, ?_⟩⟩
  · intro s hs
    rcases List.mem_append.mp hs with hs | hs
    · obtain ⟨b, hb', rfl⟩ := List.mem_map.mp hs
      exact hol b hb'
    · rw [List.mem_singleton.mp hs]; omega
  · simp -dsimp
    exact ⟨by omega, m, Mem.le_refl m, hQ⟩
theorem spec_linearize : ∀ ds m Q E, sp_linearize ds m Q E → rd_linearize (Dend Q E) (startD ["name", "bases", "orders"] ds) m := by
  rintro ds m Q E ⟨x, g, G, names, bs, od, rk, rfl, hg, grf, hx, hG, hQ⟩
  show rd_linearize (Dend Q E) [some (.str x.s), some (.ref g), none] m
  simp -dsimp [rd_linearize]
  intro p hp
  have hgp : g ≠ p := fun z => by rw [z, hp] at hg; cases hg
  refine App.intro ⟨x, g, p, G, names, bs, od, rk, rfl, by rw [Mem.put_ne hgp]; exact hg, by simp, hgp, grf, hx, hG, fun kvs hk => ?_⟩
  simp -dsimp [hk]
  exact ⟨m, Mem.le_put hp, hQ⟩
/-- how many names are still without an order -/
def unr (names : Nm) (kvs : List (Key × D)) : Nat := (names.filter fun y => !(valD kvs (.inr y.s)).isSome).length
theorem unr_put {names : Nm} {kvs : List (Key × D)} {h : Nme} {d : D} (nd : names.Nodup) (hn : h ∈ names) (hv : valD kvs (.inr h.s) = none) : unr names (putD kvs (.inr h.s) d) + 1 = unr names kvs := by
  unfold unr
  induction names with
  | nil => cases hn
  | cons a l ih =>
    obtain ⟨h1, h2⟩ := List.nodup_cons.mp nd
    by_cases e : a = h
    · subst e
      have e1 : (valD (putD kvs (.inr a.s) d) (.inr a.s)).isSome = true := by rw [valD_put, if_pos rfl]; rfl
      rw [List.filter_cons_of_neg (by simp [e1]), List.filter_cons_of_pos (by simp [hv])]
      have : l.filter (fun y => !(valD (putD kvs (.inr a.s) d) (.inr y.s)).isSome) = l.filter (fun y => !(valD kvs (.inr y.s)).isSome) := List.filter_congr fun y hy => by
        have : y ≠ a := fun z => h1 (z ▸ hy)
        rw [valD_put, if_neg (fun z => this (Nme.ext (Sum.inr.inj z)))]
      rw [this]; simp
    · have hn' : h ∈ l := by
        rcases List.mem_cons.mp hn with z | z
        · exact absurd z.symm e
        · exact z
      have ih := ih h2 hn'
      have ea : valD (putD kvs (.inr h.s) d) (.inr a.s) = valD kvs (.inr a.s) := by rw [valD_put, if_neg (fun z => e (Nme.ext (Sum.inr.inj z)))]
      by_cases q : (valD kvs (.inr a.s)).isSome = true
      · rw [List.filter_cons_of_neg (by simp [ea, q]), List.filter_cons_of_neg (by simp [q])]; exact ih
      · rw [List.filter_cons_of_pos (by simp [ea]; simpa using q), List.filter_cons_of_pos (by simpa using q)]
        simp only [List.length_cons]; omega
def topRk (rk : Nme → Nat) (wt : Nm) : Nat := match wt.getLast? with
  | some h => rk h + 1
  | none => 0
theorem topRk_snoc (rk : Nme → Nat) (wt : Nm) (h : Nme) : topRk rk (wt ++ [h]) = rk h + 1 := by simp [topRk]
theorem spec_add_orders : ∀ ds m Q E, sp_add_orders ds m Q E → rd_add_orders (Dend Q E) (startD ["name", "bases", "orders", "waiting", "here", "missing", "base"] ds) m := by
  rintro ds m Q E ⟨x, g, o, G, names, bs, od, rk, rfl, hg, ho, hgo, grf, hx, hG, hQ⟩
  show rd_add_orders (Dend Q E) [some (.str x.s), some (.ref g), some (.ref o), none, none, none, none] m
  have sz := szl
  simp -dsimp [rd_add_orders]
  refine ⟨by omega, fun p hp => ?_⟩
  have hpo : p ≠ o := fun z => by rw [← z, hp] at ho; cases ho
  have hpg : p ≠ g := fun z => by rw [← z, hp] at hg; cases hg
  obtain ⟨S, hS⟩ : ∃ S : Nm × List (Key × D) → En → Mem → Prop, S = fun z env m' => (∃ x4 x5 x6, env = [some (.str x.s), some (.ref g), some (.ref o), some (.ref p), x4, x5, x6]) ∧ m' = (m.put o (.dct z.2)).put p (cL z.1) ∧
      z.1.Pairwise (fun a b => rk b < rk a) ∧ (∀ w ∈ z.1, w ∈ names ∧ valD z.2 (.inr w.s) = none) ∧ (∀ y ∈ names, valD z.2 (.inr y.s) = none ∨ valD z.2 (.inr y.s) = some (dT (od y))) ∧
      (z.1.head? = some x ∨ valD z.2 (.inr x.s) = some (dT (od x))) ∧ z.2.length + unr names z.2 ≤ names.length := ⟨_, rfl⟩
  refine WhileX.intro S (fun z => unr names z.2 * (names.length + 1) + topRk rk z.1) ([x], []) ?_ ?_
  · rw [hS]
    refine ⟨⟨_, _, _, rfl⟩, ?_, by simp, fun w hw => ?_, fun y _ => .inl rfl, .inl rfl, ?_⟩
    · have e : m.put o (.dct []) = m := by
        funext b; unfold Mem.put; split
        · rename_i z; rw [z, ho]
        · rfl
      rw [e]; rfl
    · rw [List.mem_singleton.mp hw]; exact ⟨hx, rfl⟩
    · unfold unr
      have := List.length_filter_le (fun y : Nme => !(valD ([] : List (Key × D)) (.inr y.s)).isSome) names
      simpa using this
  rintro ⟨wt, kvs⟩ env m' hs
  rw [hS] at hs
  obtain ⟨⟨x4, x5, x6, rfl⟩, rfl, h1, h2, h3, h4, h5⟩ := hs
  simp only at h1 h2 h3 h4 h5
  simp -dsimp
  refine neD_cell (xs := wt.map fun x => D.str x.s) (by simp) (pl_nm 59 wt) (pl_nil 59) ?_
  simp -dsimp
  refine WhB_any.mpr ⟨fun hb => ?_, fun hb => ?_⟩
  · have hne : wt ≠ [] := by simpa using hb
    obtain ⟨wi, h, rfl⟩ : ∃ wi h, wt = wi ++ [h] := ⟨wt.dropLast, wt.getLast hne, (List.dropLast_concat_getLast hne).symm⟩
    obtain ⟨hh, hv⟩ := h2 h (by simp)
    have hgd : dctOf ((m.put o (.dct kvs)).put p (cL (wi ++ [h]))) (.ref g) = some G := by rw [dctOf_ne (Ne.symm hpg), dctOf_ne hgo]; exact dctOf_ref hg
    have hod : dctOf ((m.put o (.dct kvs)).put p (cL (wi ++ [h]))) (.ref o) = some kvs := by rw [dctOf_ne (Ne.symm hpo)]; simp
    simp -dsimp [hgd, hG h hh]
    refine LcX.intro (bs h) (fun x => D.str x.s) (fun b => if valD kvs (.inr b.s) = none then some b else none) (fun x => D.str x.s) inj_nm rfl (by have := grf.bl h hh; omega) ?_ ?_
    · intro b hb' m3 hm3
      have hd := dctOf_le hm3 hod
      simp -dsimp [hd]
    rw [fm_if]
    have hms0 : ∀ b, b ∈ (bs h).filter (fun b => decide (valD kvs (.inr b.s) = none)) ↔ b ∈ bs h ∧ valD kvs (.inr b.s) = none := fun b => by simp
    generalize (bs h).filter (fun b => decide (valD kvs (.inr b.s) = none)) = ms at hms0 ⊢
    simp -dsimp
    refine Br_any.mpr ⟨fun hf => ?_, fun hf => ?_⟩
    · obtain ⟨b, t, rfl⟩ : ∃ b t, ms = b :: t := by
        cases ms with
        | nil => cases hf
        | cons b t => exact ⟨b, t, rfl⟩
      obtain ⟨hb1, hb2⟩ := (hms0 b).mp List.mem_cons_self
      obtain ⟨hb3, hb4⟩ := grf.in_ h hh b hb1
      have hpw := List.pairwise_append.mp h1
      have hlen : wi.length < names.length := by
        have inj : ∀ (l : Nm), l.Pairwise (fun a b => rk b < rk a) → (∀ w ∈ l, rk w < names.length) → l.length ≤ names.length := by
          have gen : ∀ (l : Nm) (k : Nat), l.Pairwise (fun a b => rk b < rk a) → (∀ w ∈ l, rk w < k) → l.length ≤ k := by
            intro l
            induction l with
            | nil => intro k _ _; exact Nat.zero_le _
            | cons a l ih =>
              intro k hp hk
              obtain ⟨q1, q2⟩ := List.pairwise_cons.mp hp
              have := ih (rk a) q2 q1
              have := hk a List.mem_cons_self
              simp; omega
          exact fun l => gen l _
        have := inj (wi ++ [h]) h1 fun w hw => grf.rks w (h2 w hw).1
        simp at this; omega
      have := grf.few
      simp -dsimp
      refine ⟨by omega, ?_⟩
      refine Nxt.intro (wi ++ [h] ++ [b], kvs) ?_ ?_
      · show unr names kvs * (names.length + 1) + topRk rk (wi ++ [h] ++ [b]) < unr names kvs * (names.length + 1) + topRk rk (wi ++ [h])
        rw [topRk_snoc, topRk_snoc]; omega
      rw [hS]
      refine ⟨⟨_, _, _, rfl⟩, by simp [cL], ?_, ?_, h3, ?_, h5⟩
      · show List.Pairwise (fun a b => rk b < rk a) (wi ++ [h] ++ [b])
        refine List.pairwise_append.mpr ⟨h1, List.pairwise_singleton _ _, fun a ha c hc => ?_⟩
        rw [List.mem_singleton.mp hc]
        rcases List.mem_append.mp ha with ha | ha
        · exact Nat.lt_trans hb4 (hpw.2.2 a ha h (by simp))
        · rw [List.mem_singleton.mp ha]; exact hb4
      · intro w hw
        rcases List.mem_append.mp hw with hw | hw
        · exact h2 w hw
        · rw [List.mem_singleton.mp hw]; exact ⟨hb3, hb2⟩
      · rcases h4 with h4 | h4
        · left
          cases wi with
          | nil => exact h4
          | cons _ _ => exact h4
        · exact .inr h4
    · have hall : ∀ b ∈ bs h, valD kvs (.inr b.s) = some (dT (od b)) := fun b hb1 => by
        rcases h3 b (grf.in_ h hh b hb1).1 with q | q
        · have : b ∈ ms := (hms0 b).mpr ⟨hb1, q⟩
          cases ms with
          | nil => cases this
          | cons _ _ => cases hf
        · exact q
      obtain ⟨r, hr1, hr2⟩ := grf.oe h hh
      have hol := grf.ol h hh
      have hu := unr_put (d := dT (h :: r)) grf.nd hh hv
      have := grf.few
      have hgA : ∀ c, dctOf ((m.put o (.dct kvs)).put p c) (.ref g) = some G := fun c => by rw [dctOf_ne (Ne.symm hpg), dctOf_ne hgo]; exact dctOf_ref hg
      have hoA : ∀ c, dctOf ((m.put o (.dct kvs)).put p c) (.ref o) = some kvs := fun c => by rw [dctOf_ne (Ne.symm hpo)]; simp
      simp -dsimp [hgA, hoA, hv, hG h hh]
      have hoM : ((m.put o (.dct kvs)).put p (cL wi)) o = some (.dct kvs) := by rw [Mem.put_ne (Ne.symm hpo)]; simp
      refine App.intro ⟨h, bs h, o, kvs, od, r, rfl, hoM, hall, by have := grf.bl h hh; omega, fun b hb1 => by have := grf.ol b (grf.in_ h hh b hb1).1; omega, hr1, by rw [hr2] at hol; simp at hol; omega, ?_⟩
      simp -dsimp [hoA]
      refine ⟨by omega, Nxt.intro (wi, putD kvs (.inr h.s) (dT (h :: r))) ?_ ?_⟩
      · show unr names (putD kvs (.inr h.s) (dT (h :: r))) * (names.length + 1) + topRk rk wi < unr names kvs * (names.length + 1) + topRk rk (wi ++ [h])
        rw [topRk_snoc, ← hu, Nat.succ_mul]
        have : topRk rk wi ≤ names.length := by
          unfold topRk
          cases q : wi.getLast? with
          | none => exact Nat.zero_le _
          | some w =>
            have hw : w ∈ wi := List.mem_of_getLast? q
            exact grf.rks w (h2 w (List.mem_append_left _ hw)).1
        omega
      rw [hS]
      have hput : ∀ y : Nme, valD (putD kvs (.inr h.s) (dT (h :: r))) (.inr y.s) = if y = h then some (dT (h :: r)) else valD kvs (.inr y.s) := fun y => by
        rw [valD_put]
        by_cases e : y = h
        · subst e; rw [if_pos rfl, if_pos rfl]
        · rw [if_neg e, if_neg (fun z => e (Nme.ext (Sum.inr.inj z)))]
      have hpw := List.pairwise_append.mp h1
      refine ⟨⟨_, _, _, rfl⟩, ?_, hpw.1, ?_, ?_, ?_, ?_⟩
      · rw [Mem.put_comm hpo, Mem.put_put]
      · intro w hw
        have hw2 := h2 w (List.mem_append_left _ hw)
        refine ⟨hw2.1, ?_⟩
        have hwh : w ≠ h := fun z => by
          have := hpw.2.2 w hw h (by simp)
          rw [z] at this
          exact Nat.lt_irrefl _ this
        rw [hput, if_neg hwh]; exact hw2.2
      · intro y hy
        rw [hput]
        by_cases e : y = h
        · subst e; rw [if_pos rfl, hr2]; exact .inr rfl
        · rw [if_neg e]; exact h3 y hy
      · rcases h4 with h4 | h4
        · cases wi with
          | nil =>
            right
            have hxh : h = x := by simpa using h4
            show valD (putD kvs (.inr h.s) (dT (h :: r))) (.inr x.s) = _
            rw [hput, if_pos hxh.symm, ← hxh, hr2]
          | cons a l => left; exact h4
        · right
          show valD (putD kvs (.inr h.s) (dT (h :: r))) (.inr x.s) = _
          rw [hput]
          by_cases e : x = h
          · rw [e] at h4; rw [hv] at h4; cases h4
          · rw [if_neg e]; exact h4
      · show (putD kvs (.inr h.s) (dT (h :: r))).length + _ ≤ _
        rw [putD_new hv, ← putD_new hv (v := dT (h :: r))]
        have : (putD kvs (.inr h.s) (dT (h :: r))).length = kvs.length + 1 := by rw [putD_new hv]; simp
        show (putD kvs (.inr h.s) (dT (h :: r))).length + unr names (putD kvs (.inr h.s) (dT (h :: r))) ≤ names.length
        omega
  · have hne : wt = [] := by simpa using hb
    subst hne
    simp -dsimp
    refine ⟨m.put o (.dct kvs), Mem.le_put (by rw [Mem.put_ne hpo]; exact hp), hQ kvs ?_⟩
    rcases h4 with h4 | h4
    · cases h4
    · exact h4
end DL

/-! KP5: the law's own orders. -/
namespace DL
open PySem PySem.Spec L2
theorem nodup_len {α : Type} [DecidableEq α] : ∀ {l k : List α}, l.Nodup → (∀ x ∈ l, x ∈ k) → l.length ≤ k.length
  | [], _, _, _ => Nat.zero_le _
  | a :: l, k, h, hs => by
    obtain ⟨h1, h2⟩ := List.nodup_cons.mp h
    have ha : a ∈ k := hs a List.mem_cons_self
    have ih := nodup_len (l := l) (k := k.erase a) h2 fun x hx => by
      have : x ≠ a := fun z => h1 (z ▸ hx)
      exact (List.mem_erase_of_ne this).mpr (hs x (List.mem_cons_of_mem _ hx))
    rw [List.length_erase_of_mem ha] at ih
    have : 0 < k.length := List.length_pos_of_mem ha
    simp; omega
theorem kit_lt : kitB "list" "tuple" = some false := by decide +kernel
theorem kit_tt : kitB "tuple" "tuple" = some true := by decide +kernel
abbrev dP (q : Nme × Nm) : D := .tup [.str q.1.s, dT q.2]
theorem inj_dP : ∀ a b : Nme × Nm, dP a = dP b → a = b := fun ⟨a1, a2⟩ ⟨b1, b2⟩ h => by
  injection h with h
  injection h with h1 h2
  injection h2 with h2 _
  rw [inj_nm a1 b1 h1, inj_dT a2 b2 h2]
abbrev Acc' := List (Nme × Nm)
theorem ordOf_mem {acc : Acc'} {b : Nme} (h : b ∈ acc.map (·.1)) : ∃ q ∈ acc, q.1 = b ∧ ordOf acc b = q.2 ∧ valD (dOrd acc) (.inr b.s) = some (dT (ordOf acc b)) := by
  induction acc with
  | nil => cases h
  | cons p r ih =>
    by_cases e : p.1 = b
    · refine ⟨p, List.mem_cons_self, e, ?_, ?_⟩
      · unfold ordOf; rw [List.find?_cons_of_pos (by simp [e])]; rfl
      · have : ordOf (p :: r) b = p.2 := by unfold ordOf; rw [List.find?_cons_of_pos (by simp [e])]; rfl
        rw [this]
        show valD ((Sum.inr p.1.s, dT p.2) :: dOrd r) (.inr b.s) = _
        rw [valD_pos (by rw [e])]
    · have h' : b ∈ r.map (·.1) := by
        rcases List.mem_cons.mp h with z | z
        · exact absurd z.symm e
        · exact z
      obtain ⟨q, h1, h2, h3, h4⟩ := ih h'
      have eo : ordOf (p :: r) b = ordOf r b := by unfold ordOf; rw [List.find?_cons_of_neg (by simp [e])]
      refine ⟨q, List.mem_cons_of_mem _ h1, h2, by rw [eo]; exact h3, ?_⟩
      rw [eo]
      show valD ((Sum.inr p.1.s, dT p.2) :: dOrd r) (.inr b.s) = _
      rw [valD_neg (fun z => e (Nme.ext (Sum.inr.inj z)))]
      exact h4
theorem valD_dOrd_none {acc : Acc'} {b : Nme} (h : b ∉ acc.map (·.1)) : valD (dOrd acc) (.inr b.s) = none := by
  induction acc with
  | nil => rfl
  | cons p r ih =>
    rw [List.map_cons, List.mem_cons, not_or] at h
    show valD ((Sum.inr p.1.s, dT p.2) :: dOrd r) (.inr b.s) = _
    rw [valD_neg (fun z => h.1 (Nme.ext (Sum.inr.inj z)).symm)]
    exact ih h.2
theorem ordOf_app {acc : Acc'} {b : Nme} (l : Acc') (h : b ∈ acc.map (·.1)) : ordOf (acc ++ l) b = ordOf acc b := by
  induction acc with
  | nil => cases h
  | cons p r ih =>
    unfold ordOf at *
    by_cases e : p.1 = b
    · rw [List.cons_append, List.find?_cons_of_pos (by simp [e]), List.find?_cons_of_pos (by simp [e])]
    · have h' : b ∈ r.map (·.1) := by
        rcases List.mem_cons.mp h with z | z
        · exact absurd z.symm e
        · exact z
      rw [List.cons_append, List.find?_cons_of_neg (by simp [e]), List.find?_cons_of_neg (by simp [e])]
      exact ih h'
theorem ordOf_last {acc : Acc'} {x : Nme} {o : Nm} (h : x ∉ acc.map (·.1)) : ordOf (acc ++ [(x, o)]) x = o := by
  induction acc with
  | nil => simp [ordOf]
  | cons p r ih =>
    rw [List.map_cons, List.mem_cons, not_or] at h
    unfold ordOf at *
    rw [List.cons_append, List.find?_cons_of_neg (by simpa using fun z => h.1 z.symm)]
    exact ih h.2
/-- the orders so far: of the first names, each from its bases' -/
structure OrdOk (ps : Prs) (acc : Acc') : Prop where
  nm : acc.map (·.1) = (ps.take acc.length).map (·.1)
  le : acc.length ≤ ps.length
  ok : ∀ i (h : i < ps.length), i < acc.length → ∃ r, merged ((ps[i]).2.map (ordOf acc) ++ [(ps[i]).2]) = .ok r ∧ ordOf acc (ps[i]).1 = (ps[i]).1 :: r
theorem cStr_inj {i j : Nat} (h : cStr i = cStr j) (hi : i ≤ 20) (hj : j ≤ 20) : i = j := by
  have : ∀ i j : Fin 21, cStr i.1 = cStr j.1 → i = j := by decide +kernel
  have := this ⟨i, by omega⟩ ⟨j, by omega⟩ h
  exact Fin.mk.inj this
section
variable {ps : Prs} {acc : Acc'}
theorem PrsOk.inj (hp : PrsOk ps) {i j : Nat} (hi : i < ps.length) (hj : j < ps.length) (h : (ps[i]).1 = (ps[j]).1) : i = j := by
  have e : cStr i = cStr j := by rw [← hp.nm i hi, ← hp.nm j hj, h]
  have := hp.few
  exact cStr_inj e (by omega) (by omega)
theorem OrdOk.has (o : OrdOk ps acc) {i : Nat} (hi : i < acc.length) : (ps[i]'(Nat.lt_of_lt_of_le hi o.le)).1 ∈ acc.map (·.1) := by
  rw [o.nm]
  refine List.mem_map_of_mem ?_
  rw [List.mem_take_iff_getElem]
  exact ⟨i, by have := o.le; omega, rfl⟩
theorem OrdOk.not (hp : PrsOk ps) (o : OrdOk ps acc) {i : Nat} (hi : i < ps.length) (h : acc.length ≤ i) : (ps[i]).1 ∉ acc.map (·.1) := by
  rw [o.nm]
  intro hm
  obtain ⟨q, hq, e⟩ := List.mem_map.mp hm
  obtain ⟨j, hj, e2⟩ := List.mem_take_iff_getElem.mp hq
  have hj' : j < ps.length := by omega
  have : (ps[j]).1 = (ps[i]).1 := by rw [e2, e]
  have := hp.inj hj' hi this
  omega
theorem OrdOk.bases (hp : PrsOk ps) (o : OrdOk ps acc) {i : Nat} (hi : i < ps.length) (h : i ≤ acc.length) : ∀ b ∈ (ps[i]).2, b ∈ acc.map (·.1) := fun b hb => by
  obtain ⟨j, hj, e⟩ := hp.bs i hi b hb
  have hj' : j < ps.length := by omega
  have e2 : b = (ps[j]).1 := Nme.ext (by rw [e, hp.nm j hj'])
  rw [e2]
  exact o.has (by omega)
/-- an order: no name twice, only names so far -/
theorem OrdOk.ord (hp : PrsOk ps) (o : OrdOk ps acc) : ∀ (i : Nat) (hi : i < ps.length), i < acc.length → (ordOf acc (ps[i]).1).Nodup ∧ ∀ y ∈ ordOf acc (ps[i]).1, ∃ j, ∃ hj : j < ps.length, j ≤ i ∧ y = (ps[j]).1 := by
  intro i
  induction i using Nat.strongRecOn with
  | ind i ih =>
    intro hi hl
    obtain ⟨r, hr, e⟩ := o.ok i hi hl
    obtain ⟨s1, s2, s3⟩ := merged_ok hr
    have below : ∀ y ∈ r, ∃ j, ∃ hj : j < ps.length, j < i ∧ y = (ps[j]).1 := fun y hy => by
      obtain ⟨s, hs, hys⟩ := s3 y hy
      have bb : ∀ b ∈ (ps[i]).2, ∃ j, ∃ hj : j < ps.length, j < i ∧ b = (ps[j]).1 := fun b hb => by
        obtain ⟨j, hj, e⟩ := hp.bs i hi b hb
        have hj' : j < ps.length := by omega
        exact ⟨j, hj', hj, Nme.ext (by rw [e, hp.nm j hj'])⟩
      rcases List.mem_append.mp hs with hs | hs
      · obtain ⟨b, hb, rfl⟩ := List.mem_map.mp hs
        obtain ⟨j, hj', hj, rfl⟩ := bb b hb
        obtain ⟨_, h2⟩ := ih j hj hj' (by omega)
        obtain ⟨k, hk, hkj, ek⟩ := h2 y hys
        exact ⟨k, hk, by omega, ek⟩
      · rw [List.mem_singleton.mp hs] at hys
        exact bb y hys
    rw [e]
    refine ⟨List.nodup_cons.mpr ⟨fun hm => ?_, s2⟩, fun y hy => ?_⟩
    · obtain ⟨j, hj, hlt, ej⟩ := below _ hm
      have := hp.inj hi hj ej
      omega
    · rcases List.mem_cons.mp hy with rfl | hy
      · exact ⟨i, hi, Nat.le_refl _, rfl⟩
      · obtain ⟨j, hj, hlt, ej⟩ := below y hy
        exact ⟨j, hj, by omega, ej⟩
theorem OrdOk.len (hp : PrsOk ps) (o : OrdOk ps acc) {b : Nme} (h : b ∈ acc.map (·.1)) : (ordOf acc b).length ≤ 11 := by
  rw [o.nm] at h
  obtain ⟨q, hq, e⟩ := List.mem_map.mp h
  obtain ⟨j, hj, e2⟩ := List.mem_take_iff_getElem.mp hq
  have hj' : j < ps.length := by omega
  obtain ⟨h1, h2⟩ := o.ord hp j hj' (by omega)
  have eb : b = (ps[j]).1 := by rw [e2, e]
  rw [eb]
  have := nodup_len (k := ps.map (·.1)) h1 fun y hy => by
    obtain ⟨k, hk, _, ek⟩ := h2 y hy
    rw [ek]
    exact List.mem_map_of_mem (List.getElem_mem hk)
  rw [List.length_map] at this
  have := hp.few
  omega
theorem OrdOk.step (hp : PrsOk ps) (o : OrdOk ps acc) (hi : acc.length < ps.length) {r : Nm} (hr : merged ((ps[acc.length]).2.map (ordOf acc) ++ [(ps[acc.length]).2]) = .ok r) : OrdOk ps (acc ++ [((ps[acc.length]).1, (ps[acc.length]).1 :: r)]) := by
  have hnot := o.not hp hi (Nat.le_refl _)
  refine ⟨?_, by simp; omega, fun i h1 h2 => ?_⟩
  · rw [List.map_append, o.nm, List.length_append, List.length_singleton, List.take_succ_eq_append_getElem hi, List.map_append]; rfl
  · rw [List.length_append, List.length_singleton] at h2
    by_cases e : i = acc.length
    · subst e
      refine ⟨r, ?_, ordOf_last hnot⟩
      rw [show (ps[acc.length]).2.map (ordOf (acc ++ [((ps[acc.length]).1, (ps[acc.length]).1 :: r)])) = (ps[acc.length]).2.map (ordOf acc) from List.map_congr_left fun b hb => ordOf_app _ (o.bases hp hi (Nat.le_refl _) b hb)]
      exact hr
    · have hlt : i < acc.length := by omega
      obtain ⟨r', g1, g2⟩ := o.ok i h1 hlt
      refine ⟨r', ?_, by rw [ordOf_app _ (o.has hlt)]; exact g2⟩
      rw [show (ps[i]).2.map (ordOf (acc ++ [((ps[acc.length]).1, (ps[acc.length]).1 :: r)])) = (ps[i]).2.map (ordOf acc) from List.map_congr_left fun b hb => ordOf_app _ (o.bases hp h1 (by omega) b hb)]
      exact g1
theorem OrdOk.nil : OrdOk ps [] := ⟨rfl, Nat.zero_le _, fun i _ h => absurd h (by simp)⟩
theorem ordersOf_ok (hp : PrsOk ps) : ∀ (rest : Prs) (acc : Acc'), OrdOk ps acc → ps.drop acc.length = rest → OrdOk ps (ordersOf rest acc).1
  | [], acc, o, _ => o
  | (x, bs) :: rest, acc, o, e => by
    have hi : acc.length < ps.length := by
      rcases Nat.lt_or_ge acc.length ps.length with h | h
      · exact h
      · rw [List.drop_eq_nil_of_le h] at e; cases e
    have e1 := List.drop_eq_getElem_cons hi
    rw [e] at e1
    injection e1 with e1 e2
    have ex : x = (ps[acc.length]).1 := by rw [← e1]
    have eb : bs = (ps[acc.length]).2 := by rw [← e1]
    unfold ordersOf
    cases hr : merged (bs.map (ordOf acc) ++ [bs]) with
    | error h => exact o
    | ok r =>
      refine ordersOf_ok hp rest _ ?_ ?_
      · rw [ex]; exact o.step hp hi (by rw [← eb]; exact hr)
      · rw [List.length_append, List.length_singleton, ← e2]
end
theorem dOrd_put {acc : Acc'} {x : Nme} {o : Nm} (h : x ∉ acc.map (·.1)) : putD (dOrd acc) (.inr x.s) (dT o) = dOrd (acc ++ [(x, o)]) := by
  rw [putD_new (valD_dOrd_none h)]
  simp [dOrd]
theorem spec_lorders : ∀ ds m Q E, sp_lorders ds m Q E → rd__law_orders (Dend Q E) (startD ["_law_pairs", "_law_orders_here", "_law_who", "_law_bases", "_law_found", "_law_base"] ds) m := by
  rintro ds m Q E ⟨ps, rfl, hp, hQ⟩
  show rd__law_orders (Dend Q E) [some (dPrs ps), none, none, none, none, none] m
  have sz := szl
  simp -dsimp [rd__law_orders]
  intro o ho
  have hQ := hQ o ho
  obtain ⟨Iv, hIv⟩ : ∃ Iv : Prs → Prs → En → Mem → Prop, Iv = fun done rest env m' => ∃ x2 x3 x4 x5 acc, env = [some (dPrs ps), some (.ref o), x2, x3, x4, x5] ∧ m' = m.put o (.dct (dOrd acc)) ∧ ordersOf ps [] = ordersOf rest acc ∧ OrdOk ps acc ∧ acc.length = done.length := ⟨_, rfl⟩
  refine ForX.intro ps dP inj_dP Iv rfl (by rw [hIv]; exact ⟨_, _, _, _, [], rfl, rfl, rfl, OrdOk.nil, rfl⟩) ?_ ?_
  · intro done q rest env m' e iv
    rw [hIv] at iv
    obtain ⟨x2, x3, x4, x5, acc, rfl, rfl, h1, h2, h3⟩ := iv
    refine ⟨rfl, ?_⟩
    have hi : acc.length < ps.length := by rw [e, h3]; simp
    have eq : ps[acc.length] = q := by simp [e, h3]
    obtain ⟨w, bs⟩ := q
    have ew : (ps[acc.length]).1 = w := by rw [eq]
    have eb : (ps[acc.length]).2 = bs := by rw [eq]
    have hbs := h2.bases hp hi (Nat.le_refl _)
    have hbl := hp.bl _ hi
    have hnot := h2.not hp hi (Nat.le_refl _)
    have hfew := hp.few
    rw [eb] at hbs hbl
    rw [ew] at hnot
    simp -dsimp
    refine LcX.intro bs (fun x => D.str x.s) (fun b => some (ordOf acc b)) dT inj_nm rfl (by omega) ?_ ?_
    · intro b hb m3 hm3
      have hd := dctOf_le hm3 (dctOf_put (m := m) (p := o) (xs := dOrd acc))
      obtain ⟨_, _, _, _, hv⟩ := ordOf_mem (hbs b hb)
      simp -dsimp [hd, hv]
    rw [fm_some]
    simp -dsimp
    refine ⟨by omega, by omega, App.intro ⟨bs.map (ordOf acc) ++ [bs], by simp, by simp; omega, ?_, ?_⟩⟩
    · intro s hs
      rcases List.mem_append.mp hs with hs | hs
      · obtain ⟨b, hb, rfl⟩ := List.mem_map.mp hs
        have := h2.len hp (hbs b hb)
        omega
      · rw [List.mem_singleton.mp hs]; omega
    have ho1 : ordersOf ((w, bs) :: rest) acc = match merged (bs.map (ordOf acc) ++ [bs]) with
        | .ok r => ordersOf rest (acc ++ [(w, w :: r)])
        | .error h => (acc, some (w, h)) := rfl
    cases hr : merged (bs.map (ordOf acc) ++ [bs]) with
    | error h =>
      rw [hr] at ho1
      simp -dsimp [tyD, kit_tt]
      refine ⟨by omega, _, Mem.le_refl _, ?_⟩
      rw [h1, ho1] at hQ
      exact hQ
    | ok r =>
      rw [hr] at ho1
      have hst := h2.step hp hi (r := r) (by rw [eb]; exact hr)
      rw [ew] at hst
      have hln := hst.len hp (b := w) (by simp)
      rw [ordOf_last hnot] at hln
      simp at hln
      simp -dsimp [tyD, kit_lt]
      have hdl : (dOrd acc).length = acc.length := by simp [dOrd]
      refine ⟨by omega, by omega, by rw [hdl]; omega, ?_⟩
      rw [hIv]
      refine ⟨_, _, _, _, acc ++ [(w, w :: r)], rfl, ?_, by rw [h1, ho1], hst, by simp [h3]⟩
      rw [← dOrd_put hnot]
      rfl
  · intro env m' iv
    rw [hIv] at iv
    obtain ⟨x2, x3, x4, x5, acc, rfl, rfl, h1, h2, h3⟩ := iv
    refine ⟨rfl, ?_⟩
    simp -dsimp
    refine ⟨by omega, _, Mem.le_refl _, ?_⟩
    rw [h1] at hQ
    exact hQ
end DL

/-! KP6: the law's graph. -/
namespace DL
open PySem PySem.Spec L2
theorem cStr_ok (i : Nat) (h : i ≤ 20) : PyData.strOk (cStr i) = true := by
  have : ∀ i : Fin 21, PyData.strOk (cStr i.1) = true := by decide +kernel
  exact this ⟨i, by omega⟩
theorem cStr_len (i : Nat) (h : i ≤ 20) : ("c" : Str).length + (((toString (i : Int) : String) : Str)).length ≤ 100 := by
  have : ∀ i : Fin 21, ("c" : Str).length + (((toString (i.1 : Int) : String) : Str)).length ≤ 100 := by decide +kernel
  exact this ⟨i, by omega⟩
theorem few6 (w : Int) (h0 : 0 ≤ w) (h1 : w < 6) : ∃ v : Nat, atI [D.int 0, D.int 1, D.int 2, D.int 1, D.int 2, D.int 3] w = some (.int (v : Int)) ∧ v ≤ 3 := by
  obtain ⟨n, rfl⟩ := Int.eq_ofNat_of_zero_le h0
  rw [atI_nat]
  match n, h1 with
  | 0, _ => exact ⟨0, rfl, by decide⟩
  | 1, _ => exact ⟨1, rfl, by decide⟩
  | 2, _ => exact ⟨2, rfl, by decide⟩
  | 3, _ => exact ⟨1, rfl, by decide⟩
  | 4, _ => exact ⟨2, rfl, by decide⟩
  | 5, _ => exact ⟨3, rfl, by decide⟩
  | n + 6, h => omega
theorem div3 (j : Nat) (h : j < 3) : ∃ v : Int, atI [D.int 6, D.int 60, D.int 600] (j : Int) = some (.int v) ∧ 0 < v ∧ v < 1073741824 := by
  rw [atI_nat]
  match j, h with
  | 0, _ => exact ⟨6, rfl, by decide, by decide⟩
  | 1, _ => exact ⟨60, rfl, by decide, by decide⟩
  | 2, _ => exact ⟨600, rfl, by decide, by decide⟩
theorem spec_graph : ∀ ds m Q E, sp_graph ds m Q E → rd__law_graph (Dend Q E) (startD ["_law_cells", "_law_spot", "_law_most", "_law_n", "_law_found", "_law_k", "_law_m", "_law_stock", "_law_bases", "_law_j", "_law_row_here"] ds) m := by
  rintro ds m Q E ⟨ns, p, k, rfl, hl, hp, h0, h1, hQ⟩
  show rd__law_graph (Dend Q E) [some (.klst (ns.map .int)), some (.ref p), some (.int 8), none, none, none, none, none, none, none, none] m
  have sz := szl
  simp -dsimp [rd__law_graph]
  refine App.intro ⟨ns, p, k, rfl, hl, hp, h0, by omega, fun n n0 n1 => ?_⟩
  simp -dsimp
  intro q hq
  have hqp : q ≠ p := fun e => by rw [e, Mem.put_same] at hq; cases hq
  have hmq : m q = none := by rw [Mem.put_ne hqp] at hq; exact hq
  have w0 : 0 ≤ n % 8 := Int.emod_nonneg _ (by decide)
  have w1 : n % 8 < 8 := Int.emod_lt_of_pos _ (by decide)
  obtain ⟨w, hw⟩ := Int.eq_ofNat_of_zero_le w0
  refine ⟨by omega, by omega, ?_⟩
  obtain ⟨Iv, hIv⟩ : ∃ Iv : Nat → En → Mem → Prop, Iv = fun (i : Nat) env m' => ∃ (ps : Prs) (x5 x6 x7 x8 x9 x10 : Option D), env = [some (.klst (ns.map .int)), some (.ref p), some (.int 8), some (.int n), some (.ref q), x5, x6, x7, x8, x9, x10] ∧
      lstOf m' (.ref q) = some (ps.map dP) ∧ lstOf m' (.ref p) = some [.int (k + 1 + i)] ∧ ps.length = i ∧ PrsOk ps ∧ Ext (m.put p (.lst [.int (k + 1 + i)])) q m' := ⟨_, rfl⟩
  refine ForR.intro (1 + w) (by rw [hw]; push_cast; rfl) Iv ?_ ?_ ?_
  · rw [hIv]
    refine ⟨[], _, _, _, _, _, _, rfl, by simp, by rw [lstOf_ne (Ne.symm hqp)]; simp, rfl, ⟨by simp, fun i h => absurd h (by simp), fun i h => absurd h (by simp), fun i h => absurd h (by simp), fun i h => absurd h (by simp)⟩, ?_⟩
    simpa using Ext.start (m := m.put p (.lst [.int (k + 1)])) (c := .lst []) hq
  · intro i env m' hi iv
    rw [hIv] at iv
    obtain ⟨ps, x5, x6, x7, x8, x9, x10, rfl, g1, g2, g3, g4, g5⟩ := iv
    simp -dsimp
    refine App.intro ⟨ns, p, _, rfl, hl, lst_iff.mp g2, by omega, by omega, fun z z0 z1 => ?_⟩
    have g1' : lstOf (m'.put p (.lst [.int (k + 1 + i + 1)])) (.ref q) = some (ps.map dP) := by rw [lstOf_ne hqp]; exact g1
    have g2' : lstOf (m'.put p (.lst [.int (k + 1 + i + 1)])) (.ref p) = some [.int (k + 1 + (i + 1 : Nat))] := by simp; omega
    have g5' : Ext (m.put p (.lst [.int (k + 1 + (i + 1 : Nat))])) q (m'.put p (.lst [.int (k + 1 + i + 1)])) := by
      rw [show k + 1 + (i : Int) + 1 = k + 1 + (i + 1 : Nat) by omega]
      exact g5.bump (Ne.symm hqp)
    generalize m'.put p (.lst [.int (k + 1 + i + 1)]) = M at g1' g2' g5' ⊢
    have hpl := g4.few
    simp -dsimp
    refine LcY.intro ps dP (fun r => some r.1) (fun x => D.str x.s) inj_dP g1' (by omega) ?_ ?_
    · intro r hr m3 _
      simp -dsimp
    rw [fm_some]
    intro s hs
    simp -dsimp
    intro b hb
    have hbs : b ≠ s := fun e => by rw [e, Mem.put_same] at hb; cases hb
    have hMb : M b = none := by rw [Mem.put_ne hbs] at hb; exact hb
    have hMq : M q ≠ none := fun e => by rw [lst_iff] at g1'; rw [e] at g1'; cases g1'
    have hMp : M p ≠ none := fun e => by rw [lst_iff] at g2'; rw [e] at g2'; cases g2'
    have hbq : q ≠ b := fun e => hMq (by rw [e]; exact hMb)
    have hsq : q ≠ s := fun e => hMq (by rw [e]; exact hs)
    have hbp : p ≠ b := fun e => hMp (by rw [e]; exact hMb)
    have hsp : p ≠ s := fun e => hMp (by rw [e]; exact hs)
    obtain ⟨v, hv, hv3⟩ := few6 (z % 6) (Int.emod_nonneg _ (by decide)) (Int.emod_lt_of_pos _ (by decide))
    have ls : ∀ (st : List D) (c : Cell), lstOf ((M.put s (.lst st)).put b c) (.ref s) = some st := fun st c => by rw [lstOf_ne (Ne.symm hbs)]; simp
    simp -dsimp [hv, ls]
    have ht : (if ps.length < v then (ps.length : Int) else v) = ((min v ps.length : Nat) : Int) := by
      by_cases h : ps.length < v
      · rw [if_pos h, Nat.min_eq_right (by omega)]
      · rw [if_neg h, Nat.min_eq_left (by omega)]
    rw [ht]
    refine ⟨by omega, by omega, by omega, ?_⟩
    obtain ⟨Jv, hJv⟩ : ∃ Jv : Nat → En → Mem → Prop, Jv = fun (j : Nat) env m' => ∃ (x9 : Option D) (st ba : Nm), env = [some (.klst (ns.map .int)), some (.ref p), some (.int 8), some (.int n), some (.ref q), some (.int i), some (.int z), some (.ref s), some (.ref b), x9, x10] ∧
      m' = (M.put s (cL st)).put b (cL ba) ∧ st.length + j = ps.length ∧ ba.length = j ∧ (ba ++ st).Perm (ps.map (·.1)) := ⟨_, rfl⟩
    refine ForR.intro (min v ps.length) rfl Jv ?_ ?_ ?_
    · rw [hJv]
      exact ⟨_, ps.map (·.1), [], rfl, by simp [cL], by simp, rfl, List.Perm.refl _⟩
    · intro j env m2 hj jv
      rw [hJv] at jv
      obtain ⟨y9, st, ba, rfl, rfl, j1, j2, j3⟩ := jv
      obtain ⟨d, hd, hd0, hd1⟩ := div3 j (by omega)
      have e2 : ∀ c : Cell, lstOf (((M.put s (cL st)).put b (cL ba)).put s c) (.ref b) = some (ba.map fun x => D.str x.s) := fun c => by rw [lstOf_ne hbs]; simp
      simp -dsimp [hd, ls, e2]
      have hl0 : (0 : Int) < st.length := by omega
      have q0 : 0 ≤ z / d % st.length := Int.emod_nonneg _ (by omega)
      have q1 : z / d % st.length < st.length := Int.emod_lt_of_pos _ hl0
      generalize z / d % st.length = a at q0 q1 ⊢
      obtain ⟨a, rfl⟩ := Int.eq_ofNat_of_zero_le q0
      have ha : a < st.length := by omega
      refine ⟨by omega, ⟨hd0, hd1⟩, by omega, ⟨by omega, by omega⟩, Is.intro (seqIndex_nat q0 q1) (Is.intro (x := D.str st[a].s) (by simp [ha]) ?_)⟩
      simp -dsimp [e2]
      refine ⟨by omega, ?_⟩
      rw [hJv, Mem.put4 hbs]
      refine ⟨_, st.eraseIdx a, ba ++ [st[a]], rfl, by simp [cL, map_erase], by rw [List.length_eraseIdx_of_lt ha]; omega, by simp [j2], ?_⟩
      rw [List.append_assoc]
      exact (List.Perm.append_left ba (erase_perm ha)).trans j3
    · intro env m2 jv
      rw [hJv] at jv
      obtain ⟨y9, st, ba, rfl, rfl, j1, j2, j3⟩ := jv
      have g1b : lstOf ((M.put s (cL st)).put b (cL ba)) (.ref q) = some (ps.map dP) := by rw [lstOf_ne hbq, lstOf_ne hsq]; exact g1'
      simp -dsimp [g1b]
      have hi9 : i ≤ 8 := by omega
      have hlog : i.log2 < 1920 := by
        have : ∀ i : Fin 21, Nat.log2 i.1 < 1920 := by decide +kernel
        exact this ⟨i, by omega⟩
      have hcl : (Str.ofString "c").length + (Str.ofString (Int.repr i)).length ≤ 100 := cStr_len i (by omega)
      refine ⟨hlog, by omega, by omega, by omega, ?_⟩
      have hnd0 : (ps.map (·.1)).Nodup := by
        refine List.pairwise_iff_getElem.mpr fun a c ha hc hac e => ?_
        rw [List.length_map] at ha hc
        rw [List.getElem_map, List.getElem_map] at e
        have := g4.inj ha hc e
        omega
      have hnd := j3.nodup_iff.mpr hnd0
      have hba : ba.Nodup := (List.nodup_append.mp hnd).1
      rw [hIv]
      refine ⟨ps ++ [(⟨cStr i, cStr_ok i (by omega)⟩, ba)], _, _, _, _, _, _, rfl, ?_, ?_, by simp [g3], ⟨by simp; omega, ?_, ?_, ?_, ?_⟩, ?_⟩
      · rw [lst_iff, Mem.put_same, List.map_append]; rfl
      · rw [lstOf_ne (Ne.symm hqp), lstOf_ne hbp, lstOf_ne hsp]; exact g2'
      · intro a h
        by_cases e : a < ps.length
        · rw [List.getElem_append_left e]; exact g4.nm a e
        · have ea : a = ps.length := by simp at h; omega
          subst ea
          rw [List.getElem_append_right (Nat.le_refl _)]
          simp [g3]
      · intro a h c hc
        by_cases e : a < ps.length
        · rw [List.getElem_append_left e] at hc; exact g4.bs a e c hc
        · have ea : a = ps.length := by simp at h; omega
          subst ea
          rw [List.getElem_append_right (Nat.le_refl _)] at hc
          have hc : c ∈ ba := by simpa using hc
          have hm : c ∈ ps.map (·.1) := j3.mem_iff.mp (List.mem_append_left _ hc)
          obtain ⟨u, hu, rfl⟩ := List.mem_map.mp hm
          obtain ⟨x, hx, rfl⟩ := List.getElem_of_mem hu
          exact ⟨x, hx, g4.nm x hx⟩
      · intro a h
        by_cases e : a < ps.length
        · rw [List.getElem_append_left e]; exact g4.nd a e
        · have ea : a = ps.length := by simp at h; omega
          subst ea
          rw [List.getElem_append_right (Nat.le_refl _)]
          simpa using hba
      · intro a h
        by_cases e : a < ps.length
        · rw [List.getElem_append_left e]; exact g4.bl a e
        · have ea : a = ps.length := by simp at h; omega
          subst ea
          rw [List.getElem_append_right (Nat.le_refl _)]
          simp; omega
      · have f1 : Ext (m.put p (.lst [.int (k + 1 + (i + 1 : Nat))])) q (M.put s (cL st)) := g5'.fresh hs
        have f2 : Ext (m.put p (.lst [.int (k + 1 + (i + 1 : Nat))])) q ((M.put s (cL st)).put b (cL ba)) := f1.fresh (by rw [Mem.put_ne hbs]; exact hMb)
        exact f2.own
  · intro env m' iv
    rw [hIv] at iv
    obtain ⟨ps, x5, x6, x7, x8, x9, x10, rfl, g1, g2, g3, g4, g5⟩ := iv
    simp -dsimp [g1]
    exact ⟨_, g5, hQ ps _ g4 (by omega) (by omega)⟩
end DL

/-! KP7: sorted texts are told by what they hold; the graph as the program sees it. -/
namespace DL
open PySem PySem.Spec L2
theorem str_ext {a b : Str} (h : a.cps.toList = b.cps.toList) : a = b := by
  cases a; cases b
  simp at h
  rw [h]
theorem rising_pw : ∀ (l : List Str) (p : Str), PyProof.Rows.risingS p l = true → (p :: l).Pairwise (fun a b : Str => a.cps.toList ≤ b.cps.toList)
  | [], p, _ => List.pairwise_singleton _ _
  | x :: r, p, h => by
    unfold PyProof.Rows.risingS at h
    rw [Bool.and_eq_true] at h
    have h1 : p.cps.toList ≤ x.cps.toList := by
      have := h.1
      rw [PyProof.Rows.ltCps_eq] at this
      simpa using this
    have ih := rising_pw r x h.2
    refine List.pairwise_cons.mpr ⟨fun y hy => ?_, ih⟩
    rcases List.mem_cons.mp hy with rfl | hy
    · exact h1
    · exact List.le_trans h1 ((List.pairwise_cons.mp ih).1 y hy)
theorem sorted_pw {l : List Str} (h : PyProof.Rows.sortedS l = true) : l.Pairwise (fun a b : Str => a.cps.toList ≤ b.cps.toList) := by
  cases l with
  | nil => exact List.Pairwise.nil
  | cons x r => exact rising_pw r x h
theorem sorted_eq {l k : List Str} (p : l.Perm k) (h1 : PyProof.Rows.sortedS l = true) (h2 : PyProof.Rows.sortedS k = true) : l = k :=
  p.eq_of_pairwise (fun a b _ _ x y => str_ext (List.le_antisymm x y)) (sorted_pw h1) (sorted_pw h2)
theorem strs_nm (ns : Nm) : strsD (ns.map fun x => D.str x.s) = some (ns.map (·.s)) := by
  have := strs_map (ns.map (·.s))
  rw [List.map_map] at this
  exact this
theorem perm_of_mem : ∀ {l k : Nm}, l.Nodup → k.Nodup → (∀ x, x ∈ l ↔ x ∈ k) → l.Perm k
  | [], k, _, _, h => by
    cases k with
    | nil => exact List.Perm.refl _
    | cons a t => exact absurd ((h a).mpr List.mem_cons_self) (by simp)
  | a :: l, k, hl, hk, h => by
    obtain ⟨h1, h2⟩ := List.nodup_cons.mp hl
    have ha : a ∈ k := (h a).mp List.mem_cons_self
    refine List.Perm.trans (List.Perm.cons a (perm_of_mem h2 (hk.erase a) fun x => ?_)) (List.perm_cons_erase ha).symm
    rw [hk.mem_erase_iff]
    constructor
    · exact fun hx => ⟨fun e => h1 (e ▸ hx), (h x).mp (List.mem_cons_of_mem _ hx)⟩
    · rintro ⟨e, hx⟩
      rcases List.mem_cons.mp ((h x).mpr hx) with z | z
      · exact absurd z e
      · exact z
/-- what two rows share, either way, is the same but for its order -/
theorem shared_perm {a b : Nm} (ha : a.Nodup) (hb : b.Nodup) : (b.filter fun x => decide (x ∈ a)).Perm (a.filter fun x => decide (x ∈ b)) :=
  perm_of_mem (hb.filter _) (ha.filter _) fun x => by simp [and_comm]
section
variable {ps : Prs} {acc : Acc'}
def rkOf (ps : Prs) (x : Nme) : Nat := (ps.map (·.1)).idxOf x
theorem rk_at (hp : PrsOk ps) {i : Nat} (hi : i < ps.length) : rkOf ps (ps[i]).1 = i := by
  unfold rkOf
  have h1 : (ps.map (·.1)).idxOf (ps[i]).1 < (ps.map (·.1)).length := List.idxOf_lt_length_of_mem (List.mem_map_of_mem (List.getElem_mem hi))
  have h2 := List.getElem_idxOf h1
  rw [List.getElem_map] at h2
  rw [List.length_map] at h1
  exact hp.inj h1 hi h2
theorem bs_at (hp : PrsOk ps) {i : Nat} (hi : i < ps.length) : ordOf ps (ps[i]).1 = (ps[i]).2 := by
  obtain ⟨q, hq, e, h, _⟩ := ordOf_mem (acc := ps) (b := (ps[i]).1) (List.mem_map_of_mem (List.getElem_mem hi))
  obtain ⟨j, hj, rfl⟩ := List.getElem_of_mem hq
  have := hp.inj hj hi e
  subst this
  exact h
theorem OrdOk.at_ (o : OrdOk ps acc) {x : Nme} (h : x ∈ acc.map (·.1)) : ∃ i, ∃ hi : i < ps.length, i < acc.length ∧ x = (ps[i]).1 := by
  rw [o.nm] at h
  obtain ⟨q, hq, e⟩ := List.mem_map.mp h
  obtain ⟨j, hj, e2⟩ := List.mem_take_iff_getElem.mp hq
  exact ⟨j, by omega, by omega, by rw [e2, e]⟩
theorem OrdOk.grf (hp : PrsOk ps) (o : OrdOk ps acc) : Grf (acc.map (·.1)) (ordOf ps) (ordOf acc) (rkOf ps) := by
  have hf := hp.few
  have hle := o.le
  refine ⟨?_, by rw [List.length_map]; omega, ?_, ?_, ?_, ?_, ?_⟩
  · rw [o.nm]
    refine List.pairwise_iff_getElem.mpr fun a c ha hc hac e => ?_
    rw [List.length_map, List.length_take] at ha hc
    rw [List.getElem_map, List.getElem_map, List.getElem_take, List.getElem_take] at e
    have := hp.inj (by omega) (by omega) e
    omega
  · intro x hx b hb
    obtain ⟨i, hi, hl, rfl⟩ := o.at_ hx
    rw [bs_at hp hi] at hb
    refine ⟨o.bases hp hi (by omega) b hb, ?_⟩
    obtain ⟨j, hj, e⟩ := hp.bs i hi b hb
    have hj' : j < ps.length := by omega
    have e2 : b = (ps[j]).1 := Nme.ext (by rw [e, hp.nm j hj'])
    rw [e2, rk_at hp hj', rk_at hp hi]; exact hj
  · intro x hx
    obtain ⟨i, hi, hl, rfl⟩ := o.at_ hx
    rw [rk_at hp hi, List.length_map]; exact hl
  · intro x hx
    obtain ⟨i, hi, hl, rfl⟩ := o.at_ hx
    rw [bs_at hp hi]
    have := hp.bl i hi; omega
  · intro x hx
    have := o.len hp hx; omega
  · intro x hx
    obtain ⟨i, hi, hl, rfl⟩ := o.at_ hx
    rw [bs_at hp hi]
    exact o.ok i hi hl
/-- a base's order lies within the order of the class -/
theorem OrdOk.mono (hp : PrsOk ps) (o : OrdOk ps acc) {x b : Nme} (hx : x ∈ acc.map (·.1)) (hb : b ∈ ordOf ps x) :
    (ordOf acc x).filter (fun y => decide (y ∈ ordOf acc b)) = ordOf acc b ∧ (ordOf acc b).filter (fun y => decide (y ∈ ordOf acc x)) = ordOf acc b := by
  obtain ⟨i, hi, hl, rfl⟩ := o.at_ hx
  rw [bs_at hp hi] at hb
  obtain ⟨r, hr, e⟩ := o.ok i hi hl
  obtain ⟨s1, s2, s3⟩ := merged_ok hr
  have sub : (ordOf acc b).Sublist (ordOf acc (ps[i]).1) := by
    rw [e]
    exact (s1 _ (List.mem_append_left _ (List.mem_map_of_mem hb))).cons _
  refine ⟨sub_filter sub (o.ord hp i hi hl).1, ?_⟩
  rw [List.filter_eq_self]
  intro y hy
  exact decide_eq_true (sub.subset hy)
end
end DL

/-! KP8: the law. -/
namespace DL
open PySem PySem.Spec L2
theorem spec_law : ∀ ds m Q E, sp_law ds m Q E → rd_law (Dend Q E) (startD ["_law_script", "_law_spot", "_law_turn", "_law_row_here", "_law_far", "_law_due", "_law_pairs", "_law_orders_here", "_law_conflict", "_law_graph_here", "_law_who", "_law_bases", "_law_base", "_law_above", "_law_below", "_law_told"] ds) m := by
  rintro ds m Q E ⟨ns, rfl, hl, hQ⟩
  show rd_law (Dend Q E) [some (.klst (ns.map .int)), none, none, none, none, none, none, none, none, none, none, none, none, none, none, none] m
  have sz := szl
  simp -dsimp [rd_law]
  refine ⟨by omega, fun p hp => ?_⟩
  have ht : (if (ns.length : Int) < 20 then (ns.length : Int) else 20) = ((min ns.length 20 : Nat) : Int) := by
    by_cases h : ns.length < 20
    · rw [if_pos (by omega), Nat.min_eq_left (by omega)]
    · rw [if_neg (by omega), Nat.min_eq_right (by omega)]; rfl
  rw [ht]
  refine ⟨by omega, by omega, ?_⟩
  obtain ⟨Iv, hIv⟩ : ∃ Iv : Nat → En → Mem → Prop, Iv = fun (i : Nat) env m' => ∃ (x2 x3 x4 x5 x6 x7 x8 x9 x10 x11 x12 x13 x14 x15 : Option D) (k : Int), env = [some (.klst (ns.map .int)), some (.ref p), x2, x3, x4, x5, x6, x7, x8, x9, x10, x11, x12, x13, x14, x15] ∧ lstOf m' (.ref p) = some [.int k] ∧ 0 ≤ k ∧ k ≤ 100 * i := ⟨_, rfl⟩
  refine ForR.intro (3 + min ns.length 20) (by push_cast; rfl) Iv ?_ ?_ ?_
  · rw [hIv]
    exact ⟨_, _, _, _, _, _, _, _, _, _, _, _, _, _, 0, rfl, by simp, by omega, by omega⟩
  · intro i env m' hi iv
    rw [hIv] at iv
    obtain ⟨x2, x3, x4, x5, x6, x7, x8, x9, x10, x11, x12, x13, x14, x15, k, rfl, g1, g2, g3⟩ := iv
    simp -dsimp
    refine App.intro ⟨ns, p, k, rfl, hl, lst_iff.mp g1, g2, by omega, fun n n0 n1 => ?_⟩
    simp -dsimp
    refine App.intro ⟨n, rfl, n0, n1, fun a an al al2 => ?_⟩
    simp -dsimp
    refine App.intro ⟨ns, p, k + 1, rfl, hl, by simp, by omega, by omega, fun n' n0' n1' => ?_⟩
    simp -dsimp
    refine App.intro ⟨n', rfl, n0', n1', fun b bn bl bl2 => ?_⟩
    simp -dsimp
    refine App.intro ⟨a, b, rfl, al2, bl2, bn, ?_⟩
    simp -dsimp
    refine App.intro ⟨a, b, rfl, by omega, ?_⟩
    simp -dsimp
    refine App.intro ⟨b, a, rfl, by omega, ?_⟩
    simp -dsimp [strs_nm]
    have fl : ∀ (u v : Nm), (u.filter fun x => decide (x ∈ v)).length ≤ u.length := fun u v => List.length_filter_le _ u
    refine ⟨by have := fl b a; omega, fun ys py sy => ⟨by have := fl a b; omega, fun zs pz sz2 => ?_⟩⟩
    have e : ys = zs := sorted_eq (py.trans (((shared_perm an bn).map _).trans pz.symm)) sy sz2
    subst e
    have hpl : pl 60 (.lst (ys.map D.str)) = true := by
      simp only [pl]
      refine plA_map fun y hy => ?_
      obtain ⟨z, _, rfl⟩ := List.mem_map.mp (py.mem_iff.mp hy)
      simp only [pl]
      exact z.ok
    refine neD_pl hpl hpl ?_
    have eq : eqB (.lst (ys.map D.str)) (.lst (ys.map D.str)) = true := (eqB_iff hpl hpl).mpr rfl
    simp -dsimp [eq]
    refine App.intro ⟨a, a, rfl, by omega, ?_⟩
    have e1 : (a.filter fun x => decide (x ∈ a)) = a := List.filter_eq_self.mpr fun x hx => decide_eq_true hx
    have e2 : (a.filter fun x => decide (x ∈ ([] : Nm))) = [] := List.filter_eq_nil_iff.mpr fun x _ => by simp
    rw [e1]
    simp -dsimp
    refine App.intro ⟨a, [], rfl, by omega, ?_⟩
    rw [e2]
    simp -dsimp
    refine App.intro ⟨[], b, rfl, by simp, ?_⟩
    simp -dsimp
    have hp3 : pl 60 (.lst [dT a, dT [], dT []]) = true := by simp only [pl, plA, pl_nm, Bool.and_self]
    have eq3 : eqB (.lst [dT a, dT [], dT []]) (.lst [dT a, dT [], dT []]) = true := (eqB_iff hp3 hp3).mpr rfl
    refine ⟨by omega, neD_pl hp3 hp3 ?_⟩
    show Br _ _ _ _ (!eqB (.lst [dT a, dT [], dT []]) (.lst [dT a, dT [], dT []])) _
    rw [eq3]
    simp -dsimp
    refine App.intro ⟨ns, p, k + 1 + 1, rfl, hl, by simp, by omega, by omega, fun ps k' hps k0 k1 => ?_⟩
    simp -dsimp
    refine App.intro ⟨ps, rfl, hps, fun o ho => ?_⟩
    have hacc := ordersOf_ok hps ps [] OrdOk.nil rfl
    generalize (ordersOf ps []).1 = acc at hacc ⊢
    simp -dsimp
    intro g hg
    have hgo : g ≠ o := fun e => by rw [e, Mem.put_same] at hg; cases hg
    have hop : o ≠ p := fun e => by rw [e, Mem.put_same] at ho; cases ho
    have hgp : g ≠ p := fun e => by rw [e, Mem.put_ne (Ne.symm hop), Mem.put_same] at hg; cases hg
    generalize hM : (m'.put p (.lst [.int k'])).put o (.dct (dOrd acc)) = M at hg ⊢
    have hMo : M o = some (.dct (dOrd acc)) := by rw [← hM]; simp
    have hMp : M p = some (.lst [.int k']) := by rw [← hM, Mem.put_ne (Ne.symm hop)]; simp
    obtain ⟨Jv, hJv⟩ : ∃ Jv : Prs → Prs → En → Mem → Prop, Jv = fun done rest env m2 => ∃ (x10 x11 : Option D), env = [some (.klst (ns.map .int)), some (.ref p), some (.int i), some (dT a), some (dT b), some (dT (a.filter fun x => decide (x ∈ b))), some (dPrs ps), some (.ref o), some (dCfl (ordersOf ps []).2), some (.ref g), x10, x11, x12, x13, x14, x15] ∧ m2 = M.put g (.dct (dOrd done)) := ⟨_, rfl⟩
    have hfew := hps.few
    refine ForX.intro ps dP inj_dP Jv rfl (by rw [hJv]; exact ⟨_, _, rfl, rfl⟩) ?_ ?_
    · intro done q rest env m2 e jv
      rw [hJv] at jv
      obtain ⟨y10, y11, rfl, rfl⟩ := jv
      refine ⟨rfl, ?_⟩
      have hd : q.1 ∉ done.map (·.1) := by
        intro hm
        obtain ⟨u, hu, eu⟩ := List.mem_map.mp hm
        obtain ⟨j, hj, ej⟩ := List.getElem_of_mem hu
        have hjp : j < ps.length := by rw [e]; simp; omega
        have hip : done.length < ps.length := by rw [e]; simp
        have e1 : ps[j] = u := by simp [e, List.getElem_append_left hj, ej]
        have e2 : ps[done.length] = q := by simp [e]
        have := hps.inj hjp hip (by rw [e1, e2, eu])
        omega
      have hdl : (dOrd done).length < sizeLine := by
        have := congrArg List.length e
        simp at this
        simp [dOrd]; omega
      simp -dsimp
      refine ⟨hdl, ?_⟩
      rw [hJv]
      refine ⟨_, _, rfl, ?_⟩
      rw [dOrd_put hd]
    · intro env m2 jv
      rw [hJv] at jv
      obtain ⟨y10, y11, rfl, rfl⟩ := jv
      refine ⟨rfl, ?_⟩
      simp -dsimp
      generalize hM2 : M.put g (.dct (dOrd ps)) = M2
      have h2g : M2 g = some (.dct (dOrd ps)) := by rw [← hM2]; simp
      have h2o : M2 o = some (.dct (dOrd acc)) := by rw [← hM2, Mem.put_ne (Ne.symm hgo)]; exact hMo
      have h2p : M2 p = some (.lst [.int k']) := by rw [← hM2, Mem.put_ne (Ne.symm hgp)]; exact hMp
      obtain ⟨Kv, hKv⟩ : ∃ Kv : Prs → Prs → En → Mem → Prop, Kv = fun done rest env m2 => ∃ (x10 x11 x12 x13 x14 x15 : Option D), env = [some (.klst (ns.map .int)), some (.ref p), some (.int i), some (dT a), some (dT b), some (dT (a.filter fun x => decide (x ∈ b))), some (dPrs ps), some (.ref o), some (dCfl (ordersOf ps []).2), some (.ref g), x10, x11, x12, x13, x14, x15] ∧ m2 = M2 := ⟨_, rfl⟩
      refine ForX.intro ps dP inj_dP Kv rfl (by rw [hKv]; exact ⟨_, _, _, _, _, _, rfl, rfl⟩) ?_ ?_
      · intro done q rest env m2 e kv
        rw [hKv] at kv
        obtain ⟨z10, z11, z12, z13, z14, z15, rfl, rfl⟩ := kv
        refine ⟨rfl, ?_⟩
        simp -dsimp [dctOf_ref h2o]
        have hqp : q ∈ ps := by rw [e]; simp
        obtain ⟨j, hj, ej⟩ := List.getElem_of_mem hqp
        have hbs : ordOf ps q.1 = q.2 := by rw [← ej]; exact bs_at hps hj
        have hG : ∀ y ∈ acc.map (·.1), valD (dOrd ps) (.inr y.s) = some (dT (ordOf ps y)) := fun y hy => by
          obtain ⟨c, hc, _, rfl⟩ := hacc.at_ hy
          obtain ⟨_, _, _, _, hv⟩ := ordOf_mem (acc := ps) (b := (ps[c]).1) (List.mem_map_of_mem (List.getElem_mem hc))
          exact hv
        refine IteK_any.mpr ⟨fun hin => ?_, fun hout => ?_⟩
        · have hq : q.1 ∈ acc.map (·.1) := by
            rcases Decidable.em (q.1 ∈ acc.map (·.1)) with h | h
            · exact h
            · rw [valD_dOrd_none h] at hin; cases hin
          have hgr := hacc.grf hps
          simp -dsimp
          obtain ⟨Lv, hLv⟩ : ∃ Lv : Nm → Nm → En → Mem → Prop, Lv = fun done rest env m3 => ∃ (x12 x13 x14 x15 : Option D), env = [some (.klst (ns.map .int)), some (.ref p), some (.int i), some (dT a), some (dT b), some (dT (a.filter fun x => decide (x ∈ b))), some (dPrs ps), some (.ref o), some (dCfl (ordersOf ps []).2), some (.ref g), some (.str q.1.s), some (dT q.2), x12, x13, x14, x15] ∧ m3 = m2 := ⟨_, rfl⟩
          refine ForX.intro q.2 (fun x => D.str x.s) inj_nm Lv rfl (by rw [hLv]; exact ⟨_, _, _, _, rfl, rfl⟩) ?_ ?_
          · intro d2 c r2 env m3 e2 lv
            rw [hLv] at lv
            obtain ⟨y12, y13, y14, y15, rfl, rfl⟩ := lv
            refine ⟨rfl, ?_⟩
            have hc : c ∈ ordOf ps q.1 := by rw [hbs, e2]; simp
            have hca := (hgr.in_ q.1 hq c hc).1
            obtain ⟨mo1, mo2⟩ := hacc.mono hps hq hc
            have lA := hacc.len hps hca
            have lB := hacc.len hps hq
            simp -dsimp
            refine App.intro ⟨c, g, dOrd ps, acc.map (·.1), ordOf ps, ordOf acc, rkOf ps, rfl, h2g, hgr, hca, hG, ?_⟩
            simp -dsimp
            refine App.intro ⟨q.1, g, dOrd ps, acc.map (·.1), ordOf ps, ordOf acc, rkOf ps, rfl, h2g, hgr, hq, hG, ?_⟩
            simp -dsimp
            refine App.intro ⟨ordOf acc q.1, ordOf acc c, rfl, by omega, ?_⟩
            rw [mo1]
            simp -dsimp
            refine App.intro ⟨rfl, ordOf acc c, ordOf acc q.1, rfl, by omega, ?_⟩
            rw [mo2]
            simp -dsimp
            have hp4 : pl 60 (.lst [dT (ordOf acc c), dT (ordOf acc c)]) = true := by simp only [pl, plA, pl_nm, Bool.and_self]
            have eq4 : eqB (.lst [dT (ordOf acc c), dT (ordOf acc c)]) (.lst [dT (ordOf acc c), dT (ordOf acc c)]) = true := (eqB_iff hp4 hp4).mpr rfl
            refine ⟨by omega, neD_pl hp4 hp4 ?_⟩
            show Br _ _ _ _ (!eqB (.lst [dT (ordOf acc c), dT (ordOf acc c)]) (.lst [dT (ordOf acc c), dT (ordOf acc c)])) _
            rw [eq4]
            simp -dsimp
            rw [hLv]
            exact ⟨_, _, _, _, rfl, rfl⟩
          · intro env m3 lv
            rw [hLv] at lv
            obtain ⟨y12, y13, y14, y15, rfl, rfl⟩ := lv
            refine ⟨rfl, ?_⟩
            simp -dsimp
            rw [hKv]
            exact ⟨_, _, _, _, _, _, rfl, rfl⟩
        · simp -dsimp
          refine ForX.intro ([] : Nm) (fun x => D.str x.s) inj_nm (fun _ _ env m3 => Kv (done ++ [q]) rest env m3) rfl ?_ ?_ ?_
          · show Kv (done ++ [q]) rest _ _
            rw [hKv]
            exact ⟨_, _, _, _, _, _, rfl, rfl⟩
          · intro d2 c r2 env m3 e2 _
            exact absurd e2 (by simp)
          · intro env m3 kv
            exact ⟨rfl, kv⟩
      · intro env m2 kv
        rw [hKv] at kv
        obtain ⟨z10, z11, z12, z13, z14, z15, rfl, rfl⟩ := kv
        refine ⟨rfl, ?_⟩
        simp -dsimp
        rw [hIv]
        exact ⟨_, _, _, _, _, _, _, _, _, _, _, _, _, _, k', rfl, lst_iff.mpr h2p, by omega, by omega⟩
  · intro env m' iv
    rw [hIv] at iv
    obtain ⟨x2, x3, x4, x5, x6, x7, x8, x9, x10, x11, x12, x13, x14, x15, k, rfl, g1, g2, g3⟩ := iv
    simp -dsimp
    exact ⟨m', Mem.le_refl _, hQ m'⟩
end DL

/-! K05D: derivations (printed by gen.py). -/
namespace K05
open PySem PySem.Spec L2 DL
structure Bi (mg : Str → Option Value) : Prop where
  g_any : mg "any" = none
  g_isinstance : mg "isinstance" = none
  g_len : mg "len" = none
  g_list : mg "list" = none
  g_min : mg "min" = none
  g_range : mg "range" = none
  g_sorted : mg "sorted" = none
  g_str : mg "str" = none
  g_sum : mg "sum" = none
  g_tuple : mg "tuple" = none
def top (i : Nat) : Stmt := PySem.Challenge.pw_classforge_k05_common_names.main.body.getD i (.Pass ⟨0, 0, 0, 0⟩)
section
variable {P : Program} {w : World} {K : Frag} {mg : Str → Option Value} {base : Heap} {k : Nat}
abbrev st_heads_of : Stmt := top 4
abbrev ns_heads_of : List Str := ["rows", "found", "row"]
abbrev ps_heads_of : List Str := ["rows"]
theorem sc_heads_of : FnScope ns_heads_of ps_heads_of (defScope st_heads_of) := ⟨rfl, rfl, rfl, by decide +kernel, rfl, by decide +kernel, by decide +kernel⟩
theorem der_heads_of (B : Bi mg)  : Der P w K mg base k ns_heads_of (defScope st_heads_of) (defBody st_heads_of) rd_heads_of := fun qual f cdv A outer s H E hr =>
  have S := sc_heads_of
  (dscons (dset (i := 1) S.nd rfl (by first | exact Or.inl rfl | exact Or.inr rfl) (dlstM danil)) (dscons (dfor (passes_of rfl) rfl (diseq (dv 0)) (dgn S.nd (i := 2) rfl (by first | exact Or.inl rfl | exact Or.inr rfl)) (dsone (dif_ (dninqT (dix (dv 2) dint) (dv 1)) (dsone (dexpr (dappend (dv 1) (dix (dv 2) dint)))) dsnil))) (dsone (dret (dfrz (dv 1))))))
abbrev st_merge : Stmt := top 5
abbrev ns_merge : List Str := ["name", "sequences", "rows", "found", "heads", "free", "sequence", "head", "row"]
abbrev ps_merge : List Str := ["name", "sequences"]
theorem sc_merge : FnScope ns_merge ps_merge (defScope st_merge) := ⟨rfl, rfl, rfl, by decide +kernel, rfl, by decide +kernel, by decide +kernel⟩
theorem der_merge (B : Bi mg) (F_heads_of : Fn P w K mg base k "heads_of" [] sp_heads_of) : Der P w K mg base k ns_merge (defScope st_merge) (defBody st_merge) rd_merge := fun qual f cdv A outer s H E hr =>
  have S := sc_merge
  (dscons (dasg (dtup (dacons (dlcP (own := [("sequence", 6)]) rfl S.nd (diseq (dv 1)) (blkOk_by (by show blkC ns_merge (defScope st_merge) _ _ = true; decide +kernel)) (fun _ _ _ _ _ => (pg_name S.nd (i := 6) rfl (by first | exact Or.inl rfl | exact Or.inr rfl))) ct_name (fun _ _ _ _ _ => (dtsone (dgtT (dlen rfl B.g_len (dacons (dv 6) danil)) dint))) (fun _ _ _ _ _ => (dlist rfl B.g_list (dacons (dv 6) danil)))) (dacons (dlstM danil) danil))) (dgtup rfl (dgscons (dgn S.nd (i := 2) rfl (by first | exact Or.inl rfl | exact Or.inr rfl)) (dgscons (dgn S.nd (i := 3) rfl (by first | exact Or.inl rfl | exact Or.inr rfl)) dgsnil)))) (dscons (dwhile (passes_of rfl) (dneT hr.units (dv 2) (dlst danil)) (dscons (dset (i := 4) S.nd rfl (by first | exact Or.inl rfl | exact Or.inr rfl) (dcall F_heads_of hr rfl (dacons (dv 2) danil) dknil)) (dscons (dset (i := 5) S.nd rfl (by first | exact Or.inl rfl | exact Or.inr rfl) (dlcP (own := [("head", 7)]) rfl S.nd (diseq (dv 4)) (blkOk_by (by show blkC ns_merge (defScope st_merge) _ _ = true; decide +kernel)) (fun _ _ _ _ _ => (pg_name S.nd (i := 7) rfl (by first | exact Or.inl rfl | exact Or.inr rfl))) ct_name (fun _ _ _ _ _ => (dtsone (dnotT (dtru (dany rfl rfl B.g_any (dacons (dlcP (own := [("row", 8)]) rfl S.nd (diseq (dv 2)) (blkOk_by (by show blkC ns_merge (relS _ (defScope st_merge)) _ _ = true; decide +kernel)) (fun _ _ _ _ _ => (pg_name S.nd (i := 8) rfl (by first | exact Or.inl rfl | exact Or.inr rfl))) ct_name (fun _ _ _ _ _ => dtsnil) (fun _ _ _ _ _ => (dinq (dv 7) (dsl (dv 8) (dpso dint) dpno)))) danil)))))) (fun _ _ _ _ _ => (dv 7)))) (dscons (dif_ (deqT hr.units (dv 5) (dlst danil)) (dsone dsnever) dsnil) (dscons (dexpr (dappend (dv 3) (dix (dv 5) dint))) (dscons (dset (i := 2) S.nd rfl (by first | exact Or.inl rfl | exact Or.inr rfl) (dlcP (own := [("row", 8)]) rfl S.nd (diseq (dv 2)) (blkOk_by (by show blkC ns_merge (defScope st_merge) _ _ = true; decide +kernel)) (fun _ _ _ _ _ => (pg_name S.nd (i := 8) rfl (by first | exact Or.inl rfl | exact Or.inr rfl))) ct_name (fun _ _ _ _ _ => dtsnil) (fun _ _ _ _ _ => (dite (deqT hr.units (dix (dv 8) dint) (dix (dv 5) dint)) (dsl (dv 8) (dpso dint) dpno) (dv 8))))) (dsone (dset (i := 2) S.nd rfl (by first | exact Or.inl rfl | exact Or.inr rfl) (dlcP (own := [("row", 8)]) rfl S.nd (diseq (dv 2)) (blkOk_by (by show blkC ns_merge (defScope st_merge) _ _ = true; decide +kernel)) (fun _ _ _ _ _ => (pg_name S.nd (i := 8) rfl (by first | exact Or.inl rfl | exact Or.inr rfl))) ct_name (fun _ _ _ _ _ => (dtsone (dneT hr.units (dv 8) (dlst danil)))) (fun _ _ _ _ _ => (dv 8))))))))))) (dsone (dret (dtuple rfl B.g_tuple (dacons (dv 3) danil))))))
abbrev st_order_of : Stmt := top 6
abbrev ns_order_of : List Str := ["name", "bases", "orders", "rows", "base"]
abbrev ps_order_of : List Str := ["name", "bases", "orders"]
theorem sc_order_of : FnScope ns_order_of ps_order_of (defScope st_order_of) := ⟨rfl, rfl, rfl, by decide +kernel, rfl, by decide +kernel, by decide +kernel⟩
theorem der_order_of (B : Bi mg) (F_merge_name : Fn P w K mg base k "merge" ["name"] sp_merge_n) : Der P w K mg base k ns_order_of (defScope st_order_of) (defBody st_order_of) rd_order_of := fun qual f cdv A outer s H E hr =>
  have S := sc_order_of
  (dscons (dsetlcP (i := 3) (own := [("base", 4)]) rfl S.nd rfl rfl (sw_true rfl rfl rfl (by decide +kernel)) (diseq (dv 1)) (blkOk_by (by show blkC ns_order_of (defScope st_order_of) _ _ = true; decide +kernel)) (fun _ _ _ _ _ => (pg_name S.nd (i := 4) rfl (by first | exact Or.inl rfl | exact Or.inr rfl))) ct_name (fun _ _ _ _ _ => dtsnil) (fun _ _ _ _ _ => (ddget hr.units (dv 2) (dv 4)))) (dsone (dret (dadd (dtup (dacons (dv 0) danil)) (dcall F_merge_name hr rfl (dastar (dv 3) (dacons (dv 1) danil)) (dkcons (dv 0) dknil))))))
abbrev st_add_orders : Stmt := top 7
abbrev ns_add_orders : List Str := ["name", "bases", "orders", "waiting", "here", "missing", "base"]
abbrev ps_add_orders : List Str := ["name", "bases", "orders"]
theorem sc_add_orders : FnScope ns_add_orders ps_add_orders (defScope st_add_orders) := ⟨rfl, rfl, rfl, by decide +kernel, rfl, by decide +kernel, by decide +kernel⟩
theorem der_add_orders (B : Bi mg) (F_order_of : Fn P w K mg base k "order_of" [] sp_order_of) : Der P w K mg base k ns_add_orders (defScope st_add_orders) (defBody st_add_orders) rd_add_orders := fun qual f cdv A outer s H E hr =>
  have S := sc_add_orders
  (dscons (dset (i := 3) S.nd rfl (by first | exact Or.inl rfl | exact Or.inr rfl) (dlstM (dacons (dv 0) danil))) (dsone (dwhile (passes_of rfl) (dneT hr.units (dv 3) (dlst danil)) (dscons (dset (i := 4) S.nd rfl (by first | exact Or.inl rfl | exact Or.inr rfl) (dix (dv 3) (dneg dint))) (dscons (dsetlcP (i := 5) (own := [("base", 6)]) rfl S.nd rfl rfl (sw_true rfl rfl rfl (by decide +kernel)) (diseq (ddget hr.units (dv 1) (dv 4))) (blkOk_by (by show blkC ns_add_orders (defScope st_add_orders) _ _ = true; decide +kernel)) (fun _ _ _ _ _ => (pg_name S.nd (i := 6) rfl (by first | exact Or.inl rfl | exact Or.inr rfl))) ct_name (fun _ _ _ _ _ => (dtsone (ddninT hr.units (dv 6) (dv 2)))) (fun _ _ _ _ _ => (dv 6))) (dsone (dif_ (dneT hr.units (dv 5) (dlst danil)) (dsone (dexpr (dappend (dv 3) (dix (dv 5) dint)))) (dscons (dexpr (dpop (dv 3))) (dsone (dif_ (ddninT hr.units (dv 4) (dv 2)) (dsone (ddput hr.units (dv 2) (dv 4) (dcall F_order_of hr rfl (dacons (dv 4) (dacons (ddget hr.units (dv 1) (dv 4)) (dacons (dv 2) danil))) dknil))) dsnil))))))))))
abbrev st_linearize : Stmt := top 8
abbrev ns_linearize : List Str := ["name", "bases", "orders"]
abbrev ps_linearize : List Str := ["name", "bases"]
theorem sc_linearize : FnScope ns_linearize ps_linearize (defScope st_linearize) := ⟨rfl, rfl, rfl, by decide +kernel, rfl, by decide +kernel, by decide +kernel⟩
theorem der_linearize (B : Bi mg) (F_add_orders : Fn P w K mg base k "add_orders" [] sp_add_orders) : Der P w K mg base k ns_linearize (defScope st_linearize) (defBody st_linearize) rd_linearize := fun qual f cdv A outer s H E hr =>
  have S := sc_linearize
  (dscons (dset (i := 2) S.nd rfl (by first | exact Or.inl rfl | exact Or.inr rfl) ddnew) (dscons (dexpr (dcall F_add_orders hr rfl (dacons (dv 0) (dacons (dv 1) (dacons (dv 2) danil))) dknil)) (dsone (dret (ddget hr.units (dv 2) (dv 0))))))
abbrev st_common : Stmt := top 9
abbrev ns_common : List Str := ["one", "other", "name"]
abbrev ps_common : List Str := ["one", "other"]
theorem sc_common : FnScope ns_common ps_common (defScope st_common) := ⟨rfl, rfl, rfl, by decide +kernel, rfl, by decide +kernel, by decide +kernel⟩
theorem der_common (B : Bi mg)  : Der P w K mg base k ns_common (defScope st_common) (defBody st_common) rd_common := fun qual f cdv A outer s H E hr =>
  have S := sc_common
  (dsone (dret (dtuple rfl B.g_tuple (dacons (dlcP (own := [("name", 2)]) rfl S.nd (diseq (dv 0)) (blkOk_by (by show blkC ns_common (defScope st_common) _ _ = true; decide +kernel)) (fun _ _ _ _ _ => (pg_name S.nd (i := 2) rfl (by first | exact Or.inl rfl | exact Or.inr rfl))) ct_name (fun _ _ _ _ _ => (dtsone (dinqT (dv 2) (dv 1)))) (fun _ _ _ _ _ => (dv 2))) danil))))
abbrev st__law_cell : Stmt := top 11
abbrev ns__law_cell : List Str := ["_law_cells", "_law_spot", "_law_k", "_law_base", "_law_at", "_law_turn", "_law_rest", "_law_j"]
abbrev ps__law_cell : List Str := ["_law_cells", "_law_spot"]
theorem sc__law_cell : FnScope ns__law_cell ps__law_cell (defScope st__law_cell) := ⟨rfl, rfl, rfl, by decide +kernel, rfl, by decide +kernel, by decide +kernel⟩
theorem der__law_cell (B : Bi mg)  : Der P w K mg base k ns__law_cell (defScope st__law_cell) (defBody st__law_cell) rd__law_cell := fun qual f cdv A outer s H E hr =>
  have S := sc__law_cell
  (dscons (dset (i := 2) S.nd rfl (by first | exact Or.inl rfl | exact Or.inr rfl) (dix (dv 1) dint)) (dscons (dasg (dadd (dv 2) dint) (dgsubl (dv 1) dint)) (dscons (dset (i := 3) S.nd rfl (by first | exact Or.inl rfl | exact Or.inr rfl) (dadd (dmul (dmul dint (dv 2)) (dv 2)) (dmul dint (dv 2)))) (dscons (dif_ (dgtT (dlen rfl B.g_len (dacons (dv 0) danil)) dint) (dscons (dpar2 (i := 4) (j := 5) rfl S.nd rfl rfl (by decide) rfl rfl (dacons (dmod (dv 2) (dlen rfl B.g_len (dacons (dv 0) danil))) (dacons (dfdiv (dv 2) (dlen rfl B.g_len (dacons (dv 0) danil))) danil)) (by rfl)) (dscons (dif_ (dbo (dand (dgeT (dix (dv 0) (dv 4)) (dpow dint dint)) (dand1 (dltT (dv 5) dint)))) (dscons (dset (i := 6) S.nd rfl (by first | exact Or.inl rfl | exact Or.inr rfl) (dix (dv 0) (dv 4))) (dscons (dfor (passes_of rfl) rfl (dirng1 rfl B.g_range (dacons (dv 5) danil)) (dgn S.nd (i := 7) rfl (by first | exact Or.inl rfl | exact Or.inr rfl)) (dsone (dset (i := 6) S.nd rfl (by first | exact Or.inl rfl | exact Or.inr rfl) (dfdiv (dv 6) dint)))) (dsone (dif_ (dgtT (dv 6) dint) (dsone (dret (dmod (dv 6) dint))) dsnil)))) dsnil) (dsone (dset (i := 3) S.nd rfl (by first | exact Or.inl rfl | exact Or.inr rfl) (dadd (dv 3) (dmul (dmod (dix (dv 0) (dv 4)) dint) (dadd dint (dv 5)))))))) dsnil) (dsone (dret (dfdiv (dmod (dpow (dmod (dv 3) dint) dint) dint) dint)))))))
abbrev st__law_graph : Stmt := top 12
abbrev ns__law_graph : List Str := ["_law_cells", "_law_spot", "_law_most", "_law_n", "_law_found", "_law_k", "_law_m", "_law_stock", "_law_bases", "_law_j", "_law_row_here"]
abbrev ps__law_graph : List Str := ["_law_cells", "_law_spot", "_law_most"]
theorem sc__law_graph : FnScope ns__law_graph ps__law_graph (defScope st__law_graph) := ⟨rfl, rfl, rfl, by decide +kernel, rfl, by decide +kernel, by decide +kernel⟩
theorem der__law_graph (B : Bi mg) (F__law_cell : Fn P w K mg base k "_law_cell" [] sp_cell) : Der P w K mg base k ns__law_graph (defScope st__law_graph) (defBody st__law_graph) rd__law_graph := fun qual f cdv A outer s H E hr =>
  have S := sc__law_graph
  (dscons (dpar2 (i := 3) (j := 4) rfl S.nd rfl rfl (by decide) rfl rfl (dacons (dcall F__law_cell hr rfl (dacons (dv 0) (dacons (dv 1) danil)) dknil) (dacons (dlstM danil) danil)) (by rfl)) (dscons (dfor (passes_of rfl) rfl (dirng1 rfl B.g_range (dacons (dadd dint (dmod (dv 3) (dv 2))) danil)) (dgn S.nd (i := 5) rfl (by first | exact Or.inl rfl | exact Or.inr rfl)) (dscons (dpar3 (i := 6) (j := 7) (l := 8) rfl S.nd rfl rfl rfl (by decide) (by decide) (by decide) rfl rfl rfl (dacons (dcall F__law_cell hr rfl (dacons (dv 0) (dacons (dv 1) danil)) dknil) (dacons (dlcQ (own := [("_law_row_here", 10)]) rfl S.nd (diseq (dv 4)) (blkOk_by (by show blkC ns__law_graph (defScope st__law_graph) _ _ = true; decide +kernel)) (fun _ _ _ _ _ => (pg_name S.nd (i := 10) rfl (by first | exact Or.inl rfl | exact Or.inr rfl))) ct_name (fun _ _ _ _ _ => dtsnil) (fun _ _ _ _ _ => (dix (dv 10) dint))) (dacons (dlstM danil) danil))) (by rfl)) (dscons (dfor (passes_of rfl) rfl (dirng1 rfl B.g_range (dacons (dmin2 rfl rfl B.g_min (dacons (dix (dlst (dacons dint (dacons dint (dacons dint (dacons dint (dacons dint (dacons dint danil))))))) (dmod (dv 6) dint)) (dacons (dlen rfl B.g_len (dacons (dv 7) danil)) danil))) danil)) (dgn S.nd (i := 9) rfl (by first | exact Or.inl rfl | exact Or.inr rfl)) (dsone (dexpr (dappend (dv 8) (dpopat (dv 7) (dmod (dfdiv (dv 6) (dix (dlst (dacons dint (dacons dint (dacons dint danil)))) (dv 9))) (dlen rfl B.g_len (dacons (dv 7) danil)))))))) (dsone (dexpr (dappend (dv 4) (dtup (dacons (dadd dstr (dstri rfl B.g_str (dacons (dv 5) danil))) (dacons (dtuple rfl B.g_tuple (dacons (dv 8) danil)) danil))))))))) (dsone (dret (dfrz (dv 4))))))
abbrev st__law_merge : Stmt := top 13
abbrev ns__law_merge : List Str := ["_law_rows", "_law_found", "_law_heads", "_law_row_here", "_law_tails", "_law_free", "_law_head"]
abbrev ps__law_merge : List Str := ["_law_rows"]
theorem sc__law_merge : FnScope ns__law_merge ps__law_merge (defScope st__law_merge) := ⟨rfl, rfl, rfl, by decide +kernel, rfl, by decide +kernel, by decide +kernel⟩
theorem der__law_merge (B : Bi mg)  : Der P w K mg base k ns__law_merge (defScope st__law_merge) (defBody st__law_merge) rd__law_merge := fun qual f cdv A outer s H E hr =>
  have S := sc__law_merge
  (dscons (dpar2 (i := 0) (j := 1) rfl S.nd rfl rfl (by decide) rfl rfl (dacons (dlcP (own := [("_law_row_here", 3)]) rfl S.nd (diseq (dv 0)) (blkOk_by (by show blkC ns__law_merge (defScope st__law_merge) _ _ = true; decide +kernel)) (fun _ _ _ _ _ => (pg_name S.nd (i := 3) rfl (by first | exact Or.inl rfl | exact Or.inr rfl))) ct_name (fun _ _ _ _ _ => (dtsone (dgtT (dlen rfl B.g_len (dacons (dv 3) danil)) dint))) (fun _ _ _ _ _ => (dlist rfl B.g_list (dacons (dv 3) danil)))) (dacons (dlstM danil) danil)) (by rfl)) (dscons (dwhile (passes_of rfl) (dneT hr.units (dv 0) (dlst danil)) (dscons (dset (i := 2) S.nd rfl (by first | exact Or.inl rfl | exact Or.inr rfl) (dlstM danil)) (dscons (dfor (passes_of rfl) rfl (diseq (dv 0)) (dgn S.nd (i := 3) rfl (by first | exact Or.inl rfl | exact Or.inr rfl)) (dsone (dif_ (dninqT (dix (dv 3) dint) (dv 2)) (dsone (dexpr (dappend (dv 2) (dix (dv 3) dint)))) dsnil))) (dscons (dset (i := 4) S.nd rfl (by first | exact Or.inl rfl | exact Or.inr rfl) (dsumL rfl rfl B.g_sum (dacons (dlcP (own := [("_law_row_here", 3)]) rfl S.nd (diseq (dv 0)) (blkOk_by (by show blkC ns__law_merge (defScope st__law_merge) _ _ = true; decide +kernel)) (fun _ _ _ _ _ => (pg_name S.nd (i := 3) rfl (by first | exact Or.inl rfl | exact Or.inr rfl))) ct_name (fun _ _ _ _ _ => dtsnil) (fun _ _ _ _ _ => (dsl (dv 3) (dpso dint) dpno))) (dacons (dlst danil) danil)))) (dscons (dset (i := 5) S.nd rfl (by first | exact Or.inl rfl | exact Or.inr rfl) (dlcP (own := [("_law_head", 6)]) rfl S.nd (diseq (dv 2)) (blkOk_by (by show blkC ns__law_merge (defScope st__law_merge) _ _ = true; decide +kernel)) (fun _ _ _ _ _ => (pg_name S.nd (i := 6) rfl (by first | exact Or.inl rfl | exact Or.inr rfl))) ct_name (fun _ _ _ _ _ => (dtsone (dninqT (dv 6) (dv 4)))) (fun _ _ _ _ _ => (dv 6)))) (dscons (dif_ (deqT hr.units (dv 5) (dlst danil)) (dsone (dret (dtuple rfl B.g_tuple (dacons (dv 2) danil)))) dsnil) (dscons (dexpr (dappend (dv 1) (dix (dv 5) dint))) (dscons (dsetlcP (i := 0) (own := [("_law_row_here", 3)]) rfl S.nd rfl rfl (sw_true rfl rfl rfl (by decide +kernel)) (diseq (dv 0)) (blkOk_by (by show blkC ns__law_merge (defScope st__law_merge) _ _ = true; decide +kernel)) (fun _ _ _ _ _ => (pg_name S.nd (i := 3) rfl (by first | exact Or.inl rfl | exact Or.inr rfl))) ct_name (fun _ _ _ _ _ => dtsnil) (fun _ _ _ _ _ => (dite (deqT hr.units (dix (dv 3) dint) (dix (dv 5) dint)) (dsl (dv 3) (dpso dint) dpno) (dv 3)))) (dsone (dsetlcP (i := 0) (own := [("_law_row_here", 3)]) rfl S.nd rfl rfl (sw_true rfl rfl rfl (by decide +kernel)) (diseq (dv 0)) (blkOk_by (by show blkC ns__law_merge (defScope st__law_merge) _ _ = true; decide +kernel)) (fun _ _ _ _ _ => (pg_name S.nd (i := 3) rfl (by first | exact Or.inl rfl | exact Or.inr rfl))) ct_name (fun _ _ _ _ _ => (dtsone (dneT hr.units (dv 3) (dlst danil)))) (fun _ _ _ _ _ => (dv 3)))))))))))) (dsone (dret (dfrz (dv 1))))))
abbrev st__law_orders : Stmt := top 14
abbrev ns__law_orders : List Str := ["_law_pairs", "_law_orders_here", "_law_who", "_law_bases", "_law_found", "_law_base"]
abbrev ps__law_orders : List Str := ["_law_pairs"]
theorem sc__law_orders : FnScope ns__law_orders ps__law_orders (defScope st__law_orders) := ⟨rfl, rfl, rfl, by decide +kernel, rfl, by decide +kernel, by decide +kernel⟩
theorem der__law_orders (B : Bi mg) (F__law_merge : Fn P w K mg base k "_law_merge" [] sp_lmerge) : Der P w K mg base k ns__law_orders (defScope st__law_orders) (defBody st__law_orders) rd__law_orders := fun qual f cdv A outer s H E hr =>
  have S := sc__law_orders
  (dscons (dset (i := 1) S.nd rfl (by first | exact Or.inl rfl | exact Or.inr rfl) ddnew) (dscons (dfor (passes_of rfl) rfl (diseq (dv 0)) (dgtup rfl (dgscons (dgn S.nd (i := 2) rfl (by first | exact Or.inl rfl | exact Or.inr rfl)) (dgscons (dgn S.nd (i := 3) rfl (by first | exact Or.inl rfl | exact Or.inr rfl)) dgsnil))) (dscons (dset (i := 4) S.nd rfl (by first | exact Or.inl rfl | exact Or.inr rfl) (dcall F__law_merge hr rfl (dacons (dadd (dlcP (own := [("_law_base", 5)]) rfl S.nd (diseq (dv 3)) (blkOk_by (by show blkC ns__law_orders (defScope st__law_orders) _ _ = true; decide +kernel)) (fun _ _ _ _ _ => (pg_name S.nd (i := 5) rfl (by first | exact Or.inl rfl | exact Or.inr rfl))) ct_name (fun _ _ _ _ _ => dtsnil) (fun _ _ _ _ _ => (ddget hr.units (dv 1) (dv 5)))) (dlst (dacons (dv 3) danil))) danil) dknil)) (dscons (dif_ (dtru (disi rfl B.g_isinstance (dacons (dv 4) (dacons (dty rfl B.g_tuple (by decide +kernel)) danil)))) (dsone (dret (dtup (dacons (dv 1) (dacons (dtup (dacons (dv 2) (dacons (dv 4) danil))) danil))))) dsnil) (dsone (ddput hr.units (dv 1) (dv 2) (dadd (dtup (dacons (dv 2) danil)) (dtuple rfl B.g_tuple (dacons (dv 4) danil)))))))) (dsone (dret (dtup (dacons (dv 1) (dacons dnon danil)))))))
abbrev st__law_row : Stmt := top 15
abbrev ns__law_row : List Str := ["_law_n", "_law_most", "_law_stock", "_law_found", "_law_k"]
abbrev ps__law_row : List Str := ["_law_n", "_law_most"]
theorem sc__law_row : FnScope ns__law_row ps__law_row (defScope st__law_row) := ⟨rfl, rfl, rfl, by decide +kernel, rfl, by decide +kernel, by decide +kernel⟩
theorem der__law_row (B : Bi mg)  : Der P w K mg base k ns__law_row (defScope st__law_row) (defBody st__law_row) rd__law_row := fun qual f cdv A outer s H E hr =>
  have S := sc__law_row
  (dscons (dpar2 (i := 2) (j := 3) rfl S.nd rfl rfl (by decide) rfl rfl (dacons (dlstM (dacons dstr (dacons dstr (dacons dstr (dacons dstr (dacons dstr (dacons dstr (dacons dstr (dacons dstr (dacons dstr danil)))))))))) (dacons (dlstM danil) danil)) (by rfl)) (dscons (dfor (passes_of rfl) rfl (dirng1 rfl B.g_range (dacons (dmod (dv 0) (dadd (dv 1) dint)) danil)) (dgn S.nd (i := 4) rfl (by first | exact Or.inl rfl | exact Or.inr rfl)) (dscons (dset (i := 0) S.nd rfl (by first | exact Or.inl rfl | exact Or.inr rfl) (dadd (dadd (dfdiv (dv 0) dint) (dmul dint (dv 0))) (dv 4))) (dsone (dexpr (dappend (dv 3) (dpopat (dv 2) (dmod (dv 0) (dlen rfl B.g_len (dacons (dv 2) danil))))))))) (dsone (dret (dtuple rfl B.g_tuple (dacons (dv 3) danil))))))
abbrev st__law_shared : Stmt := top 16
abbrev ns__law_shared : List Str := ["_law_row_here", "_law_far", "_law_found", "_law_sign", "_law_item"]
abbrev ps__law_shared : List Str := ["_law_row_here", "_law_far"]
theorem sc__law_shared : FnScope ns__law_shared ps__law_shared (defScope st__law_shared) := ⟨rfl, rfl, rfl, by decide +kernel, rfl, by decide +kernel, by decide +kernel⟩
theorem der__law_shared (B : Bi mg)  : Der P w K mg base k ns__law_shared (defScope st__law_shared) (defBody st__law_shared) rd__law_shared := fun qual f cdv A outer s H E hr =>
  have S := sc__law_shared
  (dscons (dset (i := 2) S.nd rfl (by first | exact Or.inl rfl | exact Or.inr rfl) (dlstM danil)) (dscons (dfor (passes_of rfl) rfl (diseq (dv 0)) (dgn S.nd (i := 3) rfl (by first | exact Or.inl rfl | exact Or.inr rfl)) (dsone (dfor (passes_of rfl) rfl (diseq (dv 1)) (dgn S.nd (i := 4) rfl (by first | exact Or.inl rfl | exact Or.inr rfl)) (dsone (dif_ (deqT hr.units (dv 3) (dv 4)) (dsone (dexpr (dappend (dv 2) (dv 3)))) dsnil))))) (dsone (dret (dtuple rfl B.g_tuple (dacons (dv 2) danil))))))
abbrev st_law : Stmt := top 17
abbrev ns_law : List Str := ["_law_script", "_law_spot", "_law_turn", "_law_row_here", "_law_far", "_law_due", "_law_pairs", "_law_orders_here", "_law_conflict", "_law_graph_here", "_law_who", "_law_bases", "_law_base", "_law_above", "_law_below", "_law_told"]
abbrev ps_law : List Str := ["_law_script"]
theorem sc_law : FnScope ns_law ps_law (defScope st_law) := ⟨rfl, rfl, rfl, by decide +kernel, rfl, by decide +kernel, by decide +kernel⟩
theorem der_law (B : Bi mg) (F__law_row : Fn P w K mg base k "_law_row" [] sp_row) (F__law_cell : Fn P w K mg base k "_law_cell" [] sp_cell) (F__law_shared : Fn P w K mg base k "_law_shared" [] sp_shared) (F_common : Fn P w K mg base k "common" [] sp_common) (F__law_graph : Fn P w K mg base k "_law_graph" [] sp_graph) (F__law_orders : Fn P w K mg base k "_law_orders" [] sp_lorders) (F_linearize : Fn P w K mg base k "linearize" [] sp_linearize) (F_common_other_one : Fn P w K mg base k "common" ["other", "one"] sp_common_k) : Der P w K mg base k ns_law (defScope st_law) (defBody st_law) rd_law := fun qual f cdv A outer s H E hr =>
  have S := sc_law
  (dscons (dset (i := 1) S.nd rfl (by first | exact Or.inl rfl | exact Or.inr rfl) (dlstM (dacons dint danil))) (dscons (dfor (passes_of rfl) rfl (dirng1 rfl B.g_range (dacons (dadd dint (dmin2 rfl rfl B.g_min (dacons dint (dacons (dlen rfl B.g_len (dacons (dv 0) danil)) danil)))) danil)) (dgn S.nd (i := 2) rfl (by first | exact Or.inl rfl | exact Or.inr rfl)) (dscons (dpar2 (i := 3) (j := 4) rfl S.nd rfl rfl (by decide) rfl rfl (dacons (dcall F__law_row hr rfl (dacons (dcall F__law_cell hr rfl (dacons (dv 0) (dacons (dv 1) danil)) dknil) (dacons dint danil)) dknil) (dacons (dcall F__law_row hr rfl (dacons (dcall F__law_cell hr rfl (dacons (dv 0) (dacons (dv 1) danil)) dknil) (dacons dint danil)) dknil) danil)) (by rfl)) (dscons (dset (i := 5) S.nd rfl (by first | exact Or.inl rfl | exact Or.inr rfl) (dcall F__law_shared hr rfl (dacons (dv 3) (dacons (dv 4) danil)) dknil)) (dscons (dif_ (dbo (dor (dneT hr.units (dcall F_common hr rfl (dacons (dv 3) (dacons (dv 4) danil)) dknil) (dv 5)) (dor1 (dneT hr.units (dsortedS rfl B.g_sorted (dacons (dcall F_common hr rfl (dacons (dv 4) (dacons (dv 3) danil)) dknil) danil)) (dsortedS rfl B.g_sorted (dacons (dv 5) danil)))))) (dsone (dret dbl)) dsnil) (dscons (dif_ (dneT hr.units (dlst (dacons (dcall F_common hr rfl (dacons (dv 3) (dacons (dv 3) danil)) dknil) (dacons (dcall F_common hr rfl (dacons (dv 3) (dacons (dtup danil) danil)) dknil) (dacons (dcall F_common hr rfl (dacons (dtup danil) (dacons (dv 4) danil)) dknil) danil)))) (dlst (dacons (dv 3) (dacons (dtup danil) (dacons (dtup danil) danil))))) (dsone (dret dbl)) dsnil) (dscons (dset (i := 6) S.nd rfl (by first | exact Or.inl rfl | exact Or.inr rfl) (dcall F__law_graph hr rfl (dacons (dv 0) (dacons (dv 1) (dacons dint danil))) dknil)) (dscons (dasg (dcall F__law_orders hr rfl (dacons (dv 6) danil) dknil) (dgtup rfl (dgscons (dgn S.nd (i := 7) rfl (by first | exact Or.inl rfl | exact Or.inr rfl)) (dgscons (dgn S.nd (i := 8) rfl (by first | exact Or.inl rfl | exact Or.inr rfl)) dgsnil)))) (dscons (dset (i := 9) S.nd rfl (by first | exact Or.inl rfl | exact Or.inr rfl) ddnew) (dscons (dfor (passes_of rfl) rfl (diseq (dv 6)) (dgtup rfl (dgscons (dgn S.nd (i := 10) rfl (by first | exact Or.inl rfl | exact Or.inr rfl)) (dgscons (dgn S.nd (i := 11) rfl (by first | exact Or.inl rfl | exact Or.inr rfl)) dgsnil))) (dsone (ddput hr.units (dv 9) (dv 10) (dv 11)))) (dsone (dfor (passes_of rfl) rfl (diseq (dv 6)) (dgtup rfl (dgscons (dgn S.nd (i := 10) rfl (by first | exact Or.inl rfl | exact Or.inr rfl)) (dgscons (dgn S.nd (i := 11) rfl (by first | exact Or.inl rfl | exact Or.inr rfl)) dgsnil))) (dsone (dfor (passes_of rfl) rfl (diseq (dite (ddinT hr.units (dv 10) (dv 7)) (dv 11) (dtup danil))) (dgn S.nd (i := 12) rfl (by first | exact Or.inl rfl | exact Or.inr rfl)) (dscons (dpar2 (i := 13) (j := 14) rfl S.nd rfl rfl (by decide) rfl rfl (dacons (dcall F_linearize hr rfl (dacons (dv 12) (dacons (dv 9) danil)) dknil) (dacons (dcall F_linearize hr rfl (dacons (dv 10) (dacons (dv 9) danil)) dknil) danil)) (by rfl)) (dscons (dset (i := 15) S.nd rfl (by first | exact Or.inl rfl | exact Or.inr rfl) (dlst (dacons (dcall F_common hr rfl (dacons (dv 14) (dacons (dv 13) danil)) dknil) (dacons (dcall F_common_other_one hr rfl danil (dkcons (dv 14) (dkcons (dv 13) dknil))) danil)))) (dsone (dif_ (dneT hr.units (dv 15) (dlst (dacons (dv 13) (dacons (dv 13) danil)))) (dsone (dret dbl)) dsnil))))))))))))))))) (dsone (dret dbl))))
end
end K05

/-! K05E: the defs of this text keep their promises. -/
namespace K05
open PySem PySem.Spec L2 DL
abbrev FnP (K : Frag) (x : Str) (st : Stmt) (f : Addr) (fd : FuncData) : Prop := FunD K x x (defArgs st) (defBody st) (defScope st) [] [] f fd
/-- the defs, by name -/
structure Defs (K : Frag) (mg : Str → Option Value) : Prop where
  heads_of : ∃ f fd, FnP K "heads_of" st_heads_of f fd ∧ mg "heads_of" = some (.ref f)
  merge : ∃ f fd, FnP K "merge" st_merge f fd ∧ mg "merge" = some (.ref f)
  order_of : ∃ f fd, FnP K "order_of" st_order_of f fd ∧ mg "order_of" = some (.ref f)
  add_orders : ∃ f fd, FnP K "add_orders" st_add_orders f fd ∧ mg "add_orders" = some (.ref f)
  linearize : ∃ f fd, FnP K "linearize" st_linearize f fd ∧ mg "linearize" = some (.ref f)
  common : ∃ f fd, FnP K "common" st_common f fd ∧ mg "common" = some (.ref f)
  cell : ∃ f fd, FnP K "_law_cell" st__law_cell f fd ∧ mg "_law_cell" = some (.ref f)
  graph : ∃ f fd, FnP K "_law_graph" st__law_graph f fd ∧ mg "_law_graph" = some (.ref f)
  lmerge : ∃ f fd, FnP K "_law_merge" st__law_merge f fd ∧ mg "_law_merge" = some (.ref f)
  lorders : ∃ f fd, FnP K "_law_orders" st__law_orders f fd ∧ mg "_law_orders" = some (.ref f)
  row : ∃ f fd, FnP K "_law_row" st__law_row f fd ∧ mg "_law_row" = some (.ref f)
  shared : ∃ f fd, FnP K "_law_shared" st__law_shared f fd ∧ mg "_law_shared" = some (.ref f)
section
variable {P : Program} {w : World} {K : Frag} {mg : Str → Option Value} {base : Heap}
theorem fn_heads_of (X : Defs K mg) (B : Bi mg) : Fn P w K mg base 1 "heads_of" [] sp_heads_of := by
  obtain ⟨f, fd, F, hm⟩ := X.heads_of
  exact Fn.plain F sc_heads_of (by rintro ds m Q E ⟨_, rfl, _⟩; rfl) (der_heads_of B) spec_heads_of hm fun _ _ _ _ _ _ us hl => match us, hl with | [_], _ => rfl
theorem fn_merge (X : Defs K mg) (B : Bi mg) : Fn P w K mg base 2 "merge" ["name"] sp_merge_n := by
  obtain ⟨f, fd, F, hm⟩ := X.merge
  have R := Fn.starK (P := P) (w := w) (base := base) F sc_merge (der_merge B (fn_heads_of X B)) spec_merge hm (fun kV doc pm an cdv ct rest v => by cases rest <;> rfl)
  refine R.imp ?_
  rintro ds m Q E ⟨rows, nm, r, rfl, h1, h2, h3, h4⟩
  have sz := szl
  exact ⟨_, nm, rfl, by rw [List.length_map]; omega, rows, nm, r, rfl, h1, h2, h3, h4⟩
theorem fn_order_of (X : Defs K mg) (B : Bi mg) : Fn P w K mg base 3 "order_of" [] sp_order_of := by
  obtain ⟨f, fd, F, hm⟩ := X.order_of
  exact Fn.plain F sc_order_of (by rintro ds m Q E ⟨_, _, _, _, _, _, rfl, _⟩; rfl) (der_order_of B (fn_merge X B)) spec_order_of hm fun _ _ _ _ _ _ us hl => match us, hl with | [_, _, _], _ => rfl
theorem fn_add_orders (X : Defs K mg) (B : Bi mg) : Fn P w K mg base 4 "add_orders" [] sp_add_orders := by
  obtain ⟨f, fd, F, hm⟩ := X.add_orders
  exact Fn.plain F sc_add_orders (by rintro ds m Q E ⟨_, _, _, _, _, _, _, _, rfl, _⟩; rfl) (der_add_orders B (fn_order_of X B)) spec_add_orders hm fun _ _ _ _ _ _ us hl => match us, hl with | [_, _, _], _ => rfl
theorem fn_linearize (X : Defs K mg) (B : Bi mg) : Fn P w K mg base 5 "linearize" [] sp_linearize := by
  obtain ⟨f, fd, F, hm⟩ := X.linearize
  exact Fn.plain F sc_linearize (by rintro ds m Q E ⟨_, _, _, _, _, _, _, rfl, _⟩; rfl) (der_linearize B (fn_add_orders X B)) spec_linearize hm fun _ _ _ _ _ _ us hl => match us, hl with | [_, _], _ => rfl
theorem fn_common (X : Defs K mg) (B : Bi mg) : Fn P w K mg base 1 "common" [] sp_common := by
  obtain ⟨f, fd, F, hm⟩ := X.common
  exact Fn.plain F sc_common (by rintro ds m Q E ⟨_, _, rfl, _⟩; rfl) (der_common B) spec_common hm fun _ _ _ _ _ _ us hl => match us, hl with | [_, _], _ => rfl
theorem fn_common_k (X : Defs K mg) (B : Bi mg) : Fn P w K mg base 1 "common" ["other", "one"] sp_common_k := by
  obtain ⟨f, fd, F, hm⟩ := X.common
  exact Fn.kw F sc_common (by rintro ds m Q E ⟨_, _, rfl, _⟩; rfl) (der_common B) spec_common hm 0 ["other", "one"] [1, 0] fun _ _ _ _ _ _ us ws h1 h2 => match us, ws, h1, h2 with | [], [_, _], _, _ => rfl
theorem fn_cell (X : Defs K mg) (B : Bi mg) : Fn P w K mg base 1 "_law_cell" [] sp_cell := by
  obtain ⟨f, fd, F, hm⟩ := X.cell
  exact Fn.plain F sc__law_cell (by rintro ds m Q E ⟨_, _, _, rfl, _⟩; rfl) (der__law_cell B) spec_cell hm fun _ _ _ _ _ _ us hl => match us, hl with | [_, _], _ => rfl
theorem fn_graph (X : Defs K mg) (B : Bi mg) : Fn P w K mg base 2 "_law_graph" [] sp_graph := by
  obtain ⟨f, fd, F, hm⟩ := X.graph
  exact Fn.plain F sc__law_graph (by rintro ds m Q E ⟨_, _, _, rfl, _⟩; rfl) (der__law_graph B (fn_cell X B)) spec_graph hm fun _ _ _ _ _ _ us hl => match us, hl with | [_, _, _], _ => rfl
theorem fn_lmerge (X : Defs K mg) (B : Bi mg) : Fn P w K mg base 1 "_law_merge" [] sp_lmerge := by
  obtain ⟨f, fd, F, hm⟩ := X.lmerge
  exact Fn.plain F sc__law_merge (by rintro ds m Q E ⟨_, rfl, _⟩; rfl) (der__law_merge B) spec_lmerge hm fun _ _ _ _ _ _ us hl => match us, hl with | [_], _ => rfl
theorem fn_lorders (X : Defs K mg) (B : Bi mg) : Fn P w K mg base 2 "_law_orders" [] sp_lorders := by
  obtain ⟨f, fd, F, hm⟩ := X.lorders
  exact Fn.plain F sc__law_orders (by rintro ds m Q E ⟨_, rfl, _⟩; rfl) (der__law_orders B (fn_lmerge X B)) spec_lorders hm fun _ _ _ _ _ _ us hl => match us, hl with | [_], _ => rfl
theorem fn_row (X : Defs K mg) (B : Bi mg) : Fn P w K mg base 1 "_law_row" [] sp_row := by
  obtain ⟨f, fd, F, hm⟩ := X.row
  exact Fn.plain F sc__law_row (by rintro ds m Q E ⟨_, rfl, _⟩; rfl) (der__law_row B) spec_row hm fun _ _ _ _ _ _ us hl => match us, hl with | [_, _], _ => rfl
theorem fn_shared (X : Defs K mg) (B : Bi mg) : Fn P w K mg base 1 "_law_shared" [] sp_shared := by
  obtain ⟨f, fd, F, hm⟩ := X.shared
  exact Fn.plain F sc__law_shared (by rintro ds m Q E ⟨_, _, rfl, _⟩; rfl) (der__law_shared B) spec_shared hm fun _ _ _ _ _ _ us hl => match us, hl with | [_, _], _ => rfl
theorem ok_law {f : Addr} {fd : FuncData} (X : Defs K mg) (B : Bi mg) (F : FnP K "law" st_law f fd) : FnOk P w K mg base CX0 6 f fd ["_law_script"] (fun vs H Q _ => liftSp K sp_law vs H Q fun _ _ _ => False) :=
  law_ok (p := "law") (fn_rule F sc_law (by rintro ds m Q E ⟨_, rfl, _⟩; rfl)
    (der_law B ((fn_row X B).mono (by decide)) ((fn_cell X B).mono (by decide)) ((fn_shared X B).mono (by decide)) ((fn_common X B).mono (by decide)) ((fn_graph X B).mono (by decide)) ((fn_lorders X B).mono (by decide)) (fn_linearize X B) ((fn_common_k X B).mono (by decide))) spec_law)
end
end K05

/-! K05F: the head and the law. -/
namespace K05
open PySem PySem.Spec PyProof.Rows L2 DL
def dD (x : Str) (st : Stmt) : He.DefD := ⟨(x, none), x, x, defArgs st, defBody st, defScope st, [], []⟩
def fn : List He.DefD := [dD "heads_of" st_heads_of, dD "merge" st_merge, dD "order_of" st_order_of, dD "add_orders" st_add_orders, dD "linearize" st_linearize, dD "common" st_common, dD "_law_cell" st__law_cell, dD "_law_graph" st__law_graph,
  dD "_law_merge" st__law_merge, dD "_law_orders" st__law_orders, dD "_law_row" st__law_row, dD "_law_shared" st__law_shared, dD "law" st_law]
def fa : List He.Fa := [.glo "heads_of", .glo "merge", .glo "order_of", .glo "add_orders", .glo "linearize", .glo "common", .glo "_law_cell", .glo "_law_graph", .glo "_law_merge", .glo "_law_orders", .glo "_law_row", .glo "_law_shared", .glo "law",
  .free "any", .free "isinstance", .free "len", .free "list", .free "min", .free "range", .free "sorted", .free "str", .free "sum", .free "tuple"]
abbrev R : PySem.W.OpenRow := PySem.W.OpenLaw.row PySem.Challenge.rw_classforge_k05_common_names
abbrev hk : PySem.W.Hook := He.hookD 4 fa fn
def ob (s : PySem.W.SharedT) : He.AlD := He.obsDG 4 fa fn (HandSHeadRun.getT s)
theorem ob_eq (s : PySem.W.SharedT) : ob s = hk.obs s.abs := He.obsDG_eq (HandSHeadRun.getT_eq s)
def loose : List Str := ["ForgeError", "OrderConflict", "heads_of", "merge", "order_of", "add_orders", "linearize", "common", "_law_cell", "_law_graph", "_law_merge", "_law_orders", "_law_row", "_law_shared"]
theorem run (w : World) : HandSHeadRun.RunEq R (PySem.W.view R.prog [17]) hk ob 4000 loose w := by
  intro os
  kernel_rfl
theorem facts {P : Program} {w : World} {K : PySem.W.Frag} {h : Heap} {mg : Str → Option Value} {f : Addr} (X : K.In h) (G : h.Ns mainGlobals mg) (hfa : mg ("law" : Str) = some (.ref f)) (c : He.SaysD fa fn K) :
    ∃ fd : FuncData, (∀ (s : Shared) (v : Value), BindsTo s fd ⟨[v], []⟩ [("_law_script", v)]) ∧ ∀ base : Heap, K.In base → base.Ns mainGlobals mg → FnOk P w K mg base CX0 6 f fd ["_law_script"] (fun vs H Q _ => liftSp K sp_law vs H Q fun _ _ _ => False) := by
  have D : Defs K mg := by
    refine ⟨?_, ?_, ?_, ?_, ?_, ?_, ?_, ?_, ?_, ?_, ?_, ?_⟩
    · obtain ⟨fd, F⟩ := c.def_ 0 (d := dD "heads_of" st_heads_of) rfl; exact ⟨_, fd, F, He.glo_ok X G (c.fact 0 (f := .glo "heads_of") rfl)⟩
    · obtain ⟨fd, F⟩ := c.def_ 1 (d := dD "merge" st_merge) rfl; exact ⟨_, fd, F, He.glo_ok X G (c.fact 1 (f := .glo "merge") rfl)⟩
    · obtain ⟨fd, F⟩ := c.def_ 2 (d := dD "order_of" st_order_of) rfl; exact ⟨_, fd, F, He.glo_ok X G (c.fact 2 (f := .glo "order_of") rfl)⟩
    · obtain ⟨fd, F⟩ := c.def_ 3 (d := dD "add_orders" st_add_orders) rfl; exact ⟨_, fd, F, He.glo_ok X G (c.fact 3 (f := .glo "add_orders") rfl)⟩
    · obtain ⟨fd, F⟩ := c.def_ 4 (d := dD "linearize" st_linearize) rfl; exact ⟨_, fd, F, He.glo_ok X G (c.fact 4 (f := .glo "linearize") rfl)⟩
    · obtain ⟨fd, F⟩ := c.def_ 5 (d := dD "common" st_common) rfl; exact ⟨_, fd, F, He.glo_ok X G (c.fact 5 (f := .glo "common") rfl)⟩
    · obtain ⟨fd, F⟩ := c.def_ 6 (d := dD "_law_cell" st__law_cell) rfl; exact ⟨_, fd, F, He.glo_ok X G (c.fact 6 (f := .glo "_law_cell") rfl)⟩
    · obtain ⟨fd, F⟩ := c.def_ 7 (d := dD "_law_graph" st__law_graph) rfl; exact ⟨_, fd, F, He.glo_ok X G (c.fact 7 (f := .glo "_law_graph") rfl)⟩
    · obtain ⟨fd, F⟩ := c.def_ 8 (d := dD "_law_merge" st__law_merge) rfl; exact ⟨_, fd, F, He.glo_ok X G (c.fact 8 (f := .glo "_law_merge") rfl)⟩
    · obtain ⟨fd, F⟩ := c.def_ 9 (d := dD "_law_orders" st__law_orders) rfl; exact ⟨_, fd, F, He.glo_ok X G (c.fact 9 (f := .glo "_law_orders") rfl)⟩
    · obtain ⟨fd, F⟩ := c.def_ 10 (d := dD "_law_row" st__law_row) rfl; exact ⟨_, fd, F, He.glo_ok X G (c.fact 10 (f := .glo "_law_row") rfl)⟩
    · obtain ⟨fd, F⟩ := c.def_ 11 (d := dD "_law_shared" st__law_shared) rfl; exact ⟨_, fd, F, He.glo_ok X G (c.fact 11 (f := .glo "_law_shared") rfl)⟩
  have B : Bi mg := ⟨He.free_ok X G (c.fact 13 (f := .free "any") rfl), He.free_ok X G (c.fact 14 (f := .free "isinstance") rfl), He.free_ok X G (c.fact 15 (f := .free "len") rfl), He.free_ok X G (c.fact 16 (f := .free "list") rfl),
    He.free_ok X G (c.fact 17 (f := .free "min") rfl), He.free_ok X G (c.fact 18 (f := .free "range") rfl), He.free_ok X G (c.fact 19 (f := .free "sorted") rfl), He.free_ok X G (c.fact 20 (f := .free "str") rfl), He.free_ok X G (c.fact 21 (f := .free "sum") rfl), He.free_ok X G (c.fact 22 (f := .free "tuple") rfl)⟩
  obtain ⟨fd, F⟩ := c.def_ 12 (d := dD "law" st_law) rfl
  have e := hfa.symm.trans (He.glo_ok X G (c.fact 12 (f := .glo "law") rfl))
  cases e
  have b := FunD.bindsA (ps := ["_law_script"]) F fun _ _ _ _ _ _ us hl => match us, hl with | [_], _ => rfl
  exact ⟨fd, fun s v => b s [v] rfl, fun base _ _ => ok_law D B F⟩
end K05
open PySem PySem.W PySem.Calls PyProof.Rows
theorem PySem.Challenge.cw_classforge_k05_common_names_holds : PySem.Challenge.rw_classforge_k05_common_names.Holds := by
  w_on; o_law
  refine HandSHeadRun.head_any (r := OpenLaw.row PySem.Challenge.rw_classforge_k05_common_names) (q := view (OpenLaw.row PySem.Challenge.rw_classforge_k05_common_names).prog [17]) (H := K05.hk) (ob := K05.ob) (M := 4000) (loose := K05.loose) (d := HandSHeadRun.topDef (OpenLaw.row PySem.Challenge.rw_classforge_k05_common_names).prog 17) (kwd := []) K05.ob_eq
    (by kernel_rfl) (fun s => by kernel_rfl) K05.run (by kernel_rfl) (by kernel_rfl) (by kernel_rfl) (by rfl) (by first | assumption | decide +kernel) (by decide +kernel) ⟨rfl, rfl, rfl, rfl, rfl, by decide +kernel⟩ ?hw ?hc
  case hw => w_witness2
  case hc =>
    refine L2.walk_ofE (l := PySem.Challenge.rw_classforge_k05_common_names) (n := 63) (k := 6) (x := "_law_script") (CX := L2.CX0) rfl (by decide) (by kernel_rfl) ⟨rfl, by decide, by decide⟩ ?F (fun _ _ _ _ z => z)
    intro w mg fa h Y G hmg0
    obtain ⟨K, KX, c⟩ := Y
    have hmg : mg ("law" : PySem.Str) = some (.ref fa) := by
      have e : (HandSHeadRun.topDef (OpenLaw.row PySem.Challenge.rw_classforge_k05_common_names).prog 17).name = ("law" : PySem.Str) := by kernel_rfl
      rw [← e]
      exact hmg0
    obtain ⟨fd, hb, hF⟩ := K05.facts (P := (PySem.Challenge.rw_classforge_k05_common_names).prog) (w := w) KX G hmg c
    exact ⟨K, fd, fun vs H Q _ => DL.liftSp K DL.sp_law vs H Q fun _ _ _ => False, KX, hb, fun H a ns hl _ hS => DL.law_at (sp := DL.sp_law) hS ⟨ns, rfl, hl, fun _ => rfl⟩, hF⟩
