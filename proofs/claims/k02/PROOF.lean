import PyProof.Rows.All
import Wide.All
import OpenK.AllK
import Wide.FinOn
import HandS.ForMost
import HandS.Deep
import HandS.Exc
import HandS.CallSlots
import HandS.WordsExc
import HandS.TupAny
import HandS.Strs
import HandS.SortInts
import HandS.Wide
import HandS.Conv
import KE.DataEq
import KE.DataCmp
import KE.DataFind
import HandS.Walk
import KE.GoesMore
import KE.GoesEnum
import HandS.Comp
import HandS.EndBits
import PySem.Challenge.RW_choicehall_k02_all_orders_and_sets
set_option Elab.async false
set_option linter.all false
set_option maxRecDepth 100000
/-! J: pure values, a pure heap, and what the model's values have to do with them. -/
namespace J
open PySem PySem.Spec PyProof.Rows L2

inductive PV where
  | non
  | bl (b : Bool)
  | int (i : Int)
  | str (x : Str)
  | tup (xs : List PV)
  | kt (xs : List PV)
  | lst (xs : List PV)
  | dic (ks vs : List PV)
  | loc (n : Nat)

inductive PO where
  | lst (xs : List PV)
  | dic (ks vs : List PV)
  | ins (c : Str) (fs : List (Str × PV))

abbrev PH := List PO
abbrev En := List (Option PV)

structure Ex where
  cls : Str
  arg : Option PV

inductive R (α : Type) where
  | ok (a : α) (h : PH)
  | exc (e : Ex) (h : PH)
  | bad

def R.bind {α β : Type} : R α → (α → PH → R β) → R β
  | .ok a h, k => k a h
  | .exc e h, _ => .exc e h
  | .bad, _ => .bad
@[simp] theorem R.bind_ok {α β : Type} (a : α) (h : PH) (k : α → PH → R β) : (R.ok a h).bind k = k a h := rfl
@[simp] theorem R.bind_exc {α β : Type} (e : Ex) (h : PH) (k : α → PH → R β) : (R.exc e h : R α).bind k = .exc e h := rfl
@[simp] theorem R.bind_bad {α β : Type} (k : α → PH → R β) : (R.bad : R α).bind k = .bad := rfl
def R.of {α : Type} (h : PH) : Option α → R α
  | some a => .ok a h
  | none => .bad
@[simp] theorem R.of_some {α : Type} (h : PH) (a : α) : R.of h (some a) = .ok a h := rfl
@[simp] theorem R.of_none {α : Type} (h : PH) : R.of h (none : Option α) = .bad := rfl

abbrev SE := En → PH → R PV
abbrev SB := En → PH → R Bool
abbrev SA := En → PH → R (List PV)

/-- the global part: the written objects, the tables of code objects, the module's names -/
structure Gc where
  K : PySem.W.Frag
  T : List Addr
  mg : Str → Option Value

def keyOf : PV → Option Key
  | .int i => some (.inl i)
  | .str x => some (.inr x)
  | _ => none
def keysOf : List PV → Option (List Key)
  | [] => some []
  | x :: xs => match keyOf x, keysOf xs with
    | some k, some ks => some (k :: ks)
    | _, _ => none
def tkeyOf : PV → Option (List Key)
  | .kt xs => keysOf xs
  | _ => none

/-- a dict stands at a: keys ks, values us -/
def DK (H : Hp) (a : Addr) (ks : List PV) (us : List V) : Prop :=
  (∃ kvs : List (Key × V), Rd H a (.dK kvs) ∧ kvs.length ≤ sizeLine ∧ (kvs.map (·.1)).Nodup ∧ ks.map keyOf = kvs.map (fun p => some p.1) ∧ us = kvs.map (·.2)) ∨
  (∃ kvs : List (List Key × V), Rd H a (.dT kvs) ∧ kvs.length ≤ sizeLine ∧ (kvs.map (·.1)).Nodup ∧ ks.map tkeyOf = kvs.map (fun p => some p.1) ∧ us = kvs.map (·.2))

/-- the addresses of the mutable objects by their numbers; objects that nobody reads now -/
structure Gh where
  L : List Addr
  Z : List Addr
instance : Membership Addr Gh := ⟨fun M a => a ∈ M.L ∨ a ∈ M.Z⟩
theorem Gh.mem_iff {M : Gh} {a : Addr} : a ∈ M ↔ a ∈ M.L ∨ a ∈ M.Z := Iff.rfl
def Gh.add (M : Gh) (a : Addr) : Gh := ⟨M.L ++ [a], M.Z⟩
def Gh.hide (M : Gh) (a : Addr) : Gh := ⟨M.L, a :: M.Z⟩
/-- a tuple, a list to be read: tracked and none of the mutable ones, or written -/
def SqT1 (K : PySem.W.Frag) (M : Gh) (H : Hp) (a : Addr) (xs : List V) : Prop :=
  (a ∉ M ∧ ∃ o : Obj, o.dict = none ∧ H a = some (.frz o (.tup xs))) ∨
    ∃ (o : Obj) (its : Array Value) (n : Nat), K.lookup a = some o ∧ o.cls = .type "tuple" ∧ o.dict = none ∧ o.data = .seq its n ∧ its.size ≤ sizeLine ∧ Vals xs its.toList
def SqL1 (K : PySem.W.Frag) (M : Gh) (H : Hp) (a : Addr) (xs : List V) : Prop :=
  (a ∉ M ∧ Rd H a (.lst xs)) ∨
    ∃ (o : Obj) (its : Array Value) (n : Nat), K.lookup a = some o ∧ o.cls = .type "list" ∧ o.dict = none ∧ o.data = .seq its n ∧ its.size ≤ sizeLine ∧ Vals xs its.toList
theorem SqT1.sq {K : PySem.W.Frag} {M : Gh} {H : Hp} {a : Addr} {xs : List V} (h : SqT1 K M H a xs) : SqT K H a xs := by
  rcases h with ⟨_, o, _, h⟩ | ⟨o, its, n, h1, h2, _, h⟩
  · exact .inl (.inr ⟨o, h⟩)
  · exact .inr ⟨o, its, n, h1, h2, h⟩
theorem SqL1.sq {K : PySem.W.Frag} {M : Gh} {H : Hp} {a : Addr} {xs : List V} (h : SqL1 K M H a xs) : SqL K H a xs := h.imp And.right id

section
variable (G : Gc) (M : Gh) (H : Hp)
mutual
def Rep : V → PV → Prop
  | u, .non => u = .non
  | u, .bl b => u = .bl b
  | u, .int i => u = .int i
  | u, .str x => u = .str x
  | u, .tup ps => ∃ a xs, u = .ref a ∧ SqT1 G.K M H a xs ∧ xs.length ≤ sizeLine ∧ Reps xs ps
  | u, .kt ps => ∃ a xs, u = .ref a ∧ a ∉ M ∧ Rd H a (.tup xs) ∧ xs.length ≤ sizeLine ∧ Reps xs ps
  | u, .lst ps => ∃ a xs, u = .ref a ∧ SqL1 G.K M H a xs ∧ xs.length ≤ sizeLine ∧ Reps xs ps
  | u, .dic ks vs => ∃ a us, u = .ref a ∧ a ∉ M ∧ DK H a ks us ∧ Reps us vs
  | u, .loc n => ∃ a, u = .ref a ∧ M.L[n]? = some a
def Reps : List V → List PV → Prop
  | [], [] => True
  | u :: us, p :: ps => Rep u p ∧ Reps us ps
  | [], _ :: _ => False
  | _ :: _, [] => False
end

def ORep (a : Addr) : PO → Prop
  | .lst xs => ∃ us, H a = some (.lst us) ∧ us.length ≤ sizeLine ∧ Reps G M H us xs
  | .dic ks vs => ∃ us, DK H a ks us ∧ (∀ o u, H a ≠ some (.frz o u)) ∧ Reps G M H us vs
  | .ins c fs => ∃ C dx ufs, H a = some (.ins C dx ufs) ∧ H dx = some (.own a) ∧ dx ∉ M ∧ G.mg c = some (.ref C) ∧ ufs.map (·.1) = fs.map (·.1) ∧ Reps G M H (ufs.map (·.2)) (fs.map (·.2))

structure HRel (h : PH) : Prop where
  nd : M.L.Nodup
  apart : ∀ a ∈ M.L, a ∉ M.Z
  len : M.L.length = h.length
  hid : ∀ a ∈ M.Z, H a ≠ none
  obj : ∀ (n : Nat) (o : PO), h[n]? = some o → ∃ a, M.L[n]? = some a ∧ ORep G M H a o
  tab : ∀ P ∈ G.T, ∃ ps : Array Value, H P = some (.tbl ps) ∧ TriplesOk ps.toList

def ERel (ρ : En) (σ : L2.St) : Prop := ρ.length = σ.length ∧ ∀ (i : Nat) (v : PV), ρ[i]? = some (some v) → ∃ u, σ[i]? = some (some u) ∧ Rep G M H u v

def XRep (e : Ex) (cls : Value) (d : Option Addr) : Prop :=
  (G.mg e.cls = some cls ∨ (G.mg e.cls = none ∧ bootBuiltins e.cls = some cls)) ∧
  ∀ v, e.arg = some v → ∃ da f u, d = some da ∧ H da = some (.xd [(f, u)]) ∧ Rep G M H u v
end

structure Ext (M : Gh) (H : Hp) (M' : Gh) (H' : Hp) : Prop where
  pre : ∃ L, M' = ⟨M.L ++ L, M.Z⟩ ∧ ∀ a ∈ L, H a = none
  keep : ∀ a o, H a = some o → a ∉ M.L → (∀ ps, o ≠ .tbl ps) → H' a = some o
  dom : ∀ a, H a ≠ none → H' a ≠ none

theorem Ext.refl (M : Gh) (H : Hp) : Ext M H M H := ⟨⟨[], by simp, by simp⟩, fun _ _ h _ _ => h, fun _ h => h⟩
theorem Gh.notin_app {M : Gh} {L : List Addr} {a : Addr} (n : a ∉ M) (nl : a ∉ L) : a ∉ (⟨M.L ++ L, M.Z⟩ : Gh) := fun z => by
  rcases z with z | z
  · rcases List.mem_append.mp z with z | z
    · exact n (.inl z)
    · exact nl z
  · exact n (.inr z)
theorem Ext.trans {M M1 M2 : Gh} {H H1 H2 : Hp} (x : Ext M H M1 H1) (y : Ext M1 H1 M2 H2) : Ext M H M2 H2 := by
  obtain ⟨L, rfl, hL⟩ := x.pre
  obtain ⟨L2, rfl, hL2⟩ := y.pre
  refine ⟨⟨L ++ L2, by simp, fun a ha => ?_⟩, fun a o h n t => ?_, fun a h => y.dom a (x.dom a h)⟩
  · rcases List.mem_append.mp ha with h | h
    · exact hL a h
    · cases q : H a with
      | none => rfl
      | some o => exact absurd (hL2 a h) (x.dom a (by rw [q]; simp))
  · refine y.keep a o (x.keep a o h n t) (fun z => ?_) t
    rcases List.mem_append.mp z with z | z
    · exact n z
    · rw [hL a z] at h; cases h
theorem Ext.notin {M M' : Gh} {H H' : Hp} (x : Ext M H M' H') {a : Addr} (h : H a ≠ none) (n : a ∉ M) : a ∉ M' := by
  obtain ⟨L, rfl, hL⟩ := x.pre
  exact Gh.notin_app n fun z => h (hL a z)
theorem Ext.rd {M M' : Gh} {H H' : Hp} (x : Ext M H M' H') {a : Addr} {u : HO} (n : a ∉ M) (t : ∀ ps, u ≠ .tbl ps) (h : Rd H a u) : Rd H' a u := by
  rcases h with h | ⟨o, h⟩
  · exact .inl (x.keep a u h (fun z => n (.inl z)) t)
  · exact .inr ⟨o, x.keep a _ h (fun z => n (.inl z)) (fun ps z => by cases z)⟩
theorem Rd.some {H : Hp} {a : Addr} {u : HO} (h : Rd H a u) : H a ≠ none := by
  rcases h with h | ⟨o, h⟩ <;> (rw [h]; simp)
theorem Ext.sqT {K : PySem.W.Frag} {M M' : Gh} {H H' : Hp} (x : Ext M H M' H') {a : Addr} {xs : List V} (h : SqT1 K M H a xs) : SqT1 K M' H' a xs := by
  rcases h with ⟨n, o, d, h⟩ | h
  · exact .inl ⟨x.notin (by rw [h]; simp) n, o, d, x.keep a _ h (fun z => n (.inl z)) (fun ps z => by cases z)⟩
  · exact .inr h
theorem Ext.sqL {K : PySem.W.Frag} {M M' : Gh} {H H' : Hp} (x : Ext M H M' H') {a : Addr} {xs : List V} (h : SqL1 K M H a xs) : SqL1 K M' H' a xs := by
  rcases h with ⟨n, h⟩ | h
  · exact .inl ⟨x.notin (Rd.some h) n, x.rd n (fun ps z => by cases z) h⟩
  · exact .inr h
theorem Ext.dk {M M' : Gh} {H H' : Hp} (x : Ext M H M' H') {a : Addr} {ks : List PV} {us : List V} (n : a ∉ M) (h : DK H a ks us) : DK H' a ks us := by
  rcases h with ⟨kvs, h, r⟩ | ⟨kvs, h, r⟩
  · exact .inl ⟨kvs, x.rd n (fun ps z => by cases z) h, r⟩
  · exact .inr ⟨kvs, x.rd n (fun ps z => by cases z) h, r⟩
theorem DK.some {H : Hp} {a : Addr} {ks : List PV} {us : List V} (h : DK H a ks us) : H a ≠ none := by
  rcases h with ⟨kvs, h, r⟩ | ⟨kvs, h, r⟩ <;> exact Rd.some h
section
variable {G : Gc} {M M' : Gh} {H H' : Hp}
/-- what may be read before may be read behind -/
structure Tr (M : Gh) (H : Hp) (M' : Gh) (H' : Hp) : Prop where
  pre : ∃ L, M'.L = M.L ++ L
  keep : ∀ a o, H a = some o → a ∉ M → (∀ ps, o ≠ .tbl ps) → H' a = some o ∧ a ∉ M'
theorem Ext.tr (x : Ext M H M' H') : Tr M H M' H' := by
  refine ⟨?_, fun a o h n t => ⟨x.keep a o h (fun z => n (.inl z)) t, x.notin (by rw [h]; simp) n⟩⟩
  obtain ⟨L, rfl, _⟩ := x.pre
  exact ⟨L, rfl⟩
theorem Tr.trans {M2 : Gh} {H2 : Hp} (x : Tr M H M' H') (y : Tr M' H' M2 H2) : Tr M H M2 H2 := by
  obtain ⟨L, e⟩ := x.pre
  obtain ⟨L2, e2⟩ := y.pre
  refine ⟨⟨L ++ L2, by rw [e2, e, List.append_assoc]⟩, fun a o h n t => ?_⟩
  obtain ⟨h1, n1⟩ := x.keep a o h n t
  exact y.keep a o h1 n1 t
theorem Tr.rd (x : Tr M H M' H') {a : Addr} {u : HO} (n : a ∉ M) (t : ∀ ps, u ≠ .tbl ps) (h : Rd H a u) : Rd H' a u ∧ a ∉ M' := by
  rcases h with h | ⟨o, h⟩
  · exact ⟨.inl (x.keep a u h n t).1, (x.keep a u h n t).2⟩
  · exact ⟨.inr ⟨o, (x.keep a _ h n (fun ps z => by cases z)).1⟩, (x.keep a _ h n (fun ps z => by cases z)).2⟩
theorem Tr.sqT (x : Tr M H M' H') {K : PySem.W.Frag} {a : Addr} {xs : List V} (h : SqT1 K M H a xs) : SqT1 K M' H' a xs := by
  rcases h with ⟨n, o, d, h⟩ | h
  · have q := x.keep a _ h n (fun ps z => by cases z)
    exact .inl ⟨q.2, o, d, q.1⟩
  · exact .inr h
theorem Tr.sqL (x : Tr M H M' H') {K : PySem.W.Frag} {a : Addr} {xs : List V} (h : SqL1 K M H a xs) : SqL1 K M' H' a xs := by
  rcases h with ⟨n, h⟩ | h
  · have q := x.rd n (fun ps z => by cases z) h
    exact .inl ⟨q.2, q.1⟩
  · exact .inr h
theorem Tr.dk (x : Tr M H M' H') {a : Addr} {ks : List PV} {us : List V} (n : a ∉ M) (h : DK H a ks us) : DK H' a ks us ∧ a ∉ M' := by
  rcases h with ⟨kvs, h, r⟩ | ⟨kvs, h, r⟩
  · exact ⟨.inl ⟨kvs, (x.rd n (fun ps z => by cases z) h).1, r⟩, (x.rd n (fun ps z => by cases z) h).2⟩
  · exact ⟨.inr ⟨kvs, (x.rd n (fun ps z => by cases z) h).1, r⟩, (x.rd n (fun ps z => by cases z) h).2⟩
mutual
theorem Rep.tr (x : Tr M H M' H') : ∀ (v : PV) (u : V), Rep G M H u v → Rep G M' H' u v
  | .non, _, h => h
  | .bl _, _, h => h
  | .int _, _, h => h
  | .str _, _, h => h
  | .tup ps, u, h => by
    obtain ⟨a, xs, e, s, z, r⟩ := h
    exact ⟨a, xs, e, x.sqT s, z, Reps.tr x ps xs r⟩
  | .lst ps, u, h => by
    obtain ⟨a, xs, e, s, z, r⟩ := h
    exact ⟨a, xs, e, x.sqL s, z, Reps.tr x ps xs r⟩
  | .kt ps, u, h => by
    obtain ⟨a, xs, e, n, s, z, r⟩ := h
    have q := x.rd n (fun ps z => by cases z) s
    exact ⟨a, xs, e, q.2, q.1, z, Reps.tr x ps xs r⟩
  | .dic ks vs, u, h => by
    obtain ⟨a, us, e, n, s, r⟩ := h
    exact ⟨a, us, e, (x.dk n s).2, (x.dk n s).1, Reps.tr x vs us r⟩
  | .loc n, u, h => by
    obtain ⟨a, e, s⟩ := h
    obtain ⟨L, hL⟩ := x.pre
    refine ⟨a, e, ?_⟩
    rw [hL, List.getElem?_append_left (List.getElem?_eq_some_iff.mp s).1]
    exact s
theorem Reps.tr (x : Tr M H M' H') : ∀ (vs : List PV) (us : List V), Reps G M H us vs → Reps G M' H' us vs
  | [], [], _ => trivial
  | [], _ :: _, h => h
  | _ :: _, [], h => h
  | v :: vs, u :: us, h => ⟨Rep.tr x v u h.1, Reps.tr x vs us h.2⟩
end
theorem Rep.ext (x : Ext M H M' H') (v : PV) (u : V) (h : Rep G M H u v) : Rep G M' H' u v := Rep.tr x.tr v u h
theorem Reps.ext (x : Ext M H M' H') (v : List PV) (u : List V) (h : Reps G M H u v) : Reps G M' H' u v := Reps.tr x.tr v u h
theorem Reps.length : ∀ {vs : List PV} {us : List V}, Reps G M H us vs → us.length = vs.length
  | [], [], _ => rfl
  | [], _ :: _, h => h.elim
  | _ :: _, [], h => h.elim
  | v :: vs, u :: us, h => by rw [List.length_cons, List.length_cons, Reps.length h.2]
theorem Reps.get : ∀ {vs : List PV} {us : List V} {i : Nat} {v : PV}, Reps G M H us vs → vs[i]? = some v → ∃ u, us[i]? = some u ∧ Rep G M H u v
  | [], _, _, _, _, e => by simp at e
  | _ :: _, [], _, _, h, _ => h.elim
  | v :: vs, u :: us, 0, _, h, e => by
    simp at e; subst e
    exact ⟨u, rfl, h.1⟩
  | v :: vs, u :: us, i + 1, w, h, e => by
    obtain ⟨u', h1, h2⟩ := Reps.get (i := i) h.2 (by simpa using e)
    exact ⟨u', by simpa using h1, h2⟩
theorem Reps.get' : ∀ {vs : List PV} {us : List V} {i : Nat} {u : V}, Reps G M H us vs → us[i]? = some u → ∃ v, vs[i]? = some v ∧ Rep G M H u v := fun {vs us i u} r e => by
  have hl := r.length
  have hi := (List.getElem?_eq_some_iff.mp e).1
  obtain ⟨u', h1, h2⟩ := r.get (i := i) (List.getElem?_eq_getElem (show i < vs.length by omega))
  rw [e] at h1; cases h1
  exact ⟨_, List.getElem?_eq_getElem _, h2⟩
theorem Reps.append : ∀ {vs : List PV} {us : List V} {vs' : List PV} {us' : List V}, Reps G M H us vs → Reps G M H us' vs' → Reps G M H (us ++ us') (vs ++ vs')
  | [], [], _, _, _, h => h
  | [], _ :: _, _, _, h, _ => h.elim
  | _ :: _, [], _, _, h, _ => h.elim
  | v :: vs, u :: us, _, _, h, h' => ⟨h.1, Reps.append h.2 h'⟩
theorem Reps.take : ∀ {vs : List PV} {us : List V} (n : Nat), Reps G M H us vs → Reps G M H (us.take n) (vs.take n)
  | _, _, 0, _ => trivial
  | [], [], _ + 1, _ => trivial
  | [], _ :: _, _ + 1, h => h.elim
  | _ :: _, [], _ + 1, h => h.elim
  | v :: vs, u :: us, n + 1, h => ⟨h.1, Reps.take n h.2⟩
theorem Reps.drop : ∀ {vs : List PV} {us : List V} (n : Nat), Reps G M H us vs → Reps G M H (us.drop n) (vs.drop n)
  | _, _, 0, h => h
  | [], [], _ + 1, _ => trivial
  | [], _ :: _, _ + 1, h => h.elim
  | _ :: _, [], _ + 1, h => h.elim
  | v :: vs, u :: us, n + 1, h => Reps.drop n h.2
theorem Reps.set {v : PV} {u : V} (r : Rep G M H u v) : ∀ {vs : List PV} {us : List V} (n : Nat), Reps G M H us vs → Reps G M H (us.set n u) (vs.set n v)
  | [], [], _, _ => trivial
  | [], _ :: _, _, h => h.elim
  | _ :: _, [], _, h => h.elim
  | _ :: vs, _ :: us, 0, h => ⟨r, h.2⟩
  | _ :: vs, _ :: us, n + 1, h => ⟨h.1, Reps.set r n h.2⟩
theorem Reps.snoc {v : PV} {u : V} {vs : List PV} {us : List V} (h : Reps G M H us vs) (r : Rep G M H u v) : Reps G M H (us ++ [u]) (vs ++ [v]) := h.append ⟨r, trivial⟩
theorem Reps.reverse : ∀ {vs : List PV} {us : List V}, Reps G M H us vs → Reps G M H us.reverse vs.reverse
  | [], [], _ => trivial
  | [], _ :: _, h => h.elim
  | _ :: _, [], h => h.elim
  | v :: vs, u :: us, h => by
    rw [List.reverse_cons, List.reverse_cons]
    exact (Reps.reverse h.2).snoc h.1
theorem Reps.of_get : ∀ {vs : List PV} {us : List V}, us.length = vs.length → (∀ (i : Nat) u v, us[i]? = some u → vs[i]? = some v → Rep G M H u v) → Reps G M H us vs
  | [], [], _, _ => trivial
  | [], _ :: _, h, _ => by simp at h
  | _ :: _, [], h, _ => by simp at h
  | v :: vs, u :: us, h, f => ⟨f 0 u v rfl rfl, Reps.of_get (by simpa using h) fun i u v a b => f (i + 1) u v (by simpa using a) (by simpa using b)⟩

theorem ERel.ext {ρ : En} {σ : L2.St} (x : Ext M H M' H') (h : ERel G M H ρ σ) : ERel G M' H' ρ σ := ⟨h.1, fun i v e => by
  obtain ⟨u, h1, h2⟩ := h.2 i v e
  exact ⟨u, h1, Rep.ext x v u h2⟩⟩
theorem ERel.tr {ρ : En} {σ : L2.St} (x : Tr M H M' H') (h : ERel G M H ρ σ) : ERel G M' H' ρ σ := ⟨h.1, fun i v e => by
  obtain ⟨u, h1, h2⟩ := h.2 i v e
  exact ⟨u, h1, Rep.tr x v u h2⟩⟩
theorem ERel.set {ρ : En} {σ : L2.St} (h : ERel G M H ρ σ) {i : Nat} {u : V} {v : PV} (r : Rep G M H u v) : ERel G M H (ρ.set i (some v)) (σ.set i (some u)) := ⟨by simpa using h.1, fun j w e => by
  by_cases hj : i = j
  · subst hj
    by_cases hi : i < ρ.length
    · rw [List.getElem?_set_self hi] at e
      cases e
      exact ⟨u, List.getElem?_set_self (by rw [← h.1]; exact hi), r⟩
    · rw [List.getElem?_eq_none (by simpa using hi)] at e; cases e
  · rw [List.getElem?_set_ne hj] at e
    obtain ⟨u', h1, h2⟩ := h.2 j w e
    exact ⟨u', by rw [List.getElem?_set_ne hj]; exact h1, h2⟩⟩
theorem HRel.liveL {h : PH} (r : HRel G M H h) {a : Addr} (ha : a ∈ M.L) : H a ≠ none := by
  obtain ⟨n, hn, rfl⟩ := List.getElem_of_mem ha
  have hlen := r.len
  obtain ⟨b, hb, o⟩ := r.obj n h[n] (List.getElem?_eq_getElem (by omega))
  rw [List.getElem?_eq_getElem hn] at hb
  cases hb
  revert o
  cases h[n] with
  | lst xs => rintro ⟨us, e, _⟩; rw [e]; simp
  | dic ks vs => rintro ⟨us, e, _⟩; exact DK.some e
  | ins c fs => rintro ⟨C, dx, ufs, e, _⟩; rw [e]; simp
theorem HRel.live {h : PH} (r : HRel G M H h) {a : Addr} (ha : a ∈ M) : H a ≠ none := by
  rcases ha with ha | ha
  · exact r.liveL ha
  · exact r.hid a ha
theorem HRel.fresh {h : PH} (r : HRel G M H h) {a : Addr} (ha : H a = none) : a ∉ M := fun z => r.live z ha
/-- an object kept in M at its place, the others as they were -/
theorem ORep.tr {a : Addr} {o : PO} (x : Tr M H M' H') (e : H' a = H a) (ed : ∀ dx, H dx = some (.own a) → dx ∉ M → H' dx = H dx) (h : ORep G M H a o) : ORep G M' H' a o := by
  cases o with
  | lst xs =>
    obtain ⟨us, e1, z, r⟩ := h
    exact ⟨us, by rw [e]; exact e1, z, Reps.tr x xs us r⟩
  | dic ks vs =>
    obtain ⟨us, d, nf, r⟩ := h
    refine ⟨us, ?_, by rw [e]; exact nf, Reps.tr x vs us r⟩
    rcases d with ⟨kvs, h, q⟩ | ⟨kvs, h, q⟩
    · exact .inl ⟨kvs, by unfold Rd; rw [e]; exact h, q⟩
    · exact .inr ⟨kvs, by unfold Rd; rw [e]; exact h, q⟩
  | ins c fs =>
    obtain ⟨C, dx, ufs, e1, e2, nm, r1, r2, r3⟩ := h
    exact ⟨C, dx, ufs, by rw [e]; exact e1, by rw [ed dx e2 nm]; exact e2, (x.keep dx _ e2 nm (fun ps z => by cases z)).2, r1, r2, Reps.tr x _ _ r3⟩
theorem ORep.ext {a : Addr} {o : PO} (x : Ext M H M' H') (e : H' a = H a) (ed : ∀ dx, H dx = some (.own a) → dx ∉ M → H' dx = H dx) (h : ORep G M H a o) : ORep G M' H' a o := ORep.tr x.tr e ed h
/-! ### an object that nobody reads -/
theorem Tr.hide {D : Addr} {o : HO} (hD : H D = none) : Tr M H (M.hide D) (upd H D o) :=
  ⟨⟨[], by simp [Gh.hide]⟩, fun a u h n t => ⟨by rw [upd_ne (ne_of_none h hD)]; exact h, fun z => by
    rcases z with z | z
    · exact n (.inl z)
    · rcases List.mem_cons.mp z with z | z
      · exact ne_of_none h hD z
      · exact n (.inr z)⟩⟩
theorem Gh.of_hide {D a : Addr} (n : a ∉ M.hide D) : a ∉ M ∧ a ≠ D := ⟨fun z => n (z.imp id (List.mem_cons_of_mem _)), fun z => n (.inr (by rw [z]; exact List.mem_cons_self))⟩
theorem Tr.unhide {D : Addr} : Tr (M.hide D) H M H := ⟨⟨[], by simp [Gh.hide]⟩, fun a u h n t => ⟨h, (Gh.of_hide n).1⟩⟩
/-- a new object that no loc stands for -/
theorem Ext.new {h : PH} (r : HRel G M H h) {p : Addr} {o : HO} (hp : H p = none) : Ext M H M (upd H p o) :=
  ⟨⟨[], by simp, by simp⟩, fun a u e n t => by rw [upd_ne (ne_of_none e hp)]; exact e, fun a e => by
    by_cases z : a = p
    · rw [z, hp] at e; exact absurd rfl e
    · rw [upd_ne z]; exact e⟩
theorem HRel.new {h : PH} (r : HRel G M H h) {p : Addr} {o : HO} (hp : H p = none) : HRel G M (upd H p o) h where
  nd := r.nd
  apart := r.apart
  len := r.len
  hid := fun a ha => (Ext.new r hp).dom a (r.hid a ha)
  obj := fun n ob e => by
    obtain ⟨a, h1, h2⟩ := r.obj n ob e
    refine ⟨a, h1, h2.ext (Ext.new r hp) (upd_ne fun z => ?_) fun dx q _ => upd_ne (ne_of_none q hp)⟩
    exact r.liveL (List.mem_of_getElem? h1) (z ▸ hp)
  tab := fun P hP => by
    obtain ⟨ps, e, t⟩ := r.tab P hP
    exact ⟨ps, by rw [upd_ne (ne_of_none e hp)]; exact e, t⟩
theorem HRel.hide {h : PH} (r : HRel G M H h) {D : Addr} {o : HO} (hD : H D = none) : HRel G (M.hide D) (upd H D o) h where
  nd := r.nd
  apart := fun a ha z => by
    rcases List.mem_cons.mp z with z | z
    · exact r.liveL ha (z ▸ hD)
    · exact r.apart a ha z
  len := r.len
  hid := fun a ha => by
    rcases List.mem_cons.mp ha with z | z
    · rw [z, upd_same]; simp
    · exact (Ext.new r hD).dom a (r.hid a z)
  obj := fun n ob e => by
    obtain ⟨a, h1, h2⟩ := r.obj n ob e
    refine ⟨a, h1, h2.tr (Tr.hide hD) (upd_ne fun z => ?_) fun dx q _ => upd_ne (ne_of_none q hD)⟩
    exact r.liveL (List.mem_of_getElem? h1) (z ▸ hD)
  tab := fun P hP => by
    obtain ⟨ps, e, t⟩ := r.tab P hP
    exact ⟨ps, by rw [upd_ne (ne_of_none e hD)]; exact e, t⟩
theorem HRel.unhide {h : PH} {D : Addr} (r : HRel G (M.hide D) H h) : HRel G M H h where
  nd := r.nd
  apart := fun a ha z => r.apart a ha (List.mem_cons_of_mem _ z)
  len := r.len
  hid := fun a ha => r.hid a (List.mem_cons_of_mem _ ha)
  obj := fun n ob e => by
    obtain ⟨a, h1, h2⟩ := r.obj n ob e
    exact ⟨a, h1, h2.tr Tr.unhide rfl fun dx q _ => rfl⟩
  tab := r.tab
/-- the hidden object changes -/
theorem Tr.hid {D : Addr} {o : HO} : Tr (M.hide D) H (M.hide D) (upd H D o) :=
  ⟨⟨[], by simp⟩, fun a u e n t => ⟨by rw [upd_ne (Gh.of_hide n).2]; exact e, n⟩⟩
theorem HRel.hidW {h : PH} {D : Addr} (r : HRel G (M.hide D) H h) {o : HO} (nt : ∀ ps, H D ≠ some (.tbl ps)) (nd : ∀ b, H D ≠ some (.own b)) : HRel G (M.hide D) (upd H D o) h where
  nd := r.nd
  apart := r.apart
  len := r.len
  hid := fun a ha => by
    by_cases z : a = D
    · rw [z, upd_same]; simp
    · rw [upd_ne z]; exact r.hid a ha
  obj := fun n ob e => by
    obtain ⟨a, h1, h2⟩ := r.obj n ob e
    refine ⟨a, h1, h2.tr Tr.hid (upd_ne fun z => ?_) fun dx q _ => upd_ne fun z => nd a (z ▸ q)⟩
    exact r.apart a (List.mem_of_getElem? h1) (by rw [z]; exact List.mem_cons_self)
  tab := fun P hP => by
    obtain ⟨ps, e, t⟩ := r.tab P hP
    exact ⟨ps, (upd_ne (show P ≠ D from fun z => nt ps (z ▸ e))).trans e, t⟩
end
end J

/-! J: the judgements; names, constants, operators, tests, calls of built-ins by values. -/
namespace J
open PySem PySem.Spec PyProof.Rows L2

/-- what is wanted behind a pure result -/
def Out {α β : Type} (G : Gc) (W : WX) (σ : L2.St) (Rp : Gh → Hp → β → α → Prop) (M : Gh) (H : Hp) (r : R α) (Q : β → Hp → Prop) : Prop :=
  match r with
  | .ok a h' => ∀ b M' H', Ext M H M' H' → HRel G M' H' h' → Rp M' H' b a → Q b H'
  | .exc e h' => ∀ cls d M' H', Ext M H M' H' → HRel G M' H' h' → XRep G M' H' e cls d → W cls d σ H'
  | .bad => False
section
variable {α β α' β' : Type} {G : Gc} {W : WX} {σ : L2.St} {Rp : Gh → Hp → β → α → Prop} {Rp' : Gh → Hp → β' → α' → Prop} {M M1 : Gh} {H H1 : Hp}
theorem Out.ext {r : R α} {Q : β → Hp → Prop} (x : Ext M H M1 H1) (o : Out G W σ Rp M H r Q) : Out G W σ Rp M1 H1 r Q := by
  cases r with
  | ok a h => exact fun b M' H' y => o b M' H' (x.trans y)
  | exc e h => exact fun cls d M' H' y => o cls d M' H' (x.trans y)
  | bad => exact o
theorem Out.mono {r : R α} {Q Q' : β → Hp → Prop} (o : Out G W σ Rp M H r Q) (q : ∀ b H, Q b H → Q' b H) : Out G W σ Rp M H r Q' := by
  cases r with
  | ok a h => exact fun b M' H' x r p => q b H' (o b M' H' x r p)
  | exc e h => exact o
  | bad => exact o
theorem Out.bind {r : R α} {k : α → PH → R α'} {Q : β' → Hp → Prop} (o : Out G W σ Rp' M H (r.bind k) Q) :
    Out G W σ Rp M H r (fun b H1 => ∃ M1 h1 a, Ext M H M1 H1 ∧ HRel G M1 H1 h1 ∧ Rp M1 H1 b a ∧ Out G W σ Rp' M1 H1 (k a h1) Q) := by
  cases r with
  | ok a h => exact fun b M' H' x r p => ⟨M', h, a, x, r, p, Out.ext x o⟩
  | exc e h => exact o
  | bad => exact o
theorem Out.ret {a : α} {h : PH} {Q : β → Hp → Prop} {b : β} (o : Out G W σ Rp M H (.ok a h) Q) (r : HRel G M H h) (p : Rp M H b a) : Q b H := o b M H (Ext.refl M H) r p
end

/-- the state: heap and slots -/
def TF {α β : Type} (G : Gc) (W : WX) (Rp : Gh → Hp → β → α → Prop) (f : En → PH → R α) (σ : L2.St) (H : Hp) (Q : β → Hp → Prop) : Prop :=
  ∃ M ρ h, HRel G M H h ∧ ERel G M H ρ σ ∧ Out G W σ Rp M H (f ρ h) Q
abbrev TFE (G : Gc) (W : WX) (f : SE) : TE := TF G W (fun M H (u : V) (v : PV) => Rep G M H u v) f
abbrev TFB (G : Gc) (W : WX) (f : SB) : TT := TF G W (fun _ _ (u v : Bool) => u = v) f
abbrev TFA (G : Gc) (W : WX) (f : SA) : TA := TF G W (fun M H (u : List V) (v : List PV) => Reps G M H u v) f
abbrev JE (G : Gc) (X : Cx) (W : WX) (e : Expr) (f : SE) : Prop := PE X e (TFE G W f)
abbrev JT (G : Gc) (X : Cx) (W : WX) (e : Expr) (f : SB) : Prop := PT X e (TFB G W f)
abbrev JW (G : Gc) (X : Cx) (W : WX) (e : Expr) (f : SB) : Prop := PW X e (TFB G W f)
abbrev JAs (G : Gc) (X : Cx) (W : WX) (es : List Expr) (f : SA) : Prop := PA X es (TFA G W f)

theorem pe_imp {X : Cx} {e : Expr} {t t' : TE} (h : PE X e t) (i : ∀ σ H Q, t' σ H Q → t σ H Q) : PE X e t' := ⟨fun pins s σ H Q I q => h.run pins s σ H Q I (i σ H Q q)⟩
theorem pt_imp {X : Cx} {e : Expr} {t t' : TT} (h : PT X e t) (i : ∀ σ H Q, t' σ H Q → t σ H Q) : PT X e t' := ⟨fun pins s σ H Q I q => h.run pins s σ H Q I (i σ H Q q)⟩
theorem pw_imp {X : Cx} {e : Expr} {t t' : TT} (h : PW X e t) (i : ∀ σ H Q, t' σ H Q → t σ H Q) : PW X e t' := ⟨fun wh pins s σ H Q I q => h.run wh pins s σ H Q I (i σ H Q q)⟩
theorem pa_imp {X : Cx} {e : List Expr} {t t' : TA} (h : PA X e t) (i : ∀ σ H Q, t' σ H Q → t σ H Q) : PA X e t' := ⟨fun pos pins s σ H Q I q => h.run pos pins s σ H Q I (i σ H Q q)⟩

section
variable {α β α' β' : Type} {G : Gc} {W : WX} {σ : L2.St} {Rp : Gh → Hp → β → α → Prop} {Rp' : Gh → Hp → β' → α' → Prop} {H : Hp}
theorem TF.bind {f : En → PH → R α} {k : En → α → PH → R α'} {Q : β' → Hp → Prop} (t : TF G W Rp' (fun ρ h => (f ρ h).bind (k ρ)) σ H Q) :
    TF G W Rp f σ H (fun b H1 => ∃ M1 ρ h1 a, HRel G M1 H1 h1 ∧ ERel G M1 H1 ρ σ ∧ Rp M1 H1 b a ∧ Out G W σ Rp' M1 H1 (k ρ a h1) Q) := by
  obtain ⟨M, ρ, h, r, e, o⟩ := t
  refine ⟨M, ρ, h, r, e, (Out.bind (Rp := Rp) o).mono fun b H1 ⟨M1, h1, a, x, r1, p, o1⟩ => ⟨M1, ρ, h1, a, r1, e.ext x, p, o1⟩⟩
theorem TF.mono {f : En → PH → R α} {Q Q' : β → Hp → Prop} (t : TF G W Rp f σ H Q) (q : ∀ b H, Q b H → Q' b H) : TF G W Rp f σ H Q' := by
  obtain ⟨M, ρ, h, r, e, o⟩ := t
  exact ⟨M, ρ, h, r, e, o.mono q⟩
/-- two in a row -/
theorem TF.bind2 {α2 β2 : Type} {Rp2 : Gh → Hp → β2 → α2 → Prop} (mono : ∀ M H M' H' b a, Ext M H M' H' → Rp M H b a → Rp M' H' b a) {f : En → PH → R α} {g : En → PH → R α2} {k : α → α2 → PH → R α'} {Q : β' → Hp → Prop}
    (t : TF G W Rp' (fun ρ h => (f ρ h).bind fun x h1 => (g ρ h1).bind fun y h2 => k x y h2) σ H Q) :
    TF G W Rp f σ H (fun b H1 => TF G W Rp2 g σ H1 fun c H2 => ∃ M2 ρ h2 x y, HRel G M2 H2 h2 ∧ ERel G M2 H2 ρ σ ∧ Rp M2 H2 b x ∧ Rp2 M2 H2 c y ∧ Out G W σ Rp' M2 H2 (k x y h2) Q) := by
  obtain ⟨M, ρ, h, r, e, o⟩ := t
  refine ⟨M, ρ, h, r, e, (Out.bind (Rp := Rp) o).mono fun b H1 ⟨M1, h1, a, x, r1, p, o1⟩ => ⟨M1, ρ, h1, r1, e.ext x, (Out.bind (Rp := Rp2) o1).mono fun c H2 ⟨M2, h2, a2, x2, r2, p2, o2⟩ => ?_⟩⟩
  exact ⟨M2, ρ, h2, a, a2, r2, (e.ext x).ext x2, mono _ _ _ _ _ _ x2 p, p2, o2⟩
end

/-! ### names, constants -/
def vr (i : Nat) : SE := fun ρ h => match ρ[i]? with
  | some (some v) => .ok v h
  | _ => .bad
def cst (v : PV) : SE := fun _ h => .ok v h
section
variable {G : Gc} {X : Cx} {W : WX}
theorem je_var (i : Nat) {x : Str} {pos : Pos} (hN : X.N[i]? = some x := by rfl) (hv : Vis X.env.scope x := by first | exact Or.inl rfl | exact Or.inr (Or.inl rfl) | exact Or.inr (Or.inr rfl)) (hd : (x == ("__debug__" : Str)) = false := by decide)
    (hcd : (x == ("__classdict__" : Str)) = false := by decide) : JE G X W (.Name x pos) (vr i) := by
  refine pe_imp (pe_var hN hv hd hcd) fun σ H Q ⟨M, ρ, h, r, e, o⟩ => ?_
  revert o
  unfold vr
  cases q : ρ[i]? with
  | none => exact fun o => False.elim o
  | some w =>
    cases w with
    | none => exact fun o => False.elim o
    | some v =>
      intro o
      obtain ⟨u, h1, h2⟩ := e.2 i v q
      exact ⟨u, h1, Out.ret o r h2⟩
theorem je_cst {e : Expr} {u : V} {v : PV} (h : PE X e (tC u)) (p : ∀ M H, Rep G M H u v) : JE G X W e (cst v) := pe_imp h fun σ H Q ⟨M, ρ, h, r, e, o⟩ => Out.ret o r (p M H)
theorem je_int {i j pos} : JE G X W (.Constant (.int i) j pos) (cst (.int i)) := je_cst pe_int fun _ _ => rfl
theorem je_bl {i j pos} : JE G X W (.Constant (.bool i) j pos) (cst (.bl i)) := je_cst pe_bl fun _ _ => rfl
theorem je_non {j pos} : JE G X W (.Constant .none j pos) (cst .non) := je_cst pe_non fun _ _ => rfl
theorem je_str {x j pos} : JE G X W (.Constant (.str x) j pos) (cst (.str x)) := je_cst pe_str fun _ _ => rfl
end

/-! ### operators by values -/
/-- r (what HandS asks of the values) follows from the pure operation f -/
def OpJ (G : Gc) (r : R2) (f : PV → PV → PH → Option PV) : Prop :=
  ∀ M h H u v x y z Q, HRel G M H h → Rep G M H u x → Rep G M H v y → f x y h = some z → (∀ w H', Ext M H M H' → HRel G M H' h → Rep G M H' w z → Q w H') → r u v H Q
def bin2 (f : PV → PV → PH → Option PV) (fa fb : SE) : SE := fun ρ h => (fa ρ h).bind fun x h1 => (fb ρ h1).bind fun y h2 => R.of h2 (f x y h2)
section
variable {G : Gc} {X : Cx} {W : WX} {a b c : Expr} {fa fb fc : SE} {pos : Pos}
theorem rep_mono {G : Gc} : ∀ M H M' H' b a, Ext M H M' H' → Rep G M H b a → Rep G M' H' b a := fun M H M' H' b a x r => Rep.ext x a b r
theorem reps_mono {G : Gc} : ∀ M H M' H' b a, Ext M H M' H' → Reps G M H b a → Reps G M' H' b a := fun M H M' H' b a x r => Reps.ext x a b r
theorem bin2_t {r : R2} {f : PV → PV → PH → Option PV} (hj : OpJ G r f) {σ : L2.St} {H : Hp} {Q : VK} (t : TFE G W (bin2 f fa fb) σ H Q) : tOp r (TFE G W fa) (TFE G W fb) σ H Q := by
  refine (TF.bind2 (Rp := fun M H (u : V) (v : PV) => Rep G M H u v) (Rp2 := fun M H (u : V) (v : PV) => Rep G M H u v) rep_mono t).mono fun u H1 t1 => t1.mono fun v H2 ⟨M2, ρ, h2, x, y, r2, e2, p, q, o⟩ => ?_
  cases hf : f x y h2 with
  | none => rw [hf] at o; exact False.elim o
  | some z =>
    rw [hf] at o
    exact hj M2 h2 H2 u v x y z Q r2 p q hf fun w H' x' r' p' => o w M2 H' x' r' p'
theorem je_op {op : Operator} {r : R2} {f : PV → PV → PH → Option PV} (ho : OpR X (binaryOp op) r) (hj : OpJ G r f) (ha : JE G X W a fa) (hb : JE G X W b fb) : JE G X W (.BinOp a op b pos) (bin2 f fa fb) :=
  pe_imp (pe_op ho ha hb) fun _ _ _ t => bin2_t hj t
theorem je_cmp {op : CmpOp} {r : R2} {f : PV → PV → PH → Option PV} (ho : OpR X (compareOp op) r) (hj : OpJ G r f) (ha : JE G X W a fa) (hb : JE G X W b fb) (hm : behindInMarks op b = false) : JE G X W (.Compare a [op] [b] pos) (bin2 f fa fb) :=
  pe_imp (pe_cmpR ho ha hb hm) fun _ _ _ t => bin2_t hj t
theorem OpR.or {f : Value → Value → Sem Value} {r r' : R2} (h : OpR X f r) (h' : OpR X f r') : OpR X f (fun x y H Q => r x y H Q ∨ r' x y H Q) := by
  intro pins s σ H x y v u Q I rx ry q
  rcases q with q | q
  · exact h pins s σ H x y v u Q I rx ry q
  · exact h' pins s σ H x y v u Q I rx ry q
theorem je_ix {r : R2} {f : PV → PV → PH → Option PV} (hr : IxR X r) (hj : OpJ G r f) (ha : JE G X W a fa) (hb : JE G X W b fb) (hs : PlainIx b := by exact fun _ _ => rfl) : JE G X W (.Subscript a b pos) (bin2 f fa fb) :=
  pe_imp (pe_ix hr ha hb hs) fun _ _ _ t => bin2_t hj t

/-! ### tests -/
/-- a comparison's value as a test -/
def tst (f : SE) : SB := fun ρ h => (f ρ h).bind fun v h1 => match v with
  | .bl b => .ok b h1
  | _ => .bad
theorem tst_t {f : SE} {σ : L2.St} {H : Hp} {Q : Bool → Hp → Prop} (t : TFB G W (tst f) σ H Q) : tB (TFE G W f) σ H Q := by
  refine (TF.bind (Rp := fun M H (u : V) (v : PV) => Rep G M H u v) t).mono fun u H1 ⟨M1, ρ, h1, v, r1, e1, p, o⟩ => ?_
  cases v <;> first | exact False.elim o | skip
  rename_i b
  exact ⟨b, p, Out.ret o r1 rfl⟩
theorem jt_cmp {op : CmpOp} {r : R2} {f : PV → PV → PH → Option PV} (ho : OpR X (compareOp op) r) (hj : OpJ G r f) (ha : JE G X W a fa) (hb : JE G X W b fb) (hm : behindInMarks op b = false) : JT G X W (.Compare a [op] [b] pos) (tst (bin2 f fa fb)) := by
  refine pt_imp (pt_cmpR ho ha hb hm) fun σ H Q t => ?_
  have t2 := tst_t t
  exact bin2_t hj t2
/-- a value that is a bool, of an expression whose test is its value's truth -/
theorem jt_val {e : Expr} {f : SE} (h : JE G X W e f) (he : ∀ whole, isTrue e X.env whole = (do let v ← whole; standAt e.pos; holding [v] (truthy v)) := by intro _; rfl) : JT G X W e (tst f) :=
  pt_imp (pt_val h he) fun σ H Q t => tst_t t

def fnot (f : SB) : SB := fun ρ h => (f ρ h).bind fun b h1 => .ok (!b) h1
def fand (f g : SB) : SB := fun ρ h => (f ρ h).bind fun b h1 => if b then g ρ h1 else .ok false h1
def ffor (f g : SB) : SB := fun ρ h => (f ρ h).bind fun b h1 => if b then .ok true h1 else g ρ h1
theorem jt_not {f : SB} (h : JT G X W a f) : JT G X W (.UnaryOp .Not a pos) (fnot f) :=
  pt_imp (pt_not h) fun σ H Q t => (TF.bind (Rp := fun _ _ (u v : Bool) => u = v) t).mono fun b H1 ⟨M1, ρ, h1, v, r1, e1, p, o⟩ => Out.ret o r1 (by rw [p])
variable {rest : List Expr} {f g : SB}
theorem jw_and1 (h : JT G X W a f) : JW G X W (.BoolOp .And [a] pos) f := pw_and1 h
theorem jw_or1 (h : JT G X W a f) : JW G X W (.BoolOp .Or [a] pos) f := pw_or1 h
theorem jw_and (ha : JT G X W a f) (hb : JW G X W (.BoolOp .And (b :: rest) pos) g) : JW G X W (.BoolOp .And (a :: b :: rest) pos) (fand f g) := by
  refine pw_imp (pw_and ha hb) fun σ H Q t => (TF.bind (Rp := fun _ _ (u v : Bool) => u = v) t).mono fun c H1 ⟨M1, ρ, h1, v, r1, e1, p, o⟩ => ?_
  subst p
  cases c with
  | true => exact ⟨M1, ρ, h1, r1, e1, o⟩
  | false => exact Out.ret o r1 rfl
theorem jw_or (ha : JT G X W a f) (hb : JW G X W (.BoolOp .Or (b :: rest) pos) g) : JW G X W (.BoolOp .Or (a :: b :: rest) pos) (ffor f g) := by
  refine pw_imp (pw_or ha hb) fun σ H Q t => (TF.bind (Rp := fun _ _ (u v : Bool) => u = v) t).mono fun c H1 ⟨M1, ρ, h1, v, r1, e1, p, o⟩ => ?_
  subst p
  cases c with
  | false => exact ⟨M1, ρ, h1, r1, e1, o⟩
  | true => exact Out.ret o r1 rfl
/-- and, or, not as values; all parts bools -/
def vand (f g : SE) : SE := fun ρ h => (f ρ h).bind fun v h1 => match v with
  | .bl true => g ρ h1
  | .bl false => .ok (.bl false) h1
  | _ => .bad
def vor (f g : SE) : SE := fun ρ h => (f ρ h).bind fun v h1 => match v with
  | .bl true => .ok (.bl true) h1
  | .bl false => g ρ h1
  | _ => .bad
def vnot (f : SE) : SE := fun ρ h => (f ρ h).bind fun v h1 => match v with
  | .bl b => .ok (.bl (!b)) h1
  | _ => .bad
theorem je_one {op} {f : SE} (h : JE G X W a f) : JE G X W (.BoolOp op [a] pos) f := pe_one h
theorem je_and {f g : SE} (ha : JE G X W a f) (hb : JE G X W (.BoolOp .And (b :: rest) pos) g) : JE G X W (.BoolOp .And (a :: b :: rest) pos) (vand f g) := by
  refine pe_imp (pe_and ha hb) fun σ H Q t => (TF.bind (Rp := fun M H (u : V) (v : PV) => Rep G M H u v) t).mono fun u H1 ⟨M1, ρ, h1, v, r1, e1, p, o⟩ => ?_
  cases v <;> first | exact False.elim o | skip
  rename_i c
  cases c with
  | true => exact ⟨true, p, by rw [if_pos rfl]; exact ⟨M1, ρ, h1, r1, e1, o⟩⟩
  | false => exact ⟨false, p, by rw [if_neg Bool.false_ne_true]; exact Out.ret o r1 (show Rep G M1 H1 (.bl false) (.bl false) from rfl)⟩
theorem je_or {f g : SE} (ha : JE G X W a f) (hb : JE G X W (.BoolOp .Or (b :: rest) pos) g) : JE G X W (.BoolOp .Or (a :: b :: rest) pos) (vor f g) := by
  refine pe_imp (pe_or ha hb) fun σ H Q t => (TF.bind (Rp := fun M H (u : V) (v : PV) => Rep G M H u v) t).mono fun u H1 ⟨M1, ρ, h1, v, r1, e1, p, o⟩ => ?_
  cases v <;> first | exact False.elim o | skip
  rename_i c
  cases c with
  | true => exact ⟨true, p, by rw [if_pos rfl]; exact Out.ret o r1 (show Rep G M1 H1 (.bl true) (.bl true) from rfl)⟩
  | false => exact ⟨false, p, by rw [if_neg Bool.false_ne_true]; exact ⟨M1, ρ, h1, r1, e1, o⟩⟩
theorem je_not {f : SE} (ha : JE G X W a f) : JE G X W (.UnaryOp .Not a pos) (vnot f) := by
  refine pe_imp (pe_not ha) fun σ H Q t => (TF.bind (Rp := fun M H (u : V) (v : PV) => Rep G M H u v) t).mono fun u H1 ⟨M1, ρ, h1, v, r1, e1, p, o⟩ => ?_
  cases v <;> first | exact False.elim o | skip
  rename_i c
  exact ⟨c, p, Out.ret o r1 (show Rep G M1 H1 (.bl (!c)) (.bl (!c)) from rfl)⟩
def fite (c : SB) (f g : SE) : SE := fun ρ h => (c ρ h).bind fun b h1 => if b then f ρ h1 else g ρ h1
theorem je_ifExp {fc : SB} {f g : SE} (hc : JT G X W c fc) (ha : JE G X W a f) (hb : JE G X W b g) : JE G X W (.IfExp c a b pos) (fite fc f g) := by
  refine pe_imp (pe_ifExp hc ha hb) fun σ H Q t => (TF.bind (Rp := fun _ _ (u v : Bool) => u = v) t).mono fun c H1 ⟨M1, ρ, h1, v, r1, e1, p, o⟩ => ?_
  subst p
  cases c with
  | true => rw [if_pos rfl]; exact ⟨M1, ρ, h1, r1, e1, o⟩
  | false => rw [if_neg Bool.false_ne_true]; exact ⟨M1, ρ, h1, r1, e1, o⟩

/-! ### one operand; argument lists -/
def UnJ (G : Gc) (r : V → Hp → VK → Prop) (f : PV → PH → Option PV) : Prop :=
  ∀ M h H u x z Q, HRel G M H h → Rep G M H u x → f x h = some z → (∀ w H', Ext M H M H' → HRel G M H' h → Rep G M H' w z → Q w H') → r u H Q
def un1 (f : PV → PH → Option PV) (fa : SE) : SE := fun ρ h => (fa ρ h).bind fun x h1 => R.of h1 (f x h1)
theorem je_un {op : UnaryOp} {r : V → Hp → VK → Prop} {f : PV → PH → Option PV} (ho : UnR X (unaryOp op) r) (hj : UnJ G r f) (ha : JE G X W a fa) : JE G X W (.UnaryOp op a pos) (un1 f fa) := by
  refine pe_imp (pe_un ho ha) fun σ H Q t => (TF.bind (Rp := fun M H (u : V) (v : PV) => Rep G M H u v) t).mono fun u H1 ⟨M1, ρ, h1, v, r1, e1, p, o⟩ => ?_
  cases hf : f v h1 with
  | none => rw [hf] at o; exact False.elim o
  | some z =>
    rw [hf] at o
    exact hj M1 h1 H1 u v z Q r1 p hf fun w H' x' r' p' => o w M1 H' x' r' p'
def anil : SA := fun _ h => .ok [] h
def acons (f : SE) (g : SA) : SA := fun ρ h => (f ρ h).bind fun x h1 => (g ρ h1).bind fun xs h2 => .ok (x :: xs) h2
theorem ja_nil : JAs G X W [] anil := pa_imp pa_nil fun σ H Q ⟨M, ρ, h, r, e, o⟩ => Out.ret (Rp := fun M H (u : List V) (v : List PV) => Reps G M H u v) o r (b := []) trivial
theorem ja_cons {e : Expr} {es : List Expr} {f : SE} {g : SA} (ha : JE G X W e f) (hr : JAs G X W es g) (hs : starEach (e :: es) X.env = (false, eval e X.env) :: starEach es X.env := by rfl) : JAs G X W (e :: es) (acons f g) := by
  refine pa_imp (pa_cons ha hr hs) fun σ H Q t => ?_
  refine (TF.bind2 (Rp := fun M H (u : V) (v : PV) => Rep G M H u v) (Rp2 := fun M H (u : List V) (v : List PV) => Reps G M H u v) rep_mono t).mono fun u H1 t1 => t1.mono fun v H2 ⟨M2, ρ, h2, x, y, r2, e2, p, q, o⟩ => ?_
  exact Out.ret (Rp := fun M H (u : List V) (v : List PV) => Reps G M H u v) o r2 (b := u :: v) ⟨p, q⟩

/-! ### new tuples and lists -/
theorem rep_tup_new {M : Gh} {H : Hp} {h : PH} (r : HRel G M H h) {p : Addr} (hp : H p = none) {us : List V} {vs : List PV} {o : Obj} (hd : o.dict = none) (hz : us.length ≤ sizeLine) (q : Reps G M H us vs) : Rep G M (upd H p (.frz o (.tup us))) (.ref p) (.tup vs) :=
  ⟨p, us, rfl, .inl ⟨r.fresh hp, o, hd, upd_same⟩, hz, Reps.ext (Ext.new r hp) vs us q⟩
theorem rep_kt_new {M : Gh} {H : Hp} {h : PH} (r : HRel G M H h) {p : Addr} (hp : H p = none) {us : List V} {vs : List PV} (hz : us.length ≤ sizeLine) (q : Reps G M H us vs) : Rep G M (upd H p (.tup us)) (.ref p) (.kt vs) :=
  ⟨p, us, rfl, r.fresh hp, .inl upd_same, hz, Reps.ext (Ext.new r hp) vs us q⟩
theorem rep_lst_new {M : Gh} {H : Hp} {h : PH} (r : HRel G M H h) {p : Addr} (hp : H p = none) {us : List V} {vs : List PV} (hz : us.length ≤ sizeLine) (q : Reps G M H us vs) : Rep G M (upd H p (.lst us)) (.ref p) (.lst vs) :=
  ⟨p, us, rfl, .inl ⟨r.fresh hp, .inl upd_same⟩, hz, Reps.ext (Ext.new r hp) vs us q⟩
def mkTup (g : SA) : SE := fun ρ h => (g ρ h).bind fun xs h1 => if xs.length ≤ sizeLine then .ok (.tup xs) h1 else .bad
def mkKt (g : SA) : SE := fun ρ h => (g ρ h).bind fun xs h1 => if xs.length ≤ sizeLine then .ok (.kt xs) h1 else .bad
def mkLst (g : SA) : SE := fun ρ h => (g ρ h).bind fun xs h1 => if xs.length ≤ sizeLine then .ok (.lst xs) h1 else .bad
/-- a new tuple, its object known -/
def tTupF (t : TA) : TE := fun σ H Q => t σ H fun xs H1 => xs.length ≤ sizeLine ∧ ∀ p o, H1 p = none → o.dict = none → Q (.ref p) (upd H1 p (.frz o (.tup xs)))
theorem pe_tupF {es : List Expr} {t : TA} {x1} (h : PA X es t) : PE X (.Tuple es x1 pos) (tTupF t) := by
  refine ⟨fun pins s σ H Q I hq => ?_⟩
  refine wpAny_Tuple_spliced (thn (h.run pos pins s σ H _ I hq) fun us s1 ⟨xs, H1, I1, r, z, q⟩ => ⟨by rw [← r.length]; exact z, ?_⟩)
  have hf : H1 s1.heap.objs.size = none := I1.hok.fresh (Nat.le_refl _)
  refine ⟨.ref s1.heap.objs.size, upd H1 s1.heap.objs.size (.frz { cls := .type "tuple", data := .seq us.toArray } (.tup xs)), I1.laid (t' := s1.toks) (fun b u e => Heap.get?_push_of_some _ e) (Nat.le_refl _) ?_, rfl, q _ _ hf rfl⟩
  exact ⟨Heap.get?_push_size _ rfl, z, us, r, ⟨_, Heap.get?_push_size _ rfl, rfl, _, rfl⟩⟩
theorem je_tup {es : List Expr} {g : SA} {x1} (h : JAs G X W es g) : JE G X W (.Tuple es x1 pos) (mkTup g) := by
  refine pe_imp (pe_tupF h) fun σ H Q t => (TF.bind (Rp := fun M H (u : List V) (v : List PV) => Reps G M H u v) t).mono fun u H1 ⟨M1, ρ, h1, v, r1, e1, p, o⟩ => ?_
  by_cases hz : v.length ≤ sizeLine
  · simp only [hz, if_true] at o
    refine ⟨by rw [Reps.length p]; exact hz, fun q ob hq hd => ?_⟩
    exact o _ M1 _ (Ext.new r1 hq) (r1.new hq) (rep_tup_new r1 hq hd (by rw [Reps.length p]; exact hz) p)
  · simp only [hz, if_false] at o
    exact False.elim o
theorem je_kt {es : List Expr} {g : SA} {x1} (h : JAs G X W es g) : JE G X W (.Tuple es x1 pos) (mkKt g) := by
  refine pe_imp (pe_tup h) fun σ H Q t => (TF.bind (Rp := fun M H (u : List V) (v : List PV) => Reps G M H u v) t).mono fun u H1 ⟨M1, ρ, h1, v, r1, e1, p, o⟩ => ?_
  by_cases hz : v.length ≤ sizeLine
  · simp only [hz, if_true] at o
    refine ⟨by rw [Reps.length p]; exact hz, fun q hq => ?_⟩
    exact o _ M1 _ (Ext.new r1 hq) (r1.new hq) (rep_kt_new r1 hq (by rw [Reps.length p]; exact hz) p)
  · simp only [hz, if_false] at o
    exact False.elim o
theorem je_lst {es : List Expr} {g : SA} (h : JAs G X W es g) : JE G X W (.List es pos) (mkLst g) := by
  refine pe_imp (pe_lst h) fun σ H Q t => (TF.bind (Rp := fun M H (u : List V) (v : List PV) => Reps G M H u v) t).mono fun u H1 ⟨M1, ρ, h1, v, r1, e1, p, o⟩ => ?_
  by_cases hz : v.length ≤ sizeLine
  · simp only [hz, if_true] at o
    refine ⟨by rw [Reps.length p]; exact hz, fun q hq => ?_⟩
    exact o _ M1 _ (Ext.new r1 hq) (r1.new hq) (rep_lst_new r1 hq (by rw [Reps.length p]; exact hz) p)
  · simp only [hz, if_false] at o
    exact False.elim o
/-- a new mutable object -/
theorem Ext.alloc {M : Gh} {H : Hp} {h : PH} (r : HRel G M H h) {p : Addr} {o : HO} (hp : H p = none) : Ext M H (M.add p) (upd H p o) :=
  ⟨⟨[p], rfl, fun a ha => by rw [List.mem_singleton.mp ha]; exact hp⟩, (Ext.new r hp).keep, (Ext.new r hp).dom⟩
theorem HRel.alloc {M : Gh} {H : Hp} {h : PH} (r : HRel G M H h) {p : Addr} {o : HO} (hp : H p = none) {po : PO} (q : ORep G (M.add p) (upd H p o) p po) : HRel G (M.add p) (upd H p o) (h ++ [po]) where
  nd := by
    show (M.L ++ [p]).Nodup
    rw [List.nodup_append]
    refine ⟨r.nd, by simp, fun a ha b hb => ?_⟩
    rw [List.mem_singleton.mp hb]
    exact fun z => r.fresh hp (.inl (z ▸ ha))
  apart := fun a ha => by
    rcases List.mem_append.mp ha with ha | ha
    · exact r.apart a ha
    · rw [List.mem_singleton.mp ha]
      exact fun z => r.fresh hp (.inr z)
  len := by simp [Gh.add, r.len]
  hid := fun a ha => (Ext.new r hp).dom a (r.hid a ha)
  obj := fun n ob e => by
    by_cases hn : n < h.length
    · rw [List.getElem?_append_left hn] at e
      obtain ⟨a, h1, h2⟩ := r.obj n ob e
      refine ⟨a, by show (M.L ++ [p])[n]? = _; rw [List.getElem?_append_left (by rw [r.len]; exact hn)]; exact h1, h2.ext (Ext.alloc r hp) (upd_ne fun z => ?_) fun dx q _ => upd_ne (ne_of_none q hp)⟩
      exact r.liveL (List.mem_of_getElem? h1) (z ▸ hp)
    · have hl : n < (h ++ [po]).length := (List.getElem?_eq_some_iff.mp e).1
      have hn' : n = h.length := by simp at hl; omega
      subst hn'
      rw [List.getElem?_append_right (Nat.le_refl _), Nat.sub_self] at e
      cases e
      exact ⟨p, by show (M.L ++ [p])[h.length]? = _; rw [← r.len, List.getElem?_append_right (Nat.le_refl _), Nat.sub_self]; rfl, q⟩
  tab := fun P hP => by
    obtain ⟨ps, e, t⟩ := r.tab P hP
    exact ⟨ps, by rw [upd_ne (ne_of_none e hp)]; exact e, t⟩
theorem HRel.newLoc {M : Gh} {H : Hp} {h : PH} (r : HRel G M H h) {p : Addr} {o : HO} : Rep G (M.add p) (upd H p o) (.ref p) (.loc h.length) :=
  ⟨p, rfl, by show (M.L ++ [p])[h.length]? = _; rw [← r.len, List.getElem?_append_right (Nat.le_refl _), Nat.sub_self]; rfl⟩
/-- [..] as a mutable list -/
def mkLoc (g : SA) : SE := fun ρ h => (g ρ h).bind fun xs h1 => if xs.length ≤ sizeLine then .ok (.loc h1.length) (h1 ++ [.lst xs]) else .bad
theorem je_lstM {es : List Expr} {g : SA} (h : JAs G X W es g) : JE G X W (.List es pos) (mkLoc g) := by
  refine pe_imp (pe_lst h) fun σ H Q t => (TF.bind (Rp := fun M H (u : List V) (v : List PV) => Reps G M H u v) t).mono fun u H1 ⟨M1, ρ, h1, v, r1, e1, p, o⟩ => ?_
  by_cases hz : v.length ≤ sizeLine
  · simp only [hz, if_true] at o
    refine ⟨by rw [Reps.length p]; exact hz, fun q hq => ?_⟩
    have x := Ext.alloc (o := HO.lst u) r1 hq
    exact o _ _ _ x (r1.alloc hq ⟨u, upd_same, by rw [Reps.length p]; exact hz, Reps.ext x v u p⟩) r1.newLoc
  · simp only [hz, if_false] at o
    exact False.elim o

/-! ### calls of built-ins by values -/
def CallJ (G : Gc) (r : List V → Hp → VK → Prop) (f : List PV → PH → Option PV) : Prop :=
  ∀ M h H us xs z Q, HRel G M H h → Reps G M H us xs → f xs h = some z → (∀ w H', Ext M H M H' → HRel G M H' h → Rep G M H' w z → Q w H') → r us H Q
def cal (f : List PV → PH → Option PV) (g : SA) : SE := fun ρ h => (g ρ h).bind fun xs h1 => R.of h1 (f xs h1)
theorem cal_t {r : List V → Hp → VK → Prop} {f : List PV → PH → Option PV} {g : SA} (hj : CallJ G r f) {σ : L2.St} {H : Hp} {Q : VK} (t : TFE G W (cal f g) σ H Q) : tCB r (TFA G W g) σ H Q := by
  refine (TF.bind (Rp := fun M H (u : List V) (v : List PV) => Reps G M H u v) t).mono fun u H1 ⟨M1, ρ, h1, v, r1, e1, p, o⟩ => ?_
  cases hf : f v h1 with
  | none => rw [hf] at o; exact False.elim o
  | some z =>
    rw [hf] at o
    exact hj M1 h1 H1 u v z Q r1 p hf fun w H' x' r' p' => o w M1 H' x' r' p'
variable {x : Str} {p : Pos} {id T : String} {e : Expr} {es : List Expr} {gA : SA}
theorem je_callB {r : List V → Hp → VK → Prop} {f : List PV → PH → Option PV} (hc : CallR X (.builtin id) r) (hj : CallJ G r f) (hm : X.mg x = none) (ha : JAs G X W (e :: es) gA) (hg : Gl X x := by rfl) (hv : bootBuiltins x = some (.builtin id) := by decide +kernel) (hn : x ≠ "__name__" := by decide) (hdb : (x == ("__debug__" : Str)) = false := by decide)
    (he : starEach (e :: es) X.env = (false, eval e X.env) :: starEach es X.env := by rfl) (hpl : (backTo pos (starEach es X.env)).any (·.1) = false := by rfl) : JE G X W (.Call (.Name x p) (e :: es) [] pos) (cal f gA) :=
  pe_imp (pe_callB hc hg hm hv ha hn hdb he hpl) fun _ _ _ t => cal_t hj t
theorem je_callTy {r : List V → Hp → VK → Prop} {f : List PV → PH → Option PV} (hc : CallR X (.type T) r) (hj : CallJ G r f) (hm : X.mg x = none) (ha : JAs G X W (e :: es) gA) (hg : Gl X x := by rfl) (hv : bootBuiltins x = some (.type T) := by decide +kernel) (hn : x ≠ "__name__" := by decide) (hdb : (x == ("__debug__" : Str)) = false := by decide)
    (he : starEach (e :: es) X.env = (false, eval e X.env) :: starEach es X.env := by rfl) (hpl : (backTo pos (starEach es X.env)).any (·.1) = false := by rfl) : JE G X W (.Call (.Name x p) (e :: es) [] pos) (cal f gA) :=
  pe_imp (pe_callTy hc hg hm hv ha hn hdb he hpl) fun _ _ _ t => cal_t hj t
end
end J

/-! J: operations on values. -/
namespace J
open PySem PySem.Spec PyProof.Rows L2

/-! ### plain data -/
mutual
def toD : PV → PyData
  | .non => .none
  | .bl b => .bool b
  | .int i => .int i
  | .str x => .str x
  | .tup xs => .tuple (toDs xs)
  | .kt xs => .tuple (toDs xs)
  | .lst xs => .list (toDs xs)
  | .dic _ _ => .dict []
  | .loc _ => .dict []
def toDs : List PV → List PyData
  | [] => []
  | x :: xs => toD x :: toDs xs
end
mutual
/-- plain, of depth at most n -/
def dle : Nat → PV → Bool
  | _, .non => true
  | _, .bl _ => true
  | _, .int _ => true
  | _, .str _ => true
  | 0, .tup _ => false
  | 0, .kt _ => false
  | 0, .lst _ => false
  | n + 1, .tup xs => dles n xs
  | n + 1, .kt xs => dles n xs
  | n + 1, .lst xs => dles n xs
  | _, .dic _ _ => false
  | _, .loc _ => false
def dles : Nat → List PV → Bool
  | _, [] => true
  | n, x :: xs => dle n x && dles n xs
end
theorem toDs_map : ∀ xs : List PV, toDs xs = xs.map toD
  | [] => rfl
  | x :: xs => by rw [toDs, toDs_map xs]; rfl
theorem dles_all (n : Nat) : ∀ xs : List PV, dles n xs = xs.all (dle n)
  | [] => rfl
  | x :: xs => by rw [dles, dles_all n xs]; rfl
mutual
theorem dle_ok : ∀ (v : PV) (n : Nat), dle n v = true → (toD v).plain = true ∧ (toD v).depth ≤ n
  | .non, _, _ => ⟨rfl, Nat.zero_le _⟩
  | .bl _, _, _ => ⟨rfl, Nat.zero_le _⟩
  | .int _, _, _ => ⟨rfl, Nat.zero_le _⟩
  | .str _, _, _ => ⟨rfl, Nat.zero_le _⟩
  | .tup xs, 0, h => by simp [dle] at h
  | .kt xs, 0, h => by simp [dle] at h
  | .lst xs, 0, h => by simp [dle] at h
  | .tup xs, n + 1, h => by
    have q := dles_ok xs n (by simpa [dle] using h)
    exact ⟨by simpa [toD, PyData.plain] using q.1, by simp only [toD, PyData.depth]; omega⟩
  | .kt xs, n + 1, h => by
    have q := dles_ok xs n (by simpa [dle] using h)
    exact ⟨by simpa [toD, PyData.plain] using q.1, by simp only [toD, PyData.depth]; omega⟩
  | .lst xs, n + 1, h => by
    have q := dles_ok xs n (by simpa [dle] using h)
    exact ⟨by simpa [toD, PyData.plain] using q.1, by simp only [toD, PyData.depth]; omega⟩
  | .dic _ _, n, h => by cases n <;> simp [dle] at h
  | .loc _, n, h => by cases n <;> simp [dle] at h
theorem dles_ok : ∀ (xs : List PV) (n : Nat), dles n xs = true → PyData.plainAll (toDs xs) = true ∧ PyData.depthAll (toDs xs) ≤ n
  | [], _, _ => ⟨rfl, Nat.zero_le _⟩
  | x :: xs, n, h => by
    simp only [dles, Bool.and_eq_true] at h
    have q1 := dle_ok x n h.1
    have q2 := dles_ok xs n h.2
    refine ⟨by simp only [toDs, PyData.plainAll, q1.1, q2.1, Bool.and_self], ?_⟩
    simp only [toDs, PyData.depthAll]
    omega
end
section
variable {G : Gc} {M : Gh} {H : Hp}
mutual
theorem Rep.dp : ∀ (v : PV) (u : V) (n : Nat), dle n v = true → Rep G M H u v → Dp G.K H u (toD v)
  | .non, _, _, _, h => by cases h; exact .non
  | .bl _, _, _, _, h => by cases h; exact .bl _
  | .int _, _, _, _, h => by cases h; exact .int _
  | .str _, _, _, _, h => by cases h; exact .str _
  | .tup xs, _, 0, h, _ => by simp [dle] at h
  | .kt xs, _, 0, h, _ => by simp [dle] at h
  | .lst xs, _, 0, h, _ => by simp [dle] at h
  | .tup xs, u, n + 1, h, r => by
    obtain ⟨a, us, e, s, _, q⟩ := r
    subst e
    exact .tup s.sq (Reps.dp xs us n (by simpa [dle] using h) q)
  | .kt xs, u, n + 1, h, r => by
    obtain ⟨a, us, e, _, s, _, q⟩ := r
    subst e
    exact .tup (.inl s) (Reps.dp xs us n (by simpa [dle] using h) q)
  | .lst xs, u, n + 1, h, r => by
    obtain ⟨a, us, e, s, _, q⟩ := r
    subst e
    exact .lst s.sq (Reps.dp xs us n (by simpa [dle] using h) q)
  | .dic _ _, _, n, h, _ => by cases n <;> simp [dle] at h
  | .loc _, _, n, h, _ => by cases n <;> simp [dle] at h
theorem Reps.dp : ∀ (vs : List PV) (us : List V) (n : Nat), dles n vs = true → Reps G M H us vs → DpAll G.K H us (toDs vs)
  | [], [], _, _, _ => .nil
  | [], _ :: _, _, _, h => h.elim
  | _ :: _, [], _, _, h => h.elim
  | v :: vs, u :: us, n, h, r => by
    simp only [dles, Bool.and_eq_true] at h
    exact .cons (Rep.dp v u n h.1 r.1) (Reps.dp vs us n h.2 r.2)
end
end
/-- a mutable list, read -/
def rdO (n : Nat) : Option PO → PV
  | some (.lst xs) => .lst xs
  | _ => .loc n
def rd (h : PH) : PV → PV
  | .loc n => rdO n h[n]?
  | v => v
theorem rdO_cases (n : Nat) (o : Option PO) : (∃ xs, o = some (.lst xs) ∧ rdO n o = .lst xs) ∨ rdO n o = .loc n := by
  cases o with
  | none => exact .inr rfl
  | some o => cases o with
    | lst xs => exact .inl ⟨xs, rfl, rfl⟩
    | _ => exact .inr rfl
theorem rd_cases (h : PH) (n : Nat) : (∃ xs, h[n]? = some (.lst xs) ∧ rd h (.loc n) = .lst xs) ∨ rd h (.loc n) = .loc n := rdO_cases n h[n]?
@[simp] theorem rd_non (h : PH) : rd h .non = .non := rfl
@[simp] theorem rd_bl (h : PH) (b : Bool) : rd h (.bl b) = .bl b := rfl
@[simp] theorem rd_int (h : PH) (i : Int) : rd h (.int i) = .int i := rfl
@[simp] theorem rd_str (h : PH) (x : Str) : rd h (.str x) = .str x := rfl
@[simp] theorem rd_tup (h : PH) (xs : List PV) : rd h (.tup xs) = .tup xs := rfl
@[simp] theorem rd_kt (h : PH) (xs : List PV) : rd h (.kt xs) = .kt xs := rfl
@[simp] theorem rd_lst (h : PH) (xs : List PV) : rd h (.lst xs) = .lst xs := rfl
theorem rd_loc {h : PH} {n : Nat} {xs : List PV} (e : h[n]? = some (.lst xs)) : rd h (.loc n) = .lst xs := by show rdO n h[n]? = _; rw [e]; rfl
section
variable {G : Gc} {M : Gh} {H : Hp} {h : PH}
/-- what stands for a list: tracked, of so many items -/
theorem Rep.list (r : HRel G M H h) {u : V} {x : PV} (p : Rep G M H u x) {xs : List PV} (e : rd h x = .lst xs) : ∃ a us, u = .ref a ∧ SqL G.K H a us ∧ us.length ≤ sizeLine ∧ Reps G M H us xs := by
  cases x with
  | lst ys =>
    cases e
    obtain ⟨a, us, e1, s, z, q⟩ := p
    exact ⟨a, us, e1, s.sq, z, q⟩
  | loc n =>
    rcases rd_cases h n with ⟨ys, hn, e2⟩ | e2
    · rw [e2] at e
      cases e
      obtain ⟨a, h1, us, h2, z, q⟩ := r.obj n _ hn
      obtain ⟨b, e1, e2⟩ := p
      rw [h1] at e2; cases e2
      exact ⟨_, us, e1, .of h2, z, q⟩
    · rw [e2] at e; cases e
  | non => cases e
  | bl _ => cases e
  | int _ => cases e
  | str _ => cases e
  | tup _ => cases e
  | kt _ => cases e
  | dic _ _ => cases e
theorem dle_loc (n k : Nat) : dle n (.loc k) = false := by cases n <;> rfl
theorem Rep.dpr (r : HRel G M H h) {u : V} {x : PV} (p : Rep G M H u x) {n : Nat} (d : dle n (rd h x) = true) : Dp G.K H u (toD (rd h x)) := by
  cases x with
  | loc k =>
    rcases rd_cases h k with ⟨xs, hn, e⟩ | e
    · obtain ⟨a, us, e1, s, z, q⟩ := Rep.list r p e
      subst e1
      rw [e] at d ⊢
      cases n with
      | zero => simp [dle] at d
      | succ n => exact .lst s (Reps.dp xs us n (by simpa [dle] using d) q)
    · rw [e, dle_loc] at d; cases d
  | non => exact Rep.dp _ _ n d p
  | bl b => exact Rep.dp _ _ n d p
  | int b => exact Rep.dp _ _ n d p
  | str b => exact Rep.dp _ _ n d p
  | tup b => exact Rep.dp _ _ n d p
  | kt b => exact Rep.dp _ _ n d p
  | lst b => exact Rep.dp _ _ n d p
  | dic b c => exact Rep.dp (.dic b c) _ n d p
end
/-- Python's == on plain data -/
def eqv (x y : PV) : Bool := PyData.eqv (toD x) (toD y)
def eqs (xs ys : List PV) : Bool := PyData.eqvAll (toDs xs) (toDs ys)
@[simp] theorem eqv_int (i j : Int) : eqv (.int i) (.int j) = (i == j) := by simp [eqv, toD, PyData.eqv]
@[simp] theorem eqv_str (i j : Str) : eqv (.str i) (.str j) = (i == j) := by simp [eqv, toD, PyData.eqv]
@[simp] theorem eqv_bl (i j : Bool) : eqv (.bl i) (.bl j) = (i == j) := by simp [eqv, toD, PyData.eqv]
@[simp] theorem eqv_tup (i j : List PV) : eqv (.tup i) (.tup j) = eqs i j := by simp [eqv, eqs, toD, PyData.eqv]
@[simp] theorem eqv_lst (i j : List PV) : eqv (.lst i) (.lst j) = eqs i j := by simp [eqv, eqs, toD, PyData.eqv]
@[simp] theorem eqs_nil : eqs [] [] = true := by simp [eqs, toDs, PyData.eqvAll]
@[simp] theorem eqs_cons (x y : PV) (i j : List PV) : eqs (x :: i) (y :: j) = (eqv x y && eqs i j) := by simp [eqv, eqs, toDs, PyData.eqvAll]
@[simp] theorem eqs_nc (y : PV) (j : List PV) : eqs [] (y :: j) = false := by simp [eqs, toDs, PyData.eqvAll]
@[simp] theorem eqs_cn (y : PV) (j : List PV) : eqs (y :: j) [] = false := by simp [eqs, toDs, PyData.eqvAll]

section
variable {G : Gc} {X : Cx} {W : WX}
/-! ### == != in, not in -/
def DEPTH : Nat := 60
def eqO (x y : PV) (h : PH) : Option PV := if dle DEPTH (rd h x) && dle DEPTH (rd h y) then some (.bl (eqv (rd h x) (rd h y))) else none
def neO (x y : PV) (h : PH) : Option PV := if dle DEPTH (rd h x) && dle DEPTH (rd h y) then some (.bl (!eqv (rd h x) (rd h y))) else none
def rEqP (K : PySem.W.Frag) (b : Bool) : R2 := fun x y H Q => ∃ d e, Dp K H x d ∧ Dp K H y e ∧ d.plain = true ∧ e.plain = true ∧ d.depth ≤ 60 ∧ Q (.bl (xor b (PyData.eqv d e))) H
theorem op_eqP (hu : X.A.units + 64 < cLine) : OpR X (compareOp .Eq) (rEqP X.K false) := by
  intro pins s σ H x y v u Q I rx ry h
  obtain ⟨d, e, hd, he, sd, se, z, q⟩ := h
  obtain ⟨as, r1⟩ := Dp.reads I d x v hd rx
  obtain ⟨bs, r2⟩ := Dp.reads I e y u he ry
  exact SeqAt.eq_plain r1 r2 sd se (by omega) ⟨.bl _, H, I, rfl, by simpa using q⟩
theorem op_neP (hu : X.A.units + 64 < cLine) : OpR X (compareOp .NotEq) (rEqP X.K true) := by
  intro pins s σ H x y v u Q I rx ry h
  obtain ⟨d, e, hd, he, sd, se, z, q⟩ := h
  obtain ⟨as, r1⟩ := Dp.reads I d x v hd rx
  obtain ⟨bs, r2⟩ := Dp.reads I e y u he ry
  exact SeqAt.ne_plain r1 r2 sd se (by omega) ⟨.bl _, H, I, rfl, by simpa using q⟩
theorem oj_eq : OpJ G (rEqP G.K false) eqO := by
  intro M h H u v x y z Q r p q e k
  unfold eqO at e
  split at e
  · rename_i c
    simp only [Bool.and_eq_true] at c
    cases e
    have c1 := dle_ok _ _ c.1
    have c2 := dle_ok _ _ c.2
    exact ⟨_, _, Rep.dpr r p c.1, Rep.dpr r q c.2, c1.1, c2.1, c1.2, k _ H (Ext.refl M H) r (by simp [Rep, eqv])⟩
  · cases e
theorem oj_ne : OpJ G (rEqP G.K true) neO := by
  intro M h H u v x y z Q r p q e k
  unfold neO at e
  split at e
  · rename_i c
    simp only [Bool.and_eq_true] at c
    cases e
    have c1 := dle_ok _ _ c.1
    have c2 := dle_ok _ _ c.2
    exact ⟨_, _, Rep.dpr r p c.1, Rep.dpr r q c.2, c1.1, c2.1, c1.2, k _ H (Ext.refl M H) r (by simp [Rep, eqv])⟩
  · cases e
/-- the items of a list or tuple -/
def itemsOf (h : PH) (x : PV) : Option (List PV) := match rd h x with
  | .lst xs => some xs
  | .tup xs => some xs
  | .kt xs => some xs
  | _ => none
def inS (x : PV) (xs : List PV) : Bool := xs.any fun y => eqv y x
def inO (x y : PV) (h : PH) : Option PV := match itemsOf h y with
  | some xs => if dle DEPTH (rd h x) && dles DEPTH xs then some (.bl (inS (rd h x) xs)) else none
  | none => none
def ninO (x y : PV) (h : PH) : Option PV := match itemsOf h y with
  | some xs => if dle DEPTH (rd h x) && dles DEPTH xs then some (.bl (!inS (rd h x) xs)) else none
  | none => none
def rInP (K : PySem.W.Frag) (b : Bool) : R2 := fun x y H Q => ∃ d ds, Dp K H x d ∧ (Dp K H y (.list ds) ∨ Dp K H y (.tuple ds)) ∧ d.plain = true ∧ PyData.plainAll ds = true ∧ d.depth ≤ 60 ∧ Q (.bl (xor b (ds.any fun z => PyData.eqv z d))) H
theorem op_inP (hu : X.A.units + 64 < cLine) : OpR X (compareOp .In) (rInP X.K false) := by
  intro pins s σ H x y v u Q I rx ry h
  obtain ⟨d, ds, hd, he, sd, se, z, q⟩ := h
  obtain ⟨as, r1⟩ := Dp.reads I d x v hd rx
  rcases he with he | he
  · obtain ⟨bs, r2⟩ := Dp.reads I _ y u he ry
    exact SeqAt.in_list_data r2 r1 se sd (by omega) ⟨.bl _, H, I, rfl, by simpa using q⟩
  · obtain ⟨bs, r2⟩ := Dp.reads I _ y u he ry
    exact SeqAt.in_tuple_data r2 r1 se sd (by omega) ⟨.bl _, H, I, rfl, by simpa using q⟩
theorem op_ninP (hu : X.A.units + 64 < cLine) : OpR X (compareOp .NotIn) (rInP X.K true) := by
  intro pins s σ H x y v u Q I rx ry h
  obtain ⟨d, ds, hd, he, sd, se, z, q⟩ := h
  obtain ⟨as, r1⟩ := Dp.reads I d x v hd rx
  rcases he with he | he
  · obtain ⟨bs, r2⟩ := Dp.reads I _ y u he ry
    exact SeqAt.notIn_list_data r2 r1 se sd (by omega) ⟨.bl _, H, I, rfl, by simpa using q⟩
  · obtain ⟨bs, r2⟩ := Dp.reads I _ y u he ry
    exact SeqAt.notIn_tuple_data r2 r1 se sd (by omega) ⟨.bl _, H, I, rfl, by simpa using q⟩
theorem rd_tup_inv {h : PH} {x : PV} {xs : List PV} (e : rd h x = .tup xs) : x = .tup xs := by
  cases x with
  | loc n =>
    rcases rd_cases h n with ⟨ys, _, e2⟩ | e2 <;> (rw [e2] at e; cases e)
  | _ => exact e
theorem rd_kt_inv {h : PH} {x : PV} {xs : List PV} (e : rd h x = .kt xs) : x = .kt xs := by
  cases x with
  | loc n =>
    rcases rd_cases h n with ⟨ys, _, e2⟩ | e2 <;> (rw [e2] at e; cases e)
  | _ => exact e
theorem items_rep {M : Gh} {H : Hp} {h : PH} (r : HRel G M H h) {u : V} {x : PV} (p : Rep G M H u x) {xs : List PV} (e : itemsOf h x = some xs) :
    ∃ a us, u = .ref a ∧ (SqL G.K H a us ∨ SqT G.K H a us) ∧ us.length ≤ sizeLine ∧ Reps G M H us xs := by
  unfold itemsOf at e
  split at e
  · rename_i ys q
    cases e
    obtain ⟨a, us, e1, s, z, q⟩ := Rep.list r p q
    exact ⟨a, us, e1, .inl s, z, q⟩
  · rename_i ys q
    cases e
    have := rd_tup_inv q
    subst this
    obtain ⟨a, us, e1, s, z, q⟩ := p
    exact ⟨a, us, e1, .inr s.sq, z, q⟩
  · rename_i ys q
    cases e
    have := rd_kt_inv q
    subst this
    obtain ⟨a, us, e1, _, s, z, q⟩ := p
    exact ⟨a, us, e1, .inr (.inl s), z, q⟩
  · cases e
theorem items_dp {M : Gh} {H : Hp} {h : PH} (r : HRel G M H h) {u : V} {x : PV} (p : Rep G M H u x) {xs : List PV} (e : itemsOf h x = some xs) {n : Nat} (d : dles n xs = true) : Dp G.K H u (.list (toDs xs)) ∨ Dp G.K H u (.tuple (toDs xs)) := by
  obtain ⟨a, us, rfl, s, z, q⟩ := items_rep r p e
  rcases s with s | s
  · exact .inl (.lst s (Reps.dp xs us n d q))
  · exact .inr (.tup s (Reps.dp xs us n d q))
theorem any_toDs (d : PyData) : ∀ xs : List PV, ((toDs xs).any fun z => PyData.eqv z d) = xs.any fun y => PyData.eqv (toD y) d
  | [] => rfl
  | x :: xs => by rw [toDs, List.any_cons, List.any_cons, any_toDs d xs]
theorem oj_in : OpJ G (rInP G.K false) inO := by
  intro M h H u v x y z Q r p q e k
  unfold inO at e
  split at e
  · rename_i xs hx
    split at e
    · rename_i c
      simp only [Bool.and_eq_true] at c
      cases e
      have c1 := dle_ok _ _ c.1
      have c2 := dles_ok _ _ c.2
      exact ⟨_, _, Rep.dpr r p c.1, items_dp r q hx c.2, c1.1, c2.1, c1.2, k _ H (Ext.refl M H) r (by simp [Rep, inS, eqv, any_toDs])⟩
    · cases e
  · cases e
theorem oj_nin : OpJ G (rInP G.K true) ninO := by
  intro M h H u v x y z Q r p q e k
  unfold ninO at e
  split at e
  · rename_i xs hx
    split at e
    · rename_i c
      simp only [Bool.and_eq_true] at c
      cases e
      have c1 := dle_ok _ _ c.1
      have c2 := dles_ok _ _ c.2
      exact ⟨_, _, Rep.dpr r p c.1, items_dp r q hx c.2, c1.1, c2.1, c1.2, k _ H (Ext.refl M H) r (by simp [Rep, inS, eqv, any_toDs])⟩
    · cases e
  · cases e

/-! ### arithmetic -/
theorem OpJ.or1 {r r' : R2} {f : PV → PV → PH → Option PV} (h : OpJ G r f) : OpJ G (fun x y H Q => r x y H Q ∨ r' x y H Q) f := fun M h' H u v x y z Q a b c d e => .inl (h M h' H u v x y z Q a b c d e)
def addO (x y : PV) (h : PH) : Option PV := match rd h x, rd h y with
  | .int i, .int j => some (.int (i + j))
  | .str i, .str j => if i.length + j.length ≤ sizeLine then some (.str (i ++ j)) else none
  | .tup i, .tup j => if i.length + j.length ≤ sizeLine then some (.tup (i ++ j)) else none
  | .lst i, .lst j => if i.length + j.length ≤ sizeLine then some (.lst (i ++ j)) else none
  | _, _ => none
/-- t + u, the new one's object known -/
def rCatF (K : PySem.W.Frag) : R2 := fun x y H Q => ∃ a b xs ys, x = .ref a ∧ y = .ref b ∧ SqT K H a xs ∧ SqT K H b ys ∧ xs.length + ys.length ≤ sizeLine ∧
  (xs = [] → Q (.ref b) H) ∧ (xs ≠ [] → ys = [] → Q (.ref a) H) ∧ (xs ≠ [] → ys ≠ [] → ∀ p o, H p = none → o.dict = none → Q (.ref p) (upd H p (.frz o (.tup (xs ++ ys)))))
theorem op_catF : OpR X (binaryOp .Add) (rCatF X.K) := by
  intro pins s σ H x y v u Q I rx ry h
  obtain ⟨a, b, xs, ys, rfl, rfl, ha, hb, hz, q0, q1, q2⟩ := h
  cases rx
  cases ry
  obtain ⟨its, r1, p1, _⟩ := I.tuple ha
  obtain ⟨its2, r2, p2, _⟩ := I.tuple hb
  by_cases hx : xs = []
  · subst hx
    cases r1
    exact cat_tup0 p1 p2 ⟨.ref b, H, I, rfl, q0 rfl⟩
  · refine HT.cat_tup p1 p2 (fun z => hx (r1.nil_iff.mp z)) (fun z => ⟨.ref a, H, I, rfl, q1 hx (r2.nil_iff.mp z)⟩) (fun z => ?_) (by rw [← r1.length, ← r2.length]; exact hz)
    refine ⟨.ref s.heap.objs.size, _, I.laid (t' := s.toks) (o := .frz { cls := .type "tuple", data := .seq (its ++ its2).toArray } (.tup (xs ++ ys))) (fun b ob q => Heap.get?_push_of_some _ q) (Nat.le_refl _) ?_, rfl, q2 hx (fun w => z (r2.nil_iff.mpr w)) _ _ (I.hok.fresh (Nat.le_refl _)) rfl⟩
    exact ⟨Heap.get?_push_size _ rfl, by rw [List.length_append]; exact hz, _, r1.append r2, IsTup.new _ _⟩
/-- list + list, both to be read -/
def rCatL (K : PySem.W.Frag) : R2 := fun x y H Q => ∃ l b xs zs, x = .ref l ∧ y = .ref b ∧ SqL K H l xs ∧ SqL K H b zs ∧ xs.length + zs.length ≤ sizeLine ∧ ∀ p, H p = none → Q (.ref p) (upd H p (.lst (xs ++ zs)))
theorem op_catL : OpR X (binaryOp .Add) (rCatL X.K) := by
  intro pins s σ H x y v u Q I rx ry h
  obtain ⟨l, b, xs, zs, rfl, rfl, hH, hB, hz, q⟩ := h
  cases rx
  cases ry
  obtain ⟨its, r, ⟨⟨cls, dd, data, sl⟩, n, ho, hc, hd, hs⟩, hl⟩ := I.list hH
  obtain ⟨its2, r2, ⟨⟨cls2, dd2, data2, sl2⟩, n2, ho2, hc2, hd2, hs2⟩, hl2⟩ := I.list hB
  simp only at hc hd hs hc2 hd2 hs2
  subst hc hd hs hc2 hd2 hs2
  have z1 := r.length
  have z2 := r2.length
  refine concat_meets ⟨_, ho, rfl⟩ ⟨_, ho2, rfl⟩ noFill_list_add seq_list_add PySem.F.slot_list_add PySem.F.entry_list_add (PySem.F.args_list_add_2 _ _) (list_addW l b its.toArray its2.toArray n n2 none none sl sl2 (by rw [List.size_toArray, List.size_toArray]; omega)) ⟨ho, ho2, ?_⟩
  have ea : its.toArray ++ its2.toArray = (its ++ its2).toArray := by simp
  rw [ea]
  exact ⟨.ref _, _, I.lnew (t' := s.toks) (r.append r2) (by rw [List.length_append]; omega), rfl, q _ I.fresh⟩
def rAddJ (K : PySem.W.Frag) : R2 := fun x y H Q => rI0 (fun i j => .int (i + j)) x y H Q ∨ (∃ i j, x = .str i ∧ y = .str j ∧ i.length + j.length ≤ sizeLine ∧ Q (.str (i ++ j)) H) ∨ rCatF K x y H Q ∨ rCatL K x y H Q
theorem op_addJ : OpR X (binaryOp .Add) (rAddJ X.K) := OpR.or op_add (OpR.or op_add_str (OpR.or op_catF op_catL))
theorem rd_int_inv {h : PH} {x : PV} {i : Int} (e : rd h x = .int i) : x = .int i := by
  cases x with
  | loc n =>
    rcases rd_cases h n with ⟨ys, _, e2⟩ | e2 <;> (rw [e2] at e; cases e)
  | _ => exact e
theorem rd_str_inv {h : PH} {x : PV} {i : Str} (e : rd h x = .str i) : x = .str i := by
  cases x with
  | loc n =>
    rcases rd_cases h n with ⟨ys, _, e2⟩ | e2 <;> (rw [e2] at e; cases e)
  | _ => exact e
theorem oj_add : OpJ G (rAddJ G.K) addO := by
  intro M h H u v x y z Q r p q e k
  unfold addO at e
  split at e
  · rename_i i j hx hy
    cases e
    have := rd_int_inv hx; subst this
    have := rd_int_inv hy; subst this
    exact .inl ⟨i, j, p, q, k _ H (Ext.refl M H) r rfl⟩
  · rename_i i j hx hy
    split at e
    · rename_i c
      cases e
      have := rd_str_inv hx; subst this
      have := rd_str_inv hy; subst this
      exact .inr (.inl ⟨i, j, p, q, c, k _ H (Ext.refl M H) r rfl⟩)
    · cases e
  · rename_i i j hx hy
    split at e
    · rename_i c
      cases e
      have := rd_tup_inv hx; subst this
      have := rd_tup_inv hy; subst this
      obtain ⟨a, xs, rfl, s1, z1, q1⟩ := p
      obtain ⟨b, ys, rfl, s2, z2, q2⟩ := q
      have l1 := q1.length
      have l2 := q2.length
      refine .inr (.inr (.inl ⟨a, b, xs, ys, rfl, rfl, s1.sq, s2.sq, by omega, fun e => ?_, fun _ e => ?_, fun _ _ pp ob hp hd => ?_⟩))
      · subst e
        have : i = [] := List.eq_nil_of_length_eq_zero (by simpa using l1.symm)
        subst this
        exact k _ H (Ext.refl M H) r ⟨b, ys, rfl, s2, z2, q2⟩
      · subst e
        have : j = [] := List.eq_nil_of_length_eq_zero (by simpa using l2.symm)
        subst this
        exact k _ H (Ext.refl M H) r ⟨a, xs, rfl, s1, z1, by simpa using q1⟩
      · exact k _ _ (Ext.new r hp) (r.new hp) (rep_tup_new r hp hd (by rw [List.length_append]; omega) (q1.append q2))
    · cases e
  · rename_i i j hx hy
    split at e
    · rename_i c
      cases e
      obtain ⟨a, xs, rfl, s1, z1, q1⟩ := Rep.list r p hx
      obtain ⟨b, ys, rfl, s2, z2, q2⟩ := Rep.list r q hy
      have l1 := q1.length
      have l2 := q2.length
      exact .inr (.inr (.inr ⟨a, b, xs, ys, rfl, rfl, s1, s2, by omega, fun pp hp => k _ _ (Ext.new r hp) (r.new hp) (rep_lst_new r hp (by rw [List.length_append]; omega) (q1.append q2))⟩))
    · cases e
  · cases e
/-- an operation on two ints, under a condition -/
def intO (c : Int → Int → Bool) (f : Int → Int → PV) (x y : PV) (h : PH) : Option PV := match x, y with
  | .int i, .int j => if c i j then some (f i j) else none
  | _, _ => none
theorem oj_int {C : Int → Int → Prop} {c : Int → Int → Bool} {g : Int → Int → V} {f : Int → Int → PV} (hc : ∀ i j, c i j = true → C i j) (hg : ∀ M H i j, Rep G M H (g i j) (f i j)) : OpJ G (rI C g) (intO c f) := by
  intro M h H u v x y z Q r p q e k
  cases x <;> cases y <;> first | (cases e; done) | skip
  rename_i i j
  unfold intO at e
  simp only at e
  split at e
  · rename_i cc
    cases e
    exact ⟨i, j, p, q, hc i j cc, k _ H (Ext.refl M H) r (hg M H i j)⟩
  · cases e
def intO0 (f : Int → Int → PV) (x y : PV) (h : PH) : Option PV := match x, y with
  | .int i, .int j => some (f i j)
  | _, _ => none
theorem oj_int0 {g : Int → Int → V} {f : Int → Int → PV} (hg : ∀ M H i j, Rep G M H (g i j) (f i j)) : OpJ G (rI0 g) (intO0 f) := by
  intro M h H u v x y z Q r p q e k
  cases x <;> cases y <;> first | (cases e; done) | skip
  rename_i i j
  cases e
  exact ⟨i, j, p, q, k _ H (Ext.refl M H) r (hg M H i j)⟩
def subO : PV → PV → PH → Option PV := intO0 fun i j => .int (i - j)
theorem oj_sub : OpJ G (rI0 fun i j => .int (i - j)) subO := oj_int0 fun _ _ _ _ => rfl
/-- comparisons of ints -/
def ltI : PV → PV → PH → Option PV := intO0 fun i j => .bl (decide (i < j))
def leI : PV → PV → PH → Option PV := intO0 fun i j => .bl (decide (i ≤ j))
def gtI : PV → PV → PH → Option PV := intO0 fun i j => .bl (decide (j < i))
def geI : PV → PV → PH → Option PV := intO0 fun i j => .bl (decide (j ≤ i))
theorem oj_ltI : OpJ G (rI0 fun i j => .bl (decide (i < j))) ltI := oj_int0 fun _ _ _ _ => rfl
theorem oj_leI : OpJ G (rI0 fun i j => .bl (decide (i ≤ j))) leI := oj_int0 fun _ _ _ _ => rfl
theorem oj_gtI : OpJ G (rI0 fun i j => .bl (decide (j < i))) gtI := oj_int0 fun _ _ _ _ => rfl
theorem oj_geI : OpJ G (rI0 fun i j => .bl (decide (j ≤ i))) geI := oj_int0 fun _ _ _ _ => rfl
end
end J

/-! J: numbers, subscripts, slices, len, int, list, tuple, sorted; methods of built-in types. -/
namespace J
open PySem PySem.Spec PyProof.Rows L2
section
variable {G : Gc} {X : Cx} {W : WX}
/-! ### numbers -/
def mulO : PV → PV → PH → Option PV := intO (fun i j => decide (i.natAbs < 2 ^ 64) || decide (j.natAbs < 2 ^ 64)) fun i j => .int (i * j)
theorem oj_mul : OpJ G (rI CMul fun i j => .int (i * j)) mulO := oj_int (fun i j h => by
  simp only [Bool.or_eq_true, decide_eq_true_eq] at h
  rcases h with h | h
  · exact .inl (by omega)
  · exact .inr (by omega)) fun _ _ _ _ => rfl
def fdivO : PV → PV → PH → Option PV := intO (fun i j => decide (0 < j ∧ j < 1073741824)) fun i j => .int (i / j)
theorem oj_fdiv : OpJ G (rI CDiv fun i j => .int (i / j)) fdivO := oj_int (fun i j h => (of_decide_eq_true h : 0 < j ∧ j < 1073741824)) fun _ _ _ _ => rfl
def modO : PV → PV → PH → Option PV := intO (fun i j => decide (0 < j)) fun i j => .int (i % j)
theorem oj_mod : OpJ G (rI (fun _ j => 0 < j) fun i j => .int (i % j)) modO := oj_int (fun i j h => of_decide_eq_true h) fun _ _ _ _ => rfl
def powO : PV → PV → PH → Option PV := intO (fun i j => decide (0 ≤ j ∧ j ≤ 1000000 ∧ i.natAbs < 2 ^ 64)) fun i j => .int (i ^ j.toNat)
theorem oj_pow : OpJ G (rI CPow fun i j => .int (i ^ j.toNat)) powO := oj_int (fun i j h => (of_decide_eq_true h : 0 ≤ j ∧ j ≤ 1000000 ∧ i.natAbs < 2 ^ 64)) fun _ _ _ _ => rfl
def negO (x : PV) (h : PH) : Option PV := match x with
  | .int i => some (.int (-i))
  | _ => none
theorem uj_neg : UnJ G (rU fun i => .int (-i)) negO := by
  intro M h H u x z Q r p e k
  cases x <;> first | (cases e; done) | skip
  rename_i i
  cases e
  exact ⟨i, p, k _ H (Ext.refl M H) r rfl⟩
/-! ### is None -/
def isNone : PV → Bool
  | .non => true
  | _ => false
def isO (x y : PV) (h : PH) : Option PV := match y with
  | .non => some (.bl (isNone x))
  | _ => none
def isnO (x y : PV) (h : PH) : Option PV := match y with
  | .non => some (.bl (!isNone x))
  | _ => none
theorem rep_none {M : Gh} {H : Hp} {u : V} {x : PV} (p : Rep G M H u x) : decide (u = .non) = isNone x := by
  cases x with
  | non => cases p; rfl
  | bl _ => cases p; rfl
  | int _ => cases p; rfl
  | str _ => cases p; rfl
  | tup _ => obtain ⟨a, xs, rfl, _⟩ := p; rfl
  | kt _ => obtain ⟨a, xs, rfl, _⟩ := p; rfl
  | lst _ => obtain ⟨a, xs, rfl, _⟩ := p; rfl
  | dic _ _ => obtain ⟨a, xs, rfl, _⟩ := p; rfl
  | loc _ => obtain ⟨a, rfl, _⟩ := p; rfl
theorem oj_is : OpJ G (fun x y H Q => y = .non ∧ Q (.bl (decide (x = .non))) H) isO := by
  intro M h H u v x y z Q r p q e k
  cases y <;> first | (cases e; done) | skip
  cases e
  exact ⟨q, k _ H (Ext.refl M H) r (by rw [rep_none p]; rfl)⟩
theorem oj_isn : OpJ G (fun x y H Q => y = .non ∧ Q (.bl (!decide (x = .non))) H) isnO := by
  intro M h H u v x y z Q r p q e k
  cases y <;> first | (cases e; done) | skip
  cases e
  exact ⟨q, k _ H (Ext.refl M H) r (by rw [rep_none p]; rfl)⟩
/-! ### comparisons of data -/
def cmpC (x y : PV) (h : PH) : Bool := dle DEPTH (rd h x) && dle DEPTH (rd h y) && PySem.W.alike (toD (rd h x)) (toD (rd h y)) && !isNone (rd h x)
def dlt (x y : PV) : Bool := PySem.W.dataLt (toD x) (toD y)
def ltO (x y : PV) (h : PH) : Option PV := if cmpC x y h then some (.bl (dlt (rd h x) (rd h y))) else none
def gtO (x y : PV) (h : PH) : Option PV := if cmpC x y h then some (.bl (dlt (rd h y) (rd h x))) else none
def leO (x y : PV) (h : PH) : Option PV := if cmpC x y h then some (.bl (!dlt (rd h y) (rd h x))) else none
def geO (x y : PV) (h : PH) : Option PV := if cmpC x y h then some (.bl (!dlt (rd h x) (rd h y))) else none
def rCmp (K : PySem.W.Frag) (f : PyData → PyData → Bool) : R2 := fun x y H Q => ∃ d e, Dp K H x d ∧ Dp K H y e ∧ PySem.W.alike d e = true ∧ d ≠ .none ∧ d.depth ≤ 60 ∧ Q (.bl (f d e)) H
theorem op_ltD (hu : X.A.units + 64 < cLine) : OpR X (compareOp .Lt) (rCmp X.K fun d e => PySem.W.dataLt d e) := by
  intro pins s σ H x y v u Q I rx ry h
  obtain ⟨d, e, hd, he, sd, se, z, q⟩ := h
  obtain ⟨as, r1⟩ := Dp.reads I d x v hd rx
  obtain ⟨bs, r2⟩ := Dp.reads I e y u he ry
  exact PySem.W.lt_data r1 r2 sd se (by omega) ⟨.bl _, H, I, rfl, q⟩
theorem op_gtD (hu : X.A.units + 64 < cLine) : OpR X (compareOp .Gt) (rCmp X.K fun d e => PySem.W.dataLt e d) := by
  intro pins s σ H x y v u Q I rx ry h
  obtain ⟨d, e, hd, he, sd, se, z, q⟩ := h
  obtain ⟨as, r1⟩ := Dp.reads I d x v hd rx
  obtain ⟨bs, r2⟩ := Dp.reads I e y u he ry
  exact PySem.W.gt_data r1 r2 sd se (by omega) ⟨.bl _, H, I, rfl, q⟩
theorem op_leD (hu : X.A.units + 64 < cLine) : OpR X (compareOp .LtE) (rCmp X.K fun d e => !PySem.W.dataLt e d) := by
  intro pins s σ H x y v u Q I rx ry h
  obtain ⟨d, e, hd, he, sd, se, z, q⟩ := h
  obtain ⟨as, r1⟩ := Dp.reads I d x v hd rx
  obtain ⟨bs, r2⟩ := Dp.reads I e y u he ry
  exact PySem.W.le_data r1 r2 sd se (by omega) ⟨.bl _, H, I, rfl, q⟩
theorem op_geD (hu : X.A.units + 64 < cLine) : OpR X (compareOp .GtE) (rCmp X.K fun d e => !PySem.W.dataLt d e) := by
  intro pins s σ H x y v u Q I rx ry h
  obtain ⟨d, e, hd, he, sd, se, z, q⟩ := h
  obtain ⟨as, r1⟩ := Dp.reads I d x v hd rx
  obtain ⟨bs, r2⟩ := Dp.reads I e y u he ry
  exact PySem.W.ge_data r1 r2 sd se (by omega) ⟨.bl _, H, I, rfl, q⟩
theorem isNone_toD {x : PV} (h : isNone x = false) : toD x ≠ .none := by cases x <;> first | (cases h; done) | (intro e; cases e)
theorem oj_cmp (f : PyData → PyData → Bool) : OpJ G (rCmp G.K f) (fun x y h => if cmpC x y h then some (.bl (f (toD (rd h x)) (toD (rd h y)))) else none) := by
  intro M h H u v x y z Q r p q e k
  simp only at e
  split at e
  · rename_i c
    unfold cmpC at c
    simp only [Bool.and_eq_true, Bool.not_eq_true'] at c
    obtain ⟨⟨⟨c1, c2⟩, c3⟩, c4⟩ := c
    cases e
    exact ⟨_, _, Rep.dpr r p c1, Rep.dpr r q c2, c3, isNone_toD c4, (dle_ok _ _ c1).2, k _ H (Ext.refl M H) r rfl⟩
  · cases e
theorem oj_ltD : OpJ G (rCmp G.K fun d e => PySem.W.dataLt d e) ltO := oj_cmp _
theorem oj_gtD : OpJ G (rCmp G.K fun d e => PySem.W.dataLt e d) gtO := oj_cmp _
theorem oj_leD : OpJ G (rCmp G.K fun d e => !PySem.W.dataLt e d) leO := oj_cmp _
theorem oj_geD : OpJ G (rCmp G.K fun d e => !PySem.W.dataLt d e) geO := oj_cmp _

/-! ### subscripts, slices -/
theorem Reps.atI {M : Gh} {H : Hp} {us : List V} {xs : List PV} (r : Reps G M H us xs) {i : Int} {v : PV} (e : atI xs i = some v) : ∃ u, atI us i = some u ∧ Rep G M H u v := by
  unfold L2.atI at e ⊢
  rw [← r.length] at e
  cases q : ixN us.length i with
  | none => rw [q] at e; cases e
  | some j =>
    rw [q] at e
    exact r.get e
def ixO (x y : PV) (h : PH) : Option PV := match y with
  | .int i => match itemsOf h x with
    | some xs => atI xs i
    | none => match x with
      | .str z => if z.length ≤ sizeLine then (atI z.cps.toList i).map fun c => .str ⟨#[c]⟩ else none
      | _ => none
  | _ => none
theorem oj_ix : OpJ G (rIx G.K) ixO := by
  intro M h H u v x y z Q r p q e k
  unfold ixO at e
  split at e
  · rename_i i
    cases q
    split at e
    · rename_i xs hx
      obtain ⟨a, us, rfl, s, _, rs⟩ := items_rep r p hx
      obtain ⟨w, h1, h2⟩ := rs.atI e
      rcases s with s | s
      · exact .inl ⟨a, us, i, w, rfl, rfl, s, h1, k w H (Ext.refl M H) r h2⟩
      · exact .inr (.inl ⟨a, us, i, w, rfl, rfl, s, h1, k w H (Ext.refl M H) r h2⟩)
    · split at e
      · rename_i zz _
        split at e
        · rename_i hz
          cases hc : L2.atI zz.cps.toList i with
          | none => rw [hc] at e; cases e
          | some c =>
            rw [hc] at e
            cases e
            exact .inr (.inr ⟨zz, i, c, p, rfl, hz, hc, k _ H (Ext.refl M H) r rfl⟩)
        · cases e
      · cases e
  · cases e
/-- an optional part of a slice -/
abbrev SO := En → PH → R (Option Int)
abbrev JO (G : Gc) (X : Cx) (W : WX) (e : Option Expr) (f : SO) : Prop := L2.PO X e (TF G W (fun _ _ (u v : Option Int) => u = v) f)
def onone : SO := fun _ h => .ok none h
def osome (f : SE) : SO := fun ρ h => (f ρ h).bind fun v h1 => match v with
  | .int i => .ok (some i) h1
  | _ => .bad
theorem po_imp {e : Option Expr} {t t' : TO} (h : L2.PO X e t) (i : ∀ σ H Q, t' σ H Q → t σ H Q) : L2.PO X e t' := ⟨fun pins s σ H Q I q => h.run pins s σ H Q I (i σ H Q q)⟩
theorem jo_none : JO G X W none onone := po_imp po_none fun σ H Q ⟨M, ρ, h, r, e, o⟩ => Out.ret o r rfl
theorem jo_some {e : Expr} {f : SE} (h : JE G X W e f) : JO G X W (some e) (osome f) := po_imp (po_some h) fun σ H Q t =>
  (TF.bind (Rp := fun M H (u : V) (v : PV) => Rep G M H u v) t).mono fun u H1 ⟨M1, ρ, h1, v, r1, e1, p, o⟩ => by
    cases v <;> first | exact False.elim o | skip
    rename_i i
    exact ⟨i, p, Out.ret o r1 rfl⟩
def cut {α : Type} (xs : List α) (lo hi : Option Int) : List α := (xs.drop (HT.sIx xs.length 0 lo)).take (HT.sIx xs.length xs.length hi - HT.sIx xs.length 0 lo)
theorem cut_length {α : Type} (xs : List α) (lo hi : Option Int) : (cut xs lo hi).length ≤ xs.length := by
  unfold cut
  rw [List.length_take, List.length_drop]
  omega
theorem cut_whole {α : Type} {xs : List α} {lo hi : Option Int} (h : HT.sIx xs.length 0 lo = 0 ∧ HT.sIx xs.length xs.length hi = xs.length) : cut xs lo hi = xs := by
  unfold cut
  rw [h.1, h.2]
  simp
theorem Reps.cut {M : Gh} {H : Hp} {us : List V} {xs : List PV} (r : Reps G M H us xs) (lo hi : Option Int) : Reps G M H (cutV us lo hi) (cut xs lo hi) := by
  unfold L2.cutV J.cut
  rw [r.length]
  exact (r.drop _).take _
/-- t[lo:hi], the new one's object known -/
def rSlF (K : PySem.W.Frag) : V → Option Int → Option Int → Hp → VK → Prop := fun x lo hi H Q => ∃ a xs, x = .ref a ∧ SqT K H a xs ∧
  (HT.sIx xs.length 0 lo = 0 ∧ HT.sIx xs.length xs.length hi = xs.length → Q (.ref a) H) ∧ (¬ (HT.sIx xs.length 0 lo = 0 ∧ HT.sIx xs.length xs.length hi = xs.length) → ∀ p o, H p = none → o.dict = none → Q (.ref p) (upd H p (.frz o (.tup (cutV xs lo hi)))))
theorem sl_tupF : SlR X (rSlF X.K) := by
  intro pins s σ H x v vl vu lo hi sl Q I rx hs pl pu h
  obtain ⟨a, xs, rfl, hx, q1, q2⟩ := h
  cases rx
  obtain ⟨its, r, ht, hz⟩ := I.tuple hx
  have hlen : its.toArray.size = xs.length := by rw [List.size_toArray]; exact r.length.symm
  refine ⟨"tuple", _, PyProof.Rows.slot_tuple_getitem.lookup, ht.typeIs, ?_⟩
  by_cases hw : HT.sIx xs.length 0 lo = 0 ∧ HT.sIx xs.length xs.length hi = xs.length
  · exact getItem_tuple_whole ht hs pl pu (by rw [hlen]; exact hw) ⟨.ref a, H, I, rfl, q1 hw⟩
  · refine HT.getItem_tuple_cut ht hs pl pu (by rw [hlen]; exact hw) ?_ (by rw [hlen]; exact hz)
    rw [hlen]
    refine ⟨.ref s.heap.objs.size, _, I.laid (t' := s.toks) (o := .frz { cls := .type "tuple", data := .seq ((its.toArray.toList.drop (HT.sIx xs.length 0 lo)).take (HT.sIx xs.length xs.length hi - HT.sIx xs.length 0 lo)).toArray } (.tup (cutV xs lo hi))) (fun b ob q => Heap.get?_push_of_some _ q) (Nat.le_refl _) ?_, rfl, q2 hw _ _ (I.hok.fresh (Nat.le_refl _)) rfl⟩
    exact ⟨Heap.get?_push_size _ rfl, Nat.le_trans (cutV_length xs lo hi) hz, _, (r.drop (HT.sIx xs.length 0 lo)).take (HT.sIx xs.length xs.length hi - HT.sIx xs.length 0 lo), IsTup.new _ _⟩
def slO (x : PV) (lo hi : Option Int) (h : PH) : Option PV := match rd h x with
  | .lst xs => some (.lst (cut xs lo hi))
  | .tup xs => some (.tup (cut xs lo hi))
  | _ => none
def slc (fx : SE) (fl fh : SO) : SE := fun ρ h => (fx ρ h).bind fun x h1 => (fl ρ h1).bind fun l h2 => (fh ρ h2).bind fun u h3 => R.of h3 (slO x l u h3)
theorem je_slice {e : Expr} {lo hi : Option Expr} {p2 pos : Pos} {fx : SE} {fl fh : SO} (hK : G.K = X.K) (he : JE G X W e fx) (hl : JO G X W lo fl) (hh : JO G X W hi fh) : JE G X W (.Subscript e (.Slice lo hi none p2) pos) (slc fx fl fh) := by
  refine pe_imp (pe_slice (SlR.or sl_list sl_tupF) he hl hh) fun σ H Q t => ?_
  refine (TF.bind (Rp := fun M H (u : V) (v : PV) => Rep G M H u v) t).mono fun u H1 ⟨M1, ρ, h1, x, r1, e1, p, o⟩ => ⟨M1, ρ, h1, r1, e1, (Out.bind (Rp := fun _ _ (u v : Option Int) => u = v) o).mono fun l H2 ⟨M2, h2, l', x2, r2, pl, o2⟩ => ?_⟩
  refine ⟨M2, ρ, h2, r2, e1.ext x2, (Out.bind (Rp := fun _ _ (u v : Option Int) => u = v) o2).mono fun l3 H3 ⟨M3, h3, l3', x3, r3, pl3, o3⟩ => ?_⟩
  subst pl pl3
  have p3 := Rep.ext (x2.trans x3) x u p
  rw [← hK]
  unfold slO at o3
  cases q : rd h3 x <;> rw [q] at o3 <;> first | exact False.elim o3 | skip
  · rename_i xs
    right
    have := rd_tup_inv q
    subst this
    obtain ⟨a, us, rfl, s, z, rs⟩ := p3
    have hl := rs.length
    refine ⟨a, us, rfl, s.sq, fun hw => ?_, fun hw pp ob hp hd => ?_⟩
    · refine o3 _ M3 H3 (Ext.refl _ _) r3 ?_
      rw [cut_whole (by rw [← hl]; exact hw)]
      exact ⟨a, us, rfl, s, z, rs⟩
    · exact o3 _ M3 _ (Ext.new r3 hp) (r3.new hp) (rep_tup_new r3 hp hd (Nat.le_trans (cutV_length _ _ _) z) (rs.cut _ _))
  · rename_i xs
    left
    obtain ⟨a, us, rfl, s, z, rs⟩ := Rep.list r3 p3 q
    exact ⟨a, us, rfl, s, fun pp hp => o3 _ M3 _ (Ext.new r3 hp) (r3.new hp) (rep_lst_new r3 hp (Nat.le_trans (cutV_length _ _ _) z) (rs.cut _ _))⟩

/-! ### built-ins of one argument -/
theorem reps1 {M : Gh} {H : Hp} {us : List V} {x : PV} (r : Reps G M H us [x]) : ∃ u, us = [u] ∧ Rep G M H u x := by
  match us, r with
  | [u], r => exact ⟨u, rfl, r.1⟩
  | [], r => exact r.elim
  | _ :: _ :: _, r => exact r.2.elim
theorem reps2 {M : Gh} {H : Hp} {us : List V} {x y : PV} (r : Reps G M H us [x, y]) : ∃ u v, us = [u, v] ∧ Rep G M H u x ∧ Rep G M H v y := by
  match us, r with
  | [u, v], r => exact ⟨u, v, rfl, r.1, r.2.1⟩
  | [], r => exact r.elim
  | [_], r => exact r.2.elim
  | _ :: _ :: _ :: _, r => exact r.2.2.elim
def lenO (xs : List PV) (h : PH) : Option PV := match xs with
  | [x] => match itemsOf h x with
    | some ys => some (.int ys.length)
    | none => match x with
      | .str z => if z.length ≤ sizeLine then some (.int z.length) else none
      | _ => none
  | _ => none
def rLenJ (K : PySem.W.Frag) : List V → Hp → VK → Prop := fun xs H Q => (∃ p ys, xs = [.ref p] ∧ (SqL K H p ys ∨ SqT K H p ys) ∧ Q (.int ys.length) H) ∨ ∃ z, xs = [.str z] ∧ z.length ≤ sizeLine ∧ Q (.int z.length) H
theorem cr_lenJ : CallR X (.builtin "len") (rLenJ X.K) := CallR.or call_len_seq call_len_str
theorem cj_len : CallJ G (rLenJ G.K) lenO := by
  intro M h H us xs z Q r p e k
  unfold lenO at e
  split at e
  · rename_i x
    obtain ⟨u, rfl, pu⟩ := reps1 p
    split at e
    · rename_i ys hx
      cases e
      obtain ⟨a, vs, rfl, s, _, rs⟩ := items_rep r pu hx
      refine .inl ⟨a, vs, rfl, s, ?_⟩
      rw [rs.length]
      exact k _ H (Ext.refl M H) r rfl
    · split at e
      · rename_i zz _
        split at e
        · rename_i hz
          cases e
          exact .inr ⟨zz, by rw [show u = V.str zz from pu], hz, k _ H (Ext.refl M H) r rfl⟩
        · cases e
      · cases e
  · cases e
def absO (xs : List PV) (h : PH) : Option PV := match xs with
  | [.int i] => some (.int (if i < 0 then -i else i))
  | _ => none
theorem cj_abs : CallJ G (fun xs H Q => ∃ i, xs = [.int i] ∧ Q (.int (if i < 0 then -i else i)) H) absO := by
  intro M h H us xs z Q r p e k
  unfold absO at e
  split at e
  · rename_i i
    cases e
    obtain ⟨u, rfl, pu⟩ := reps1 p
    exact ⟨i, by rw [show u = V.int i from pu], k _ H (Ext.refl M H) r rfl⟩
  · cases e
def intO1 (xs : List PV) (h : PH) : Option PV := match xs with
  | [.int i] => some (.int i)
  | [.bl b] => some (.int (if b then 1 else 0))
  | _ => none
theorem cj_int : CallJ G (fun xs H Q => (∃ i, xs = [.int i] ∧ Q (.int i) H) ∨ ∃ k, xs = [.bl k] ∧ Q (.int (if k then 1 else 0)) H) intO1 := by
  intro M h H us xs z Q r p e k
  unfold intO1 at e
  split at e
  · rename_i i
    cases e
    obtain ⟨u, rfl, pu⟩ := reps1 p
    exact .inl ⟨i, by rw [show u = V.int i from pu], k _ H (Ext.refl M H) r rfl⟩
  · rename_i i
    cases e
    obtain ⟨u, rfl, pu⟩ := reps1 p
    exact .inr ⟨i, by rw [show u = V.bl i from pu], k _ H (Ext.refl M H) r rfl⟩
  · cases e
def max2O (xs : List PV) (h : PH) : Option PV := match xs with
  | [.int i, .int j] => some (.int (if j > i then j else i))
  | _ => none
theorem cj_max2 : CallJ G (fun xs H Q => ∃ i j, xs = [.int i, .int j] ∧ Q (.int (if j > i then j else i)) H) max2O := by
  intro M h H us xs z Q r p e k
  unfold max2O at e
  split at e
  · rename_i i j
    cases e
    obtain ⟨u, v, rfl, pu, qu⟩ := reps2 p
    exact ⟨i, j, by rw [show u = V.int i from pu, show v = V.int j from qu], k _ H (Ext.refl M H) r rfl⟩
  · cases e
def min2O (xs : List PV) (h : PH) : Option PV := match xs with
  | [.int i, .int j] => some (.int (if j < i then j else i))
  | _ => none
theorem cj_min2 : CallJ G (fun xs H Q => ∃ i j, xs = [.int i, .int j] ∧ Q (.int (if j < i then j else i)) H) min2O := by
  intro M h H us xs z Q r p e k
  unfold min2O at e
  split at e
  · rename_i i j
    cases e
    obtain ⟨u, v, rfl, pu, qu⟩ := reps2 p
    exact ⟨i, j, by rw [show u = V.int i from pu, show v = V.int j from qu], k _ H (Ext.refl M H) r rfl⟩
  · cases e
/-! ### list(x), tuple(x) -/
def listO (xs : List PV) (h : PH) : Option PV := match xs with
  | [x] => (itemsOf h x).map .lst
  | _ => none
theorem cj_list : CallJ G (fun xs H Q => ∃ p ys, xs = [.ref p] ∧ (SqL G.K H p ys ∨ SqT G.K H p ys) ∧ ∀ l, H l = none → Q (.ref l) (upd H l (.lst ys))) listO := by
  intro M h H us xs z Q r p e k
  unfold listO at e
  split at e
  · rename_i x
    obtain ⟨u, rfl, pu⟩ := reps1 p
    cases hx : itemsOf h x with
    | none => rw [hx] at e; cases e
    | some ys =>
      rw [hx] at e
      cases e
      obtain ⟨a, vs, rfl, s, z, rs⟩ := items_rep r pu hx
      exact ⟨a, vs, rfl, s, fun l hl => k _ _ (Ext.new r hl) (r.new hl) (rep_lst_new r hl z rs)⟩
  · cases e
def rTupF (K : PySem.W.Frag) : List V → Hp → VK → Prop := fun xs H Q => ∃ p ys, xs = [.ref p] ∧ ((SqL K H p ys ∧ ∀ l o, H l = none → o.dict = none → Q (.ref l) (upd H l (.frz o (.tup ys)))) ∨ (SqT K H p ys ∧ Q (.ref p) H))
theorem cr_tupF : CallR X (.type "tuple") (rTupF X.K) := by
  intro pins s σ H xs us Q I r h
  obtain ⟨p, ys, rfl, h⟩ := h
  obtain ⟨u, rfl, rx⟩ := vals1 r
  cases rx
  rcases h with ⟨hq, q⟩ | ⟨hq, q⟩
  · obtain ⟨its, r', pl, hz⟩ := I.list hq
    have hlen := r'.length
    refine call_tuple_list pl.isList (fun h' kp => ?_) (by simp only [List.size_toArray] <;> omega)
    have I1 : Inv X pins σ H { s with heap := h' } := I.kept (t' := s.toks) kp
    have I2 : Inv X pins σ (upd H h'.objs.size (.frz { cls := .type "tuple", data := .seq its.toArray } (.tup ys))) { s with heap := h'.push { cls := .type "tuple", data := .seq its.toArray } } :=
      I1.laid (t' := s.toks) (fun b o e => Heap.get?_push_of_some _ e) (Nat.le_refl _) ⟨Heap.get?_push_size _ rfl, hz, its, r', IsTup.new _ _⟩
    exact ⟨.ref h'.objs.size, _, I2, rfl, q _ _ (I1.hok.fresh (Nat.le_refl _)) rfl⟩
  · obtain ⟨its, r', pl, hz⟩ := I.tuple hq
    exact call_tuple_same pl ⟨.ref p, H, I, rfl, q⟩
def tupleO (xs : List PV) (h : PH) : Option PV := match xs with
  | [x] => match rd h x with
    | .lst ys => some (.tup ys)
    | .tup ys => some (.tup ys)
    | _ => none
  | _ => none
theorem cj_tuple : CallJ G (rTupF G.K) tupleO := by
  intro M h H us xs z Q r p e k
  unfold tupleO at e
  split at e
  · rename_i x
    obtain ⟨u, rfl, pu⟩ := reps1 p
    split at e
    · rename_i ys hx
      cases e
      obtain ⟨a, vs, rfl, s, z, rs⟩ := Rep.list r pu hx
      exact ⟨a, vs, rfl, .inl ⟨s, fun l o hl hd => k _ _ (Ext.new r hl) (r.new hl) (rep_tup_new r hl hd z rs)⟩⟩
    · rename_i ys hx
      cases e
      have := rd_tup_inv hx
      subst this
      obtain ⟨a, vs, rfl, s, z, rs⟩ := pu
      exact ⟨a, vs, rfl, .inr ⟨s.sq, k _ H (Ext.refl M H) r ⟨a, vs, rfl, s, z, rs⟩⟩⟩
    · cases e
  · cases e
/-- list(x) as a mutable list -/
def listM (g : SA) : SE := fun ρ h => (g ρ h).bind fun xs h1 => match xs with
  | [x] => match itemsOf h1 x with
    | some ys => .ok (.loc h1.length) (h1 ++ [.lst ys])
    | none => .bad
  | _ => .bad
theorem je_listM {e : Expr} {es : List Expr} {gA : SA} {p pos : Pos} (hK : G.K = X.K) (hm : X.mg "list" = none) (ha : JAs G X W (e :: es) gA) (hg : Gl X "list" := by rfl) (hv : bootBuiltins "list" = some (.type "list") := by decide +kernel)
    (he : starEach (e :: es) X.env = (false, eval e X.env) :: starEach es X.env := by rfl) (hpl : (backTo pos (starEach es X.env)).any (·.1) = false := by rfl) : JE G X W (.Call (.Name "list" p) (e :: es) [] pos) (listM gA) := by
  refine pe_imp (pe_callTy call_list_of hg hm hv ha (by decide) (by decide) he hpl) fun σ H Q t => (TF.bind (Rp := fun M H (u : List V) (v : List PV) => Reps G M H u v) t).mono fun us H1 ⟨M1, ρ, h1, v, r1, e1, p, o⟩ => ?_
  rw [← hK]
  match v, o, p with
  | [x], o, p =>
    obtain ⟨u, rfl, pu⟩ := reps1 p
    simp only at o
    split at o
    · rename_i ys hx
      obtain ⟨a, vs, rfl, s, z, rs⟩ := items_rep r1 pu hx
      refine ⟨a, vs, rfl, s, fun l hl => ?_⟩
      have x := Ext.alloc (o := HO.lst vs) r1 hl
      exact o _ _ _ x (r1.alloc hl ⟨vs, upd_same, z, Reps.ext x ys vs rs⟩) r1.newLoc
    · exact False.elim o
  | [], o, p => exact False.elim o
  | _ :: _ :: _, o, p => exact False.elim o

/-! ### sorted of ints -/
def intsOf : List PV → Option (List Int)
  | [] => some []
  | .int i :: r => (intsOf r).map (i :: ·)
  | _ :: _ => none
theorem intsOf_eq : ∀ {xs : List PV} {ns : List Int}, intsOf xs = some ns → xs = ns.map .int
  | [], ns, e => by cases e; rfl
  | x :: r, ns, e => by
    cases x <;> first | (cases e; done) | skip
    rename_i i
    unfold intsOf at e
    cases q : intsOf r with
    | none => rw [q] at e; cases e
    | some ms => rw [q] at e; cases e; rw [intsOf_eq q]; rfl
@[simp] theorem intsOf_map : ∀ ns : List Int, intsOf (ns.map .int) = some ns
  | [] => rfl
  | n :: ns => by rw [List.map_cons, intsOf, intsOf_map ns]; rfl
theorem Reps.ints {M : Gh} {H : Hp} : ∀ {us : List V} {ns : List Int}, Reps G M H us (ns.map .int) → us = ns.map V.int
  | [], [], _ => rfl
  | [], _ :: _, h => h.elim
  | _ :: _, [], h => h.elim
  | u :: us, n :: ns, h => by
    rw [List.map_cons, Reps.ints h.2, show u = V.int n from h.1]
theorem reps_ints {M : Gh} {H : Hp} : ∀ ns : List Int, Reps G M H (ns.map V.int) (ns.map .int)
  | [] => trivial
  | n :: ns => ⟨rfl, reps_ints ns⟩
def ins1 (x : Int) : List Int → List Int
  | [] => [x]
  | y :: ys => if x ≤ y then x :: y :: ys else y :: ins1 x ys
def isort : List Int → List Int
  | [] => []
  | x :: xs => ins1 x (isort xs)
theorem ins1_perm (x : Int) : ∀ ys : List Int, (ins1 x ys).Perm (x :: ys)
  | [] => .refl _
  | y :: ys => by
    unfold ins1
    split
    · exact .refl _
    · exact ((ins1_perm x ys).cons y).trans (.swap x y ys)
theorem isort_perm : ∀ ns : List Int, (isort ns).Perm ns
  | [] => .refl _
  | x :: xs => (ins1_perm x (isort xs)).trans ((isort_perm xs).cons x)
theorem ins1_sorted (x : Int) : ∀ ys : List Int, ys.Pairwise (· ≤ ·) → (ins1 x ys).Pairwise (· ≤ ·)
  | [], _ => by simp [ins1]
  | y :: ys, h => by
    unfold ins1
    rw [List.pairwise_cons] at h
    split
    · rename_i q
      refine List.pairwise_cons.mpr ⟨fun z hz => ?_, List.pairwise_cons.mpr h⟩
      rcases List.mem_cons.mp hz with rfl | hz
      · exact q
      · exact Int.le_trans q (h.1 z hz)
    · rename_i q
      refine List.pairwise_cons.mpr ⟨fun z hz => ?_, ins1_sorted x ys h.2⟩
      rcases List.mem_cons.mp ((ins1_perm x ys).mem_iff.mp hz) with rfl | hz
      · omega
      · exact h.1 z hz
theorem isort_sorted : ∀ ns : List Int, (isort ns).Pairwise (· ≤ ·)
  | [] => .nil
  | x :: xs => ins1_sorted x _ (isort_sorted xs)
theorem sorted_unique : ∀ {a b : List Int}, a.Perm b → a.Pairwise (· ≤ ·) → b.Pairwise (· ≤ ·) → a = b := fun {a b} p h1 h2 =>
  List.Perm.eq_of_pairwise (le := (· ≤ ·)) (fun x y _ _ h1 h2 => Int.le_antisymm h1 h2) h1 h2 p
def sortedO (xs : List PV) (h : PH) : Option PV := match xs with
  | [x] => match rd h x with
    | .lst ys => (intsOf ys).map fun ns => .lst ((isort ns).map .int)
    | _ => none
  | _ => none
theorem cj_sorted : CallJ G (rSortedI G.K) sortedO := by
  intro M h H us xs z Q r p e k
  unfold sortedO at e
  split at e
  · rename_i x
    obtain ⟨u, rfl, pu⟩ := reps1 p
    split at e
    · rename_i ys hx
      cases hi : intsOf ys with
      | none => rw [hi] at e; cases e
      | some ns =>
        rw [hi] at e
        cases e
        have := intsOf_eq hi
        subst this
        obtain ⟨a, vs, rfl, s, z, rs⟩ := Rep.list r pu hx
        have := rs.ints
        subst this
        refine ⟨a, ns, rfl, s, fun ns' p h1 h2 hp => ?_⟩
        rw [sorted_unique (h1.trans (isort_perm ns).symm) h2 (isort_sorted ns)]
        refine k _ _ (Ext.new r hp) (r.new hp) (rep_lst_new r hp ?_ (reps_ints _))
        rw [List.length_map, (isort_perm ns).length_eq]
        rw [List.length_map] at z
        exact z
    · cases e
  · cases e
end
end J

/-! J: methods of built-in types; stores. -/
namespace J
open PySem PySem.Spec PyProof.Rows L2
inductive Ty where
  | list | tuple | str | dict
def Ty.nm : Ty → String
  | .list => "list"
  | .tuple => "tuple"
  | .str => "str"
  | .dict => "dict"
/-- a dict, mutable or not -/
def dicO : Option PO → Option (List PV × List PV)
  | some (.dic ks vs) => some (ks, vs)
  | _ => none
def rdD (h : PH) : PV → Option (List PV × List PV)
  | .dic ks vs => some (ks, vs)
  | .loc n => dicO h[n]?
  | _ => none
def isT : Ty → PH → PV → Bool
  | .list, h, x => match rd h x with
    | .lst _ => true
    | _ => false
  | .tuple, _, x => match x with
    | .tup _ => true
    | _ => false
  | .str, _, x => match x with
    | .str _ => true
    | _ => false
  | .dict, h, x => (rdD h x).isSome
def tyG (K : PySem.W.Frag) (T : Ty) (x : V) (H : Hp) : Prop := match T with
  | .list => ∃ p xs, x = .ref p ∧ SqL K H p xs
  | .tuple => ∃ p, x = .ref p ∧ ((∃ o xs, o.dict = none ∧ H p = some (.frz o (.tup xs))) ∨ ∃ o, K.lookup p = some o ∧ o.cls = .type "tuple" ∧ o.dict = none)
  | .str => ∃ z, x = .str z
  | .dict => ∃ p, x = .ref p ∧ ((∃ kvs, Rd H p (.dK kvs)) ∨ ∃ kvs, Rd H p (.dT kvs))
section
variable {X : Cx}
theorem tyG_is {pins : List (Addr × Obj)} {σ : L2.St} {H : Hp} {s : Shared} {T : Ty} {x : V} {v : Value} (I : Inv X pins σ H s) (r : RelV x v) (ty : tyG X.K T x H) :
    s.TypeIs v T.nm ∧ ∀ a, v = .ref a → ∃ ob, s.heap.get? a = some ob ∧ ob.dict = none := by
  cases T with
  | list =>
    obtain ⟨p, xs, rfl, hq⟩ := ty
    cases r
    obtain ⟨its, _, pl, _⟩ := I.list hq
    refine ⟨pl.isList.typeIs, fun a e => ?_⟩
    cases e
    obtain ⟨o, n, e, c, hd, _⟩ := pl
    exact ⟨o, e, hd⟩
  | tuple =>
    obtain ⟨p, rfl, h⟩ := ty
    cases r
    rcases h with ⟨o, xs, hd, hp⟩ | ⟨o, hk, hc, hd⟩
    · obtain ⟨e, _, its, _, o', e', c, _⟩ := I.hok p _ hp
      rw [e] at e'; cases e'
      refine ⟨⟨o, e, c⟩, fun a e2 => ?_⟩
      cases e2
      exact ⟨o, e, hd⟩
    · refine ⟨⟨o, I.kIn p o hk, hc⟩, fun a e => ?_⟩
      cases e
      exact ⟨o, I.kIn _ o hk, hd⟩
  | str =>
    obtain ⟨z, rfl⟩ := ty
    obtain ⟨t, rfl⟩ := r
    exact ⟨typeIs_str s z t, fun _ e => nomatch e⟩
  | dict =>
    obtain ⟨p, rfl, h⟩ := ty
    cases r
    have z : ∃ o, s.heap.get? p = some o ∧ o.ExactDict := by
      rcases h with ⟨kvs, hk⟩ | ⟨kvs, hk⟩
      · obtain ⟨_, _, _, _, o, _, _, e, ex, _⟩ := hk.ok I.hok
        exact ⟨o, e, ex⟩
      · obtain ⟨_, _, _, _, o, _, _, e, ex, _⟩ := hk.ok I.hok
        exact ⟨o, e, ex⟩
    obtain ⟨o, e, ex⟩ := z
    refine ⟨⟨o, e, ex.1⟩, fun a e2 => ?_⟩
    cases e2
    exact ⟨o, e, ex.2.1⟩
def tBMG (K : PySem.W.Frag) (T : Ty) (r : V → List V → Hp → VK → Prop) (to : TE) (t : TA) : TE := fun σ H Q => to σ H fun x H1 => tyG K T x H1 ∧ t σ H1 fun xs H2 => r x xs H2 Q
def tBMG0 (K : PySem.W.Frag) (T : Ty) (r : V → List V → Hp → VK → Prop) (to : TE) : TE := fun σ H Q => to σ H fun x H1 => tyG K T x H1 ∧ r x [] H1 Q
variable {o e : Expr} {es : List Expr} {to : TE} {t : TA} {name : Str} {apos cpos : Pos} {T : Ty} {id : String} {r : V → List V → Hp → VK → Prop}
theorem pe_bmG0 (pa : PlainAttrs T.nm) (slot : Slot T.nm name id) (hty : typeOf (.builtin id) = pure (.type "method_descriptor")) (hm : MtR X id r) (ho : PE X o to)
    (hbase : attributeBase o name X.env (eval o X.env) = eval o X.env) (hline : (apos.endLine == cpos.line) = true) : PE X (.Call (.Attribute o name apos) [] [] cpos) (tBMG0 X.K T r to) := by
  refine ⟨fun pins s σ H Q I h => ?_⟩
  refine wpAny_Call_method0_late hbase hline (thn (ho.run pins s σ H _ I h) fun v s1 ⟨x, H1, I1, r1, ty, q1⟩ => ?_)
  obtain ⟨h1, h2⟩ := tyG_is I1 r1 ty
  exact ⟨T.nm, id, pa, slot, hty, h1, h2, Calls.callWith_builtin rfl (PySem.evalArgs_none (hm pins s1 σ H1 x [] v [] Q I1 r1 .nil q1))⟩
theorem pe_bmG (pa : PlainAttrs T.nm) (slot : Slot T.nm name id) (hty : typeOf (.builtin id) = pure (.type "method_descriptor")) (hm : MtR X id r) (ho : PE X o to) (ha : PA X (e :: es) t)
    (hbase : attributeBase o name X.env (eval o X.env) = eval o X.env)
    (hfew : ((backTo cpos (starEach (e :: es) X.env)).all (fun x => !x.1) && (backToKw cpos (keywordEach [] X.env)).all (fun x => x.1.isSome)
      && decide ((e :: es).length + ([] : List Keyword).length + (if ([] : List Keyword).isEmpty then 0 else 1) < 30)) = true)
    (hline : (apos.endLine == cpos.line) = true) (hs : starEach (e :: es) X.env = (false, eval e X.env) :: starEach es X.env) (hplain : (backTo cpos (starEach es X.env)).any (·.1) = false) :
    PE X (.Call (.Attribute o name apos) (e :: es) [] cpos) (tBMG X.K T r to t) := by
  refine ⟨fun pins s σ H Q I h => ?_⟩
  refine wpAny_Call_method_late hbase hfew hline rfl (thn (ho.run pins s σ H _ I h) fun v s1 ⟨x, H1, I1, r1, ty, q1⟩ => ?_)
  obtain ⟨h1, h2⟩ := tyG_is I1 r1 ty
  refine ⟨T.nm, id, pa, slot, hty, h1, h2, ?_⟩
  have hA := ha.run cpos pins s1 σ H1 _ I1 q1
  rw [hs] at hA ⊢
  refine Calls.callWith_builtin (by show (false || (backTo cpos (starEach es X.env)).any (·.1)) = false; rw [hplain] <;> rfl) (Calls.evalArgs_plain ?_)
  exact thn hA fun us s2 ⟨vs, H2, I2, r2, q2⟩ => hm pins s2 σ H2 x vs v us Q I2 r1 r2 q2
end
section
variable {G : Gc} {M : Gh} {H : Hp} {h : PH}
theorem rdD_rep (r : HRel G M H h) {u : V} {x : PV} (p : Rep G M H u x) {ks vs : List PV} (e : rdD h x = some (ks, vs)) : ∃ a us, u = .ref a ∧ DK H a ks us ∧ Reps G M H us vs := by
  cases x with
  | dic k v =>
    cases e
    obtain ⟨a, us, e1, _, d, q⟩ := p
    exact ⟨a, us, e1, d, q⟩
  | loc n =>
    obtain ⟨a, e1, e2⟩ := p
    have e : dicO h[n]? = some (ks, vs) := e
    cases hn : h[n]? with
    | none => rw [hn] at e; cases e
    | some o =>
      cases o with
      | dic k v =>
        rw [hn] at e; cases e
        obtain ⟨b, h1, us, d, _, q⟩ := r.obj n _ hn
        rw [h1] at e2; cases e2
        exact ⟨_, us, e1, d, q⟩
      | lst xs => rw [hn] at e; cases e
      | ins c fs => rw [hn] at e; cases e
  | non => cases e
  | bl _ => cases e
  | int _ => cases e
  | str _ => cases e
  | tup _ => cases e
  | kt _ => cases e
  | lst _ => cases e
theorem isT_tyG (r : HRel G M H h) {u : V} {x : PV} (p : Rep G M H u x) {T : Ty} (e : isT T h x = true) : tyG G.K T u H := by
  cases T with
  | list =>
    unfold isT at e
    simp only at e
    split at e
    · rename_i xs hx
      obtain ⟨a, us, e1, s, _, _⟩ := Rep.list r p hx
      exact ⟨a, us, e1, s⟩
    · cases e
  | tuple =>
    cases x with
    | tup xs =>
      obtain ⟨a, us, e1, s, _⟩ := p
      refine ⟨a, e1, ?_⟩
      rcases s with ⟨_, o, d, s⟩ | ⟨o, its, n, k, c, d, _⟩
      · exact .inl ⟨o, us, d, s⟩
      · exact .inr ⟨o, k, c, d⟩
    | _ => cases e
  | str =>
    cases x with
    | str z => exact ⟨z, p⟩
    | _ => cases e
  | dict =>
    unfold isT at e
    simp only at e
    cases q : rdD h x with
    | none => rw [q] at e; cases e
    | some kv =>
      obtain ⟨a, us, e1, d, _⟩ := rdD_rep r p q
      refine ⟨a, e1, ?_⟩
      rcases d with ⟨kvs, d, _⟩ | ⟨kvs, d, _⟩
      · exact .inl ⟨kvs, d⟩
      · exact .inr ⟨kvs, d⟩
end
/-- a method by values: the heap may change -/
def MtJ (G : Gc) (r : V → List V → Hp → VK → Prop) (f : PV → List PV → PH → Option (PV × PH)) : Prop :=
  ∀ M h H u us x xs z h' Q, HRel G M H h → Rep G M H u x → Reps G M H us xs → f x xs h = some (z, h') → (∀ w H', Ext M H M H' → HRel G M H' h' → Rep G M H' w z → Q w H') → r u us H Q
def met (T : Ty) (f : PV → List PV → PH → Option (PV × PH)) (fo : SE) (ga : SA) : SE := fun ρ h => (fo ρ h).bind fun x h1 => if isT T h1 x then (ga ρ h1).bind fun xs h2 => (match f x xs h2 with
  | some (z, h') => .ok z h'
  | none => .bad) else .bad
section
variable {G : Gc} {X : Cx} {W : WX} {o e : Expr} {es : List Expr} {fo : SE} {ga : SA} {name : Str} {apos cpos : Pos} {T : Ty} {id : String} {r : V → List V → Hp → VK → Prop} {f : PV → List PV → PH → Option (PV × PH)}
theorem je_met (hK : G.K = X.K) (pa : PlainAttrs T.nm) (slot : Slot T.nm name id) (hty : typeOf (.builtin id) = pure (.type "method_descriptor")) (hm : MtR X id r) (hj : MtJ G r f) (ho : JE G X W o fo) (ha : JAs G X W (e :: es) ga)
    (hbase : attributeBase o name X.env (eval o X.env) = eval o X.env := by rfl)
    (hfew : ((backTo cpos (starEach (e :: es) X.env)).all (fun x => !x.1) && (backToKw cpos (keywordEach [] X.env)).all (fun x => x.1.isSome)
      && decide ((e :: es).length + ([] : List Keyword).length + (if ([] : List Keyword).isEmpty then 0 else 1) < 30)) = true := by rfl)
    (hline : (apos.endLine == cpos.line) = true := by rfl) (hs : starEach (e :: es) X.env = (false, eval e X.env) :: starEach es X.env := by rfl) (hplain : (backTo cpos (starEach es X.env)).any (·.1) = false := by rfl) :
    JE G X W (.Call (.Attribute o name apos) (e :: es) [] cpos) (met T f fo ga) := by
  refine pe_imp (pe_bmG pa slot hty hm ho ha hbase hfew hline hs hplain) fun σ H Q t => ?_
  refine (TF.bind (Rp := fun M H (u : V) (v : PV) => Rep G M H u v) t).mono fun u H1 ⟨M1, ρ, h1, x, r1, e1, p, o1⟩ => ?_
  by_cases ht : isT T h1 x = true
  · rw [if_pos ht] at o1
    refine ⟨by rw [← hK]; exact isT_tyG r1 p ht, M1, ρ, h1, r1, e1, (Out.bind (Rp := fun M H (u : List V) (v : List PV) => Reps G M H u v) o1).mono fun us H2 ⟨M2, h2, xs, x2, r2, ps, o2⟩ => ?_⟩
    cases hf : f x xs h2 with
    | none => rw [hf] at o2; exact False.elim o2
    | some zh =>
      obtain ⟨z, h'⟩ := zh
      rw [hf] at o2
      exact hj M2 h2 H2 u us x xs z h' Q r2 (Rep.ext x2 x u p) ps hf fun w H' xx rr pp => o2 w M2 H' xx rr pp
  · rw [if_neg ht] at o1
    exact False.elim o1
def met0 (T : Ty) (f : PV → List PV → PH → Option (PV × PH)) (fo : SE) : SE := fun ρ h => (fo ρ h).bind fun x h1 => if isT T h1 x then (match f x [] h1 with
  | some (z, h') => .ok z h'
  | none => .bad) else .bad
theorem je_met0 (hK : G.K = X.K) (pa : PlainAttrs T.nm) (slot : Slot T.nm name id) (hty : typeOf (.builtin id) = pure (.type "method_descriptor")) (hm : MtR X id r) (hj : MtJ G r f) (ho : JE G X W o fo)
    (hbase : attributeBase o name X.env (eval o X.env) = eval o X.env := by rfl) (hline : (apos.endLine == cpos.line) = true := by rfl) :
    JE G X W (.Call (.Attribute o name apos) [] [] cpos) (met0 T f fo) := by
  refine pe_imp (pe_bmG0 pa slot hty hm ho hbase hline) fun σ H Q t => ?_
  refine (TF.bind (Rp := fun M H (u : V) (v : PV) => Rep G M H u v) t).mono fun u H1 ⟨M1, ρ, h1, x, r1, e1, p, o1⟩ => ?_
  by_cases ht : isT T h1 x = true
  · rw [if_pos ht] at o1
    refine ⟨by rw [← hK]; exact isT_tyG r1 p ht, ?_⟩
    cases hf : f x [] h1 with
    | none => rw [hf] at o1; exact False.elim o1
    | some zh =>
      obtain ⟨z, h'⟩ := zh
      rw [hf] at o1
      exact hj M1 h1 H1 u [] x [] z h' Q r1 p trivial hf fun w H' xx rr pp => o1 w M1 H' xx rr pp
  · rw [if_neg ht] at o1
    exact False.elim o1

/-! ### a mutable object is written -/
theorem Ext.wr {M : Gh} {H : Hp} {h : PH} (r : HRel G M H h) {a : Addr} (ha : a ∈ M.L) {o : HO} : Ext M H M (upd H a o) :=
  ⟨⟨[], by simp, by simp⟩, fun b u e n t => by exact (upd_ne (show b ≠ a from fun z => n (z ▸ ha))).trans e, fun b e => by
    by_cases z : b = a
    · rw [z, upd_same]; simp
    · rw [upd_ne z]; exact e⟩
theorem HRel.wr {M : Gh} {H : Hp} {h : PH} (r : HRel G M H h) {n : Nat} {a : Addr} (ha : M.L[n]? = some a) {o : HO} {po : PO} (nt : ∀ ps, H a ≠ some (.tbl ps)) (nd : ∀ b, H a ≠ some (.own b)) (q : ORep G M (upd H a o) a po) : HRel G M (upd H a o) (h.set n po) where
  nd := r.nd
  apart := r.apart
  len := by simp [r.len]
  hid := fun b hb => (Ext.wr r (List.mem_of_getElem? ha)).dom b (r.hid b hb)
  obj := fun k ob e => by
    by_cases hk : n = k
    · subst hk
      have hl : n < h.length := by
        have := (List.getElem?_eq_some_iff.mp e).1
        simpa using this
      rw [List.getElem?_set_self hl] at e
      cases e
      exact ⟨a, ha, q⟩
    · rw [List.getElem?_set_ne hk] at e
      obtain ⟨b, h1, h2⟩ := r.obj k ob e
      have hba : b ≠ a := fun z => by
        subst z
        obtain ⟨p1, q1⟩ := List.getElem?_eq_some_iff.mp h1
        obtain ⟨p2, q2⟩ := List.getElem?_eq_some_iff.mp ha
        exact hk ((List.getElem_inj r.nd).mp (q2.trans q1.symm))
      exact ⟨b, h1, h2.ext (Ext.wr r (List.mem_of_getElem? ha)) (upd_ne hba) fun dx e _ => upd_ne fun z => nd b (z ▸ e)⟩
  tab := fun P hP => by
    obtain ⟨ps, e, t⟩ := r.tab P hP
    exact ⟨ps, (upd_ne (show P ≠ a from fun z => nt ps (z ▸ e))).trans e, t⟩
/-- a list that is a loc -/
theorem HRel.lstAt {M : Gh} {H : Hp} {h : PH} (r : HRel G M H h) {n : Nat} {xs : List PV} (hn : h[n]? = some (.lst xs)) : ∃ a us, M.L[n]? = some a ∧ H a = some (.lst us) ∧ us.length ≤ sizeLine ∧ Reps G M H us xs := by
  obtain ⟨a, h1, us, h2, z, q⟩ := r.obj n _ hn
  exact ⟨a, us, h1, h2, z, q⟩
/-- the list at loc n becomes ys -/
theorem HRel.setL {M : Gh} {H : Hp} {h : PH} (r : HRel G M H h) {n : Nat} {a : Addr} {us vs : List V} {ys : List PV} (ha : M.L[n]? = some a) (hH : H a = some (.lst us)) (hz : vs.length ≤ sizeLine) (q : Reps G M H vs ys) :
    Ext M H M (upd H a (.lst vs)) ∧ HRel G M (upd H a (.lst vs)) (h.set n (.lst ys)) := by
  have x := Ext.wr (o := HO.lst vs) r (List.mem_of_getElem? ha)
  exact ⟨x, r.wr ha (fun ps z => by rw [hH] at z; cases z) (fun b z => by rw [hH] at z; cases z) ⟨vs, upd_same, hz, Reps.ext x ys vs q⟩⟩
def appendO (x : PV) (xs : List PV) (h : PH) : Option (PV × PH) := match x, xs with
  | .loc n, [y] => match h[n]? with
    | some (.lst ys) => if ys.length < sizeLine then some (.non, h.set n (.lst (ys ++ [y]))) else none
    | _ => none
  | _, _ => none
theorem mj_append : MtJ G rAppend appendO := by
  intro M h H u us x xs z h' Q r p q e k
  unfold appendO at e
  split at e
  · rename_i n y
    obtain ⟨v, rfl, pv⟩ := reps1 q
    split at e
    · rename_i ys hn
      split at e
      · rename_i hz
        cases e
        obtain ⟨a, vs, h1, h2, z, rs⟩ := r.lstAt hn
        obtain ⟨b, rfl, e2⟩ := p
        rw [h1] at e2; cases e2
        have hl := rs.length
        obtain ⟨xx, rr⟩ := r.setL (vs := vs ++ [v]) (ys := ys ++ [y]) h1 h2 (by simp; omega) (rs.snoc pv)
        exact ⟨_, vs, v, rfl, rfl, h2, by omega, k _ _ xx rr rfl⟩
      · cases e
    · cases e
  · cases e
/-! ### index, count, remove by ==; of plain data -/
def indexOf (ys : List PV) (y : PV) : Option Nat := ys.findIdx? fun z => eqv z y
def indexO (x : PV) (xs : List PV) (h : PH) : Option (PV × PH) := match xs with
  | [y] => match itemsOf h x with
    | some ys => if dles DEPTH ys && dle DEPTH (rd h y) then (indexOf ys (rd h y)).map fun j => (.int (j : Nat), h) else none
    | none => none
  | _ => none
theorem place_eq (ys : List PV) (y : PV) : SeqAt.dataPlace (toDs ys) (toD y) = indexOf ys y := by
  unfold SeqAt.dataPlace indexOf
  rw [toDs_map, List.findIdx?_map]
  rfl
def rIndexP (K : PySem.W.Frag) (T : Ty) : V → List V → Hp → VK → Prop := fun x xs H Q => ∃ (y : V) (d : PyData) (ds : List PyData) (j : Nat), xs = [y] ∧ (match T with | .list => Dp K H x (.list ds) | _ => Dp K H x (.tuple ds)) ∧ Dp K H y d ∧ d.plain = true ∧ PyData.plainAll ds = true ∧ d.depth ≤ 60 ∧ SeqAt.dataPlace ds d = some j ∧ Q (.int (j : Nat)) H
theorem mt_indexT (hu : X.A.units + 64 < cLine) : MtR X "tuple.index" (rIndexP X.K .tuple) := by
  intro pins s σ H x xs v us Q I rx rs h
  obtain ⟨y, d, ds, j, rfl, hx, hy, pd, pds, dd, hp, q⟩ := h
  obtain ⟨uy, rfl, ry⟩ := vals1 rs
  obtain ⟨bs, r1⟩ := Dp.reads I d y uy hy ry
  have hx' : Dp X.K H x (.tuple ds) := hx
  cases hx' with
  | tup hs ha =>
    cases rx
    obtain ⟨its, rv, ⟨⟨cls, ddt, dt, sl⟩, ho, hc, n, hd⟩, hz⟩ := I.tuple hs
    simp only at hc hd
    subst hc hd
    obtain ⟨as, h4⟩ := Dp.readsAll I ds _ its ha rv
    have h4' : ReadsAll s.heap its.toArray.toList ds as := h4
    obtain ⟨hj, hit, hno⟩ := SeqAt.hit_at h4' pds hp
    exact call_meets PySem.F.slot_tuple_index ⟨_, ho, rfl⟩ PySem.F.entry_tuple_index (PySem.F.args_tuple_index_2 _ _) (TI.tuple_indexAt _ its.toArray n ddt sl uy _ j hj hit hno) ⟨ho, SeqAt.items_plain h4' r1 pds pd (by omega), .int (j : Nat), H, I.tok _, ⟨_, rfl⟩, q⟩
theorem mt_indexL (hu : X.A.units + 64 < cLine) : MtR X "list.index" (rIndexP X.K .list) := by
  intro pins s σ H x xs v us Q I rx rs h
  obtain ⟨y, d, ds, j, rfl, hx, hy, pd, pds, dd, hp, q⟩ := h
  obtain ⟨uy, rfl, ry⟩ := vals1 rs
  obtain ⟨bs, r1⟩ := Dp.reads I d y uy hy ry
  have hx' : Dp X.K H x (.list ds) := hx
  cases hx' with
  | lst hs ha =>
    cases rx
    obtain ⟨its, rv, ⟨⟨cls, ddt, dt, sl⟩, n, ho, hc, hdn, hd⟩, hz⟩ := I.list hs
    simp only at hc hd hdn
    subst hc hd hdn
    obtain ⟨as, h4⟩ := Dp.readsAll I ds _ its ha rv
    have h4' : ReadsAll s.heap its.toArray.toList ds as := h4
    obtain ⟨hj, hit, hno⟩ := SeqAt.hit_at h4' pds hp
    have hl := rv.length
    have hsl := sizeLine_eq
    exact call_meets PySem.F.slot_list_index ⟨_, ho, rfl⟩ PySem.F.entry_list_index (PySem.F.args_list_index_2 _ _) (SeqAt.list_indexAt _ its.toArray n none sl uy _ j hj (by rw [List.size_toArray] at hj; omega) hit hno) ⟨ho, SeqAt.items_plain h4' r1 pds pd (by omega), .int (j : Nat), H, I.tok _, ⟨_, rfl⟩, q⟩
theorem mj_indexT : MtJ G (rIndexP G.K .tuple) (fun x xs h => if isT .tuple h x then indexO x xs h else none) := by
  intro M h H u us x xs z h' Q r p q e k
  simp only at e
  split at e
  · rename_i ht
    cases x with
    | tup ys =>
      unfold indexO at e
      split at e
      · rename_i y
        obtain ⟨v, rfl, pv⟩ := reps1 q
        simp only [itemsOf, rd_tup] at e
        split at e
        · rename_i c
          simp only [Bool.and_eq_true] at c
          cases hi : indexOf ys (rd h y) with
          | none => rw [hi] at e; cases e
          | some j =>
            rw [hi] at e
            cases e
            obtain ⟨a, vs, rfl, s, z, rs⟩ := p
            have c1 := dle_ok _ _ c.2
            have c2 := dles_ok _ _ c.1
            exact ⟨v, _, _, j, rfl, .tup s.sq (Reps.dp ys vs _ c.1 rs), Rep.dpr r pv c.2, c1.1, c2.1, c1.2, by rw [place_eq]; exact hi, k _ H (Ext.refl M H) r rfl⟩
        · cases e
      · cases e
    | _ => cases ht
  · cases e
theorem mj_indexL : MtJ G (rIndexP G.K .list) (fun x xs h => if isT .list h x then indexO x xs h else none) := by
  intro M h H u us x xs z h' Q r p q e k
  simp only at e
  split at e
  · rename_i ht
    unfold isT at ht
    simp only at ht
    split at ht
    · rename_i ys hx
      unfold indexO at e
      split at e
      · rename_i y
        obtain ⟨v, rfl, pv⟩ := reps1 q
        simp only [itemsOf, hx] at e
        split at e
        · rename_i c
          simp only [Bool.and_eq_true] at c
          cases hi : indexOf ys (rd h y) with
          | none => rw [hi] at e; cases e
          | some j =>
            rw [hi] at e
            cases e
            obtain ⟨a, vs, rfl, s, z, rs⟩ := Rep.list r p hx
            have c1 := dle_ok _ _ c.2
            have c2 := dles_ok _ _ c.1
            exact ⟨v, _, _, j, rfl, .lst s (Reps.dp ys vs _ c.1 rs), Rep.dpr r pv c.2, c1.1, c2.1, c1.2, by rw [place_eq]; exact hi, k _ H (Ext.refl M H) r rfl⟩
        · cases e
      · cases e
    · cases ht
  · cases e
/-- l.remove(x), x in l -/
def removeO (x : PV) (xs : List PV) (h : PH) : Option (PV × PH) := match x, xs with
  | .loc n, [y] => match h[n]? with
    | some (.lst ys) => if dles DEPTH ys && dle DEPTH (rd h y) then (indexOf ys (rd h y)).map fun j => (.non, h.set n (.lst (ys.eraseIdx j))) else none
    | _ => none
  | _, _ => none
def rRemP (K : PySem.W.Frag) : V → List V → Hp → VK → Prop := fun x vs H Q => ∃ (l : Addr) (y : V) (xs : List V) (d : PyData) (ds : List PyData) (j : Nat), x = .ref l ∧ vs = [y] ∧ H l = some (.lst xs) ∧ DpAll K H xs ds ∧ Dp K H y d ∧ d.plain = true ∧ PyData.plainAll ds = true ∧ d.depth ≤ 60 ∧ SeqAt.dataPlace ds d = some j ∧ Q .non (upd H l (.lst (xs.eraseIdx j)))
theorem mt_removeP (hu : X.A.units + 64 < cLine) : MtR X "list.remove" (rRemP X.K) := by
  intro pins s σ H x vs v us Q I rx rv h
  obtain ⟨l, y, xs, d, ds, j, rfl, rfl, hH, ha, hy, pd, pds, dd, hp, q⟩ := h
  cases rx
  obtain ⟨uy, rfl, ry⟩ := vals1 rv
  obtain ⟨bs, r1⟩ := Dp.reads I d y uy hy ry
  obtain ⟨z, its, n, r, hl, e⟩ := I.lstM hH
  obtain ⟨as, h4⟩ := Dp.readsAll I ds _ its ha r
  have h4' : ReadsAll s.heap its.toArray.toList ds as := h4
  have hj : j < its.length := by
    obtain ⟨hj, _⟩ := SeqAt.hit_at h4' pds hp
    simpa using hj
  refine SeqAt.remove_list_data ⟨_, e, rfl, _, rfl⟩ h4' r1 pds pd (by omega) hp (by rw [List.size_toArray]; omega) ?_
  refine ⟨.non, _, I.lset (its' := its.eraseIdx j) hH e (by simp) (r.eraseIdx j) ?_, rfl, q⟩
  exact Nat.le_trans (len_erase xs j) z
theorem Reps.erase {M : Gh} {H : Hp} : ∀ {us : List V} {xs : List PV} (j : Nat), Reps G M H us xs → Reps G M H (us.eraseIdx j) (xs.eraseIdx j)
  | [], [], _, _ => by simp; exact trivial
  | [], _ :: _, _, h => h.elim
  | _ :: _, [], _, h => h.elim
  | u :: us, x :: xs, 0, h => h.2
  | u :: us, x :: xs, j + 1, h => ⟨h.1, Reps.erase j h.2⟩
theorem mj_remove : MtJ G (rRemP G.K) removeO := by
  intro M h H u us x xs z h' Q r p q e k
  unfold removeO at e
  split at e
  · rename_i n y
    obtain ⟨v, rfl, pv⟩ := reps1 q
    split at e
    · rename_i ys hn
      split at e
      · rename_i c
        simp only [Bool.and_eq_true] at c
        cases hi : indexOf ys (rd h y) with
        | none => rw [hi] at e; cases e
        | some j =>
          rw [hi] at e
          cases e
          obtain ⟨a, vs, h1, h2, z, rs⟩ := r.lstAt hn
          obtain ⟨b, rfl, e2⟩ := p
          rw [h1] at e2; cases e2
          have c1 := dle_ok _ _ c.2
          have c2 := dles_ok _ _ c.1
          obtain ⟨xx, rr⟩ := r.setL (vs := vs.eraseIdx j) (ys := ys.eraseIdx j) h1 h2 (Nat.le_trans (len_erase vs j) z) (rs.erase j)
          exact ⟨_, v, vs, _, _, j, rfl, rfl, h2, Reps.dp ys vs _ c.1 rs, Rep.dpr r pv c.2, c1.1, c2.1, c1.2, by rw [place_eq]; exact hi, k _ _ xx rr rfl⟩
      · cases e
    · cases e
  · cases e
end
end J

/-! J: statements, targets, what is walked, loops. -/
namespace J
open PySem PySem.Spec PyProof.Rows L2

inductive RS where
  | nx (ρ : En) (h : PH)
  | rt (v : PV) (h : PH)
  | bk (ρ : En) (h : PH)
  | ct (ρ : En) (h : PH)
  | ex (e : Ex) (ρ : En) (h : PH)
  | bad
abbrev SS := En → PH → RS

def OutS (G : Gc) (W : WX) (M : Gh) (H : Hp) (r : RS) (D : Ends) : Prop :=
  match r with
  | .nx ρ' h' => ∀ σ' M' H', Ext M H M' H' → HRel G M' H' h' → ERel G M' H' ρ' σ' → D.nx σ' H'
  | .rt v h' => ∀ u M' H', Ext M H M' H' → HRel G M' H' h' → Rep G M' H' u v → D.rt u H'
  | .bk ρ' h' => ∀ σ' M' H', Ext M H M' H' → HRel G M' H' h' → ERel G M' H' ρ' σ' → D.bk σ' H'
  | .ct ρ' h' => ∀ σ' M' H', Ext M H M' H' → HRel G M' H' h' → ERel G M' H' ρ' σ' → D.ct σ' H'
  | .ex e ρ' h' => ∀ cls d σ' M' H', Ext M H M' H' → HRel G M' H' h' → ERel G M' H' ρ' σ' → XRep G M' H' e cls d → W cls d σ' H'
  | .bad => False
def TSF (G : Gc) (W : WX) (f : SS) : TS := fun D σ H => ∃ M ρ h, HRel G M H h ∧ ERel G M H ρ σ ∧ OutS G W M H (f ρ h) D
abbrev JS (G : Gc) (X : Cx) (W : WX) (s : Stmt) (f : SS) : Prop := PS X s (TSF G W f)
abbrev JSs (G : Gc) (X : Cx) (W : WX) (s : List Stmt) (f : SS) : Prop := PSs X s (TSF G W f)
theorem ps_imp {X : Cx} {s : Stmt} {t t' : TS} (h : PS X s t) (i : ∀ D σ H, t' D σ H → t D σ H) : PS X s t' := ⟨fun pins s σ H D I q => h.run pins s σ H D I (i D σ H q)⟩
theorem pss_imp {X : Cx} {s : List Stmt} {t t' : TS} (h : PSs X s t) (i : ∀ D σ H, t' D σ H → t D σ H) : PSs X s t' := ⟨fun pins s σ H D I q => h.run pins s σ H D I (i D σ H q)⟩

def R.toS {α : Type} (r : R α) (ρ : En) (k : α → PH → RS) : RS := match r with
  | .ok a h => k a h
  | .exc e h => .ex e ρ h
  | .bad => .bad
@[simp] theorem R.toS_ok {α : Type} (a : α) (h : PH) (ρ : En) (k : α → PH → RS) : (R.ok a h).toS ρ k = k a h := rfl
@[simp] theorem R.toS_exc {α : Type} (e : Ex) (h : PH) (ρ : En) (k : α → PH → RS) : (R.exc e h : R α).toS ρ k = .ex e ρ h := rfl
@[simp] theorem R.toS_bad {α : Type} (ρ : En) (k : α → PH → RS) : (R.bad : R α).toS ρ k = .bad := rfl
section
variable {α β : Type} {G : Gc} {W : WX} {σ : L2.St} {Rp : Gh → Hp → β → α → Prop} {M M1 : Gh} {H H1 : Hp} {ρ : En}
theorem OutS.ext {r : RS} {D : Ends} (x : Ext M H M1 H1) (o : OutS G W M H r D) : OutS G W M1 H1 r D := by
  cases r with
  | nx => exact fun s M' H' y => o s M' H' (x.trans y)
  | rt => exact fun s M' H' y => o s M' H' (x.trans y)
  | bk => exact fun s M' H' y => o s M' H' (x.trans y)
  | ct => exact fun s M' H' y => o s M' H' (x.trans y)
  | ex => exact fun cls d s M' H' y => o cls d s M' H' (x.trans y)
  | bad => exact o
theorem OutS.bind {r : R α} {k : α → PH → RS} {D : Ends} (e : ERel G M H ρ σ) (o : OutS G W M H (r.toS ρ k) D) :
    Out G W σ Rp M H r (fun b H1 => ∃ M1 h1 a, Ext M H M1 H1 ∧ HRel G M1 H1 h1 ∧ Rp M1 H1 b a ∧ OutS G W M1 H1 (k a h1) D) := by
  cases r with
  | ok a h => exact fun b M' H' x r p => ⟨M', h, a, x, r, p, OutS.ext x o⟩
  | exc ex h => exact fun cls d M' H' x r p => o cls d σ M' H' x r (e.ext x) p
  | bad => exact o
theorem TSF.bind {f : En → PH → R α} {k : En → α → PH → RS} {D : Ends} (t : TSF G W (fun ρ h => (f ρ h).toS ρ (k ρ)) D σ H) :
    TF G W Rp f σ H (fun b H1 => ∃ M1 ρ h1 a, HRel G M1 H1 h1 ∧ ERel G M1 H1 ρ σ ∧ Rp M1 H1 b a ∧ OutS G W M1 H1 (k ρ a h1) D) := by
  obtain ⟨M, ρ, h, r, e, o⟩ := t
  exact ⟨M, ρ, h, r, e, (OutS.bind (Rp := Rp) e o).mono fun b H1 ⟨M1, h1, a, x, r1, p, o1⟩ => ⟨M1, ρ, h1, a, r1, e.ext x, p, o1⟩⟩
end
section
variable {G : Gc} {X : Cx} {W : WX} {st : Stmt} {rest : List Stmt} {f g : SS} {e : Expr} {fe : SE} {pos : Pos}
def snil : SS := fun ρ h => .nx ρ h
def seq (f g : SS) : SS := fun ρ h => match f ρ h with
  | .nx ρ' h' => g ρ' h'
  | r => r
theorem jss_nil : JSs G X W [] snil := pss_imp pss_nil fun D σ H ⟨M, ρ, h, r, e, o⟩ => o σ M H (Ext.refl M H) r e
theorem jss_cons (h1 : JS G X W st f) (h2 : JSs G X W rest g) : JSs G X W (st :: rest) (seq f g) := by
  refine pss_imp (pss_cons h1 h2) fun D σ H ⟨M, ρ, h, r, e, o⟩ => ⟨M, ρ, h, r, e, ?_⟩
  unfold seq at o
  cases q : f ρ h with
  | nx ρ' h' =>
    rw [q] at o
    exact fun σ' M' H' x r' e' => ⟨M', ρ', h', r', e', OutS.ext x o⟩
  | rt => rw [q] at o; exact o
  | bk => rw [q] at o; exact o
  | ct => rw [q] at o; exact o
  | ex => rw [q] at o; exact o
  | bad => rw [q] at o; exact o
theorem jss_one (h1 : JS G X W st f) : JSs G X W [st] f := pss_one h1
def sret (f : SE) : SS := fun ρ h => (f ρ h).toS ρ fun v h1 => .rt v h1
theorem js_ret (h : JE G X W e fe) : JS G X W (.Return (some e) pos) (sret fe) :=
  ps_imp (ps_ret h) fun D σ H t => (TSF.bind (Rp := fun M H (u : V) (v : PV) => Rep G M H u v) t).mono fun u H1 ⟨M1, ρ, h1, v, r1, e1, p, o⟩ => o u M1 H1 (Ext.refl _ _) r1 p
def sretN : SS := fun ρ h => .rt .non h
theorem js_retN : JS G X W (.Return none pos) sretN := ps_imp ps_retN fun D σ H ⟨M, ρ, h, r, e, o⟩ => o .non M H (Ext.refl M H) r rfl
def sexp (f : SE) : SS := fun ρ h => (f ρ h).toS ρ fun _ h1 => .nx ρ h1
theorem js_expr (h : JE G X W e fe) (hs : swapsWith e none pos.line X.env = pure false := by rfl) : JS G X W (.Expr e pos) (sexp fe) :=
  ps_imp (ps_expr h hs) fun D σ H t => (TSF.bind (Rp := fun M H (u : V) (v : PV) => Rep G M H u v) (k := fun ρ _ h1 => .nx ρ h1) t).mono fun u H1 ⟨M1, ρ, h1, v, r1, e1, p, o⟩ => o σ M1 H1 (Ext.refl _ _) r1 e1
def sbrk : SS := fun ρ h => .bk ρ h
def scont : SS := fun ρ h => .ct ρ h
theorem js_pass : JS G X W (.Pass pos) snil := ps_imp ps_pass fun D σ H ⟨M, ρ, h, r, e, o⟩ => o σ M H (Ext.refl M H) r e
theorem js_break : JS G X W (.Break pos) sbrk := ps_imp ps_break fun D σ H ⟨M, ρ, h, r, e, o⟩ => o σ M H (Ext.refl M H) r e
theorem js_continue : JS G X W (.Continue pos) scont := ps_imp ps_continue fun D σ H ⟨M, ρ, h, r, e, o⟩ => o σ M H (Ext.refl M H) r e
def sif (c : SB) (f g : SS) : SS := fun ρ h => (c ρ h).toS ρ fun b h1 => if b then f ρ h1 else g ρ h1
theorem js_if {c : Expr} {a b : List Stmt} {fc : SB} (hc : JT G X W c fc) (ha : JSs G X W a f) (hb : JSs G X W b g) : JS G X W (.If c a b pos) (sif fc f g) := by
  refine ps_imp (ps_if hc ha hb) fun D σ H t => (TSF.bind (Rp := fun _ _ (u v : Bool) => u = v) (k := fun ρ b h1 => if b then f ρ h1 else g ρ h1) t).mono fun b H1 ⟨M1, ρ, h1, v, r1, e1, p, o⟩ => ?_
  subst p
  cases b with
  | true => rw [if_pos rfl]; exact ⟨M1, ρ, h1, r1, e1, o⟩
  | false => rw [if_neg Bool.false_ne_true]; exact ⟨M1, ρ, h1, r1, e1, o⟩
def sset (i : Nat) (f : SE) : SS := fun ρ h => (f ρ h).toS ρ fun v h1 => .nx (ρ.set i (some v)) h1
theorem set_t {i : Nat} {D : Ends} {σ : L2.St} {H : Hp} (t : TSF G W (sset i fe) D σ H) : tAsg (TFE G W fe) (gName i) D σ H :=
  (TSF.bind (Rp := fun M H (u : V) (v : PV) => Rep G M H u v) (k := fun ρ v h1 => .nx (ρ.set i (some v)) h1) t).mono fun u H1 ⟨M1, ρ, h1, v, r1, e1, p, o⟩ => o _ M1 H1 (Ext.refl _ _) r1 (e1.set p)
theorem js_set (i : Nat) {x : Str} {pos' : Pos} (hN : X.N.Nodup) (h : JE G X W e fe) (hi : X.N[i]? = some x := by rfl) (hx : Loc X.env.scope x := by first | exact Or.inl rfl | exact Or.inr rfl)
    (hs : swapsWith e (some (.Name x pos')) pos.line X.env = pure false := by rfl) (hf : X.fn x = true ∨ X.env.scope.names.lookup x = some .local := by first | exact .inl rfl | exact .inr rfl) :
    JS G X W (.Assign [.Name x pos'] e pos) (sset i fe) := ps_imp (ps_set hN hi hx h hs hf) fun D σ H t => set_t t
/-- a, b = x, y: both sides written, plain local names -/
def spar (i j : Nat) (g : SA) : SS := fun ρ h => (g ρ h).toS ρ fun vs h1 => match vs with
  | [v, w] => .nx ((ρ.set i (some v)).set j (some w)) h1
  | _ => .bad
theorem js_par (i j : Nat) {x y : Str} {a b : Expr} {ga : SA} {px py pt : Pos} {kt k2 pt2} (hN : X.N.Nodup) (ha : JAs G X W [a, b] ga)
    (hw : swappedStores [.Tuple [.Name x px, .Name y py] kt pt] (.Tuple [a, b] k2 pt2) X.env = pure (some [x, y])) (hc : X.calm = true := by rfl) (hi : X.N[i]? = some x := by rfl) (hj : X.N[j]? = some y := by rfl) (hij : i ≠ j := by decide)
    (hx : X.env.scope.names.lookup x = some .local := by rfl) (hy : X.env.scope.names.lookup y = some .local := by rfl)
    (hs : swapsWithSole [.Tuple [.Name x px, .Name y py] kt pt] (.Tuple [a, b] k2 pt2) pos.line X.env = pure false := by rfl) :
    JS G X W (.Assign [.Tuple [.Name x px, .Name y py] kt pt] (.Tuple [a, b] k2 pt2) pos) (spar i j ga) := by
  refine ps_imp (ps_par hc hN hi hj hij hx hy ha hw hs) fun D σ H t => (TSF.bind (Rp := fun M H (u : List V) (v : List PV) => Reps G M H u v) (k := fun ρ vs h1 => match vs with
    | [v, w] => .nx ((ρ.set i (some v)).set j (some w)) h1
    | _ => .bad) t).mono fun us H1 ⟨M1, ρ, h1, vs, r1, e1, p, o⟩ => ?_
  match vs, o, p with
  | [v, w], o, p =>
    obtain ⟨u1, u2, rfl, p1, p2⟩ := reps2 p
    exact ⟨u1, u2, rfl, o _ M1 H1 (Ext.refl _ _) r1 ((e1.set p1).set p2)⟩
  | [], o, _ => exact False.elim o
  | [_], o, _ => exact False.elim o
  | _ :: _ :: _ :: _, o, _ => exact False.elim o

/-! ### targets -/
theorem wipe_get (σ : L2.St) : ∀ (vs : List Nat) (j : Nat), (wipe σ vs)[j]? = if j ∈ vs then σ[j]?.map (fun _ => none) else σ[j]?
  | [], j => by simp [wipe]
  | v :: vs, j => by
    unfold wipe
    by_cases hv : v = j
    · subst hv
      by_cases hl : v < σ.length
      · rw [List.getElem?_set_self (by rw [wipe_length]; exact hl), if_pos (by simp), List.getElem?_eq_getElem hl]
        rfl
      · rw [List.getElem?_eq_none (by rw [List.length_set, wipe_length]; omega), if_pos (by simp), List.getElem?_eq_none (by omega)]
        rfl
    · rw [List.getElem?_set_ne hv, wipe_get σ vs j]
      have : (j ∈ v :: vs) ↔ j ∈ vs := by simp [Ne.symm hv]
      simp only [this]
theorem wipe_set {σ : L2.St} {vs : List Nat} {i : Nat} (hi : i ∈ vs) (x : Option V) : wipe (σ.set i x) vs = wipe σ vs := by
  apply List.ext_getElem?
  intro j
  rw [wipe_get, wipe_get]
  by_cases hj : j ∈ vs
  · rw [if_pos hj, if_pos hj]
    by_cases e : i = j
    · subst e
      by_cases hl : i < σ.length
      · rw [List.getElem?_set_self hl, List.getElem?_eq_getElem hl]; rfl
      · rw [List.getElem?_eq_none (by simpa using hl), List.getElem?_eq_none (by simpa using hl)]
    · rw [List.getElem?_set_ne e]
  · rw [if_neg hj, if_neg hj, List.getElem?_set_ne (show i ≠ j from fun e => hj (e ▸ hi))]
theorem wipe_wipe (σ : L2.St) (vs : List Nat) : wipe (wipe σ vs) vs = wipe σ vs := by
  apply List.ext_getElem?
  intro j
  rw [wipe_get, wipe_get]
  by_cases hj : j ∈ vs
  · rw [if_pos hj, if_pos hj]
    cases σ[j]? <;> rfl
  · rw [if_neg hj, if_neg hj]
abbrev GF := PV → En → Option En
def TGF (G : Gc) (g : GF) (ss : List Nat) : TG := fun v σ H Q => ∃ M h x ρ ρ', HRel G M H h ∧ ERel G M H ρ σ ∧ Rep G M H v x ∧ g x ρ = some ρ' ∧ ∀ σ', ERel G M H ρ' σ' → (∀ vs : List Nat, (∀ i ∈ ss, i ∈ vs) → wipe σ' vs = wipe σ vs) → Q σ' H
def TGsF (G : Gc) (g : List PV → En → Option En) (ss : List Nat) : TGs := fun v σ H Q => ∃ M h x ρ ρ', HRel G M H h ∧ ERel G M H ρ σ ∧ Reps G M H v x ∧ g x ρ = some ρ' ∧ ∀ σ', ERel G M H ρ' σ' → (∀ vs : List Nat, (∀ i ∈ ss, i ∈ vs) → wipe σ' vs = wipe σ vs) → Q σ' H
abbrev JG (G : Gc) (X : Cx) (tg : Expr) (g : GF) (ss : List Nat) : Prop := PG X tg (TGF G g ss)
abbrev JGs (G : Gc) (X : Cx) (tg : List Expr) (g : List PV → En → Option En) (ss : List Nat) : Prop := PGs X tg (TGsF G g ss)
theorem pg_imp {tg : Expr} {t t' : TG} (h : PG X tg t) (i : ∀ v σ H Q, t' v σ H Q → t v σ H Q) : PG X tg t' := ⟨fun pins s σ H v u Q I r q => h.run pins s σ H v u Q I r (i v σ H Q q)⟩
theorem pgs_imp {tg : List Expr} {t t' : TGs} (h : PGs X tg t) (i : ∀ v σ H Q, t' v σ H Q → t v σ H Q) : PGs X tg t' := ⟨fun pins s σ H v u Q I r q => h.run pins s σ H v u Q I r (i v σ H Q q)⟩
def gnm (i : Nat) : GF := fun x ρ => some (ρ.set i (some x))
theorem jg_name (i : Nat) {x : Str} (hN : X.N.Nodup) (hi : X.N[i]? = some x := by rfl) (hx : Loc X.env.scope x := by first | exact Or.inl rfl | exact Or.inr rfl)
    (hf : X.fn x = true ∨ X.env.scope.names.lookup x = some .local := by first | exact .inl rfl | exact .inr rfl) : JG G X (.Name x pos) (gnm i) [i] :=
  pg_imp (pg_name hN hi hx hf) fun v σ H Q ⟨M, h, x, ρ, ρ', r, e, p, q, k⟩ => by
    cases q
    exact k _ (e.set p) fun vs hv => wipe_set (hv i (by simp)) _
def gnil : List PV → En → Option En := fun xs ρ => match xs with
  | [] => some ρ
  | _ => none
def gcons (g : GF) (gs : List PV → En → Option En) : List PV → En → Option En := fun xs ρ => match xs with
  | x :: r => (g x ρ).bind (gs r)
  | [] => none
theorem jgs_nil : JGs G X [] gnil [] := pgs_imp pgs_nil fun v σ H Q ⟨M, h, x, ρ, ρ', r, e, p, q, k⟩ => by
  match x, q with
  | [], q =>
    cases q
    match v, p with
    | [], p => exact ⟨rfl, k σ e fun _ _ => rfl⟩
theorem jgs_cons {tg : Expr} {tgs : List Expr} {g : GF} {gs : List PV → En → Option En} {s1 s2 : List Nat} (h1 : JG G X tg g s1) (h2 : JGs G X tgs gs s2)
    (hs : (assignEach (tg :: tgs) X.env).map (·.2) = assign tg X.env :: (assignEach tgs X.env).map (·.2) := by rfl) : JGs G X (tg :: tgs) (gcons g gs) (s1 ++ s2) := by
  refine pgs_imp (pgs_cons h1 h2 hs) fun v σ H Q ⟨M, h, x, ρ, ρ', r, e, p, q, k⟩ => ?_
  match x, q with
  | y :: ys, q =>
    match v, p with
    | u :: us, p =>
      cases hg : g y ρ with
      | none => rw [gcons, hg] at q; cases q
      | some ρ1 =>
        rw [gcons, hg] at q
        refine ⟨u, us, rfl, M, h, y, ρ, ρ1, r, e, p.1, hg, fun σ1 e1 w1 => ⟨M, h, ys, ρ1, ρ', r, e1, p.2, q, fun σ2 e2 w2 => k σ2 e2 fun vs hv => ?_⟩⟩
        rw [w2 vs fun i hi => hv i (List.mem_append_right _ hi), w1 vs fun i hi => hv i (List.mem_append_left _ hi)]
def gtup (n : Nat) (gs : List PV → En → Option En) : GF := fun x ρ => match x with
  | .tup xs => if xs.length = n then gs xs ρ else none
  | .kt xs => if xs.length = n then gs xs ρ else none
  | _ => none
theorem jg_tup {es : List Expr} {k : Nat} {gs : List PV → En → Option En} {ss : List Nat} {n : Nat} (hK : G.K = X.K) (h : JGs G X es gs ss) (hc : X.calm = true := by rfl)
    (hn : (assignEach es X.env).length = n := by rfl) (hst : (assignEach es X.env).findIdx? (·.1) = none := by rfl) : JG G X (.Tuple es k pos) (gtup n gs) ss := by
  refine pg_imp (pg_tup hc h hn hst) fun v σ H Q ⟨M, hh, x, ρ, ρ', r, e, p, q, k⟩ => ?_
  cases x with
  | tup xs =>
    unfold gtup at q
    simp only at q
    split at q
    · rename_i hl
      obtain ⟨a, us, rfl, s, z, rs⟩ := p
      exact ⟨a, us, rfl, by rw [← hK]; exact s.sq, by rw [rs.length]; exact hl, M, hh, xs, ρ, ρ', r, e, rs, q, k⟩
    · cases q
  | kt xs =>
    unfold gtup at q
    simp only at q
    split at q
    · rename_i hl
      obtain ⟨a, us, rfl, _, s, z, rs⟩ := p
      exact ⟨a, us, rfl, .inl s, by rw [rs.length]; exact hl, M, hh, xs, ρ, ρ', r, e, rs, q, k⟩
    · cases q
  | _ => cases q
/-- target = value -/
def sasg (g : GF) (f : SE) : SS := fun ρ h => (f ρ h).toS ρ fun v h1 => match g v ρ with
  | some ρ' => .nx ρ' h1
  | none => .bad
theorem js_asg {tg : Expr} {g : GF} {ss : List Nat} (he : JE G X W e fe) (hg : JG G X tg g ss) (hs : swapsWithSole [tg] e pos.line X.env = pure false := by rfl) (hw : swappedStores [tg] e X.env = pure none := by rfl)
    (h1 : (assignEach [tg] X.env).map (·.2) = [assign tg X.env] := by rfl) : JS G X W (.Assign [tg] e pos) (sasg g fe) := by
  refine ps_imp (ps_asg he hg hs hw h1) fun D σ H t => (TSF.bind (Rp := fun M H (u : V) (v : PV) => Rep G M H u v) (k := fun ρ v h1 => match g v ρ with
    | some ρ' => .nx ρ' h1
    | none => .bad) t).mono fun u H1 ⟨M1, ρ, h1, v, r1, e1, p, o⟩ => ?_
  cases hv : g v ρ with
  | none => simp only [hv] at o; exact False.elim o
  | some ρ' =>
    simp only [hv] at o
    exact ⟨M1, h1, v, ρ, ρ', r1, e1, p, hv, fun σ' e' _ => o σ' M1 H1 (Ext.refl _ _) r1 e'⟩

/-! ### o[i] = e, by values -/
def SetJ (G : Gc) (t : TSet) (f : PV → PV → PV → PH → Option PH) : Prop :=
  ∀ M h H uo ui uv o i v h' Q, HRel G M H h → Rep G M H uo o → Rep G M H ui i → Rep G M H uv v → f o i v h = some h' → (∀ H', Ext M H M H' → HRel G M H' h' → Q H') → t uo ui uv H Q
def ssub (f : PV → PV → PV → PH → Option PH) (fv fo fi : SE) : SS := fun ρ h => (fv ρ h).toS ρ fun v h1 => (fo ρ h1).toS ρ fun o h2 => (fi ρ h2).toS ρ fun i h3 => match f o i v h3 with
  | some h' => .nx ρ h'
  | none => .bad
theorem js_sub {o i : Expr} {fo fi : SE} {t : TSet} {f : PV → PV → PV → PH → Option PH} {spos : Pos} (he : JE G X W e fe) (ho : JE G X W o fo) (hi : JE G X W i fi) (ht : PSet X t) (hj : SetJ G t f)
    (ha : ∀ v, assign (.Subscript o i spos) X.env v = (do
      let ov ← holding [v] (eval o X.env)
      let iv ← holding [v, ov] (eval i X.env)
      standAt spos
      holding [v, ov, iv] (setItem ov iv v)
      release [v, ov, iv] []) := by intro _; rfl) (hs : swapsWithSole [.Subscript o i spos] e pos.line X.env = pure false := by rfl) (hw : swappedStores [.Subscript o i spos] e X.env = pure none := by rfl)
    (h1 : (assignEach [.Subscript o i spos] X.env).map (·.2) = [assign (.Subscript o i spos) X.env] := by rfl) : JS G X W (.Assign [.Subscript o i spos] e pos) (ssub f fe fo fi) := by
  refine ps_imp (ps_asg he (pg_sub ho hi ht ha) hs hw h1) fun D σ H t => ?_
  refine (TSF.bind (Rp := fun M H (u : V) (v : PV) => Rep G M H u v) (k := fun ρ v h1 => (fo ρ h1).toS ρ fun o h2 => (fi ρ h2).toS ρ fun i h3 => match f o i v h3 with
    | some h' => .nx ρ h'
    | none => .bad) t).mono fun uv H1 ⟨M1, ρ, h1, v, r1, e1, p1, o1⟩ => ?_
  refine ⟨M1, ρ, h1, r1, e1, (OutS.bind (Rp := fun M H (u : V) (v : PV) => Rep G M H u v) e1 o1).mono fun uo H2 ⟨M2, h2, ov, x2, r2, p2, o2⟩ => ?_⟩
  refine ⟨M2, ρ, h2, r2, e1.ext x2, (OutS.bind (Rp := fun M H (u : V) (v : PV) => Rep G M H u v) (e1.ext x2) o2).mono fun ui H3 ⟨M3, h3, iv, x3, r3, p3, o3⟩ => ?_⟩
  cases hf : f ov iv v h3 with
  | none => simp only [hf] at o3; exact False.elim o3
  | some h' =>
    simp only [hf] at o3
    exact hj M3 h3 H3 uo ui uv ov iv v h' _ r3 (Rep.ext x3 _ _ p2) p3 (Rep.ext (x2.trans x3) _ _ p1) hf fun H' x' r' => o3 σ M3 H' x' r' (((e1.ext x2).ext x3).ext x')
def setLO (o i v : PV) (h : PH) : Option PH := match o, i with
  | .loc n, .int k => match h[n]? with
    | some (.lst xs) => (ixN xs.length k).map fun j => h.set n (.lst (xs.set j v))
    | _ => none
  | _, _ => none
theorem sj_list : SetJ G rSetL setLO := by
  intro M h H uo ui uv o i v h' Q r po pi pv e k
  unfold setLO at e
  split at e
  · rename_i n kk
    split at e
    · rename_i xs hn
      cases hj : ixN xs.length kk with
      | none => rw [hj] at e; cases e
      | some j =>
        rw [hj] at e
        cases e
        obtain ⟨a, us, h1, h2, z, rs⟩ := r.lstAt hn
        obtain ⟨b, rfl, e2⟩ := po
        rw [h1] at e2; cases e2
        obtain ⟨xx, rr⟩ := r.setL (vs := us.set j uv) (ys := xs.set j v) h1 h2 (by simpa using z) (Reps.set pv j rs)
        exact ⟨_, us, kk, j, rfl, pi, h2, by rw [rs.length]; exact hj, k _ xx rr⟩
    · cases e
  · cases e
/-! ### x op= e -/
def IpJ (G : Gc) (t : TIp) (f : PV → PV → PH → Option PV) : Prop :=
  ∀ M h H u v x y z Q, HRel G M H h → Rep G M H u x → Rep G M H v y → f x y h = some z → (∀ w H', Ext M H M H' → HRel G M H' h → Rep G M H' w z → Q w H') → t u v H Q
def saug (i : Nat) (f : PV → PV → PH → Option PV) (fe : SE) : SS := fun ρ h => match ρ[i]? with
  | some (some x) => (fe ρ h).toS ρ fun y h1 => match f x y h1 with
    | some z => .nx (ρ.set i (some z)) h1
    | none => .bad
  | _ => .bad
theorem js_aug (i : Nat) {x : Str} {op : Operator} {ti : TIp} {f : PV → PV → PH → Option PV} {pos' : Pos} (hN : X.N.Nodup) (h : JE G X W e fe) (ho : PIp X op ti) (hj : IpJ G ti f) (hi : X.N[i]? = some x := by rfl) (hx : Loc X.env.scope x := by first | exact Or.inl rfl | exact Or.inr rfl)
    (hf : X.fn x = true ∨ X.env.scope.names.lookup x = some .local := by first | exact .inl rfl | exact .inr rfl) : JS G X W (.AugAssign (.Name x pos') op e pos) (saug i f fe) := by
  refine ps_imp (ps_aug hN hi hx h ho hf) fun D σ H ⟨M, ρ, h, r, e, o⟩ => ?_
  unfold saug at o
  cases q : ρ[i]? with
  | none => rw [q] at o; exact False.elim o
  | some w =>
    cases w with
    | none => rw [q] at o; exact False.elim o
    | some xv =>
      rw [q] at o
      obtain ⟨u, h1, p⟩ := e.2 i xv q
      refine ⟨u, h1, M, ρ, h, r, e, (OutS.bind (Rp := fun M H (u : V) (v : PV) => Rep G M H u v) e o).mono fun uy H1 ⟨M1, h1, y, x1, r1, p1, o1⟩ => ?_⟩
      cases hf : f xv y h1 with
      | none => simp only [hf] at o1; exact False.elim o1
      | some z =>
        simp only [hf] at o1
        exact hj M1 h1 H1 u uy xv y z _ r1 (Rep.ext x1 _ _ p) p1 hf fun w H' x' r' p' => o1 _ M1 H' x' r' (((e.ext x1).ext x').set p')
theorem ij_int {f : Int → Int → Int} : IpJ G (ipI f) (intO0 fun i j => .int (f i j)) := by
  intro M h H u v x y z Q r p q e k
  cases x <;> cases y <;> first | (cases e; done) | skip
  rename_i i j
  cases e
  exact ⟨i, j, p, q, k _ H (Ext.refl M H) r rfl⟩
end

/-! ### what is walked -/
/-- the items; the loc of the list that is walked -/
structure Src where
  xs : List PV
  lv : Option Nat
def lvOk (s : Src) (h : PH) : Prop := ∀ n, s.lv = some n → h[n]? = some (.lst s.xs)
def ItRep (G : Gc) (M : Gh) (H : Hp) (J : It) (s : Src) : Prop :=
  s.xs.length ≤ sizeLine ∧ ∀ M2 H2 h2, Tr M H M2 H2 → HRel G M2 H2 h2 → lvOk s h2 → (∀ i, i < s.xs.length → J.go i H2 ∧ ∀ x H3, J.yld i H2 x H3 → Ext M2 H2 M2 H3 ∧ HRel G M2 H3 h2 ∧ ∀ v, s.xs[i]? = some v → Rep G M2 H3 x v) ∧ J.stop s.xs.length H2
abbrev SI := En → PH → R Src
abbrev JI (G : Gc) (X : Cx) (W : WX) (tg iter : Expr) (f : SI) : Prop := PI X tg iter (TF G W (fun M H (J : It) (s : Src) => ItRep G M H J s) f)
section
variable {G : Gc} {X : Cx} {W : WX} {tg : Expr}
theorem pi_imp {iter : Expr} {t t' : TI} (h : PI X tg iter t) (i : ∀ σ H Q, t' σ H Q → t σ H Q) : PI X tg iter t' := ⟨fun pins s σ H R I q => h.run pins s σ H R I (i σ H R q)⟩
/-- a value that is walked -/
def ItR (X : Cx) (tg : Expr) (r : V → Hp → (It → Hp → Prop) → Prop) : Prop :=
  ∀ (pins : List (Addr × Obj)) (s : Shared) (σ : L2.St) (H : Hp) (x : V) (v : Value) (R : It → Hp → Prop), Inv X pins σ H s → RelV x v → r x H R → wpAny (model X.prog X.w) X.A (pyIter v) (PIE X pins σ tg R) X.xe s
theorem pi_of {l : Expr} {tl : TE} {r : V → Hp → (It → Hp → Prop) → Prop} (hl : PE X l tl) (hr : ItR X tg r) : PI X tg l (fun σ H R => tl σ H fun x H1 => r x H1 R) :=
  ⟨fun pins s σ H R I h => thn (hl.run pins s σ H _ I h) fun v s1 ⟨x, H1, I1, r1, q1⟩ => hr pins s1 σ H1 x v R I1 r1 q1⟩
def rItS (K : PySem.W.Frag) : V → Hp → (It → Hp → Prop) → Prop := fun x H R =>
  (∃ a, x = .ref a ∧ (∃ xs, SqL K H a xs) ∧ R (Itl K a) H) ∨ (∃ a, x = .ref a ∧ (∃ xs, SqT K H a xs) ∧ R (Itt K a) H) ∨ (∃ z, x = .str z ∧ R (Its z) H)
theorem it_seq : ItR X tg (rItS X.K) := by
  intro pins s1 σ H1 x v R I1 r1 q1
  rcases q1 with ⟨a, rfl, ⟨xs, hq⟩, q⟩ | ⟨a, rfl, ⟨xs, hq⟩, q⟩ | ⟨z, rfl, q⟩
  · cases r1
    obtain ⟨its, rv, p, hz⟩ := I1.list hq
    refine wpAny_pyIter_list p.isList ?_
    refine ⟨s1.heap.objs.size, [s1.heap.objs.size], _, _, H1, rfl, I1.kept (t' := s1.toks) fun b o e => Heap.get?_push_of_some _ e, turn_list a _, ⟨_, Heap.get?_push_size _ rfl, rfl, rfl⟩, fun b hb => ?_, q⟩
    have e : b = s1.heap.objs.size := by simpa using hb
    subst e
    exact I1.fpOk (Nat.le_refl _) (I1.hok.fresh (Nat.le_refl _))
  · cases r1
    obtain ⟨its, rv, p, hz⟩ := I1.tuple hq
    refine wpAny_pyIter_tuple (show s1.heap.IsTuple a its.toArray from p) ?_
    refine ⟨s1.heap.objs.size, [s1.heap.objs.size], _, _, H1, rfl, I1.kept (t' := s1.toks) fun b o e => Heap.get?_push_of_some _ e, turn_tuple a _, ⟨_, Heap.get?_push_size _ rfl, rfl, rfl⟩, fun b hb => ?_, q⟩
    have e : b = s1.heap.objs.size := by simpa using hb
    subst e
    exact I1.fpOk (Nat.le_refl _) (I1.hok.fresh (Nat.le_refl _))
  · have pe : PE X (.Constant (.str z) 0 ⟨0, 0, 0, 0⟩) (fun _ H Q => Q (.str z) H) := pe_str
    obtain ⟨t, rfl⟩ := r1
    cases hc : z.cps.all (· < 128) with
    | true =>
      refine wpAny_pyIter_ascii hc ?_
      refine ⟨s1.heap.objs.size, [s1.heap.objs.size], _, _, H1, rfl, I1.kept (t' := s1.toks) fun b o e => Heap.get?_push_of_some _ e, turn_str _ z t "str_ascii_iterator" (.inl rfl), ⟨_, Heap.get?_push_size _ rfl, rfl, rfl⟩, fun b hb => ?_, q⟩
      have e : b = s1.heap.objs.size := by simpa using hb
      subst e
      exact I1.fpOk (Nat.le_refl _) (I1.hok.fresh (Nat.le_refl _))
    | false =>
      refine wpAny_pyIter_wide hc ?_
      refine ⟨s1.heap.objs.size, [s1.heap.objs.size], _, _, H1, rfl, I1.kept (t' := s1.toks) fun b o e => Heap.get?_push_of_some _ e, turn_str _ z t "str_iterator" (.inr rfl), ⟨_, Heap.get?_push_size _ rfl, rfl, rfl⟩, fun b hb => ?_, q⟩
      have e : b = s1.heap.objs.size := by simpa using hb
      subst e
      exact I1.fpOk (Nat.le_refl _) (I1.hok.fresh (Nat.le_refl _))
def signs (z : Str) : List PV := z.cps.toList.map fun c => .str ⟨#[c]⟩
/-- a value as a source -/
def srcOf (h : PH) : PV → Option Src
  | .tup xs => some ⟨xs, none⟩
  | .kt xs => some ⟨xs, none⟩
  | .lst xs => some ⟨xs, none⟩
  | .str z => if z.length ≤ sizeLine then some ⟨signs z, none⟩ else none
  | .loc n => match rd h (.loc n) with
    | .lst xs => some ⟨xs, some n⟩
    | _ => none
  | _ => none
def isrc (f : SE) : SI := fun ρ h => (f ρ h).bind fun v h1 => R.of h1 (srcOf h1 v)
theorem itrep_of {M : Gh} {H : Hp} {J : It} {s : Src} {P : Hp → Prop} {us : List V} (hz : s.xs.length ≤ sizeLine) (hl : us.length = s.xs.length) (w : Walk J us.length P (YAt us)) (st : ∀ M2 H2 h2, Tr M H M2 H2 → HRel G M2 H2 h2 → lvOk s h2 → P H2 ∧ Reps G M2 H2 us s.xs) : ItRep G M H J s := by
  refine ⟨hz, fun M2 H2 h2 x r l => ?_⟩
  obtain ⟨p, rs⟩ := st M2 H2 h2 x r l
  refine ⟨fun i hi => ⟨w.goes i H2 (by omega) p, fun u H3 y => ?_⟩, by rw [← hl]; exact w.stops H2 p⟩
  obtain ⟨e, hu⟩ := w.yields i H2 u H3 (by omega) p y
  subst e
  refine ⟨Ext.refl _ _, r, fun v hv => ?_⟩
  obtain ⟨v', h1, h2⟩ := rs.get' hu
  rw [hv] at h1; cases h1
  exact h2
theorem ji_seq {l : Expr} {f : SE} (hK : G.K = X.K) (h : JE G X W l f) : JI G X W tg l (isrc f) := by
  refine pi_imp (pi_of h it_seq) fun σ H Q t => (TF.bind (Rp := fun M H (u : V) (v : PV) => Rep G M H u v) t).mono fun u H1 ⟨M1, ρ, h1, v, r1, e1, p, o⟩ => ?_
  rw [← hK]
  cases v with
  | tup xs =>
    obtain ⟨a, us, rfl, s, z, rs⟩ := p
    refine .inr (.inl ⟨a, rfl, ⟨us, s.sq⟩, o _ M1 H1 (Ext.refl _ _) r1 ?_⟩)
    exact itrep_of (us := us) (by rw [← rs.length]; exact z) rs.length walk_tup fun M2 H2 h2 x r l => ⟨(x.sqT s).sq, Reps.tr x _ _ rs⟩
  | kt xs =>
    obtain ⟨a, us, rfl, n, s, z, rs⟩ := p
    refine .inr (.inl ⟨a, rfl, ⟨us, .inl s⟩, o _ M1 H1 (Ext.refl _ _) r1 ?_⟩)
    exact itrep_of (us := us) (by rw [← rs.length]; exact z) rs.length walk_tup fun M2 H2 h2 x r l => ⟨.inl (x.rd n (fun ps z => by cases z) s).1, Reps.tr x _ _ rs⟩
  | lst xs =>
    obtain ⟨a, us, rfl, s, z, rs⟩ := p
    refine .inl ⟨a, rfl, ⟨us, s.sq⟩, o _ M1 H1 (Ext.refl _ _) r1 ?_⟩
    exact itrep_of (us := us) (by rw [← rs.length]; exact z) rs.length walk_list fun M2 H2 h2 x r l => ⟨(x.sqL s).sq, Reps.tr x _ _ rs⟩
  | str z =>
    unfold srcOf at o
    by_cases hz : z.length ≤ sizeLine
    · simp only [hz, if_true] at o
      cases (show u = V.str z from p)
      have hsz : z.cps.size = (signs z).length := by unfold signs; rw [List.length_map, Array.length_toList]
      refine .inr (.inr ⟨z, rfl, o _ M1 H1 (Ext.refl _ _) r1 ⟨by rw [← hsz]; exact hz, fun M2 H2 h2 x r l => ⟨fun i hi => ⟨by rw [← hsz] at hi; exact hi, fun u H3 y => ?_⟩, ?_⟩⟩⟩)
      · obtain ⟨e, c, hc, rfl⟩ := y
        subst e
        refine ⟨Ext.refl _ _, r, fun v hv => ?_⟩
        have hv : (signs z)[i]? = some v := hv
        unfold signs at hv
        rw [List.getElem?_map, Array.getElem?_toList, hc] at hv
        cases hv
        rfl
      · show z.cps.size ≤ (signs z).length
        omega
    · simp only [hz, if_false] at o
      exact False.elim o
  | loc n =>
    unfold srcOf at o
    rcases rd_cases h1 n with ⟨xs, hn, e⟩ | e
    · simp only [e] at o
      obtain ⟨a, us, ha, hH, z, rs⟩ := r1.lstAt hn
      obtain ⟨b, rfl, e2⟩ := p
      rw [ha] at e2; cases e2
      refine .inl ⟨_, rfl, ⟨us, .of hH⟩, o _ M1 H1 (Ext.refl _ _) r1 ?_⟩
      refine ⟨by rw [← rs.length]; exact z, fun M2 H2 h2 x r l => ?_⟩
      have hn2 := l n rfl
      obtain ⟨a2, us2, ha2, hH2, z2, rs2⟩ := r.lstAt hn2
      obtain ⟨L, e3⟩ := x.pre
      have ea : M2.L[n]? = M1.L[n]? := by rw [e3]; rw [List.getElem?_append_left (List.getElem?_eq_some_iff.mp ha).1]
      rw [ha2, ha] at ea; cases ea
      have hl2 := rs2.length
      have w := walk_list (K := G.K) (a := a) (xs := us2)
      refine ⟨fun i hi => ⟨w.goes i H2 (by rw [hl2]; exact hi) (.of hH2), fun u H3 y => ?_⟩, by rw [show (Src.mk xs (some n)).xs.length = us2.length from hl2.symm]; exact w.stops H2 (.of hH2)⟩
      obtain ⟨e, hu⟩ := w.yields i H2 u H3 (by rw [hl2]; exact hi) (.of hH2) y
      subst e
      refine ⟨Ext.refl _ _, r, fun v hv => ?_⟩
      obtain ⟨v', q1, q2⟩ := rs2.get' hu
      rw [hv] at q1; cases q1
      exact q2
    · simp only [e] at o
      exact False.elim o
  | non => exact False.elim o
  | bl _ => exact False.elim o
  | int _ => exact False.elim o
  | dic _ _ => exact False.elim o
/-! ### range -/
def rangeL (lo : Int) (n : Nat) : List PV := (List.range n).map fun i => .int (lo + (i : Nat))
theorem itrep_range {M : Gh} {H : Hp} {lo : Int} {n : Nat} (hn : n ≤ sizeLine) : ItRep G M H (Itr lo n) ⟨rangeL lo n, none⟩ := by
  have hl : (rangeL lo n).length = n := by simp [rangeL]
  refine ⟨by show (rangeL lo n).length ≤ _; rw [hl]; exact hn, fun M2 H2 h2 x r l => ⟨fun i hi => ⟨by rw [← hl]; exact hi, fun u H3 y => ?_⟩, ?_⟩⟩
  · obtain ⟨e, rfl⟩ := y
    subst e
    refine ⟨Ext.refl _ _, r, fun v hv => ?_⟩
    have hi' : i < n := by rw [← hl]; exact hi
    simp only [rangeL] at hv
    rw [List.getElem?_map, List.getElem?_range hi'] at hv
    cases hv
    rfl
  · show n ≤ (rangeL lo n).length
    omega
def int1 : List PV → Option Int
  | [.int i] => some i
  | _ => none
theorem int1_eq {vs : List PV} {i : Int} (h : int1 vs = some i) : vs = [.int i] := by
  unfold int1 at h
  split at h
  · cases h; rfl
  · cases h
def irng1 (g : SA) : SI := fun ρ h => (g ρ h).bind fun vs h1 => match int1 vs with
  | some j => if j ≤ sizeLine ∧ -(2 ^ 62) ≤ j then .ok ⟨rangeL 0 j.toNat, none⟩ h1 else .bad
  | none => .bad
theorem ji_range1 {a : Expr} {g : SA} {p pos : Pos} (hm : X.mg "range" = none) (ha : JAs G X W [a] g) (hg : Gl X "range" := by rfl) (hs : starEach [a] X.env = [(false, eval a X.env)] := by rfl) : JI G X W tg (.Call (.Name "range" p) [a] [] pos) (irng1 g) := by
  refine pi_imp (pi_range1 hg hm ha hs) fun σ H Q t => (TF.bind (Rp := fun M H (u : List V) (v : List PV) => Reps G M H u v) t).mono fun us H1 ⟨M1, ρ, h1, vs, r1, e1, p, o⟩ => ?_
  have hsl := sizeLine_eq
  cases hv : int1 vs with
  | none => simp only [hv] at o; exact False.elim o
  | some j =>
    simp only [hv] at o
    have := int1_eq hv
    subst this
    obtain ⟨u, rfl, pu⟩ := reps1 p
    by_cases hj : j ≤ sizeLine ∧ -(2 ^ 62) ≤ j
    · rw [if_pos hj] at o
      exact ⟨j, by rw [show u = V.int j from pu], hj.2, by omega, o _ M1 H1 (Ext.refl _ _) r1 (itrep_range (by omega))⟩
    · rw [if_neg hj] at o
      exact False.elim o
def int2 : List PV → Option (Int × Int)
  | [.int i, .int j] => some (i, j)
  | _ => none
theorem int2_eq {vs : List PV} {i j : Int} (h : int2 vs = some (i, j)) : vs = [.int i, .int j] := by
  unfold int2 at h
  split at h
  · cases h; rfl
  · cases h
def irng2 (g : SA) : SI := fun ρ h => (g ρ h).bind fun vs h1 => match int2 vs with
  | some (i, j) => if (-(2 ^ 62) ≤ i ∧ i < 2 ^ 62) ∧ (-(2 ^ 62) ≤ j ∧ j < 2 ^ 62) ∧ (j - i).toNat ≤ sizeLine then .ok ⟨rangeL i (j - i).toNat, none⟩ h1 else .bad
  | none => .bad
theorem ji_range2 {a b : Expr} {g : SA} {p pos : Pos} (hm : X.mg "range" = none) (ha : JAs G X W [a, b] g) (hg : Gl X "range" := by rfl) (hs : starEach [a, b] X.env = [(false, eval a X.env), (false, eval b X.env)] := by rfl) (hs2 : starEach [b] X.env = [(false, eval b X.env)] := by rfl) : JI G X W tg (.Call (.Name "range" p) [a, b] [] pos) (irng2 g) := by
  refine pi_imp (pi_range2 hg hm ha hs hs2) fun σ H Q t => (TF.bind (Rp := fun M H (u : List V) (v : List PV) => Reps G M H u v) t).mono fun us H1 ⟨M1, ρ, h1, vs, r1, e1, p, o⟩ => ?_
  cases hv : int2 vs with
  | none => simp only [hv] at o; exact False.elim o
  | some ij =>
    obtain ⟨i, j⟩ := ij
    simp only [hv] at o
    have := int2_eq hv
    subst this
    obtain ⟨u, v, rfl, pu, pv⟩ := reps2 p
    by_cases hj : (-(2 ^ 62) ≤ i ∧ i < 2 ^ 62) ∧ (-(2 ^ 62) ≤ j ∧ j < 2 ^ 62) ∧ (j - i).toNat ≤ sizeLine
    · rw [if_pos hj] at o
      exact ⟨i, j, by rw [show u = V.int i from pu, show v = V.int j from pv], ⟨hj.1.1, hj.1.2, hj.2.1.1, hj.2.1.2⟩, o _ M1 H1 (Ext.refl _ _) r1 (itrep_range hj.2.2)⟩
    · rw [if_neg hj] at o
      exact False.elim o
end
end J

/-! J: for, while, list comprehensions, enumerate. -/
namespace J
open PySem PySem.Spec PyProof.Rows L2

/-! ### equal pure values -/
mutual
def beqP : PV → PV → Bool
  | .non, .non => true
  | .bl a, .bl b => a == b
  | .int a, .int b => a == b
  | .str a, .str b => decide (a = b)
  | .tup a, .tup b => beqs a b
  | .kt a, .kt b => beqs a b
  | .lst a, .lst b => beqs a b
  | .dic a c, .dic b d => beqs a b && beqs c d
  | .loc a, .loc b => a == b
  | _, _ => false
def beqs : List PV → List PV → Bool
  | [], [] => true
  | x :: xs, y :: ys => beqP x y && beqs xs ys
  | _, _ => false
end
mutual
theorem beqP_eq : ∀ (x y : PV), beqP x y = true → x = y
  | .non, y, h => by cases y <;> simp [beqP] at h ⊢
  | .bl _, y, h => by cases y <;> simp [beqP] at h ⊢; exact h
  | .int _, y, h => by cases y <;> simp [beqP] at h ⊢; exact h
  | .str _, y, h => by cases y <;> simp [beqP] at h ⊢; exact h
  | .tup a, y, h => by cases y <;> simp [beqP] at h ⊢; exact beqs_eq _ _ h
  | .kt a, y, h => by cases y <;> simp [beqP] at h ⊢; exact beqs_eq _ _ h
  | .lst a, y, h => by cases y <;> simp [beqP] at h ⊢; exact beqs_eq _ _ h
  | .dic a c, y, h => by cases y <;> simp [beqP] at h ⊢; exact ⟨beqs_eq _ _ h.1, beqs_eq _ _ h.2⟩
  | .loc _, y, h => by cases y <;> simp [beqP] at h ⊢; exact h
theorem beqs_eq : ∀ (x y : List PV), beqs x y = true → x = y
  | [], [], _ => rfl
  | [], _ :: _, h => by simp [beqs] at h
  | _ :: _, [], h => by simp [beqs] at h
  | x :: xs, y :: ys, h => by
    simp only [beqs, Bool.and_eq_true] at h
    rw [beqP_eq x y h.1, beqs_eq xs ys h.2]
end
mutual
theorem beqP_refl : ∀ x : PV, beqP x x = true
  | .non => rfl
  | .bl _ => by simp [beqP]
  | .int _ => by simp [beqP]
  | .str _ => by simp [beqP]
  | .tup a => by simp only [beqP]; exact beqs_refl a
  | .kt a => by simp only [beqP]; exact beqs_refl a
  | .lst a => by simp only [beqP]; exact beqs_refl a
  | .dic a c => by simp only [beqP]; rw [beqs_refl a, beqs_refl c]; rfl
  | .loc _ => by simp [beqP]
theorem beqs_refl : ∀ x : List PV, beqs x x = true
  | [] => rfl
  | x :: xs => by simp only [beqs]; rw [beqP_refl x, beqs_refl xs]; rfl
end
def sameO (xs : List PV) : Option PO → Bool
  | some (.lst ys) => beqs ys xs
  | _ => false
def sameL (s : Src) (h : PH) : Bool := match s.lv with
  | none => true
  | some n => sameO s.xs h[n]?
@[simp] theorem sameL_none (xs : List PV) (h : PH) : sameL ⟨xs, none⟩ h = true := rfl
theorem sameL_ok {s : Src} {h : PH} (e : sameL s h = true) : lvOk s h := by
  intro n hn
  unfold sameL at e
  rw [hn] at e
  simp only at e
  cases q : h[n]? with
  | none => rw [q] at e; cases e
  | some o =>
    cases o with
    | lst ys => rw [q] at e; rw [beqs_eq ys _ e]
    | _ => rw [q] at e; cases e

/-! ### for -/
def forL (s : Src) (g : GF) (body : SS) : List PV → En → PH → RS
  | [], ρ, h => .nx ρ h
  | x :: xs, ρ, h => match g x ρ with
    | none => .bad
    | some ρ1 => match body ρ1 h with
      | .nx ρ' h' => if sameL s h' then forL s g body xs ρ' h' else .bad
      | .ct ρ' h' => if sameL s h' then forL s g body xs ρ' h' else .bad
      | .bk ρ' h' => .nx ρ' h'
      | .rt v h' => .rt v h'
      | .ex e ρ' h' => .ex e ρ' h'
      | .bad => .bad
def sfor (fi : SI) (g : GF) (body : SS) : SS := fun ρ h => (fi ρ h).toS ρ fun s h1 => if sameL s h1 then forL s g body s.xs ρ h1 else .bad
section
variable {G : Gc} {X : Cx} {W : WX} {tg iter : Expr} {pos : Pos}
theorem js_for {body : List Stmt} {fi : SI} {g : GF} {ss : List Nat} {fb : SS} (hp : PassesOwn (model X.prog X.w) X.A X.env X.xe) (hi : JI G X W tg iter fi) (hg : JG G X tg g ss) (hb : JSs G X W body fb) (hc : X.calm = true := by rfl)
    (hs : ∀ x, foldedSetIterable iter X.env x = pure x := by intro _; rfl) : JS G X W (.For tg iter body [] pos) (sfor fi g fb) := by
  refine ps_imp (ps_for hp hc hi hg hb hs) fun D σ H t => ?_
  refine (TSF.bind (Rp := fun M H (J : It) (s : Src) => ItRep G M H J s) (k := fun ρ s h1 => if sameL s h1 then forL s g fb s.xs ρ h1 else .bad) t).mono fun J H1 ⟨M1, ρ1, h1, s, r1, e1, it, o1⟩ => ?_
  cases hsl : sameL s h1 with
  | false => simp only [hsl] at o1; exact False.elim o1
  | true =>
    simp only [hsl, if_true] at o1
    obtain ⟨hz, it⟩ := it
    refine ⟨fun i m σ H => m = s.xs.length - i ∧ i ≤ s.xs.length ∧ ∃ M ρ h, HRel G M H h ∧ ERel G M H ρ σ ∧ Ext M1 H1 M H ∧ lvOk s h ∧ OutS G W M H (forL s g fb (s.xs.drop i) ρ h) D,
      ⟨s.xs.length, by simp, Nat.zero_le _, M1, ρ1, h1, r1, e1, Ext.refl _ _, sameL_ok hsl, by simpa using o1⟩, ?_⟩
    rintro i m σ2 H2 ⟨rfl, hle, M2, ρ2, h2, r2, e2, x2, l2, o2⟩
    obtain ⟨go, stop⟩ := it M2 H2 h2 x2.tr r2 l2
    by_cases hlt : i < s.xs.length
    · obtain ⟨g1, g2⟩ := go i hlt
      rw [List.drop_eq_getElem_cons hlt] at o2
      unfold forL at o2
      cases hg1 : g s.xs[i] ρ2 with
      | none => simp only [hg1] at o2; exact False.elim o2
      | some ρ3 =>
        simp only [hg1] at o2
        refine .inr ⟨g1, fun σ' H' => ∃ M ρ h, HRel G M H' h ∧ ERel G M H' ρ σ' ∧ Ext M1 H1 M H' ∧ lvOk s h ∧ OutS G W M H' (forL s g fb (s.xs.drop (i + 1)) ρ h) D, fun σ' H' q => ⟨s.xs.length - (i + 1), by omega, rfl, hlt, q⟩, fun u H3 y => ?_⟩
        obtain ⟨y1, y2, y3⟩ := g2 u H3 y
        refine ⟨M2, h2, s.xs[i], ρ2, ρ3, y2, e2.ext y1, y3 _ (List.getElem?_eq_getElem hlt), hg1, fun σ4 e4 _ => ⟨M2, ρ3, h2, y2, e4, ?_⟩⟩
        have o3 := OutS.ext y1 o2
        cases hb1 : fb ρ3 h2 with
        | nx ρ' h' =>
          simp only [hb1] at o3
          cases hsl' : sameL s h' with
          | false => simp only [hsl'] at o3; exact False.elim o3
          | true =>
            simp only [hsl', if_true] at o3
            exact fun σ' M' H' x' r' e' => ⟨M', ρ', h', r', e', (x2.trans y1).trans x', sameL_ok hsl', OutS.ext x' o3⟩
        | ct ρ' h' =>
          simp only [hb1] at o3
          cases hsl' : sameL s h' with
          | false => simp only [hsl'] at o3; exact False.elim o3
          | true =>
            simp only [hsl', if_true] at o3
            exact fun σ' M' H' x' r' e' => ⟨M', ρ', h', r', e', (x2.trans y1).trans x', sameL_ok hsl', OutS.ext x' o3⟩
        | bk ρ' h' => simp only [hb1] at o3; exact o3
        | rt v h' => simp only [hb1] at o3; exact o3
        | ex e ρ' h' => simp only [hb1] at o3; exact o3
        | bad => simp only [hb1] at o3; exact False.elim o3
    · have e : i = s.xs.length := by omega
      subst e
      rw [List.drop_length] at o2
      exact .inl ⟨stop, o2 σ2 M2 H2 (Ext.refl _ _) r2 e2⟩
/-! ### while, with fuel -/
def whileL (c : SB) (body : SS) : Nat → En → PH → RS
  | 0, _, _ => .bad
  | n + 1, ρ, h => (c ρ h).toS ρ fun b h1 => if b then (match body ρ h1 with
    | .nx ρ' h' => whileL c body n ρ' h'
    | .ct ρ' h' => whileL c body n ρ' h'
    | .bk ρ' h' => .nx ρ' h'
    | .rt v h' => .rt v h'
    | .ex e ρ' h' => .ex e ρ' h'
    | .bad => .bad) else .nx ρ h1
theorem js_while (n : Nat) {c : Expr} {body : List Stmt} {fc : SB} {fb : SS} (hp : PassesOwn (model X.prog X.w) X.A X.env X.xe) (hc : JT G X W c fc) (hb : JSs G X W body fb) : JS G X W (.While c body [] pos) (whileL fc fb n) := by
  refine ps_imp (ps_while hp hc hb) fun D σ H ⟨M, ρ, h, r, e, o⟩ => ?_
  refine ⟨fun m σ H => ∃ M ρ h, HRel G M H h ∧ ERel G M H ρ σ ∧ OutS G W M H (whileL fc fb m ρ h) D, ⟨n, M, ρ, h, r, e, o⟩, ?_⟩
  rintro m σ1 H1 ⟨M1, ρ1, h1, r1, e1, o1⟩
  cases m with
  | zero => exact False.elim o1
  | succ m =>
    refine ⟨M1, ρ1, h1, r1, e1, (OutS.bind (Rp := fun _ _ (u v : Bool) => u = v) e1 o1).mono fun b H2 ⟨M2, h2, b', x2, r2, p2, o2⟩ => ?_⟩
    subst p2
    cases b with
    | false => rw [if_neg Bool.false_ne_true]; exact o2 σ1 M2 H2 (Ext.refl _ _) r2 (e1.ext x2)
    | true =>
      rw [if_pos rfl]
      rw [if_pos rfl] at o2
      refine ⟨fun σ' H' => ∃ M ρ h, HRel G M H' h ∧ ERel G M H' ρ σ' ∧ OutS G W M H' (whileL fc fb m ρ h) D, fun σ' H' q => ⟨m, Nat.lt_succ_self m, q⟩, M2, ρ1, h2, r2, e1.ext x2, ?_⟩
      cases hb1 : fb ρ1 h2 with
      | nx ρ' h' => simp only [hb1] at o2; exact fun σ' M' H' x' r' e' => ⟨M', ρ', h', r', e', OutS.ext x' o2⟩
      | ct ρ' h' => simp only [hb1] at o2; exact fun σ' M' H' x' r' e' => ⟨M', ρ', h', r', e', OutS.ext x' o2⟩
      | bk ρ' h' => simp only [hb1] at o2; exact o2
      | rt v h' => simp only [hb1] at o2; exact o2
      | ex e ρ' h' => simp only [hb1] at o2; exact o2
      | bad => simp only [hb1] at o2; exact False.elim o2

/-! ### list comprehensions -/
abbrev W0 : WX := fun _ _ _ _ => False
abbrev JTs (G : Gc) (X : Cx) (W : WX) (ifs : List Expr) (f : SB) : Prop := PTs X ifs (TFB G W f)
def tyes : SB := fun _ h => .ok true h
theorem pts_imp {ifs : List Expr} {t t' : TT} (h : PTs X ifs t) (i : ∀ σ H Q, t' σ H Q → t σ H Q) : PTs X ifs t' := ⟨fun pins s σ H Q I q => h.run pins s σ H Q I (i σ H Q q)⟩
theorem jts_nil : JTs G X W [] tyes := pts_imp pts_nil fun σ H Q ⟨M, ρ, h, r, e, o⟩ => Out.ret o r rfl
theorem jts_one {c : Expr} {f : SB} (h : JT G X W c f) : JTs G X W [c] f := pts_one h
def wipeE (ρ : En) : List Nat → En
  | [] => ρ
  | v :: vs => (wipeE ρ vs).set v none
theorem wipeE_get (ρ : En) : ∀ (vs : List Nat) (j : Nat) (x : PV), (wipeE ρ vs)[j]? = some (some x) → ρ[j]? = some (some x) ∧ j ∉ vs
  | [], j, x, h => ⟨h, by simp⟩
  | v :: vs, j, x, h => by
    unfold wipeE at h
    by_cases hv : v = j
    · subst hv
      by_cases hl : v < (wipeE ρ vs).length
      · rw [List.getElem?_set_self hl] at h; cases h
      · rw [List.getElem?_eq_none (by simpa using hl)] at h; cases h
    · rw [List.getElem?_set_ne hv] at h
      obtain ⟨h1, h2⟩ := wipeE_get ρ vs j x h
      exact ⟨h1, by simp only [List.mem_cons, not_or]; exact ⟨fun e => hv e.symm, h2⟩⟩
theorem wipeE_length (ρ : En) : ∀ vs : List Nat, (wipeE ρ vs).length = ρ.length
  | [] => rfl
  | v :: vs => by unfold wipeE; rw [List.length_set, wipeE_length ρ vs]
theorem ERel.wipe {M : Gh} {H : Hp} {ρ : En} {σ : L2.St} (e : ERel G M H ρ σ) (vs : List Nat) : ERel G M H (wipeE ρ vs) (L2.wipe σ vs) := by
  refine ⟨by rw [wipeE_length, L2.wipe_length]; exact e.1, fun j x h => ?_⟩
  obtain ⟨h1, h2⟩ := wipeE_get ρ vs j x h
  obtain ⟨u, q1, q2⟩ := e.2 j x h1
  exact ⟨u, by rw [wipe_get, if_neg h2]; exact q1, q2⟩
def compL (s : Src) (g : GF) (ft : SB) (fe : SE) (ρ0 : En) : List PV → PH → R (List PV)
  | [], h => .ok [] h
  | x :: xs, h => match g x ρ0 with
    | none => .bad
    | some ρ1 => match ft ρ1 h with
      | .ok true h1 => (match fe ρ1 h1 with
        | .ok v h2 => if sameL s h2 then (compL s g ft fe ρ0 xs h2).bind fun vs h3 => .ok (v :: vs) h3 else .bad
        | _ => .bad)
      | .ok false h1 => if sameL s h1 then compL s g ft fe ρ0 xs h1 else .bad
      | _ => .bad
def lcG (vs : List Nat) (fi : SI) (g : GF) (ft : SB) (fe : SE) (k : List PV → PH → R PV) : SE := fun ρ h => (fi ρ h).bind fun s h1 => if sameL s h1 then (compL s g ft fe (wipeE ρ vs) s.xs h1).bind k else .bad
/-- .. as a value that stays -/
def lc (vs : List Nat) (fi : SI) (g : GF) (ft : SB) (fe : SE) : SE := lcG vs fi g ft fe fun xs h => .ok (.lst xs) h
/-- .. as a mutable list -/
def lcM (vs : List Nat) (fi : SI) (g : GF) (ft : SB) (fe : SE) : SE := lcG vs fi g ft fe fun xs h => .ok (.loc h.length) (h ++ [.lst xs])
theorem compL_exc {s : Src} {g : GF} {ft : SB} {fe : SE} {ρ0 : En} : ∀ (xs : List PV) (h : PH) (e : Ex) (h' : PH), compL s g ft fe ρ0 xs h ≠ .exc e h'
  | [], h, e, h' => by simp [compL]
  | x :: xs, h, e, h' => by
    unfold compL
    cases g x ρ0 with
    | none => simp
    | some ρ1 =>
      simp only
      cases ft ρ1 h with
      | ok b h1 =>
        cases b with
        | true =>
          simp only
          cases fe ρ1 h1 with
          | ok v h2 =>
            simp only
            split
            · have ih := compL_exc (s := s) (g := g) (ft := ft) (fe := fe) (ρ0 := ρ0) xs h2
              cases q : compL s g ft fe ρ0 xs h2 with
              | ok vs h3 => simp
              | exc e2 h4 => exact absurd q (ih e2 h4)
              | bad => simp
            · simp
          | exc _ _ => simp
          | bad => simp
        | false =>
          simp only
          split
          · exact compL_exc xs h1 e h'
          · simp
      | exc _ _ => simp
      | bad => simp
/-- the end of a comprehension: its list is laid open -/
def LcEnd (G : Gc) (k : List PV → PH → R PV) : Prop := ∀ (M : Gh) (H : Hp) (h : PH) (D : Addr) (us : List V) (xs : List PV), HRel G (M.hide D) H h → H D = some (.lst us) → us.length ≤ sizeLine → Reps G (M.hide D) H us xs → D ∉ M.Z → D ∉ M.L →
  ∃ v h' M', k xs h = .ok v h' ∧ (M' = M ∨ M' = M.add D) ∧ HRel G M' H h' ∧ Rep G M' H (.ref D) v
theorem lcEnd_frozen : LcEnd G fun xs h => .ok (.lst xs) h := fun M H h D us xs r hD hz rs nZ nL =>
  ⟨_, _, M, rfl, .inl rfl, r.unhide, D, us, rfl, .inl ⟨fun z => z.elim nL nZ, .inl hD⟩, hz, Reps.tr Tr.unhide _ _ rs⟩
theorem Tr.show {M : Gh} {H : Hp} {D : Addr} : Tr (M.hide D) H (M.add D) H := ⟨⟨[D], rfl⟩, fun a u h n t => ⟨h, fun z => by
  have q := Gh.of_hide n
  rcases z with z | z
  · rcases List.mem_append.mp z with z | z
    · exact q.1 (.inl z)
    · exact q.2 (List.mem_singleton.mp z)
  · exact q.1 (.inr z)⟩⟩
theorem lcEnd_loc : LcEnd G fun xs h => .ok (.loc h.length) (h ++ [.lst xs]) := fun M H h D us xs r hD hz rs nZ nL => by
  have len : M.L.length = h.length := r.len
  refine ⟨_, _, M.add D, rfl, .inr rfl, ⟨?_, fun a ha => ?_, by simp [Gh.add, len], fun a ha => r.hid a (List.mem_cons_of_mem _ ha), fun n ob e => ?_, r.tab⟩, D, rfl, ?_⟩
  · show (M.L ++ [D]).Nodup
    rw [List.nodup_append]
    refine ⟨r.nd, by simp, fun a ha b hb => ?_⟩
    rw [List.mem_singleton.mp hb]
    exact fun z => nL (z ▸ ha)
  · rcases List.mem_append.mp ha with ha | ha
    · exact fun z => r.apart a ha (List.mem_cons_of_mem _ z)
    · rw [List.mem_singleton.mp ha]; exact nZ
  · by_cases hn : n < h.length
    · rw [List.getElem?_append_left hn] at e
      obtain ⟨a, h1, h2⟩ := r.obj n ob e
      exact ⟨a, by show (M.L ++ [D])[n]? = _; rw [List.getElem?_append_left (by rw [len]; exact hn)]; exact h1, h2.tr Tr.show rfl fun _ _ _ => rfl⟩
    · have hl : n < (h ++ [PO.lst xs]).length := (List.getElem?_eq_some_iff.mp e).1
      have hn' : n = h.length := by simp at hl; omega
      subst hn'
      rw [List.getElem?_append_right (Nat.le_refl _), Nat.sub_self] at e
      cases e
      exact ⟨D, by show (M.L ++ [D])[h.length]? = _; rw [← len, List.getElem?_append_right (Nat.le_refl _), Nat.sub_self]; rfl, us, hD, hz, Reps.tr Tr.show _ _ rs⟩
  · show (M.L ++ [D])[h.length]? = _
    rw [← len, List.getElem?_append_right (Nat.le_refl _), Nat.sub_self]; rfl
theorem ext_add {M1 M : Gh} {H1 H : Hp} {D : Addr} (x : Ext M1 H1 M H) (hD : H1 D = none) : Ext M1 H1 (M.add D) H := by
  obtain ⟨L, rfl, hL⟩ := x.pre
  refine ⟨⟨L ++ [D], by simp [Gh.add], fun a ha => ?_⟩, x.keep, x.dom⟩
  rcases List.mem_append.mp ha with ha | ha
  · exact hL a ha
  · rw [List.mem_singleton.mp ha]; exact hD
/-- what a comprehension's reading asks, by the pure one -/
theorem lc_t {fi : SI} {g : GF} {ss : List Nat} {ft : SB} {fe : SE} {vs : List Nat} {k : List PV → PH → R PV} (hk : LcEnd G k) (hss : ∀ i ∈ ss, i ∈ vs) {σ : L2.St} {H : Hp} {Q : VK} (t : TFE G W (lcG vs fi g ft fe k) σ H Q) :
    tLc (TF G W (fun M H (J : It) (s : Src) => ItRep G M H J s) fi) (TGF G g ss) (TFB G W0 ft) (TFE G W0 fe) vs σ H Q := by
  refine (TF.bind (Rp := fun M H (J : It) (s : Src) => ItRep G M H J s) (k := fun ρ s h1 => if sameL s h1 then (compL s g ft fe (wipeE ρ vs) s.xs h1).bind k else .bad) t).mono fun J H1 ⟨M1, ρ1, h1, s, r1, e1, it, o1⟩ D hD => ?_
  cases hsl : sameL s h1 with
  | false => simp only [hsl] at o1; exact False.elim o1
  | true =>
    simp only [hsl, if_true] at o1
    obtain ⟨hz, it⟩ := it
    cases hcl : compL s g ft fe (wipeE ρ1 vs) s.xs h1 with
    | bad => rw [hcl] at o1; exact False.elim o1
    | exc e h' => exact absurd hcl (compL_exc _ _ _ _)
    | ok full hE =>
      rw [hcl] at o1
      simp only [R.bind_ok] at o1
      have nZ : D ∉ M1.Z := fun z => r1.hid D z hD
      have nL : D ∉ M1.L := fun z => r1.liveL z hD
      refine ⟨fun i m H => m = s.xs.length - i ∧ i ≤ s.xs.length ∧ ∃ (M : Gh) (h : PH) (acc : List PV) (accV : List V) (rest : List PV), H D = some (.lst accV) ∧ Reps G (M.hide D) H accV acc ∧ HRel G (M.hide D) H h ∧ Ext M1 H1 M H ∧ Tr M1 H1 (M.hide D) H ∧ lvOk s h ∧ accV.length ≤ i ∧ D ∉ M.L ∧ D ∉ M.Z ∧ compL s g ft fe (wipeE ρ1 vs) (s.xs.drop (i)) h = .ok rest hE ∧ acc ++ rest = full,
        ⟨s.xs.length, by simp, Nat.zero_le _, M1, h1, [], [], full, upd_same, trivial, r1.hide hD, Ext.new r1 hD, Tr.hide hD, sameL_ok hsl, Nat.le_refl _, nL, nZ, by simpa using hcl, rfl⟩, ?_⟩
      rintro i m H2 ⟨rfl, hle, M2, h2, acc, accV, rest, hD2, rs2, r2, x2, t2, l2, hac, nL2, nZ2, hcl2, hfull⟩
      obtain ⟨go, stop⟩ := it (M2.hide D) H2 h2 t2 r2 l2
      by_cases hlt : i < s.xs.length
      · obtain ⟨g1, g2⟩ := go i hlt
        rw [List.drop_eq_getElem_cons hlt] at hcl2
        unfold compL at hcl2
        cases hg1 : g s.xs[i] (wipeE ρ1 vs) with
        | none => simp only [hg1] at hcl2; cases hcl2
        | some ρ3 =>
          simp only [hg1] at hcl2
          refine .inr ⟨g1, fun H' => ∃ (M : Gh) (h : PH) (acc : List PV) (accV : List V) (rest : List PV), H' D = some (.lst accV) ∧ Reps G (M.hide D) H' accV acc ∧ HRel G (M.hide D) H' h ∧ Ext M1 H1 M H' ∧ Tr M1 H1 (M.hide D) H' ∧ lvOk s h ∧ accV.length ≤ i + 1 ∧ D ∉ M.L ∧ D ∉ M.Z ∧ compL s g ft fe (wipeE ρ1 vs) (s.xs.drop (i + 1)) h = .ok rest hE ∧ acc ++ rest = full, fun H' q => ⟨s.xs.length - (i + 1), by omega, rfl, hlt, q⟩, fun u H3 y => ?_⟩
          obtain ⟨y1, y2, y3⟩ := g2 u H3 y
          have e0 : ERel G (M2.hide D) H2 (wipeE ρ1 vs) (L2.wipe σ vs) := (e1.tr t2).wipe vs
          refine ⟨M2.hide D, h2, s.xs[i], wipeE ρ1 vs, ρ3, y2, e0.ext y1, y3 _ (List.getElem?_eq_getElem hlt), hg1, fun σ4 e4 w4 => ⟨by rw [w4 vs hss, wipe_wipe], M2.hide D, ρ3, h2, y2, e4, ?_⟩⟩
          -- what stays behind a step with D hidden
          have keepD : ∀ {M' : Gh} {H' : Hp}, Ext (M2.hide D) H2 M' H' → ∃ M'' : Gh, M' = M''.hide D ∧ H' D = some (.lst accV) ∧ Ext M1 H1 M'' H' ∧ Tr M1 H1 M' H' ∧ Reps G M' H' accV acc ∧ D ∉ M''.L ∧ D ∉ M''.Z := fun {M' H'} x' => by
            obtain ⟨L, e, hL⟩ := x'.pre
            have hL' : ∀ a ∈ L, H1 a = none := fun a ha => by
              cases q : H1 a with
              | none => rfl
              | some o => exact absurd (hL a ha) (x2.dom a (by rw [q]; simp))
            have xx : Ext M2 H2 ⟨M2.L ++ L, M2.Z⟩ H' := ⟨⟨L, rfl, hL⟩, x'.keep, x'.dom⟩
            refine ⟨⟨M2.L ++ L, M2.Z⟩, e, x'.keep D _ hD2 nL2 (fun ps z => by cases z), x2.trans xx, t2.trans x'.tr, Reps.ext x' _ _ rs2, fun z => ?_, nZ2⟩
            rcases List.mem_append.mp z with z | z
            · exact nL2 z
            · rw [hL D z] at hD2; cases hD2
          cases hf1 : ft ρ3 h2 with
          | bad => rw [hf1] at hcl2; cases hcl2
          | exc _ _ => rw [hf1] at hcl2; cases hcl2
          | ok b h5 =>
            rw [hf1] at hcl2
            intro b' M5 H5 x5 r5 p5
            subst p5
            have x5' := y1.trans x5
            cases b' with
            | false =>
              rw [if_neg Bool.false_ne_true]
              simp only at hcl2
              cases hsl5 : sameL s h5 with
              | false => simp only [hsl5] at hcl2; cases hcl2
              | true =>
                simp only [hsl5, if_true] at hcl2
                obtain ⟨M6, rfl, d6, x6, t6, rs6, nl6, nz6⟩ := keepD x5'
                exact ⟨M6, h5, acc, accV, rest, d6, rs6, r5, x6, t6, sameL_ok hsl5, by omega, nl6, nz6, hcl2, hfull⟩
            | true =>
              rw [if_pos rfl]
              simp only at hcl2
              refine ⟨M5, ρ3, h5, r5, e4.ext x5, ?_⟩
              cases hf2 : fe ρ3 h5 with
              | bad => rw [hf2] at hcl2; cases hcl2
              | exc _ _ => rw [hf2] at hcl2; cases hcl2
              | ok v h7 =>
                rw [hf2] at hcl2
                intro u7 M7 H7 x7 r7 p7
                simp only at hcl2
                cases hsl7 : sameL s h7 with
                | false => simp only [hsl7] at hcl2; cases hcl2
                | true =>
                  simp only [hsl7, if_true] at hcl2
                  cases hc7 : compL s g ft fe (wipeE ρ1 vs) (s.xs.drop (i + 1)) h7 with
                  | bad => rw [hc7] at hcl2; cases hcl2
                  | exc _ _ => rw [hc7] at hcl2; cases hcl2
                  | ok rest' h8 =>
                    rw [hc7] at hcl2
                    simp only [R.bind_ok] at hcl2
                    cases hcl2
                    obtain ⟨M8, rfl, d8, x8, t8, rs8, nl8, nz8⟩ := keepD (x5'.trans x7)
                    refine ⟨accV, d8, by omega, M8, h7, acc ++ [v], accV ++ [u7], rest', upd_same, Reps.tr Tr.hid _ _ (rs8.snoc p7), r7.hidW (fun ps z => by rw [d8] at z; cases z) (fun b z => by rw [d8] at z; cases z), ?_, t8.trans Tr.hid, sameL_ok hsl7, by simp; omega, nl8, nz8, hc7, by simpa using hfull⟩
                    refine ⟨x8.pre, fun a o q n t => ?_, fun a q => ?_⟩
                    · rw [upd_ne (ne_of_none q hD)]; exact x8.keep a o q n t
                    · by_cases z : a = D
                      · rw [z, upd_same]; simp
                      · rw [upd_ne z]; exact x8.dom a q
      · have e : i = s.xs.length := by omega
        subst e
        rw [List.drop_length] at hcl2
        simp only [compL] at hcl2
        cases hcl2
        rw [List.append_nil] at hfull
        subst hfull
        obtain ⟨v, h', M', hk1, hM, hr, hrep⟩ := hk M2 H2 hE D accV acc r2 hD2 (by omega) rs2 nZ2 nL2
        rw [hk1] at o1
        refine .inl ⟨stop, o1 (.ref D) M' H2 ?_ hr hrep⟩
        rcases hM with rfl | rfl
        · exact x2
        · exact ext_add x2 hD
end
end J

/-! J: comprehensions as rules; two clauses; enumerate. -/
namespace J
open PySem PySem.Spec PyProof.Rows L2
section
variable {G : Gc} {X : Cx} {W : WX} {tg iter : Expr} {pos : Pos}
/-- a comprehension's state: D is its list, the items so far -/
def CSt (G : Gc) (M1 : Gh) (H1 : Hp) (D : Addr) (M : Gh) (h : PH) (acc : List PV) (H : Hp) : Prop :=
  ∃ accV : List V, H D = some (.lst accV) ∧ Reps G (M.hide D) H accV acc ∧ HRel G (M.hide D) H h ∧ Ext M1 H1 M H ∧ Tr M1 H1 (M.hide D) H ∧ D ∉ M.L ∧ D ∉ M.Z
theorem CSt.step {M1 M M' : Gh} {H1 H H' : Hp} {D : Addr} {h h' : PH} {acc : List PV} (c : CSt G M1 H1 D M h acc H) (x : Ext (M.hide D) H M' H') (r : HRel G M' H' h') : ∃ M'' : Gh, M' = M''.hide D ∧ CSt G M1 H1 D M'' h' acc H' := by
  obtain ⟨accV, hD, rs, r0, x0, t0, nL, nZ⟩ := c
  obtain ⟨L, e, hL⟩ := x.pre
  have xx : Ext M H ⟨M.L ++ L, M.Z⟩ H' := ⟨⟨L, rfl, hL⟩, x.keep, x.dom⟩
  refine ⟨⟨M.L ++ L, M.Z⟩, e, accV, x.keep D _ hD nL (fun ps z => by cases z), ?_, ?_, x0.trans xx, ?_, fun z => ?_, nZ⟩
  · have := Reps.ext x _ _ rs; rw [e] at this; exact this
  · have := r; rw [e] at this; exact this
  · have := t0.trans x.tr; rw [e] at this; exact this
  · rcases List.mem_append.mp z with z | z
    · exact nL z
    · rw [hL D z] at hD; cases hD
theorem CSt.push {M1 M : Gh} {H1 H : Hp} {D : Addr} {h : PH} {acc : List PV} (c : CSt G M1 H1 D M h acc H) (hD1 : H1 D = none) {u : V} {v : PV} (p : Rep G (M.hide D) H u v) :
    ∃ accV, H D = some (.lst accV) ∧ accV.length = acc.length ∧ CSt G M1 H1 D M h (acc ++ [v]) (upd H D (.lst (accV ++ [u]))) ∧ Tr (M.hide D) H (M.hide D) (upd H D (.lst (accV ++ [u]))) := by
  obtain ⟨accV, hD, rs, r0, x0, t0, nL, nZ⟩ := c
  refine ⟨accV, hD, rs.length, ⟨accV ++ [u], upd_same, Reps.tr Tr.hid _ _ (rs.snoc p), r0.hidW (fun ps z => by rw [hD] at z; cases z) (fun b z => by rw [hD] at z; cases z), ⟨x0.pre, fun a o q n t => ?_, fun a q => ?_⟩, t0.trans Tr.hid, nL, nZ⟩, Tr.hid⟩
  · rw [upd_ne (ne_of_none q hD1)]; exact x0.keep a o q n t
  · by_cases z : a = D
    · rw [z, upd_same]; simp
    · rw [upd_ne z]; exact x0.dom a q
/-- the loop of one clause, its element pushed -/
theorem loop_ok {M1 : Gh} {H1 : Hp} {D : Addr} (hD1 : H1 D = none) {J : It} {s : Src} {g : GF} {ss vs : List Nat} {ft : SB} {fe : SE} {Mb : Gh} {Hb : Hp} {ρ0 : En} {σ0 : L2.St} (hss : ∀ i ∈ ss, i ∈ vs) (it : ItRep G Mb Hb J s) (eb : ERel G Mb Hb ρ0 σ0)
    {Ms : Gh} {H : Hp} {h hE : PH} {acc ws : List PV} (c : CSt G M1 H1 D Ms h acc H) (tb : Tr Mb Hb (Ms.hide D) H) (l : lvOk s h) (hcl : compL s g ft fe (wipeE ρ0 vs) s.xs h = .ok ws hE) (hz : acc.length + ws.length ≤ sizeLine)
    {P : Hp → Prop} (fin : ∀ M H', CSt G M1 H1 D M hE (acc ++ ws) H' → Tr (Ms.hide D) H (M.hide D) H' → P H') :
    ∃ Wv : Nat → Nat → Hp → Prop, (∃ m, Wv 0 m H) ∧ ∀ i m H, Wv i m H → (J.stop i H ∧ P H) ∨ (J.go i H ∧ ∃ Nx : Hp → Prop, (∀ H', Nx H' → ∃ m', m' < m ∧ Wv (i + 1) m' H') ∧ ∀ x H', J.yld i H x H' → TGF G g ss x (L2.wipe σ0 vs) H' fun σ2 H2 => L2.wipe σ2 vs = L2.wipe σ0 vs ∧ TFB G W0 ft σ2 H2 fun b H3 =>
      if b = true then TFE G W0 fe σ2 H3 fun y H4 => ∃ acc, H4 D = some (.lst acc) ∧ acc.length < sizeLine ∧ Nx (upd H4 D (.lst (acc ++ [y]))) else Nx H3) := by
  obtain ⟨hzs, it⟩ := it
  refine ⟨fun i m H' => m = s.xs.length - i ∧ i ≤ s.xs.length ∧ ∃ (M : Gh) (h' : PH) (a' rest : List PV), CSt G M1 H1 D M h' a' H' ∧ Tr (Ms.hide D) H (M.hide D) H' ∧ lvOk s h' ∧ compL s g ft fe (wipeE ρ0 vs) (s.xs.drop i) h' = .ok rest hE ∧ a' ++ rest = acc ++ ws,
    ⟨s.xs.length, by simp, Nat.zero_le _, Ms, h, acc, ws, c, ⟨⟨[], by simp⟩, fun a o q n t => ⟨q, n⟩⟩, l, by simpa using hcl, rfl⟩, ?_⟩
  rintro i m H2 ⟨rfl, hle, M2, h2, a2, rest, c2, t2, l2, hcl2, hfull⟩
  have r2 : HRel G (M2.hide D) H2 h2 := by obtain ⟨_, _, _, r, _⟩ := c2; exact r
  obtain ⟨go, stop⟩ := it (M2.hide D) H2 h2 (tb.trans t2) r2 l2
  by_cases hlt : i < s.xs.length
  · obtain ⟨g1, g2⟩ := go i hlt
    rw [List.drop_eq_getElem_cons hlt] at hcl2
    unfold compL at hcl2
    cases hg1 : g s.xs[i] (wipeE ρ0 vs) with
    | none => simp only [hg1] at hcl2; cases hcl2
    | some ρ3 =>
      simp only [hg1] at hcl2
      refine .inr ⟨g1, fun H' => ∃ (M : Gh) (h' : PH) (a' rest : List PV), CSt G M1 H1 D M h' a' H' ∧ Tr (Ms.hide D) H (M.hide D) H' ∧ lvOk s h' ∧ compL s g ft fe (wipeE ρ0 vs) (s.xs.drop (i + 1)) h' = .ok rest hE ∧ a' ++ rest = acc ++ ws, fun H' q => ⟨s.xs.length - (i + 1), by omega, rfl, hlt, q⟩, fun u H3 y => ?_⟩
      obtain ⟨y1, y2, y3⟩ := g2 u H3 y
      have e0 : ERel G (M2.hide D) H2 (wipeE ρ0 vs) (L2.wipe σ0 vs) := (eb.tr (tb.trans t2)).wipe vs
      refine ⟨M2.hide D, h2, s.xs[i], wipeE ρ0 vs, ρ3, y2, e0.ext y1, y3 _ (List.getElem?_eq_getElem hlt), hg1, fun σ4 e4 w4 => ⟨by rw [w4 vs hss, wipe_wipe], M2.hide D, ρ3, h2, y2, e4, ?_⟩⟩
      cases hf1 : ft ρ3 h2 with
      | bad => rw [hf1] at hcl2; cases hcl2
      | exc _ _ => rw [hf1] at hcl2; cases hcl2
      | ok b h5 =>
        rw [hf1] at hcl2
        intro b' M5 H5 x5 r5 p5
        subst p5
        have x5' := y1.trans x5
        cases b' with
        | false =>
          rw [if_neg Bool.false_ne_true]
          simp only at hcl2
          cases hsl5 : sameL s h5 with
          | false => simp only [hsl5] at hcl2; cases hcl2
          | true =>
            simp only [hsl5, if_true] at hcl2
            obtain ⟨M6, rfl, c6⟩ := c2.step x5' r5
            exact ⟨M6, h5, a2, rest, c6, t2.trans x5'.tr, sameL_ok hsl5, hcl2, hfull⟩
        | true =>
          rw [if_pos rfl]
          simp only at hcl2
          refine ⟨M5, ρ3, h5, r5, e4.ext x5, ?_⟩
          cases hf2 : fe ρ3 h5 with
          | bad => rw [hf2] at hcl2; cases hcl2
          | exc _ _ => rw [hf2] at hcl2; cases hcl2
          | ok v h7 =>
            rw [hf2] at hcl2
            intro u7 M7 H7 x7 r7 p7
            simp only at hcl2
            cases hsl7 : sameL s h7 with
            | false => simp only [hsl7] at hcl2; cases hcl2
            | true =>
              simp only [hsl7, if_true] at hcl2
              cases hc7 : compL s g ft fe (wipeE ρ0 vs) (s.xs.drop (i + 1)) h7 with
              | bad => rw [hc7] at hcl2; cases hcl2
              | exc _ _ => rw [hc7] at hcl2; cases hcl2
              | ok rest' h8 =>
                rw [hc7] at hcl2
                simp only [R.bind_ok] at hcl2
                cases hcl2
                obtain ⟨M8, rfl, c8⟩ := c2.step (x5'.trans x7) r7
                obtain ⟨accV, d8, l8, c9, t9⟩ := c8.push hD1 p7
                have hlen := congrArg List.length hfull
                simp only [List.length_append, List.length_cons] at hlen
                exact ⟨accV, d8, by omega, M8, h7, a2 ++ [v], rest', c9, (t2.trans (x5'.trans x7).tr).trans t9, sameL_ok hsl7, hc7, by simpa using hfull⟩
  · have e : i = s.xs.length := by omega
    subst e
    rw [List.drop_length] at hcl2
    simp only [compL] at hcl2
    cases hcl2
    rw [List.append_nil] at hfull
    subst hfull
    exact .inl ⟨stop, fin M2 H2 c2 t2⟩

/-! ### two clauses -/
def comp2L (s : Src) (g : GF) (ft : SB) (fi1 : SI) (g1 : GF) (ft1 : SB) (fe : SE) (vs1 : List Nat) (ρ0 : En) : List PV → PH → R (List PV)
  | [], h => .ok [] h
  | x :: xs, h => match g x ρ0 with
    | none => .bad
    | some ρ1 => match ft ρ1 h with
      | .ok true h1 => (match fi1 ρ1 h1 with
        | .ok s1 h2 => if sameL s1 h2 then (match compL s1 g1 ft1 fe (wipeE ρ1 vs1) s1.xs h2 with
          | .ok ws h3 => if sameL s h3 then (comp2L s g ft fi1 g1 ft1 fe vs1 ρ0 xs h3).bind fun vs h4 => .ok (ws ++ vs) h4 else .bad
          | _ => .bad) else .bad
        | _ => .bad)
      | .ok false h1 => if sameL s h1 then comp2L s g ft fi1 g1 ft1 fe vs1 ρ0 xs h1 else .bad
      | _ => .bad
theorem comp2L_exc {s : Src} {g : GF} {ft : SB} {fi1 : SI} {g1 : GF} {ft1 : SB} {fe : SE} {vs1 : List Nat} {ρ0 : En} : ∀ (xs : List PV) (h : PH) (e : Ex) (h' : PH), comp2L s g ft fi1 g1 ft1 fe vs1 ρ0 xs h ≠ .exc e h'
  | [], h, e, h' => by simp [comp2L]
  | x :: xs, h, e, h' => by
    unfold comp2L
    cases g x ρ0 with
    | none => simp
    | some ρ1 =>
      simp only
      cases ft ρ1 h with
      | ok b h1 =>
        cases b with
        | true =>
          simp only
          cases fi1 ρ1 h1 with
          | ok s1 h2 =>
            simp only
            split
            · cases compL s1 g1 ft1 fe (wipeE ρ1 vs1) s1.xs h2 with
              | ok ws h3 =>
                simp only
                split
                · have ih := comp2L_exc (s := s) (g := g) (ft := ft) (fi1 := fi1) (g1 := g1) (ft1 := ft1) (fe := fe) (vs1 := vs1) (ρ0 := ρ0) xs h3
                  cases q : comp2L s g ft fi1 g1 ft1 fe vs1 ρ0 xs h3 with
                  | ok vs h3 => simp
                  | exc e2 h4 => exact absurd q (ih e2 h4)
                  | bad => simp
                · simp
              | exc _ _ => simp
              | bad => simp
            · simp
          | exc _ _ => simp
          | bad => simp
        | false =>
          simp only
          split
          · exact comp2L_exc xs h1 e h'
          · simp
      | exc _ _ => simp
      | bad => simp
def lc2G (vs vs1 : List Nat) (fi : SI) (g : GF) (ft : SB) (fi1 : SI) (g1 : GF) (ft1 : SB) (fe : SE) (k : List PV → PH → R PV) : SE := fun ρ h => (fi ρ h).bind fun s h1 => if sameL s h1 then (comp2L s g ft fi1 g1 ft1 fe vs1 (wipeE ρ vs) s.xs h1).bind fun xs h2 => if xs.length ≤ sizeLine then k xs h2 else .bad else .bad
def lc2 (vs vs1 : List Nat) (fi : SI) (g : GF) (ft : SB) (fi1 : SI) (g1 : GF) (ft1 : SB) (fe : SE) : SE := lc2G vs vs1 fi g ft fi1 g1 ft1 fe fun xs h => .ok (.lst xs) h
theorem lc2_t {fi fi1 : SI} {g g1 : GF} {ss ss1 : List Nat} {ft ft1 : SB} {fe : SE} {vs vs1 : List Nat} {k : List PV → PH → R PV} (hk : LcEnd G k) (hss : ∀ i ∈ ss, i ∈ vs) (hss1 : ∀ i ∈ ss1, i ∈ vs1) {σ : L2.St} {H : Hp} {Q : VK} (t : TFE G W (lc2G vs vs1 fi g ft fi1 g1 ft1 fe k) σ H Q) :
    tLc2 (TF G W (fun M H (J : It) (s : Src) => ItRep G M H J s) fi) (TGF G g ss) (TFB G W0 ft) (TF G W0 (fun M H (J : It) (s : Src) => ItRep G M H J s) fi1) (TGF G g1 ss1) (TFB G W0 ft1) (TFE G W0 fe) vs vs1 σ H Q := by
  refine (TF.bind (Rp := fun M H (J : It) (s : Src) => ItRep G M H J s) (k := fun ρ s h1 => if sameL s h1 then (comp2L s g ft fi1 g1 ft1 fe vs1 (wipeE ρ vs) s.xs h1).bind fun xs h2 => if xs.length ≤ sizeLine then k xs h2 else .bad else .bad) t).mono fun J H1 ⟨M1, ρ1, h1, s, r1, e1, it, o1⟩ D hD => ?_
  cases hsl : sameL s h1 with
  | false => simp only [hsl] at o1; exact False.elim o1
  | true =>
    simp only [hsl, if_true] at o1
    obtain ⟨hz, it⟩ := it
    cases hcl : comp2L s g ft fi1 g1 ft1 fe vs1 (wipeE ρ1 vs) s.xs h1 with
    | bad => rw [hcl] at o1; exact False.elim o1
    | exc e h' => exact absurd hcl (comp2L_exc _ _ _ _)
    | ok full hE =>
      rw [hcl] at o1
      simp only [R.bind_ok] at o1
      by_cases hfz : full.length ≤ sizeLine
      · rw [if_pos hfz] at o1
        have nZ : D ∉ M1.Z := fun z => r1.hid D z hD
        have nL : D ∉ M1.L := fun z => r1.liveL z hD
        refine ⟨fun i m H' => m = s.xs.length - i ∧ i ≤ s.xs.length ∧ ∃ (M : Gh) (h' : PH) (a' rest : List PV), CSt G M1 H1 D M h' a' H' ∧ lvOk s h' ∧ comp2L s g ft fi1 g1 ft1 fe vs1 (wipeE ρ1 vs) (s.xs.drop i) h' = .ok rest hE ∧ a' ++ rest = full,
          ⟨s.xs.length, by simp, Nat.zero_le _, M1, h1, [], full, ⟨[], upd_same, trivial, r1.hide hD, Ext.new r1 hD, Tr.hide hD, nL, nZ⟩, sameL_ok hsl, by simpa using hcl, rfl⟩, ?_⟩
        rintro i m H2 ⟨rfl, hle, M2, h2, a2, rest, c2, l2, hcl2, hfull⟩
        have r2 : HRel G (M2.hide D) H2 h2 := by obtain ⟨_, _, _, r, _⟩ := c2; exact r
        have t2 : Tr M1 H1 (M2.hide D) H2 := by obtain ⟨_, _, _, _, _, t, _⟩ := c2; exact t
        obtain ⟨go, stop⟩ := it (M2.hide D) H2 h2 t2 r2 l2
        by_cases hlt : i < s.xs.length
        · obtain ⟨g1', g2'⟩ := go i hlt
          rw [List.drop_eq_getElem_cons hlt] at hcl2
          unfold comp2L at hcl2
          cases hg1 : g s.xs[i] (wipeE ρ1 vs) with
          | none => simp only [hg1] at hcl2; cases hcl2
          | some ρ3 =>
            simp only [hg1] at hcl2
            refine .inr ⟨g1', fun H' => ∃ (M : Gh) (h' : PH) (a' rest : List PV), CSt G M1 H1 D M h' a' H' ∧ lvOk s h' ∧ comp2L s g ft fi1 g1 ft1 fe vs1 (wipeE ρ1 vs) (s.xs.drop (i + 1)) h' = .ok rest hE ∧ a' ++ rest = full, fun H' q => ⟨s.xs.length - (i + 1), by omega, rfl, hlt, q⟩, fun u H3 y => ?_⟩
            obtain ⟨y1, y2, y3⟩ := g2' u H3 y
            have e0 : ERel G (M2.hide D) H2 (wipeE ρ1 vs) (L2.wipe σ vs) := (e1.tr t2).wipe vs
            refine ⟨M2.hide D, h2, s.xs[i], wipeE ρ1 vs, ρ3, y2, e0.ext y1, y3 _ (List.getElem?_eq_getElem hlt), hg1, fun σ4 e4 w4 => ⟨by rw [w4 vs hss, wipe_wipe], M2.hide D, ρ3, h2, y2, e4, ?_⟩⟩
            cases hf1 : ft ρ3 h2 with
            | bad => rw [hf1] at hcl2; cases hcl2
            | exc _ _ => rw [hf1] at hcl2; cases hcl2
            | ok b h5 =>
              rw [hf1] at hcl2
              intro b' M5 H5 x5 r5 p5
              subst p5
              have x5' := y1.trans x5
              cases b' with
              | false =>
                rw [if_neg Bool.false_ne_true]
                simp only at hcl2
                cases hsl5 : sameL s h5 with
                | false => simp only [hsl5] at hcl2; cases hcl2
                | true =>
                  simp only [hsl5, if_true] at hcl2
                  obtain ⟨M6, rfl, c6⟩ := c2.step x5' r5
                  exact ⟨M6, h5, a2, rest, c6, sameL_ok hsl5, hcl2, hfull⟩
              | true =>
                rw [if_pos rfl]
                simp only at hcl2
                refine ⟨M5, ρ3, h5, r5, e4.ext x5, ?_⟩
                cases hf2 : fi1 ρ3 h5 with
                | bad => rw [hf2] at hcl2; cases hcl2
                | exc _ _ => rw [hf2] at hcl2; cases hcl2
                | ok s1 h7 =>
                  rw [hf2] at hcl2
                  intro J1 M7 H7 x7 r7 it7
                  simp only at hcl2
                  cases hsl7 : sameL s1 h7 with
                  | false => simp only [hsl7] at hcl2; cases hcl2
                  | true =>
                    simp only [hsl7, if_true] at hcl2
                    cases hc7 : compL s1 g1 ft1 fe (wipeE ρ3 vs1) s1.xs h7 with
                    | bad => rw [hc7] at hcl2; cases hcl2
                    | exc _ _ => rw [hc7] at hcl2; cases hcl2
                    | ok ws h8 =>
                      rw [hc7] at hcl2
                      simp only at hcl2
                      cases hsl8 : sameL s h8 with
                      | false => simp only [hsl8] at hcl2; cases hcl2
                      | true =>
                        simp only [hsl8, if_true] at hcl2
                        cases hc8 : comp2L s g ft fi1 g1 ft1 fe vs1 (wipeE ρ1 vs) (s.xs.drop (i + 1)) h8 with
                        | bad => rw [hc8] at hcl2; cases hcl2
                        | exc _ _ => rw [hc8] at hcl2; cases hcl2
                        | ok rest' h9 =>
                          rw [hc8] at hcl2
                          simp only [R.bind_ok] at hcl2
                          cases hcl2
                          obtain ⟨M8, rfl, c8⟩ := c2.step (x5'.trans x7) r7
                          have hlen := congrArg List.length hfull
                          simp only [List.length_append] at hlen
                          exact loop_ok hD hss1 it7 ((e4.ext x5).ext x7) c8 ⟨⟨[], by simp⟩, fun a o q n t => ⟨q, n⟩⟩ (sameL_ok hsl7) hc7 (by omega) fun M H' c' _ => ⟨M, h8, a2 ++ ws, rest', c', sameL_ok hsl8, hc8, by simpa using hfull⟩
        · have e : i = s.xs.length := by omega
          subst e
          rw [List.drop_length] at hcl2
          simp only [comp2L] at hcl2
          cases hcl2
          rw [List.append_nil] at hfull
          subst hfull
          obtain ⟨accV, hD2, rs2, _, x2, _, nL2, nZ2⟩ := c2
          obtain ⟨v, h', M', hk1, hM, hr, hrep⟩ := hk M2 H2 hE D accV a2 r2 hD2 (by rw [rs2.length]; exact hfz) rs2 nZ2 nL2
          rw [hk1] at o1
          refine .inl ⟨stop, o1 (.ref D) M' H2 ?_ hr hrep⟩
          rcases hM with rfl | rfl
          · exact x2
          · exact ext_add x2 hD
      · rw [if_neg hfz] at o1
        exact False.elim o1

/-! ### the rules -/
abbrev Cx.in_ (X : Cx) (scope : Scope) (s : Shared) (H : Hp) (C : Addr) (cl : List (Str × Addr)) (fp : List Addr) : Cx := X.blk s H scope (compEnvC scope cl C X.env) fp
variable {elt tg1 iter1 : Expr} {ifs ifs1 : List Expr} {scope : Scope} {fi fi1 : SI} {g g1 : GF} {ss ss1 : List Nat} {ft ft1 : SB} {fe : SE} {k : List PV → PH → R PV}
theorem je_lcG (own : List (Str × Nat)) (hk : LcEnd G k) (hN : X.N.Nodup) (hi : JI G X W tg iter fi) (ok : blkC X.N X.env.scope scope own = true)
    (hg : ∀ s H C cl fp, JG G (Cx.in_ X scope s H C cl fp) tg g ss) (ht : ∀ s H C cl fp, JTs G (Cx.in_ X scope s H C cl fp) W0 ifs ft) (he : ∀ s H C cl fp, JE G (Cx.in_ X scope s H C cl fp) W0 elt fe)
    (hss : ∀ i ∈ ss, i ∈ own.map (·.2) := by decide) (hc : X.calm = true := by rfl) (hs : ∀ x, foldedSetIterable iter X.env x = pure x := by intro _; rfl) :
    JE G X W (.ListComp elt [⟨tg, iter, ifs, 0⟩] scope pos) (lcG (own.map (·.2)) fi g ft fe k) :=
  pe_imp (pe_lc hc hN hi (blkOk_by ok) hg ht he hs) fun σ H Q t => lc_t hk hss t
theorem js_setLcG (i : Nat) {y : Str} {py spos : Pos} (own : List (Str × Nat)) (hk : LcEnd G k) (hN : X.N.Nodup) (hi : JI G X W tg iter fi) (ok : blkC X.N X.env.scope scope own = true)
    (hg : ∀ s H C cl fp, JG G (Cx.in_ X scope s H C cl fp) tg g ss) (ht : ∀ s H C cl fp, JTs G (Cx.in_ X scope s H C cl fp) W0 ifs ft) (he : ∀ s H C cl fp, JE G (Cx.in_ X scope s H C cl fp) W0 elt fe)
    (hsw : swapsWith (.ListComp elt [⟨tg, iter, ifs, 0⟩] scope pos) (some (.Name y py)) spos.line X.env = pure true)
    (hss : ∀ i ∈ ss, i ∈ own.map (·.2) := by decide) (hy : X.N[i]? = some y := by rfl) (hyl : X.env.scope.names.lookup y = some .local := by rfl) (hc : X.calm = true := by rfl) (hs : ∀ x, foldedSetIterable iter X.env x = pure x := by intro _; rfl) :
    JS G X W (.Assign [.Name y py] (.ListComp elt [⟨tg, iter, ifs, 0⟩] scope pos) spos) (sset i (lcG (own.map (·.2)) fi g ft fe k)) :=
  ps_imp (ps_setLc hc hN hy hyl hsw hi (blkOk_by ok) hg ht he hs) fun D σ H t => by
    obtain ⟨M, ρ, h, r, e, o⟩ := t
    refine lc_t (W := W) hk hss ⟨M, ρ, h, r, e, ?_⟩
    exact (OutS.bind (Rp := fun M H (u : V) (v : PV) => Rep G M H u v) e o).mono fun u H1 ⟨M1, h1, v, x1, r1, p, o1⟩ => o1 _ M1 H1 (Ext.refl _ _) r1 ((e.ext x1).set p)
theorem je_lc2G (own : List (Str × Nat)) (vs1 : List Nat) (hk : LcEnd G k) (hN : X.N.Nodup) (hi : JI G X W tg iter fi) (ok : blkC X.N X.env.scope scope own = true)
    (hg : ∀ s H C cl fp, JG G (Cx.in_ X scope s H C cl fp) tg g ss) (ht : ∀ s H C cl fp, JTs G (Cx.in_ X scope s H C cl fp) W0 ifs ft)
    (hi1 : ∀ s H C cl fp, JI G (Cx.in_ X scope s H C cl fp) W0 tg1 iter1 fi1) (hg1 : ∀ s H C cl fp, JG G (Cx.in_ X scope s H C cl fp) tg1 g1 ss1) (ht1 : ∀ s H C cl fp, JTs G (Cx.in_ X scope s H C cl fp) W0 ifs1 ft1)
    (he : ∀ s H C cl fp, JE G (Cx.in_ X scope s H C cl fp) W0 elt fe)
    (hss : ∀ i ∈ ss, i ∈ own.map (·.2) := by decide) (hss1 : ∀ i ∈ ss1, i ∈ vs1 := by decide) (hv : ∀ i ∈ vs1, i ∈ own.map (·.2) := by decide) (hc : X.calm = true := by rfl) (hs : ∀ x, foldedSetIterable iter X.env x = pure x := by intro _; rfl) (hs1 : ∀ env x, foldedSetIterable iter1 env x = pure x := by intro _ _; rfl) :
    JE G X W (.ListComp elt [⟨tg, iter, ifs, 0⟩, ⟨tg1, iter1, ifs1, 0⟩] scope pos) (lc2G (own.map (·.2)) vs1 fi g ft fi1 g1 ft1 fe k) :=
  pe_imp (pe_lc2 hc hN hi (blkOk_by ok) hv hg ht hi1 hg1 ht1 he hs hs1) fun σ H Q t => lc2_t hk hss hss1 t
theorem js_setLc2G (i : Nat) {y : Str} {py spos : Pos} (own : List (Str × Nat)) (vs1 : List Nat) (hk : LcEnd G k) (hN : X.N.Nodup) (hi : JI G X W tg iter fi) (ok : blkC X.N X.env.scope scope own = true)
    (hg : ∀ s H C cl fp, JG G (Cx.in_ X scope s H C cl fp) tg g ss) (ht : ∀ s H C cl fp, JTs G (Cx.in_ X scope s H C cl fp) W0 ifs ft)
    (hi1 : ∀ s H C cl fp, JI G (Cx.in_ X scope s H C cl fp) W0 tg1 iter1 fi1) (hg1 : ∀ s H C cl fp, JG G (Cx.in_ X scope s H C cl fp) tg1 g1 ss1) (ht1 : ∀ s H C cl fp, JTs G (Cx.in_ X scope s H C cl fp) W0 ifs1 ft1)
    (he : ∀ s H C cl fp, JE G (Cx.in_ X scope s H C cl fp) W0 elt fe)
    (hsw : swapsWith (.ListComp elt [⟨tg, iter, ifs, 0⟩, ⟨tg1, iter1, ifs1, 0⟩] scope pos) (some (.Name y py)) spos.line X.env = pure true)
    (hss : ∀ i ∈ ss, i ∈ own.map (·.2) := by decide) (hss1 : ∀ i ∈ ss1, i ∈ vs1 := by decide) (hv : ∀ i ∈ vs1, i ∈ own.map (·.2) := by decide) (hy : X.N[i]? = some y := by rfl) (hyl : X.env.scope.names.lookup y = some .local := by rfl) (hc : X.calm = true := by rfl) (hs : ∀ x, foldedSetIterable iter X.env x = pure x := by intro _; rfl) (hs1 : ∀ env x, foldedSetIterable iter1 env x = pure x := by intro _ _; rfl) :
    JS G X W (.Assign [.Name y py] (.ListComp elt [⟨tg, iter, ifs, 0⟩, ⟨tg1, iter1, ifs1, 0⟩] scope pos) spos) (sset i (lc2G (own.map (·.2)) vs1 fi g ft fi1 g1 ft1 fe k)) :=
  ps_imp (ps_setLc2 hc hN hy hyl hsw hi (blkOk_by ok) hv hg ht hi1 hg1 ht1 he hs hs1) fun D σ H t => by
    obtain ⟨M, ρ, h, r, e, o⟩ := t
    refine lc2_t (W := W) hk hss hss1 ⟨M, ρ, h, r, e, ?_⟩
    exact (OutS.bind (Rp := fun M H (u : V) (v : PV) => Rep G M H u v) e o).mono fun u H1 ⟨M1, h1, v, x1, r1, p, o1⟩ => o1 _ M1 H1 (Ext.refl _ _) r1 ((e.ext x1).set p)
end
end J

/-! J: enumerate. -/
namespace J
open PySem PySem.Spec PyProof.Rows L2
section
open AutoSeq1 (wpAny_loadPart')
set_option maxHeartbeats 1000000 in
theorem meets_enum1 {v : Value} {o : Obj} {H : Heap → Prop} (B : Begins v o H) :
    Meets (Builtin.«enumerate.__new__» ⟨[.type "enumerate", v], []⟩) (fun _ R s => H s.heap ∧
      R (.ok (.ret (.ref (s.heap.push o).objs.size))) { s with heap := (s.heap.push o).push { cls := .type "enumerate", data := .fields #[.none, .bool false, .ref s.heap.objs.size, rawInt 0, .none, .none] } }) :=
  .of_wp fun prog w A R s h => by
    obtain ⟨hp, g, d, tk, os⟩ := s; obtain ⟨h1, h⟩ := h
    have hsub := sub_enumerate
    have q1 : ∀ {A' : Around} {E : Value → Shared → Prop} {Q : Value → Shared → Prop}, Q (.ref hp.objs.size) ⟨hp.push o, g, d, tk, os⟩ → wpAny (model prog w) A' (pyIter v) Q E ⟨hp, g, d, tk, os⟩ :=
      fun q => B.iter prog w _ _ ⟨hp, g, d, tk, os⟩ _ h1 q
    wp_walk using q1
    refine wpAny_stack_any fun st => wpAny_pure ?_
    split
    · rename_i c _ _ _ _ _
      cases (c == Value.type "enumerate")
      · wp_walk using q1
        exact ⟨_, rfl, h⟩
      · wp_walk using q1
        exact ⟨_, rfl, h⟩
    · wp_walk using q1
      exact ⟨_, rfl, h⟩
theorem enum_begins1 {prog : Program} {w : World} {A : Around} {E : Value → Shared → Prop} {s : Shared} {v : Value} {o : Obj} {H : Heap → Prop} {Q : Value → Shared → Prop} (B : Begins v o H) (h1 : H s.heap)
    (h : ∀ h', IsEnum h' (s.heap.objs.size + 1) s.heap.objs.size 0 .none → h'.get? s.heap.objs.size = some o → h'.objs.size = s.heap.objs.size + 2 →
      (∀ b o, s.heap.get? b = some o → h'.get? b = some o) → Q (.ref (s.heap.objs.size + 1)) { s with heap := h' }) :
    wpAny (model prog w) A (call (.type "enumerate") [v]) Q E s := by
  refine callType_new F.called_enumerate (by decide) (F.typeCall_enumerate_1 _) (F.newCall_enumerate_1 _) (fun obj => F.args_object_init_2 obj _) F.entry_enumerate_new (meets_enum1 B) ⟨h1, ?_⟩
  have hz : (s.heap.push o).objs.size = s.heap.objs.size + 1 := Heap.size_push ..
  show _ ∧ _
  rw [hz]
  have he : IsEnum ((s.heap.push o).push { cls := .type "enumerate", data := .fields #[.none, .bool false, .ref s.heap.objs.size, rawInt 0, .none, .none] }) (s.heap.objs.size + 1) s.heap.objs.size 0 .none := by
    have := Heap.get?_push_size (s.heap.push o) (o := { cls := .type "enumerate", data := .fields #[.none, .bool false, .ref s.heap.objs.size, rawInt 0, .none, .none] }) rfl
    rw [hz] at this; exact this
  refine ⟨⟨_, he, rfl⟩, h _ he (Heap.get?_push_of_some _ (Heap.get?_push_size _ B.free)) (by rw [Heap.size_push, hz]) fun b o x => Heap.get?_push_of_some _ (Heap.get?_push_of_some _ x)⟩
end
/-- the tuple at a, each item in a new pair -/
def IteT (K : PySem.W.Frag) (a : Addr) : It :=
  ⟨fun i H => ∃ (xs : List V) (x : V), SqT K H a xs ∧ xs[i]? = some x, fun i H v H' => ∃ T x, v = .ref T ∧ H T = none ∧ H' = upd H T (.tup [.int (i : Nat), x]) ∧ ∀ xs, SqT K H a xs → xs[i]? = some x, fun i H => ∃ xs : List V, SqT K H a xs ∧ xs.length = i⟩
theorem turn_enumT {P : Program} {w : World} {K : PySem.W.Frag} {elts : List Expr} {kk : Nat} {tpos : Pos} (a e it : Addr) :
    Turn P w K (.Tuple elts kk tpos) (IteT K a) [e, it] e (fun i h => (∃ old, IsEnum h e it ((i : Nat) : Int) old) ∧ h.IsTupleIter it a i ∧ e ≠ it) where
  mem := by simp
  obj := fun i h st b hb => by
    obtain ⟨⟨old, he⟩, ⟨o, ho, hc, hd⟩, _⟩ := st
    have e' : b = e ∨ b = it := by simpa using hb
    rcases e' with z | z
    · rw [z]; exact ⟨_, he, fun v q => nomatch q⟩
    · rw [z]; exact ⟨o, ho, fun v q => by rw [hd] at q; cases q⟩
  keep := fun i h h' st k => let ⟨⟨old, he⟩, hi, hne⟩ := st; ⟨⟨old, k e (by simp) _ he⟩, hi.at fun o q => k it (by simp) o q, hne⟩
  item := by
    intro X hP hw hK hc i pins s σ H E I hf st hg
    subst hP hw hK
    obtain ⟨⟨old, he⟩, hit, hne⟩ := st
    obtain ⟨xs, x, hq, hx⟩ := hg
    obtain ⟨its, rv, p, hz⟩ := I.tuple hq
    obtain ⟨u, hu, ru⟩ := rv.get hx
    have hel : e < s.heap.objs.size := Heap.lt_size he
    have hil : it < s.heap.objs.size := by obtain ⟨_, q, _⟩ := hit; exact Heap.lt_size q
    have hia : a ≠ it := fun z => by
      obtain ⟨o1, q1, c1, _⟩ := p
      obtain ⟨o2, q2, c2, _⟩ := hit
      rw [z, q2] at q1; cases q1; rw [c1] at c2; exact absurd (Value.type.inj c2) (by decide)
    have hea : e ≠ a := fun z => by
      obtain ⟨o1, q1, c1, _⟩ := p
      rw [← z] at q1
      have q2 : s.heap.get? e = some _ := he
      rw [q2] at q1; cases q1; exact absurd (Value.type.inj c1) (by decide)
    have hil2 : i < its.toArray.size := by
      have := (List.getElem?_eq_some_iff.mp hu).1
      simpa using this
    have D := Draws.tuple (prog := X.prog) (w := X.w) (A := X.A.in1) (I.ok.hd hc) it a hia its.toArray
    refine wpAny_pyNext_enum_itemD D he ⟨hit, p⟩ hil2 hne (fun z => ?_) fun u' h' tk hu' ho hit' hT hsz hk => ?_
    · have z' : e = it ∨ e = a := by simpa using z
      exact z'.elim hne hea
    have eu : u' = u := by
      have h1 : its.toArray[i]? = some u' := hu'
      have h2 : its.toArray[i]? = some u := by simpa using hu
      rw [h1] at h2; exact Option.some.inj h2
    subst eu
    refine ⟨_, rfl, wpAny_letOwnedTupleGo_enum (s := { s with heap := h', toks := tk + 1 }) ho fun h'' he' sb => ?_⟩
    have hT2 : h''.get? s.heap.objs.size = some { cls := .type "tuple", data := .seq #[.int i tk, u'] } := (sb.2 _ (Nat.ne_of_gt hel)).trans hT
    have new : ObjOk X.prog X.w (upd H s.heap.objs.size (.tup [.int (i : Nat), x])) h'' s.heap.objs.size (.tup [.int (i : Nat), x]) :=
      ⟨by show 2 ≤ sizeLine; decide, [.int i tk, u'], .cons ⟨_, rfl⟩ (.cons ru .nil), ⟨_, hT2, rfl, _, rfl⟩⟩
    have I1 : Inv X pins σ (upd H s.heap.objs.size (.tup [.int (i : Nat), x])) { s with heap := h'', toks := tk + 1 } :=
      I.turnedNew (ch := [e, it]) (fun b ob hb q => (sb.2 b (fun z => hb (by simp [z]))).trans (hk b ob (fun z => hb (by simp [z])) (fun z => hb (by simp [z])) q)) hf (Nat.le_refl _) new
    refine ⟨.ref s.heap.objs.size, _, I1, rfl, ⟨_, x, rfl, I.hok.fresh (Nat.le_refl _), rfl, fun ys hy => by rw [I.tuple_inj hy hq]; exact hx⟩, ⟨⟨u', ?_⟩, hit'.1.at fun o q => (sb.2 it (Ne.symm hne)).trans q, hne⟩, fun b hb => ?_⟩
    · have e1 : ((i + 1 : Nat) : Int) = (i : Int) + 1 := by omega
      rw [e1]; exact he'
    · have hb' : b < s.heap.objs.size := by
        have e' : b = e ∨ b = it := by simpa using hb
        rcases e' with z | z
        · rw [z]; exact hel
        · rw [z]; exact hil
      rw [upd_ne (Nat.ne_of_lt hb')]
      exact (hf b hb).1
  done := by
    intro X hP hw hK hc i pins s σ H E I hf st hg
    subst hP hw hK
    obtain ⟨⟨old, he⟩, hit, hne⟩ := st
    obtain ⟨xs, hq, hx⟩ := hg
    obtain ⟨its, rv, p, hz⟩ := I.tuple hq
    obtain ⟨f0, f1, f2, f3, f4, f5⟩ := hf it (by simp)
    have hl := rv.length
    have hia : a ≠ it := fun z => by
      obtain ⟨o1, q1, c1, _⟩ := p
      obtain ⟨o2, q2, c2, _⟩ := hit
      rw [z, q2] at q1; cases q1; rw [c1] at c2; exact absurd (Value.type.inj c2) (by decide)
    have D := Draws.tuple (prog := X.prog) (w := X.w) (A := X.A.in1) (I.ok.hd hc) it a hia its.toArray
    have hn : its.toArray.size = i := by simp; omega
    refine wpAny_pyNext_enum_endD D he (by rw [hn]; exact ⟨hit, p⟩) fun h' eb => ⟨rfl, I.turned (t' := s.toks) (fun b o hb q => eb b o hb q) f0 f1 f3 f4 f5⟩
  self := fun A i s Q E st h => let ⟨⟨_, he⟩, _⟩ := st; wpAny_pyIter_enum he h
def iEnumA (K : PySem.W.Frag) (ta : TA) : TI := fun σ H R => ta σ H fun vs H1 => ∃ a xs, vs = [.ref a] ∧ ((SqL K H1 a xs ∧ R (Ite K a) H1) ∨ (SqT K H1 a xs ∧ R (IteT K a) H1))
theorem pi_enumA {X : Cx} {e : Expr} {ta : TA} {p pos tpos : Pos} {elts : List Expr} {kk : Nat} (hg : Gl X "enumerate") (hm : X.mg "enumerate" = none) (ha : PA X [e] ta) (hs : starEach [e] X.env = [(false, eval e X.env)]) :
    PI X (.Tuple elts kk tpos) (.Call (.Name "enumerate" p) [e] [] pos) (iEnumA X.K ta) := by
  refine ⟨fun pins s σ H R I h => ?_⟩
  refine Call_ (ld_blt I hg hm boot_enumerate (PyProof.Rows.callWith_type1 (thn (ha.run pos pins s σ H _ I h) fun us s1 ⟨vs, H1, I1, r1, q1⟩ => ?_) hs rfl))
  obtain ⟨a, xs, ex, q⟩ := q1
  subst ex
  cases r1 with
  | cons r rr =>
    cases rr
    cases r
    have fin : ∀ b, (b ∈ [s1.heap.objs.size + 1, s1.heap.objs.size]) → FpOk X pins H1 b := fun b hb => by
      have e' : b = s1.heap.objs.size + 1 ∨ b = s1.heap.objs.size := by simpa using hb
      have hle : s1.heap.objs.size ≤ b := by
        rcases e' with z | z
        · rw [z]; exact Nat.le_add_right _ _
        · rw [z]; exact Nat.le_refl _
      exact I1.fpOk hle (I1.hok.fresh hle)
    rcases q with ⟨hq, q⟩ | ⟨hq, q⟩
    · obtain ⟨its, rv, p', hz⟩ := I1.list hq
      refine call_enumerate_list p'.isList fun h' he hit hsz hk => wpAny_pyIter_enum he ?_
      exact ⟨s1.heap.objs.size + 1, [s1.heap.objs.size + 1, s1.heap.objs.size], _, _, H1, rfl, I1.kept (t' := s1.toks) hk, turn_enum a (s1.heap.objs.size + 1) s1.heap.objs.size, ⟨⟨.none, he⟩, hit, Nat.succ_ne_self _⟩, fin, q⟩
    · obtain ⟨its, rv, p', hz⟩ := I1.tuple hq
      refine enum_begins1 (begins_tuple a its.toArray) p' fun h' he hit hsz hk => wpAny_pyIter_enum he ?_
      exact ⟨s1.heap.objs.size + 1, [s1.heap.objs.size + 1, s1.heap.objs.size], _, _, H1, rfl, I1.kept (t' := s1.toks) hk, turn_enumT a (s1.heap.objs.size + 1) s1.heap.objs.size, ⟨⟨.none, he⟩, ⟨_, hit, rfl, rfl⟩, Nat.succ_ne_self _⟩, fin, q⟩
section
variable {G : Gc} {X : Cx} {W : WX}
def enumL (xs : List PV) : Nat → List PV := fun k => match xs with
  | [] => []
  | x :: r => .kt [.int (k : Nat), x] :: enumL r (k + 1)
theorem enumL_len : ∀ (xs : List PV) (k : Nat), (enumL xs k).length = xs.length
  | [], k => rfl
  | x :: r, k => by simp only [enumL, List.length_cons]; rw [enumL_len r (k + 1)]
theorem enumL_get : ∀ (xs : List PV) (k i : Nat), (enumL xs k)[i]? = xs[i]?.map fun x => .kt [.int ((k + i : Nat) : Int), x]
  | [], k, i => by simp [enumL]
  | x :: r, k, 0 => by simp [enumL]
  | x :: r, k, i + 1 => by
    simp only [enumL, List.getElem?_cons_succ]
    rw [enumL_get r (k + 1) i]
    congr 1
    funext x
    congr 4
    omega
/-- the pairs of two sources -/
theorem pair_rep {M : Gh} {H : Hp} {h : PH} (r : HRel G M H h) {T : Addr} (hT : H T = none) {x y : V} {a b : PV} (p : Rep G M H x a) (q : Rep G M H y b) : Ext M H M (upd H T (.tup [x, y])) ∧ HRel G M (upd H T (.tup [x, y])) h ∧ Rep G M (upd H T (.tup [x, y])) (.ref T) (.kt [a, b]) :=
  ⟨Ext.new r hT, r.new hT, rep_kt_new r hT (by show 2 ≤ sizeLine; decide) ⟨p, q, trivial⟩⟩
def oneS : List PV → Option PV
  | [x] => some x
  | _ => none
theorem oneS_eq {vs : List PV} {x : PV} (h : oneS vs = some x) : vs = [x] := by
  unfold oneS at h
  split at h
  · cases h; rfl
  · cases h
def enumO : PV → Option Src
  | .tup xs => some ⟨enumL xs 0, none⟩
  | .kt xs => some ⟨enumL xs 0, none⟩
  | .lst xs => some ⟨enumL xs 0, none⟩
  | _ => none
def ienum (g : SA) : SI := fun ρ h => (g ρ h).bind fun vs h1 => R.of h1 ((oneS vs).bind enumO)
theorem ji_enum {e : Expr} {g : SA} {p pos tpos : Pos} {elts : List Expr} {kk : Nat} (hK : G.K = X.K) (hm : X.mg "enumerate" = none) (ha : JAs G X W [e] g) (hg : Gl X "enumerate" := by rfl) (hs : starEach [e] X.env = [(false, eval e X.env)] := by rfl) :
    JI G X W (.Tuple elts kk tpos) (.Call (.Name "enumerate" p) [e] [] pos) (ienum g) := by
  refine pi_imp (pi_enumA hg hm ha hs) fun σ H Q t' => ?_
  refine (TF.bind (Rp := fun M H (u : List V) (v : List PV) => Reps G M H u v) t').mono fun us H1 ⟨M1, ρ, h1, vs, r1, e1, p, o⟩ => ?_
  cases hv : oneS vs with
  | none => rw [hv] at o; exact False.elim o
  | some v =>
    rw [hv] at o
    have := oneS_eq hv
    subst this
    obtain ⟨u, rfl, pu⟩ := reps1 p
    rw [← hK]
    cases v with
    | tup xs =>
      obtain ⟨a, us, rfl, s, z, rs⟩ := pu
      refine ⟨a, us, rfl, .inr ⟨s.sq, ?_⟩⟩
      refine o _ M1 H1 (Ext.refl _ _) r1 ⟨by show (enumL xs 0).length ≤ _; rw [enumL_len, ← rs.length]; exact z, fun M2 H2 h2 x r l => ?_⟩
      have hl : (enumL xs 0).length = us.length := by rw [enumL_len, rs.length]
      have s2 : SqT G.K H2 a us := (x.sqT s).sq
      refine ⟨fun i hi => ?_, ⟨us, s2, hl.symm⟩⟩
      have hi' : i < us.length := by rw [← hl]; exact hi
      refine ⟨⟨us, us[i], s2, List.getElem?_eq_getElem hi'⟩, fun w H3 y => ?_⟩
      obtain ⟨T, x', rfl, hT, rfl, hy⟩ := y
      obtain ⟨b, hb1, hb2⟩ := (Reps.tr x _ _ rs).get' (hy us s2)
      obtain ⟨q1, q2, q3⟩ := pair_rep (a := .int ((i : Nat) : Int)) r hT (show Rep G M2 H2 (.int ((i : Nat) : Int)) _ from rfl) hb2
      refine ⟨q1, q2, fun v hv => ?_⟩
      have hv : (enumL xs 0)[i]? = some v := hv
      rw [enumL_get, hb1] at hv
      have := Option.some.inj hv
      rw [Nat.zero_add] at this
      rw [← this]; exact q3
    | lst xs =>
      obtain ⟨a, us, rfl, s, z, rs⟩ := pu
      refine ⟨a, us, rfl, .inl ⟨s.sq, ?_⟩⟩
      refine o _ M1 H1 (Ext.refl _ _) r1 ⟨by show (enumL xs 0).length ≤ _; rw [enumL_len, ← rs.length]; exact z, fun M2 H2 h2 x r l => ?_⟩
      have hl : (enumL xs 0).length = us.length := by rw [enumL_len, rs.length]
      have s2 : SqL G.K H2 a us := (x.sqL s).sq
      refine ⟨fun i hi => ?_, ⟨us, s2, Nat.le_of_eq hl.symm⟩⟩
      have hi' : i < us.length := by rw [← hl]; exact hi
      refine ⟨⟨us, us[i], s2, List.getElem?_eq_getElem hi'⟩, fun w H3 y => ?_⟩
      obtain ⟨T, x', rfl, hT, rfl, hy⟩ := y
      obtain ⟨b, hb1, hb2⟩ := (Reps.tr x _ _ rs).get' (hy us s2)
      obtain ⟨q1, q2, q3⟩ := pair_rep (a := .int ((i : Nat) : Int)) r hT (show Rep G M2 H2 (.int ((i : Nat) : Int)) _ from rfl) hb2
      refine ⟨q1, q2, fun v hv => ?_⟩
      have hv : (enumL xs 0)[i]? = some v := hv
      rw [enumL_get, hb1] at hv
      have := Option.some.inj hv
      rw [Nat.zero_add] at this
      rw [← this]; exact q3
    | kt xs =>
      obtain ⟨a, us, rfl, n, s, z, rs⟩ := pu
      refine ⟨a, us, rfl, .inr ⟨.inl s, ?_⟩⟩
      refine o _ M1 H1 (Ext.refl _ _) r1 ⟨by show (enumL xs 0).length ≤ _; rw [enumL_len, ← rs.length]; exact z, fun M2 H2 h2 x r l => ?_⟩
      have hl : (enumL xs 0).length = us.length := by rw [enumL_len, rs.length]
      have s2 : SqT G.K H2 a us := .inl (x.rd n (fun ps z => by cases z) s).1
      refine ⟨fun i hi => ?_, ⟨us, s2, hl.symm⟩⟩
      have hi' : i < us.length := by rw [← hl]; exact hi
      refine ⟨⟨us, us[i], s2, List.getElem?_eq_getElem hi'⟩, fun w H3 y => ?_⟩
      obtain ⟨T, x', rfl, hT, rfl, hy⟩ := y
      obtain ⟨b, hb1, hb2⟩ := (Reps.tr x _ _ rs).get' (hy us s2)
      obtain ⟨q1, q2, q3⟩ := pair_rep (a := .int ((i : Nat) : Int)) r hT (show Rep G M2 H2 (.int ((i : Nat) : Int)) _ from rfl) hb2
      refine ⟨q1, q2, fun v hv => ?_⟩
      have hv : (enumL xs 0)[i]? = some v := hv
      rw [enumL_get, hb1] at hv
      have := Option.some.inj hv
      rw [Nat.zero_add] at this
      rw [← this]; exact q3
    | str z => exact False.elim o
    | loc n => exact False.elim o
    | non => exact False.elim o
    | bl _ => exact False.elim o
    | int _ => exact False.elim o
    | dic _ _ => exact False.elim o
end
end J

/-! J: defs and their calls. -/
namespace J
open PySem PySem.Spec PyProof.Rows L2
/-! ### what is left behind a call -/
mutual
/-- every loc lies below n -/
def clo (n : Nat) : PV → Bool
  | .non => true
  | .bl _ => true
  | .int _ => true
  | .str _ => true
  | .tup xs => clos n xs
  | .kt xs => clos n xs
  | .lst xs => clos n xs
  | .dic ks vs => clos n vs
  | .loc k => decide (k < n)
def clos (n : Nat) : List PV → Bool
  | [] => true
  | x :: xs => clo n x && clos n xs
end
def cloO (n : Nat) : PO → Bool
  | .lst xs => clos n xs
  | .dic _ vs => clos n vs
  | .ins _ fs => clos n (fs.map (·.2))
def cloH (n : Nat) (h : PH) : Bool := (h.take n).all (cloO n)
/-- a smaller ghost -/
structure Sub (n : Nat) (M' M : Gh) : Prop where
  at_ : ∀ k, k < n → M.L[k]? = M'.L[k]?
  sub : ∀ a, a ∈ M → a ∈ M'
section
variable {G : Gc} {M M' : Gh} {H : Hp} {n : Nat}
mutual
theorem Rep.sub (s : Sub n M' M) : ∀ (v : PV) (u : V), clo n v = true → Rep G M' H u v → Rep G M H u v
  | .non, _, _, h => h
  | .bl _, _, _, h => h
  | .int _, _, _, h => h
  | .str _, _, _, h => h
  | .tup xs, u, c, h => by
    obtain ⟨a, us, e, q, z, r⟩ := h
    exact ⟨a, us, e, q.imp (fun q => ⟨fun z => q.1 (s.sub a z), q.2⟩) id, z, Reps.sub s xs us (by simpa [clo] using c) r⟩
  | .kt xs, u, c, h => by
    obtain ⟨a, us, e, q, q2, z, r⟩ := h
    exact ⟨a, us, e, fun z => q (s.sub a z), q2, z, Reps.sub s xs us (by simpa [clo] using c) r⟩
  | .lst xs, u, c, h => by
    obtain ⟨a, us, e, q, z, r⟩ := h
    exact ⟨a, us, e, q.imp (fun q => ⟨fun z => q.1 (s.sub a z), q.2⟩) id, z, Reps.sub s xs us (by simpa [clo] using c) r⟩
  | .dic ks vs, u, c, h => by
    obtain ⟨a, us, e, q, d, r⟩ := h
    exact ⟨a, us, e, fun z => q (s.sub a z), d, Reps.sub s vs us (by simpa [clo] using c) r⟩
  | .loc k, u, c, h => by
    obtain ⟨a, e, q⟩ := h
    exact ⟨a, e, by rw [s.at_ k (by simpa [clo] using c)]; exact q⟩
theorem Reps.sub (s : Sub n M' M) : ∀ (vs : List PV) (us : List V), clos n vs = true → Reps G M' H us vs → Reps G M H us vs
  | [], [], _, _ => trivial
  | [], _ :: _, _, h => h
  | _ :: _, [], _, h => h
  | v :: vs, u :: us, c, h => by
    simp only [clos, Bool.and_eq_true] at c
    exact ⟨Rep.sub s v u c.1 h.1, Reps.sub s vs us c.2 h.2⟩
end
theorem ORep.sub (s : Sub n M' M) {a : Addr} {o : PO} (c : cloO n o = true) (h : ORep G M' H a o) : ORep G M H a o := by
  cases o with
  | lst xs =>
    obtain ⟨us, e, z, r⟩ := h
    exact ⟨us, e, z, Reps.sub s xs us c r⟩
  | dic ks vs =>
    obtain ⟨us, d, nf, r⟩ := h
    exact ⟨us, d, nf, Reps.sub s vs us c r⟩
  | ins cc fs =>
    obtain ⟨C, dx, ufs, e1, e2, nm, r1, r2, r3⟩ := h
    exact ⟨C, dx, ufs, e1, e2, fun z => nm (s.sub dx z), r1, r2, Reps.sub s _ _ c r3⟩
theorem cloH_at {h : PH} (c : cloH n h = true) {k : Nat} {o : PO} (hk : k < n) (e : h[k]? = some o) : cloO n o = true := by
  unfold cloH at c
  rw [List.all_eq_true] at c
  refine c o (List.mem_of_getElem? (i := k) ?_)
  rw [List.getElem?_take_of_lt hk]; exact e
/-- the heap cut back to its first n objects -/
theorem HRel.cutH {h' : PH} {L : List Addr} (r : HRel G ⟨M.L ++ L, M.Z⟩ H h') (hn : M.L.length = n) (c : cloH n h' = true) : HRel G M H (h'.take n) where
  nd := (List.nodup_append.mp r.nd).1
  apart := fun a ha => r.apart a (List.mem_append_left _ ha)
  len := by
    have := r.len
    simp only [List.length_append] at this
    rw [List.length_take]; omega
  hid := r.hid
  obj := fun k o e => by
    have hk : k < n := by
      have := (List.getElem?_eq_some_iff.mp e).1
      rw [List.length_take] at this; omega
    rw [List.getElem?_take_of_lt hk] at e
    obtain ⟨a, h1, h2⟩ := r.obj k o e
    have s : Sub n (⟨M.L ++ L, M.Z⟩ : Gh) M := ⟨fun k hk => (List.getElem?_append_left (by omega)).symm, fun a z => z.imp (List.mem_append_left _) id⟩
    exact ⟨a, by rw [← h1]; exact (List.getElem?_append_left (by omega)).symm, h2.sub s (cloH_at c hk e)⟩
  tab := r.tab
/-- .. and one object more, the k-th -/
theorem HRel.cutH1 {h' : PH} {L : List Addr} (r : HRel G ⟨M.L ++ L, M.Z⟩ H h') (hn : M.L.length = n) (c : cloH n h' = true) {k : Nat} {o : PO} (hk : n ≤ k) (e : h'[k]? = some o) (co : cloO n o = true) :
    ∃ a, a ∈ L ∧ (M.L ++ L)[k]? = some a ∧ a ∉ M ∧ HRel G (M.add a) H (h'.take n ++ [o]) := by
  obtain ⟨a, h1, h2⟩ := r.obj k o e
  have h1 : (M.L ++ L)[k]? = some a := h1
  have hL : L[k - M.L.length]? = some a := by rw [List.getElem?_append_right (by omega)] at h1; exact h1
  have haL := List.mem_of_getElem? hL
  have nd := List.nodup_append.mp r.nd
  have nM : a ∉ M := fun z => by
    rcases z with z | z
    · exact nd.2.2 a z a haL rfl
    · exact r.apart a (List.mem_append_right _ haL) z
  have rc := r.cutH hn c
  have s : Sub n (⟨M.L ++ L, M.Z⟩ : Gh) (M.add a) := ⟨fun k hk => by
    show (M.L ++ [a])[k]? = (M.L ++ L)[k]?
    rw [List.getElem?_append_left (by omega), List.getElem?_append_left (by omega)], fun b z => by
    rcases z with z | z
    · rcases List.mem_append.mp z with z | z
      · exact .inl (List.mem_append_left _ z)
      · rw [List.mem_singleton.mp z]; exact .inl (List.mem_append_right _ haL)
    · exact .inr z⟩
  have hl : (h'.take n).length = n := by
    have := r.len
    simp only [List.length_append] at this
    rw [List.length_take]; omega
  refine ⟨a, haL, h1, nM, ?_, fun b hb => ?_, by simp [Gh.add, hl, hn], r.hid, fun j ob q => ?_, r.tab⟩
  · show (M.L ++ [a]).Nodup
    rw [List.nodup_append]
    refine ⟨rc.nd, by simp, fun b hb d hd => ?_⟩
    rw [List.mem_singleton.mp hd]
    exact fun z => nM (.inl (z ▸ hb))
  · rcases List.mem_append.mp hb with hb | hb
    · exact rc.apart b hb
    · rw [List.mem_singleton.mp hb]; exact fun z => nM (.inr z)
  · by_cases hj : j < n
    · rw [List.getElem?_append_left (by omega), List.getElem?_take_of_lt hj] at q
      obtain ⟨b, q1, q2⟩ := r.obj j ob q
      have q1 : (M.L ++ L)[j]? = some b := q1
      refine ⟨b, ?_, q2.sub s (cloH_at c hj q)⟩
      show (M.L ++ [a])[j]? = _
      rw [List.getElem?_append_left (by omega)] at q1 ⊢; exact q1
    · have hj2 : j < (h'.take n ++ [o]).length := (List.getElem?_eq_some_iff.mp q).1
      have ej : j = n := by simp at hj2; omega
      subst ej
      rw [List.getElem?_append_right (by omega), hl, Nat.sub_self] at q
      cases q
      exact ⟨a, by show (M.L ++ [a])[j]? = _; rw [List.getElem?_append_right (by omega), ← hn, Nat.sub_self]; rfl, h2.sub s co⟩
end
/-- keep: what is told of a fresh list is mutable; frz: it is a value -/
inductive Md where
  | keep | frz
/-- the heap cut back, if nothing in it points at what goes -/
def cutP (n : Nat) (h : PH) : PH := if cloH n h then h.take n else h
theorem cutP_self (h : PH) : cutP h.length h = h := by
  unfold cutP
  split
  · exact List.take_length
  · rfl
def trimV (md : Md) (n : Nat) (v : PV) (h : PH) : PV × PH :=
  if clo n v then (v, cutP n h) else match v with
    | .loc k => (match h[k]? with
      | some o => if cloH n h && cloO n o then (match md, o with
        | .frz, .lst xs => (.lst xs, h.take n)
        | _, _ => (.loc n, h.take n ++ [o])) else (v, h)
      | none => (v, h))
    | _ => (v, h)
def trimR (md : Md) (n : Nat) : R PV → R PV
  | .ok v h => .ok (trimV md n v h).1 (trimV md n v h).2
  | .exc e h => if cloH n h && (match e.arg with | some v => clo n v | none => true) then .exc e (h.take n) else .exc e h
  | .bad => .bad
section
variable {G : Gc} {M M' : Gh} {H H' : Hp} {h h' : PH}
theorem trimV_ok {md : Md} (r : HRel G M H h) (x : Ext M H M' H') (r' : HRel G M' H' h') {u : V} {v : PV} (p : Rep G M' H' u v) : ∃ M'', Ext M H M'' H' ∧ HRel G M'' H' (trimV md h.length v h').2 ∧ Rep G M'' H' u (trimV md h.length v h').1 := by
  have same : ∃ M'', Ext M H M'' H' ∧ HRel G M'' H' h' ∧ Rep G M'' H' u v := ⟨M', x, r', p⟩
  obtain ⟨L, rfl, hL⟩ := x.pre
  have hn := r.len
  have s : Sub h.length (⟨M.L ++ L, M.Z⟩ : Gh) M := ⟨fun k hk => (List.getElem?_append_left (by omega)).symm, fun a z => z.imp (List.mem_append_left _) id⟩
  have xM : Ext M H M H' := ⟨⟨[], by simp, by simp⟩, x.keep, x.dom⟩
  unfold trimV
  by_cases cv : clo h.length v = true
  · rw [if_pos cv]
    unfold cutP
    by_cases c : cloH h.length h' = true
    · rw [if_pos c]
      exact ⟨M, xM, r'.cutH hn c, Rep.sub s v u cv p⟩
    · rw [if_neg c]; exact same
  · rw [if_neg cv]
    · cases v with
      | loc k =>
        simp only
        cases hk : h'[k]? with
        | none => exact same
        | some o =>
          simp only
          by_cases cc : (cloH h.length h' && cloO h.length o) = true
          · rw [if_pos cc]
            have c : cloH h.length h' = true := (Bool.and_eq_true _ _ ▸ cc).1
            have co : cloO h.length o = true := (Bool.and_eq_true _ _ ▸ cc).2
            have hge : h.length ≤ k := by
              simp only [clo, decide_eq_true_eq] at cv; omega
            obtain ⟨a, haL, ha, nM, rc⟩ := r'.cutH1 hn c hge hk co
            obtain ⟨b, rfl, hb⟩ := p
            have hb : (M.L ++ L)[k]? = some b := hb
            rw [ha] at hb; cases hb
            have fin1 : ∃ M'', Ext M H M'' H' ∧ HRel G M'' H' (h'.take h.length ++ [o]) ∧ Rep G M'' H' (.ref a) (.loc h.length) := by
              refine ⟨M.add a, ⟨⟨[a], rfl, fun c hc => by rw [List.mem_singleton.mp hc]; exact hL a haL⟩, x.keep, x.dom⟩, rc, a, rfl, ?_⟩
              show (M.L ++ [a])[h.length]? = _
              rw [← hn, List.getElem?_append_right (Nat.le_refl _), Nat.sub_self]; rfl
            cases md with
            | keep => exact fin1
            | frz =>
              cases o with
              | lst xs =>
                obtain ⟨a2, q1, us, q2, z, rs⟩ := r'.obj k _ hk
                have q1 : (M.L ++ L)[k]? = some a2 := q1
                rw [ha] at q1; cases q1
                exact ⟨M, xM, r'.cutH hn c, a, us, rfl, .inl ⟨nM, .inl q2⟩, z, Reps.sub s xs us co rs⟩
              | dic ks vs => exact fin1
              | ins c fs => exact fin1
          · rw [if_neg cc]; exact same
      | _ => exact same
end

/-! ### defs -/
def fin : RS → R PV
  | .nx _ h => .ok .non h
  | .rt v h => .ok v h
  | .ex e _ h => .exc e h
  | _ => .bad
/-- the promise of a def by a pure function -/
def spJ (G : Gc) (n : Nat) (m : List PV → PH → R PV) : Sp := fun vs H Q E => ∃ M args h, HRel G M H h ∧ Reps G M H vs args ∧ args.length = n ∧ Out G (fun cls d _ H => E cls d H) [] (fun M H (u : V) (v : PV) => Rep G M H u v) M H (m args h) Q
def startE (N : Nat) (args : List PV) : En := args.map some ++ List.replicate (N - args.length) none
theorem start_rel {G : Gc} {M : Gh} {H : Hp} {N : List Str} {vs : List V} {args : List PV} (r : Reps G M H vs args) : ERel G M H (startE N.length args) (L2.start N vs) := by
  have hl := r.length
  refine ⟨by simp [startE, L2.start, hl], fun i v e => ?_⟩
  unfold startE at e
  unfold L2.start
  by_cases hi : i < args.length
  · rw [List.getElem?_append_left (by simpa using hi), List.getElem?_map] at e
    cases q : args[i]? with
    | none => rw [q] at e; cases e
    | some w =>
      rw [q] at e
      cases e
      obtain ⟨u, h1, h2⟩ := r.get q
      exact ⟨u, by rw [List.getElem?_append_left (by rw [List.length_map]; omega), List.getElem?_map, h1]; rfl, h2⟩
  · rw [List.getElem?_append_right (by simpa using hi), List.getElem?_replicate] at e
    split at e <;> cases e
/-- a def of the module, known by name -/
def Known (P : Program) (w : World) (K : PySem.W.Frag) (mg : Str → Option Value) (base : Heap) (G : Gc) (x : Str) (k n : Nat) (m : List PV → PH → R PV) : Prop :=
  ∃ f fd ps, FnOk P w K mg base (L2.CX P w) k f fd ps (spJ G n m) ∧ mg x = some (.ref f) ∧ PySem.W.keepIn K (.ref f) = true ∧ Binds K fd ps [] ∧ ps.length = n
section
variable {P : Program} {w : World} {K : PySem.W.Frag} {mg : Str → Option Value} {base : Heap} {G : Gc}
theorem def_ok {x qual : Str} {st : Stmt} {f : Addr} {fd : FuncData} {N ps : List Str} {k : Nat} (md : Md) (m : List PV → PH → R PV) (F : Fun K x qual st f fd) (S : FnScope N ps (defScope st)) {fb : SS}
    (body : ∀ (cdv : Value) (A : Around) (outer : List Env) (s : Shared) (H : Hp) (E : XK), Room k (A.deeper (envOfC qual (defScope st) s.heap.objs.size f cdv)) →
      JSs G (cxOf (L2.CX P w) P w K mg base N qual (defScope st) f cdv A outer s H E) (fun cls d _ H => E cls d H) (defBody st) fb)
    (hm : ∀ args h, args.length = ps.length → m args h = .bad ∨ m args h = trimR md h.length (fin (fb (startE N.length args) h))) : FnOk P w K mg base (L2.CX P w) (k + 1) f fd ps (spJ G ps.length m) := by
  refine F.okX S (fun vs H Q E h => ?_) fun cdv A outer s H vs Q E hr h => ?_
  · obtain ⟨M, args, hh, r, rs, hl, _⟩ := h
    rw [rs.length, hl]
  · obtain ⟨M, args, hh, r, rs, hl, o⟩ := h
    refine ⟨_, body cdv A outer s H E hr, M, startE N.length args, hh, r, start_rel rs, ?_⟩
    rcases hm args hh hl with hb | he
    · rw [hb] at o; exact False.elim o
    · rw [he] at o
      cases hf : fb (startE N.length args) hh with
      | nx ρ' h' =>
        rw [hf] at o
        intro σ' M' H' x' r' e'
        obtain ⟨M'', x2, r2, p2⟩ := trimV_ok (md := md) r x' r' (u := .non) (v := .non) rfl
        exact o .non M'' H' x2 r2 p2
      | rt v h' =>
        rw [hf] at o
        intro u M' H' x' r' p'
        obtain ⟨M'', x2, r2, p2⟩ := trimV_ok (md := md) r x' r' p'
        exact o u M'' H' x2 r2 p2
      | bk ρ' h' => rw [hf] at o; exact False.elim o
      | ct ρ' h' => rw [hf] at o; exact False.elim o
      | bad => rw [hf] at o; exact False.elim o
      | ex e ρ' h' =>
        rw [hf] at o
        intro cls d σ' M' H' x' r' e' xr
        simp only [fin, trimR] at o
        by_cases c : (cloH hh.length h' && (match e.arg with | some v => clo hh.length v | none => true)) = true
        · rw [if_pos c] at o
          simp only [Bool.and_eq_true] at c
          obtain ⟨L, rfl, hL⟩ := x'.pre
          have hn := r.len
          refine o cls d M H' ⟨⟨[], by simp, by simp⟩, x'.keep, x'.dom⟩ (r'.cutH hn c.1) ⟨xr.1, fun v hv => ?_⟩
          obtain ⟨da, ff, uu, q1, q2, q3⟩ := xr.2 v hv
          have s : Sub hh.length (⟨M.L ++ L, M.Z⟩ : Gh) M := ⟨fun k hk => (List.getElem?_append_left (by omega)).symm, fun a z => z.imp (List.mem_append_left _) id⟩
          have c2 := c.2
          rw [hv] at c2
          exact ⟨da, ff, uu, q1, q2, Rep.sub s v uu c2 q3⟩
        · rw [if_neg c] at o
          exact o cls d M' H' x' r' xr
end
section
variable {G : Gc} {X : Cx} {W : WX} {e : Expr} {es : List Expr} {ga : SA} {p pos : Pos} {x : Str} {k n : Nat} {m : List PV → PH → R PV}
def calld (n : Nat) (m : List PV → PH → R PV) (g : SA) : SE := fun ρ h => (g ρ h).bind fun vs h1 => if vs.length = n then m vs h1 else .bad
theorem je_call (Kn : Known X.prog X.w X.K X.mg X.base G x k n m) (hr : Room k X.A) (tk : Takes X W) (ha : JAs G X W (e :: es) ga) (hg : Gl X x := by rfl) (hdb : (x == ("__debug__" : Str)) = false := by decide)
    (he : starEach (e :: es) X.env = (false, eval e X.env) :: starEach es X.env := by rfl) (hpl : (backTo pos (starEach es X.env)).any (·.1) = false := by rfl) : JE G X W (.Call (.Name x p) (e :: es) [] pos) (calld n m ga) := by
  obtain ⟨f, fd, ps, F, hm, hk, hb, hl⟩ := Kn
  refine pe_imp (pe_callSD (E := WE W) F hr hg hm hk hb .nil (fun σ => passAt tk σ) ha hdb he hpl) fun σ H Q t => (TF.bind (Rp := fun M H (u : List V) (v : List PV) => Reps G M H u v) t).mono fun us H1 ⟨M1, ρ, h1, vs, r1, e1, p, o⟩ => ?_
  by_cases hv : vs.length = n
  · rw [if_pos hv] at o
    rw [List.append_nil]
    refine ⟨M1, vs, h1, r1, p, hv, ?_⟩
    cases q : m vs h1 with
    | ok a h => rw [q] at o; exact o
    | exc a h => rw [q] at o; exact o
    | bad => rw [q] at o; exact o
  · rw [if_neg hv] at o
    exact False.elim o
end
end J

/-! J: comparisons of anything, chains, the module's constants, truth. -/
namespace J
open PySem PySem.Spec PyProof.Rows L2
def cmpJ (f : Int → Int → Bool) (g : PV → PV → PH → Option PV) (x y : PV) (h : PH) : Option PV := match x, y with
  | .int i, .int j => some (.bl (f i j))
  | _, _ => g x y h
@[simp] theorem cmpJ_int (f : Int → Int → Bool) (g : PV → PV → PH → Option PV) (i j : Int) (h : PH) : cmpJ f g (.int i) (.int j) h = some (.bl (f i j)) := rfl
def ltJ : PV → PV → PH → Option PV := cmpJ (fun i j => decide (i < j)) ltO
def leJ : PV → PV → PH → Option PV := cmpJ (fun i j => decide (i ≤ j)) leO
def gtJ : PV → PV → PH → Option PV := cmpJ (fun i j => decide (j < i)) gtO
def geJ : PV → PV → PH → Option PV := cmpJ (fun i j => decide (j ≤ i)) geO
section
variable {G : Gc} {X : Cx} {W : WX}
theorem oj_or {r r' : R2} {f : Int → Int → Bool} {g : PV → PV → PH → Option PV} (h1 : OpJ G r (intO0 fun i j => .bl (f i j))) (h2 : OpJ G r' g) : OpJ G (fun x y H Q => r x y H Q ∨ r' x y H Q) (cmpJ f g) := by
  intro M h H u v x y z Q r p q e k
  unfold cmpJ at e
  split at e
  · exact .inl (h1 M h H u v _ _ z Q r p q e k)
  · exact .inr (h2 M h H u v _ _ z Q r p q e k)
theorem oj_lt : OpJ G (fun x y H Q => rI0 (fun i j => .bl (decide (i < j))) x y H Q ∨ rCmp G.K (fun d e => PySem.W.dataLt d e) x y H Q) ltJ := oj_or oj_ltI oj_ltD
theorem oj_le : OpJ G (fun x y H Q => rI0 (fun i j => .bl (decide (i ≤ j))) x y H Q ∨ rCmp G.K (fun d e => !PySem.W.dataLt e d) x y H Q) leJ := oj_or oj_leI oj_leD
theorem oj_gt : OpJ G (fun x y H Q => rI0 (fun i j => .bl (decide (j < i))) x y H Q ∨ rCmp G.K (fun d e => PySem.W.dataLt e d) x y H Q) gtJ := oj_or oj_gtI oj_gtD
theorem oj_ge : OpJ G (fun x y H Q => rI0 (fun i j => .bl (decide (j ≤ i))) x y H Q ∨ rCmp G.K (fun d e => !PySem.W.dataLt d e) x y H Q) geJ := oj_or oj_geI oj_geD
theorem op_ltJ (hu : X.A.units + 64 < cLine) : OpR X (compareOp .Lt) (fun x y H Q => rI0 (fun i j => .bl (decide (i < j))) x y H Q ∨ rCmp X.K (fun d e => PySem.W.dataLt d e) x y H Q) := OpR.or op_lt (op_ltD hu)
theorem op_leJ (hu : X.A.units + 64 < cLine) : OpR X (compareOp .LtE) (fun x y H Q => rI0 (fun i j => .bl (decide (i ≤ j))) x y H Q ∨ rCmp X.K (fun d e => !PySem.W.dataLt e d) x y H Q) := OpR.or op_le (op_leD hu)
theorem op_gtJ (hu : X.A.units + 64 < cLine) : OpR X (compareOp .Gt) (fun x y H Q => rI0 (fun i j => .bl (decide (j < i))) x y H Q ∨ rCmp X.K (fun d e => PySem.W.dataLt e d) x y H Q) := OpR.or op_gt (op_gtD hu)
theorem op_geJ (hu : X.A.units + 64 < cLine) : OpR X (compareOp .GtE) (fun x y H Q => rI0 (fun i j => .bl (decide (j ≤ i))) x y H Q ∨ rCmp X.K (fun d e => !PySem.W.dataLt d e) x y H Q) := OpR.or op_ge (op_geD hu)
/-! ### a < b < c -/
def chn (f g : PV → PV → PH → Option PV) (fa fb fc : SE) : SE := fun ρ h => (fa ρ h).bind fun x h1 => (fb ρ h1).bind fun y h2 => match f x y h2 with
  | some (.bl true) => (fc ρ h2).bind fun z h3 => R.of h3 (g y z h3)
  | some (.bl false) => .ok (.bl false) h2
  | _ => .bad
variable {a b c : Expr} {fa fb fc : SE} {pos : Pos}
theorem chn_t {r r' : R2} {f g : PV → PV → PH → Option PV} (h1 : OpJ G r f) (h2 : OpJ G r' g) {σ : L2.St} {H : Hp} {Q : VK} (t : TFE G W (chn f g fa fb fc) σ H Q) : tChain r r' (TFE G W fa) (TFE G W fb) (TFE G W fc) σ H Q := by
  obtain ⟨M, ρ, h, r0, e0, o⟩ := t
  refine ⟨M, ρ, h, r0, e0, (Out.bind (Rp := fun M H (u : V) (v : PV) => Rep G M H u v) o).mono fun ux H1 ⟨M1, h1', x, x1, r1, p1, o1⟩ => ?_⟩
  refine ⟨M1, ρ, h1', r1, e0.ext x1, (Out.bind (Rp := fun M H (u : V) (v : PV) => Rep G M H u v) o1).mono fun uy H2 ⟨M2, h2', y, x2, r2, p2, o2⟩ => ?_⟩
  cases hf : f x y h2' with
  | none => rw [hf] at o2; exact False.elim o2
  | some z =>
    refine h1 M2 h2' H2 ux uy x y z _ r2 (Rep.ext x2 _ _ p1) p2 hf fun w H' x' r' p' => ?_
    rw [hf] at o2
    cases z with
    | bl k =>
      refine ⟨k, p', ?_⟩
      cases k with
      | false => rw [if_neg Bool.false_ne_true]; exact o2 _ M2 H' x' r' rfl
      | true =>
        rw [if_pos rfl]
        refine ⟨M2, ρ, h2', r', ((e0.ext x1).ext x2).ext x', (Out.bind (Rp := fun M H (u : V) (v : PV) => Rep G M H u v) (Out.ext x' o2)).mono fun uz H3 ⟨M3, h3', zz, x3, r3, p3, o3⟩ => ?_⟩
        cases hg : g y zz h3' with
        | none => rw [hg] at o3; exact False.elim o3
        | some q =>
          rw [hg] at o3
          exact h2 M3 h3' H3 uy uz y zz q Q r3 (Rep.ext (x'.trans x3) _ _ p2) p3 hg fun w H4 x4 r4 p4 => o3 w M3 H4 x4 r4 p4
    | _ => exact False.elim o2
theorem je_chain {op op' : CmpOp} {r r' : R2} {f g : PV → PV → PH → Option PV} (ho : OpR X (compareOp op) r) (ho' : OpR X (compareOp op') r') (h1 : OpJ G r f) (h2 : OpJ G r' g) (ha : JE G X W a fa) (hb : JE G X W b fb) (hc : JE G X W c fc)
    (hm : lastMarks [op, op'] [b, c] = false := by with_unfolding_all rfl) : JE G X W (.Compare a [op, op'] [b, c] pos) (chn f g fa fb fc) := pe_imp (pe_chain ho ho' ha hb hc hm) fun _ _ _ t => chn_t h1 h2 t
theorem jt_chain {op op' : CmpOp} {r r' : R2} {f g : PV → PV → PH → Option PV} (ho : OpR X (compareOp op) r) (ho' : OpR X (compareOp op') r') (h1 : OpJ G r f) (h2 : OpJ G r' g) (ha : JE G X W a fa) (hb : JE G X W b fb) (hc : JE G X W c fc)
    (hm : lastMarks [op, op'] [b, c] = false := by with_unfolding_all rfl) : JT G X W (.Compare a [op, op'] [b, c] pos) (tst (chn f g fa fb fc)) := pt_imp (pt_chain ho ho' ha hb hc hm) fun _ _ _ t => chn_t h1 h2 (tst_t t)
/-! ### truth of any value -/
def truO (h : PH) (v : PV) : Option Bool := match rd h v with
  | .non => some false
  | .bl b => some b
  | .int i => some (i != 0)
  | .str z => if z.length ≤ sizeLine then some ((z.length : Int) != 0) else none
  | .tup xs => some (!xs.isEmpty)
  | .kt xs => some (!xs.isEmpty)
  | .lst xs => some (!xs.isEmpty)
  | _ => none
def tru (f : SE) : SB := fun ρ h => (f ρ h).bind fun v h1 => R.of h1 (truO h1 v)
theorem Reps.emp {M : Gh} {H : Hp} {us : List V} {xs : List PV} (r : Reps G M H us xs) : (!us.isEmpty) = !xs.isEmpty := by
  match us, xs, r with
  | [], [], _ => rfl
  | _ :: _, _ :: _, _ => rfl
  | [], _ :: _, r => exact r.elim
  | _ :: _, [], r => exact r.elim
theorem jt_truth {e : Expr} {f : SE} (hK : G.K = X.K) (h : JE G X W e f) (he : ∀ whole, isTrue e X.env whole = (do let v ← whole; standAt e.pos; holding [v] (truthy v)) := by intro _; rfl) : JT G X W e (tru f) := by
  refine pt_imp (pt_truth h he) fun σ H Q t => (TF.bind (Rp := fun M H (u : V) (v : PV) => Rep G M H u v) t).mono fun u H1 ⟨M1, ρ, h1, v, r1, e1, p, o⟩ => ?_
  rw [← hK]
  unfold truO at o
  cases q : rd h1 v with
  | non =>
    rw [q] at o
    cases v with
    | non => cases p; exact ⟨false, rfl, Out.ret o r1 rfl⟩
    | loc n => rcases rd_cases h1 n with ⟨xs, _, e⟩ | e <;> (rw [e] at q; cases q)
    | _ => cases q
  | bl b =>
    rw [q] at o
    cases v with
    | bl b' => cases q; cases p; exact ⟨b, rfl, Out.ret o r1 rfl⟩
    | loc n => rcases rd_cases h1 n with ⟨xs, _, e⟩ | e <;> (rw [e] at q; cases q)
    | _ => cases q
  | int i =>
    rw [q] at o
    have := rd_int_inv q; subst this
    cases p; exact ⟨_, rfl, Out.ret o r1 rfl⟩
  | str z =>
    rw [q] at o
    have := rd_str_inv q; subst this
    simp only at o
    split at o
    · rename_i hz
      cases p; exact ⟨_, ⟨hz, rfl⟩, Out.ret o r1 rfl⟩
    · exact False.elim o
  | tup xs =>
    rw [q] at o
    have := rd_tup_inv q; subst this
    obtain ⟨a, us, rfl, s, z, rs⟩ := p
    exact ⟨_, .inr (.inl ⟨us, s.sq, rfl⟩), by rw [rs.emp]; exact Out.ret o r1 rfl⟩
  | kt xs =>
    rw [q] at o
    have := rd_kt_inv q; subst this
    obtain ⟨a, us, rfl, n, s, z, rs⟩ := p
    exact ⟨_, .inr (.inl ⟨us, .inl s, rfl⟩), by rw [rs.emp]; exact Out.ret o r1 rfl⟩
  | lst xs =>
    rw [q] at o
    obtain ⟨a, us, rfl, s, z, rs⟩ := Rep.list r1 p q
    exact ⟨_, .inl ⟨us, s, rfl⟩, by rw [rs.emp]; exact Out.ret o r1 rfl⟩
  | dic ks vs => rw [q] at o; exact False.elim o
  | loc n => rw [q] at o; exact False.elim o
/-! ### the module's constants -/
theorem je_gstr {x z : Str} {t : Tok} (hm : X.mg x = some (.str z t)) (hg : Gl X x := by rfl) (hd : (x == ("__debug__" : Str)) = false := by decide) : JE G X W (.Name x pos) (cst (.str z)) := je_cst (pe_glob (v := V.str z) hg hm ⟨_, rfl⟩ hd) fun _ _ => rfl
theorem je_gint {x : Str} {i : Int} {t : Tok} (hm : X.mg x = some (.int i t)) (hg : Gl X x := by rfl) (hd : (x == ("__debug__" : Str)) = false := by decide) : JE G X W (.Name x pos) (cst (.int i)) := je_cst (pe_glob (v := V.int i) hg hm ⟨_, rfl⟩ hd) fun _ _ => rfl
/-! ### list(range(..)) -/
def lrng (g : SI) : SE := fun ρ h => (g ρ h).bind fun s h1 => .ok (.lst s.xs) h1
theorem rgV_reps {M : Gh} {H : Hp} (lo hi : Int) : Reps G M H (rgV lo hi) (rangeL lo (hi - lo).toNat) := by
  unfold rgV rangeL
  refine Reps.of_get (by simp) fun i u v h1 h2 => ?_
  rw [List.getElem?_map] at h1 h2
  cases q : (List.range (hi - lo).toNat)[i]? with
  | none => rw [q] at h1; cases h1
  | some j => rw [q] at h1 h2; cases h1; cases h2; rfl
theorem je_listRg1 {e : Expr} {f : SE} {p p2 pos2 : Pos} (hml : X.mg "list" = none) (hmr : X.mg "range" = none) (h : JE G X W e f) (hc : X.calm = true := by rfl) (hg : Gl X "list" := by rfl) (hg2 : Gl X "range" := by rfl)
    (na : starEach [e] X.env = (false, eval e X.env) :: starEach [] X.env := by rfl) (na2 : starEach [.Call (.Name "range" p2) [e] [] pos2] X.env = (false, eval (.Call (.Name "range" p2) [e] [] pos2) X.env) :: starEach [] X.env := by rfl) :
    JE G X W (.Call (.Name "list" p) [.Call (.Name "range" p2) [e] [] pos2] [] pos) (lrng (irng1 (acons f anil))) := by
  refine pe_imp (pe_listRg hc hg hml (prg_1 hg2 hmr h na) na2) fun σ H Q t => ?_
  obtain ⟨M, ρ, h, r, e, o⟩ := t
  refine ⟨M, ρ, h, r, e, ?_⟩
  unfold lrng irng1 acons anil at o
  cases hf : f ρ h with
  | bad => rw [hf] at o; exact False.elim o
  | exc ex h' => rw [hf] at o; exact o
  | ok v h' =>
    rw [hf] at o
    intro u M' H' x' r' p'
    cases v with
    | int j =>
      simp only [R.bind_ok, int1] at o
      by_cases hj : j ≤ sizeLine ∧ -(2 ^ 62) ≤ j
      · rw [if_pos hj] at o
        simp only [R.bind_ok] at o
        have hsl := sizeLine_eq
        refine ⟨j, p', ⟨by omega, by omega, hj.2, by omega, by omega⟩, fun q hq => ?_⟩
        have hz : (rgV 0 j).length ≤ sizeLine := by rw [rgV_length]; omega
        have rr := rgV_reps (G := G) (M := M') (H := H') 0 j
        rw [show (j - 0).toNat = j.toNat by simp] at rr
        exact o _ M' _ (x'.trans (Ext.new r' hq)) (r'.new hq) (rep_lst_new r' hq hz rr)
      · rw [if_neg hj] at o; exact False.elim o
    | _ => exact False.elim o
end
end J

/-! J: the end of a law. -/
namespace J
open PySem PySem.Spec PyProof.Rows L2
/-- what the law is called with, and what is wanted -/
def spEnd (K : PySem.W.Frag) (T : List Addr) : Sp := fun vs H Q _ => ∃ (a : Addr) (ns : List Int), vs = [.ref a] ∧ SqL K H a (ns.map V.int) ∧ ns.length ≤ 63 ∧ (∀ z ∈ ns, Builtin.Int.intBits z ≤ 1048576) ∧ (∀ P ∈ T, H P = some (.tbl #[])) ∧ ∀ H', Q (.bl true) H'
/-- the law as a pure function -/
def LawTrue (m : List PV → PH → R PV) : Prop := ∀ ns : List Int, ns.length ≤ 63 → (∀ z ∈ ns, Builtin.Int.intBits z ≤ 1048576) → ∃ h', m [.lst (ns.map .int)] [] = .ok (.bl true) h'
theorem end_sp {K : PySem.W.Frag} {T : List Addr} {mg : Str → Option Value} {m : List PV → PH → R PV} (hm : LawTrue m) : ∀ vs H Q E, spEnd K T vs H Q E → spJ ⟨K, T, mg⟩ 1 m vs H Q E := by
  intro vs H Q E h
  obtain ⟨a, ns, rfl, hS, hl, hb, hT, q⟩ := h
  have hsl := sizeLine_eq
  refine ⟨⟨[], []⟩, [.lst (ns.map .int)], [], ⟨.nil, fun _ z => absurd z (by simp), rfl, fun _ z => absurd z (by simp), fun n o e => by simp at e, fun P hP => ⟨#[], hT P hP, True.intro⟩⟩, ⟨⟨a, ns.map V.int, rfl, ?_, by rw [List.length_map]; omega, reps_ints ns⟩, trivial⟩, rfl, ?_⟩
  · rcases hS with h | h
    · exact .inl ⟨fun z => z.elim (by simp) (by simp), h⟩
    · exact .inr h
  · obtain ⟨h', e⟩ := hm ns hl hb
    rw [e]
    intro u M' H' x r p
    cases p
    exact q H'
theorem cx_never {P : Program} {w : World} {l : List Env} {H : Hp} {s : Shared} {e : Value} {s' : Shared} (h : L2.CX P w l H s (fun _ _ _ => False) e s') : False := by
  obtain ⟨_, _, _, _, _, _, _, _, _, _, _, _, z⟩ := h
  exact z.elim
theorem known_mk {P : Program} {w : World} {K : PySem.W.Frag} {mg : Str → Option Value} {base : Heap} {G : Gc} {x : Str} {k n : Nat} {m : List PV → PH → R PV} {f : Addr} {fd : FuncData} {ps : List Str} (F : FnOk P w K mg base (L2.CX P w) k f fd ps (spJ G n m)) (hm : mg x = some (.ref f)) (hk : PySem.W.keepIn K (.ref f) = true) (hb : Binds K fd ps []) (hl : ps.length = n) : Known P w K mg base G x k n m := ⟨f, fd, ps, F, hm, hk, hb, hl⟩
end J

/-! J: a body that is looked at with one mutable object alone. -/
namespace J
open PySem PySem.Spec PyProof.Rows L2
/-- the closed values of the slots of ks, from i on -/
def keepE (ks : List Nat) : Nat → En → En
  | _, [] => []
  | i, v :: ρ => (if ks.contains i then (match v with | some v => if clo 0 v then some v else none | none => none) else none) :: keepE ks (i + 1) ρ
theorem keepE_length (ks : List Nat) : ∀ (i : Nat) (ρ : En), (keepE ks i ρ).length = ρ.length
  | _, [] => rfl
  | i, v :: ρ => by simp [keepE, keepE_length ks (i + 1) ρ]
theorem keepE_get (ks : List Nat) : ∀ (i : Nat) (ρ : En) (j : Nat) (v : PV), (keepE ks i ρ)[j]? = some (some v) → ρ[j]? = some (some v) ∧ clo 0 v = true
  | _, [], j, v, h => by simp [keepE] at h
  | i, w :: ρ, 0, v, h => by
    simp only [keepE, List.getElem?_cons_zero, Option.some.injEq] at h
    split at h
    · cases w with
      | none => cases h
      | some w =>
        simp only at h
        split at h
        · cases h; exact ⟨rfl, by assumption⟩
        · cases h
    · cases h
  | i, w :: ρ, j + 1, v, h => by
    simp only [keepE, List.getElem?_cons_succ] at h
    exact keepE_get ks (i + 1) ρ j v h
/-- three numbers -/
def die (o : PO) : Bool := match o with
  | .lst [.int _, .int _, .int _] => true
  | _ => false
def focO (b : Bool) (k : Nat) (ks : List Nat) (h : PH) (ρ' : En) (h' : PH) : RS := match h'[0]? with
  | some o' => if die o' then (if b then .nx (keepE ks 0 ρ') (h.set k o') else .ct (keepE ks 0 ρ') (h.set k o')) else .bad
  | none => .bad
def foc (d : Nat) (ks : List Nat) (f : SS) : SS := fun ρ h => match ρ[d]? with
  | some (some (.loc k)) => (match h[k]? with
    | some o => if die o then (match f ((keepE ks 0 ρ).set d (some (.loc 0))) [o] with
      | .nx ρ' h' => focO true k ks h ρ' h'
      | .ct ρ' h' => focO false k ks h ρ' h'
      | _ => .bad) else .bad
    | none => .bad)
  | _ => .bad
section
variable {G : Gc} {X : Cx} {W : WX} {M M' : Gh} {H H' : Hp} {h : PH}
theorem die_rep {a : Addr} {o : PO} (d : die o = true) (r : ORep G M H a o) : ∃ x y z : Int, o = .lst [.int x, .int y, .int z] ∧ H a = some (.lst [.int x, .int y, .int z]) := by
  match o, d with
  | .lst [.int x, .int y, .int z], _ =>
    obtain ⟨us, e, _, rs⟩ := r
    match us, rs with
    | [u1, u2, u3], ⟨r1, r2, r3, _⟩ =>
      cases r1; cases r2; cases r3
      exact ⟨x, y, z, rfl, e⟩
theorem die_mk {a : Addr} {x y z : Int} (e : H a = some (.lst [.int x, .int y, .int z])) : ORep G M H a (.lst [.int x, .int y, .int z]) :=
  ⟨_, e, by have := sizeLine_eq; simp; omega, rfl, rfl, rfl, trivial⟩
theorem ORep.ntbl {a : Addr} {o : PO} (r : ORep G M H a o) : ∃ u, H a = some u ∧ ∀ ps, u ≠ .tbl ps := by
  cases o with
  | lst xs => obtain ⟨us, e, _⟩ := r; exact ⟨_, e, fun _ z => by cases z⟩
  | dic ks vs =>
    obtain ⟨us, (⟨kvs, (e | ⟨_, e⟩), _⟩ | ⟨kvs, (e | ⟨_, e⟩), _⟩), _⟩ := r <;> exact ⟨_, e, fun _ z => by cases z⟩
  | ins c fs => obtain ⟨C, dx, ufs, e, _⟩ := r; exact ⟨_, e, fun _ z => by cases z⟩
theorem ERel.keep {ρ : En} {σ : L2.St} {ks : List Nat} (e : ERel G M H ρ σ) (s : Sub 0 M M') : ERel G M' H (keepE ks 0 ρ) σ := ⟨by rw [keepE_length]; exact e.1, fun i v q => by
  obtain ⟨q1, q2⟩ := keepE_get ks 0 ρ i v q
  obtain ⟨u, p1, p2⟩ := e.2 i v q1
  exact ⟨u, p1, Rep.sub s v u q2 p2⟩⟩
theorem foc_t {d : Nat} {ks : List Nat} {f : SS} {D : Ends} {σ : L2.St} (t : TSF G W (foc d ks f) D σ H) : TSF G W f D σ H := by
  obtain ⟨M, ρ, h, r, e, o⟩ := t
  unfold foc at o
  split at o
  · rename_i k hk
    split at o
    · rename_i ob ho
      split at o
      · rename_i hd
        obtain ⟨a, ha, ra⟩ := r.obj k ob ho
        obtain ⟨x, y, z, rfl, hx⟩ := die_rep hd ra
        have haM := List.mem_of_getElem? ha
        obtain ⟨u, hu, pu⟩ := e.2 d _ hk
        obtain ⟨a', rfl, ha'⟩ := pu
        rw [ha] at ha'; cases ha'
        let M1 : Gh := ⟨[a], M.L.erase a ++ M.Z⟩
        have mm : ∀ b, b ∈ M1 ↔ b ∈ M := fun b => by
          constructor
          · rintro (q | q)
            · rw [List.mem_singleton.mp q]; exact .inl haM
            · rcases List.mem_append.mp q with q | q
              · exact .inl (List.mem_of_mem_erase q)
              · exact .inr q
          · rintro (q | q)
            · by_cases hb : b = a
              · exact .inl (by rw [hb]; exact List.mem_singleton.mpr rfl)
              · exact .inr (List.mem_append_left _ ((List.mem_erase_of_ne hb).mpr q))
            · exact .inr (List.mem_append_right _ q)
        have s1 : Sub 0 M M1 := ⟨fun _ z => absurd z (Nat.not_lt_zero _), fun b z => (mm b).mp z⟩
        have r1 : HRel G M1 H [.lst [.int x, .int y, .int z]] := by
          refine ⟨by simp [M1], fun b hb z => ?_, rfl, fun b hb => ?_, fun n o q => ?_, r.tab⟩
          · rw [List.mem_singleton.mp hb] at z
            rcases List.mem_append.mp z with z | z
            · exact r.nd.not_mem_erase z
            · exact r.apart a haM z
          · rcases List.mem_append.mp hb with hb | hb
            · exact r.liveL (List.mem_of_mem_erase hb)
            · exact r.hid b hb
          · cases n with
            | zero => cases q; exact ⟨a, rfl, die_mk hx⟩
            | succ n => simp at q
        have e1 : ERel G M1 H ((keepE ks 0 ρ).set d (some (.loc 0))) σ := by
          have := (e.keep (ks := ks) s1).set (i := d) (u := .ref a) (v := .loc 0) ⟨a, rfl, rfl⟩
          have hs : σ.set d (some (V.ref a)) = σ := by
            apply List.ext_getElem?
            intro j
            by_cases hj : d = j
            · subst hj
              rw [List.getElem?_set_self (by exact (List.getElem?_eq_some_iff.mp hu).1), hu]
            · rw [List.getElem?_set_ne hj]
          rw [hs] at this; exact this
        refine ⟨M1, _, _, r1, e1, ?_⟩
        have key : ∀ bb σ' M' H' ρ' h', OutS G W M H (focO bb k ks h ρ' h') D → Ext M1 H M' H' → HRel G M' H' h' → ERel G M' H' ρ' σ' → (if bb then D.nx σ' H' else D.ct σ' H') := by
          intro bb σ' M' H' ρ' h' o x' r' e'
          unfold focO at o
          split at o
          · rename_i o' ho'
            split at o
            · rename_i hd'
              obtain ⟨L, rfl, hL⟩ := x'.pre
              obtain ⟨b, hb, rb⟩ := r'.obj 0 o' ho'
              have hb : ([a] ++ L)[0]? = some b := hb
              cases hb
              obtain ⟨x2, y2, z2, rfl, hx2⟩ := die_rep hd' rb
              have xM : Ext M H M H' := ⟨⟨[], by simp, by simp⟩, fun b o q n t => x'.keep b o q (fun z => n (by rw [List.mem_singleton.mp z]; exact haM)) t, x'.dom⟩
              have s2 : Sub 0 (⟨M1.L ++ L, M1.Z⟩ : Gh) M := ⟨fun _ z => absurd z (Nat.not_lt_zero _), fun b z => ((mm b).mpr z).imp (List.mem_append_left _) id⟩
              have rr : HRel G M H' (h.set k (.lst [.int x2, .int y2, .int z2])) := ?_
              · cases bb with
                | true => exact o σ' M H' xM rr (e'.keep s2)
                | false => exact o σ' M H' xM rr (e'.keep s2)
              refine ⟨r.nd, r.apart, by rw [List.length_set]; exact r.len, fun b hb => x'.dom b (r.hid b hb), fun n on q => ?_, r'.tab⟩
              by_cases hn : k = n
              · subst hn
                rw [List.getElem?_set_self (by exact (List.getElem?_eq_some_iff.mp ho).1)] at q
                cases q
                exact ⟨a, ha, die_mk hx2⟩
              · rw [List.getElem?_set_ne hn] at q
                obtain ⟨c, hc, rc⟩ := r.obj n on q
                have hca : c ≠ a := fun z => by
                  subst z
                  have h1 := (List.getElem?_eq_some_iff.mp ha)
                  have h2 := (List.getElem?_eq_some_iff.mp hc)
                  obtain ⟨l1, g1⟩ := h1
                  obtain ⟨l2, g2⟩ := h2
                  rcases Nat.lt_or_gt_of_ne hn with lt | lt
                  · exact List.pairwise_iff_getElem.mp r.nd k n l1 l2 lt (g1.trans g2.symm)
                  · exact List.pairwise_iff_getElem.mp r.nd n k l2 l1 lt (g2.trans g1.symm)
                obtain ⟨uu, hu1, hu2⟩ := rc.ntbl
                refine ⟨c, hc, rc.ext xM ?_ fun dx q nM => ?_⟩
                · rw [hu1]; exact x'.keep c uu hu1 (fun z => hca (List.mem_singleton.mp z)) hu2
                · rw [q]; exact x'.keep dx _ q (fun z => nM (by rw [List.mem_singleton.mp z]; exact .inl haM)) (fun _ z => by cases z)
            · exact o.elim
          · exact o.elim
        split at o
        · rename_i ρ' h' hf
          rw [hf]
          exact fun σ' M' H' x' r' e' => key true σ' M' H' ρ' h' o x' r' e'
        · rename_i ρ' h' hf
          rw [hf]
          exact fun σ' M' H' x' r' e' => key false σ' M' H' ρ' h' o x' r' e'
        · exact o.elim
      · exact o.elim
    · exact o.elim
  · exact o.elim
theorem jss_foc {body : List Stmt} {f : SS} (d : Nat) (ks : List Nat) (hb : JSs G X W body f) : JSs G X W body (foc d ks f) := pss_imp hb fun D σ H t => foc_t t
end
end J

/-! J: the pure functions by rewriting. -/
namespace J
open PySem PySem.Spec PyProof.Rows L2
def RS.th (r : RS) (g : SS) : RS := match r with
  | .nx ρ h => g ρ h
  | r => r
section
variable {α : Type} (f g : SS) (fe fa fb fc : SE) (ft fu : SB) (gA : SA) (ρ : En) (h : PH) (v w : PV) (i : Nat)
@[simp] theorem th_nx : (RS.nx ρ h).th g = g ρ h := rfl
@[simp] theorem th_rt : (RS.rt v h).th g = .rt v h := rfl
@[simp] theorem th_bk : (RS.bk ρ h).th g = .bk ρ h := rfl
@[simp] theorem th_ct : (RS.ct ρ h).th g = .ct ρ h := rfl
@[simp] theorem th_ex (e : Ex) : (RS.ex e ρ h).th g = .ex e ρ h := rfl
@[simp] theorem th_bad : (RS.bad).th g = .bad := rfl
@[simp] theorem seq_ev : seq f g ρ h = (f ρ h).th g := by unfold seq RS.th; cases f ρ h <;> rfl
@[simp] theorem snil_ev : snil ρ h = .nx ρ h := rfl
@[simp] theorem sret_ev : sret fe ρ h = (fe ρ h).toS ρ fun v h1 => .rt v h1 := rfl
@[simp] theorem sexp_ev : sexp fe ρ h = (fe ρ h).toS ρ fun _ h1 => .nx ρ h1 := rfl
@[simp] theorem sbrk_ev : sbrk ρ h = .bk ρ h := rfl
@[simp] theorem scont_ev : scont ρ h = .ct ρ h := rfl
@[simp] theorem sretN_ev : sretN ρ h = .rt .non h := rfl
@[simp] theorem sset_ev : sset i fe ρ h = (fe ρ h).toS ρ fun v h1 => .nx (ρ.set i (some v)) h1 := rfl
def sifK (r : R Bool) (f g : SS) (ρ : En) : RS := match r with
  | .ok true h => f ρ h
  | .ok false h => g ρ h
  | .exc e h => .ex e ρ h
  | .bad => .bad
@[simp] theorem sifK_t : sifK (.ok true h) f g ρ = f ρ h := rfl
@[simp] theorem sifK_f : sifK (.ok false h) f g ρ = g ρ h := rfl
@[simp] theorem sifK_e (e : Ex) : sifK (.exc e h) f g ρ = .ex e ρ h := rfl
@[simp] theorem sifK_b : sifK .bad f g ρ = .bad := rfl
theorem sifK_c (b : Bool) : sifK (.ok b h) f g ρ = if b = true then f ρ h else g ρ h := by cases b <;> rfl
@[simp] theorem sif_ev : sif ft f g ρ h = sifK (ft ρ h) f g ρ := by
  unfold sif sifK
  cases ft ρ h with
  | ok b h => cases b <;> rfl
  | exc e h => rfl
  | bad => rfl
def parK (i j : Nat) (ρ : En) (h : PH) : List PV → RS
  | [v, w] => .nx ((ρ.set i (some v)).set j (some w)) h
  | _ => .bad
@[simp] theorem parK_ev (j : Nat) : parK i j ρ h [v, w] = .nx ((ρ.set i (some v)).set j (some w)) h := rfl
@[simp] theorem spar_ev (j : Nat) : spar i j gA ρ h = (gA ρ h).toS ρ fun vs h1 => parK i j ρ h1 vs := rfl
def asgK (h : PH) : Option En → RS
  | some ρ => .nx ρ h
  | none => .bad
@[simp] theorem asgK_s : asgK h (some ρ) = .nx ρ h := rfl
@[simp] theorem sasg_ev (gf : GF) : sasg gf fe ρ h = (fe ρ h).toS ρ fun v h1 => asgK h1 (gf v ρ) := by
  unfold sasg
  rfl
@[simp] theorem gnm_ev : gnm i v ρ = some (ρ.set i (some v)) := rfl
def subK (ρ : En) : Option PH → RS
  | some h => .nx ρ h
  | none => .bad
@[simp] theorem subK_s : subK ρ (some h) = .nx ρ h := rfl
@[simp] theorem ssub_ev (s : PV → PV → PV → PH → Option PH) : ssub s fa fb fc ρ h = (fa ρ h).toS ρ fun v h1 => (fb ρ h1).toS ρ fun o h2 => (fc ρ h2).toS ρ fun i h3 => subK ρ (s o i v h3) := by
  unfold ssub
  rfl
/-! expressions -/
@[simp] theorem vr_zero (ρ : En) : vr 0 (some v :: ρ) h = .ok v h := rfl
@[simp] theorem vr_succ (x : Option PV) : vr (i + 1) (x :: ρ) h = vr i ρ h := rfl
@[simp] theorem cst_ev : cst v ρ h = .ok v h := rfl
@[simp] theorem bin2_ev (o : PV → PV → PH → Option PV) : bin2 o fa fb ρ h = (fa ρ h).bind fun x h1 => (fb ρ h1).bind fun y h2 => R.of h2 (o x y h2) := rfl
@[simp] theorem un1_ev (o : PV → PH → Option PV) : un1 o fa ρ h = (fa ρ h).bind fun x h1 => R.of h1 (o x h1) := rfl
def tstK (h : PH) : PV → R Bool
  | .bl b => .ok b h
  | _ => .bad
@[simp] theorem tstK_bl (b : Bool) : tstK h (.bl b) = .ok b h := rfl
@[simp] theorem tst_ev : tst fe ρ h = (fe ρ h).bind fun v h1 => tstK h1 v := by
  unfold tst
  rfl
@[simp] theorem tru_ev : tru fe ρ h = (fe ρ h).bind fun v h1 => R.of h1 (truO h1 v) := rfl
@[simp] theorem fnot_ev : fnot ft ρ h = (ft ρ h).bind fun b h1 => .ok (!b) h1 := rfl
def andK (r : R Bool) (g : SB) (ρ : En) : R Bool := r.bind fun b h1 => if b then g ρ h1 else .ok false h1
def orK (r : R Bool) (g : SB) (ρ : En) : R Bool := r.bind fun b h1 => if b then .ok true h1 else g ρ h1
@[simp] theorem fand_ev : fand ft fu ρ h = andK (ft ρ h) fu ρ := rfl
@[simp] theorem ffor_ev : ffor ft fu ρ h = orK (ft ρ h) fu ρ := rfl
@[simp] theorem andK_t : andK (.ok true h) fu ρ = fu ρ h := rfl
@[simp] theorem andK_f : andK (.ok false h) fu ρ = .ok false h := rfl
@[simp] theorem orK_t : orK (.ok true h) fu ρ = .ok true h := rfl
@[simp] theorem orK_f : orK (.ok false h) fu ρ = fu ρ h := rfl
@[simp] theorem anil_ev : anil ρ h = .ok [] h := rfl
@[simp] theorem acons_ev : acons fe gA ρ h = (fe ρ h).bind fun x h1 => (gA ρ h1).bind fun xs h2 => .ok (x :: xs) h2 := rfl
@[simp] theorem cal_ev (o : List PV → PH → Option PV) : cal o gA ρ h = (gA ρ h).bind fun xs h1 => R.of h1 (o xs h1) := rfl
@[simp] theorem calld_ev (n : Nat) (m : List PV → PH → R PV) : calld n m gA ρ h = (gA ρ h).bind fun vs h1 => if vs.length = n then m vs h1 else .bad := rfl
@[simp] theorem mkTup_ev : mkTup gA ρ h = (gA ρ h).bind fun xs h1 => if xs.length ≤ sizeLine then .ok (.tup xs) h1 else .bad := rfl
@[simp] theorem mkLst_ev : mkLst gA ρ h = (gA ρ h).bind fun xs h1 => if xs.length ≤ sizeLine then .ok (.lst xs) h1 else .bad := rfl
@[simp] theorem mkLoc_ev : mkLoc gA ρ h = (gA ρ h).bind fun xs h1 => if xs.length ≤ sizeLine then .ok (.loc h1.length) (h1 ++ [.lst xs]) else .bad := rfl
@[simp] theorem onone_ev : onone ρ h = .ok none h := rfl
def osomeK (h : PH) : PV → R (Option Int)
  | .int i => .ok (some i) h
  | _ => .bad
@[simp] theorem osomeK_i (i : Int) : osomeK h (.int i) = .ok (some i) h := rfl
@[simp] theorem osome_ev : osome fe ρ h = (fe ρ h).bind fun v h1 => osomeK h1 v := by
  unfold osome
  rfl
@[simp] theorem slc_ev (fl fh : SO) : slc fe fl fh ρ h = (fe ρ h).bind fun x h1 => (fl ρ h1).bind fun l h2 => (fh ρ h2).bind fun u h3 => R.of h3 (slO x l u h3) := rfl
@[simp] theorem isrc_ev : isrc fe ρ h = (fe ρ h).bind fun v h1 => R.of h1 (srcOf h1 v) := rfl
@[simp] theorem srcOf_lst (xs : List PV) : srcOf h (.lst xs) = some ⟨xs, none⟩ := rfl
@[simp] theorem srcOf_tup (xs : List PV) : srcOf h (.tup xs) = some ⟨xs, none⟩ := rfl
@[simp] theorem itemsOf_lst (xs : List PV) : itemsOf h (.lst xs) = some xs := rfl
@[simp] theorem itemsOf_tup (xs : List PV) : itemsOf h (.tup xs) = some xs := rfl
theorem itemsOf_loc (xs : List PV) (n : Nat) (e : h[n]? = some (.lst xs)) : itemsOf h (.loc n) = some xs := by simp [itemsOf, rd, e, rdO]
theorem ixO_of {xs : List PV} {x : PV} (j : Int) (e : itemsOf h x = some xs) : ixO x (.int j) h = atI xs j := by simp [ixO, e]
@[simp] theorem ixO_tup (xs : List PV) (j : Int) : ixO (.tup xs) (.int j) h = atI xs j := rfl
@[simp] theorem ixO_lst (xs : List PV) (j : Int) : ixO (.lst xs) (.int j) h = atI xs j := rfl
@[simp] theorem eqO_int (i j : Int) : eqO (.int i) (.int j) h = some (.bl (i == j)) := by simp [eqO, dle]
@[simp] theorem neO_int (i j : Int) : neO (.int i) (.int j) h = some (.bl (!(i == j))) := by simp [neO, dle]
@[simp] theorem gtJ_int (i j : Int) : gtJ (.int i) (.int j) h = some (.bl (decide (j < i))) := rfl
@[simp] theorem geJ_int (i j : Int) : geJ (.int i) (.int j) h = some (.bl (decide (j ≤ i))) := rfl
@[simp] theorem ltJ_int (i j : Int) : ltJ (.int i) (.int j) h = some (.bl (decide (i < j))) := rfl
@[simp] theorem leJ_int (i j : Int) : leJ (.int i) (.int j) h = some (.bl (decide (i ≤ j))) := rfl
@[simp] theorem addO_int (i j : Int) : addO (.int i) (.int j) h = some (.int (i + j)) := rfl
@[simp] theorem subO_int (i j : Int) : subO (.int i) (.int j) h = some (.int (i - j)) := rfl
@[simp] theorem mulO_int (i j : Int) : mulO (.int i) (.int j) h = if (decide (i.natAbs < 2 ^ 64) || decide (j.natAbs < 2 ^ 64)) = true then some (.int (i * j)) else none := rfl
theorem mulO_r (i j : Int) (e : j.natAbs < 2 ^ 64) : mulO (.int i) (.int j) h = some (.int (i * j)) := by rw [mulO_int, if_pos (by simp [e])]
theorem modO_p (i j : Int) (e : 0 < j) : modO (.int i) (.int j) h = some (.int (i % j)) := by simp [modO, intO, e]
theorem fdivO_p (i j : Int) (e : 0 < j) (e2 : j < 1073741824) : fdivO (.int i) (.int j) h = some (.int (i / j)) := by simp [fdivO, intO, e, e2]
theorem powO_p (i j : Int) (e : 0 ≤ j ∧ j ≤ 1000000 ∧ i.natAbs < 2 ^ 64) : powO (.int i) (.int j) h = some (.int (i ^ j.toNat)) := by unfold powO intO; simp only; rw [if_pos (by simpa using e)]
@[simp] theorem absO_int (i : Int) : absO [.int i] h = some (.int (if i < 0 then -i else i)) := rfl
@[simp] theorem intO1_int (i : Int) : intO1 [.int i] h = some (.int i) := rfl
@[simp] theorem intO1_bl (b : Bool) : intO1 [.bl b] h = some (.int (if b then 1 else 0)) := rfl
@[simp] theorem lenO_tup (xs : List PV) : lenO [.tup xs] h = some (.int xs.length) := rfl
@[simp] theorem lenO_lst (xs : List PV) : lenO [.lst xs] h = some (.int xs.length) := rfl
theorem lenO_loc (xs : List PV) (n : Nat) (e : h[n]? = some (.lst xs)) : lenO [.loc n] h = some (.int xs.length) := by simp [lenO, itemsOf_loc h xs n e]
@[simp] theorem tupleO_lst (xs : List PV) : tupleO [.lst xs] h = some (.tup xs) := rfl
@[simp] theorem tupleO_tup (xs : List PV) : tupleO [.tup xs] h = some (.tup xs) := rfl
@[simp] theorem slO_lst (xs : List PV) (a b : Option Int) : slO (.lst xs) a b h = some (.lst (cut xs a b)) := rfl
@[simp] theorem slO_tup (xs : List PV) (a b : Option Int) : slO (.tup xs) a b h = some (.tup (cut xs a b)) := rfl
/-! the die at loc 0 -/
theorem trimR_int (md : Md) (n : Nat) (j : Int) : trimR md h.length (.ok (.int j) h) = .ok (.int j) h := by simp [trimR, trimV, clo, cutP_self]
theorem trimR_clo (md : Md) (n : Nat) (v : PV) (e : h.length = n) (c : clo n v = true) : trimR md n (.ok v h) = .ok v h := by subst e; simp [trimR, trimV, c, cutP_self]
end
abbrev di (a b c : Int) : PO := .lst [.int a, .int b, .int c]
end J

/-! J: the dice, that all laws roll. -/
namespace J
open PySem PySem.Spec PyProof.Rows L2
def fb__law_dice : SS := (seq (sif (tst (chn ltJ ltJ (bin2 subO (cst (.int 0)) (cst (.int 10))) (vr 0) (cst (.int 10)))) (seq (sret (mkLoc (acons (cal absO (acons (vr 0) anil)) (acons (cst (.int 0)) (acons (cst (.int 2)) anil))))) snil) snil)
  (seq (sret (mkLoc (acons (vr 0) (acons (bin2 addO (cst (.int 1)) (bin2 modO (cal intO1 (acons (vr 0) anil)) (cst (.int 1009)))) (acons (cal intO1 (acons (bin2 geJ (vr 0) (bin2 powO (cst (.int 10)) (cst (.int 18)))) anil)) anil))))) snil))
def m__law_dice : List PV → PH → R PV := fun args h => trimR .keep h.length (fin (fb__law_dice (startE 1 args) h))
def fb__law_roll : SS := (seq (sif (ffor (tst (bin2 eqO (bin2 ixO (vr 0) (cst (.int 2))) (cst (.int 2)))) (fand (tst (bin2 eqO (bin2 ixO (vr 0) (cst (.int 2))) (cst (.int 1)))) (tst (bin2 gtJ (bin2 ixO (vr 0) (cst (.int 0))) (cst (.int 0)))))) (seq (sset 2 (bin2 modO (cal intO1 (acons (bin2 ixO (vr 0) (cst (.int 0))) anil)) (vr 1)))
  (seq (ssub setLO (bin2 fdivO (bin2 ixO (vr 0) (cst (.int 0))) (vr 1)) (vr 0) (cst (.int 0)))
  (seq (sret (vr 2)) snil))) snil)
  (seq (ssub setLO (cst (.int 0)) (vr 0) (cst (.int 2)))
  (seq (ssub setLO (bin2 modO (cal intO1 (acons (bin2 addO (bin2 addO (bin2 mulO (bin2 ixO (vr 0) (cst (.int 0))) (cst (.int 48271))) (bin2 mulO (bin2 ixO (vr 0) (cst (.int 1))) (cst (.int 69621)))) (cst (.int 11))) anil)) (cst (.int 2147483647))) (vr 0) (cst (.int 0)))
  (seq (ssub setLO (bin2 addO (bin2 ixO (vr 0) (cst (.int 1))) (cst (.int 1))) (vr 0) (cst (.int 1)))
  (seq (sret (bin2 modO (cal intO1 (acons (bin2 addO (bin2 fdivO (bin2 ixO (vr 0) (cst (.int 0))) (cst (.int 7))) (bin2 ixO (vr 0) (cst (.int 0)))) anil)) (vr 1))) snil)))))
def m__law_roll : List PV → PH → R PV := fun args h => trimR .keep h.length (fin (fb__law_roll (startE 3 args) h))
def fb__law_rounds : SS := (seq (sset 2 (slc (vr 0) onone (osome (vr 1))))
  (seq (sif (tst (bin2 eqO (vr 2) (mkLst anil))) (seq (sset 2 (mkLst (acons (cst (.int 0)) anil))) snil) snil)
  (seq (sret (lcG [3] (isrc (vr 2)) (gnm 3) tyes (calld 1 m__law_dice (acons (vr 3) anil)) (fun xs h => .ok (.lst xs) h))) snil)))
def m__law_rounds : List PV → PH → R PV := fun args h => trimR .keep h.length (fin (fb__law_rounds (startE 4 args) h))
def fb__law_names : SS := (seq (sret (cal tupleO (acons (slc (mkLst (acons (cst (.str "a")) (acons (cst (.str "bb")) (acons (cst (.str "c")) (acons (cst (.str "dd")) (acons (cst (.str "e")) (acons (cst (.str "f")) anil))))))) onone (osome (vr 0))) anil))) snil)
def m__law_names : List PV → PH → R PV := fun args h => trimR .keep h.length (fin (fb__law_names (startE 1 args) h))
def fb__law_mixed : SS := (seq (spar 2 3 (acons (listM (acons (vr 1) anil)) (acons (mkLoc anil) anil)))
  (seq (sfor (irng1 (acons (cal lenO (acons (vr 1) anil)) anil)) (gnm 4) (seq (sset 5 (bin2 ixO (vr 2) (calld 2 m__law_roll (acons (vr 0) (acons (cal lenO (acons (vr 2) anil)) anil)))))
  (seq (sexp (met .list appendO (vr 3) (acons (vr 5) anil)))
  (seq (sexp (met .list removeO (vr 2) (acons (vr 5) anil))) snil))))
  (seq (sret (vr 3)) snil)))
def m__law_mixed : List PV → PH → R PV := fun args h => trimR .frz h.length (fin (fb__law_mixed (startE 6 args) h))
section
variable (a b c : Int) (h : PH) (v : PV)
@[simp] theorem ixO_d0 : ixO (.loc 0) (.int 0) (di a b c :: h) = some (.int a) := rfl
@[simp] theorem ixO_d1 : ixO (.loc 0) (.int 1) (di a b c :: h) = some (.int b) := rfl
@[simp] theorem ixO_d2 : ixO (.loc 0) (.int 2) (di a b c :: h) = some (.int c) := rfl
@[simp] theorem setLO_d0 (x : Int) : setLO (.loc 0) (.int 0) (.int x) (di a b c :: h) = some (di x b c :: h) := rfl
@[simp] theorem setLO_d1 (x : Int) : setLO (.loc 0) (.int 1) (.int x) (di a b c :: h) = some (di a x c :: h) := rfl
@[simp] theorem setLO_d2 (x : Int) : setLO (.loc 0) (.int 2) (.int x) (di a b c :: h) = some (di a b x :: h) := rfl
end
theorem roll_fb (a b c n : Int) (h : PH) (hn : 0 < n) (hn2 : n < 1073741824) : ∃ r a' b' c', 0 ≤ r ∧ r < n ∧ fb__law_roll (startE 3 [.loc 0, .int n]) (di a b c :: h) = .rt (.int r) (di a' b' c' :: h) := by
  have m1 : ∀ (x : Int) h, mulO (.int x) (.int 48271) h = some (.int (x * 48271)) := fun x h => mulO_r h x _ (by decide)
  have m2 : ∀ (x : Int) h, mulO (.int x) (.int 69621) h = some (.int (x * 69621)) := fun x h => mulO_r h x _ (by decide)
  have m3 : ∀ (x : Int) h, modO (.int x) (.int 2147483647) h = some (.int (x % 2147483647)) := fun x h => modO_p h x _ (by decide)
  have m4 : ∀ (x : Int) h, fdivO (.int x) (.int 7) h = some (.int (x / 7)) := fun x h => fdivO_p h x _ (by decide) (by decide)
  have m5 : ∀ (x : Int) h, modO (.int x) (.int n) h = some (.int (x % n)) := fun x h => modO_p h x _ hn
  have m6 : ∀ (x : Int) h, fdivO (.int x) (.int n) h = some (.int (x / n)) := fun x h => fdivO_p h x _ hn hn2
  have fin : ∀ x : Int, 0 ≤ x % n ∧ x % n < n := fun x => ⟨Int.emod_nonneg _ (by omega), Int.emod_lt_of_pos _ hn⟩
  by_cases h2 : c = 2
  · subst h2
    refine ⟨a % n, a / n, b, 2, (fin _).1, (fin _).2, ?_⟩
    simp [fb__law_roll, startE, m5, m6]
  · by_cases h1 : c = 1
    · subst h1
      by_cases ha : 0 < a
      · refine ⟨a % n, a / n, b, 1, (fin _).1, (fin _).2, ?_⟩
        simp [fb__law_roll, startE, m5, m6, ha]
      · suffices q : ∃ x a' b' c' : Int, fb__law_roll (startE 3 [.loc 0, .int n]) (di a b 1 :: h) = .rt (.int (x % n)) (di a' b' c' :: h) by
          obtain ⟨x, a', b', c', q⟩ := q
          exact ⟨x % n, a', b', c', (fin x).1, (fin x).2, q⟩
        refine ⟨(a * 48271 + b * 69621 + 11) % 2147483647 / 7 + (a * 48271 + b * 69621 + 11) % 2147483647, (a * 48271 + b * 69621 + 11) % 2147483647, b + 1, 0, ?_⟩
        · simp [fb__law_roll, startE, m1, m2, m3, m4, m5, ha]
    · suffices q : ∃ x a' b' c' : Int, fb__law_roll (startE 3 [.loc 0, .int n]) (di a b c :: h) = .rt (.int (x % n)) (di a' b' c' :: h) by
        obtain ⟨x, a', b', c', q⟩ := q
        exact ⟨x % n, a', b', c', (fin x).1, (fin x).2, q⟩
      refine ⟨(a * 48271 + b * 69621 + 11) % 2147483647 / 7 + (a * 48271 + b * 69621 + 11) % 2147483647, (a * 48271 + b * 69621 + 11) % 2147483647, b + 1, 0, ?_⟩
      · have e1 : (c == 1) = false := by simp [h1]
        have e2 : (c == 2) = false := by simp [h2]
        simp [fb__law_roll, startE, m1, m2, m3, m4, m5, e1, e2]
theorem roll (a b c n : Int) (h : PH) (hn : 0 < n) (hn2 : n < 1073741824) : ∃ r a' b' c', 0 ≤ r ∧ r < n ∧ m__law_roll [.loc 0, .int n] (di a b c :: h) = .ok (.int r) (di a' b' c' :: h) := by
  obtain ⟨r, a', b', c', h1, h2, e⟩ := roll_fb a b c n h hn hn2
  exact ⟨r, a', b', c', h1, h2, by unfold m__law_roll; rw [e]; exact trimR_clo _ _ _ _ rfl rfl⟩
end J

/-! J: the rounds, and the law by its body. -/
namespace J
open PySem PySem.Spec PyProof.Rows L2
theorem dice_ok (z : Int) (h : PH) : ∃ a b c, m__law_dice [.int z] h = .ok (.loc h.length) (h ++ [di a b c]) := by
  have tr : ∀ a b c : Int, trimR .keep h.length (.ok (.loc h.length) (h ++ [di a b c])) = .ok (.loc h.length) (h ++ [di a b c]) := fun a b c => by
    simp [trimR, trimV, clo]
  have sl : (3 : Nat) ≤ sizeLine := by rw [sizeLine_eq]; decide
  by_cases hz : -10 < z ∧ z < 10
  · refine ⟨if z < 0 then -z else z, 0, 2, ?_⟩
    unfold m__law_dice
    rw [← tr]
    congr 1
    simp [fb__law_dice, startE, chn, hz.1, hz.2, fin, sl]
  · refine ⟨z, 1 + z % 1009, if 1000000000000000000 ≤ z then 1 else 0, ?_⟩
    unfold m__law_dice
    rw [← tr]
    congr 1
    have m1 : ∀ h, modO (.int z) (.int 1009) h = some (.int (z % 1009)) := fun h => modO_p h z _ (by decide)
    have m2 : ∀ h, powO (.int 10) (.int 18) h = some (.int 1000000000000000000) := fun h => powO_p h _ _ (by decide)
    have ch : chn ltJ ltJ (bin2 subO (cst (.int 0)) (cst (.int 10))) (vr 0) (cst (.int 10)) [some (.int z)] h = .ok (.bl false) h := by
      by_cases h1 : -10 < z
      · have h2 : ¬ z < 10 := fun q => hz ⟨h1, q⟩
        simp [chn, h1, h2]
      · simp [chn, h1]
    simp [fb__law_dice, startE, ch, m1, m2, fin, sl]
def locs (n m : Nat) : List PV := match m with
  | 0 => []
  | m + 1 => .loc n :: locs (n + 1) m
theorem rounds_comp (ρ0 : En) (hρ : ρ0.length = 4) (s : Src) (hs : s.lv = none) : ∀ (ns : List Int) (h : PH), (∀ o ∈ h, die o = true) → ∃ ds : PH, (∀ o ∈ ds, die o = true) ∧ ds.length = ns.length ∧
    compL s (gnm 3) tyes (calld 1 m__law_dice (acons (vr 3) anil)) ρ0 (ns.map .int) h = .ok (locs h.length ns.length) (h ++ ds)
  | [], h, _ => ⟨[], by simp, rfl, by simp [compL, locs]⟩
  | z :: ns, h, hd => by
    obtain ⟨a, b, c, e⟩ := dice_ok z h
    have hd2 : ∀ o ∈ h ++ [di a b c], die o = true := fun o ho => by
      rcases List.mem_append.mp ho with q | q
      · exact hd o q
      · rw [List.mem_singleton.mp q]; rfl
    obtain ⟨ds, h1, h2, h3⟩ := rounds_comp ρ0 hρ s hs ns (h ++ [di a b c]) hd2
    refine ⟨di a b c :: ds, fun o ho => ?_, by simp [h2], ?_⟩
    · rcases List.mem_cons.mp ho with q | q
      · rw [q]; rfl
      · exact h1 o q
    · have hv : vr 3 (ρ0.set 3 (some (.int z))) h = .ok (.int z) h := by
        unfold vr
        rw [List.getElem?_set_self (by omega)]
      have sm : ∀ h, sameL s h = true := fun h => by unfold sameL; rw [hs]
      rw [List.map_cons]
      unfold compL
      simp only [gnm_ev, tyes, calld_ev, acons_ev, hv, R.bind_ok, anil_ev, List.length_cons, List.length_nil, if_true, e, sm, h3, Nat.zero_add]
      simp [locs]
theorem rounds_ok (ns : List Int) (k : Int) (hk : 0 < k) : ∃ ds : PH, (∀ o ∈ ds, die o = true) ∧ m__law_rounds [.lst (ns.map .int), .int k] [] = .ok (.lst (locs 0 ds.length)) ds := by
  have main : ∀ ms : List Int, ms ≠ [] → ∃ ds : PH, (∀ o ∈ ds, die o = true) ∧ trimR .keep 0 (fin (sret (lcG [3] (isrc (vr 2)) (gnm 3) tyes (calld 1 m__law_dice (acons (vr 3) anil)) (fun xs h => .ok (.lst xs) h)) [some (.lst (ns.map .int)), some (.int k), some (.lst (ms.map .int)), none] [])) = .ok (.lst (locs 0 ds.length)) ds := by
    intro ms hms
    obtain ⟨ds, h1, h2, h3⟩ := rounds_comp [some (.lst (ns.map .int)), some (.int k), some (.lst (ms.map .int)), none] rfl ⟨ms.map .int, none⟩ rfl ms [] (by simp)
    refine ⟨ds, h1, ?_⟩
    have e : lcG [3] (isrc (vr 2)) (gnm 3) tyes (calld 1 m__law_dice (acons (vr 3) anil)) (fun xs h => .ok (.lst xs) h) [some (.lst (ns.map .int)), some (.int k), some (.lst (ms.map .int)), none] [] = .ok (.lst (locs 0 ds.length)) ds := by
      unfold lcG
      simp only [isrc_ev, vr_succ, vr_zero, R.bind_ok, srcOf_lst, R.of_some, sameL_none, if_true]
      have w : wipeE [some (PV.lst (ns.map .int)), some (.int k), some (.lst (ms.map .int)), none] [3] = [some (PV.lst (ns.map .int)), some (.int k), some (.lst (ms.map .int)), none] := rfl
      rw [w, h3, ← h2]
      rfl
    rw [sret_ev, e]
    cases ms with
    | nil => exact absurd rfl hms
    | cons m ms =>
      cases ds with
      | nil => simp at h2
      | cons d ds => rfl
  have hc : cut (ns.map PV.int) none (some k) = (ns.take k.toNat).map .int := by
    have : ¬ k < 0 := by omega
    simp [cut, HT.sIx, this, List.map_take]
  have step : ∀ ms : List Int, ms = (if (ns.take k.toNat) = [] then [0] else ns.take k.toNat) → fb__law_rounds (startE 4 [.lst (ns.map .int), .int k]) [] = sret (lcG [3] (isrc (vr 2)) (gnm 3) tyes (calld 1 m__law_dice (acons (vr 3) anil)) (fun xs h => .ok (.lst xs) h)) [some (.lst (ns.map .int)), some (.int k), some (.lst (ms.map .int)), none] [] := by
    intro ms hms
    have sl : (1 : Nat) ≤ sizeLine := by rw [sizeLine_eq]; decide
    have hd : ∀ xs : List Int, dles 59 (xs.map PV.int) = true := fun xs => by
      induction xs with
      | nil => rfl
      | cons x xs ih => simp [dles, dle, ih]
    have hq : ∀ f : SE, ∀ ρ h, ((sret f ρ h).th snil) = sret f ρ h := fun f ρ h => by
      rw [sret_ev]
      cases f ρ h <;> rfl
    cases ht : ns.take k.toNat with
    | nil =>
      rw [ht, if_pos rfl] at hms
      subst hms
      rw [ht] at hc
      have e1 : ∀ h, eqO (.lst []) (.lst []) h = some (.bl true) := fun h => by simp [eqO, dle, dles, DEPTH]
      unfold fb__law_rounds
      simp only [seq_ev, sset_ev, slc_ev, startE, List.map_cons, List.map_nil, List.length_cons, List.length_nil, Nat.reduceAdd, Nat.reduceSub, List.replicate, List.cons_append, List.nil_append, vr_succ, vr_zero, R.bind_ok, onone_ev, osome_ev, osomeK_i, slO_lst, hc, R.of_some, R.toS_ok, th_nx, List.set_cons_succ, List.set_cons_zero, sif_ev, tst_ev, bin2_ev, mkLst_ev, anil_ev, Nat.zero_le, if_true, e1, tstK_bl, sifK_t, acons_ev, cst_ev, sl, snil_ev]
      rw [hq]
    | cons x xs =>
      rw [ht, if_neg (by simp)] at hms
      subst hms
      rw [ht] at hc
      have e1 : ∀ h, eqO (.lst ((x :: xs).map .int)) (.lst []) h = some (.bl false) := fun h => by simp [eqO, dle, dles, DEPTH, hd]
      unfold fb__law_rounds
      simp only [seq_ev, sset_ev, slc_ev, startE, List.map_cons, List.map_nil, List.length_cons, List.length_nil, Nat.reduceAdd, Nat.reduceSub, List.replicate, List.cons_append, List.nil_append, vr_succ, vr_zero, R.bind_ok, onone_ev, osome_ev, osomeK_i, slO_lst, hc, R.of_some, R.toS_ok, th_nx, List.set_cons_succ, List.set_cons_zero, sif_ev, tst_ev, bin2_ev, mkLst_ev, anil_ev, Nat.zero_le, if_true]
      simp only [List.map_cons] at e1
      simp only [e1, R.of_some, R.bind_ok, tstK_bl, sifK_f, snil_ev, th_nx]
      rw [seq_ev, hq]
  unfold m__law_rounds
  rw [step _ rfl]
  exact main _ (by split <;> simp_all)
/-- what a body is to do with any die -/
def BodyOk (N : Nat) (body : SS) : Prop := ∀ a b c : Int, ∃ ρ' h' o', (body (none :: some (.loc 0) :: List.replicate N none) [di a b c] = .nx ρ' h' ∨ body (none :: some (.loc 0) :: List.replicate N none) [di a b c] = .ct ρ' h') ∧ ρ'.length = N + 2 ∧ h'[0]? = some o' ∧ die o' = true
theorem keepE_nil : ∀ (i : Nat) (ρ : En), keepE [] i ρ = List.replicate ρ.length none
  | _, [] => rfl
  | i, v :: ρ => by simp [keepE, keepE_nil (i + 1) ρ, List.replicate_succ]
theorem die_is {o : PO} (d : die o = true) : ∃ a b c, o = di a b c := by
  match o, d with
  | .lst [.int a, .int b, .int c], _ => exact ⟨a, b, c, rfl⟩
theorem for_locs {N : Nat} {body : SS} (hb : BodyOk N body) (xs : List PV) : ∀ (m n : Nat) (ρ : En) (h : PH), ρ.length = N + 2 → n + m ≤ h.length → (∀ o ∈ h, die o = true) → ∃ ρ' h', forL ⟨xs, none⟩ (gnm 1) (foc 1 [] body) (locs n m) ρ h = .nx ρ' h'
  | 0, n, ρ, h, _, _, _ => ⟨ρ, h, rfl⟩
  | m + 1, n, ρ, h, hl, hm, hd => by
    have hn : n < h.length := by omega
    obtain ⟨a, b, c, ho⟩ := die_is (hd h[n] (List.getElem_mem hn))
    obtain ⟨ρ1, h1, o1, e, l1, g1, d1⟩ := hb a b c
    have hq : h[n]? = some (di a b c) := by rw [List.getElem?_eq_getElem hn, ho]
    have env : (keepE [] 0 (ρ.set 1 (some (.loc n)))).set 1 (some (.loc 0)) = none :: some (.loc 0) :: List.replicate N none := by
      rw [keepE_nil, List.length_set, hl]; rfl
    have hf : foc 1 [] body (ρ.set 1 (some (.loc n))) h = .nx (List.replicate (N + 2) none) (h.set n o1) ∨ foc 1 [] body (ρ.set 1 (some (.loc n))) h = .ct (List.replicate (N + 2) none) (h.set n o1) := by
      unfold foc
      rw [List.getElem?_set_self (by omega)]
      simp only [hq, env]
      rw [if_pos (show die (di a b c) = true from rfl)]
      rcases e with e | e
      · left; rw [e]; simp [focO, g1, d1, keepE_nil, l1]
      · right; rw [e]; simp [focO, g1, d1, keepE_nil, l1]
    have hd2 : ∀ o ∈ h.set n o1, die o = true := fun o ho => by
      rcases List.mem_or_eq_of_mem_set ho with q | q
      · exact hd o q
      · rw [q]; exact d1
    obtain ⟨ρ2, h2, e2⟩ := for_locs hb xs m (n + 1) (List.replicate (N + 2) none) (h.set n o1) (by simp) (by rw [List.length_set]; omega) hd2
    refine ⟨ρ2, h2, ?_⟩
    show (match gnm 1 (.loc n) ρ with
      | none => RS.bad
      | some ρ1 => match foc 1 [] body ρ1 h with
        | .nx ρ' h' => if sameL ⟨xs, none⟩ h' then forL ⟨xs, none⟩ (gnm 1) (foc 1 [] body) (locs (n + 1) m) ρ' h' else .bad
        | .ct ρ' h' => if sameL ⟨xs, none⟩ h' then forL ⟨xs, none⟩ (gnm 1) (foc 1 [] body) (locs (n + 1) m) ρ' h' else .bad
        | .bk ρ' h' => .nx ρ' h'
        | .rt v h' => .rt v h'
        | .ex e ρ' h' => .ex e ρ' h'
        | .bad => .bad) = _
    simp only [gnm_ev]
    rcases hf with q | q <;> simp only [q, sameL_none, if_true] <;> exact e2
theorem law_of {N : Nat} {k : Int} {body rest : SS} (hk : 0 < k) (hb : BodyOk N body) (hr : ∀ ρ h, ∃ h', rest ρ h = .rt (.bl true) h') :
    LawTrue fun args h => trimR .keep h.length (fin (seq (sfor (isrc (calld 2 m__law_rounds (acons (vr 0) (acons (cst (.int k)) anil)))) (gnm 1) (foc 1 [] body)) rest (startE (N + 2) args) h)) := by
  intro ns _ _
  obtain ⟨ds, h1, h2⟩ := rounds_ok ns k hk
  obtain ⟨ρ', h', e⟩ := for_locs hb (locs 0 ds.length) ds.length 0 (startE (N + 2) [.lst (ns.map .int)]) ds (by simp [startE]) (by simp) h1
  obtain ⟨h2', er⟩ := hr ρ' h'
  have hv : ∀ h, vr 0 (startE (N + 2) [.lst (ns.map .int)]) h = .ok (.lst (ns.map .int)) h := fun h => rfl
  have hs : sfor (isrc (calld 2 m__law_rounds (acons (vr 0) (acons (cst (.int k)) anil)))) (gnm 1) (foc 1 [] body) (startE (N + 2) [.lst (ns.map .int)]) [] = .nx ρ' h' := by
    unfold sfor
    simp only [isrc_ev, calld_ev, acons_ev, hv, R.bind_ok, cst_ev, anil_ev, List.length_cons, List.length_nil, Nat.zero_add, Nat.reduceAdd, if_true, h2, srcOf_lst, R.of_some, R.toS_ok, sameL_none]
    exact e
  refine ⟨cutP 0 h2', ?_⟩
  show trimR .keep 0 _ = _
  rw [seq_ev, hs, th_nx, er]
  rfl
end J

namespace J
open PySem PySem.Spec PyProof.Rows L2
def NAMES : List PV := [.str "a", .str "bb", .str "c", .str "dd", .str "e", .str "f"]
theorem clos_str (n : Nat) (xs : List Str) : clos n (xs.map .str) = true := by
  induction xs with
  | nil => rfl
  | cons x xs ih => simp [clos, clo, ih]
theorem names_ok (n : Nat) (h : PH) : m__law_names [.int n] h = .ok (.tup (NAMES.take n)) h := by
  have sl : (6 : Nat) ≤ sizeLine := by rw [sizeLine_eq]; decide
  have e : fb__law_names (startE 1 [.int n]) h = .rt (.tup (NAMES.take n)) h := by
    have hc : cut [PV.str "a", .str "bb", .str "c", .str "dd", .str "e", .str "f"] none (some (n : Int)) = NAMES.take n := by
      have : ¬ ((n : Int) < 0) := by omega
      simp only [cut, HT.sIx, this, if_false, Int.toNat_natCast, List.drop_zero, Nat.sub_zero, NAMES]
      by_cases hn : n ≤ 6
      · rw [Nat.min_eq_left (by simpa using hn)]
      · rw [Nat.min_eq_right (by simp; omega), List.take_of_length_le (Nat.le_refl _), List.take_of_length_le (by simp; omega)]
    simp [fb__law_names, startE, sl, hc]
  unfold m__law_names
  rw [e]
  refine trimR_clo _ _ _ _ rfl ?_
  have : NAMES.take n = (([("a" : Str), ("bb" : Str), ("c" : Str), ("dd" : Str), ("e" : Str), ("f" : Str)] : List Str).take n).map .str := by rw [List.map_take]; rfl
  simp only [clo, this, clos_str]
def chk (N : Nat) (r : RS) : Bool := match r with
  | .nx ρ h => ρ.length == N + 2 && (match h[0]? with | some o => die o | none => false)
  | .ct ρ h => ρ.length == N + 2 && (match h[0]? with | some o => die o | none => false)
  | _ => false
theorem bodyOk_of {N : Nat} {body : SS} (h : ∀ a b c : Int, chk N (body (none :: some (.loc 0) :: List.replicate N none) [di a b c]) = true) : BodyOk N body := by
  intro a b c
  have q := h a b c
  cases e : body (none :: some (.loc 0) :: List.replicate N none) [di a b c] with
  | nx ρ' h' =>
    rw [e] at q
    simp only [chk, Bool.and_eq_true, beq_iff_eq] at q
    cases g : h'[0]? with
    | none => rw [g] at q; cases q.2
    | some o => rw [g] at q; exact ⟨ρ', h', o, .inl rfl, q.1, g, q.2⟩
  | ct ρ' h' =>
    rw [e] at q
    simp only [chk, Bool.and_eq_true, beq_iff_eq] at q
    cases g : h'[0]? with
    | none => rw [g] at q; cases q.2
    | some o => rw [g] at q; exact ⟨ρ', h', o, .inr rfl, q.1, g, q.2⟩
  | rt v h' => rw [e] at q; cases q
  | bk v h' => rw [e] at q; cases q
  | ex v h' => rw [e] at q; cases q
  | bad => rw [e] at q; cases q
theorem natOf {r n : Int} (h : 0 ≤ r) (h2 : r < n) : ∃ k : Nat, r = k ∧ k < n.toNat := ⟨r.toNat, by omega, by omega⟩
end J

namespace K02
open PySem PySem.Spec PyProof.Rows L2 J
/-! ### the text -/
def topS (i : Nat) : Stmt := PySem.Challenge.pw_choicehall_k02_all_orders_and_sets.main.body.getD i (.Pass ⟨0, 0, 0, 0⟩)
abbrev s__law_names : Stmt := topS 7
theorem sc__law_names : FnScope ["many"] ["many"] (defScope s__law_names) := ⟨rfl, rfl, rfl, by decide +kernel, rfl, by decide +kernel, by decide +kernel⟩
abbrev s__law_places : Stmt := topS 9
theorem sc__law_places : FnScope ["row", "names", "name"] ["row", "names"] (defScope s__law_places) := ⟨rfl, rfl, rfl, by decide +kernel, rfl, by decide +kernel, by decide +kernel⟩
abbrev s__law_roll : Stmt := topS 5
theorem sc__law_roll : FnScope ["dice", "many", "found"] ["dice", "many"] (defScope s__law_roll) := ⟨rfl, rfl, rfl, by decide +kernel, rfl, by decide +kernel, by decide +kernel⟩
abbrev s__law_dice : Stmt := topS 4
theorem sc__law_dice : FnScope ["cell"] ["cell"] (defScope s__law_dice) := ⟨rfl, rfl, rfl, by decide +kernel, rfl, by decide +kernel, by decide +kernel⟩
abbrev s__law_rounds : Stmt := topS 6
theorem sc__law_rounds : FnScope ["script", "most", "cells", "cell"] ["script", "most"] (defScope s__law_rounds) := ⟨rfl, rfl, rfl, by decide +kernel, rfl, by decide +kernel, by decide +kernel⟩
abbrev s_orders_of : Stmt := topS 1
theorem sc_orders_of : FnScope ["names", "found", "turn", "order", "name"] ["names"] (defScope s_orders_of) := ⟨rfl, rfl, rfl, by decide +kernel, rfl, by decide +kernel, by decide +kernel⟩
abbrev s_subsets_of : Stmt := topS 2
theorem sc_subsets_of : FnScope ["names", "size", "found", "k", "name", "left", "one", "more"] ["names", "size"] (defScope s_subsets_of) := ⟨rfl, rfl, rfl, by decide +kernel, rfl, by decide +kernel, by decide +kernel⟩
abbrev s_law : Stmt := topS 10
theorem sc_law : FnScope ["script", "dice", "names", "many", "orders", "count", "order", "keys", "key", "k", "size", "sets", "row", "due"] ["script"] (defScope s_law) := ⟨rfl, rfl, rfl, by decide +kernel, rfl, by decide +kernel, by decide +kernel⟩
/-! ### the pure functions -/
def fb__law_places : SS := (seq (sret (lcG [2] (isrc (vr 0)) (gnm 2) tyes (met .tuple (fun x xs h => if isT .tuple h x then indexO x xs h else none) (vr 1) (acons (vr 2) anil)) (fun xs h => .ok (.lst xs) h))) snil)
def m__law_places : List PV → PH → R PV := fun args h => trimR .keep h.length (fin (fb__law_places (startE 3 args) h))
def fb_orders_of : SS := (seq (sset 1 (mkLst (acons (mkTup anil) anil)))
  (seq (sfor (irng1 (acons (cal lenO (acons (vr 0) anil)) anil)) (gnm 2) (seq (sset 1 (lc2G [3, 4] [4] (isrc (vr 1)) (gnm 3) tyes (isrc (vr 0)) (gnm 4) (tst (bin2 ninO (vr 4) (vr 3))) (bin2 addO (vr 3) (mkTup (acons (vr 4) anil))) (fun xs h => .ok (.lst xs) h))) snil))
  (seq (sret (vr 1)) snil)))
def m_orders_of : List PV → PH → R PV := fun args h => trimR .keep h.length (fin (fb_orders_of (startE 5 args) h))
def fb_subsets_of : SS := (seq (sset 2 (mkLst (acons (mkTup anil) anil)))
  (seq (sfor (ienum (acons (vr 0) anil)) (gtup 2 (gcons (gnm 3) (gcons (gnm 4) gnil))) (seq (sset 5 (bin2 subO (cal lenO (acons (vr 0) anil)) (vr 3)))
  (seq (sset 2 (lc2G [6, 7] [7] (isrc (vr 2)) (gnm 6) tyes (isrc (mkTup (acons (mkTup (acons (vr 4) anil)) (acons (mkTup anil) anil)))) (gnm 7) (tst (bin2 ltJ (bin2 subO (bin2 subO (vr 1) (cal lenO (acons (vr 6) anil))) (cal lenO (acons (vr 7) anil))) (vr 5))) (bin2 addO (vr 6) (vr 7)) (fun xs h => .ok (.lst xs) h)))
  (seq (sset 2 (lcG [6] (isrc (vr 2)) (gnm 6) (tst (bin2 leJ (cal lenO (acons (vr 6) anil)) (vr 1))) (vr 6) (fun xs h => .ok (.lst xs) h))) snil))))
  (seq (sret (lcG [6] (isrc (vr 2)) (gnm 6) (tst (bin2 eqO (cal lenO (acons (vr 6) anil)) (vr 1))) (vr 6) (fun xs h => .ok (.lst xs) h))) snil)))
def m_subsets_of : List PV → PH → R PV := fun args h => trimR .keep h.length (fin (fb_subsets_of (startE 8 args) h))
def fb_body : SS := (seq (sset 2 (calld 1 m__law_names (acons (calld 2 m__law_roll (acons (vr 1) (acons (cst (.int 5)) anil))) anil)))
  (seq (sset 3 (cal lenO (acons (vr 2) anil)))
  (seq (sset 4 (calld 1 m_orders_of (acons (vr 2) anil)))
  (seq (sset 5 (bin2 ixO (mkLst (acons (cst (.int 1)) (acons (cst (.int 1)) (acons (cst (.int 2)) (acons (cst (.int 6)) (acons (cst (.int 24)) anil)))))) (vr 3)))
  (seq (sset 7 (lcG [6] (isrc (vr 4)) (gnm 6) tyes (calld 2 m__law_places (acons (vr 6) (acons (vr 2) anil))) (fun xs h => .ok (.lst xs) h)))
  (seq (sif (ffor (tst (bin2 neO (cal lenO (acons (vr 4) anil)) (vr 5))) (tst (bin2 neO (lcG [8] (isrc (vr 7)) (gnm 8) (tst (bin2 neO (cal sortedO (acons (vr 8) anil)) (lrng (irng1 (acons (vr 3) anil))))) (vr 8) (fun xs h => .ok (.lst xs) h)) (mkLst anil)))) (seq (sret (cst (.bl false))) snil) snil)
  (seq (sif (tst (bin2 neO (lcG [9] (irng2 (acons (cst (.int 1)) (acons (cal lenO (acons (vr 7) anil)) anil))) (gnm 9) (tst (bin2 geJ (bin2 ixO (vr 7) (bin2 subO (vr 9) (cst (.int 1)))) (bin2 ixO (vr 7) (vr 9)))) (vr 9) (fun xs h => .ok (.lst xs) h)) (mkLst anil))) (seq (sret (cst (.bl false))) snil) snil)
  (seq (sfor (irng1 (acons (bin2 addO (vr 3) (cst (.int 2))) anil)) (gnm 10) (seq (sset 11 (calld 2 m_subsets_of (acons (vr 2) (acons (vr 10) anil))))
  (seq (sset 7 (lcG [12] (isrc (vr 11)) (gnm 12) tyes (calld 2 m__law_places (acons (vr 12) (acons (vr 2) anil))) (fun xs h => .ok (.lst xs) h)))
  (seq (sset 13 (bin2 ixO (mkLst (acons (mkLst (acons (cst (.int 1)) anil)) (acons (mkLst (acons (cst (.int 1)) (acons (cst (.int 1)) anil))) (acons (mkLst (acons (cst (.int 1)) (acons (cst (.int 2)) (acons (cst (.int 1)) anil)))) (acons (mkLst (acons (cst (.int 1)) (acons (cst (.int 3)) (acons (cst (.int 3)) (acons (cst (.int 1)) anil))))) (acons (mkLst (acons (cst (.int 1)) (acons (cst (.int 4)) (acons (cst (.int 6)) (acons (cst (.int 4)) (acons (cst (.int 1)) anil)))))) anil)))))) (vr 3)))
  (seq (sif (ffor (tst (bin2 neO (cal lenO (acons (vr 11) anil)) (bin2 ixO (bin2 addO (vr 13) (mkLst (acons (cst (.int 0)) anil))) (vr 10)))) (tst (bin2 neO (lcG [8] (isrc (vr 7)) (gnm 8) (tst (bin2 neO (vr 8) (cal sortedO (acons (vr 8) anil)))) (vr 8) (fun xs h => .ok (.lst xs) h)) (mkLst anil)))) (seq (sret (cst (.bl false))) snil) snil)
  (seq (sif (tst (bin2 neO (lcG [9] (irng2 (acons (cst (.int 1)) (acons (cal lenO (acons (vr 7) anil)) anil))) (gnm 9) (tst (bin2 geJ (bin2 ixO (vr 7) (bin2 subO (vr 9) (cst (.int 1)))) (bin2 ixO (vr 7) (vr 9)))) (vr 9) (fun xs h => .ok (.lst xs) h)) (mkLst anil))) (seq (sret (cst (.bl false))) snil) snil)
  (seq (sif (tst (bin2 neO (lcG [8] (isrc (vr 7)) (gnm 8) (ffor (tst (bin2 neO (cal lenO (acons (vr 8) anil)) (vr 10))) (tst (bin2 neO (lcG [9] (irng2 (acons (cst (.int 1)) (acons (vr 10) anil))) (gnm 9) (tst (bin2 eqO (bin2 ixO (vr 8) (bin2 subO (vr 9) (cst (.int 1)))) (bin2 ixO (vr 8) (vr 9)))) (vr 9) (fun xs h => .ok (.lst xs) h)) (mkLst anil)))) (vr 8) (fun xs h => .ok (.lst xs) h)) (mkLst anil))) (seq (sret (cst (.bl false))) snil) snil) snil))))))) snil))))))))
def fb_law : SS := (seq (sfor (isrc (calld 2 m__law_rounds (acons (vr 0) (acons (cst (.int 2)) anil)))) (gnm 1) (foc 1 [] fb_body))
  (seq (sret (cst (.bl true))) snil))
def m_law : List PV → PH → R PV := fun args h => trimR .keep h.length (fin (fb_law (startE 14 args) h))
/-! ### the derivations -/
section
variable {P : Program} {w : World} {K : PySem.W.Frag} {mg : Str → Option Value} {base : Heap}
theorem ok__law_names {f : Addr} {fd : FuncData} (F : Fun K "_law_names" "_law_names" s__law_names f fd) (z_tuple : mg "tuple" = none) : FnOk P w K mg base (L2.CX P w) 1 f fd ["many"] (spJ ⟨K, [], mg⟩ 1 m__law_names) := by
  refine def_ok (k := 0) .keep m__law_names F sc__law_names (fb := fb__law_names) (fun cdv A outer s H E hr => ?_) fun args h _ => .inr rfl
  have hu := hr.units
  have tk : Takes (cxOf (L2.CX P w) P w K mg base ["many"] "_law_names" (defScope s__law_names) f cdv A outer s H E) (fun cls d _ H => E cls d H) := takes_of rfl rfl rfl rfl
  have po : PassesOwn (model P w) (cxOf (L2.CX P w) P w K mg base ["many"] "_law_names" (defScope s__law_names) f cdv A outer s H E).A (cxOf (L2.CX P w) P w K mg base ["many"] "_law_names" (defScope s__law_names) f cdv A outer s H E).env (cxOf (L2.CX P w) P w K mg base ["many"] "_law_names" (defScope s__law_names) f cdv A outer s H E).xe := passes_of rfl
  exact (jss_cons (js_ret (je_callTy cr_tupF cj_tuple z_tuple (ja_cons (je_slice rfl (je_lst (ja_cons je_str (ja_cons je_str (ja_cons je_str (ja_cons je_str (ja_cons je_str (ja_cons je_str ja_nil))))))) jo_none (jo_some (je_var 0))) ja_nil))) jss_nil)
theorem ok__law_places {f : Addr} {fd : FuncData} (F : Fun K "_law_places" "_law_places" s__law_places f fd) : FnOk P w K mg base (L2.CX P w) 1 f fd ["row", "names"] (spJ ⟨K, [], mg⟩ 2 m__law_places) := by
  refine def_ok (k := 0) .keep m__law_places F sc__law_places (fb := fb__law_places) (fun cdv A outer s H E hr => ?_) fun args h _ => .inr rfl
  have hu := hr.units
  have tk : Takes (cxOf (L2.CX P w) P w K mg base ["row", "names", "name"] "_law_places" (defScope s__law_places) f cdv A outer s H E) (fun cls d _ H => E cls d H) := takes_of rfl rfl rfl rfl
  have po : PassesOwn (model P w) (cxOf (L2.CX P w) P w K mg base ["row", "names", "name"] "_law_places" (defScope s__law_places) f cdv A outer s H E).A (cxOf (L2.CX P w) P w K mg base ["row", "names", "name"] "_law_places" (defScope s__law_places) f cdv A outer s H E).env (cxOf (L2.CX P w) P w K mg base ["row", "names", "name"] "_law_places" (defScope s__law_places) f cdv A outer s H E).xe := passes_of rfl
  exact (jss_cons (js_ret (je_lcG [("name", 2)] lcEnd_frozen sc__law_places.nd (ji_seq rfl (je_var 0)) (by kernel_rfl) (fun _ _ _ _ _ => (jg_name 2 sc__law_places.nd)) (fun _ _ _ _ _ => jts_nil) (fun _ _ _ _ _ => (je_met (T := .tuple) rfl PySem.F.plainAttrs_tuple PySem.F.slot_tuple_index PySem.F.type_tuple_index (mt_indexT hu) mj_indexT (je_var 1) (ja_cons (je_var 2) ja_nil))))) jss_nil)
theorem ok__law_roll {f : Addr} {fd : FuncData} (F : Fun K "_law_roll" "_law_roll" s__law_roll f fd) (z_int : mg "int" = none) : FnOk P w K mg base (L2.CX P w) 1 f fd ["dice", "many"] (spJ ⟨K, [], mg⟩ 2 m__law_roll) := by
  refine def_ok (k := 0) .keep m__law_roll F sc__law_roll (fb := fb__law_roll) (fun cdv A outer s H E hr => ?_) fun args h _ => .inr rfl
  have hu := hr.units
  have tk : Takes (cxOf (L2.CX P w) P w K mg base ["dice", "many", "found"] "_law_roll" (defScope s__law_roll) f cdv A outer s H E) (fun cls d _ H => E cls d H) := takes_of rfl rfl rfl rfl
  have po : PassesOwn (model P w) (cxOf (L2.CX P w) P w K mg base ["dice", "many", "found"] "_law_roll" (defScope s__law_roll) f cdv A outer s H E).A (cxOf (L2.CX P w) P w K mg base ["dice", "many", "found"] "_law_roll" (defScope s__law_roll) f cdv A outer s H E).env (cxOf (L2.CX P w) P w K mg base ["dice", "many", "found"] "_law_roll" (defScope s__law_roll) f cdv A outer s H E).xe := passes_of rfl
  exact (jss_cons (js_if (PW.pt (jw_or (jt_cmp (op_eqP hu) oj_eq (je_ix ix_seq oj_ix (je_var 0) je_int) je_int (nomark _)) (jw_or1 (PW.pt (jw_and (jt_cmp (op_eqP hu) oj_eq (je_ix ix_seq oj_ix (je_var 0) je_int) je_int (nomark _)) (jw_and1 (jt_cmp (op_gtJ hu) oj_gt (je_ix ix_seq oj_ix (je_var 0) je_int) je_int (nomark _)))))))) (jss_cons (js_set 2 sc__law_roll.nd (je_op op_mod oj_mod (je_callTy call_int1 cj_int z_int (ja_cons (je_ix ix_seq oj_ix (je_var 0) je_int) ja_nil)) (je_var 1)))
  (jss_cons (js_sub (je_op op_fdiv oj_fdiv (je_ix ix_seq oj_ix (je_var 0) je_int) (je_var 1)) (je_var 0) je_int set_list sj_list)
  (jss_cons (js_ret (je_var 2)) jss_nil))) jss_nil)
  (jss_cons (js_sub je_int (je_var 0) je_int set_list sj_list)
  (jss_cons (js_sub (je_op op_mod oj_mod (je_callTy call_int1 cj_int z_int (ja_cons (je_op op_addJ oj_add (je_op op_addJ oj_add (je_op op_mul oj_mul (je_ix ix_seq oj_ix (je_var 0) je_int) je_int) (je_op op_mul oj_mul (je_ix ix_seq oj_ix (je_var 0) je_int) je_int)) je_int) ja_nil)) je_int) (je_var 0) je_int set_list sj_list)
  (jss_cons (js_sub (je_op op_addJ oj_add (je_ix ix_seq oj_ix (je_var 0) je_int) je_int) (je_var 0) je_int set_list sj_list)
  (jss_cons (js_ret (je_op op_mod oj_mod (je_callTy call_int1 cj_int z_int (ja_cons (je_op op_addJ oj_add (je_op op_fdiv oj_fdiv (je_ix ix_seq oj_ix (je_var 0) je_int) je_int) (je_ix ix_seq oj_ix (je_var 0) je_int)) ja_nil)) (je_var 1))) jss_nil)))))
theorem ok__law_dice {f : Addr} {fd : FuncData} (F : Fun K "_law_dice" "_law_dice" s__law_dice f fd) (z_abs : mg "abs" = none) (z_int : mg "int" = none) : FnOk P w K mg base (L2.CX P w) 1 f fd ["cell"] (spJ ⟨K, [], mg⟩ 1 m__law_dice) := by
  refine def_ok (k := 0) .keep m__law_dice F sc__law_dice (fb := fb__law_dice) (fun cdv A outer s H E hr => ?_) fun args h _ => .inr rfl
  have hu := hr.units
  have tk : Takes (cxOf (L2.CX P w) P w K mg base ["cell"] "_law_dice" (defScope s__law_dice) f cdv A outer s H E) (fun cls d _ H => E cls d H) := takes_of rfl rfl rfl rfl
  have po : PassesOwn (model P w) (cxOf (L2.CX P w) P w K mg base ["cell"] "_law_dice" (defScope s__law_dice) f cdv A outer s H E).A (cxOf (L2.CX P w) P w K mg base ["cell"] "_law_dice" (defScope s__law_dice) f cdv A outer s H E).env (cxOf (L2.CX P w) P w K mg base ["cell"] "_law_dice" (defScope s__law_dice) f cdv A outer s H E).xe := passes_of rfl
  exact (jss_cons (js_if (jt_chain (op_ltJ hu) (op_ltJ hu) oj_lt oj_lt (je_op op_sub oj_sub je_int je_int) (je_var 0) je_int) (jss_cons (js_ret (je_lstM (ja_cons (je_callB call_abs cj_abs z_abs (ja_cons (je_var 0) ja_nil)) (ja_cons je_int (ja_cons je_int ja_nil))))) jss_nil) jss_nil)
  (jss_cons (js_ret (je_lstM (ja_cons (je_var 0) (ja_cons (je_op op_addJ oj_add je_int (je_op op_mod oj_mod (je_callTy call_int1 cj_int z_int (ja_cons (je_var 0) ja_nil)) je_int)) (ja_cons (je_callTy call_int1 cj_int z_int (ja_cons (je_cmp (op_geJ hu) oj_ge (je_var 0) (je_op op_pow oj_pow je_int je_int) (nomark _)) ja_nil)) ja_nil))))) jss_nil))
theorem ok__law_rounds {f : Addr} {fd : FuncData} (F : Fun K "_law_rounds" "_law_rounds" s__law_rounds f fd) (k__law_dice : Known P w K mg base ⟨K, [], mg⟩ "_law_dice" 1 1 m__law_dice) : FnOk P w K mg base (L2.CX P w) 2 f fd ["script", "most"] (spJ ⟨K, [], mg⟩ 2 m__law_rounds) := by
  refine def_ok (k := 1) .keep m__law_rounds F sc__law_rounds (fb := fb__law_rounds) (fun cdv A outer s H E hr => ?_) fun args h _ => .inr rfl
  have hu := hr.units
  have tk : Takes (cxOf (L2.CX P w) P w K mg base ["script", "most", "cells", "cell"] "_law_rounds" (defScope s__law_rounds) f cdv A outer s H E) (fun cls d _ H => E cls d H) := takes_of rfl rfl rfl rfl
  have po : PassesOwn (model P w) (cxOf (L2.CX P w) P w K mg base ["script", "most", "cells", "cell"] "_law_rounds" (defScope s__law_rounds) f cdv A outer s H E).A (cxOf (L2.CX P w) P w K mg base ["script", "most", "cells", "cell"] "_law_rounds" (defScope s__law_rounds) f cdv A outer s H E).env (cxOf (L2.CX P w) P w K mg base ["script", "most", "cells", "cell"] "_law_rounds" (defScope s__law_rounds) f cdv A outer s H E).xe := passes_of rfl
  exact (jss_cons (js_set 2 sc__law_rounds.nd (je_slice rfl (je_var 0) jo_none (jo_some (je_var 1))))
  (jss_cons (js_if (jt_cmp (op_eqP hu) oj_eq (je_var 2) (je_lst ja_nil) (nomark _)) (jss_cons (js_set 2 sc__law_rounds.nd (je_lst (ja_cons je_int ja_nil))) jss_nil) jss_nil)
  (jss_cons (js_ret (je_lcG [("cell", 3)] lcEnd_frozen sc__law_rounds.nd (ji_seq rfl (je_var 2)) (by kernel_rfl) (fun _ _ _ _ _ => (jg_name 3 sc__law_rounds.nd)) (fun _ _ _ _ _ => jts_nil) (fun _ _ _ _ _ => (je_call k__law_dice (hr.mono (by decide)) takes0 (ja_cons (je_var 3) ja_nil))))) jss_nil)))
theorem ok_orders_of {f : Addr} {fd : FuncData} (F : Fun K "orders_of" "orders_of" s_orders_of f fd) (z_len : mg "len" = none) (z_range : mg "range" = none) : FnOk P w K mg base (L2.CX P w) 1 f fd ["names"] (spJ ⟨K, [], mg⟩ 1 m_orders_of) := by
  refine def_ok (k := 0) .keep m_orders_of F sc_orders_of (fb := fb_orders_of) (fun cdv A outer s H E hr => ?_) fun args h _ => .inr rfl
  have hu := hr.units
  have tk : Takes (cxOf (L2.CX P w) P w K mg base ["names", "found", "turn", "order", "name"] "orders_of" (defScope s_orders_of) f cdv A outer s H E) (fun cls d _ H => E cls d H) := takes_of rfl rfl rfl rfl
  have po : PassesOwn (model P w) (cxOf (L2.CX P w) P w K mg base ["names", "found", "turn", "order", "name"] "orders_of" (defScope s_orders_of) f cdv A outer s H E).A (cxOf (L2.CX P w) P w K mg base ["names", "found", "turn", "order", "name"] "orders_of" (defScope s_orders_of) f cdv A outer s H E).env (cxOf (L2.CX P w) P w K mg base ["names", "found", "turn", "order", "name"] "orders_of" (defScope s_orders_of) f cdv A outer s H E).xe := passes_of rfl
  exact (jss_cons (js_set 1 sc_orders_of.nd (je_lst (ja_cons (je_tup ja_nil) ja_nil)))
  (jss_cons (js_for po (ji_range1 z_range (ja_cons (je_callB cr_lenJ cj_len z_len (ja_cons (je_var 0) ja_nil)) ja_nil)) (jg_name 2 sc_orders_of.nd) (jss_cons (js_setLc2G 1 [("order", 3), ("name", 4)] [4] lcEnd_frozen sc_orders_of.nd (ji_seq rfl (je_var 1)) (by kernel_rfl) (fun _ _ _ _ _ => (jg_name 3 sc_orders_of.nd)) (fun _ _ _ _ _ => jts_nil) (fun _ _ _ _ _ => (ji_seq rfl (je_var 0))) (fun _ _ _ _ _ => (jg_name 4 sc_orders_of.nd)) (fun _ _ _ _ _ => (jts_one (jt_cmp (op_ninP hu) oj_nin (je_var 4) (je_var 3) (rfl)))) (fun _ _ _ _ _ => (je_op op_addJ oj_add (je_var 3) (je_tup (ja_cons (je_var 4) ja_nil)))) (sw_true rfl rfl rfl (by kernel_rfl))) jss_nil))
  (jss_cons (js_ret (je_var 1)) jss_nil)))
theorem ok_subsets_of {f : Addr} {fd : FuncData} (F : Fun K "subsets_of" "subsets_of" s_subsets_of f fd) (z_enumerate : mg "enumerate" = none) (z_len : mg "len" = none) : FnOk P w K mg base (L2.CX P w) 1 f fd ["names", "size"] (spJ ⟨K, [], mg⟩ 2 m_subsets_of) := by
  refine def_ok (k := 0) .keep m_subsets_of F sc_subsets_of (fb := fb_subsets_of) (fun cdv A outer s H E hr => ?_) fun args h _ => .inr rfl
  have hu := hr.units
  have tk : Takes (cxOf (L2.CX P w) P w K mg base ["names", "size", "found", "k", "name", "left", "one", "more"] "subsets_of" (defScope s_subsets_of) f cdv A outer s H E) (fun cls d _ H => E cls d H) := takes_of rfl rfl rfl rfl
  have po : PassesOwn (model P w) (cxOf (L2.CX P w) P w K mg base ["names", "size", "found", "k", "name", "left", "one", "more"] "subsets_of" (defScope s_subsets_of) f cdv A outer s H E).A (cxOf (L2.CX P w) P w K mg base ["names", "size", "found", "k", "name", "left", "one", "more"] "subsets_of" (defScope s_subsets_of) f cdv A outer s H E).env (cxOf (L2.CX P w) P w K mg base ["names", "size", "found", "k", "name", "left", "one", "more"] "subsets_of" (defScope s_subsets_of) f cdv A outer s H E).xe := passes_of rfl
  exact (jss_cons (js_set 2 sc_subsets_of.nd (je_lst (ja_cons (je_tup ja_nil) ja_nil)))
  (jss_cons (js_for po (ji_enum rfl z_enumerate (ja_cons (je_var 0) ja_nil)) (jg_tup rfl (jgs_cons (jg_name 3 sc_subsets_of.nd) (jgs_cons (jg_name 4 sc_subsets_of.nd) jgs_nil))) (jss_cons (js_set 5 sc_subsets_of.nd (je_op op_sub oj_sub (je_callB cr_lenJ cj_len z_len (ja_cons (je_var 0) ja_nil)) (je_var 3)))
  (jss_cons (js_setLc2G 2 [("one", 6), ("more", 7)] [7] lcEnd_frozen sc_subsets_of.nd (ji_seq rfl (je_var 2)) (by kernel_rfl) (fun _ _ _ _ _ => (jg_name 6 sc_subsets_of.nd)) (fun _ _ _ _ _ => jts_nil) (fun _ _ _ _ _ => (ji_seq rfl (je_tup (ja_cons (je_tup (ja_cons (je_var 4) ja_nil)) (ja_cons (je_tup ja_nil) ja_nil))))) (fun _ _ _ _ _ => (jg_name 7 sc_subsets_of.nd)) (fun _ _ _ _ _ => (jts_one (jt_cmp (op_ltJ hu) oj_lt (je_op op_sub oj_sub (je_op op_sub oj_sub (je_var 1) (je_callB cr_lenJ cj_len z_len (ja_cons (je_var 6) ja_nil))) (je_callB cr_lenJ cj_len z_len (ja_cons (je_var 7) ja_nil))) (je_var 5) (nomark _)))) (fun _ _ _ _ _ => (je_op op_addJ oj_add (je_var 6) (je_var 7))) (sw_true rfl rfl rfl (by kernel_rfl)))
  (jss_cons (js_setLcG 2 [("one", 6)] lcEnd_frozen sc_subsets_of.nd (ji_seq rfl (je_var 2)) (by kernel_rfl) (fun _ _ _ _ _ => (jg_name 6 sc_subsets_of.nd)) (fun _ _ _ _ _ => (jts_one (jt_cmp (op_leJ hu) oj_le (je_callB cr_lenJ cj_len z_len (ja_cons (je_var 6) ja_nil)) (je_var 1) (nomark _)))) (fun _ _ _ _ _ => (je_var 6)) (sw_true rfl rfl rfl (by kernel_rfl))) jss_nil))))
  (jss_cons (js_ret (je_lcG [("one", 6)] lcEnd_frozen sc_subsets_of.nd (ji_seq rfl (je_var 2)) (by kernel_rfl) (fun _ _ _ _ _ => (jg_name 6 sc_subsets_of.nd)) (fun _ _ _ _ _ => (jts_one (jt_cmp (op_eqP hu) oj_eq (je_callB cr_lenJ cj_len z_len (ja_cons (je_var 6) ja_nil)) (je_var 1) (nomark _)))) (fun _ _ _ _ _ => (je_var 6)))) jss_nil)))
theorem ok_law {f : Addr} {fd : FuncData} (F : Fun K "law" "law" s_law f fd) (z_len : mg "len" = none) (z_list : mg "list" = none) (z_range : mg "range" = none) (z_sorted : mg "sorted" = none) (k__law_names : Known P w K mg base ⟨K, [], mg⟩ "_law_names" 1 1 m__law_names) (k__law_places : Known P w K mg base ⟨K, [], mg⟩ "_law_places" 1 2 m__law_places) (k__law_roll : Known P w K mg base ⟨K, [], mg⟩ "_law_roll" 1 2 m__law_roll) (k__law_rounds : Known P w K mg base ⟨K, [], mg⟩ "_law_rounds" 2 2 m__law_rounds) (k_orders_of : Known P w K mg base ⟨K, [], mg⟩ "orders_of" 1 1 m_orders_of) (k_subsets_of : Known P w K mg base ⟨K, [], mg⟩ "subsets_of" 1 2 m_subsets_of) : FnOk P w K mg base (L2.CX P w) 3 f fd ["script"] (spJ ⟨K, [], mg⟩ 1 m_law) := by
  refine def_ok (k := 2) .keep m_law F sc_law (fb := fb_law) (fun cdv A outer s H E hr => ?_) fun args h _ => .inr rfl
  have hu := hr.units
  have tk : Takes (cxOf (L2.CX P w) P w K mg base ["script", "dice", "names", "many", "orders", "count", "order", "keys", "key", "k", "size", "sets", "row", "due"] "law" (defScope s_law) f cdv A outer s H E) (fun cls d _ H => E cls d H) := takes_of rfl rfl rfl rfl
  have po : PassesOwn (model P w) (cxOf (L2.CX P w) P w K mg base ["script", "dice", "names", "many", "orders", "count", "order", "keys", "key", "k", "size", "sets", "row", "due"] "law" (defScope s_law) f cdv A outer s H E).A (cxOf (L2.CX P w) P w K mg base ["script", "dice", "names", "many", "orders", "count", "order", "keys", "key", "k", "size", "sets", "row", "due"] "law" (defScope s_law) f cdv A outer s H E).env (cxOf (L2.CX P w) P w K mg base ["script", "dice", "names", "many", "orders", "count", "order", "keys", "key", "k", "size", "sets", "row", "due"] "law" (defScope s_law) f cdv A outer s H E).xe := passes_of rfl
  exact (jss_cons (js_for po (ji_seq rfl (je_call k__law_rounds (hr.mono (by decide)) tk (ja_cons (je_var 0) (ja_cons je_int ja_nil)))) (jg_name 1 sc_law.nd) (jss_foc 1 [] (show JSs _ _ _ _ fb_body from (jss_cons (js_set 2 sc_law.nd (je_call k__law_names (hr.mono (by decide)) tk (ja_cons (je_call k__law_roll (hr.mono (by decide)) tk (ja_cons (je_var 1) (ja_cons je_int ja_nil))) ja_nil)))
  (jss_cons (js_set 3 sc_law.nd (je_callB cr_lenJ cj_len z_len (ja_cons (je_var 2) ja_nil)))
  (jss_cons (js_set 4 sc_law.nd (je_call k_orders_of (hr.mono (by decide)) tk (ja_cons (je_var 2) ja_nil)))
  (jss_cons (js_set 5 sc_law.nd (je_ix ix_seq oj_ix (je_lst (ja_cons je_int (ja_cons je_int (ja_cons je_int (ja_cons je_int (ja_cons je_int ja_nil)))))) (je_var 3)))
  (jss_cons (js_set 7 sc_law.nd (je_lcG [("order", 6)] lcEnd_frozen sc_law.nd (ji_seq rfl (je_var 4)) (by kernel_rfl) (fun _ _ _ _ _ => (jg_name 6 sc_law.nd)) (fun _ _ _ _ _ => jts_nil) (fun _ _ _ _ _ => (je_call k__law_places (hr.mono (by decide)) takes0 (ja_cons (je_var 6) (ja_cons (je_var 2) ja_nil))))))
  (jss_cons (js_if (PW.pt (jw_or (jt_cmp (op_neP hu) oj_ne (je_callB cr_lenJ cj_len z_len (ja_cons (je_var 4) ja_nil)) (je_var 5) (nomark _)) (jw_or1 (jt_cmp (op_neP hu) oj_ne (je_lcG [("key", 8)] lcEnd_frozen sc_law.nd (ji_seq rfl (je_var 7)) (by kernel_rfl) (fun _ _ _ _ _ => (jg_name 8 sc_law.nd)) (fun _ _ _ _ _ => (jts_one (jt_cmp (op_neP hu) oj_ne (je_callB cr_sortedI cj_sorted z_sorted (ja_cons (je_var 8) ja_nil)) (je_listRg1 z_list z_range (je_var 3)) (nomark _)))) (fun _ _ _ _ _ => (je_var 8))) (je_lst ja_nil) (nomark _))))) (jss_cons (js_ret je_bl) jss_nil) jss_nil)
  (jss_cons (js_if (jt_cmp (op_neP hu) oj_ne (je_lcG [("k", 9)] lcEnd_frozen sc_law.nd (ji_range2 z_range (ja_cons je_int (ja_cons (je_callB cr_lenJ cj_len z_len (ja_cons (je_var 7) ja_nil)) ja_nil))) (by kernel_rfl) (fun _ _ _ _ _ => (jg_name 9 sc_law.nd)) (fun _ _ _ _ _ => (jts_one (jt_cmp (op_geJ hu) oj_ge (je_ix ix_seq oj_ix (je_var 7) (je_op op_sub oj_sub (je_var 9) je_int)) (je_ix ix_seq oj_ix (je_var 7) (je_var 9)) (nomark _)))) (fun _ _ _ _ _ => (je_var 9))) (je_lst ja_nil) (nomark _)) (jss_cons (js_ret je_bl) jss_nil) jss_nil)
  (jss_cons (js_for po (ji_range1 z_range (ja_cons (je_op op_addJ oj_add (je_var 3) je_int) ja_nil)) (jg_name 10 sc_law.nd) (jss_cons (js_set 11 sc_law.nd (je_call k_subsets_of (hr.mono (by decide)) tk (ja_cons (je_var 2) (ja_cons (je_var 10) ja_nil))))
  (jss_cons (js_set 7 sc_law.nd (je_lcG [("row", 12)] lcEnd_frozen sc_law.nd (ji_seq rfl (je_var 11)) (by kernel_rfl) (fun _ _ _ _ _ => (jg_name 12 sc_law.nd)) (fun _ _ _ _ _ => jts_nil) (fun _ _ _ _ _ => (je_call k__law_places (hr.mono (by decide)) takes0 (ja_cons (je_var 12) (ja_cons (je_var 2) ja_nil))))))
  (jss_cons (js_set 13 sc_law.nd (je_ix ix_seq oj_ix (je_lst (ja_cons (je_lst (ja_cons je_int ja_nil)) (ja_cons (je_lst (ja_cons je_int (ja_cons je_int ja_nil))) (ja_cons (je_lst (ja_cons je_int (ja_cons je_int (ja_cons je_int ja_nil)))) (ja_cons (je_lst (ja_cons je_int (ja_cons je_int (ja_cons je_int (ja_cons je_int ja_nil))))) (ja_cons (je_lst (ja_cons je_int (ja_cons je_int (ja_cons je_int (ja_cons je_int (ja_cons je_int ja_nil)))))) ja_nil)))))) (je_var 3)))
  (jss_cons (js_if (PW.pt (jw_or (jt_cmp (op_neP hu) oj_ne (je_callB cr_lenJ cj_len z_len (ja_cons (je_var 11) ja_nil)) (je_ix ix_seq oj_ix (je_op op_addJ oj_add (je_var 13) (je_lst (ja_cons je_int ja_nil))) (je_var 10)) (nomark _)) (jw_or1 (jt_cmp (op_neP hu) oj_ne (je_lcG [("key", 8)] lcEnd_frozen sc_law.nd (ji_seq rfl (je_var 7)) (by kernel_rfl) (fun _ _ _ _ _ => (jg_name 8 sc_law.nd)) (fun _ _ _ _ _ => (jts_one (jt_cmp (op_neP hu) oj_ne (je_var 8) (je_callB cr_sortedI cj_sorted z_sorted (ja_cons (je_var 8) ja_nil)) (nomark _)))) (fun _ _ _ _ _ => (je_var 8))) (je_lst ja_nil) (nomark _))))) (jss_cons (js_ret je_bl) jss_nil) jss_nil)
  (jss_cons (js_if (jt_cmp (op_neP hu) oj_ne (je_lcG [("k", 9)] lcEnd_frozen sc_law.nd (ji_range2 z_range (ja_cons je_int (ja_cons (je_callB cr_lenJ cj_len z_len (ja_cons (je_var 7) ja_nil)) ja_nil))) (by kernel_rfl) (fun _ _ _ _ _ => (jg_name 9 sc_law.nd)) (fun _ _ _ _ _ => (jts_one (jt_cmp (op_geJ hu) oj_ge (je_ix ix_seq oj_ix (je_var 7) (je_op op_sub oj_sub (je_var 9) je_int)) (je_ix ix_seq oj_ix (je_var 7) (je_var 9)) (nomark _)))) (fun _ _ _ _ _ => (je_var 9))) (je_lst ja_nil) (nomark _)) (jss_cons (js_ret je_bl) jss_nil) jss_nil)
  (jss_cons (js_if (jt_cmp (op_neP hu) oj_ne (je_lcG [("key", 8)] lcEnd_frozen sc_law.nd (ji_seq rfl (je_var 7)) (by kernel_rfl) (fun _ _ _ _ _ => (jg_name 8 sc_law.nd)) (fun _ _ _ _ _ => (jts_one (PW.pt (jw_or (jt_cmp (op_neP hu) oj_ne (je_callB cr_lenJ cj_len z_len (ja_cons (je_var 8) ja_nil)) (je_var 10) (nomark _)) (jw_or1 (jt_cmp (op_neP hu) oj_ne (je_lcG [("k", 9)] lcEnd_frozen sc_law.nd (ji_range2 z_range (ja_cons je_int (ja_cons (je_var 10) ja_nil))) (by kernel_rfl) (fun _ _ _ _ _ => (jg_name 9 sc_law.nd)) (fun _ _ _ _ _ => (jts_one (jt_cmp (op_eqP hu) oj_eq (je_ix ix_seq oj_ix (je_var 8) (je_op op_sub oj_sub (je_var 9) je_int)) (je_ix ix_seq oj_ix (je_var 8) (je_var 9)) (nomark _)))) (fun _ _ _ _ _ => (je_var 9))) (je_lst ja_nil) (nomark _))))))) (fun _ _ _ _ _ => (je_var 8))) (je_lst ja_nil) (nomark _)) (jss_cons (js_ret je_bl) jss_nil) jss_nil) jss_nil))))))) jss_nil)))))))))))
  (jss_cons (js_ret je_bl) jss_nil))
end
/-! ### what the top has written -/
theorem all_mk {l : PySem.W.OpenLaw} {w : World} {K : PySem.W.Frag} {h : Heap} {mg : Str → Option Value} {fa : Addr} {f0 : Addr} {od0 an0 : Option Addr} {sl0 : Array (Option Value)} {oc0 kV0 dc0 pm0 cd0 ct0 : Value} {f1 : Addr} {od1 an1 : Option Addr} {sl1 : Array (Option Value)} {oc1 kV1 dc1 pm1 cd1 ct1 : Value} {f2 : Addr} {od2 an2 : Option Addr} {sl2 : Array (Option Value)} {oc2 kV2 dc2 pm2 cd2 ct2 : Value} {f3 : Addr} {od3 an3 : Option Addr} {sl3 : Array (Option Value)} {oc3 kV3 dc3 pm3 cd3 ct3 : Value} {f4 : Addr} {od4 an4 : Option Addr} {sl4 : Array (Option Value)} {oc4 kV4 dc4 pm4 cd4 ct4 : Value} {f5 : Addr} {od5 an5 : Option Addr} {sl5 : Array (Option Value)} {oc5 kV5 dc5 pm5 cd5 ct5 : Value} {f6 : Addr} {od6 an6 : Option Addr} {sl6 : Array (Option Value)} {oc6 kV6 dc6 pm6 cd6 ct6 : Value} {f7 : Addr} {od7 an7 : Option Addr} {sl7 : Array (Option Value)} {oc7 kV7 dc7 pm7 cd7 ct7 : Value} (hX : K.In h) (hG : h.Ns mainGlobals mg) (hfa : mg "law" = some (.ref fa)) (hm : LawTrue m_law)
    (a0 : PySem.W.nsIn K mainGlobals "_law_names" = some (some (.ref f0))) (l0 : K.lookup f0 = some ⟨oc0, od0, .func (PySem.W.fnOf "_law_names" "_law_names" (defArgs s__law_names) (defBody s__law_names) (defScope s__law_names) .none kV0 dc0 pm0 an0 cd0 ct0), sl0⟩) (c0 : PySem.W.codeIn K cd0 "_law_names" = true) (k0 : PySem.W.keepIn K (.ref f0) = true)
    (a1 : PySem.W.nsIn K mainGlobals "_law_places" = some (some (.ref f1))) (l1 : K.lookup f1 = some ⟨oc1, od1, .func (PySem.W.fnOf "_law_places" "_law_places" (defArgs s__law_places) (defBody s__law_places) (defScope s__law_places) .none kV1 dc1 pm1 an1 cd1 ct1), sl1⟩) (c1 : PySem.W.codeIn K cd1 "_law_places" = true) (k1 : PySem.W.keepIn K (.ref f1) = true)
    (a2 : PySem.W.nsIn K mainGlobals "_law_roll" = some (some (.ref f2))) (l2 : K.lookup f2 = some ⟨oc2, od2, .func (PySem.W.fnOf "_law_roll" "_law_roll" (defArgs s__law_roll) (defBody s__law_roll) (defScope s__law_roll) .none kV2 dc2 pm2 an2 cd2 ct2), sl2⟩) (c2 : PySem.W.codeIn K cd2 "_law_roll" = true) (k2 : PySem.W.keepIn K (.ref f2) = true)
    (a3 : PySem.W.nsIn K mainGlobals "_law_dice" = some (some (.ref f3))) (l3 : K.lookup f3 = some ⟨oc3, od3, .func (PySem.W.fnOf "_law_dice" "_law_dice" (defArgs s__law_dice) (defBody s__law_dice) (defScope s__law_dice) .none kV3 dc3 pm3 an3 cd3 ct3), sl3⟩) (c3 : PySem.W.codeIn K cd3 "_law_dice" = true) (k3 : PySem.W.keepIn K (.ref f3) = true)
    (a4 : PySem.W.nsIn K mainGlobals "_law_rounds" = some (some (.ref f4))) (l4 : K.lookup f4 = some ⟨oc4, od4, .func (PySem.W.fnOf "_law_rounds" "_law_rounds" (defArgs s__law_rounds) (defBody s__law_rounds) (defScope s__law_rounds) .none kV4 dc4 pm4 an4 cd4 ct4), sl4⟩) (c4 : PySem.W.codeIn K cd4 "_law_rounds" = true) (k4 : PySem.W.keepIn K (.ref f4) = true)
    (a5 : PySem.W.nsIn K mainGlobals "orders_of" = some (some (.ref f5))) (l5 : K.lookup f5 = some ⟨oc5, od5, .func (PySem.W.fnOf "orders_of" "orders_of" (defArgs s_orders_of) (defBody s_orders_of) (defScope s_orders_of) .none kV5 dc5 pm5 an5 cd5 ct5), sl5⟩) (c5 : PySem.W.codeIn K cd5 "orders_of" = true) (k5 : PySem.W.keepIn K (.ref f5) = true)
    (a6 : PySem.W.nsIn K mainGlobals "subsets_of" = some (some (.ref f6))) (l6 : K.lookup f6 = some ⟨oc6, od6, .func (PySem.W.fnOf "subsets_of" "subsets_of" (defArgs s_subsets_of) (defBody s_subsets_of) (defScope s_subsets_of) .none kV6 dc6 pm6 an6 cd6 ct6), sl6⟩) (c6 : PySem.W.codeIn K cd6 "subsets_of" = true) (k6 : PySem.W.keepIn K (.ref f6) = true)
    (a7 : PySem.W.nsIn K mainGlobals "law" = some (some (.ref f7))) (l7 : K.lookup f7 = some ⟨oc7, od7, .func (PySem.W.fnOf "law" "law" (defArgs s_law) (defBody s_law) (defScope s_law) .none kV7 dc7 pm7 an7 cd7 ct7), sl7⟩) (c7 : PySem.W.codeIn K cd7 "law" = true) (k7 : PySem.W.keepIn K (.ref f7) = true)
    (z_abs : PySem.W.nsIn K mainGlobals "abs" = some none)
    (z_enumerate : PySem.W.nsIn K mainGlobals "enumerate" = some none)
    (z_int : PySem.W.nsIn K mainGlobals "int" = some none)
    (z_len : PySem.W.nsIn K mainGlobals "len" = some none)
    (z_list : PySem.W.nsIn K mainGlobals "list" = some none)
    (z_range : PySem.W.nsIn K mainGlobals "range" = some none)
    (z_sorted : PySem.W.nsIn K mainGlobals "sorted" = some none)
    (z_tuple : PySem.W.nsIn K mainGlobals "tuple" = some none) :
    ∃ fd : FuncData, (∀ (s : Shared) (v : Value), BindsTo s fd ⟨[v], []⟩ [("script", v)]) ∧ ∀ base : Heap, K.In base → base.Ns mainGlobals mg → FnOk l.prog w K mg base (L2.CX l.prog w) 3 fa fd ["script"] (spEnd K []) := by
  have e := hfa.symm.trans (PySem.W.mg_of hX hG a7)
  cases e
  have F0 := fun_mk (st := s__law_names) l0 c0 k0
  have F1 := fun_mk (st := s__law_places) l1 c1 k1
  have F2 := fun_mk (st := s__law_roll) l2 c2 k2
  have F3 := fun_mk (st := s__law_dice) l3 c3 k3
  have F4 := fun_mk (st := s__law_rounds) l4 c4 k4
  have F5 := fun_mk (st := s_orders_of) l5 c5 k5
  have F6 := fun_mk (st := s_subsets_of) l6 c6 k6
  have F7 := fun_mk (st := s_law) l7 c7 k7
  have y_abs := PySem.W.mg_none_of hX hG z_abs
  have y_enumerate := PySem.W.mg_none_of hX hG z_enumerate
  have y_int := PySem.W.mg_none_of hX hG z_int
  have y_len := PySem.W.mg_none_of hX hG z_len
  have y_list := PySem.W.mg_none_of hX hG z_list
  have y_range := PySem.W.mg_none_of hX hG z_range
  have y_sorted := PySem.W.mg_none_of hX hG z_sorted
  have y_tuple := PySem.W.mg_none_of hX hG z_tuple
  refine ⟨PySem.W.fnOf "law" "law" (defArgs s_law) (defBody s_law) (defScope s_law) .none kV7 dc7 pm7 an7 cd7 ct7, fun s v => .of_eq rfl, fun base _ _ => ?_⟩
  have q__law_names : Known l.prog w K mg base ⟨K, [], mg⟩ "_law_names" 1 1 m__law_names := known_mk (ok__law_names F0 y_tuple) (PySem.W.mg_of hX hG a0) F0.kp (F0.binds (ps := ["many"]) fun _ _ _ _ _ _ us hl => match us, hl with | [_], _ => rfl) rfl
  have q__law_places : Known l.prog w K mg base ⟨K, [], mg⟩ "_law_places" 1 2 m__law_places := known_mk (ok__law_places F1) (PySem.W.mg_of hX hG a1) F1.kp (F1.binds (ps := ["row", "names"]) fun _ _ _ _ _ _ us hl => match us, hl with | [_, _], _ => rfl) rfl
  have q__law_roll : Known l.prog w K mg base ⟨K, [], mg⟩ "_law_roll" 1 2 m__law_roll := known_mk (ok__law_roll F2 y_int) (PySem.W.mg_of hX hG a2) F2.kp (F2.binds (ps := ["dice", "many"]) fun _ _ _ _ _ _ us hl => match us, hl with | [_, _], _ => rfl) rfl
  have q__law_dice : Known l.prog w K mg base ⟨K, [], mg⟩ "_law_dice" 1 1 m__law_dice := known_mk (ok__law_dice F3 y_abs y_int) (PySem.W.mg_of hX hG a3) F3.kp (F3.binds (ps := ["cell"]) fun _ _ _ _ _ _ us hl => match us, hl with | [_], _ => rfl) rfl
  have q__law_rounds : Known l.prog w K mg base ⟨K, [], mg⟩ "_law_rounds" 2 2 m__law_rounds := known_mk (ok__law_rounds F4 q__law_dice) (PySem.W.mg_of hX hG a4) F4.kp (F4.binds (ps := ["script", "most"]) fun _ _ _ _ _ _ us hl => match us, hl with | [_, _], _ => rfl) rfl
  have q_orders_of : Known l.prog w K mg base ⟨K, [], mg⟩ "orders_of" 1 1 m_orders_of := known_mk (ok_orders_of F5 y_len y_range) (PySem.W.mg_of hX hG a5) F5.kp (F5.binds (ps := ["names"]) fun _ _ _ _ _ _ us hl => match us, hl with | [_], _ => rfl) rfl
  have q_subsets_of : Known l.prog w K mg base ⟨K, [], mg⟩ "subsets_of" 1 2 m_subsets_of := known_mk (ok_subsets_of F6 y_enumerate y_len) (PySem.W.mg_of hX hG a6) F6.kp (F6.binds (ps := ["names", "size"]) fun _ _ _ _ _ _ us hl => match us, hl with | [_, _], _ => rfl) rfl
  exact (ok_law F7 y_len y_list y_range y_sorted q__law_names q__law_places q__law_roll q__law_rounds q_orders_of q_subsets_of).imp (end_sp hm)
end K02

namespace K02
open PySem PySem.Spec PyProof.Rows L2 J
theorem body_ok : BodyOk 12 fb_body := by
  refine bodyOk_of fun a b c => ?_
  obtain ⟨r, a', b', c', h1, h2, e⟩ := roll a b c 5 [] (by decide) (by decide)
  obtain ⟨k, rfl, hk⟩ := natOf h1 h2
  unfold fb_body
  simp only [List.replicate, seq_ev, sset_ev, calld_ev, acons_ev, vr_succ, vr_zero, R.bind_ok, cst_ev, anil_ev, List.length_cons, List.length_nil, Nat.zero_add, Nat.reduceAdd, if_true, e, names_ok, R.toS_ok, List.set_cons_succ, List.set_cons_zero]
  have hk : k = 0 ∨ k = 1 ∨ k = 2 ∨ k = 3 ∨ k = 4 := by
    have : k < 5 := hk
    omega
  clear h1 h2 e
  rcases hk with rfl | rfl | rfl | rfl | rfl
  all_goals kernel_rfl
theorem law_true : LawTrue m_law := law_of (N := 12) (by decide) body_ok (fun ρ h => ⟨h, rfl⟩)
end K02

open PySem PySem.W PyProof.Rows
set_option maxHeartbeats 0 in
theorem PySem.Challenge.cw_choicehall_k02_all_orders_and_sets_holds : PySem.Challenge.rw_choicehall_k02_all_orders_and_sets.Holds := by
  w_on; o_law; k_head; (case hw => w_witness2)
  k_fill
  refine L2.walk_ofB (l := PySem.Challenge.rw_choicehall_k02_all_orders_and_sets) (n := 63) (k := 3) (x := "script") (CX := fun w => L2.CX (PySem.Challenge.rw_choicehall_k02_all_orders_and_sets).prog w) (sp := fun w => J.spEnd _ []) rfl (by decide) rfl ⟨rfl, by decide, by decide⟩ (fun w h Y => PySem.W.kIn_of Y) ?F (fun _ _ a ns hl hb _ hS => ⟨a, ns, rfl, hS, hl, hb, fun _ z => absurd z (by simp), fun _ => rfl⟩) (fun _ _ _ _ _ h => J.cx_never h)
  case F =>
    intro w mg fa h KX G hmg
    refine' K02.all_mk KX G hmg K02.law_true ?a0 ?l0 ?c0 ?k0 ?a1 ?l1 ?c1 ?k1 ?a2 ?l2 ?c2 ?k2 ?a3 ?l3 ?c3 ?k3 ?a4 ?l4 ?c4 ?k4 ?a5 ?l5 ?c5 ?k5 ?a6 ?l6 ?c6 ?k6 ?a7 ?l7 ?c7 ?k7 ?z_abs ?z_enumerate ?z_int ?z_len ?z_list ?z_range ?z_sorted ?z_tuple
    (case a0 => k_is); (case l0 => k_is); (case c0 => k_is); (case k0 => k_is); (case a1 => k_is); (case l1 => k_is); (case c1 => k_is); (case k1 => k_is); (case a2 => k_is); (case l2 => k_is); (case c2 => k_is); (case k2 => k_is); (case a3 => k_is); (case l3 => k_is); (case c3 => k_is); (case k3 => k_is); (case a4 => k_is); (case l4 => k_is); (case c4 => k_is); (case k4 => k_is); (case a5 => k_is); (case l5 => k_is); (case c5 => k_is); (case k5 => k_is); (case a6 => k_is); (case l6 => k_is); (case c6 => k_is); (case k6 => k_is); (case a7 => k_is); (case l7 => k_is); (case c7 => k_is); (case k7 => k_is); (case z_abs => k_is); (case z_enumerate => k_is); (case z_int => k_is); (case z_len => k_is); (case z_list => k_is); (case z_range => k_is); (case z_sorted => k_is); (case z_tuple => k_is)
