import PyProof.Rows.All
import Wide.All
import OpenK.AllK
import Wide.FinOn
import HandS.ForMost
import HandS.Deep
import HandS.Exc
import HandS.CallSlots
import HandS.WordsExc
import KE.KNest
import HandS.Lambda
import HandS.TupAny
import HandS.Strs
import HandS.SortInts
import HandS.Wide
import HandS.Conv
import KE.DataEq
import KE.DataCmp
import KE.DataFind
import HandS.Walk
import KE.GoesMore
import KE.GoesEnum
import HandS.Comp
import HandS.EndBits
import HandS.AnyAll
import HandS.GenOver
import HandS.Iter
import KE.KLam
import HandS.IsInst
import KE.KStateDown
import HandS.Head0
import HandS.Head1
import HandS.Head2
import HandS.HeadEnd
import HandS.HeadHook1
import HandS.HeadHook2
import HandS.HeadHook3
import HandS.HeadHook4
import HandS.HeadWalk
import HandS.EndTab
import HandS.TryOnly
import HandS.ExcOwn
import PyProof.ExcBaseAll.ValueError
import HandS.TupLe
import HandS.Dict
import HandS.TupLen
import HandS.DictComp
import HandS.List
import HandS.Zip
import HandS.Rev
import KE.SortData
import KE.SortCalls
import HandS.SortKw
import PyProof.TupleOfSeq
import KE.KDictZip
import KE.SortKeyHeap
import KE.KSortKey
import KE.DataMinKey
import PySem.Challenge.RW_choicehall_k05_names_raised_and_renamed
set_option Elab.async false
set_option linter.all false
set_option maxRecDepth 100000
/-! J: pure values, a pure heap, and what the model's values have to do with them. -/
namespace J
open PySem PySem.Spec PyProof.Rows L2

/-- an equation that simp is not to take for a mere unfolding -/
theorem nrfl {α : Sort u} {a b : α} (h : a = b) : a = b := h
inductive PV where
  | non
  | bl (b : Bool)
  | int (i : Int)
  | str (x : Str)
  | tup (xs : List PV)
  | kt (xs : List PV)
  | lst (xs : List PV)
  | dic (t : Bool) (ks vs : List PV)
  | loc (n : Nat)

inductive PO where
  | lst (xs : List PV)
  | dic (t : Bool) (ks vs : List PV)
  | dead
  | ins (c : Str) (fs : List (Str × PV))

abbrev PH := List PO
abbrev En := List (Option PV)

structure Ex where
  cls : Str
  arg : Option PV

inductive R (α : Type) where
  | ok (a : α) (h : PH)
  | exc (e : Ex) (h : PH)
  | bad

def R.bind {α β : Type} : R α → (α → PH → R β) → R β
  | .ok a h, k => k a h
  | .exc e h, _ => .exc e h
  | .bad, _ => .bad
@[simp] theorem R.bind_ok {α β : Type} (a : α) (h : PH) (k : α → PH → R β) : (R.ok a h).bind k = k a h := nrfl rfl
@[simp] theorem R.bind_exc {α β : Type} (e : Ex) (h : PH) (k : α → PH → R β) : (R.exc e h : R α).bind k = .exc e h := nrfl rfl
@[simp] theorem R.bind_bad {α β : Type} (k : α → PH → R β) : (R.bad : R α).bind k = .bad := nrfl rfl
def R.of {α : Type} (h : PH) : Option α → R α
  | some a => .ok a h
  | none => .bad
@[simp] theorem R.of_some {α : Type} (h : PH) (a : α) : R.of h (some a) = .ok a h := nrfl rfl
@[simp] theorem R.of_none {α : Type} (h : PH) : R.of h (none : Option α) = .bad := nrfl rfl

abbrev SE := En → PH → R PV
abbrev SB := En → PH → R Bool
abbrev SA := En → PH → R (List PV)

/-- the global part: the written objects, the tables of code objects, the module's names -/
structure Gc where
  K : PySem.W.Frag
  T : List Addr
  mg : Str → Option Value
  nm : Nat → Nat → Str

/-- a code object of the name q, its table at P -/
def CodeN (c P : Addr) (q : Str) : HO := .ext fun h => PySem.W.CodeHd h c P ∧ h.CodeRec (.ref c) q
/-- the table at P: what it tells are code objects by their places, their tables are such, too -/
def TabD (nm : Nat → Nat → Str) (H : Hp) : Nat → Addr → Prop
  | 0, P => ∃ ps : Array Value, H P = some (.tbl ps) ∧ TriplesOk ps.toList
  | n + 1, P => ∃ ps : Array Value, H P = some (.tbl ps) ∧ TriplesOk ps.toList ∧ ∀ (pos : Pos) (cv : Value), codeAmong pos ps.toList = some cv → ∃ c P1, cv = .ref c ∧ H c = some (CodeN c P1 (nm pos.line pos.col)) ∧ TabD nm H n P1
/-- objects that no program writes -/
def Fix : HO → Prop
  | .tbl _ => True
  | .ext _ => True
  | _ => False
theorem TabD.keep {nm : Nat → Nat → Str} {H H' : Hp} (k : ∀ b o, H b = some o → Fix o → H' b = some o) : ∀ {n : Nat} {P : Addr}, TabD nm H n P → TabD nm H' n P
  | 0, P, h => by
    obtain ⟨ps, e, t⟩ := h
    exact ⟨ps, k _ _ e trivial, t⟩
  | n + 1, P, h => by
    obtain ⟨ps, e, t, r⟩ := h
    refine ⟨ps, k _ _ e trivial, t, fun pos cv hc => ?_⟩
    obtain ⟨c, P1, e1, e2, e3⟩ := r pos cv hc
    exact ⟨c, P1, e1, k _ _ e2 trivial, TabD.keep k e3⟩
theorem TabD.at {nm : Nat → Nat → Str} {H : Hp} : ∀ {n : Nat} {P : Addr}, TabD nm H n P → ∃ ps : Array Value, H P = some (.tbl ps) ∧ TriplesOk ps.toList
  | 0, _, h => h
  | _ + 1, _, ⟨ps, e, t, _⟩ => ⟨ps, e, t⟩
theorem TabD.nil {nm : Nat → Nat → Str} {H : Hp} {P : Addr} (h : H P = some (.tbl #[])) : ∀ n, TabD nm H n P
  | 0 => ⟨#[], h, True.intro⟩
  | _ + 1 => ⟨#[], h, True.intro, fun pos cv hc => by
    have z : codeAmong pos [] = some cv := hc
    simp [codeAmong] at z⟩

def keyOf : PV → Option Key
  | .int i => some (.inl i)
  | .str x => some (.inr x)
  | _ => none
def keysOf : List PV → Option (List Key)
  | [] => some []
  | x :: xs => match keyOf x, keysOf xs with
    | some k, some ks => some (k :: ks)
    | _, _ => none
def tkeyOf : PV → Option (List Key)
  | .kt xs => keysOf xs
  | _ => none

/-- what stands for a dict: t, its keys are tuples -/
def DO (t : Bool) (ks : List PV) (us : List V) (u : HO) : Prop := match t with
  | false => ∃ kvs : List (Key × V), u = .dK kvs ∧ kvs.length ≤ sizeLine ∧ (kvs.map (·.1)).Nodup ∧ ks.map keyOf = kvs.map (fun p => some p.1) ∧ us = kvs.map (·.2)
  | true => ∃ kvs : List (List Key × V), u = .dT kvs ∧ kvs.length ≤ sizeLine ∧ (kvs.map (·.1)).Nodup ∧ ks.map tkeyOf = kvs.map (fun p => some p.1) ∧ us = kvs.map (·.2) ∧ ∀ p ∈ kvs, p.1.length ≤ sizeLine

/-- the addresses of the mutable objects by their numbers; objects that nobody reads now -/
structure Gh where
  L : List Addr
  Z : List Addr
  D : List Addr
instance : Membership Addr Gh := ⟨fun M a => (a ∈ M.L ∧ a ∉ M.D) ∨ a ∈ M.Z⟩
theorem Gh.mem_iff {M : Gh} {a : Addr} : a ∈ M ↔ (a ∈ M.L ∧ a ∉ M.D) ∨ a ∈ M.Z := Iff.rfl
def Gh.add (M : Gh) (a : Addr) : Gh := ⟨M.L ++ [a], M.Z, M.D⟩
def Gh.hide (M : Gh) (a : Addr) : Gh := ⟨M.L, a :: M.Z, M.D⟩
/-- the mutable object at a is a value from now on -/
def Gh.kill (M : Gh) (a : Addr) : Gh := ⟨M.L, M.Z, a :: M.D⟩
theorem Gh.frozen {M : Gh} {a : Addr} (n : a ∉ M) (h : a ∈ M.L) : a ∈ M.D := Decidable.byContradiction fun q => n (.inl ⟨h, q⟩)
/-- a tuple, a list to be read: tracked and none of the mutable ones, or written -/
def SqT1 (K : PySem.W.Frag) (M : Gh) (H : Hp) (a : Addr) (xs : List V) : Prop :=
  (a ∉ M ∧ ∃ o : Obj, o.dict = none ∧ H a = some (.frz o (.tup xs))) ∨
    ∃ (o : Obj) (its : Array Value) (n : Nat), K.lookup a = some o ∧ o.cls = .type "tuple" ∧ o.dict = none ∧ o.data = .seq its n ∧ its.size ≤ sizeLine ∧ Vals xs its.toList
def SqL1 (K : PySem.W.Frag) (M : Gh) (H : Hp) (a : Addr) (xs : List V) : Prop :=
  (a ∉ M ∧ Rd H a (.lst xs)) ∨
    ∃ (o : Obj) (its : Array Value) (n : Nat), K.lookup a = some o ∧ o.cls = .type "list" ∧ o.dict = none ∧ o.data = .seq its n ∧ its.size ≤ sizeLine ∧ Vals xs its.toList
theorem SqT1.sq {K : PySem.W.Frag} {M : Gh} {H : Hp} {a : Addr} {xs : List V} (h : SqT1 K M H a xs) : SqT K H a xs := by
  rcases h with ⟨_, o, _, h⟩ | ⟨o, its, n, h1, h2, _, h⟩
  · exact .inl (.inr ⟨o, h⟩)
  · exact .inr ⟨o, its, n, h1, h2, h⟩
theorem SqL1.sq {K : PySem.W.Frag} {M : Gh} {H : Hp} {a : Addr} {xs : List V} (h : SqL1 K M H a xs) : SqL K H a xs := h.imp And.right id

section
variable (G : Gc) (M : Gh) (H : Hp)
mutual
def Rep : V → PV → Prop
  | u, .non => u = .non
  | u, .bl b => u = .bl b
  | u, .int i => u = .int i
  | u, .str x => u = .str x
  | u, .tup ps => ∃ a xs, u = .ref a ∧ SqT1 G.K M H a xs ∧ xs.length ≤ sizeLine ∧ Reps xs ps
  | u, .kt ps => ∃ a xs, u = .ref a ∧ a ∉ M ∧ H a = some (.tup xs) ∧ xs.length ≤ sizeLine ∧ Reps xs ps
  | u, .lst ps => ∃ a xs, u = .ref a ∧ SqL1 G.K M H a xs ∧ xs.length ≤ sizeLine ∧ Reps xs ps
  | u, .dic t ks vs => ∃ a o d us, u = .ref a ∧ a ∉ M ∧ H a = some (.frz o d) ∧ DO t ks us d ∧ Reps us vs
  | u, .loc n => ∃ a, u = .ref a ∧ M.L[n]? = some a
def Reps : List V → List PV → Prop
  | [], [] => True
  | u :: us, p :: ps => Rep u p ∧ Reps us ps
  | [], _ :: _ => False
  | _ :: _, [] => False
end

def ORep (a : Addr) : PO → Prop
  | .lst xs => ∃ us, H a = some (.lst us) ∧ us.length ≤ sizeLine ∧ Reps G M H us xs
  | .dic t ks vs => ∃ us d, H a = some d ∧ DO t ks us d ∧ Reps G M H us vs
  | .dead => a ∈ M.D
  | .ins c fs => ∃ C dx ufs, H a = some (.ins C dx ufs) ∧ H dx = some (.own a) ∧ dx ∉ M ∧ G.mg c = some (.ref C) ∧ ufs.map (·.1) = fs.map (·.1) ∧ Reps G M H (ufs.map (·.2)) (fs.map (·.2))

structure HRel (h : PH) : Prop where
  nd : M.L.Nodup
  apart : ∀ a ∈ M.L, a ∉ M.Z
  len : M.L.length = h.length
  hid : ∀ a ∈ M.Z, H a ≠ none
  hidT : ∀ a ∈ M.Z, ∀ xs, H a ≠ some (.tup xs)
  dsub : ∀ a ∈ M.D, a ∈ M.L
  live0 : ∀ a ∈ M.L, H a ≠ none
  obj : ∀ (n : Nat) (o : PO), h[n]? = some o → ∃ a, M.L[n]? = some a ∧ (o ≠ .dead → a ∉ M.D) ∧ ORep G M H a o
  tab : ∀ P ∈ G.T, TabD G.nm H 2 P

def ERel (ρ : En) (σ : L2.St) : Prop := ρ.length = σ.length ∧ ∀ (i : Nat) (v : PV), ρ[i]? = some (some v) → ∃ u, σ[i]? = some (some u) ∧ Rep G M H u v

def XRep (e : Ex) (cls : Value) (d : Option Addr) : Prop :=
  (G.mg e.cls = some cls ∨ (G.mg e.cls = none ∧ bootBuiltins e.cls = some cls)) ∧
  ∀ v, e.arg = some v → ∃ da f u, d = some da ∧ H da = some (.xd [(f, u)]) ∧ Rep G M H u v
end

structure Ext (M : Gh) (H : Hp) (M' : Gh) (H' : Hp) : Prop where
  pre : ∃ L E, M' = ⟨M.L ++ L, M.Z, E ++ M.D⟩ ∧ ∀ a ∈ L, H a = none
  keep : ∀ a o, H a = some o → (a ∈ M.L → a ∈ M.D) → (∀ ps, o ≠ .tbl ps) → H' a = some o
  dom : ∀ a, H a ≠ none → H' a ≠ none

theorem Ext.refl (M : Gh) (H : Hp) : Ext M H M H := ⟨⟨[], [], by simp, by simp⟩, fun _ _ h _ _ => h, fun _ h => h⟩
theorem Ext.trans {M M1 M2 : Gh} {H H1 H2 : Hp} (x : Ext M H M1 H1) (y : Ext M1 H1 M2 H2) : Ext M H M2 H2 := by
  obtain ⟨L, E, rfl, hL⟩ := x.pre
  obtain ⟨L2, E2, rfl, hL2⟩ := y.pre
  refine ⟨⟨L ++ L2, E2 ++ E, by simp, fun a ha => ?_⟩, fun a o h n t => ?_, fun a h => y.dom a (x.dom a h)⟩
  · rcases List.mem_append.mp ha with h | h
    · exact hL a h
    · cases q : H a with
      | none => rfl
      | some o => exact absurd (hL2 a h) (x.dom a (by rw [q]; simp))
  · refine y.keep a o (x.keep a o h n t) (fun z => ?_) t
    rcases List.mem_append.mp z with z | z
    · exact List.mem_append_right _ (n z)
    · rw [hL a z] at h; cases h
theorem Ext.notin {M M' : Gh} {H H' : Hp} (x : Ext M H M' H') {a : Addr} (h : H a ≠ none) (n : a ∉ M) : a ∉ M' := by
  obtain ⟨L, E, rfl, hL⟩ := x.pre
  intro z
  rcases z with ⟨z, zd⟩ | z
  · rcases List.mem_append.mp z with z | z
    · exact zd (List.mem_append_right _ (Gh.frozen n z))
    · exact h (hL a z)
  · exact n (.inr z)
theorem Ext.kp {M M' : Gh} {H H' : Hp} (x : Ext M H M' H') {a : Addr} {o : HO} (h : H a = some o) (n : a ∉ M) (t : ∀ ps, o ≠ .tbl ps) : H' a = some o := x.keep a o h (fun z => Gh.frozen n z) t
theorem Ext.rd {M M' : Gh} {H H' : Hp} (x : Ext M H M' H') {a : Addr} {u : HO} (n : a ∉ M) (t : ∀ ps, u ≠ .tbl ps) (h : Rd H a u) : Rd H' a u := by
  rcases h with h | ⟨o, h⟩
  · exact .inl (x.kp h n t)
  · exact .inr ⟨o, x.kp h n (fun ps z => by cases z)⟩
theorem Rd.some {H : Hp} {a : Addr} {u : HO} (h : Rd H a u) : H a ≠ none := by
  rcases h with h | ⟨o, h⟩ <;> (rw [h]; simp)
theorem Ext.sqT {K : PySem.W.Frag} {M M' : Gh} {H H' : Hp} (x : Ext M H M' H') {a : Addr} {xs : List V} (h : SqT1 K M H a xs) : SqT1 K M' H' a xs := by
  rcases h with ⟨n, o, d, h⟩ | h
  · exact .inl ⟨x.notin (by rw [h]; simp) n, o, d, x.kp h n (fun ps z => by cases z)⟩
  · exact .inr h
theorem Ext.sqL {K : PySem.W.Frag} {M M' : Gh} {H H' : Hp} (x : Ext M H M' H') {a : Addr} {xs : List V} (h : SqL1 K M H a xs) : SqL1 K M' H' a xs := by
  rcases h with ⟨n, h⟩ | h
  · exact .inl ⟨x.notin (Rd.some h) n, x.rd n (fun ps z => by cases z) h⟩
  · exact .inr h
section
variable {G : Gc} {M M' : Gh} {H H' : Hp}
/-- what may be read before may be read behind -/
structure Tr (M : Gh) (H : Hp) (M' : Gh) (H' : Hp) : Prop where
  pre : ∃ L, M'.L = M.L ++ L
  dd : ∀ a ∈ M.D, a ∈ M'.D
  keep : ∀ a o, H a = some o → a ∉ M → (∀ ps, o ≠ .tbl ps) → H' a = some o ∧ a ∉ M'
theorem Ext.tr (x : Ext M H M' H') : Tr M H M' H' := by
  refine ⟨?_, ?_, fun a o h n t => ⟨x.kp h n t, x.notin (by rw [h]; simp) n⟩⟩
  · obtain ⟨L, E, rfl, _⟩ := x.pre
    exact ⟨L, rfl⟩
  · obtain ⟨L, E, rfl, _⟩ := x.pre
    exact fun a ha => List.mem_append_right _ ha
theorem Tr.trans {M2 : Gh} {H2 : Hp} (x : Tr M H M' H') (y : Tr M' H' M2 H2) : Tr M H M2 H2 := by
  obtain ⟨L, e⟩ := x.pre
  obtain ⟨L2, e2⟩ := y.pre
  refine ⟨⟨L ++ L2, by rw [e2, e, List.append_assoc]⟩, fun a ha => y.dd a (x.dd a ha), fun a o h n t => ?_⟩
  obtain ⟨h1, n1⟩ := x.keep a o h n t
  exact y.keep a o h1 n1 t
theorem Tr.rd (x : Tr M H M' H') {a : Addr} {u : HO} (n : a ∉ M) (t : ∀ ps, u ≠ .tbl ps) (h : Rd H a u) : Rd H' a u ∧ a ∉ M' := by
  rcases h with h | ⟨o, h⟩
  · exact ⟨.inl (x.keep a u h n t).1, (x.keep a u h n t).2⟩
  · exact ⟨.inr ⟨o, (x.keep a _ h n (fun ps z => by cases z)).1⟩, (x.keep a _ h n (fun ps z => by cases z)).2⟩
theorem Tr.sqT (x : Tr M H M' H') {K : PySem.W.Frag} {a : Addr} {xs : List V} (h : SqT1 K M H a xs) : SqT1 K M' H' a xs := by
  rcases h with ⟨n, o, d, h⟩ | h
  · have q := x.keep a _ h n (fun ps z => by cases z)
    exact .inl ⟨q.2, o, d, q.1⟩
  · exact .inr h
theorem Tr.sqL (x : Tr M H M' H') {K : PySem.W.Frag} {a : Addr} {xs : List V} (h : SqL1 K M H a xs) : SqL1 K M' H' a xs := by
  rcases h with ⟨n, h⟩ | h
  · have q := x.rd n (fun ps z => by cases z) h
    exact .inl ⟨q.2, q.1⟩
  · exact .inr h
mutual
theorem Rep.tr (x : Tr M H M' H') : ∀ (v : PV) (u : V), Rep G M H u v → Rep G M' H' u v
  | .non, _, h => h
  | .bl _, _, h => h
  | .int _, _, h => h
  | .str _, _, h => h
  | .tup ps, u, h => by
    obtain ⟨a, xs, e, s, z, r⟩ := h
    exact ⟨a, xs, e, x.sqT s, z, Reps.tr x ps xs r⟩
  | .lst ps, u, h => by
    obtain ⟨a, xs, e, s, z, r⟩ := h
    exact ⟨a, xs, e, x.sqL s, z, Reps.tr x ps xs r⟩
  | .kt ps, u, h => by
    obtain ⟨a, xs, e, n, s, z, r⟩ := h
    have q := x.keep a _ s n (fun ps z => by cases z)
    exact ⟨a, xs, e, q.2, q.1, z, Reps.tr x ps xs r⟩
  | .dic t ks vs, u, h => by
    obtain ⟨a, o, d, us, e, n, s, q, r⟩ := h
    have k := x.keep a _ s n (fun ps z => by cases z)
    exact ⟨a, o, d, us, e, k.2, k.1, q, Reps.tr x vs us r⟩
  | .loc n, u, h => by
    obtain ⟨a, e, s⟩ := h
    obtain ⟨L, hL⟩ := x.pre
    refine ⟨a, e, ?_⟩
    rw [hL, List.getElem?_append_left (List.getElem?_eq_some_iff.mp s).1]
    exact s
theorem Reps.tr (x : Tr M H M' H') : ∀ (vs : List PV) (us : List V), Reps G M H us vs → Reps G M' H' us vs
  | [], [], _ => trivial
  | [], _ :: _, h => h
  | _ :: _, [], h => h
  | v :: vs, u :: us, h => ⟨Rep.tr x v u h.1, Reps.tr x vs us h.2⟩
end
theorem Rep.ext (x : Ext M H M' H') (v : PV) (u : V) (h : Rep G M H u v) : Rep G M' H' u v := Rep.tr x.tr v u h
theorem Reps.ext (x : Ext M H M' H') (v : List PV) (u : List V) (h : Reps G M H u v) : Reps G M' H' u v := Reps.tr x.tr v u h
theorem Reps.length : ∀ {vs : List PV} {us : List V}, Reps G M H us vs → us.length = vs.length
  | [], [], _ => rfl
  | [], _ :: _, h => h.elim
  | _ :: _, [], h => h.elim
  | v :: vs, u :: us, h => by rw [List.length_cons, List.length_cons, Reps.length h.2]
theorem Reps.get : ∀ {vs : List PV} {us : List V} {i : Nat} {v : PV}, Reps G M H us vs → vs[i]? = some v → ∃ u, us[i]? = some u ∧ Rep G M H u v
  | [], _, _, _, _, e => by simp at e
  | _ :: _, [], _, _, h, _ => h.elim
  | v :: vs, u :: us, 0, _, h, e => by
    simp at e; subst e
    exact ⟨u, rfl, h.1⟩
  | v :: vs, u :: us, i + 1, w, h, e => by
    obtain ⟨u', h1, h2⟩ := Reps.get (i := i) h.2 (by simpa using e)
    exact ⟨u', by simpa using h1, h2⟩
theorem Reps.get' : ∀ {vs : List PV} {us : List V} {i : Nat} {u : V}, Reps G M H us vs → us[i]? = some u → ∃ v, vs[i]? = some v ∧ Rep G M H u v := fun {vs us i u} r e => by
  have hl := r.length
  have hi := (List.getElem?_eq_some_iff.mp e).1
  obtain ⟨u', h1, h2⟩ := r.get (i := i) (List.getElem?_eq_getElem (show i < vs.length by omega))
  rw [e] at h1; cases h1
  exact ⟨_, List.getElem?_eq_getElem _, h2⟩
theorem Reps.append : ∀ {vs : List PV} {us : List V} {vs' : List PV} {us' : List V}, Reps G M H us vs → Reps G M H us' vs' → Reps G M H (us ++ us') (vs ++ vs')
  | [], [], _, _, _, h => h
  | [], _ :: _, _, _, h, _ => h.elim
  | _ :: _, [], _, _, h, _ => h.elim
  | v :: vs, u :: us, _, _, h, h' => ⟨h.1, Reps.append h.2 h'⟩
theorem Reps.take : ∀ {vs : List PV} {us : List V} (n : Nat), Reps G M H us vs → Reps G M H (us.take n) (vs.take n)
  | _, _, 0, _ => trivial
  | [], [], _ + 1, _ => trivial
  | [], _ :: _, _ + 1, h => h.elim
  | _ :: _, [], _ + 1, h => h.elim
  | v :: vs, u :: us, n + 1, h => ⟨h.1, Reps.take n h.2⟩
theorem Reps.drop : ∀ {vs : List PV} {us : List V} (n : Nat), Reps G M H us vs → Reps G M H (us.drop n) (vs.drop n)
  | _, _, 0, h => h
  | [], [], _ + 1, _ => trivial
  | [], _ :: _, _ + 1, h => h.elim
  | _ :: _, [], _ + 1, h => h.elim
  | v :: vs, u :: us, n + 1, h => Reps.drop n h.2
theorem Reps.set {v : PV} {u : V} (r : Rep G M H u v) : ∀ {vs : List PV} {us : List V} (n : Nat), Reps G M H us vs → Reps G M H (us.set n u) (vs.set n v)
  | [], [], _, _ => trivial
  | [], _ :: _, _, h => h.elim
  | _ :: _, [], _, h => h.elim
  | _ :: vs, _ :: us, 0, h => ⟨r, h.2⟩
  | _ :: vs, _ :: us, n + 1, h => ⟨h.1, Reps.set r n h.2⟩
theorem Reps.snoc {v : PV} {u : V} {vs : List PV} {us : List V} (h : Reps G M H us vs) (r : Rep G M H u v) : Reps G M H (us ++ [u]) (vs ++ [v]) := h.append ⟨r, trivial⟩
theorem Reps.reverse : ∀ {vs : List PV} {us : List V}, Reps G M H us vs → Reps G M H us.reverse vs.reverse
  | [], [], _ => trivial
  | [], _ :: _, h => h.elim
  | _ :: _, [], h => h.elim
  | v :: vs, u :: us, h => by
    rw [List.reverse_cons, List.reverse_cons]
    exact (Reps.reverse h.2).snoc h.1
theorem Reps.of_get : ∀ {vs : List PV} {us : List V}, us.length = vs.length → (∀ (i : Nat) u v, us[i]? = some u → vs[i]? = some v → Rep G M H u v) → Reps G M H us vs
  | [], [], _, _ => trivial
  | [], _ :: _, h, _ => by simp at h
  | _ :: _, [], h, _ => by simp at h
  | v :: vs, u :: us, h, f => ⟨f 0 u v rfl rfl, Reps.of_get (by simpa using h) fun i u v a b => f (i + 1) u v (by simpa using a) (by simpa using b)⟩

theorem ERel.ext {ρ : En} {σ : L2.St} (x : Ext M H M' H') (h : ERel G M H ρ σ) : ERel G M' H' ρ σ := ⟨h.1, fun i v e => by
  obtain ⟨u, h1, h2⟩ := h.2 i v e
  exact ⟨u, h1, Rep.ext x v u h2⟩⟩
theorem ERel.tr {ρ : En} {σ : L2.St} (x : Tr M H M' H') (h : ERel G M H ρ σ) : ERel G M' H' ρ σ := ⟨h.1, fun i v e => by
  obtain ⟨u, h1, h2⟩ := h.2 i v e
  exact ⟨u, h1, Rep.tr x v u h2⟩⟩
theorem ERel.set {ρ : En} {σ : L2.St} (h : ERel G M H ρ σ) {i : Nat} {u : V} {v : PV} (r : Rep G M H u v) : ERel G M H (ρ.set i (some v)) (σ.set i (some u)) := ⟨by simpa using h.1, fun j w e => by
  by_cases hj : i = j
  · subst hj
    by_cases hi : i < ρ.length
    · rw [List.getElem?_set_self hi] at e
      cases e
      exact ⟨u, List.getElem?_set_self (by rw [← h.1]; exact hi), r⟩
    · rw [List.getElem?_eq_none (by simpa using hi)] at e; cases e
  · rw [List.getElem?_set_ne hj] at e
    obtain ⟨u', h1, h2⟩ := h.2 j w e
    exact ⟨u', by rw [List.getElem?_set_ne hj]; exact h1, h2⟩⟩
theorem HRel.liveL {h : PH} (r : HRel G M H h) {a : Addr} (ha : a ∈ M.L) : H a ≠ none := r.live0 a ha
theorem HRel.live {h : PH} (r : HRel G M H h) {a : Addr} (ha : a ∈ M) : H a ≠ none := by
  rcases ha with ⟨ha, _⟩ | ha
  · exact r.liveL ha
  · exact r.hid a ha
theorem HRel.fresh {h : PH} (r : HRel G M H h) {a : Addr} (ha : H a = none) : a ∉ M := fun z => r.live z ha
/-- an object kept in M at its place, the others as they were -/
theorem ORep.tr {a : Addr} {o : PO} (x : Tr M H M' H') (e : H' a = H a) (ed : ∀ dx, H dx = some (.own a) → dx ∉ M → H' dx = H dx) (h : ORep G M H a o) : ORep G M' H' a o := by
  cases o with
  | lst xs =>
    obtain ⟨us, e1, z, r⟩ := h
    exact ⟨us, by rw [e]; exact e1, z, Reps.tr x xs us r⟩
  | dic t ks vs =>
    obtain ⟨us, d, h1, q, r⟩ := h
    exact ⟨us, d, by rw [e]; exact h1, q, Reps.tr x vs us r⟩
  | dead => exact x.dd a h
  | ins c fs =>
    obtain ⟨C, dx, ufs, e1, e2, nm, r1, r2, r3⟩ := h
    exact ⟨C, dx, ufs, by rw [e]; exact e1, by rw [ed dx e2 nm]; exact e2, (x.keep dx _ e2 nm (fun ps z => by cases z)).2, r1, r2, Reps.tr x _ _ r3⟩
theorem ORep.ext {a : Addr} {o : PO} (x : Ext M H M' H') (e : H' a = H a) (ed : ∀ dx, H dx = some (.own a) → dx ∉ M → H' dx = H dx) (h : ORep G M H a o) : ORep G M' H' a o := ORep.tr x.tr e ed h
/-! ### an object that nobody reads -/
theorem Gh.hide_mem {D a : Addr} (n : a ∉ M) (z : a ∈ M.hide D) : a = D := by
  rcases z with ⟨z, zd⟩ | z
  · exact absurd (.inl ⟨z, zd⟩) n
  · rcases List.mem_cons.mp z with z | z
    · exact z
    · exact absurd (.inr z) n
theorem Tr.hide {D : Addr} {o : HO} (hD : H D = none) : Tr M H (M.hide D) (upd H D o) :=
  ⟨⟨[], by simp [Gh.hide]⟩, fun _ ha => ha, fun a u h n t => ⟨by rw [upd_ne (ne_of_none h hD)]; exact h, fun z => ne_of_none h hD (Gh.hide_mem n z)⟩⟩
theorem Gh.of_hide {D a : Addr} (n : a ∉ M.hide D) : a ∉ M ∧ a ≠ D := ⟨fun z => n (z.imp id (List.mem_cons_of_mem _)), fun z => n (.inr (by rw [z]; exact List.mem_cons_self))⟩
theorem Tr.unhide {D : Addr} : Tr (M.hide D) H M H := ⟨⟨[], by simp [Gh.hide]⟩, fun _ ha => ha, fun a u h n t => ⟨h, (Gh.of_hide n).1⟩⟩
/-- a new object that no loc stands for -/
theorem Ext.new {h : PH} (r : HRel G M H h) {p : Addr} {o : HO} (hp : H p = none) : Ext M H M (upd H p o) :=
  ⟨⟨[], [], by simp, by simp⟩, fun a u e n t => by rw [upd_ne (ne_of_none e hp)]; exact e, fun a e => by
    by_cases z : a = p
    · rw [z, hp] at e; exact absurd rfl e
    · rw [upd_ne z]; exact e⟩
theorem HRel.new {h : PH} (r : HRel G M H h) {p : Addr} {o : HO} (hp : H p = none) : HRel G M (upd H p o) h where
  nd := r.nd
  hidT := fun a ha xs => by
    have z : a ≠ p := fun z => r.hid a ha (by rw [z]; exact hp)
    rw [upd_ne z]; exact r.hidT a ha xs
  apart := r.apart
  len := r.len
  hid := fun a ha => (Ext.new r hp).dom a (r.hid a ha)
  dsub := r.dsub
  live0 := fun a ha => (Ext.new r hp).dom a (r.live0 a ha)
  obj := fun n ob e => by
    obtain ⟨a, h1, hd, h2⟩ := r.obj n ob e
    refine ⟨a, h1, hd, h2.ext (Ext.new r hp) (upd_ne fun z => ?_) fun dx q _ => upd_ne (ne_of_none q hp)⟩
    exact r.liveL (List.mem_of_getElem? h1) (z ▸ hp)
  tab := fun P hP => (r.tab P hP).keep fun b u e _ => by rw [upd_ne (ne_of_none e hp)]; exact e
theorem HRel.hide {h : PH} (r : HRel G M H h) {D : Addr} {o : HO} (hD : H D = none) (ho : ∀ xs, o ≠ .tup xs) : HRel G (M.hide D) (upd H D o) h where
  nd := r.nd
  hidT := fun a ha xs => by
    by_cases z : a = D
    · rw [z, upd_same]
      exact fun q => ho xs (Option.some.inj q)
    · rw [upd_ne z]
      rcases List.mem_cons.mp ha with q | q
      · exact absurd q z
      · exact r.hidT a q xs
  apart := fun a ha z => by
    rcases List.mem_cons.mp z with z | z
    · exact r.liveL ha (z ▸ hD)
    · exact r.apart a ha z
  len := r.len
  hid := fun a ha => by
    rcases List.mem_cons.mp ha with z | z
    · rw [z, upd_same]; simp
    · exact (Ext.new r hD).dom a (r.hid a z)
  dsub := r.dsub
  live0 := fun a ha => (Ext.new r hD).dom a (r.live0 a ha)
  obj := fun n ob e => by
    obtain ⟨a, h1, hd, h2⟩ := r.obj n ob e
    refine ⟨a, h1, hd, h2.tr (Tr.hide hD) (upd_ne fun z => ?_) fun dx q _ => upd_ne (ne_of_none q hD)⟩
    exact r.liveL (List.mem_of_getElem? h1) (z ▸ hD)
  tab := fun P hP => (r.tab P hP).keep fun b u e _ => by rw [upd_ne (ne_of_none e hD)]; exact e
theorem HRel.unhide {h : PH} {D : Addr} (r : HRel G (M.hide D) H h) : HRel G M H h where
  nd := r.nd
  hidT := fun a ha => r.hidT a (List.mem_cons_of_mem _ ha)
  apart := fun a ha z => r.apart a ha (List.mem_cons_of_mem _ z)
  len := r.len
  hid := fun a ha => r.hid a (List.mem_cons_of_mem _ ha)
  dsub := r.dsub
  live0 := r.live0
  obj := fun n ob e => by
    obtain ⟨a, h1, hd, h2⟩ := r.obj n ob e
    exact ⟨a, h1, hd, h2.tr Tr.unhide rfl fun dx q _ => rfl⟩
  tab := r.tab
/-- the hidden object changes -/
theorem Tr.hid {D : Addr} {o : HO} : Tr (M.hide D) H (M.hide D) (upd H D o) :=
  ⟨⟨[], by simp⟩, fun _ ha => ha, fun a u e n t => ⟨by rw [upd_ne (Gh.of_hide n).2]; exact e, n⟩⟩
theorem HRel.hidW {h : PH} {D : Addr} (r : HRel G (M.hide D) H h) {o : HO} (nt : ∀ u, Fix u → H D ≠ some u) (nd : ∀ b, H D ≠ some (.own b)) (ho : ∀ xs, o ≠ .tup xs) : HRel G (M.hide D) (upd H D o) h where
  nd := r.nd
  hidT := fun a ha xs => by
    by_cases z : a = D
    · rw [z, upd_same]
      exact fun q => ho xs (Option.some.inj q)
    · rw [upd_ne z]; exact r.hidT a ha xs
  apart := r.apart
  len := r.len
  hid := fun a ha => by
    by_cases z : a = D
    · rw [z, upd_same]; simp
    · rw [upd_ne z]; exact r.hid a ha
  dsub := r.dsub
  live0 := fun a ha => by
    by_cases z : a = D
    · rw [z, upd_same]; simp
    · rw [upd_ne z]; exact r.live0 a ha
  obj := fun n ob e => by
    obtain ⟨a, h1, hd, h2⟩ := r.obj n ob e
    refine ⟨a, h1, hd, h2.tr Tr.hid (upd_ne fun z => ?_) fun dx q _ => upd_ne fun z => nd a (z ▸ q)⟩
    exact r.apart a (List.mem_of_getElem? h1) (by rw [z]; exact List.mem_cons_self)
  tab := fun P hP => (r.tab P hP).keep fun b u e f => (upd_ne (show b ≠ D from fun z => nt u f (z ▸ e))).trans e
end
end J

/-! J: the judgements; names, constants, operators, tests, calls of built-ins by values. -/
namespace J
open PySem PySem.Spec PyProof.Rows L2

/-- what is wanted behind a pure result -/
def Out {α β : Type} (G : Gc) (W : WX) (σ : L2.St) (Rp : Gh → Hp → β → α → Prop) (M : Gh) (H : Hp) (r : R α) (Q : β → Hp → Prop) : Prop :=
  match r with
  | .ok a h' => ∀ b M' H', Ext M H M' H' → HRel G M' H' h' → Rp M' H' b a → Q b H'
  | .exc e h' => ∀ cls d M' H', Ext M H M' H' → HRel G M' H' h' → XRep G M' H' e cls d → W cls d σ H'
  | .bad => False
section
variable {α β α' β' : Type} {G : Gc} {W : WX} {σ : L2.St} {Rp : Gh → Hp → β → α → Prop} {Rp' : Gh → Hp → β' → α' → Prop} {M M1 : Gh} {H H1 : Hp}
theorem Out.ext {r : R α} {Q : β → Hp → Prop} (x : Ext M H M1 H1) (o : Out G W σ Rp M H r Q) : Out G W σ Rp M1 H1 r Q := by
  cases r with
  | ok a h => exact fun b M' H' y => o b M' H' (x.trans y)
  | exc e h => exact fun cls d M' H' y => o cls d M' H' (x.trans y)
  | bad => exact o
theorem Out.mono {r : R α} {Q Q' : β → Hp → Prop} (o : Out G W σ Rp M H r Q) (q : ∀ b H, Q b H → Q' b H) : Out G W σ Rp M H r Q' := by
  cases r with
  | ok a h => exact fun b M' H' x r p => q b H' (o b M' H' x r p)
  | exc e h => exact o
  | bad => exact o
theorem Out.bind {r : R α} {k : α → PH → R α'} {Q : β' → Hp → Prop} (o : Out G W σ Rp' M H (r.bind k) Q) :
    Out G W σ Rp M H r (fun b H1 => ∃ M1 h1 a, Ext M H M1 H1 ∧ HRel G M1 H1 h1 ∧ Rp M1 H1 b a ∧ Out G W σ Rp' M1 H1 (k a h1) Q) := by
  cases r with
  | ok a h => exact fun b M' H' x r p => ⟨M', h, a, x, r, p, Out.ext x o⟩
  | exc e h => exact o
  | bad => exact o
theorem Out.ret {a : α} {h : PH} {Q : β → Hp → Prop} {b : β} (o : Out G W σ Rp M H (.ok a h) Q) (r : HRel G M H h) (p : Rp M H b a) : Q b H := o b M H (Ext.refl M H) r p
end

/-- the state: heap and slots -/
def TF {α β : Type} (G : Gc) (W : WX) (Rp : Gh → Hp → β → α → Prop) (f : En → PH → R α) (σ : L2.St) (H : Hp) (Q : β → Hp → Prop) : Prop :=
  ∃ M ρ h, HRel G M H h ∧ ERel G M H ρ σ ∧ Out G W σ Rp M H (f ρ h) Q
abbrev TFE (G : Gc) (W : WX) (f : SE) : TE := TF G W (fun M H (u : V) (v : PV) => Rep G M H u v) f
abbrev TFB (G : Gc) (W : WX) (f : SB) : TT := TF G W (fun _ _ (u v : Bool) => u = v) f
abbrev TFA (G : Gc) (W : WX) (f : SA) : TA := TF G W (fun M H (u : List V) (v : List PV) => Reps G M H u v) f
abbrev JE (G : Gc) (X : Cx) (W : WX) (e : Expr) (f : SE) : Prop := PE X e (TFE G W f)
abbrev JT (G : Gc) (X : Cx) (W : WX) (e : Expr) (f : SB) : Prop := PT X e (TFB G W f)
abbrev JW (G : Gc) (X : Cx) (W : WX) (e : Expr) (f : SB) : Prop := PW X e (TFB G W f)
abbrev JAs (G : Gc) (X : Cx) (W : WX) (es : List Expr) (f : SA) : Prop := PA X es (TFA G W f)

theorem pe_imp {X : Cx} {e : Expr} {t t' : TE} (h : PE X e t) (i : ∀ σ H Q, t' σ H Q → t σ H Q) : PE X e t' := ⟨fun pins s σ H Q I q => h.run pins s σ H Q I (i σ H Q q)⟩
theorem pt_imp {X : Cx} {e : Expr} {t t' : TT} (h : PT X e t) (i : ∀ σ H Q, t' σ H Q → t σ H Q) : PT X e t' := ⟨fun pins s σ H Q I q => h.run pins s σ H Q I (i σ H Q q)⟩
theorem pw_imp {X : Cx} {e : Expr} {t t' : TT} (h : PW X e t) (i : ∀ σ H Q, t' σ H Q → t σ H Q) : PW X e t' := ⟨fun wh pins s σ H Q I q => h.run wh pins s σ H Q I (i σ H Q q)⟩
theorem pa_imp {X : Cx} {e : List Expr} {t t' : TA} (h : PA X e t) (i : ∀ σ H Q, t' σ H Q → t σ H Q) : PA X e t' := ⟨fun pos pins s σ H Q I q => h.run pos pins s σ H Q I (i σ H Q q)⟩

section
variable {α β α' β' : Type} {G : Gc} {W : WX} {σ : L2.St} {Rp : Gh → Hp → β → α → Prop} {Rp' : Gh → Hp → β' → α' → Prop} {H : Hp}
theorem TF.bind {f : En → PH → R α} {k : En → α → PH → R α'} {Q : β' → Hp → Prop} (t : TF G W Rp' (fun ρ h => (f ρ h).bind (k ρ)) σ H Q) :
    TF G W Rp f σ H (fun b H1 => ∃ M1 ρ h1 a, HRel G M1 H1 h1 ∧ ERel G M1 H1 ρ σ ∧ Rp M1 H1 b a ∧ Out G W σ Rp' M1 H1 (k ρ a h1) Q) := by
  obtain ⟨M, ρ, h, r, e, o⟩ := t
  refine ⟨M, ρ, h, r, e, (Out.bind (Rp := Rp) o).mono fun b H1 ⟨M1, h1, a, x, r1, p, o1⟩ => ⟨M1, ρ, h1, a, r1, e.ext x, p, o1⟩⟩
theorem TF.mono {f : En → PH → R α} {Q Q' : β → Hp → Prop} (t : TF G W Rp f σ H Q) (q : ∀ b H, Q b H → Q' b H) : TF G W Rp f σ H Q' := by
  obtain ⟨M, ρ, h, r, e, o⟩ := t
  exact ⟨M, ρ, h, r, e, o.mono q⟩
/-- two in a row -/
theorem TF.bind2 {α2 β2 : Type} {Rp2 : Gh → Hp → β2 → α2 → Prop} (mono : ∀ M H M' H' b a, Ext M H M' H' → Rp M H b a → Rp M' H' b a) {f : En → PH → R α} {g : En → PH → R α2} {k : α → α2 → PH → R α'} {Q : β' → Hp → Prop}
    (t : TF G W Rp' (fun ρ h => (f ρ h).bind fun x h1 => (g ρ h1).bind fun y h2 => k x y h2) σ H Q) :
    TF G W Rp f σ H (fun b H1 => TF G W Rp2 g σ H1 fun c H2 => ∃ M2 ρ h2 x y, HRel G M2 H2 h2 ∧ ERel G M2 H2 ρ σ ∧ Rp M2 H2 b x ∧ Rp2 M2 H2 c y ∧ Out G W σ Rp' M2 H2 (k x y h2) Q) := by
  obtain ⟨M, ρ, h, r, e, o⟩ := t
  refine ⟨M, ρ, h, r, e, (Out.bind (Rp := Rp) o).mono fun b H1 ⟨M1, h1, a, x, r1, p, o1⟩ => ⟨M1, ρ, h1, r1, e.ext x, (Out.bind (Rp := Rp2) o1).mono fun c H2 ⟨M2, h2, a2, x2, r2, p2, o2⟩ => ?_⟩⟩
  exact ⟨M2, ρ, h2, a, a2, r2, (e.ext x).ext x2, mono _ _ _ _ _ _ x2 p, p2, o2⟩
end

/-! ### names, constants -/
def vr (i : Nat) : SE := fun ρ h => match ρ[i]? with
  | some (some v) => .ok v h
  | _ => .bad
def cst (v : PV) : SE := fun _ h => .ok v h
section
variable {G : Gc} {X : Cx} {W : WX}
theorem je_var (i : Nat) {x : Str} {pos : Pos} (hN : X.N[i]? = some x := by rfl) (hv : Vis X.env.scope x := by first | exact Or.inl rfl | exact Or.inr (Or.inl rfl) | exact Or.inr (Or.inr rfl)) (hd : (x == ("__debug__" : Str)) = false := by decide)
    (hcd : (x == ("__classdict__" : Str)) = false := by decide) : JE G X W (.Name x pos) (vr i) := by
  refine pe_imp (pe_var hN hv hd hcd) fun σ H Q ⟨M, ρ, h, r, e, o⟩ => ?_
  revert o
  unfold vr
  cases q : ρ[i]? with
  | none => exact fun o => False.elim o
  | some w =>
    cases w with
    | none => exact fun o => False.elim o
    | some v =>
      intro o
      obtain ⟨u, h1, h2⟩ := e.2 i v q
      exact ⟨u, h1, Out.ret o r h2⟩
theorem je_cst {e : Expr} {u : V} {v : PV} (h : PE X e (tC u)) (p : ∀ M H, Rep G M H u v) : JE G X W e (cst v) := pe_imp h fun σ H Q ⟨M, ρ, h, r, e, o⟩ => Out.ret o r (p M H)
theorem je_int {i j pos} : JE G X W (.Constant (.int i) j pos) (cst (.int i)) := je_cst pe_int fun _ _ => rfl
theorem je_bl {i j pos} : JE G X W (.Constant (.bool i) j pos) (cst (.bl i)) := je_cst pe_bl fun _ _ => rfl
theorem je_non {j pos} : JE G X W (.Constant .none j pos) (cst .non) := je_cst pe_non fun _ _ => rfl
theorem je_str {x j pos} : JE G X W (.Constant (.str x) j pos) (cst (.str x)) := je_cst pe_str fun _ _ => rfl
end

/-! ### operators by values -/
/-- r (what HandS asks of the values) follows from the pure operation f -/
def OpJ (G : Gc) (r : R2) (f : PV → PV → PH → Option PV) : Prop :=
  ∀ M h H u v x y z Q, HRel G M H h → Rep G M H u x → Rep G M H v y → f x y h = some z → (∀ w H', Ext M H M H' → HRel G M H' h → Rep G M H' w z → Q w H') → r u v H Q
def bin2 (f : PV → PV → PH → Option PV) (fa fb : SE) : SE := fun ρ h => (fa ρ h).bind fun x h1 => (fb ρ h1).bind fun y h2 => R.of h2 (f x y h2)
section
variable {G : Gc} {X : Cx} {W : WX} {a b c : Expr} {fa fb fc : SE} {pos : Pos}
theorem rep_mono {G : Gc} : ∀ M H M' H' b a, Ext M H M' H' → Rep G M H b a → Rep G M' H' b a := fun M H M' H' b a x r => Rep.ext x a b r
theorem reps_mono {G : Gc} : ∀ M H M' H' b a, Ext M H M' H' → Reps G M H b a → Reps G M' H' b a := fun M H M' H' b a x r => Reps.ext x a b r
theorem bin2_t {r : R2} {f : PV → PV → PH → Option PV} (hj : OpJ G r f) {σ : L2.St} {H : Hp} {Q : VK} (t : TFE G W (bin2 f fa fb) σ H Q) : tOp r (TFE G W fa) (TFE G W fb) σ H Q := by
  refine (TF.bind2 (Rp := fun M H (u : V) (v : PV) => Rep G M H u v) (Rp2 := fun M H (u : V) (v : PV) => Rep G M H u v) rep_mono t).mono fun u H1 t1 => t1.mono fun v H2 ⟨M2, ρ, h2, x, y, r2, e2, p, q, o⟩ => ?_
  cases hf : f x y h2 with
  | none => rw [hf] at o; exact False.elim o
  | some z =>
    rw [hf] at o
    exact hj M2 h2 H2 u v x y z Q r2 p q hf fun w H' x' r' p' => o w M2 H' x' r' p'
theorem je_op {op : Operator} {r : R2} {f : PV → PV → PH → Option PV} (ho : OpR X (binaryOp op) r) (hj : OpJ G r f) (ha : JE G X W a fa) (hb : JE G X W b fb) : JE G X W (.BinOp a op b pos) (bin2 f fa fb) :=
  pe_imp (pe_op ho ha hb) fun _ _ _ t => bin2_t hj t
theorem je_cmp {op : CmpOp} {r : R2} {f : PV → PV → PH → Option PV} (ho : OpR X (compareOp op) r) (hj : OpJ G r f) (ha : JE G X W a fa) (hb : JE G X W b fb) (hm : behindInMarks op b = false) : JE G X W (.Compare a [op] [b] pos) (bin2 f fa fb) :=
  pe_imp (pe_cmpR ho ha hb hm) fun _ _ _ t => bin2_t hj t
theorem OpR.or {f : Value → Value → Sem Value} {r r' : R2} (h : OpR X f r) (h' : OpR X f r') : OpR X f (fun x y H Q => r x y H Q ∨ r' x y H Q) := by
  intro pins s σ H x y v u Q I rx ry q
  rcases q with q | q
  · exact h pins s σ H x y v u Q I rx ry q
  · exact h' pins s σ H x y v u Q I rx ry q
theorem je_ix {r : R2} {f : PV → PV → PH → Option PV} (hr : IxR X r) (hj : OpJ G r f) (ha : JE G X W a fa) (hb : JE G X W b fb) (hs : PlainIx b := by exact fun _ _ => rfl) : JE G X W (.Subscript a b pos) (bin2 f fa fb) :=
  pe_imp (pe_ix hr ha hb hs) fun _ _ _ t => bin2_t hj t

/-! ### tests -/
/-- a comparison's value as a test -/
def tst (f : SE) : SB := fun ρ h => (f ρ h).bind fun v h1 => match v with
  | .bl b => .ok b h1
  | _ => .bad
theorem tst_t {f : SE} {σ : L2.St} {H : Hp} {Q : Bool → Hp → Prop} (t : TFB G W (tst f) σ H Q) : tB (TFE G W f) σ H Q := by
  refine (TF.bind (Rp := fun M H (u : V) (v : PV) => Rep G M H u v) t).mono fun u H1 ⟨M1, ρ, h1, v, r1, e1, p, o⟩ => ?_
  cases v <;> first | exact False.elim o | skip
  rename_i b
  exact ⟨b, p, Out.ret o r1 rfl⟩
theorem jt_cmp {op : CmpOp} {r : R2} {f : PV → PV → PH → Option PV} (ho : OpR X (compareOp op) r) (hj : OpJ G r f) (ha : JE G X W a fa) (hb : JE G X W b fb) (hm : behindInMarks op b = false) : JT G X W (.Compare a [op] [b] pos) (tst (bin2 f fa fb)) := by
  refine pt_imp (pt_cmpR ho ha hb hm) fun σ H Q t => ?_
  have t2 := tst_t t
  exact bin2_t hj t2
/-- a value that is a bool, of an expression whose test is its value's truth -/
theorem jt_val {e : Expr} {f : SE} (h : JE G X W e f) (he : ∀ whole, isTrue e X.env whole = (do let v ← whole; standAt e.pos; holding [v] (truthy v)) := by intro _; rfl) : JT G X W e (tst f) :=
  pt_imp (pt_val h he) fun σ H Q t => tst_t t

def fnot (f : SB) : SB := fun ρ h => (f ρ h).bind fun b h1 => .ok (!b) h1
def fand (f g : SB) : SB := fun ρ h => (f ρ h).bind fun b h1 => if b then g ρ h1 else .ok false h1
def ffor (f g : SB) : SB := fun ρ h => (f ρ h).bind fun b h1 => if b then .ok true h1 else g ρ h1
theorem jt_not {f : SB} (h : JT G X W a f) : JT G X W (.UnaryOp .Not a pos) (fnot f) :=
  pt_imp (pt_not h) fun σ H Q t => (TF.bind (Rp := fun _ _ (u v : Bool) => u = v) t).mono fun b H1 ⟨M1, ρ, h1, v, r1, e1, p, o⟩ => Out.ret o r1 (by rw [p])
variable {rest : List Expr} {f g : SB}
theorem jw_and1 (h : JT G X W a f) : JW G X W (.BoolOp .And [a] pos) f := pw_and1 h
theorem jw_or1 (h : JT G X W a f) : JW G X W (.BoolOp .Or [a] pos) f := pw_or1 h
theorem jw_and (ha : JT G X W a f) (hb : JW G X W (.BoolOp .And (b :: rest) pos) g) : JW G X W (.BoolOp .And (a :: b :: rest) pos) (fand f g) := by
  refine pw_imp (pw_and ha hb) fun σ H Q t => (TF.bind (Rp := fun _ _ (u v : Bool) => u = v) t).mono fun c H1 ⟨M1, ρ, h1, v, r1, e1, p, o⟩ => ?_
  subst p
  cases c with
  | true => exact ⟨M1, ρ, h1, r1, e1, o⟩
  | false => exact Out.ret o r1 rfl
theorem jw_or (ha : JT G X W a f) (hb : JW G X W (.BoolOp .Or (b :: rest) pos) g) : JW G X W (.BoolOp .Or (a :: b :: rest) pos) (ffor f g) := by
  refine pw_imp (pw_or ha hb) fun σ H Q t => (TF.bind (Rp := fun _ _ (u v : Bool) => u = v) t).mono fun c H1 ⟨M1, ρ, h1, v, r1, e1, p, o⟩ => ?_
  subst p
  cases c with
  | false => exact ⟨M1, ρ, h1, r1, e1, o⟩
  | true => exact Out.ret o r1 rfl
/-- and, or, not as values; all parts bools -/
def vand (f g : SE) : SE := fun ρ h => (f ρ h).bind fun v h1 => match v with
  | .bl true => g ρ h1
  | .bl false => .ok (.bl false) h1
  | _ => .bad
def vor (f g : SE) : SE := fun ρ h => (f ρ h).bind fun v h1 => match v with
  | .bl true => .ok (.bl true) h1
  | .bl false => g ρ h1
  | _ => .bad
def vnot (f : SE) : SE := fun ρ h => (f ρ h).bind fun v h1 => match v with
  | .bl b => .ok (.bl (!b)) h1
  | _ => .bad
theorem je_one {op} {f : SE} (h : JE G X W a f) : JE G X W (.BoolOp op [a] pos) f := pe_one h
theorem je_and {f g : SE} (ha : JE G X W a f) (hb : JE G X W (.BoolOp .And (b :: rest) pos) g) : JE G X W (.BoolOp .And (a :: b :: rest) pos) (vand f g) := by
  refine pe_imp (pe_and ha hb) fun σ H Q t => (TF.bind (Rp := fun M H (u : V) (v : PV) => Rep G M H u v) t).mono fun u H1 ⟨M1, ρ, h1, v, r1, e1, p, o⟩ => ?_
  cases v <;> first | exact False.elim o | skip
  rename_i c
  cases c with
  | true => exact ⟨true, p, by rw [if_pos rfl]; exact ⟨M1, ρ, h1, r1, e1, o⟩⟩
  | false => exact ⟨false, p, by rw [if_neg Bool.false_ne_true]; exact Out.ret o r1 (show Rep G M1 H1 (.bl false) (.bl false) from rfl)⟩
theorem je_or {f g : SE} (ha : JE G X W a f) (hb : JE G X W (.BoolOp .Or (b :: rest) pos) g) : JE G X W (.BoolOp .Or (a :: b :: rest) pos) (vor f g) := by
  refine pe_imp (pe_or ha hb) fun σ H Q t => (TF.bind (Rp := fun M H (u : V) (v : PV) => Rep G M H u v) t).mono fun u H1 ⟨M1, ρ, h1, v, r1, e1, p, o⟩ => ?_
  cases v <;> first | exact False.elim o | skip
  rename_i c
  cases c with
  | true => exact ⟨true, p, by rw [if_pos rfl]; exact Out.ret o r1 (show Rep G M1 H1 (.bl true) (.bl true) from rfl)⟩
  | false => exact ⟨false, p, by rw [if_neg Bool.false_ne_true]; exact ⟨M1, ρ, h1, r1, e1, o⟩⟩
theorem je_not {f : SE} (ha : JE G X W a f) : JE G X W (.UnaryOp .Not a pos) (vnot f) := by
  refine pe_imp (pe_not ha) fun σ H Q t => (TF.bind (Rp := fun M H (u : V) (v : PV) => Rep G M H u v) t).mono fun u H1 ⟨M1, ρ, h1, v, r1, e1, p, o⟩ => ?_
  cases v <;> first | exact False.elim o | skip
  rename_i c
  exact ⟨c, p, Out.ret o r1 (show Rep G M1 H1 (.bl (!c)) (.bl (!c)) from rfl)⟩
def fite (c : SB) (f g : SE) : SE := fun ρ h => (c ρ h).bind fun b h1 => if b then f ρ h1 else g ρ h1
theorem je_ifExp {fc : SB} {f g : SE} (hc : JT G X W c fc) (ha : JE G X W a f) (hb : JE G X W b g) : JE G X W (.IfExp c a b pos) (fite fc f g) := by
  refine pe_imp (pe_ifExp hc ha hb) fun σ H Q t => (TF.bind (Rp := fun _ _ (u v : Bool) => u = v) t).mono fun c H1 ⟨M1, ρ, h1, v, r1, e1, p, o⟩ => ?_
  subst p
  cases c with
  | true => rw [if_pos rfl]; exact ⟨M1, ρ, h1, r1, e1, o⟩
  | false => rw [if_neg Bool.false_ne_true]; exact ⟨M1, ρ, h1, r1, e1, o⟩

/-! ### one operand; argument lists -/
def UnJ (G : Gc) (r : V → Hp → VK → Prop) (f : PV → PH → Option PV) : Prop :=
  ∀ M h H u x z Q, HRel G M H h → Rep G M H u x → f x h = some z → (∀ w H', Ext M H M H' → HRel G M H' h → Rep G M H' w z → Q w H') → r u H Q
def un1 (f : PV → PH → Option PV) (fa : SE) : SE := fun ρ h => (fa ρ h).bind fun x h1 => R.of h1 (f x h1)
theorem je_un {op : UnaryOp} {r : V → Hp → VK → Prop} {f : PV → PH → Option PV} (ho : UnR X (unaryOp op) r) (hj : UnJ G r f) (ha : JE G X W a fa) : JE G X W (.UnaryOp op a pos) (un1 f fa) := by
  refine pe_imp (pe_un ho ha) fun σ H Q t => (TF.bind (Rp := fun M H (u : V) (v : PV) => Rep G M H u v) t).mono fun u H1 ⟨M1, ρ, h1, v, r1, e1, p, o⟩ => ?_
  cases hf : f v h1 with
  | none => rw [hf] at o; exact False.elim o
  | some z =>
    rw [hf] at o
    exact hj M1 h1 H1 u v z Q r1 p hf fun w H' x' r' p' => o w M1 H' x' r' p'
def anil : SA := fun _ h => .ok [] h
def acons (f : SE) (g : SA) : SA := fun ρ h => (f ρ h).bind fun x h1 => (g ρ h1).bind fun xs h2 => .ok (x :: xs) h2
theorem ja_nil : JAs G X W [] anil := pa_imp pa_nil fun σ H Q ⟨M, ρ, h, r, e, o⟩ => Out.ret (Rp := fun M H (u : List V) (v : List PV) => Reps G M H u v) o r (b := []) trivial
theorem ja_cons {e : Expr} {es : List Expr} {f : SE} {g : SA} (ha : JE G X W e f) (hr : JAs G X W es g) (hs : starEach (e :: es) X.env = (false, eval e X.env) :: starEach es X.env := by rfl) : JAs G X W (e :: es) (acons f g) := by
  refine pa_imp (pa_cons ha hr hs) fun σ H Q t => ?_
  refine (TF.bind2 (Rp := fun M H (u : V) (v : PV) => Rep G M H u v) (Rp2 := fun M H (u : List V) (v : List PV) => Reps G M H u v) rep_mono t).mono fun u H1 t1 => t1.mono fun v H2 ⟨M2, ρ, h2, x, y, r2, e2, p, q, o⟩ => ?_
  exact Out.ret (Rp := fun M H (u : List V) (v : List PV) => Reps G M H u v) o r2 (b := u :: v) ⟨p, q⟩

/-! ### new tuples and lists -/
theorem rep_tup_new {M : Gh} {H : Hp} {h : PH} (r : HRel G M H h) {p : Addr} (hp : H p = none) {us : List V} {vs : List PV} {o : Obj} (hd : o.dict = none) (hz : us.length ≤ sizeLine) (q : Reps G M H us vs) : Rep G M (upd H p (.frz o (.tup us))) (.ref p) (.tup vs) :=
  ⟨p, us, rfl, .inl ⟨r.fresh hp, o, hd, upd_same⟩, hz, Reps.ext (Ext.new r hp) vs us q⟩
theorem rep_kt_new {M : Gh} {H : Hp} {h : PH} (r : HRel G M H h) {p : Addr} (hp : H p = none) {us : List V} {vs : List PV} (hz : us.length ≤ sizeLine) (q : Reps G M H us vs) : Rep G M (upd H p (.tup us)) (.ref p) (.kt vs) :=
  ⟨p, us, rfl, r.fresh hp, upd_same, hz, Reps.ext (Ext.new r hp) vs us q⟩
theorem rep_lst_new {M : Gh} {H : Hp} {h : PH} (r : HRel G M H h) {p : Addr} (hp : H p = none) {us : List V} {vs : List PV} (hz : us.length ≤ sizeLine) (q : Reps G M H us vs) : Rep G M (upd H p (.lst us)) (.ref p) (.lst vs) :=
  ⟨p, us, rfl, .inl ⟨r.fresh hp, .inl upd_same⟩, hz, Reps.ext (Ext.new r hp) vs us q⟩
def mkTup (g : SA) : SE := fun ρ h => (g ρ h).bind fun xs h1 => if xs.length ≤ sizeLine then .ok (.tup xs) h1 else .bad
def mkKt (g : SA) : SE := fun ρ h => (g ρ h).bind fun xs h1 => if xs.length ≤ sizeLine then .ok (.kt xs) h1 else .bad
def mkLst (g : SA) : SE := fun ρ h => (g ρ h).bind fun xs h1 => if xs.length ≤ sizeLine then .ok (.lst xs) h1 else .bad
/-- a new tuple, its object known -/
def tTupF (t : TA) : TE := fun σ H Q => t σ H fun xs H1 => xs.length ≤ sizeLine ∧ ∀ p o, H1 p = none → o.dict = none → Q (.ref p) (upd H1 p (.frz o (.tup xs)))
theorem pe_tupF {es : List Expr} {t : TA} {x1} (h : PA X es t) : PE X (.Tuple es x1 pos) (tTupF t) := by
  refine ⟨fun pins s σ H Q I hq => ?_⟩
  refine wpAny_Tuple_spliced (thn (h.run pos pins s σ H _ I hq) fun us s1 ⟨xs, H1, I1, r, z, q⟩ => ⟨by rw [← r.length]; exact z, ?_⟩)
  have hf : H1 s1.heap.objs.size = none := I1.hok.fresh (Nat.le_refl _)
  refine ⟨.ref s1.heap.objs.size, upd H1 s1.heap.objs.size (.frz { cls := .type "tuple", data := .seq us.toArray } (.tup xs)), I1.laid (t' := s1.toks) (fun b u e => Heap.get?_push_of_some _ e) (Nat.le_refl _) ?_, rfl, q _ _ hf rfl⟩
  exact ⟨Heap.get?_push_size _ rfl, z, us, r, ⟨_, Heap.get?_push_size _ rfl, rfl, _, rfl⟩⟩
theorem je_tup {es : List Expr} {g : SA} {x1} (h : JAs G X W es g) : JE G X W (.Tuple es x1 pos) (mkTup g) := by
  refine pe_imp (pe_tupF h) fun σ H Q t => (TF.bind (Rp := fun M H (u : List V) (v : List PV) => Reps G M H u v) t).mono fun u H1 ⟨M1, ρ, h1, v, r1, e1, p, o⟩ => ?_
  by_cases hz : v.length ≤ sizeLine
  · simp only [hz, if_true] at o
    refine ⟨by rw [Reps.length p]; exact hz, fun q ob hq hd => ?_⟩
    exact o _ M1 _ (Ext.new r1 hq) (r1.new hq) (rep_tup_new r1 hq hd (by rw [Reps.length p]; exact hz) p)
  · simp only [hz, if_false] at o
    exact False.elim o
theorem je_kt {es : List Expr} {g : SA} {x1} (h : JAs G X W es g) : JE G X W (.Tuple es x1 pos) (mkKt g) := by
  refine pe_imp (pe_tup h) fun σ H Q t => (TF.bind (Rp := fun M H (u : List V) (v : List PV) => Reps G M H u v) t).mono fun u H1 ⟨M1, ρ, h1, v, r1, e1, p, o⟩ => ?_
  by_cases hz : v.length ≤ sizeLine
  · simp only [hz, if_true] at o
    refine ⟨by rw [Reps.length p]; exact hz, fun q hq => ?_⟩
    exact o _ M1 _ (Ext.new r1 hq) (r1.new hq) (rep_kt_new r1 hq (by rw [Reps.length p]; exact hz) p)
  · simp only [hz, if_false] at o
    exact False.elim o
theorem je_lst {es : List Expr} {g : SA} (h : JAs G X W es g) : JE G X W (.List es pos) (mkLst g) := by
  refine pe_imp (pe_lst h) fun σ H Q t => (TF.bind (Rp := fun M H (u : List V) (v : List PV) => Reps G M H u v) t).mono fun u H1 ⟨M1, ρ, h1, v, r1, e1, p, o⟩ => ?_
  by_cases hz : v.length ≤ sizeLine
  · simp only [hz, if_true] at o
    refine ⟨by rw [Reps.length p]; exact hz, fun q hq => ?_⟩
    exact o _ M1 _ (Ext.new r1 hq) (r1.new hq) (rep_lst_new r1 hq (by rw [Reps.length p]; exact hz) p)
  · simp only [hz, if_false] at o
    exact False.elim o
/-- a new mutable object -/
theorem Ext.alloc {M : Gh} {H : Hp} {h : PH} (r : HRel G M H h) {p : Addr} {o : HO} (hp : H p = none) : Ext M H (M.add p) (upd H p o) :=
  ⟨⟨[p], [], rfl, fun a ha => by rw [List.mem_singleton.mp ha]; exact hp⟩, (Ext.new r hp).keep, (Ext.new r hp).dom⟩
theorem HRel.alloc {M : Gh} {H : Hp} {h : PH} (r : HRel G M H h) {p : Addr} {o : HO} (hp : H p = none) {po : PO} (q : ORep G (M.add p) (upd H p o) p po) : HRel G (M.add p) (upd H p o) (h ++ [po]) where
  nd := by
    show (M.L ++ [p]).Nodup
    rw [List.nodup_append]
    refine ⟨r.nd, by simp, fun a ha b hb => ?_⟩
    rw [List.mem_singleton.mp hb]
    exact fun z => r.live0 a ha (z ▸ hp)
  apart := fun a ha => by
    rcases List.mem_append.mp ha with ha | ha
    · exact r.apart a ha
    · rw [List.mem_singleton.mp ha]
      exact fun z => r.fresh hp (.inr z)
  dsub := fun a ha => List.mem_append_left _ (r.dsub a ha)
  hidT := fun a ha xs => by
    have z : a ≠ p := fun z => r.hid a ha (by rw [z]; exact hp)
    rw [upd_ne z]; exact r.hidT a ha xs
  live0 := fun a ha => by
    by_cases z : a = p
    · rw [z, upd_same]; simp
    · rw [upd_ne z]
      rcases List.mem_append.mp ha with ha | ha
      · exact r.live0 a ha
      · exact absurd (List.mem_singleton.mp ha) z
  len := by simp [Gh.add, r.len]
  hid := fun a ha => (Ext.new r hp).dom a (r.hid a ha)
  obj := fun n ob e => by
    by_cases hn : n < h.length
    · rw [List.getElem?_append_left hn] at e
      obtain ⟨a, h1, hd, h2⟩ := r.obj n ob e
      refine ⟨a, by show (M.L ++ [p])[n]? = _; rw [List.getElem?_append_left (by rw [r.len]; exact hn)]; exact h1, hd, h2.ext (Ext.alloc r hp) (upd_ne fun z => ?_) fun dx q _ => upd_ne (ne_of_none q hp)⟩
      exact r.liveL (List.mem_of_getElem? h1) (z ▸ hp)
    · have hl : n < (h ++ [po]).length := (List.getElem?_eq_some_iff.mp e).1
      have hn' : n = h.length := by simp at hl; omega
      subst hn'
      rw [List.getElem?_append_right (Nat.le_refl _), Nat.sub_self] at e
      cases e
      exact ⟨p, by show (M.L ++ [p])[h.length]? = _; rw [← r.len, List.getElem?_append_right (Nat.le_refl _), Nat.sub_self]; rfl, fun _ z => r.live0 p (r.dsub p z) hp, q⟩
  tab := fun P hP => (r.tab P hP).keep fun b u e _ => by rw [upd_ne (ne_of_none e hp)]; exact e
theorem HRel.newLoc {M : Gh} {H : Hp} {h : PH} (r : HRel G M H h) {p : Addr} {o : HO} : Rep G (M.add p) (upd H p o) (.ref p) (.loc h.length) :=
  ⟨p, rfl, by show (M.L ++ [p])[h.length]? = _; rw [← r.len, List.getElem?_append_right (Nat.le_refl _), Nat.sub_self]; rfl⟩
/-- [..] as a mutable list -/
def mkLoc (g : SA) : SE := fun ρ h => (g ρ h).bind fun xs h1 => if xs.length ≤ sizeLine then .ok (.loc h1.length) (h1 ++ [.lst xs]) else .bad
theorem je_lstM {es : List Expr} {g : SA} (h : JAs G X W es g) : JE G X W (.List es pos) (mkLoc g) := by
  refine pe_imp (pe_lst h) fun σ H Q t => (TF.bind (Rp := fun M H (u : List V) (v : List PV) => Reps G M H u v) t).mono fun u H1 ⟨M1, ρ, h1, v, r1, e1, p, o⟩ => ?_
  by_cases hz : v.length ≤ sizeLine
  · simp only [hz, if_true] at o
    refine ⟨by rw [Reps.length p]; exact hz, fun q hq => ?_⟩
    have x := Ext.alloc (o := HO.lst u) r1 hq
    exact o _ _ _ x (r1.alloc hq ⟨u, upd_same, by rw [Reps.length p]; exact hz, Reps.ext x v u p⟩) r1.newLoc
  · simp only [hz, if_false] at o
    exact False.elim o

/-! ### calls of built-ins by values -/
def CallJ (G : Gc) (r : List V → Hp → VK → Prop) (f : List PV → PH → Option PV) : Prop :=
  ∀ M h H us xs z Q, HRel G M H h → Reps G M H us xs → f xs h = some z → (∀ w H', Ext M H M H' → HRel G M H' h → Rep G M H' w z → Q w H') → r us H Q
def cal (f : List PV → PH → Option PV) (g : SA) : SE := fun ρ h => (g ρ h).bind fun xs h1 => R.of h1 (f xs h1)
theorem cal_t {r : List V → Hp → VK → Prop} {f : List PV → PH → Option PV} {g : SA} (hj : CallJ G r f) {σ : L2.St} {H : Hp} {Q : VK} (t : TFE G W (cal f g) σ H Q) : tCB r (TFA G W g) σ H Q := by
  refine (TF.bind (Rp := fun M H (u : List V) (v : List PV) => Reps G M H u v) t).mono fun u H1 ⟨M1, ρ, h1, v, r1, e1, p, o⟩ => ?_
  cases hf : f v h1 with
  | none => rw [hf] at o; exact False.elim o
  | some z =>
    rw [hf] at o
    exact hj M1 h1 H1 u v z Q r1 p hf fun w H' x' r' p' => o w M1 H' x' r' p'
variable {x : Str} {p : Pos} {id T : String} {e : Expr} {es : List Expr} {gA : SA}
theorem je_callB {r : List V → Hp → VK → Prop} {f : List PV → PH → Option PV} (hc : CallR X (.builtin id) r) (hj : CallJ G r f) (hm : X.mg x = none) (ha : JAs G X W (e :: es) gA) (hg : Gl X x := by rfl) (hv : bootBuiltins x = some (.builtin id) := by decide +kernel) (hn : x ≠ "__name__" := by decide) (hdb : (x == ("__debug__" : Str)) = false := by decide)
    (he : starEach (e :: es) X.env = (false, eval e X.env) :: starEach es X.env := by rfl) (hpl : (backTo pos (starEach es X.env)).any (·.1) = false := by rfl) : JE G X W (.Call (.Name x p) (e :: es) [] pos) (cal f gA) :=
  pe_imp (pe_callB hc hg hm hv ha hn hdb he hpl) fun _ _ _ t => cal_t hj t
theorem je_callTy {r : List V → Hp → VK → Prop} {f : List PV → PH → Option PV} (hc : CallR X (.type T) r) (hj : CallJ G r f) (hm : X.mg x = none) (ha : JAs G X W (e :: es) gA) (hg : Gl X x := by rfl) (hv : bootBuiltins x = some (.type T) := by decide +kernel) (hn : x ≠ "__name__" := by decide) (hdb : (x == ("__debug__" : Str)) = false := by decide)
    (he : starEach (e :: es) X.env = (false, eval e X.env) :: starEach es X.env := by rfl) (hpl : (backTo pos (starEach es X.env)).any (·.1) = false := by rfl) : JE G X W (.Call (.Name x p) (e :: es) [] pos) (cal f gA) :=
  pe_imp (pe_callTy hc hg hm hv ha hn hdb he hpl) fun _ _ _ t => cal_t hj t
end
end J

/-! J: operations on values. -/
namespace J
open PySem PySem.Spec PyProof.Rows L2

/-! ### plain data -/
mutual
def toD : PV → PyData
  | .non => .none
  | .bl b => .bool b
  | .int i => .int i
  | .str x => .str x
  | .tup xs => .tuple (toDs xs)
  | .kt xs => .tuple (toDs xs)
  | .lst xs => .list (toDs xs)
  | .dic _ _ _ => .dict []
  | .loc _ => .dict []
def toDs : List PV → List PyData
  | [] => []
  | x :: xs => toD x :: toDs xs
end
mutual
/-- plain, of depth at most n -/
def dle : Nat → PV → Bool
  | _, .non => true
  | _, .bl _ => true
  | _, .int _ => true
  | _, .str _ => true
  | 0, .tup _ => false
  | 0, .kt _ => false
  | 0, .lst _ => false
  | n + 1, .tup xs => dles n xs
  | n + 1, .kt xs => dles n xs
  | n + 1, .lst xs => dles n xs
  | _, .dic _ _ _ => false
  | _, .loc _ => false
def dles : Nat → List PV → Bool
  | _, [] => true
  | n, x :: xs => dle n x && dles n xs
end
theorem toDs_map : ∀ xs : List PV, toDs xs = xs.map toD
  | [] => rfl
  | x :: xs => by rw [toDs, toDs_map xs]; rfl
theorem dles_all (n : Nat) : ∀ xs : List PV, dles n xs = xs.all (dle n)
  | [] => rfl
  | x :: xs => by rw [dles, dles_all n xs]; rfl
mutual
theorem dle_ok : ∀ (v : PV) (n : Nat), dle n v = true → (toD v).plain = true ∧ (toD v).depth ≤ n
  | .non, _, _ => ⟨rfl, Nat.zero_le _⟩
  | .bl _, _, _ => ⟨rfl, Nat.zero_le _⟩
  | .int _, _, _ => ⟨rfl, Nat.zero_le _⟩
  | .str _, _, _ => ⟨rfl, Nat.zero_le _⟩
  | .tup xs, 0, h => by simp [dle] at h
  | .kt xs, 0, h => by simp [dle] at h
  | .lst xs, 0, h => by simp [dle] at h
  | .tup xs, n + 1, h => by
    have q := dles_ok xs n (by simpa [dle] using h)
    exact ⟨by simpa [toD, PyData.plain] using q.1, by simp only [toD, PyData.depth]; omega⟩
  | .kt xs, n + 1, h => by
    have q := dles_ok xs n (by simpa [dle] using h)
    exact ⟨by simpa [toD, PyData.plain] using q.1, by simp only [toD, PyData.depth]; omega⟩
  | .lst xs, n + 1, h => by
    have q := dles_ok xs n (by simpa [dle] using h)
    exact ⟨by simpa [toD, PyData.plain] using q.1, by simp only [toD, PyData.depth]; omega⟩
  | .dic _ _ _, n, h => by cases n <;> simp [dle] at h
  | .loc _, n, h => by cases n <;> simp [dle] at h
theorem dles_ok : ∀ (xs : List PV) (n : Nat), dles n xs = true → PyData.plainAll (toDs xs) = true ∧ PyData.depthAll (toDs xs) ≤ n
  | [], _, _ => ⟨rfl, Nat.zero_le _⟩
  | x :: xs, n, h => by
    simp only [dles, Bool.and_eq_true] at h
    have q1 := dle_ok x n h.1
    have q2 := dles_ok xs n h.2
    refine ⟨by simp only [toDs, PyData.plainAll, q1.1, q2.1, Bool.and_self], ?_⟩
    simp only [toDs, PyData.depthAll]
    omega
end
section
variable {G : Gc} {M : Gh} {H : Hp}
mutual
theorem Rep.dp : ∀ (v : PV) (u : V) (n : Nat), dle n v = true → Rep G M H u v → Dp G.K H u (toD v)
  | .non, _, _, _, h => by cases h; exact .non
  | .bl _, _, _, _, h => by cases h; exact .bl _
  | .int _, _, _, _, h => by cases h; exact .int _
  | .str _, _, _, _, h => by cases h; exact .str _
  | .tup xs, _, 0, h, _ => by simp [dle] at h
  | .kt xs, _, 0, h, _ => by simp [dle] at h
  | .lst xs, _, 0, h, _ => by simp [dle] at h
  | .tup xs, u, n + 1, h, r => by
    obtain ⟨a, us, e, s, _, q⟩ := r
    subst e
    exact .tup s.sq (Reps.dp xs us n (by simpa [dle] using h) q)
  | .kt xs, u, n + 1, h, r => by
    obtain ⟨a, us, e, _, s, _, q⟩ := r
    subst e
    exact .tup (.inl (.inl s)) (Reps.dp xs us n (by simpa [dle] using h) q)
  | .lst xs, u, n + 1, h, r => by
    obtain ⟨a, us, e, s, _, q⟩ := r
    subst e
    exact .lst s.sq (Reps.dp xs us n (by simpa [dle] using h) q)
  | .dic _ _ _, _, n, h, _ => by cases n <;> simp [dle] at h
  | .loc _, _, n, h, _ => by cases n <;> simp [dle] at h
theorem Reps.dp : ∀ (vs : List PV) (us : List V) (n : Nat), dles n vs = true → Reps G M H us vs → DpAll G.K H us (toDs vs)
  | [], [], _, _, _ => .nil
  | [], _ :: _, _, _, h => h.elim
  | _ :: _, [], _, _, h => h.elim
  | v :: vs, u :: us, n, h, r => by
    simp only [dles, Bool.and_eq_true] at h
    exact .cons (Rep.dp v u n h.1 r.1) (Reps.dp vs us n h.2 r.2)
end
end
/-- a mutable list, read -/
def rdO (n : Nat) : Option PO → PV
  | some (.lst xs) => .lst xs
  | _ => .loc n
def rd (h : PH) : PV → PV
  | .loc n => rdO n h[n]?
  | v => v
theorem rdO_cases (n : Nat) (o : Option PO) : (∃ xs, o = some (.lst xs) ∧ rdO n o = .lst xs) ∨ rdO n o = .loc n := by
  cases o with
  | none => exact .inr rfl
  | some o => cases o with
    | lst xs => exact .inl ⟨xs, rfl, rfl⟩
    | _ => exact .inr rfl
theorem rd_cases (h : PH) (n : Nat) : (∃ xs, h[n]? = some (.lst xs) ∧ rd h (.loc n) = .lst xs) ∨ rd h (.loc n) = .loc n := rdO_cases n h[n]?
@[simp] theorem rd_non (h : PH) : rd h .non = .non := nrfl rfl
@[simp] theorem rd_bl (h : PH) (b : Bool) : rd h (.bl b) = .bl b := nrfl rfl
@[simp] theorem rd_int (h : PH) (i : Int) : rd h (.int i) = .int i := nrfl rfl
@[simp] theorem rd_str (h : PH) (x : Str) : rd h (.str x) = .str x := nrfl rfl
@[simp] theorem rd_tup (h : PH) (xs : List PV) : rd h (.tup xs) = .tup xs := nrfl rfl
@[simp] theorem rd_kt (h : PH) (xs : List PV) : rd h (.kt xs) = .kt xs := nrfl rfl
@[simp] theorem rd_lst (h : PH) (xs : List PV) : rd h (.lst xs) = .lst xs := nrfl rfl
theorem rd_loc {h : PH} {n : Nat} {xs : List PV} (e : h[n]? = some (.lst xs)) : rd h (.loc n) = .lst xs := by show rdO n h[n]? = _; rw [e]; rfl
section
variable {G : Gc} {M : Gh} {H : Hp} {h : PH}
/-- what stands for a list: tracked, of so many items -/
theorem Rep.list (r : HRel G M H h) {u : V} {x : PV} (p : Rep G M H u x) {xs : List PV} (e : rd h x = .lst xs) : ∃ a us, u = .ref a ∧ SqL G.K H a us ∧ us.length ≤ sizeLine ∧ Reps G M H us xs := by
  cases x with
  | lst ys =>
    cases e
    obtain ⟨a, us, e1, s, z, q⟩ := p
    exact ⟨a, us, e1, s.sq, z, q⟩
  | loc n =>
    rcases rd_cases h n with ⟨ys, hn, e2⟩ | e2
    · rw [e2] at e
      cases e
      obtain ⟨a, h1, _, us, h2, z, q⟩ := r.obj n _ hn
      obtain ⟨b, e1, e2⟩ := p
      rw [h1] at e2; cases e2
      exact ⟨_, us, e1, .of h2, z, q⟩
    · rw [e2] at e; cases e
  | non => cases e
  | bl _ => cases e
  | int _ => cases e
  | str _ => cases e
  | tup _ => cases e
  | kt _ => cases e
  | dic _ _ _ => cases e
theorem dle_loc (n k : Nat) : dle n (.loc k) = false := by cases n <;> rfl
theorem Rep.dpr (r : HRel G M H h) {u : V} {x : PV} (p : Rep G M H u x) {n : Nat} (d : dle n (rd h x) = true) : Dp G.K H u (toD (rd h x)) := by
  cases x with
  | loc k =>
    rcases rd_cases h k with ⟨xs, hn, e⟩ | e
    · obtain ⟨a, us, e1, s, z, q⟩ := Rep.list r p e
      subst e1
      rw [e] at d ⊢
      cases n with
      | zero => simp [dle] at d
      | succ n => exact .lst s (Reps.dp xs us n (by simpa [dle] using d) q)
    · rw [e, dle_loc] at d; cases d
  | non => exact Rep.dp _ _ n d p
  | bl b => exact Rep.dp _ _ n d p
  | int b => exact Rep.dp _ _ n d p
  | str b => exact Rep.dp _ _ n d p
  | tup b => exact Rep.dp _ _ n d p
  | kt b => exact Rep.dp _ _ n d p
  | lst b => exact Rep.dp _ _ n d p
  | dic t b c => exact Rep.dp (.dic t b c) _ n d p
end
/-- Python's == on plain data -/
def eqv (x y : PV) : Bool := PyData.eqv (toD x) (toD y)
def eqs (xs ys : List PV) : Bool := PyData.eqvAll (toDs xs) (toDs ys)
@[simp] theorem eqv_int (i j : Int) : eqv (.int i) (.int j) = (i == j) := by simp [eqv, toD, PyData.eqv]
@[simp] theorem eqv_str (i j : Str) : eqv (.str i) (.str j) = (i == j) := by simp [eqv, toD, PyData.eqv]
@[simp] theorem eqv_bl (i j : Bool) : eqv (.bl i) (.bl j) = (i == j) := by simp [eqv, toD, PyData.eqv]
@[simp] theorem eqv_tup (i j : List PV) : eqv (.tup i) (.tup j) = eqs i j := by simp [eqv, eqs, toD, PyData.eqv]
@[simp] theorem eqv_lst (i j : List PV) : eqv (.lst i) (.lst j) = eqs i j := by simp [eqv, eqs, toD, PyData.eqv]
@[simp] theorem eqs_nil : eqs [] [] = true := by simp [eqs, toDs, PyData.eqvAll]
@[simp] theorem eqs_cons (x y : PV) (i j : List PV) : eqs (x :: i) (y :: j) = (eqv x y && eqs i j) := by simp [eqv, eqs, toDs, PyData.eqvAll]
@[simp] theorem eqs_nc (y : PV) (j : List PV) : eqs [] (y :: j) = false := by simp [eqs, toDs, PyData.eqvAll]
@[simp] theorem eqs_cn (y : PV) (j : List PV) : eqs (y :: j) [] = false := by simp [eqs, toDs, PyData.eqvAll]

section
variable {G : Gc} {X : Cx} {W : WX}
/-! ### == != in, not in -/
def DEPTH : Nat := 60
def eqO (x y : PV) (h : PH) : Option PV := if dle DEPTH (rd h x) && dle DEPTH (rd h y) then some (.bl (eqv (rd h x) (rd h y))) else none
def neO (x y : PV) (h : PH) : Option PV := if dle DEPTH (rd h x) && dle DEPTH (rd h y) then some (.bl (!eqv (rd h x) (rd h y))) else none
def rEqP (K : PySem.W.Frag) (b : Bool) : R2 := fun x y H Q => ∃ d e, Dp K H x d ∧ Dp K H y e ∧ d.plain = true ∧ e.plain = true ∧ d.depth ≤ 60 ∧ Q (.bl (xor b (PyData.eqv d e))) H
theorem op_eqP (hu : X.A.units + 64 < cLine) : OpR X (compareOp .Eq) (rEqP X.K false) := by
  intro pins s σ H x y v u Q I rx ry h
  obtain ⟨d, e, hd, he, sd, se, z, q⟩ := h
  obtain ⟨as, r1⟩ := Dp.reads I d x v hd rx
  obtain ⟨bs, r2⟩ := Dp.reads I e y u he ry
  exact SeqAt.eq_plain r1 r2 sd se (by omega) ⟨.bl _, H, I, rfl, by simpa using q⟩
theorem op_neP (hu : X.A.units + 64 < cLine) : OpR X (compareOp .NotEq) (rEqP X.K true) := by
  intro pins s σ H x y v u Q I rx ry h
  obtain ⟨d, e, hd, he, sd, se, z, q⟩ := h
  obtain ⟨as, r1⟩ := Dp.reads I d x v hd rx
  obtain ⟨bs, r2⟩ := Dp.reads I e y u he ry
  exact SeqAt.ne_plain r1 r2 sd se (by omega) ⟨.bl _, H, I, rfl, by simpa using q⟩
theorem oj_eq : OpJ G (rEqP G.K false) eqO := by
  intro M h H u v x y z Q r p q e k
  unfold eqO at e
  split at e
  · rename_i c
    simp only [Bool.and_eq_true] at c
    cases e
    have c1 := dle_ok _ _ c.1
    have c2 := dle_ok _ _ c.2
    exact ⟨_, _, Rep.dpr r p c.1, Rep.dpr r q c.2, c1.1, c2.1, c1.2, k _ H (Ext.refl M H) r (by simp [Rep, eqv])⟩
  · cases e
theorem oj_ne : OpJ G (rEqP G.K true) neO := by
  intro M h H u v x y z Q r p q e k
  unfold neO at e
  split at e
  · rename_i c
    simp only [Bool.and_eq_true] at c
    cases e
    have c1 := dle_ok _ _ c.1
    have c2 := dle_ok _ _ c.2
    exact ⟨_, _, Rep.dpr r p c.1, Rep.dpr r q c.2, c1.1, c2.1, c1.2, k _ H (Ext.refl M H) r (by simp [Rep, eqv])⟩
  · cases e
/-- the items of a list or tuple -/
def itemsOf (h : PH) (x : PV) : Option (List PV) := match rd h x with
  | .lst xs => some xs
  | .tup xs => some xs
  | .kt xs => some xs
  | _ => none
def inS (x : PV) (xs : List PV) : Bool := xs.any fun y => eqv y x
def inO (x y : PV) (h : PH) : Option PV := match itemsOf h y with
  | some xs => if dle DEPTH (rd h x) && dles DEPTH xs then some (.bl (inS (rd h x) xs)) else none
  | none => none
def ninO (x y : PV) (h : PH) : Option PV := match itemsOf h y with
  | some xs => if dle DEPTH (rd h x) && dles DEPTH xs then some (.bl (!inS (rd h x) xs)) else none
  | none => none
def rInP (K : PySem.W.Frag) (b : Bool) : R2 := fun x y H Q => ∃ d ds, Dp K H x d ∧ (Dp K H y (.list ds) ∨ Dp K H y (.tuple ds)) ∧ d.plain = true ∧ PyData.plainAll ds = true ∧ d.depth ≤ 60 ∧ Q (.bl (xor b (ds.any fun z => PyData.eqv z d))) H
theorem op_inP (hu : X.A.units + 64 < cLine) : OpR X (compareOp .In) (rInP X.K false) := by
  intro pins s σ H x y v u Q I rx ry h
  obtain ⟨d, ds, hd, he, sd, se, z, q⟩ := h
  obtain ⟨as, r1⟩ := Dp.reads I d x v hd rx
  rcases he with he | he
  · obtain ⟨bs, r2⟩ := Dp.reads I _ y u he ry
    exact SeqAt.in_list_data r2 r1 se sd (by omega) ⟨.bl _, H, I, rfl, by simpa using q⟩
  · obtain ⟨bs, r2⟩ := Dp.reads I _ y u he ry
    exact SeqAt.in_tuple_data r2 r1 se sd (by omega) ⟨.bl _, H, I, rfl, by simpa using q⟩
theorem op_ninP (hu : X.A.units + 64 < cLine) : OpR X (compareOp .NotIn) (rInP X.K true) := by
  intro pins s σ H x y v u Q I rx ry h
  obtain ⟨d, ds, hd, he, sd, se, z, q⟩ := h
  obtain ⟨as, r1⟩ := Dp.reads I d x v hd rx
  rcases he with he | he
  · obtain ⟨bs, r2⟩ := Dp.reads I _ y u he ry
    exact SeqAt.notIn_list_data r2 r1 se sd (by omega) ⟨.bl _, H, I, rfl, by simpa using q⟩
  · obtain ⟨bs, r2⟩ := Dp.reads I _ y u he ry
    exact SeqAt.notIn_tuple_data r2 r1 se sd (by omega) ⟨.bl _, H, I, rfl, by simpa using q⟩
theorem rd_tup_inv {h : PH} {x : PV} {xs : List PV} (e : rd h x = .tup xs) : x = .tup xs := by
  cases x with
  | loc n =>
    rcases rd_cases h n with ⟨ys, _, e2⟩ | e2 <;> (rw [e2] at e; cases e)
  | _ => exact e
theorem rd_kt_inv {h : PH} {x : PV} {xs : List PV} (e : rd h x = .kt xs) : x = .kt xs := by
  cases x with
  | loc n =>
    rcases rd_cases h n with ⟨ys, _, e2⟩ | e2 <;> (rw [e2] at e; cases e)
  | _ => exact e
theorem items_rep {M : Gh} {H : Hp} {h : PH} (r : HRel G M H h) {u : V} {x : PV} (p : Rep G M H u x) {xs : List PV} (e : itemsOf h x = some xs) :
    ∃ a us, u = .ref a ∧ (SqL G.K H a us ∨ SqT G.K H a us) ∧ us.length ≤ sizeLine ∧ Reps G M H us xs := by
  unfold itemsOf at e
  split at e
  · rename_i ys q
    cases e
    obtain ⟨a, us, e1, s, z, q⟩ := Rep.list r p q
    exact ⟨a, us, e1, .inl s, z, q⟩
  · rename_i ys q
    cases e
    have := rd_tup_inv q
    subst this
    obtain ⟨a, us, e1, s, z, q⟩ := p
    exact ⟨a, us, e1, .inr s.sq, z, q⟩
  · rename_i ys q
    cases e
    have := rd_kt_inv q
    subst this
    obtain ⟨a, us, e1, _, s, z, q⟩ := p
    exact ⟨a, us, e1, .inr (.inl (.inl s)), z, q⟩
  · cases e
theorem items_dp {M : Gh} {H : Hp} {h : PH} (r : HRel G M H h) {u : V} {x : PV} (p : Rep G M H u x) {xs : List PV} (e : itemsOf h x = some xs) {n : Nat} (d : dles n xs = true) : Dp G.K H u (.list (toDs xs)) ∨ Dp G.K H u (.tuple (toDs xs)) := by
  obtain ⟨a, us, rfl, s, z, q⟩ := items_rep r p e
  rcases s with s | s
  · exact .inl (.lst s (Reps.dp xs us n d q))
  · exact .inr (.tup s (Reps.dp xs us n d q))
theorem any_toDs (d : PyData) : ∀ xs : List PV, ((toDs xs).any fun z => PyData.eqv z d) = xs.any fun y => PyData.eqv (toD y) d
  | [] => rfl
  | x :: xs => by rw [toDs, List.any_cons, List.any_cons, any_toDs d xs]
theorem oj_in : OpJ G (rInP G.K false) inO := by
  intro M h H u v x y z Q r p q e k
  unfold inO at e
  split at e
  · rename_i xs hx
    split at e
    · rename_i c
      simp only [Bool.and_eq_true] at c
      cases e
      have c1 := dle_ok _ _ c.1
      have c2 := dles_ok _ _ c.2
      exact ⟨_, _, Rep.dpr r p c.1, items_dp r q hx c.2, c1.1, c2.1, c1.2, k _ H (Ext.refl M H) r (by simp [Rep, inS, eqv, any_toDs])⟩
    · cases e
  · cases e
theorem oj_nin : OpJ G (rInP G.K true) ninO := by
  intro M h H u v x y z Q r p q e k
  unfold ninO at e
  split at e
  · rename_i xs hx
    split at e
    · rename_i c
      simp only [Bool.and_eq_true] at c
      cases e
      have c1 := dle_ok _ _ c.1
      have c2 := dles_ok _ _ c.2
      exact ⟨_, _, Rep.dpr r p c.1, items_dp r q hx c.2, c1.1, c2.1, c1.2, k _ H (Ext.refl M H) r (by simp [Rep, inS, eqv, any_toDs])⟩
    · cases e
  · cases e

/-! ### arithmetic -/
theorem OpJ.or1 {r r' : R2} {f : PV → PV → PH → Option PV} (h : OpJ G r f) : OpJ G (fun x y H Q => r x y H Q ∨ r' x y H Q) f := fun M h' H u v x y z Q a b c d e => .inl (h M h' H u v x y z Q a b c d e)
def addO (x y : PV) (h : PH) : Option PV := match rd h x, rd h y with
  | .int i, .int j => some (.int (i + j))
  | .str i, .str j => if i.length + j.length ≤ sizeLine then some (.str (i ++ j)) else none
  | .tup i, .tup j => if i.length + j.length ≤ sizeLine then some (.tup (i ++ j)) else none
  | .lst i, .lst j => if i.length + j.length ≤ sizeLine then some (.lst (i ++ j)) else none
  | _, _ => none
/-- t + u, the new one's object known -/
def rCatF (K : PySem.W.Frag) : R2 := fun x y H Q => ∃ a b xs ys, x = .ref a ∧ y = .ref b ∧ SqT K H a xs ∧ SqT K H b ys ∧ xs.length + ys.length ≤ sizeLine ∧
  (xs = [] → Q (.ref b) H) ∧ (xs ≠ [] → ys = [] → Q (.ref a) H) ∧ (xs ≠ [] → ys ≠ [] → ∀ p o, H p = none → o.dict = none → Q (.ref p) (upd H p (.frz o (.tup (xs ++ ys)))))
theorem op_catF : OpR X (binaryOp .Add) (rCatF X.K) := by
  intro pins s σ H x y v u Q I rx ry h
  obtain ⟨a, b, xs, ys, rfl, rfl, ha, hb, hz, q0, q1, q2⟩ := h
  cases rx
  cases ry
  obtain ⟨its, r1, p1, _⟩ := I.tuple ha
  obtain ⟨its2, r2, p2, _⟩ := I.tuple hb
  by_cases hx : xs = []
  · subst hx
    cases r1
    exact cat_tup0 p1 p2 ⟨.ref b, H, I, rfl, q0 rfl⟩
  · refine HT.cat_tup p1 p2 (fun z => hx (r1.nil_iff.mp z)) (fun z => ⟨.ref a, H, I, rfl, q1 hx (r2.nil_iff.mp z)⟩) (fun z => ?_) (by rw [← r1.length, ← r2.length]; exact hz)
    refine ⟨.ref s.heap.objs.size, _, I.laid (t' := s.toks) (o := .frz { cls := .type "tuple", data := .seq (its ++ its2).toArray } (.tup (xs ++ ys))) (fun b ob q => Heap.get?_push_of_some _ q) (Nat.le_refl _) ?_, rfl, q2 hx (fun w => z (r2.nil_iff.mpr w)) _ _ (I.hok.fresh (Nat.le_refl _)) rfl⟩
    exact ⟨Heap.get?_push_size _ rfl, by rw [List.length_append]; exact hz, _, r1.append r2, IsTup.new _ _⟩
/-- list + list, both to be read -/
def rCatL (K : PySem.W.Frag) : R2 := fun x y H Q => ∃ l b xs zs, x = .ref l ∧ y = .ref b ∧ SqL K H l xs ∧ SqL K H b zs ∧ xs.length + zs.length ≤ sizeLine ∧ ∀ p, H p = none → Q (.ref p) (upd H p (.lst (xs ++ zs)))
theorem op_catL : OpR X (binaryOp .Add) (rCatL X.K) := by
  intro pins s σ H x y v u Q I rx ry h
  obtain ⟨l, b, xs, zs, rfl, rfl, hH, hB, hz, q⟩ := h
  cases rx
  cases ry
  obtain ⟨its, r, ⟨⟨cls, dd, data, sl⟩, n, ho, hc, hd, hs⟩, hl⟩ := I.list hH
  obtain ⟨its2, r2, ⟨⟨cls2, dd2, data2, sl2⟩, n2, ho2, hc2, hd2, hs2⟩, hl2⟩ := I.list hB
  simp only at hc hd hs hc2 hd2 hs2
  subst hc hd hs hc2 hd2 hs2
  have z1 := r.length
  have z2 := r2.length
  refine concat_meets ⟨_, ho, rfl⟩ ⟨_, ho2, rfl⟩ noFill_list_add seq_list_add PySem.F.slot_list_add PySem.F.entry_list_add (PySem.F.args_list_add_2 _ _) (list_addW l b its.toArray its2.toArray n n2 none none sl sl2 (by rw [List.size_toArray, List.size_toArray]; omega)) ⟨ho, ho2, ?_⟩
  have ea : its.toArray ++ its2.toArray = (its ++ its2).toArray := by simp
  rw [ea]
  exact ⟨.ref _, _, I.lnew (t' := s.toks) (r.append r2) (by rw [List.length_append]; omega), rfl, q _ I.fresh⟩
def rAddJ (K : PySem.W.Frag) : R2 := fun x y H Q => rI0 (fun i j => .int (i + j)) x y H Q ∨ (∃ i j, x = .str i ∧ y = .str j ∧ i.length + j.length ≤ sizeLine ∧ Q (.str (i ++ j)) H) ∨ rCatF K x y H Q ∨ rCatL K x y H Q
theorem op_addJ : OpR X (binaryOp .Add) (rAddJ X.K) := OpR.or op_add (OpR.or op_add_str (OpR.or op_catF op_catL))
theorem rd_int_inv {h : PH} {x : PV} {i : Int} (e : rd h x = .int i) : x = .int i := by
  cases x with
  | loc n =>
    rcases rd_cases h n with ⟨ys, _, e2⟩ | e2 <;> (rw [e2] at e; cases e)
  | _ => exact e
theorem rd_str_inv {h : PH} {x : PV} {i : Str} (e : rd h x = .str i) : x = .str i := by
  cases x with
  | loc n =>
    rcases rd_cases h n with ⟨ys, _, e2⟩ | e2 <;> (rw [e2] at e; cases e)
  | _ => exact e
theorem oj_add : OpJ G (rAddJ G.K) addO := by
  intro M h H u v x y z Q r p q e k
  unfold addO at e
  split at e
  · rename_i i j hx hy
    cases e
    have := rd_int_inv hx; subst this
    have := rd_int_inv hy; subst this
    exact .inl ⟨i, j, p, q, k _ H (Ext.refl M H) r rfl⟩
  · rename_i i j hx hy
    split at e
    · rename_i c
      cases e
      have := rd_str_inv hx; subst this
      have := rd_str_inv hy; subst this
      exact .inr (.inl ⟨i, j, p, q, c, k _ H (Ext.refl M H) r rfl⟩)
    · cases e
  · rename_i i j hx hy
    split at e
    · rename_i c
      cases e
      have := rd_tup_inv hx; subst this
      have := rd_tup_inv hy; subst this
      obtain ⟨a, xs, rfl, s1, z1, q1⟩ := p
      obtain ⟨b, ys, rfl, s2, z2, q2⟩ := q
      have l1 := q1.length
      have l2 := q2.length
      refine .inr (.inr (.inl ⟨a, b, xs, ys, rfl, rfl, s1.sq, s2.sq, by omega, fun e => ?_, fun _ e => ?_, fun _ _ pp ob hp hd => ?_⟩))
      · subst e
        have : i = [] := List.eq_nil_of_length_eq_zero (by simpa using l1.symm)
        subst this
        exact k _ H (Ext.refl M H) r ⟨b, ys, rfl, s2, z2, q2⟩
      · subst e
        have : j = [] := List.eq_nil_of_length_eq_zero (by simpa using l2.symm)
        subst this
        exact k _ H (Ext.refl M H) r ⟨a, xs, rfl, s1, z1, by simpa using q1⟩
      · exact k _ _ (Ext.new r hp) (r.new hp) (rep_tup_new r hp hd (by rw [List.length_append]; omega) (q1.append q2))
    · cases e
  · rename_i i j hx hy
    split at e
    · rename_i c
      cases e
      obtain ⟨a, xs, rfl, s1, z1, q1⟩ := Rep.list r p hx
      obtain ⟨b, ys, rfl, s2, z2, q2⟩ := Rep.list r q hy
      have l1 := q1.length
      have l2 := q2.length
      exact .inr (.inr (.inr ⟨a, b, xs, ys, rfl, rfl, s1, s2, by omega, fun pp hp => k _ _ (Ext.new r hp) (r.new hp) (rep_lst_new r hp (by rw [List.length_append]; omega) (q1.append q2))⟩))
    · cases e
  · cases e
/-- an operation on two ints, under a condition -/
def intO (c : Int → Int → Bool) (f : Int → Int → PV) (x y : PV) (h : PH) : Option PV := match x, y with
  | .int i, .int j => if c i j then some (f i j) else none
  | _, _ => none
theorem oj_int {C : Int → Int → Prop} {c : Int → Int → Bool} {g : Int → Int → V} {f : Int → Int → PV} (hc : ∀ i j, c i j = true → C i j) (hg : ∀ M H i j, Rep G M H (g i j) (f i j)) : OpJ G (rI C g) (intO c f) := by
  intro M h H u v x y z Q r p q e k
  cases x <;> cases y <;> first | (cases e; done) | skip
  rename_i i j
  unfold intO at e
  simp only at e
  split at e
  · rename_i cc
    cases e
    exact ⟨i, j, p, q, hc i j cc, k _ H (Ext.refl M H) r (hg M H i j)⟩
  · cases e
def intO0 (f : Int → Int → PV) (x y : PV) (h : PH) : Option PV := match x, y with
  | .int i, .int j => some (f i j)
  | _, _ => none
theorem oj_int0 {g : Int → Int → V} {f : Int → Int → PV} (hg : ∀ M H i j, Rep G M H (g i j) (f i j)) : OpJ G (rI0 g) (intO0 f) := by
  intro M h H u v x y z Q r p q e k
  cases x <;> cases y <;> first | (cases e; done) | skip
  rename_i i j
  cases e
  exact ⟨i, j, p, q, k _ H (Ext.refl M H) r (hg M H i j)⟩
def subO : PV → PV → PH → Option PV := intO0 fun i j => .int (i - j)
theorem oj_sub : OpJ G (rI0 fun i j => .int (i - j)) subO := oj_int0 fun _ _ _ _ => rfl
/-- comparisons of ints -/
def ltI : PV → PV → PH → Option PV := intO0 fun i j => .bl (decide (i < j))
def leI : PV → PV → PH → Option PV := intO0 fun i j => .bl (decide (i ≤ j))
def gtI : PV → PV → PH → Option PV := intO0 fun i j => .bl (decide (j < i))
def geI : PV → PV → PH → Option PV := intO0 fun i j => .bl (decide (j ≤ i))
theorem oj_ltI : OpJ G (rI0 fun i j => .bl (decide (i < j))) ltI := oj_int0 fun _ _ _ _ => rfl
theorem oj_leI : OpJ G (rI0 fun i j => .bl (decide (i ≤ j))) leI := oj_int0 fun _ _ _ _ => rfl
theorem oj_gtI : OpJ G (rI0 fun i j => .bl (decide (j < i))) gtI := oj_int0 fun _ _ _ _ => rfl
theorem oj_geI : OpJ G (rI0 fun i j => .bl (decide (j ≤ i))) geI := oj_int0 fun _ _ _ _ => rfl
end
end J

/-! J: numbers, subscripts, slices, len, int, list, tuple, sorted; methods of built-in types. -/
namespace J
open PySem PySem.Spec PyProof.Rows L2
section
variable {G : Gc} {X : Cx} {W : WX}
/-! ### numbers -/
def mulO : PV → PV → PH → Option PV := intO (fun i j => decide (i.natAbs < 2 ^ 64) || decide (j.natAbs < 2 ^ 64)) fun i j => .int (i * j)
theorem oj_mul : OpJ G (rI CMul fun i j => .int (i * j)) mulO := oj_int (fun i j h => by
  simp only [Bool.or_eq_true, decide_eq_true_eq] at h
  rcases h with h | h
  · exact .inl (by omega)
  · exact .inr (by omega)) fun _ _ _ _ => rfl
def fdivO : PV → PV → PH → Option PV := intO (fun i j => decide (0 < j ∧ j < 1073741824)) fun i j => .int (i / j)
theorem oj_fdiv : OpJ G (rI CDiv fun i j => .int (i / j)) fdivO := oj_int (fun i j h => (of_decide_eq_true h : 0 < j ∧ j < 1073741824)) fun _ _ _ _ => rfl
def modO : PV → PV → PH → Option PV := intO (fun i j => decide (0 < j)) fun i j => .int (i % j)
theorem oj_mod : OpJ G (rI (fun _ j => 0 < j) fun i j => .int (i % j)) modO := oj_int (fun i j h => of_decide_eq_true h) fun _ _ _ _ => rfl
def powO : PV → PV → PH → Option PV := intO (fun i j => decide (0 ≤ j ∧ j ≤ 1000000 ∧ i.natAbs < 2 ^ 64)) fun i j => .int (i ^ j.toNat)
theorem oj_pow : OpJ G (rI CPow fun i j => .int (i ^ j.toNat)) powO := oj_int (fun i j h => (of_decide_eq_true h : 0 ≤ j ∧ j ≤ 1000000 ∧ i.natAbs < 2 ^ 64)) fun _ _ _ _ => rfl
def negO (x : PV) (h : PH) : Option PV := match x with
  | .int i => some (.int (-i))
  | _ => none
theorem uj_neg : UnJ G (rU fun i => .int (-i)) negO := by
  intro M h H u x z Q r p e k
  cases x <;> first | (cases e; done) | skip
  rename_i i
  cases e
  exact ⟨i, p, k _ H (Ext.refl M H) r rfl⟩
/-! ### is None -/
def isNone : PV → Bool
  | .non => true
  | _ => false
def isO (x y : PV) (h : PH) : Option PV := match y with
  | .non => some (.bl (isNone x))
  | _ => none
def isnO (x y : PV) (h : PH) : Option PV := match y with
  | .non => some (.bl (!isNone x))
  | _ => none
theorem rep_none {M : Gh} {H : Hp} {u : V} {x : PV} (p : Rep G M H u x) : decide (u = .non) = isNone x := by
  cases x with
  | non => cases p; rfl
  | bl _ => cases p; rfl
  | int _ => cases p; rfl
  | str _ => cases p; rfl
  | tup _ => obtain ⟨a, xs, rfl, _⟩ := p; rfl
  | kt _ => obtain ⟨a, xs, rfl, _⟩ := p; rfl
  | lst _ => obtain ⟨a, xs, rfl, _⟩ := p; rfl
  | dic _ _ _ => obtain ⟨a, o, d, us, rfl, _⟩ := p; rfl
  | loc _ => obtain ⟨a, rfl, _⟩ := p; rfl
theorem oj_is : OpJ G (fun x y H Q => y = .non ∧ Q (.bl (decide (x = .non))) H) isO := by
  intro M h H u v x y z Q r p q e k
  cases y <;> first | (cases e; done) | skip
  cases e
  exact ⟨q, k _ H (Ext.refl M H) r (by rw [rep_none p]; rfl)⟩
theorem oj_isn : OpJ G (fun x y H Q => y = .non ∧ Q (.bl (!decide (x = .non))) H) isnO := by
  intro M h H u v x y z Q r p q e k
  cases y <;> first | (cases e; done) | skip
  cases e
  exact ⟨q, k _ H (Ext.refl M H) r (by rw [rep_none p]; rfl)⟩
/-! ### comparisons of data -/
def cmpC (x y : PV) (h : PH) : Bool := dle DEPTH (rd h x) && dle DEPTH (rd h y) && PySem.W.alike (toD (rd h x)) (toD (rd h y)) && !isNone (rd h x)
def dlt (x y : PV) : Bool := PySem.W.dataLt (toD x) (toD y)
def ltO (x y : PV) (h : PH) : Option PV := if cmpC x y h then some (.bl (dlt (rd h x) (rd h y))) else none
def gtO (x y : PV) (h : PH) : Option PV := if cmpC x y h then some (.bl (dlt (rd h y) (rd h x))) else none
def leO (x y : PV) (h : PH) : Option PV := if cmpC x y h then some (.bl (!dlt (rd h y) (rd h x))) else none
def geO (x y : PV) (h : PH) : Option PV := if cmpC x y h then some (.bl (!dlt (rd h x) (rd h y))) else none
def rCmp (K : PySem.W.Frag) (f : PyData → PyData → Bool) : R2 := fun x y H Q => ∃ d e, Dp K H x d ∧ Dp K H y e ∧ PySem.W.alike d e = true ∧ d ≠ .none ∧ d.depth ≤ 60 ∧ Q (.bl (f d e)) H
theorem op_ltD (hu : X.A.units + 64 < cLine) : OpR X (compareOp .Lt) (rCmp X.K fun d e => PySem.W.dataLt d e) := by
  intro pins s σ H x y v u Q I rx ry h
  obtain ⟨d, e, hd, he, sd, se, z, q⟩ := h
  obtain ⟨as, r1⟩ := Dp.reads I d x v hd rx
  obtain ⟨bs, r2⟩ := Dp.reads I e y u he ry
  exact PySem.W.lt_data r1 r2 sd se (by omega) ⟨.bl _, H, I, rfl, q⟩
theorem op_gtD (hu : X.A.units + 64 < cLine) : OpR X (compareOp .Gt) (rCmp X.K fun d e => PySem.W.dataLt e d) := by
  intro pins s σ H x y v u Q I rx ry h
  obtain ⟨d, e, hd, he, sd, se, z, q⟩ := h
  obtain ⟨as, r1⟩ := Dp.reads I d x v hd rx
  obtain ⟨bs, r2⟩ := Dp.reads I e y u he ry
  exact PySem.W.gt_data r1 r2 sd se (by omega) ⟨.bl _, H, I, rfl, q⟩
theorem op_leD (hu : X.A.units + 64 < cLine) : OpR X (compareOp .LtE) (rCmp X.K fun d e => !PySem.W.dataLt e d) := by
  intro pins s σ H x y v u Q I rx ry h
  obtain ⟨d, e, hd, he, sd, se, z, q⟩ := h
  obtain ⟨as, r1⟩ := Dp.reads I d x v hd rx
  obtain ⟨bs, r2⟩ := Dp.reads I e y u he ry
  exact PySem.W.le_data r1 r2 sd se (by omega) ⟨.bl _, H, I, rfl, q⟩
theorem op_geD (hu : X.A.units + 64 < cLine) : OpR X (compareOp .GtE) (rCmp X.K fun d e => !PySem.W.dataLt d e) := by
  intro pins s σ H x y v u Q I rx ry h
  obtain ⟨d, e, hd, he, sd, se, z, q⟩ := h
  obtain ⟨as, r1⟩ := Dp.reads I d x v hd rx
  obtain ⟨bs, r2⟩ := Dp.reads I e y u he ry
  exact PySem.W.ge_data r1 r2 sd se (by omega) ⟨.bl _, H, I, rfl, q⟩
theorem isNone_toD {x : PV} (h : isNone x = false) : toD x ≠ .none := by cases x <;> first | (cases h; done) | (intro e; cases e)
theorem oj_cmp (f : PyData → PyData → Bool) : OpJ G (rCmp G.K f) (fun x y h => if cmpC x y h then some (.bl (f (toD (rd h x)) (toD (rd h y)))) else none) := by
  intro M h H u v x y z Q r p q e k
  simp only at e
  split at e
  · rename_i c
    unfold cmpC at c
    simp only [Bool.and_eq_true, Bool.not_eq_true'] at c
    obtain ⟨⟨⟨c1, c2⟩, c3⟩, c4⟩ := c
    cases e
    exact ⟨_, _, Rep.dpr r p c1, Rep.dpr r q c2, c3, isNone_toD c4, (dle_ok _ _ c1).2, k _ H (Ext.refl M H) r rfl⟩
  · cases e
theorem oj_ltD : OpJ G (rCmp G.K fun d e => PySem.W.dataLt d e) ltO := oj_cmp _
theorem oj_gtD : OpJ G (rCmp G.K fun d e => PySem.W.dataLt e d) gtO := oj_cmp _
theorem oj_leD : OpJ G (rCmp G.K fun d e => !PySem.W.dataLt e d) leO := oj_cmp _
theorem oj_geD : OpJ G (rCmp G.K fun d e => !PySem.W.dataLt d e) geO := oj_cmp _

/-! ### subscripts, slices -/
theorem Reps.atI {M : Gh} {H : Hp} {us : List V} {xs : List PV} (r : Reps G M H us xs) {i : Int} {v : PV} (e : atI xs i = some v) : ∃ u, atI us i = some u ∧ Rep G M H u v := by
  unfold L2.atI at e ⊢
  rw [← r.length] at e
  cases q : ixN us.length i with
  | none => rw [q] at e; cases e
  | some j =>
    rw [q] at e
    exact r.get e
def ixO (x y : PV) (h : PH) : Option PV := match y with
  | .int i => match itemsOf h x with
    | some xs => atI xs i
    | none => match x with
      | .str z => if z.length ≤ sizeLine then (atI z.cps.toList i).map fun c => .str ⟨#[c]⟩ else none
      | _ => none
  | _ => none
theorem oj_ix : OpJ G (rIx G.K) ixO := by
  intro M h H u v x y z Q r p q e k
  unfold ixO at e
  split at e
  · rename_i i
    cases q
    split at e
    · rename_i xs hx
      obtain ⟨a, us, rfl, s, _, rs⟩ := items_rep r p hx
      obtain ⟨w, h1, h2⟩ := rs.atI e
      rcases s with s | s
      · exact .inl ⟨a, us, i, w, rfl, rfl, s, h1, k w H (Ext.refl M H) r h2⟩
      · exact .inr (.inl ⟨a, us, i, w, rfl, rfl, s, h1, k w H (Ext.refl M H) r h2⟩)
    · split at e
      · rename_i zz _
        split at e
        · rename_i hz
          cases hc : L2.atI zz.cps.toList i with
          | none => rw [hc] at e; cases e
          | some c =>
            rw [hc] at e
            cases e
            exact .inr (.inr ⟨zz, i, c, p, rfl, hz, hc, k _ H (Ext.refl M H) r rfl⟩)
        · cases e
      · cases e
  · cases e
/-- an optional part of a slice -/
abbrev SO := En → PH → R (Option Int)
abbrev JO (G : Gc) (X : Cx) (W : WX) (e : Option Expr) (f : SO) : Prop := L2.PO X e (TF G W (fun _ _ (u v : Option Int) => u = v) f)
def onone : SO := fun _ h => .ok none h
def osome (f : SE) : SO := fun ρ h => (f ρ h).bind fun v h1 => match v with
  | .int i => .ok (some i) h1
  | _ => .bad
theorem po_imp {e : Option Expr} {t t' : TO} (h : L2.PO X e t) (i : ∀ σ H Q, t' σ H Q → t σ H Q) : L2.PO X e t' := ⟨fun pins s σ H Q I q => h.run pins s σ H Q I (i σ H Q q)⟩
theorem jo_none : JO G X W none onone := po_imp po_none fun σ H Q ⟨M, ρ, h, r, e, o⟩ => Out.ret o r rfl
theorem jo_some {e : Expr} {f : SE} (h : JE G X W e f) : JO G X W (some e) (osome f) := po_imp (po_some h) fun σ H Q t =>
  (TF.bind (Rp := fun M H (u : V) (v : PV) => Rep G M H u v) t).mono fun u H1 ⟨M1, ρ, h1, v, r1, e1, p, o⟩ => by
    cases v <;> first | exact False.elim o | skip
    rename_i i
    exact ⟨i, p, Out.ret o r1 rfl⟩
def cut {α : Type} (xs : List α) (lo hi : Option Int) : List α := (xs.drop (HT.sIx xs.length 0 lo)).take (HT.sIx xs.length xs.length hi - HT.sIx xs.length 0 lo)
theorem cut_length {α : Type} (xs : List α) (lo hi : Option Int) : (cut xs lo hi).length ≤ xs.length := by
  unfold cut
  rw [List.length_take, List.length_drop]
  omega
theorem cut_whole {α : Type} {xs : List α} {lo hi : Option Int} (h : HT.sIx xs.length 0 lo = 0 ∧ HT.sIx xs.length xs.length hi = xs.length) : cut xs lo hi = xs := by
  unfold cut
  rw [h.1, h.2]
  simp
theorem Reps.cut {M : Gh} {H : Hp} {us : List V} {xs : List PV} (r : Reps G M H us xs) (lo hi : Option Int) : Reps G M H (cutV us lo hi) (cut xs lo hi) := by
  unfold L2.cutV J.cut
  rw [r.length]
  exact (r.drop _).take _
/-- t[lo:hi], the new one's object known -/
def rSlF (K : PySem.W.Frag) : V → Option Int → Option Int → Hp → VK → Prop := fun x lo hi H Q => ∃ a xs, x = .ref a ∧ SqT K H a xs ∧
  (HT.sIx xs.length 0 lo = 0 ∧ HT.sIx xs.length xs.length hi = xs.length → Q (.ref a) H) ∧ (¬ (HT.sIx xs.length 0 lo = 0 ∧ HT.sIx xs.length xs.length hi = xs.length) → ∀ p o, H p = none → o.dict = none → Q (.ref p) (upd H p (.frz o (.tup (cutV xs lo hi)))))
theorem sl_tupF : SlR X (rSlF X.K) := by
  intro pins s σ H x v vl vu lo hi sl Q I rx hs pl pu h
  obtain ⟨a, xs, rfl, hx, q1, q2⟩ := h
  cases rx
  obtain ⟨its, r, ht, hz⟩ := I.tuple hx
  have hlen : its.toArray.size = xs.length := by rw [List.size_toArray]; exact r.length.symm
  refine ⟨"tuple", _, PyProof.Rows.slot_tuple_getitem.lookup, ht.typeIs, ?_⟩
  by_cases hw : HT.sIx xs.length 0 lo = 0 ∧ HT.sIx xs.length xs.length hi = xs.length
  · exact getItem_tuple_whole ht hs pl pu (by rw [hlen]; exact hw) ⟨.ref a, H, I, rfl, q1 hw⟩
  · refine HT.getItem_tuple_cut ht hs pl pu (by rw [hlen]; exact hw) ?_ (by rw [hlen]; exact hz)
    rw [hlen]
    refine ⟨.ref s.heap.objs.size, _, I.laid (t' := s.toks) (o := .frz { cls := .type "tuple", data := .seq ((its.toArray.toList.drop (HT.sIx xs.length 0 lo)).take (HT.sIx xs.length xs.length hi - HT.sIx xs.length 0 lo)).toArray } (.tup (cutV xs lo hi))) (fun b ob q => Heap.get?_push_of_some _ q) (Nat.le_refl _) ?_, rfl, q2 hw _ _ (I.hok.fresh (Nat.le_refl _)) rfl⟩
    exact ⟨Heap.get?_push_size _ rfl, Nat.le_trans (cutV_length xs lo hi) hz, _, (r.drop (HT.sIx xs.length 0 lo)).take (HT.sIx xs.length xs.length hi - HT.sIx xs.length 0 lo), IsTup.new _ _⟩
def slO (x : PV) (lo hi : Option Int) (h : PH) : Option PV := match rd h x with
  | .lst xs => some (.lst (cut xs lo hi))
  | .tup xs => some (.tup (cut xs lo hi))
  | _ => none
def slc (fx : SE) (fl fh : SO) : SE := fun ρ h => (fx ρ h).bind fun x h1 => (fl ρ h1).bind fun l h2 => (fh ρ h2).bind fun u h3 => R.of h3 (slO x l u h3)
theorem je_slice {e : Expr} {lo hi : Option Expr} {p2 pos : Pos} {fx : SE} {fl fh : SO} (hK : G.K = X.K) (he : JE G X W e fx) (hl : JO G X W lo fl) (hh : JO G X W hi fh) : JE G X W (.Subscript e (.Slice lo hi none p2) pos) (slc fx fl fh) := by
  refine pe_imp (pe_slice (SlR.or sl_list sl_tupF) he hl hh) fun σ H Q t => ?_
  refine (TF.bind (Rp := fun M H (u : V) (v : PV) => Rep G M H u v) t).mono fun u H1 ⟨M1, ρ, h1, x, r1, e1, p, o⟩ => ⟨M1, ρ, h1, r1, e1, (Out.bind (Rp := fun _ _ (u v : Option Int) => u = v) o).mono fun l H2 ⟨M2, h2, l', x2, r2, pl, o2⟩ => ?_⟩
  refine ⟨M2, ρ, h2, r2, e1.ext x2, (Out.bind (Rp := fun _ _ (u v : Option Int) => u = v) o2).mono fun l3 H3 ⟨M3, h3, l3', x3, r3, pl3, o3⟩ => ?_⟩
  subst pl pl3
  have p3 := Rep.ext (x2.trans x3) x u p
  rw [← hK]
  unfold slO at o3
  cases q : rd h3 x <;> rw [q] at o3 <;> first | exact False.elim o3 | skip
  · rename_i xs
    right
    have := rd_tup_inv q
    subst this
    obtain ⟨a, us, rfl, s, z, rs⟩ := p3
    have hl := rs.length
    refine ⟨a, us, rfl, s.sq, fun hw => ?_, fun hw pp ob hp hd => ?_⟩
    · refine o3 _ M3 H3 (Ext.refl _ _) r3 ?_
      rw [cut_whole (by rw [← hl]; exact hw)]
      exact ⟨a, us, rfl, s, z, rs⟩
    · exact o3 _ M3 _ (Ext.new r3 hp) (r3.new hp) (rep_tup_new r3 hp hd (Nat.le_trans (cutV_length _ _ _) z) (rs.cut _ _))
  · rename_i xs
    left
    obtain ⟨a, us, rfl, s, z, rs⟩ := Rep.list r3 p3 q
    exact ⟨a, us, rfl, s, fun pp hp => o3 _ M3 _ (Ext.new r3 hp) (r3.new hp) (rep_lst_new r3 hp (Nat.le_trans (cutV_length _ _ _) z) (rs.cut _ _))⟩

/-! ### built-ins of one argument -/
theorem reps1 {M : Gh} {H : Hp} {us : List V} {x : PV} (r : Reps G M H us [x]) : ∃ u, us = [u] ∧ Rep G M H u x := by
  match us, r with
  | [u], r => exact ⟨u, rfl, r.1⟩
  | [], r => exact r.elim
  | _ :: _ :: _, r => exact r.2.elim
theorem reps2 {M : Gh} {H : Hp} {us : List V} {x y : PV} (r : Reps G M H us [x, y]) : ∃ u v, us = [u, v] ∧ Rep G M H u x ∧ Rep G M H v y := by
  match us, r with
  | [u, v], r => exact ⟨u, v, rfl, r.1, r.2.1⟩
  | [], r => exact r.elim
  | [_], r => exact r.2.elim
  | _ :: _ :: _ :: _, r => exact r.2.2.elim
def lenO (xs : List PV) (h : PH) : Option PV := match xs with
  | [x] => match itemsOf h x with
    | some ys => some (.int ys.length)
    | none => match x with
      | .str z => if z.length ≤ sizeLine then some (.int z.length) else none
      | _ => none
  | _ => none
def rLenJ (K : PySem.W.Frag) : List V → Hp → VK → Prop := fun xs H Q => (∃ p ys, xs = [.ref p] ∧ (SqL K H p ys ∨ SqT K H p ys) ∧ Q (.int ys.length) H) ∨ ∃ z, xs = [.str z] ∧ z.length ≤ sizeLine ∧ Q (.int z.length) H
theorem cr_lenJ : CallR X (.builtin "len") (rLenJ X.K) := CallR.or call_len_seq call_len_str
theorem cj_len : CallJ G (rLenJ G.K) lenO := by
  intro M h H us xs z Q r p e k
  unfold lenO at e
  split at e
  · rename_i x
    obtain ⟨u, rfl, pu⟩ := reps1 p
    split at e
    · rename_i ys hx
      cases e
      obtain ⟨a, vs, rfl, s, _, rs⟩ := items_rep r pu hx
      refine .inl ⟨a, vs, rfl, s, ?_⟩
      rw [rs.length]
      exact k _ H (Ext.refl M H) r rfl
    · split at e
      · rename_i zz _
        split at e
        · rename_i hz
          cases e
          exact .inr ⟨zz, by rw [show u = V.str zz from pu], hz, k _ H (Ext.refl M H) r rfl⟩
        · cases e
      · cases e
  · cases e
def absO (xs : List PV) (h : PH) : Option PV := match xs with
  | [.int i] => some (.int (if i < 0 then -i else i))
  | _ => none
theorem cj_abs : CallJ G (fun xs H Q => ∃ i, xs = [.int i] ∧ Q (.int (if i < 0 then -i else i)) H) absO := by
  intro M h H us xs z Q r p e k
  unfold absO at e
  split at e
  · rename_i i
    cases e
    obtain ⟨u, rfl, pu⟩ := reps1 p
    exact ⟨i, by rw [show u = V.int i from pu], k _ H (Ext.refl M H) r rfl⟩
  · cases e
def intO1 (xs : List PV) (h : PH) : Option PV := match xs with
  | [.int i] => some (.int i)
  | [.bl b] => some (.int (if b then 1 else 0))
  | _ => none
theorem cj_int : CallJ G (fun xs H Q => (∃ i, xs = [.int i] ∧ Q (.int i) H) ∨ ∃ k, xs = [.bl k] ∧ Q (.int (if k then 1 else 0)) H) intO1 := by
  intro M h H us xs z Q r p e k
  unfold intO1 at e
  split at e
  · rename_i i
    cases e
    obtain ⟨u, rfl, pu⟩ := reps1 p
    exact .inl ⟨i, by rw [show u = V.int i from pu], k _ H (Ext.refl M H) r rfl⟩
  · rename_i i
    cases e
    obtain ⟨u, rfl, pu⟩ := reps1 p
    exact .inr ⟨i, by rw [show u = V.bl i from pu], k _ H (Ext.refl M H) r rfl⟩
  · cases e
def max2O (xs : List PV) (h : PH) : Option PV := match xs with
  | [.int i, .int j] => some (.int (if j > i then j else i))
  | _ => none
theorem cj_max2 : CallJ G (fun xs H Q => ∃ i j, xs = [.int i, .int j] ∧ Q (.int (if j > i then j else i)) H) max2O := by
  intro M h H us xs z Q r p e k
  unfold max2O at e
  split at e
  · rename_i i j
    cases e
    obtain ⟨u, v, rfl, pu, qu⟩ := reps2 p
    exact ⟨i, j, by rw [show u = V.int i from pu, show v = V.int j from qu], k _ H (Ext.refl M H) r rfl⟩
  · cases e
def min2O (xs : List PV) (h : PH) : Option PV := match xs with
  | [.int i, .int j] => some (.int (if j < i then j else i))
  | _ => none
theorem cj_min2 : CallJ G (fun xs H Q => ∃ i j, xs = [.int i, .int j] ∧ Q (.int (if j < i then j else i)) H) min2O := by
  intro M h H us xs z Q r p e k
  unfold min2O at e
  split at e
  · rename_i i j
    cases e
    obtain ⟨u, v, rfl, pu, qu⟩ := reps2 p
    exact ⟨i, j, by rw [show u = V.int i from pu, show v = V.int j from qu], k _ H (Ext.refl M H) r rfl⟩
  · cases e
/-! ### list(x), tuple(x) -/
def listO (xs : List PV) (h : PH) : Option PV := match xs with
  | [x] => (itemsOf h x).map .lst
  | _ => none
theorem cj_list : CallJ G (fun xs H Q => ∃ p ys, xs = [.ref p] ∧ (SqL G.K H p ys ∨ SqT G.K H p ys) ∧ ∀ l, H l = none → Q (.ref l) (upd H l (.lst ys))) listO := by
  intro M h H us xs z Q r p e k
  unfold listO at e
  split at e
  · rename_i x
    obtain ⟨u, rfl, pu⟩ := reps1 p
    cases hx : itemsOf h x with
    | none => rw [hx] at e; cases e
    | some ys =>
      rw [hx] at e
      cases e
      obtain ⟨a, vs, rfl, s, z, rs⟩ := items_rep r pu hx
      exact ⟨a, vs, rfl, s, fun l hl => k _ _ (Ext.new r hl) (r.new hl) (rep_lst_new r hl z rs)⟩
  · cases e
def rTupF (K : PySem.W.Frag) : List V → Hp → VK → Prop := fun xs H Q => ∃ p ys, xs = [.ref p] ∧ ((SqL K H p ys ∧ ∀ l o, H l = none → o.dict = none → Q (.ref l) (upd H l (.frz o (.tup ys)))) ∨ (SqT K H p ys ∧ Q (.ref p) H))
theorem cr_tupF : CallR X (.type "tuple") (rTupF X.K) := by
  intro pins s σ H xs us Q I r h
  obtain ⟨p, ys, rfl, h⟩ := h
  obtain ⟨u, rfl, rx⟩ := vals1 r
  cases rx
  rcases h with ⟨hq, q⟩ | ⟨hq, q⟩
  · obtain ⟨its, r', pl, hz⟩ := I.list hq
    have hlen := r'.length
    refine call_tuple_list pl.isList (fun h' kp => ?_) (by simp only [List.size_toArray] <;> omega)
    have I1 : Inv X pins σ H { s with heap := h' } := I.kept (t' := s.toks) kp
    have I2 : Inv X pins σ (upd H h'.objs.size (.frz { cls := .type "tuple", data := .seq its.toArray } (.tup ys))) { s with heap := h'.push { cls := .type "tuple", data := .seq its.toArray } } :=
      I1.laid (t' := s.toks) (fun b o e => Heap.get?_push_of_some _ e) (Nat.le_refl _) ⟨Heap.get?_push_size _ rfl, hz, its, r', IsTup.new _ _⟩
    exact ⟨.ref h'.objs.size, _, I2, rfl, q _ _ (I1.hok.fresh (Nat.le_refl _)) rfl⟩
  · obtain ⟨its, r', pl, hz⟩ := I.tuple hq
    exact call_tuple_same pl ⟨.ref p, H, I, rfl, q⟩
def tupleO (xs : List PV) (h : PH) : Option PV := match xs with
  | [x] => match rd h x with
    | .lst ys => some (.tup ys)
    | .tup ys => some (.tup ys)
    | _ => none
  | _ => none
theorem cj_tuple : CallJ G (rTupF G.K) tupleO := by
  intro M h H us xs z Q r p e k
  unfold tupleO at e
  split at e
  · rename_i x
    obtain ⟨u, rfl, pu⟩ := reps1 p
    split at e
    · rename_i ys hx
      cases e
      obtain ⟨a, vs, rfl, s, z, rs⟩ := Rep.list r pu hx
      exact ⟨a, vs, rfl, .inl ⟨s, fun l o hl hd => k _ _ (Ext.new r hl) (r.new hl) (rep_tup_new r hl hd z rs)⟩⟩
    · rename_i ys hx
      cases e
      have := rd_tup_inv hx
      subst this
      obtain ⟨a, vs, rfl, s, z, rs⟩ := pu
      exact ⟨a, vs, rfl, .inr ⟨s.sq, k _ H (Ext.refl M H) r ⟨a, vs, rfl, s, z, rs⟩⟩⟩
    · cases e
  · cases e
/-- list(x) as a mutable list -/
def listM (g : SA) : SE := fun ρ h => (g ρ h).bind fun xs h1 => match xs with
  | [x] => match itemsOf h1 x with
    | some ys => .ok (.loc h1.length) (h1 ++ [.lst ys])
    | none => .bad
  | _ => .bad
theorem je_listM {e : Expr} {es : List Expr} {gA : SA} {p pos : Pos} (hK : G.K = X.K) (hm : X.mg "list" = none) (ha : JAs G X W (e :: es) gA) (hg : Gl X "list" := by rfl) (hv : bootBuiltins "list" = some (.type "list") := by decide +kernel)
    (he : starEach (e :: es) X.env = (false, eval e X.env) :: starEach es X.env := by rfl) (hpl : (backTo pos (starEach es X.env)).any (·.1) = false := by rfl) : JE G X W (.Call (.Name "list" p) (e :: es) [] pos) (listM gA) := by
  refine pe_imp (pe_callTy call_list_of hg hm hv ha (by decide) (by decide) he hpl) fun σ H Q t => (TF.bind (Rp := fun M H (u : List V) (v : List PV) => Reps G M H u v) t).mono fun us H1 ⟨M1, ρ, h1, v, r1, e1, p, o⟩ => ?_
  rw [← hK]
  match v, o, p with
  | [x], o, p =>
    obtain ⟨u, rfl, pu⟩ := reps1 p
    simp only at o
    split at o
    · rename_i ys hx
      obtain ⟨a, vs, rfl, s, z, rs⟩ := items_rep r1 pu hx
      refine ⟨a, vs, rfl, s, fun l hl => ?_⟩
      have x := Ext.alloc (o := HO.lst vs) r1 hl
      exact o _ _ _ x (r1.alloc hl ⟨vs, upd_same, z, Reps.ext x ys vs rs⟩) r1.newLoc
    · exact False.elim o
  | [], o, p => exact False.elim o
  | _ :: _ :: _, o, p => exact False.elim o

/-! ### sorted of ints -/
def intsOf : List PV → Option (List Int)
  | [] => some []
  | .int i :: r => (intsOf r).map (i :: ·)
  | _ :: _ => none
theorem intsOf_eq : ∀ {xs : List PV} {ns : List Int}, intsOf xs = some ns → xs = ns.map .int
  | [], ns, e => by cases e; rfl
  | x :: r, ns, e => by
    cases x <;> first | (cases e; done) | skip
    rename_i i
    unfold intsOf at e
    cases q : intsOf r with
    | none => rw [q] at e; cases e
    | some ms => rw [q] at e; cases e; rw [intsOf_eq q]; rfl
@[simp] theorem intsOf_map : ∀ ns : List Int, intsOf (ns.map .int) = some ns
  | [] => rfl
  | n :: ns => by rw [List.map_cons, intsOf, intsOf_map ns]; rfl
theorem Reps.ints {M : Gh} {H : Hp} : ∀ {us : List V} {ns : List Int}, Reps G M H us (ns.map .int) → us = ns.map V.int
  | [], [], _ => rfl
  | [], _ :: _, h => h.elim
  | _ :: _, [], h => h.elim
  | u :: us, n :: ns, h => by
    rw [List.map_cons, Reps.ints h.2, show u = V.int n from h.1]
theorem reps_ints {M : Gh} {H : Hp} : ∀ ns : List Int, Reps G M H (ns.map V.int) (ns.map .int)
  | [] => trivial
  | n :: ns => ⟨rfl, reps_ints ns⟩
def ins1 (x : Int) : List Int → List Int
  | [] => [x]
  | y :: ys => if x ≤ y then x :: y :: ys else y :: ins1 x ys
def isort : List Int → List Int
  | [] => []
  | x :: xs => ins1 x (isort xs)
theorem ins1_perm (x : Int) : ∀ ys : List Int, (ins1 x ys).Perm (x :: ys)
  | [] => .refl _
  | y :: ys => by
    unfold ins1
    split
    · exact .refl _
    · exact ((ins1_perm x ys).cons y).trans (.swap x y ys)
theorem isort_perm : ∀ ns : List Int, (isort ns).Perm ns
  | [] => .refl _
  | x :: xs => (ins1_perm x (isort xs)).trans ((isort_perm xs).cons x)
theorem ins1_sorted (x : Int) : ∀ ys : List Int, ys.Pairwise (· ≤ ·) → (ins1 x ys).Pairwise (· ≤ ·)
  | [], _ => by simp [ins1]
  | y :: ys, h => by
    unfold ins1
    rw [List.pairwise_cons] at h
    split
    · rename_i q
      refine List.pairwise_cons.mpr ⟨fun z hz => ?_, List.pairwise_cons.mpr h⟩
      rcases List.mem_cons.mp hz with rfl | hz
      · exact q
      · exact Int.le_trans q (h.1 z hz)
    · rename_i q
      refine List.pairwise_cons.mpr ⟨fun z hz => ?_, ins1_sorted x ys h.2⟩
      rcases List.mem_cons.mp ((ins1_perm x ys).mem_iff.mp hz) with rfl | hz
      · omega
      · exact h.1 z hz
theorem isort_sorted : ∀ ns : List Int, (isort ns).Pairwise (· ≤ ·)
  | [] => .nil
  | x :: xs => ins1_sorted x _ (isort_sorted xs)
theorem sorted_unique : ∀ {a b : List Int}, a.Perm b → a.Pairwise (· ≤ ·) → b.Pairwise (· ≤ ·) → a = b := fun {a b} p h1 h2 =>
  List.Perm.eq_of_pairwise (le := (· ≤ ·)) (fun x y _ _ h1 h2 => Int.le_antisymm h1 h2) h1 h2 p
def sortedO (xs : List PV) (h : PH) : Option PV := match xs with
  | [x] => match rd h x with
    | .lst ys => (intsOf ys).map fun ns => .lst ((isort ns).map .int)
    | _ => none
  | _ => none
theorem cj_sorted : CallJ G (rSortedI G.K) sortedO := by
  intro M h H us xs z Q r p e k
  unfold sortedO at e
  split at e
  · rename_i x
    obtain ⟨u, rfl, pu⟩ := reps1 p
    split at e
    · rename_i ys hx
      cases hi : intsOf ys with
      | none => rw [hi] at e; cases e
      | some ns =>
        rw [hi] at e
        cases e
        have := intsOf_eq hi
        subst this
        obtain ⟨a, vs, rfl, s, z, rs⟩ := Rep.list r pu hx
        have := rs.ints
        subst this
        refine ⟨a, ns, rfl, s, fun ns' p h1 h2 hp => ?_⟩
        rw [sorted_unique (h1.trans (isort_perm ns).symm) h2 (isort_sorted ns)]
        refine k _ _ (Ext.new r hp) (r.new hp) (rep_lst_new r hp ?_ (reps_ints _))
        rw [List.length_map, (isort_perm ns).length_eq]
        rw [List.length_map] at z
        exact z
    · cases e
  · cases e
end
end J

/-! J: methods of built-in types; stores. -/
namespace J
open PySem PySem.Spec PyProof.Rows L2
inductive Ty where
  | list | tuple | str | dict
def Ty.nm : Ty → String
  | .list => "list"
  | .tuple => "tuple"
  | .str => "str"
  | .dict => "dict"
/-- a dict, mutable or not -/
def dicO : Option PO → Option (Bool × List PV × List PV)
  | some (.dic t ks vs) => some (t, ks, vs)
  | _ => none
def rdD (h : PH) : PV → Option (Bool × List PV × List PV)
  | .dic t ks vs => some (t, ks, vs)
  | .loc n => dicO h[n]?
  | _ => none
def isT : Ty → PH → PV → Bool
  | .list, h, x => match rd h x with
    | .lst _ => true
    | _ => false
  | .tuple, _, x => match x with
    | .tup _ => true
    | _ => false
  | .str, _, x => match x with
    | .str _ => true
    | _ => false
  | .dict, h, x => (rdD h x).isSome
def tyG (K : PySem.W.Frag) (T : Ty) (x : V) (H : Hp) : Prop := match T with
  | .list => ∃ p xs, x = .ref p ∧ SqL K H p xs
  | .tuple => ∃ p, x = .ref p ∧ ((∃ o xs, o.dict = none ∧ H p = some (.frz o (.tup xs))) ∨ ∃ o, K.lookup p = some o ∧ o.cls = .type "tuple" ∧ o.dict = none)
  | .str => ∃ z, x = .str z
  | .dict => ∃ p, x = .ref p ∧ ((∃ kvs, Rd H p (.dK kvs)) ∨ ∃ kvs, Rd H p (.dT kvs))
section
variable {X : Cx}
theorem tyG_is {pins : List (Addr × Obj)} {σ : L2.St} {H : Hp} {s : Shared} {T : Ty} {x : V} {v : Value} (I : Inv X pins σ H s) (r : RelV x v) (ty : tyG X.K T x H) :
    s.TypeIs v T.nm ∧ ∀ a, v = .ref a → ∃ ob, s.heap.get? a = some ob ∧ ob.dict = none := by
  cases T with
  | list =>
    obtain ⟨p, xs, rfl, hq⟩ := ty
    cases r
    obtain ⟨its, _, pl, _⟩ := I.list hq
    refine ⟨pl.isList.typeIs, fun a e => ?_⟩
    cases e
    obtain ⟨o, n, e, c, hd, _⟩ := pl
    exact ⟨o, e, hd⟩
  | tuple =>
    obtain ⟨p, rfl, h⟩ := ty
    cases r
    rcases h with ⟨o, xs, hd, hp⟩ | ⟨o, hk, hc, hd⟩
    · obtain ⟨e, _, its, _, o', e', c, _⟩ := I.hok p _ hp
      rw [e] at e'; cases e'
      refine ⟨⟨o, e, c⟩, fun a e2 => ?_⟩
      cases e2
      exact ⟨o, e, hd⟩
    · refine ⟨⟨o, I.kIn p o hk, hc⟩, fun a e => ?_⟩
      cases e
      exact ⟨o, I.kIn _ o hk, hd⟩
  | str =>
    obtain ⟨z, rfl⟩ := ty
    obtain ⟨t, rfl⟩ := r
    exact ⟨typeIs_str s z t, fun _ e => nomatch e⟩
  | dict =>
    obtain ⟨p, rfl, h⟩ := ty
    cases r
    have z : ∃ o, s.heap.get? p = some o ∧ o.ExactDict := by
      rcases h with ⟨kvs, hk⟩ | ⟨kvs, hk⟩
      · obtain ⟨_, _, _, _, o, _, _, e, ex, _⟩ := hk.ok I.hok
        exact ⟨o, e, ex⟩
      · obtain ⟨_, _, _, _, o, _, _, e, ex, _⟩ := hk.ok I.hok
        exact ⟨o, e, ex⟩
    obtain ⟨o, e, ex⟩ := z
    refine ⟨⟨o, e, ex.1⟩, fun a e2 => ?_⟩
    cases e2
    exact ⟨o, e, ex.2.1⟩
def tBMG (K : PySem.W.Frag) (T : Ty) (r : V → List V → Hp → VK → Prop) (to : TE) (t : TA) : TE := fun σ H Q => to σ H fun x H1 => tyG K T x H1 ∧ t σ H1 fun xs H2 => r x xs H2 Q
def tBMG0 (K : PySem.W.Frag) (T : Ty) (r : V → List V → Hp → VK → Prop) (to : TE) : TE := fun σ H Q => to σ H fun x H1 => tyG K T x H1 ∧ r x [] H1 Q
variable {o e : Expr} {es : List Expr} {to : TE} {t : TA} {name : Str} {apos cpos : Pos} {T : Ty} {id : String} {r : V → List V → Hp → VK → Prop}
theorem pe_bmG0 (pa : PlainAttrs T.nm) (slot : Slot T.nm name id) (hty : typeOf (.builtin id) = pure (.type "method_descriptor")) (hm : MtR X id r) (ho : PE X o to)
    (hbase : attributeBase o name X.env (eval o X.env) = eval o X.env) (hline : (apos.endLine == cpos.line) = true) : PE X (.Call (.Attribute o name apos) [] [] cpos) (tBMG0 X.K T r to) := by
  refine ⟨fun pins s σ H Q I h => ?_⟩
  refine wpAny_Call_method0_late hbase hline (thn (ho.run pins s σ H _ I h) fun v s1 ⟨x, H1, I1, r1, ty, q1⟩ => ?_)
  obtain ⟨h1, h2⟩ := tyG_is I1 r1 ty
  exact ⟨T.nm, id, pa, slot, hty, h1, h2, Calls.callWith_builtin rfl (PySem.evalArgs_none (hm pins s1 σ H1 x [] v [] Q I1 r1 .nil q1))⟩
theorem pe_bmG (pa : PlainAttrs T.nm) (slot : Slot T.nm name id) (hty : typeOf (.builtin id) = pure (.type "method_descriptor")) (hm : MtR X id r) (ho : PE X o to) (ha : PA X (e :: es) t)
    (hbase : attributeBase o name X.env (eval o X.env) = eval o X.env)
    (hfew : ((backTo cpos (starEach (e :: es) X.env)).all (fun x => !x.1) && (backToKw cpos (keywordEach [] X.env)).all (fun x => x.1.isSome)
      && decide ((e :: es).length + ([] : List Keyword).length + (if ([] : List Keyword).isEmpty then 0 else 1) < 30)) = true)
    (hline : (apos.endLine == cpos.line) = true) (hs : starEach (e :: es) X.env = (false, eval e X.env) :: starEach es X.env) (hplain : (backTo cpos (starEach es X.env)).any (·.1) = false) :
    PE X (.Call (.Attribute o name apos) (e :: es) [] cpos) (tBMG X.K T r to t) := by
  refine ⟨fun pins s σ H Q I h => ?_⟩
  refine wpAny_Call_method_late hbase hfew hline rfl (thn (ho.run pins s σ H _ I h) fun v s1 ⟨x, H1, I1, r1, ty, q1⟩ => ?_)
  obtain ⟨h1, h2⟩ := tyG_is I1 r1 ty
  refine ⟨T.nm, id, pa, slot, hty, h1, h2, ?_⟩
  have hA := ha.run cpos pins s1 σ H1 _ I1 q1
  rw [hs] at hA ⊢
  refine Calls.callWith_builtin (by show (false || (backTo cpos (starEach es X.env)).any (·.1)) = false; rw [hplain] <;> rfl) (Calls.evalArgs_plain ?_)
  exact thn hA fun us s2 ⟨vs, H2, I2, r2, q2⟩ => hm pins s2 σ H2 x vs v us Q I2 r1 r2 q2
end
section
variable {G : Gc} {M : Gh} {H : Hp} {h : PH}
theorem rdD_rep (r : HRel G M H h) {u : V} {x : PV} (p : Rep G M H u x) {t : Bool} {ks vs : List PV} (e : rdD h x = some (t, ks, vs)) : ∃ a d us, u = .ref a ∧ Rd H a d ∧ DO t ks us d ∧ Reps G M H us vs := by
  cases x with
  | dic t k v =>
    cases e
    obtain ⟨a, o, d, us, e1, _, hd, q, r⟩ := p
    exact ⟨a, d, us, e1, .inr ⟨o, hd⟩, q, r⟩
  | loc n =>
    obtain ⟨a, e1, e2⟩ := p
    have e : dicO h[n]? = some (t, ks, vs) := e
    cases hn : h[n]? with
    | none => rw [hn] at e; cases e
    | some o =>
      cases o with
      | dic t k v =>
        rw [hn] at e; cases e
        obtain ⟨b, h1, _, us, d, hd, q, rr⟩ := r.obj n _ hn
        rw [h1] at e2; cases e2
        exact ⟨_, d, us, e1, .inl hd, q, rr⟩
      | lst xs => rw [hn] at e; cases e
      | dead => rw [hn] at e; cases e
      | ins c fs => rw [hn] at e; cases e
  | non => cases e
  | bl _ => cases e
  | int _ => cases e
  | str _ => cases e
  | tup _ => cases e
  | kt _ => cases e
  | lst _ => cases e
theorem isT_tyG (r : HRel G M H h) {u : V} {x : PV} (p : Rep G M H u x) {T : Ty} (e : isT T h x = true) : tyG G.K T u H := by
  cases T with
  | list =>
    unfold isT at e
    simp only at e
    split at e
    · rename_i xs hx
      obtain ⟨a, us, e1, s, _, _⟩ := Rep.list r p hx
      exact ⟨a, us, e1, s⟩
    · cases e
  | tuple =>
    cases x with
    | tup xs =>
      obtain ⟨a, us, e1, s, _⟩ := p
      refine ⟨a, e1, ?_⟩
      rcases s with ⟨_, o, d, s⟩ | ⟨o, its, n, k, c, d, _⟩
      · exact .inl ⟨o, us, d, s⟩
      · exact .inr ⟨o, k, c, d⟩
    | _ => cases e
  | str =>
    cases x with
    | str z => exact ⟨z, p⟩
    | _ => cases e
  | dict =>
    unfold isT at e
    simp only at e
    cases q : rdD h x with
    | none => rw [q] at e; cases e
    | some kv =>
      obtain ⟨t, ks, vs⟩ := kv
      obtain ⟨a, d, us, e1, hd, dd, _⟩ := rdD_rep r p q
      refine ⟨a, e1, ?_⟩
      cases t with
      | false =>
        obtain ⟨kvs, rfl, _⟩ := dd
        exact .inl ⟨kvs, hd⟩
      | true =>
        obtain ⟨kvs, rfl, _⟩ := dd
        exact .inr ⟨kvs, hd⟩
end
/-- a method by values: the heap may change -/
def MtJ (G : Gc) (r : V → List V → Hp → VK → Prop) (f : PV → List PV → PH → Option (PV × PH)) : Prop :=
  ∀ M h H u us x xs z h' Q, HRel G M H h → Rep G M H u x → Reps G M H us xs → f x xs h = some (z, h') → (∀ w H', Ext M H M H' → HRel G M H' h' → Rep G M H' w z → Q w H') → r u us H Q
def met (T : Ty) (f : PV → List PV → PH → Option (PV × PH)) (fo : SE) (ga : SA) : SE := fun ρ h => (fo ρ h).bind fun x h1 => if isT T h1 x then (ga ρ h1).bind fun xs h2 => (match f x xs h2 with
  | some (z, h') => .ok z h'
  | none => .bad) else .bad
section
variable {G : Gc} {X : Cx} {W : WX} {o e : Expr} {es : List Expr} {fo : SE} {ga : SA} {name : Str} {apos cpos : Pos} {T : Ty} {id : String} {r : V → List V → Hp → VK → Prop} {f : PV → List PV → PH → Option (PV × PH)}
theorem je_met (hK : G.K = X.K) (pa : PlainAttrs T.nm) (slot : Slot T.nm name id) (hty : typeOf (.builtin id) = pure (.type "method_descriptor")) (hm : MtR X id r) (hj : MtJ G r f) (ho : JE G X W o fo) (ha : JAs G X W (e :: es) ga)
    (hbase : attributeBase o name X.env (eval o X.env) = eval o X.env := by rfl)
    (hfew : ((backTo cpos (starEach (e :: es) X.env)).all (fun x => !x.1) && (backToKw cpos (keywordEach [] X.env)).all (fun x => x.1.isSome)
      && decide ((e :: es).length + ([] : List Keyword).length + (if ([] : List Keyword).isEmpty then 0 else 1) < 30)) = true := by rfl)
    (hline : (apos.endLine == cpos.line) = true := by rfl) (hs : starEach (e :: es) X.env = (false, eval e X.env) :: starEach es X.env := by rfl) (hplain : (backTo cpos (starEach es X.env)).any (·.1) = false := by rfl) :
    JE G X W (.Call (.Attribute o name apos) (e :: es) [] cpos) (met T f fo ga) := by
  refine pe_imp (pe_bmG pa slot hty hm ho ha hbase hfew hline hs hplain) fun σ H Q t => ?_
  refine (TF.bind (Rp := fun M H (u : V) (v : PV) => Rep G M H u v) t).mono fun u H1 ⟨M1, ρ, h1, x, r1, e1, p, o1⟩ => ?_
  by_cases ht : isT T h1 x = true
  · rw [if_pos ht] at o1
    refine ⟨by rw [← hK]; exact isT_tyG r1 p ht, M1, ρ, h1, r1, e1, (Out.bind (Rp := fun M H (u : List V) (v : List PV) => Reps G M H u v) o1).mono fun us H2 ⟨M2, h2, xs, x2, r2, ps, o2⟩ => ?_⟩
    cases hf : f x xs h2 with
    | none => rw [hf] at o2; exact False.elim o2
    | some zh =>
      obtain ⟨z, h'⟩ := zh
      rw [hf] at o2
      exact hj M2 h2 H2 u us x xs z h' Q r2 (Rep.ext x2 x u p) ps hf fun w H' xx rr pp => o2 w M2 H' xx rr pp
  · rw [if_neg ht] at o1
    exact False.elim o1
def met0 (T : Ty) (f : PV → List PV → PH → Option (PV × PH)) (fo : SE) : SE := fun ρ h => (fo ρ h).bind fun x h1 => if isT T h1 x then (match f x [] h1 with
  | some (z, h') => .ok z h'
  | none => .bad) else .bad
theorem je_met0 (hK : G.K = X.K) (pa : PlainAttrs T.nm) (slot : Slot T.nm name id) (hty : typeOf (.builtin id) = pure (.type "method_descriptor")) (hm : MtR X id r) (hj : MtJ G r f) (ho : JE G X W o fo)
    (hbase : attributeBase o name X.env (eval o X.env) = eval o X.env := by rfl) (hline : (apos.endLine == cpos.line) = true := by rfl) :
    JE G X W (.Call (.Attribute o name apos) [] [] cpos) (met0 T f fo) := by
  refine pe_imp (pe_bmG0 pa slot hty hm ho hbase hline) fun σ H Q t => ?_
  refine (TF.bind (Rp := fun M H (u : V) (v : PV) => Rep G M H u v) t).mono fun u H1 ⟨M1, ρ, h1, x, r1, e1, p, o1⟩ => ?_
  by_cases ht : isT T h1 x = true
  · rw [if_pos ht] at o1
    refine ⟨by rw [← hK]; exact isT_tyG r1 p ht, ?_⟩
    cases hf : f x [] h1 with
    | none => rw [hf] at o1; exact False.elim o1
    | some zh =>
      obtain ⟨z, h'⟩ := zh
      rw [hf] at o1
      exact hj M1 h1 H1 u [] x [] z h' Q r1 p trivial hf fun w H' xx rr pp => o1 w M1 H' xx rr pp
  · rw [if_neg ht] at o1
    exact False.elim o1

/-! ### a mutable object is written -/
theorem Ext.wr {M : Gh} {H : Hp} {h : PH} (r : HRel G M H h) {a : Addr} (ha : a ∈ M.L) (hd : a ∉ M.D) {o : HO} : Ext M H M (upd H a o) :=
  ⟨⟨[], [], by simp, by simp⟩, fun b u e n t => by exact (upd_ne (show b ≠ a from fun z => by subst z; exact hd (n ha))).trans e, fun b e => by
    by_cases z : b = a
    · rw [z, upd_same]; simp
    · rw [upd_ne z]; exact e⟩
theorem HRel.wr {M : Gh} {H : Hp} {h : PH} (r : HRel G M H h) {n : Nat} {a : Addr} (ha : M.L[n]? = some a) (hD : a ∉ M.D) {o : HO} {po : PO} (nt : ∀ u, Fix u → H a ≠ some u) (nd : ∀ b, H a ≠ some (.own b)) (q : ORep G M (upd H a o) a po) : HRel G M (upd H a o) (h.set n po) where
  nd := r.nd
  apart := r.apart
  len := by simp [r.len]
  hid := fun b hb => (Ext.wr r (List.mem_of_getElem? ha) hD).dom b (r.hid b hb)
  dsub := r.dsub
  hidT := fun b hb xs => by
    have z : b ≠ a := fun z => r.apart a (List.mem_of_getElem? ha) (by rw [← z]; exact hb)
    rw [upd_ne z]; exact r.hidT b hb xs
  live0 := fun b hb => (Ext.wr r (List.mem_of_getElem? ha) hD).dom b (r.live0 b hb)
  obj := fun k ob e => by
    by_cases hk : n = k
    · subst hk
      have hl : n < h.length := by
        have := (List.getElem?_eq_some_iff.mp e).1
        simpa using this
      rw [List.getElem?_set_self hl] at e
      cases e
      exact ⟨a, ha, fun _ => hD, q⟩
    · rw [List.getElem?_set_ne hk] at e
      obtain ⟨b, h1, hdd, h2⟩ := r.obj k ob e
      have hba : b ≠ a := fun z => by
        subst z
        obtain ⟨p1, q1⟩ := List.getElem?_eq_some_iff.mp h1
        obtain ⟨p2, q2⟩ := List.getElem?_eq_some_iff.mp ha
        exact hk ((List.getElem_inj r.nd).mp (q2.trans q1.symm))
      exact ⟨b, h1, hdd, h2.ext (Ext.wr r (List.mem_of_getElem? ha) hD) (upd_ne hba) fun dx e _ => upd_ne fun z => nd b (z ▸ e)⟩
  tab := fun P hP => (r.tab P hP).keep fun b u e f => (upd_ne (show b ≠ a from fun z => nt u f (z ▸ e))).trans e
/-- a list that is a loc -/
theorem HRel.lstAt {M : Gh} {H : Hp} {h : PH} (r : HRel G M H h) {n : Nat} {xs : List PV} (hn : h[n]? = some (.lst xs)) : ∃ a us, M.L[n]? = some a ∧ H a = some (.lst us) ∧ us.length ≤ sizeLine ∧ Reps G M H us xs := by
  obtain ⟨a, h1, _, us, h2, z, q⟩ := r.obj n _ hn
  exact ⟨a, us, h1, h2, z, q⟩
theorem HRel.alive {M : Gh} {H : Hp} {h : PH} (r : HRel G M H h) {n : Nat} {a : Addr} {o : PO} (ha : M.L[n]? = some a) (hn : h[n]? = some o) (ho : o ≠ .dead) : a ∉ M.D := by
  obtain ⟨b, h1, hd, _⟩ := r.obj n o hn
  rw [ha] at h1
  cases h1
  exact hd ho
/-- the list at loc n becomes ys -/
theorem HRel.setL {M : Gh} {H : Hp} {h : PH} (r : HRel G M H h) {n : Nat} {a : Addr} {us vs : List V} {xs0 ys : List PV} (hn : h[n]? = some (.lst xs0)) (ha : M.L[n]? = some a) (hH : H a = some (.lst us)) (hz : vs.length ≤ sizeLine) (q : Reps G M H vs ys) :
    Ext M H M (upd H a (.lst vs)) ∧ HRel G M (upd H a (.lst vs)) (h.set n (.lst ys)) := by
  have hD : a ∉ M.D := r.alive ha hn (fun z => by cases z)
  have x := Ext.wr (o := HO.lst vs) r (List.mem_of_getElem? ha) hD
  exact ⟨x, r.wr ha hD (fun u f z => by rw [hH] at z; cases z; exact f) (fun b z => by rw [hH] at z; cases z) ⟨vs, upd_same, hz, Reps.ext x ys vs q⟩⟩
def appendO (x : PV) (xs : List PV) (h : PH) : Option (PV × PH) := match x, xs with
  | .loc n, [y] => match h[n]? with
    | some (.lst ys) => if ys.length < sizeLine then some (.non, h.set n (.lst (ys ++ [y]))) else none
    | _ => none
  | _, _ => none
theorem mj_append : MtJ G rAppend appendO := by
  intro M h H u us x xs z h' Q r p q e k
  unfold appendO at e
  split at e
  · rename_i n y
    obtain ⟨v, rfl, pv⟩ := reps1 q
    split at e
    · rename_i ys hn
      split at e
      · rename_i hz
        cases e
        obtain ⟨a, vs, h1, h2, z, rs⟩ := r.lstAt hn
        obtain ⟨b, rfl, e2⟩ := p
        rw [h1] at e2; cases e2
        have hl := rs.length
        obtain ⟨xx, rr⟩ := r.setL (vs := vs ++ [v]) (ys := ys ++ [y]) hn h1 h2 (by simp; omega) (rs.snoc pv)
        exact ⟨_, vs, v, rfl, rfl, h2, by omega, k _ _ xx rr rfl⟩
      · cases e
    · cases e
  · cases e
/-! ### index, count, remove by ==; of plain data -/
def indexOf (ys : List PV) (y : PV) : Option Nat := ys.findIdx? fun z => eqv z y
def indexO (x : PV) (xs : List PV) (h : PH) : Option (PV × PH) := match xs with
  | [y] => match itemsOf h x with
    | some ys => if dles DEPTH ys && dle DEPTH (rd h y) then (indexOf ys (rd h y)).map fun j => (.int (j : Nat), h) else none
    | none => none
  | _ => none
theorem place_eq (ys : List PV) (y : PV) : SeqAt.dataPlace (toDs ys) (toD y) = indexOf ys y := by
  unfold SeqAt.dataPlace indexOf
  rw [toDs_map, List.findIdx?_map]
  rfl
def rIndexP (K : PySem.W.Frag) (T : Ty) : V → List V → Hp → VK → Prop := fun x xs H Q => ∃ (y : V) (d : PyData) (ds : List PyData) (j : Nat), xs = [y] ∧ (match T with | .list => Dp K H x (.list ds) | _ => Dp K H x (.tuple ds)) ∧ Dp K H y d ∧ d.plain = true ∧ PyData.plainAll ds = true ∧ d.depth ≤ 60 ∧ SeqAt.dataPlace ds d = some j ∧ Q (.int (j : Nat)) H
theorem mt_indexT (hu : X.A.units + 64 < cLine) : MtR X "tuple.index" (rIndexP X.K .tuple) := by
  intro pins s σ H x xs v us Q I rx rs h
  obtain ⟨y, d, ds, j, rfl, hx, hy, pd, pds, dd, hp, q⟩ := h
  obtain ⟨uy, rfl, ry⟩ := vals1 rs
  obtain ⟨bs, r1⟩ := Dp.reads I d y uy hy ry
  have hx' : Dp X.K H x (.tuple ds) := hx
  cases hx' with
  | tup hs ha =>
    cases rx
    obtain ⟨its, rv, ⟨⟨cls, ddt, dt, sl⟩, ho, hc, n, hd⟩, hz⟩ := I.tuple hs
    simp only at hc hd
    subst hc hd
    obtain ⟨as, h4⟩ := Dp.readsAll I ds _ its ha rv
    have h4' : ReadsAll s.heap its.toArray.toList ds as := h4
    obtain ⟨hj, hit, hno⟩ := SeqAt.hit_at h4' pds hp
    exact call_meets PySem.F.slot_tuple_index ⟨_, ho, rfl⟩ PySem.F.entry_tuple_index (PySem.F.args_tuple_index_2 _ _) (TI.tuple_indexAt _ its.toArray n ddt sl uy _ j hj hit hno) ⟨ho, SeqAt.items_plain h4' r1 pds pd (by omega), .int (j : Nat), H, I.tok _, ⟨_, rfl⟩, q⟩
theorem mt_indexL (hu : X.A.units + 64 < cLine) : MtR X "list.index" (rIndexP X.K .list) := by
  intro pins s σ H x xs v us Q I rx rs h
  obtain ⟨y, d, ds, j, rfl, hx, hy, pd, pds, dd, hp, q⟩ := h
  obtain ⟨uy, rfl, ry⟩ := vals1 rs
  obtain ⟨bs, r1⟩ := Dp.reads I d y uy hy ry
  have hx' : Dp X.K H x (.list ds) := hx
  cases hx' with
  | lst hs ha =>
    cases rx
    obtain ⟨its, rv, ⟨⟨cls, ddt, dt, sl⟩, n, ho, hc, hdn, hd⟩, hz⟩ := I.list hs
    simp only at hc hd hdn
    subst hc hd hdn
    obtain ⟨as, h4⟩ := Dp.readsAll I ds _ its ha rv
    have h4' : ReadsAll s.heap its.toArray.toList ds as := h4
    obtain ⟨hj, hit, hno⟩ := SeqAt.hit_at h4' pds hp
    have hl := rv.length
    have hsl := sizeLine_eq
    exact call_meets PySem.F.slot_list_index ⟨_, ho, rfl⟩ PySem.F.entry_list_index (PySem.F.args_list_index_2 _ _) (SeqAt.list_indexAt _ its.toArray n none sl uy _ j hj (by rw [List.size_toArray] at hj; omega) hit hno) ⟨ho, SeqAt.items_plain h4' r1 pds pd (by omega), .int (j : Nat), H, I.tok _, ⟨_, rfl⟩, q⟩
theorem mj_indexT : MtJ G (rIndexP G.K .tuple) (fun x xs h => if isT .tuple h x then indexO x xs h else none) := by
  intro M h H u us x xs z h' Q r p q e k
  simp only at e
  split at e
  · rename_i ht
    cases x with
    | tup ys =>
      unfold indexO at e
      split at e
      · rename_i y
        obtain ⟨v, rfl, pv⟩ := reps1 q
        simp only [itemsOf, rd_tup] at e
        split at e
        · rename_i c
          simp only [Bool.and_eq_true] at c
          cases hi : indexOf ys (rd h y) with
          | none => rw [hi] at e; cases e
          | some j =>
            rw [hi] at e
            cases e
            obtain ⟨a, vs, rfl, s, z, rs⟩ := p
            have c1 := dle_ok _ _ c.2
            have c2 := dles_ok _ _ c.1
            exact ⟨v, _, _, j, rfl, .tup s.sq (Reps.dp ys vs _ c.1 rs), Rep.dpr r pv c.2, c1.1, c2.1, c1.2, by rw [place_eq]; exact hi, k _ H (Ext.refl M H) r rfl⟩
        · cases e
      · cases e
    | _ => cases ht
  · cases e
theorem mj_indexL : MtJ G (rIndexP G.K .list) (fun x xs h => if isT .list h x then indexO x xs h else none) := by
  intro M h H u us x xs z h' Q r p q e k
  simp only at e
  split at e
  · rename_i ht
    unfold isT at ht
    simp only at ht
    split at ht
    · rename_i ys hx
      unfold indexO at e
      split at e
      · rename_i y
        obtain ⟨v, rfl, pv⟩ := reps1 q
        simp only [itemsOf, hx] at e
        split at e
        · rename_i c
          simp only [Bool.and_eq_true] at c
          cases hi : indexOf ys (rd h y) with
          | none => rw [hi] at e; cases e
          | some j =>
            rw [hi] at e
            cases e
            obtain ⟨a, vs, rfl, s, z, rs⟩ := Rep.list r p hx
            have c1 := dle_ok _ _ c.2
            have c2 := dles_ok _ _ c.1
            exact ⟨v, _, _, j, rfl, .lst s (Reps.dp ys vs _ c.1 rs), Rep.dpr r pv c.2, c1.1, c2.1, c1.2, by rw [place_eq]; exact hi, k _ H (Ext.refl M H) r rfl⟩
        · cases e
      · cases e
    · cases ht
  · cases e
/-- l.remove(x), x in l -/
def removeO (x : PV) (xs : List PV) (h : PH) : Option (PV × PH) := match x, xs with
  | .loc n, [y] => match h[n]? with
    | some (.lst ys) => if dles DEPTH ys && dle DEPTH (rd h y) then (indexOf ys (rd h y)).map fun j => (.non, h.set n (.lst (ys.eraseIdx j))) else none
    | _ => none
  | _, _ => none
def rRemP (K : PySem.W.Frag) : V → List V → Hp → VK → Prop := fun x vs H Q => ∃ (l : Addr) (y : V) (xs : List V) (d : PyData) (ds : List PyData) (j : Nat), x = .ref l ∧ vs = [y] ∧ H l = some (.lst xs) ∧ DpAll K H xs ds ∧ Dp K H y d ∧ d.plain = true ∧ PyData.plainAll ds = true ∧ d.depth ≤ 60 ∧ SeqAt.dataPlace ds d = some j ∧ Q .non (upd H l (.lst (xs.eraseIdx j)))
theorem mt_removeP (hu : X.A.units + 64 < cLine) : MtR X "list.remove" (rRemP X.K) := by
  intro pins s σ H x vs v us Q I rx rv h
  obtain ⟨l, y, xs, d, ds, j, rfl, rfl, hH, ha, hy, pd, pds, dd, hp, q⟩ := h
  cases rx
  obtain ⟨uy, rfl, ry⟩ := vals1 rv
  obtain ⟨bs, r1⟩ := Dp.reads I d y uy hy ry
  obtain ⟨z, its, n, r, hl, e⟩ := I.lstM hH
  obtain ⟨as, h4⟩ := Dp.readsAll I ds _ its ha r
  have h4' : ReadsAll s.heap its.toArray.toList ds as := h4
  have hj : j < its.length := by
    obtain ⟨hj, _⟩ := SeqAt.hit_at h4' pds hp
    simpa using hj
  refine SeqAt.remove_list_data ⟨_, e, rfl, _, rfl⟩ h4' r1 pds pd (by omega) hp (by rw [List.size_toArray]; omega) ?_
  refine ⟨.non, _, I.lset (its' := its.eraseIdx j) hH e (by simp) (r.eraseIdx j) ?_, rfl, q⟩
  exact Nat.le_trans (len_erase xs j) z
theorem Reps.erase {M : Gh} {H : Hp} : ∀ {us : List V} {xs : List PV} (j : Nat), Reps G M H us xs → Reps G M H (us.eraseIdx j) (xs.eraseIdx j)
  | [], [], _, _ => by simp; exact trivial
  | [], _ :: _, _, h => h.elim
  | _ :: _, [], _, h => h.elim
  | u :: us, x :: xs, 0, h => h.2
  | u :: us, x :: xs, j + 1, h => ⟨h.1, Reps.erase j h.2⟩
theorem mj_remove : MtJ G (rRemP G.K) removeO := by
  intro M h H u us x xs z h' Q r p q e k
  unfold removeO at e
  split at e
  · rename_i n y
    obtain ⟨v, rfl, pv⟩ := reps1 q
    split at e
    · rename_i ys hn
      split at e
      · rename_i c
        simp only [Bool.and_eq_true] at c
        cases hi : indexOf ys (rd h y) with
        | none => rw [hi] at e; cases e
        | some j =>
          rw [hi] at e
          cases e
          obtain ⟨a, vs, h1, h2, z, rs⟩ := r.lstAt hn
          obtain ⟨b, rfl, e2⟩ := p
          rw [h1] at e2; cases e2
          have c1 := dle_ok _ _ c.2
          have c2 := dles_ok _ _ c.1
          obtain ⟨xx, rr⟩ := r.setL (vs := vs.eraseIdx j) (ys := ys.eraseIdx j) hn h1 h2 (Nat.le_trans (len_erase vs j) z) (rs.erase j)
          exact ⟨_, v, vs, _, _, j, rfl, rfl, h2, Reps.dp ys vs _ c.1 rs, Rep.dpr r pv c.2, c1.1, c2.1, c1.2, by rw [place_eq]; exact hi, k _ _ xx rr rfl⟩
      · cases e
    · cases e
  · cases e
end
end J

/-! J: statements, targets, what is walked, loops. -/
namespace J
open PySem PySem.Spec PyProof.Rows L2

inductive RS where
  | nx (ρ : En) (h : PH)
  | rt (v : PV) (h : PH)
  | bk (ρ : En) (h : PH)
  | ct (ρ : En) (h : PH)
  | ex (e : Ex) (ρ : En) (h : PH)
  | bad
abbrev SS := En → PH → RS

def OutS (G : Gc) (W : WX) (M : Gh) (H : Hp) (r : RS) (D : Ends) : Prop :=
  match r with
  | .nx ρ' h' => ∀ σ' M' H', Ext M H M' H' → HRel G M' H' h' → ERel G M' H' ρ' σ' → D.nx σ' H'
  | .rt v h' => ∀ u M' H', Ext M H M' H' → HRel G M' H' h' → Rep G M' H' u v → D.rt u H'
  | .bk ρ' h' => ∀ σ' M' H', Ext M H M' H' → HRel G M' H' h' → ERel G M' H' ρ' σ' → D.bk σ' H'
  | .ct ρ' h' => ∀ σ' M' H', Ext M H M' H' → HRel G M' H' h' → ERel G M' H' ρ' σ' → D.ct σ' H'
  | .ex e ρ' h' => ∀ cls d σ' M' H', Ext M H M' H' → HRel G M' H' h' → ERel G M' H' ρ' σ' → XRep G M' H' e cls d → W cls d σ' H'
  | .bad => False
def TSF (G : Gc) (W : WX) (f : SS) : TS := fun D σ H => ∃ M ρ h, HRel G M H h ∧ ERel G M H ρ σ ∧ OutS G W M H (f ρ h) D
abbrev JS (G : Gc) (X : Cx) (W : WX) (s : Stmt) (f : SS) : Prop := PS X s (TSF G W f)
abbrev JSs (G : Gc) (X : Cx) (W : WX) (s : List Stmt) (f : SS) : Prop := PSs X s (TSF G W f)
theorem ps_imp {X : Cx} {s : Stmt} {t t' : TS} (h : PS X s t) (i : ∀ D σ H, t' D σ H → t D σ H) : PS X s t' := ⟨fun pins s σ H D I q => h.run pins s σ H D I (i D σ H q)⟩
theorem pss_imp {X : Cx} {s : List Stmt} {t t' : TS} (h : PSs X s t) (i : ∀ D σ H, t' D σ H → t D σ H) : PSs X s t' := ⟨fun pins s σ H D I q => h.run pins s σ H D I (i D σ H q)⟩

def R.toS {α : Type} (r : R α) (ρ : En) (k : α → PH → RS) : RS := match r with
  | .ok a h => k a h
  | .exc e h => .ex e ρ h
  | .bad => .bad
@[simp] theorem R.toS_ok {α : Type} (a : α) (h : PH) (ρ : En) (k : α → PH → RS) : (R.ok a h).toS ρ k = k a h := nrfl rfl
@[simp] theorem R.toS_exc {α : Type} (e : Ex) (h : PH) (ρ : En) (k : α → PH → RS) : (R.exc e h : R α).toS ρ k = .ex e ρ h := nrfl rfl
@[simp] theorem R.toS_bad {α : Type} (ρ : En) (k : α → PH → RS) : (R.bad : R α).toS ρ k = .bad := nrfl rfl
section
variable {α β : Type} {G : Gc} {W : WX} {σ : L2.St} {Rp : Gh → Hp → β → α → Prop} {M M1 : Gh} {H H1 : Hp} {ρ : En}
theorem OutS.ext {r : RS} {D : Ends} (x : Ext M H M1 H1) (o : OutS G W M H r D) : OutS G W M1 H1 r D := by
  cases r with
  | nx => exact fun s M' H' y => o s M' H' (x.trans y)
  | rt => exact fun s M' H' y => o s M' H' (x.trans y)
  | bk => exact fun s M' H' y => o s M' H' (x.trans y)
  | ct => exact fun s M' H' y => o s M' H' (x.trans y)
  | ex => exact fun cls d s M' H' y => o cls d s M' H' (x.trans y)
  | bad => exact o
theorem OutS.bind {r : R α} {k : α → PH → RS} {D : Ends} (e : ERel G M H ρ σ) (o : OutS G W M H (r.toS ρ k) D) :
    Out G W σ Rp M H r (fun b H1 => ∃ M1 h1 a, Ext M H M1 H1 ∧ HRel G M1 H1 h1 ∧ Rp M1 H1 b a ∧ OutS G W M1 H1 (k a h1) D) := by
  cases r with
  | ok a h => exact fun b M' H' x r p => ⟨M', h, a, x, r, p, OutS.ext x o⟩
  | exc ex h => exact fun cls d M' H' x r p => o cls d σ M' H' x r (e.ext x) p
  | bad => exact o
theorem TSF.bind {f : En → PH → R α} {k : En → α → PH → RS} {D : Ends} (t : TSF G W (fun ρ h => (f ρ h).toS ρ (k ρ)) D σ H) :
    TF G W Rp f σ H (fun b H1 => ∃ M1 ρ h1 a, HRel G M1 H1 h1 ∧ ERel G M1 H1 ρ σ ∧ Rp M1 H1 b a ∧ OutS G W M1 H1 (k ρ a h1) D) := by
  obtain ⟨M, ρ, h, r, e, o⟩ := t
  exact ⟨M, ρ, h, r, e, (OutS.bind (Rp := Rp) e o).mono fun b H1 ⟨M1, h1, a, x, r1, p, o1⟩ => ⟨M1, ρ, h1, a, r1, e.ext x, p, o1⟩⟩
end
section
variable {G : Gc} {X : Cx} {W : WX} {st : Stmt} {rest : List Stmt} {f g : SS} {e : Expr} {fe : SE} {pos : Pos}
def snil : SS := fun ρ h => .nx ρ h
def seq (f g : SS) : SS := fun ρ h => match f ρ h with
  | .nx ρ' h' => g ρ' h'
  | r => r
theorem jss_nil : JSs G X W [] snil := pss_imp pss_nil fun D σ H ⟨M, ρ, h, r, e, o⟩ => o σ M H (Ext.refl M H) r e
theorem jss_cons (h1 : JS G X W st f) (h2 : JSs G X W rest g) : JSs G X W (st :: rest) (seq f g) := by
  refine pss_imp (pss_cons h1 h2) fun D σ H ⟨M, ρ, h, r, e, o⟩ => ⟨M, ρ, h, r, e, ?_⟩
  unfold seq at o
  cases q : f ρ h with
  | nx ρ' h' =>
    rw [q] at o
    exact fun σ' M' H' x r' e' => ⟨M', ρ', h', r', e', OutS.ext x o⟩
  | rt => rw [q] at o; exact o
  | bk => rw [q] at o; exact o
  | ct => rw [q] at o; exact o
  | ex => rw [q] at o; exact o
  | bad => rw [q] at o; exact o
theorem jss_one (h1 : JS G X W st f) : JSs G X W [st] f := pss_one h1
def sret (f : SE) : SS := fun ρ h => (f ρ h).toS ρ fun v h1 => .rt v h1
theorem js_ret (h : JE G X W e fe) : JS G X W (.Return (some e) pos) (sret fe) :=
  ps_imp (ps_ret h) fun D σ H t => (TSF.bind (Rp := fun M H (u : V) (v : PV) => Rep G M H u v) t).mono fun u H1 ⟨M1, ρ, h1, v, r1, e1, p, o⟩ => o u M1 H1 (Ext.refl _ _) r1 p
def sretN : SS := fun ρ h => .rt .non h
theorem js_retN : JS G X W (.Return none pos) sretN := ps_imp ps_retN fun D σ H ⟨M, ρ, h, r, e, o⟩ => o .non M H (Ext.refl M H) r rfl
def sexp (f : SE) : SS := fun ρ h => (f ρ h).toS ρ fun _ h1 => .nx ρ h1
theorem js_expr (h : JE G X W e fe) (hs : swapsWith e none pos.line X.env = pure false := by rfl) : JS G X W (.Expr e pos) (sexp fe) :=
  ps_imp (ps_expr h hs) fun D σ H t => (TSF.bind (Rp := fun M H (u : V) (v : PV) => Rep G M H u v) (k := fun ρ _ h1 => .nx ρ h1) t).mono fun u H1 ⟨M1, ρ, h1, v, r1, e1, p, o⟩ => o σ M1 H1 (Ext.refl _ _) r1 e1
def sbrk : SS := fun ρ h => .bk ρ h
def scont : SS := fun ρ h => .ct ρ h
theorem js_pass : JS G X W (.Pass pos) snil := ps_imp ps_pass fun D σ H ⟨M, ρ, h, r, e, o⟩ => o σ M H (Ext.refl M H) r e
theorem js_break : JS G X W (.Break pos) sbrk := ps_imp ps_break fun D σ H ⟨M, ρ, h, r, e, o⟩ => o σ M H (Ext.refl M H) r e
theorem js_continue : JS G X W (.Continue pos) scont := ps_imp ps_continue fun D σ H ⟨M, ρ, h, r, e, o⟩ => o σ M H (Ext.refl M H) r e
def sif (c : SB) (f g : SS) : SS := fun ρ h => (c ρ h).toS ρ fun b h1 => if b then f ρ h1 else g ρ h1
theorem js_if {c : Expr} {a b : List Stmt} {fc : SB} (hc : JT G X W c fc) (ha : JSs G X W a f) (hb : JSs G X W b g) : JS G X W (.If c a b pos) (sif fc f g) := by
  refine ps_imp (ps_if hc ha hb) fun D σ H t => (TSF.bind (Rp := fun _ _ (u v : Bool) => u = v) (k := fun ρ b h1 => if b then f ρ h1 else g ρ h1) t).mono fun b H1 ⟨M1, ρ, h1, v, r1, e1, p, o⟩ => ?_
  subst p
  cases b with
  | true => rw [if_pos rfl]; exact ⟨M1, ρ, h1, r1, e1, o⟩
  | false => rw [if_neg Bool.false_ne_true]; exact ⟨M1, ρ, h1, r1, e1, o⟩
def sset (i : Nat) (f : SE) : SS := fun ρ h => (f ρ h).toS ρ fun v h1 => .nx (ρ.set i (some v)) h1
theorem set_t {i : Nat} {D : Ends} {σ : L2.St} {H : Hp} (t : TSF G W (sset i fe) D σ H) : tAsg (TFE G W fe) (gName i) D σ H :=
  (TSF.bind (Rp := fun M H (u : V) (v : PV) => Rep G M H u v) (k := fun ρ v h1 => .nx (ρ.set i (some v)) h1) t).mono fun u H1 ⟨M1, ρ, h1, v, r1, e1, p, o⟩ => o _ M1 H1 (Ext.refl _ _) r1 (e1.set p)
theorem js_set (i : Nat) {x : Str} {pos' : Pos} (hN : X.N.Nodup) (h : JE G X W e fe) (hi : X.N[i]? = some x := by rfl) (hx : Loc X.env.scope x := by first | exact Or.inl rfl | exact Or.inr rfl)
    (hs : swapsWith e (some (.Name x pos')) pos.line X.env = pure false := by rfl) (hf : X.fn x = true ∨ X.env.scope.names.lookup x = some .local := by first | exact .inl rfl | exact .inr rfl) :
    JS G X W (.Assign [.Name x pos'] e pos) (sset i fe) := ps_imp (ps_set hN hi hx h hs hf) fun D σ H t => set_t t
/-- a, b = x, y: both sides written, plain local names -/
def spar (i j : Nat) (g : SA) : SS := fun ρ h => (g ρ h).toS ρ fun vs h1 => match vs with
  | [v, w] => .nx ((ρ.set i (some v)).set j (some w)) h1
  | _ => .bad
theorem js_par (i j : Nat) {x y : Str} {a b : Expr} {ga : SA} {px py pt : Pos} {kt k2 pt2} (hN : X.N.Nodup) (ha : JAs G X W [a, b] ga)
    (hw : swappedStores [.Tuple [.Name x px, .Name y py] kt pt] (.Tuple [a, b] k2 pt2) X.env = pure (some [x, y])) (hc : X.calm = true := by rfl) (hi : X.N[i]? = some x := by rfl) (hj : X.N[j]? = some y := by rfl) (hij : i ≠ j := by decide)
    (hx : X.env.scope.names.lookup x = some .local := by rfl) (hy : X.env.scope.names.lookup y = some .local := by rfl)
    (hs : swapsWithSole [.Tuple [.Name x px, .Name y py] kt pt] (.Tuple [a, b] k2 pt2) pos.line X.env = pure false := by rfl) :
    JS G X W (.Assign [.Tuple [.Name x px, .Name y py] kt pt] (.Tuple [a, b] k2 pt2) pos) (spar i j ga) := by
  refine ps_imp (ps_par hc hN hi hj hij hx hy ha hw hs) fun D σ H t => (TSF.bind (Rp := fun M H (u : List V) (v : List PV) => Reps G M H u v) (k := fun ρ vs h1 => match vs with
    | [v, w] => .nx ((ρ.set i (some v)).set j (some w)) h1
    | _ => .bad) t).mono fun us H1 ⟨M1, ρ, h1, vs, r1, e1, p, o⟩ => ?_
  match vs, o, p with
  | [v, w], o, p =>
    obtain ⟨u1, u2, rfl, p1, p2⟩ := reps2 p
    exact ⟨u1, u2, rfl, o _ M1 H1 (Ext.refl _ _) r1 ((e1.set p1).set p2)⟩
  | [], o, _ => exact False.elim o
  | [_], o, _ => exact False.elim o
  | _ :: _ :: _ :: _, o, _ => exact False.elim o

/-! ### targets -/
theorem wipe_get (σ : L2.St) : ∀ (vs : List Nat) (j : Nat), (wipe σ vs)[j]? = if j ∈ vs then σ[j]?.map (fun _ => none) else σ[j]?
  | [], j => by simp [wipe]
  | v :: vs, j => by
    unfold wipe
    by_cases hv : v = j
    · subst hv
      by_cases hl : v < σ.length
      · rw [List.getElem?_set_self (by rw [wipe_length]; exact hl), if_pos (by simp), List.getElem?_eq_getElem hl]
        rfl
      · rw [List.getElem?_eq_none (by rw [List.length_set, wipe_length]; omega), if_pos (by simp), List.getElem?_eq_none (by omega)]
        rfl
    · rw [List.getElem?_set_ne hv, wipe_get σ vs j]
      have : (j ∈ v :: vs) ↔ j ∈ vs := by simp [Ne.symm hv]
      simp only [this]
theorem wipe_set {σ : L2.St} {vs : List Nat} {i : Nat} (hi : i ∈ vs) (x : Option V) : wipe (σ.set i x) vs = wipe σ vs := by
  apply List.ext_getElem?
  intro j
  rw [wipe_get, wipe_get]
  by_cases hj : j ∈ vs
  · rw [if_pos hj, if_pos hj]
    by_cases e : i = j
    · subst e
      by_cases hl : i < σ.length
      · rw [List.getElem?_set_self hl, List.getElem?_eq_getElem hl]; rfl
      · rw [List.getElem?_eq_none (by simpa using hl), List.getElem?_eq_none (by simpa using hl)]
    · rw [List.getElem?_set_ne e]
  · rw [if_neg hj, if_neg hj, List.getElem?_set_ne (show i ≠ j from fun e => hj (e ▸ hi))]
theorem wipe_wipe (σ : L2.St) (vs : List Nat) : wipe (wipe σ vs) vs = wipe σ vs := by
  apply List.ext_getElem?
  intro j
  rw [wipe_get, wipe_get]
  by_cases hj : j ∈ vs
  · rw [if_pos hj, if_pos hj]
    cases σ[j]? <;> rfl
  · rw [if_neg hj, if_neg hj]
abbrev GF := PV → En → Option En
def TGF (G : Gc) (g : GF) (ss : List Nat) : TG := fun v σ H Q => ∃ M h x ρ ρ', HRel G M H h ∧ ERel G M H ρ σ ∧ Rep G M H v x ∧ g x ρ = some ρ' ∧ ∀ σ', ERel G M H ρ' σ' → (∀ vs : List Nat, (∀ i ∈ ss, i ∈ vs) → wipe σ' vs = wipe σ vs) → Q σ' H
def TGsF (G : Gc) (g : List PV → En → Option En) (ss : List Nat) : TGs := fun v σ H Q => ∃ M h x ρ ρ', HRel G M H h ∧ ERel G M H ρ σ ∧ Reps G M H v x ∧ g x ρ = some ρ' ∧ ∀ σ', ERel G M H ρ' σ' → (∀ vs : List Nat, (∀ i ∈ ss, i ∈ vs) → wipe σ' vs = wipe σ vs) → Q σ' H
abbrev JG (G : Gc) (X : Cx) (tg : Expr) (g : GF) (ss : List Nat) : Prop := PG X tg (TGF G g ss)
abbrev JGs (G : Gc) (X : Cx) (tg : List Expr) (g : List PV → En → Option En) (ss : List Nat) : Prop := PGs X tg (TGsF G g ss)
theorem pg_imp {tg : Expr} {t t' : TG} (h : PG X tg t) (i : ∀ v σ H Q, t' v σ H Q → t v σ H Q) : PG X tg t' := ⟨fun pins s σ H v u Q I r q => h.run pins s σ H v u Q I r (i v σ H Q q)⟩
theorem pgs_imp {tg : List Expr} {t t' : TGs} (h : PGs X tg t) (i : ∀ v σ H Q, t' v σ H Q → t v σ H Q) : PGs X tg t' := ⟨fun pins s σ H v u Q I r q => h.run pins s σ H v u Q I r (i v σ H Q q)⟩
def gnm (i : Nat) : GF := fun x ρ => some (ρ.set i (some x))
theorem jg_name (i : Nat) {x : Str} (hN : X.N.Nodup) (hi : X.N[i]? = some x := by rfl) (hx : Loc X.env.scope x := by first | exact Or.inl rfl | exact Or.inr rfl)
    (hf : X.fn x = true ∨ X.env.scope.names.lookup x = some .local := by first | exact .inl rfl | exact .inr rfl) : JG G X (.Name x pos) (gnm i) [i] :=
  pg_imp (pg_name hN hi hx hf) fun v σ H Q ⟨M, h, x, ρ, ρ', r, e, p, q, k⟩ => by
    cases q
    exact k _ (e.set p) fun vs hv => wipe_set (hv i (by simp)) _
def gnil : List PV → En → Option En := fun xs ρ => match xs with
  | [] => some ρ
  | _ => none
def gcons (g : GF) (gs : List PV → En → Option En) : List PV → En → Option En := fun xs ρ => match xs with
  | x :: r => (g x ρ).bind (gs r)
  | [] => none
theorem jgs_nil : JGs G X [] gnil [] := pgs_imp pgs_nil fun v σ H Q ⟨M, h, x, ρ, ρ', r, e, p, q, k⟩ => by
  match x, q with
  | [], q =>
    cases q
    match v, p with
    | [], p => exact ⟨rfl, k σ e fun _ _ => rfl⟩
theorem jgs_cons {tg : Expr} {tgs : List Expr} {g : GF} {gs : List PV → En → Option En} {s1 s2 : List Nat} (h1 : JG G X tg g s1) (h2 : JGs G X tgs gs s2)
    (hs : (assignEach (tg :: tgs) X.env).map (·.2) = assign tg X.env :: (assignEach tgs X.env).map (·.2) := by rfl) : JGs G X (tg :: tgs) (gcons g gs) (s1 ++ s2) := by
  refine pgs_imp (pgs_cons h1 h2 hs) fun v σ H Q ⟨M, h, x, ρ, ρ', r, e, p, q, k⟩ => ?_
  match x, q with
  | y :: ys, q =>
    match v, p with
    | u :: us, p =>
      cases hg : g y ρ with
      | none => rw [gcons, hg] at q; cases q
      | some ρ1 =>
        rw [gcons, hg] at q
        refine ⟨u, us, rfl, M, h, y, ρ, ρ1, r, e, p.1, hg, fun σ1 e1 w1 => ⟨M, h, ys, ρ1, ρ', r, e1, p.2, q, fun σ2 e2 w2 => k σ2 e2 fun vs hv => ?_⟩⟩
        rw [w2 vs fun i hi => hv i (List.mem_append_right _ hi), w1 vs fun i hi => hv i (List.mem_append_left _ hi)]
def gtup (n : Nat) (gs : List PV → En → Option En) : GF := fun x ρ => match x with
  | .tup xs => if xs.length = n then gs xs ρ else none
  | .kt xs => if xs.length = n then gs xs ρ else none
  | _ => none
theorem jg_tup {es : List Expr} {k : Nat} {gs : List PV → En → Option En} {ss : List Nat} {n : Nat} (hK : G.K = X.K) (h : JGs G X es gs ss) (hc : X.calm = true := by rfl)
    (hn : (assignEach es X.env).length = n := by rfl) (hst : (assignEach es X.env).findIdx? (·.1) = none := by rfl) : JG G X (.Tuple es k pos) (gtup n gs) ss := by
  refine pg_imp (pg_tup hc h hn hst) fun v σ H Q ⟨M, hh, x, ρ, ρ', r, e, p, q, k⟩ => ?_
  cases x with
  | tup xs =>
    unfold gtup at q
    simp only at q
    split at q
    · rename_i hl
      obtain ⟨a, us, rfl, s, z, rs⟩ := p
      exact ⟨a, us, rfl, by rw [← hK]; exact s.sq, by rw [rs.length]; exact hl, M, hh, xs, ρ, ρ', r, e, rs, q, k⟩
    · cases q
  | kt xs =>
    unfold gtup at q
    simp only at q
    split at q
    · rename_i hl
      obtain ⟨a, us, rfl, _, s, z, rs⟩ := p
      exact ⟨a, us, rfl, .inl (.inl s), by rw [rs.length]; exact hl, M, hh, xs, ρ, ρ', r, e, rs, q, k⟩
    · cases q
  | _ => cases q
/-- target = value -/
def sasg (g : GF) (f : SE) : SS := fun ρ h => (f ρ h).toS ρ fun v h1 => match g v ρ with
  | some ρ' => .nx ρ' h1
  | none => .bad
theorem js_asg {tg : Expr} {g : GF} {ss : List Nat} (he : JE G X W e fe) (hg : JG G X tg g ss) (hs : swapsWithSole [tg] e pos.line X.env = pure false := by rfl) (hw : swappedStores [tg] e X.env = pure none := by rfl)
    (h1 : (assignEach [tg] X.env).map (·.2) = [assign tg X.env] := by rfl) : JS G X W (.Assign [tg] e pos) (sasg g fe) := by
  refine ps_imp (ps_asg he hg hs hw h1) fun D σ H t => (TSF.bind (Rp := fun M H (u : V) (v : PV) => Rep G M H u v) (k := fun ρ v h1 => match g v ρ with
    | some ρ' => .nx ρ' h1
    | none => .bad) t).mono fun u H1 ⟨M1, ρ, h1, v, r1, e1, p, o⟩ => ?_
  cases hv : g v ρ with
  | none => simp only [hv] at o; exact False.elim o
  | some ρ' =>
    simp only [hv] at o
    exact ⟨M1, h1, v, ρ, ρ', r1, e1, p, hv, fun σ' e' _ => o σ' M1 H1 (Ext.refl _ _) r1 e'⟩

/-! ### o[i] = e, by values -/
def SetJ (G : Gc) (t : TSet) (f : PV → PV → PV → PH → Option PH) : Prop :=
  ∀ M h H uo ui uv o i v h' Q, HRel G M H h → Rep G M H uo o → Rep G M H ui i → Rep G M H uv v → f o i v h = some h' → (∀ H', Ext M H M H' → HRel G M H' h' → Q H') → t uo ui uv H Q
def ssub (f : PV → PV → PV → PH → Option PH) (fv fo fi : SE) : SS := fun ρ h => (fv ρ h).toS ρ fun v h1 => (fo ρ h1).toS ρ fun o h2 => (fi ρ h2).toS ρ fun i h3 => match f o i v h3 with
  | some h' => .nx ρ h'
  | none => .bad
theorem js_sub {o i : Expr} {fo fi : SE} {t : TSet} {f : PV → PV → PV → PH → Option PH} {spos : Pos} (he : JE G X W e fe) (ho : JE G X W o fo) (hi : JE G X W i fi) (ht : PSet X t) (hj : SetJ G t f)
    (ha : ∀ v, assign (.Subscript o i spos) X.env v = (do
      let ov ← holding [v] (eval o X.env)
      let iv ← holding [v, ov] (eval i X.env)
      standAt spos
      holding [v, ov, iv] (setItem ov iv v)
      release [v, ov, iv] []) := by intro _; rfl) (hs : swapsWithSole [.Subscript o i spos] e pos.line X.env = pure false := by rfl) (hw : swappedStores [.Subscript o i spos] e X.env = pure none := by rfl)
    (h1 : (assignEach [.Subscript o i spos] X.env).map (·.2) = [assign (.Subscript o i spos) X.env] := by rfl) : JS G X W (.Assign [.Subscript o i spos] e pos) (ssub f fe fo fi) := by
  refine ps_imp (ps_asg he (pg_sub ho hi ht ha) hs hw h1) fun D σ H t => ?_
  refine (TSF.bind (Rp := fun M H (u : V) (v : PV) => Rep G M H u v) (k := fun ρ v h1 => (fo ρ h1).toS ρ fun o h2 => (fi ρ h2).toS ρ fun i h3 => match f o i v h3 with
    | some h' => .nx ρ h'
    | none => .bad) t).mono fun uv H1 ⟨M1, ρ, h1, v, r1, e1, p1, o1⟩ => ?_
  refine ⟨M1, ρ, h1, r1, e1, (OutS.bind (Rp := fun M H (u : V) (v : PV) => Rep G M H u v) e1 o1).mono fun uo H2 ⟨M2, h2, ov, x2, r2, p2, o2⟩ => ?_⟩
  refine ⟨M2, ρ, h2, r2, e1.ext x2, (OutS.bind (Rp := fun M H (u : V) (v : PV) => Rep G M H u v) (e1.ext x2) o2).mono fun ui H3 ⟨M3, h3, iv, x3, r3, p3, o3⟩ => ?_⟩
  cases hf : f ov iv v h3 with
  | none => simp only [hf] at o3; exact False.elim o3
  | some h' =>
    simp only [hf] at o3
    exact hj M3 h3 H3 uo ui uv ov iv v h' _ r3 (Rep.ext x3 _ _ p2) p3 (Rep.ext (x2.trans x3) _ _ p1) hf fun H' x' r' => o3 σ M3 H' x' r' (((e1.ext x2).ext x3).ext x')
def setLO (o i v : PV) (h : PH) : Option PH := match o, i with
  | .loc n, .int k => match h[n]? with
    | some (.lst xs) => (ixN xs.length k).map fun j => h.set n (.lst (xs.set j v))
    | _ => none
  | _, _ => none
theorem sj_list : SetJ G rSetL setLO := by
  intro M h H uo ui uv o i v h' Q r po pi pv e k
  unfold setLO at e
  split at e
  · rename_i n kk
    split at e
    · rename_i xs hn
      cases hj : ixN xs.length kk with
      | none => rw [hj] at e; cases e
      | some j =>
        rw [hj] at e
        cases e
        obtain ⟨a, us, h1, h2, z, rs⟩ := r.lstAt hn
        obtain ⟨b, rfl, e2⟩ := po
        rw [h1] at e2; cases e2
        obtain ⟨xx, rr⟩ := r.setL (vs := us.set j uv) (ys := xs.set j v) hn h1 h2 (by simpa using z) (Reps.set pv j rs)
        exact ⟨_, us, kk, j, rfl, pi, h2, by rw [rs.length]; exact hj, k _ xx rr⟩
    · cases e
  · cases e
/-! ### x op= e -/
def IpJ (G : Gc) (t : TIp) (f : PV → PV → PH → Option PV) : Prop :=
  ∀ M h H u v x y z Q, HRel G M H h → Rep G M H u x → Rep G M H v y → f x y h = some z → (∀ w H', Ext M H M H' → HRel G M H' h → Rep G M H' w z → Q w H') → t u v H Q
def saug (i : Nat) (f : PV → PV → PH → Option PV) (fe : SE) : SS := fun ρ h => match ρ[i]? with
  | some (some x) => (fe ρ h).toS ρ fun y h1 => match f x y h1 with
    | some z => .nx (ρ.set i (some z)) h1
    | none => .bad
  | _ => .bad
theorem js_aug (i : Nat) {x : Str} {op : Operator} {ti : TIp} {f : PV → PV → PH → Option PV} {pos' : Pos} (hN : X.N.Nodup) (h : JE G X W e fe) (ho : PIp X op ti) (hj : IpJ G ti f) (hi : X.N[i]? = some x := by rfl) (hx : Loc X.env.scope x := by first | exact Or.inl rfl | exact Or.inr rfl)
    (hf : X.fn x = true ∨ X.env.scope.names.lookup x = some .local := by first | exact .inl rfl | exact .inr rfl) : JS G X W (.AugAssign (.Name x pos') op e pos) (saug i f fe) := by
  refine ps_imp (ps_aug hN hi hx h ho hf) fun D σ H ⟨M, ρ, h, r, e, o⟩ => ?_
  unfold saug at o
  cases q : ρ[i]? with
  | none => rw [q] at o; exact False.elim o
  | some w =>
    cases w with
    | none => rw [q] at o; exact False.elim o
    | some xv =>
      rw [q] at o
      obtain ⟨u, h1, p⟩ := e.2 i xv q
      refine ⟨u, h1, M, ρ, h, r, e, (OutS.bind (Rp := fun M H (u : V) (v : PV) => Rep G M H u v) e o).mono fun uy H1 ⟨M1, h1, y, x1, r1, p1, o1⟩ => ?_⟩
      cases hf : f xv y h1 with
      | none => simp only [hf] at o1; exact False.elim o1
      | some z =>
        simp only [hf] at o1
        exact hj M1 h1 H1 u uy xv y z _ r1 (Rep.ext x1 _ _ p) p1 hf fun w H' x' r' p' => o1 _ M1 H' x' r' (((e.ext x1).ext x').set p')
theorem ij_int {f : Int → Int → Int} : IpJ G (ipI f) (intO0 fun i j => .int (f i j)) := by
  intro M h H u v x y z Q r p q e k
  cases x <;> cases y <;> first | (cases e; done) | skip
  rename_i i j
  cases e
  exact ⟨i, j, p, q, k _ H (Ext.refl M H) r rfl⟩
end

/-! ### what is walked -/
/-- the items; the loc of the list that is walked -/
structure Src where
  xs : List PV
  lv : Option Nat
def lvOk (s : Src) (h : PH) : Prop := ∀ n, s.lv = some n → h[n]? = some (.lst s.xs)
def ItRep (G : Gc) (M : Gh) (H : Hp) (J : It) (s : Src) : Prop :=
  s.xs.length ≤ sizeLine ∧ ∀ M2 H2 h2, Tr M H M2 H2 → HRel G M2 H2 h2 → lvOk s h2 → (∀ i, i < s.xs.length → J.go i H2 ∧ ∀ x H3, J.yld i H2 x H3 → Ext M2 H2 M2 H3 ∧ HRel G M2 H3 h2 ∧ ∀ v, s.xs[i]? = some v → Rep G M2 H3 x v) ∧ J.stop s.xs.length H2
abbrev SI := En → PH → R Src
abbrev JI (G : Gc) (X : Cx) (W : WX) (tg iter : Expr) (f : SI) : Prop := PI X tg iter (TF G W (fun M H (J : It) (s : Src) => ItRep G M H J s) f)
section
variable {G : Gc} {X : Cx} {W : WX} {tg : Expr}
theorem pi_imp {iter : Expr} {t t' : TI} (h : PI X tg iter t) (i : ∀ σ H Q, t' σ H Q → t σ H Q) : PI X tg iter t' := ⟨fun pins s σ H R I q => h.run pins s σ H R I (i σ H R q)⟩
/-- a value that is walked -/
def ItR (X : Cx) (tg : Expr) (r : V → Hp → (It → Hp → Prop) → Prop) : Prop :=
  ∀ (pins : List (Addr × Obj)) (s : Shared) (σ : L2.St) (H : Hp) (x : V) (v : Value) (R : It → Hp → Prop), Inv X pins σ H s → RelV x v → r x H R → wpAny (model X.prog X.w) X.A (pyIter v) (PIE X pins σ tg R) X.xe s
theorem pi_of {l : Expr} {tl : TE} {r : V → Hp → (It → Hp → Prop) → Prop} (hl : PE X l tl) (hr : ItR X tg r) : PI X tg l (fun σ H R => tl σ H fun x H1 => r x H1 R) :=
  ⟨fun pins s σ H R I h => thn (hl.run pins s σ H _ I h) fun v s1 ⟨x, H1, I1, r1, q1⟩ => hr pins s1 σ H1 x v R I1 r1 q1⟩
def rItS (K : PySem.W.Frag) : V → Hp → (It → Hp → Prop) → Prop := fun x H R =>
  (∃ a, x = .ref a ∧ (∃ xs, SqL K H a xs) ∧ R (Itl K a) H) ∨ (∃ a, x = .ref a ∧ (∃ xs, SqT K H a xs) ∧ R (Itt K a) H) ∨ (∃ z, x = .str z ∧ R (Its z) H)
theorem it_seq : ItR X tg (rItS X.K) := by
  intro pins s1 σ H1 x v R I1 r1 q1
  rcases q1 with ⟨a, rfl, ⟨xs, hq⟩, q⟩ | ⟨a, rfl, ⟨xs, hq⟩, q⟩ | ⟨z, rfl, q⟩
  · cases r1
    obtain ⟨its, rv, p, hz⟩ := I1.list hq
    refine wpAny_pyIter_list p.isList ?_
    refine ⟨s1.heap.objs.size, [s1.heap.objs.size], _, _, H1, rfl, I1.kept (t' := s1.toks) fun b o e => Heap.get?_push_of_some _ e, turn_list a _, ⟨_, Heap.get?_push_size _ rfl, rfl, rfl⟩, fun b hb => ?_, q⟩
    have e : b = s1.heap.objs.size := by simpa using hb
    subst e
    exact I1.fpOk (Nat.le_refl _) (I1.hok.fresh (Nat.le_refl _))
  · cases r1
    obtain ⟨its, rv, p, hz⟩ := I1.tuple hq
    refine wpAny_pyIter_tuple (show s1.heap.IsTuple a its.toArray from p) ?_
    refine ⟨s1.heap.objs.size, [s1.heap.objs.size], _, _, H1, rfl, I1.kept (t' := s1.toks) fun b o e => Heap.get?_push_of_some _ e, turn_tuple a _, ⟨_, Heap.get?_push_size _ rfl, rfl, rfl⟩, fun b hb => ?_, q⟩
    have e : b = s1.heap.objs.size := by simpa using hb
    subst e
    exact I1.fpOk (Nat.le_refl _) (I1.hok.fresh (Nat.le_refl _))
  · have pe : PE X (.Constant (.str z) 0 ⟨0, 0, 0, 0⟩) (fun _ H Q => Q (.str z) H) := pe_str
    obtain ⟨t, rfl⟩ := r1
    cases hc : z.cps.all (· < 128) with
    | true =>
      refine wpAny_pyIter_ascii hc ?_
      refine ⟨s1.heap.objs.size, [s1.heap.objs.size], _, _, H1, rfl, I1.kept (t' := s1.toks) fun b o e => Heap.get?_push_of_some _ e, turn_str _ z t "str_ascii_iterator" (.inl rfl), ⟨_, Heap.get?_push_size _ rfl, rfl, rfl⟩, fun b hb => ?_, q⟩
      have e : b = s1.heap.objs.size := by simpa using hb
      subst e
      exact I1.fpOk (Nat.le_refl _) (I1.hok.fresh (Nat.le_refl _))
    | false =>
      refine wpAny_pyIter_wide hc ?_
      refine ⟨s1.heap.objs.size, [s1.heap.objs.size], _, _, H1, rfl, I1.kept (t' := s1.toks) fun b o e => Heap.get?_push_of_some _ e, turn_str _ z t "str_iterator" (.inr rfl), ⟨_, Heap.get?_push_size _ rfl, rfl, rfl⟩, fun b hb => ?_, q⟩
      have e : b = s1.heap.objs.size := by simpa using hb
      subst e
      exact I1.fpOk (Nat.le_refl _) (I1.hok.fresh (Nat.le_refl _))
def signs (z : Str) : List PV := z.cps.toList.map fun c => .str ⟨#[c]⟩
/-- a value as a source -/
def srcOf (h : PH) : PV → Option Src
  | .tup xs => some ⟨xs, none⟩
  | .kt xs => some ⟨xs, none⟩
  | .lst xs => some ⟨xs, none⟩
  | .str z => if z.length ≤ sizeLine then some ⟨signs z, none⟩ else none
  | .loc n => match rd h (.loc n) with
    | .lst xs => some ⟨xs, some n⟩
    | _ => none
  | _ => none
def isrc (f : SE) : SI := fun ρ h => (f ρ h).bind fun v h1 => R.of h1 (srcOf h1 v)
theorem itrep_of {M : Gh} {H : Hp} {J : It} {s : Src} {P : Hp → Prop} {us : List V} (hz : s.xs.length ≤ sizeLine) (hl : us.length = s.xs.length) (w : Walk J us.length P (YAt us)) (st : ∀ M2 H2 h2, Tr M H M2 H2 → HRel G M2 H2 h2 → lvOk s h2 → P H2 ∧ Reps G M2 H2 us s.xs) : ItRep G M H J s := by
  refine ⟨hz, fun M2 H2 h2 x r l => ?_⟩
  obtain ⟨p, rs⟩ := st M2 H2 h2 x r l
  refine ⟨fun i hi => ⟨w.goes i H2 (by omega) p, fun u H3 y => ?_⟩, by rw [← hl]; exact w.stops H2 p⟩
  obtain ⟨e, hu⟩ := w.yields i H2 u H3 (by omega) p y
  subst e
  refine ⟨Ext.refl _ _, r, fun v hv => ?_⟩
  obtain ⟨v', h1, h2⟩ := rs.get' hu
  rw [hv] at h1; cases h1
  exact h2
theorem ji_seq {l : Expr} {f : SE} (hK : G.K = X.K) (h : JE G X W l f) : JI G X W tg l (isrc f) := by
  refine pi_imp (pi_of h it_seq) fun σ H Q t => (TF.bind (Rp := fun M H (u : V) (v : PV) => Rep G M H u v) t).mono fun u H1 ⟨M1, ρ, h1, v, r1, e1, p, o⟩ => ?_
  rw [← hK]
  cases v with
  | tup xs =>
    obtain ⟨a, us, rfl, s, z, rs⟩ := p
    refine .inr (.inl ⟨a, rfl, ⟨us, s.sq⟩, o _ M1 H1 (Ext.refl _ _) r1 ?_⟩)
    exact itrep_of (us := us) (by rw [← rs.length]; exact z) rs.length walk_tup fun M2 H2 h2 x r l => ⟨(x.sqT s).sq, Reps.tr x _ _ rs⟩
  | kt xs =>
    obtain ⟨a, us, rfl, n, s, z, rs⟩ := p
    have s : Rd H1 a (.tup us) := .inl s
    refine .inr (.inl ⟨a, rfl, ⟨us, .inl s⟩, o _ M1 H1 (Ext.refl _ _) r1 ?_⟩)
    exact itrep_of (us := us) (by rw [← rs.length]; exact z) rs.length walk_tup fun M2 H2 h2 x r l => ⟨.inl (x.rd n (fun ps z => by cases z) s).1, Reps.tr x _ _ rs⟩
  | lst xs =>
    obtain ⟨a, us, rfl, s, z, rs⟩ := p
    refine .inl ⟨a, rfl, ⟨us, s.sq⟩, o _ M1 H1 (Ext.refl _ _) r1 ?_⟩
    exact itrep_of (us := us) (by rw [← rs.length]; exact z) rs.length walk_list fun M2 H2 h2 x r l => ⟨(x.sqL s).sq, Reps.tr x _ _ rs⟩
  | str z =>
    unfold srcOf at o
    by_cases hz : z.length ≤ sizeLine
    · simp only [hz, if_true] at o
      cases (show u = V.str z from p)
      have hsz : z.cps.size = (signs z).length := by unfold signs; rw [List.length_map, Array.length_toList]
      refine .inr (.inr ⟨z, rfl, o _ M1 H1 (Ext.refl _ _) r1 ⟨by rw [← hsz]; exact hz, fun M2 H2 h2 x r l => ⟨fun i hi => ⟨by rw [← hsz] at hi; exact hi, fun u H3 y => ?_⟩, ?_⟩⟩⟩)
      · obtain ⟨e, c, hc, rfl⟩ := y
        subst e
        refine ⟨Ext.refl _ _, r, fun v hv => ?_⟩
        have hv : (signs z)[i]? = some v := hv
        unfold signs at hv
        rw [List.getElem?_map, Array.getElem?_toList, hc] at hv
        cases hv
        rfl
      · show z.cps.size ≤ (signs z).length
        omega
    · simp only [hz, if_false] at o
      exact False.elim o
  | loc n =>
    unfold srcOf at o
    rcases rd_cases h1 n with ⟨xs, hn, e⟩ | e
    · simp only [e] at o
      obtain ⟨a, us, ha, hH, z, rs⟩ := r1.lstAt hn
      obtain ⟨b, rfl, e2⟩ := p
      rw [ha] at e2; cases e2
      refine .inl ⟨_, rfl, ⟨us, .of hH⟩, o _ M1 H1 (Ext.refl _ _) r1 ?_⟩
      refine ⟨by rw [← rs.length]; exact z, fun M2 H2 h2 x r l => ?_⟩
      have hn2 := l n rfl
      obtain ⟨a2, us2, ha2, hH2, z2, rs2⟩ := r.lstAt hn2
      obtain ⟨L, e3⟩ := x.pre
      have ea : M2.L[n]? = M1.L[n]? := by rw [e3]; rw [List.getElem?_append_left (List.getElem?_eq_some_iff.mp ha).1]
      rw [ha2, ha] at ea; cases ea
      have hl2 := rs2.length
      have w := walk_list (K := G.K) (a := a) (xs := us2)
      refine ⟨fun i hi => ⟨w.goes i H2 (by rw [hl2]; exact hi) (.of hH2), fun u H3 y => ?_⟩, by rw [show (Src.mk xs (some n)).xs.length = us2.length from hl2.symm]; exact w.stops H2 (.of hH2)⟩
      obtain ⟨e, hu⟩ := w.yields i H2 u H3 (by rw [hl2]; exact hi) (.of hH2) y
      subst e
      refine ⟨Ext.refl _ _, r, fun v hv => ?_⟩
      obtain ⟨v', q1, q2⟩ := rs2.get' hu
      rw [hv] at q1; cases q1
      exact q2
    · simp only [e] at o
      exact False.elim o
  | non => exact False.elim o
  | bl _ => exact False.elim o
  | int _ => exact False.elim o
  | dic _ _ _ => exact False.elim o
/-! ### range -/
def rangeL (lo : Int) (n : Nat) : List PV := (List.range n).map fun i => .int (lo + (i : Nat))
theorem itrep_range {M : Gh} {H : Hp} {lo : Int} {n : Nat} (hn : n ≤ sizeLine) : ItRep G M H (Itr lo n) ⟨rangeL lo n, none⟩ := by
  have hl : (rangeL lo n).length = n := by simp [rangeL]
  refine ⟨by show (rangeL lo n).length ≤ _; rw [hl]; exact hn, fun M2 H2 h2 x r l => ⟨fun i hi => ⟨by rw [← hl]; exact hi, fun u H3 y => ?_⟩, ?_⟩⟩
  · obtain ⟨e, rfl⟩ := y
    subst e
    refine ⟨Ext.refl _ _, r, fun v hv => ?_⟩
    have hi' : i < n := by rw [← hl]; exact hi
    simp only [rangeL] at hv
    rw [List.getElem?_map, List.getElem?_range hi'] at hv
    cases hv
    rfl
  · show n ≤ (rangeL lo n).length
    omega
def int1 : List PV → Option Int
  | [.int i] => some i
  | _ => none
theorem int1_eq {vs : List PV} {i : Int} (h : int1 vs = some i) : vs = [.int i] := by
  unfold int1 at h
  split at h
  · cases h; rfl
  · cases h
def irng1 (g : SA) : SI := fun ρ h => (g ρ h).bind fun vs h1 => match int1 vs with
  | some j => if j ≤ sizeLine ∧ -(2 ^ 62) ≤ j then .ok ⟨rangeL 0 j.toNat, none⟩ h1 else .bad
  | none => .bad
theorem ji_range1 {a : Expr} {g : SA} {p pos : Pos} (hm : X.mg "range" = none) (ha : JAs G X W [a] g) (hg : Gl X "range" := by rfl) (hs : starEach [a] X.env = [(false, eval a X.env)] := by rfl) : JI G X W tg (.Call (.Name "range" p) [a] [] pos) (irng1 g) := by
  refine pi_imp (pi_range1 hg hm ha hs) fun σ H Q t => (TF.bind (Rp := fun M H (u : List V) (v : List PV) => Reps G M H u v) t).mono fun us H1 ⟨M1, ρ, h1, vs, r1, e1, p, o⟩ => ?_
  have hsl := sizeLine_eq
  cases hv : int1 vs with
  | none => simp only [hv] at o; exact False.elim o
  | some j =>
    simp only [hv] at o
    have := int1_eq hv
    subst this
    obtain ⟨u, rfl, pu⟩ := reps1 p
    by_cases hj : j ≤ sizeLine ∧ -(2 ^ 62) ≤ j
    · rw [if_pos hj] at o
      exact ⟨j, by rw [show u = V.int j from pu], hj.2, by omega, o _ M1 H1 (Ext.refl _ _) r1 (itrep_range (by omega))⟩
    · rw [if_neg hj] at o
      exact False.elim o
def int2 : List PV → Option (Int × Int)
  | [.int i, .int j] => some (i, j)
  | _ => none
theorem int2_eq {vs : List PV} {i j : Int} (h : int2 vs = some (i, j)) : vs = [.int i, .int j] := by
  unfold int2 at h
  split at h
  · cases h; rfl
  · cases h
def irng2 (g : SA) : SI := fun ρ h => (g ρ h).bind fun vs h1 => match int2 vs with
  | some (i, j) => if (-(2 ^ 62) ≤ i ∧ i < 2 ^ 62) ∧ (-(2 ^ 62) ≤ j ∧ j < 2 ^ 62) ∧ (j - i).toNat ≤ sizeLine then .ok ⟨rangeL i (j - i).toNat, none⟩ h1 else .bad
  | none => .bad
theorem ji_range2 {a b : Expr} {g : SA} {p pos : Pos} (hm : X.mg "range" = none) (ha : JAs G X W [a, b] g) (hg : Gl X "range" := by rfl) (hs : starEach [a, b] X.env = [(false, eval a X.env), (false, eval b X.env)] := by rfl) (hs2 : starEach [b] X.env = [(false, eval b X.env)] := by rfl) : JI G X W tg (.Call (.Name "range" p) [a, b] [] pos) (irng2 g) := by
  refine pi_imp (pi_range2 hg hm ha hs hs2) fun σ H Q t => (TF.bind (Rp := fun M H (u : List V) (v : List PV) => Reps G M H u v) t).mono fun us H1 ⟨M1, ρ, h1, vs, r1, e1, p, o⟩ => ?_
  cases hv : int2 vs with
  | none => simp only [hv] at o; exact False.elim o
  | some ij =>
    obtain ⟨i, j⟩ := ij
    simp only [hv] at o
    have := int2_eq hv
    subst this
    obtain ⟨u, v, rfl, pu, pv⟩ := reps2 p
    by_cases hj : (-(2 ^ 62) ≤ i ∧ i < 2 ^ 62) ∧ (-(2 ^ 62) ≤ j ∧ j < 2 ^ 62) ∧ (j - i).toNat ≤ sizeLine
    · rw [if_pos hj] at o
      exact ⟨i, j, by rw [show u = V.int i from pu, show v = V.int j from pv], ⟨hj.1.1, hj.1.2, hj.2.1.1, hj.2.1.2⟩, o _ M1 H1 (Ext.refl _ _) r1 (itrep_range hj.2.2)⟩
    · rw [if_neg hj] at o
      exact False.elim o
end
end J

/-! J: for, while, list comprehensions, enumerate. -/
namespace J
open PySem PySem.Spec PyProof.Rows L2

/-! ### equal pure values -/
mutual
def beqP : PV → PV → Bool
  | .non, .non => true
  | .bl a, .bl b => a == b
  | .int a, .int b => a == b
  | .str a, .str b => decide (a = b)
  | .tup a, .tup b => beqs a b
  | .kt a, .kt b => beqs a b
  | .lst a, .lst b => beqs a b
  | .dic s a c, .dic t b d => (s == t) && beqs a b && beqs c d
  | .loc a, .loc b => a == b
  | _, _ => false
def beqs : List PV → List PV → Bool
  | [], [] => true
  | x :: xs, y :: ys => beqP x y && beqs xs ys
  | _, _ => false
end
mutual
theorem beqP_eq : ∀ (x y : PV), beqP x y = true → x = y
  | .non, y, h => by cases y <;> simp [beqP] at h ⊢
  | .bl _, y, h => by cases y <;> simp [beqP] at h ⊢; exact h
  | .int _, y, h => by cases y <;> simp [beqP] at h ⊢; exact h
  | .str _, y, h => by cases y <;> simp [beqP] at h ⊢; exact h
  | .tup a, y, h => by cases y <;> simp [beqP] at h ⊢; exact beqs_eq _ _ h
  | .kt a, y, h => by cases y <;> simp [beqP] at h ⊢; exact beqs_eq _ _ h
  | .lst a, y, h => by cases y <;> simp [beqP] at h ⊢; exact beqs_eq _ _ h
  | .dic s a c, y, h => by cases y <;> simp [beqP] at h ⊢; exact ⟨h.1.1, beqs_eq _ _ h.1.2, beqs_eq _ _ h.2⟩
  | .loc _, y, h => by cases y <;> simp [beqP] at h ⊢; exact h
theorem beqs_eq : ∀ (x y : List PV), beqs x y = true → x = y
  | [], [], _ => rfl
  | [], _ :: _, h => by simp [beqs] at h
  | _ :: _, [], h => by simp [beqs] at h
  | x :: xs, y :: ys, h => by
    simp only [beqs, Bool.and_eq_true] at h
    rw [beqP_eq x y h.1, beqs_eq xs ys h.2]
end
mutual
theorem beqP_refl : ∀ x : PV, beqP x x = true
  | .non => rfl
  | .bl _ => by simp [beqP]
  | .int _ => by simp [beqP]
  | .str _ => by simp [beqP]
  | .tup a => by simp only [beqP]; exact beqs_refl a
  | .kt a => by simp only [beqP]; exact beqs_refl a
  | .lst a => by simp only [beqP]; exact beqs_refl a
  | .dic s a c => by simp only [beqP]; rw [beqs_refl a, beqs_refl c]; simp
  | .loc _ => by simp [beqP]
theorem beqs_refl : ∀ x : List PV, beqs x x = true
  | [] => rfl
  | x :: xs => by simp only [beqs]; rw [beqP_refl x, beqs_refl xs]; rfl
end
def sameO (xs : List PV) : Option PO → Bool
  | some (.lst ys) => beqs ys xs
  | _ => false
def sameL (s : Src) (h : PH) : Bool := match s.lv with
  | none => true
  | some n => sameO s.xs h[n]?
@[simp] theorem sameL_none (xs : List PV) (h : PH) : sameL ⟨xs, none⟩ h = true := nrfl rfl
theorem sameL_ok {s : Src} {h : PH} (e : sameL s h = true) : lvOk s h := by
  intro n hn
  unfold sameL at e
  rw [hn] at e
  simp only at e
  cases q : h[n]? with
  | none => rw [q] at e; cases e
  | some o =>
    cases o with
    | lst ys => rw [q] at e; rw [beqs_eq ys _ e]
    | _ => rw [q] at e; cases e

/-! ### for -/
def forL (s : Src) (g : GF) (body : SS) : List PV → En → PH → RS
  | [], ρ, h => .nx ρ h
  | x :: xs, ρ, h => match g x ρ with
    | none => .bad
    | some ρ1 => match body ρ1 h with
      | .nx ρ' h' => if sameL s h' then forL s g body xs ρ' h' else .bad
      | .ct ρ' h' => if sameL s h' then forL s g body xs ρ' h' else .bad
      | .bk ρ' h' => .nx ρ' h'
      | .rt v h' => .rt v h'
      | .ex e ρ' h' => .ex e ρ' h'
      | .bad => .bad
def sfor (fi : SI) (g : GF) (body : SS) : SS := fun ρ h => (fi ρ h).toS ρ fun s h1 => if sameL s h1 then forL s g body s.xs ρ h1 else .bad
section
variable {G : Gc} {X : Cx} {W : WX} {tg iter : Expr} {pos : Pos}
theorem js_for {body : List Stmt} {fi : SI} {g : GF} {ss : List Nat} {fb : SS} (hp : PassesOwn (model X.prog X.w) X.A X.env X.xe) (hi : JI G X W tg iter fi) (hg : JG G X tg g ss) (hb : JSs G X W body fb) (hc : X.calm = true := by rfl)
    (hs : ∀ x, foldedSetIterable iter X.env x = pure x := by intro _; rfl) : JS G X W (.For tg iter body [] pos) (sfor fi g fb) := by
  refine ps_imp (ps_for hp hc hi hg hb hs) fun D σ H t => ?_
  refine (TSF.bind (Rp := fun M H (J : It) (s : Src) => ItRep G M H J s) (k := fun ρ s h1 => if sameL s h1 then forL s g fb s.xs ρ h1 else .bad) t).mono fun J H1 ⟨M1, ρ1, h1, s, r1, e1, it, o1⟩ => ?_
  cases hsl : sameL s h1 with
  | false => simp only [hsl] at o1; exact False.elim o1
  | true =>
    simp only [hsl, if_true] at o1
    obtain ⟨hz, it⟩ := it
    refine ⟨fun i m σ H => m = s.xs.length - i ∧ i ≤ s.xs.length ∧ ∃ M ρ h, HRel G M H h ∧ ERel G M H ρ σ ∧ Ext M1 H1 M H ∧ lvOk s h ∧ OutS G W M H (forL s g fb (s.xs.drop i) ρ h) D,
      ⟨s.xs.length, by simp, Nat.zero_le _, M1, ρ1, h1, r1, e1, Ext.refl _ _, sameL_ok hsl, by simpa using o1⟩, ?_⟩
    rintro i m σ2 H2 ⟨rfl, hle, M2, ρ2, h2, r2, e2, x2, l2, o2⟩
    obtain ⟨go, stop⟩ := it M2 H2 h2 x2.tr r2 l2
    by_cases hlt : i < s.xs.length
    · obtain ⟨g1, g2⟩ := go i hlt
      rw [List.drop_eq_getElem_cons hlt] at o2
      unfold forL at o2
      cases hg1 : g s.xs[i] ρ2 with
      | none => simp only [hg1] at o2; exact False.elim o2
      | some ρ3 =>
        simp only [hg1] at o2
        refine .inr ⟨g1, fun σ' H' => ∃ M ρ h, HRel G M H' h ∧ ERel G M H' ρ σ' ∧ Ext M1 H1 M H' ∧ lvOk s h ∧ OutS G W M H' (forL s g fb (s.xs.drop (i + 1)) ρ h) D, fun σ' H' q => ⟨s.xs.length - (i + 1), by omega, rfl, hlt, q⟩, fun u H3 y => ?_⟩
        obtain ⟨y1, y2, y3⟩ := g2 u H3 y
        refine ⟨M2, h2, s.xs[i], ρ2, ρ3, y2, e2.ext y1, y3 _ (List.getElem?_eq_getElem hlt), hg1, fun σ4 e4 _ => ⟨M2, ρ3, h2, y2, e4, ?_⟩⟩
        have o3 := OutS.ext y1 o2
        cases hb1 : fb ρ3 h2 with
        | nx ρ' h' =>
          simp only [hb1] at o3
          cases hsl' : sameL s h' with
          | false => simp only [hsl'] at o3; exact False.elim o3
          | true =>
            simp only [hsl', if_true] at o3
            exact fun σ' M' H' x' r' e' => ⟨M', ρ', h', r', e', (x2.trans y1).trans x', sameL_ok hsl', OutS.ext x' o3⟩
        | ct ρ' h' =>
          simp only [hb1] at o3
          cases hsl' : sameL s h' with
          | false => simp only [hsl'] at o3; exact False.elim o3
          | true =>
            simp only [hsl', if_true] at o3
            exact fun σ' M' H' x' r' e' => ⟨M', ρ', h', r', e', (x2.trans y1).trans x', sameL_ok hsl', OutS.ext x' o3⟩
        | bk ρ' h' => simp only [hb1] at o3; exact o3
        | rt v h' => simp only [hb1] at o3; exact o3
        | ex e ρ' h' => simp only [hb1] at o3; exact o3
        | bad => simp only [hb1] at o3; exact False.elim o3
    · have e : i = s.xs.length := by omega
      subst e
      rw [List.drop_length] at o2
      exact .inl ⟨stop, o2 σ2 M2 H2 (Ext.refl _ _) r2 e2⟩
/-! ### while, with fuel -/
def whileL (c : SB) (body : SS) : Nat → En → PH → RS
  | 0, _, _ => .bad
  | n + 1, ρ, h => (c ρ h).toS ρ fun b h1 => if b then (match body ρ h1 with
    | .nx ρ' h' => whileL c body n ρ' h'
    | .ct ρ' h' => whileL c body n ρ' h'
    | .bk ρ' h' => .nx ρ' h'
    | .rt v h' => .rt v h'
    | .ex e ρ' h' => .ex e ρ' h'
    | .bad => .bad) else .nx ρ h1
theorem js_while (n : Nat) {c : Expr} {body : List Stmt} {fc : SB} {fb : SS} (hp : PassesOwn (model X.prog X.w) X.A X.env X.xe) (hc : JT G X W c fc) (hb : JSs G X W body fb) : JS G X W (.While c body [] pos) (whileL fc fb n) := by
  refine ps_imp (ps_while hp hc hb) fun D σ H ⟨M, ρ, h, r, e, o⟩ => ?_
  refine ⟨fun m σ H => ∃ M ρ h, HRel G M H h ∧ ERel G M H ρ σ ∧ OutS G W M H (whileL fc fb m ρ h) D, ⟨n, M, ρ, h, r, e, o⟩, ?_⟩
  rintro m σ1 H1 ⟨M1, ρ1, h1, r1, e1, o1⟩
  cases m with
  | zero => exact False.elim o1
  | succ m =>
    refine ⟨M1, ρ1, h1, r1, e1, (OutS.bind (Rp := fun _ _ (u v : Bool) => u = v) e1 o1).mono fun b H2 ⟨M2, h2, b', x2, r2, p2, o2⟩ => ?_⟩
    subst p2
    cases b with
    | false => rw [if_neg Bool.false_ne_true]; exact o2 σ1 M2 H2 (Ext.refl _ _) r2 (e1.ext x2)
    | true =>
      rw [if_pos rfl]
      rw [if_pos rfl] at o2
      refine ⟨fun σ' H' => ∃ M ρ h, HRel G M H' h ∧ ERel G M H' ρ σ' ∧ OutS G W M H' (whileL fc fb m ρ h) D, fun σ' H' q => ⟨m, Nat.lt_succ_self m, q⟩, M2, ρ1, h2, r2, e1.ext x2, ?_⟩
      cases hb1 : fb ρ1 h2 with
      | nx ρ' h' => simp only [hb1] at o2; exact fun σ' M' H' x' r' e' => ⟨M', ρ', h', r', e', OutS.ext x' o2⟩
      | ct ρ' h' => simp only [hb1] at o2; exact fun σ' M' H' x' r' e' => ⟨M', ρ', h', r', e', OutS.ext x' o2⟩
      | bk ρ' h' => simp only [hb1] at o2; exact o2
      | rt v h' => simp only [hb1] at o2; exact o2
      | ex e ρ' h' => simp only [hb1] at o2; exact o2
      | bad => simp only [hb1] at o2; exact False.elim o2

/-! ### list comprehensions -/
abbrev W0 : WX := fun _ _ _ _ => False
abbrev JTs (G : Gc) (X : Cx) (W : WX) (ifs : List Expr) (f : SB) : Prop := PTs X ifs (TFB G W f)
def tyes : SB := fun _ h => .ok true h
theorem pts_imp {ifs : List Expr} {t t' : TT} (h : PTs X ifs t) (i : ∀ σ H Q, t' σ H Q → t σ H Q) : PTs X ifs t' := ⟨fun pins s σ H Q I q => h.run pins s σ H Q I (i σ H Q q)⟩
theorem jts_nil : JTs G X W [] tyes := pts_imp pts_nil fun σ H Q ⟨M, ρ, h, r, e, o⟩ => Out.ret o r rfl
theorem jts_one {c : Expr} {f : SB} (h : JT G X W c f) : JTs G X W [c] f := pts_one h
def wipeE (ρ : En) : List Nat → En
  | [] => ρ
  | v :: vs => (wipeE ρ vs).set v none
theorem wipeE_get (ρ : En) : ∀ (vs : List Nat) (j : Nat) (x : PV), (wipeE ρ vs)[j]? = some (some x) → ρ[j]? = some (some x) ∧ j ∉ vs
  | [], j, x, h => ⟨h, by simp⟩
  | v :: vs, j, x, h => by
    unfold wipeE at h
    by_cases hv : v = j
    · subst hv
      by_cases hl : v < (wipeE ρ vs).length
      · rw [List.getElem?_set_self hl] at h; cases h
      · rw [List.getElem?_eq_none (by simpa using hl)] at h; cases h
    · rw [List.getElem?_set_ne hv] at h
      obtain ⟨h1, h2⟩ := wipeE_get ρ vs j x h
      exact ⟨h1, by simp only [List.mem_cons, not_or]; exact ⟨fun e => hv e.symm, h2⟩⟩
theorem wipeE_length (ρ : En) : ∀ vs : List Nat, (wipeE ρ vs).length = ρ.length
  | [] => rfl
  | v :: vs => by unfold wipeE; rw [List.length_set, wipeE_length ρ vs]
theorem ERel.wipe {M : Gh} {H : Hp} {ρ : En} {σ : L2.St} (e : ERel G M H ρ σ) (vs : List Nat) : ERel G M H (wipeE ρ vs) (L2.wipe σ vs) := by
  refine ⟨by rw [wipeE_length, L2.wipe_length]; exact e.1, fun j x h => ?_⟩
  obtain ⟨h1, h2⟩ := wipeE_get ρ vs j x h
  obtain ⟨u, q1, q2⟩ := e.2 j x h1
  exact ⟨u, by rw [wipe_get, if_neg h2]; exact q1, q2⟩
def compL (s : Src) (g : GF) (ft : SB) (fe : SE) (ρ0 : En) : List PV → PH → R (List PV)
  | [], h => .ok [] h
  | x :: xs, h => match g x ρ0 with
    | none => .bad
    | some ρ1 => match ft ρ1 h with
      | .ok true h1 => (match fe ρ1 h1 with
        | .ok v h2 => if sameL s h2 then (compL s g ft fe ρ0 xs h2).bind fun vs h3 => .ok (v :: vs) h3 else .bad
        | _ => .bad)
      | .ok false h1 => if sameL s h1 then compL s g ft fe ρ0 xs h1 else .bad
      | _ => .bad
def lcG (vs : List Nat) (fi : SI) (g : GF) (ft : SB) (fe : SE) (k : List PV → PH → R PV) : SE := fun ρ h => (fi ρ h).bind fun s h1 => if sameL s h1 then (compL s g ft fe (wipeE ρ vs) s.xs h1).bind k else .bad
/-- .. as a value that stays -/
def lc (vs : List Nat) (fi : SI) (g : GF) (ft : SB) (fe : SE) : SE := lcG vs fi g ft fe fun xs h => .ok (.lst xs) h
/-- .. as a mutable list -/
def lcM (vs : List Nat) (fi : SI) (g : GF) (ft : SB) (fe : SE) : SE := lcG vs fi g ft fe fun xs h => .ok (.loc h.length) (h ++ [.lst xs])
theorem compL_exc {s : Src} {g : GF} {ft : SB} {fe : SE} {ρ0 : En} : ∀ (xs : List PV) (h : PH) (e : Ex) (h' : PH), compL s g ft fe ρ0 xs h ≠ .exc e h'
  | [], h, e, h' => by simp [compL]
  | x :: xs, h, e, h' => by
    unfold compL
    cases g x ρ0 with
    | none => simp
    | some ρ1 =>
      simp only
      cases ft ρ1 h with
      | ok b h1 =>
        cases b with
        | true =>
          simp only
          cases fe ρ1 h1 with
          | ok v h2 =>
            simp only
            split
            · have ih := compL_exc (s := s) (g := g) (ft := ft) (fe := fe) (ρ0 := ρ0) xs h2
              cases q : compL s g ft fe ρ0 xs h2 with
              | ok vs h3 => simp
              | exc e2 h4 => exact absurd q (ih e2 h4)
              | bad => simp
            · simp
          | exc _ _ => simp
          | bad => simp
        | false =>
          simp only
          split
          · exact compL_exc xs h1 e h'
          · simp
      | exc _ _ => simp
      | bad => simp
/-- the end of a comprehension: its list is laid open -/
def LcEnd (G : Gc) (k : List PV → PH → R PV) : Prop := ∀ (M : Gh) (H : Hp) (h : PH) (D : Addr) (us : List V) (xs : List PV), HRel G (M.hide D) H h → H D = some (.lst us) → us.length ≤ sizeLine → Reps G (M.hide D) H us xs → D ∉ M.Z → D ∉ M.L →
  ∃ v h' M', k xs h = .ok v h' ∧ (M' = M ∨ M' = M.add D) ∧ HRel G M' H h' ∧ Rep G M' H (.ref D) v
theorem lcEnd_frozen : LcEnd G fun xs h => .ok (.lst xs) h := fun M H h D us xs r hD hz rs nZ nL =>
  ⟨_, _, M, rfl, .inl rfl, r.unhide, D, us, rfl, .inl ⟨fun z => z.elim (fun q => nL q.1) nZ, .inl hD⟩, hz, Reps.tr Tr.unhide _ _ rs⟩
theorem Tr.show {M : Gh} {H : Hp} {D : Addr} : Tr (M.hide D) H (M.add D) H := ⟨⟨[D], rfl⟩, fun _ ha => ha, fun a u h n t => ⟨h, fun z => by
  have q := Gh.of_hide n
  rcases z with ⟨z, zd⟩ | z
  · rcases List.mem_append.mp z with z | z
    · exact q.1 (.inl ⟨z, zd⟩)
    · exact q.2 (List.mem_singleton.mp z)
  · exact q.1 (.inr z)⟩⟩
theorem lcEnd_loc : LcEnd G fun xs h => .ok (.loc h.length) (h ++ [.lst xs]) := fun M H h D us xs r hD hz rs nZ nL => by
  have len : M.L.length = h.length := r.len
  refine ⟨_, _, M.add D, rfl, .inr rfl, ⟨?_, fun a ha => ?_, by simp [Gh.add, len], fun a ha => r.hid a (List.mem_cons_of_mem _ ha), fun a ha => r.hidT a (List.mem_cons_of_mem _ ha), fun a ha => List.mem_append_left _ (r.dsub a ha), fun a ha => ?_, fun n ob e => ?_, r.tab⟩, D, rfl, ?_⟩
  · show (M.L ++ [D]).Nodup
    rw [List.nodup_append]
    refine ⟨r.nd, by simp, fun a ha b hb => ?_⟩
    rw [List.mem_singleton.mp hb]
    exact fun z => nL (z ▸ ha)
  · rcases List.mem_append.mp ha with ha | ha
    · exact fun z => r.apart a ha (List.mem_cons_of_mem _ z)
    · rw [List.mem_singleton.mp ha]; exact nZ
  · rcases List.mem_append.mp ha with ha | ha
    · exact r.live0 a ha
    · rw [List.mem_singleton.mp ha, hD]; simp
  · by_cases hn : n < h.length
    · rw [List.getElem?_append_left hn] at e
      obtain ⟨a, h1, hd, h2⟩ := r.obj n ob e
      exact ⟨a, by show (M.L ++ [D])[n]? = _; rw [List.getElem?_append_left (by rw [len]; exact hn)]; exact h1, hd, h2.tr Tr.show rfl fun _ _ _ => rfl⟩
    · have hl : n < (h ++ [PO.lst xs]).length := (List.getElem?_eq_some_iff.mp e).1
      have hn' : n = h.length := by simp at hl; omega
      subst hn'
      rw [List.getElem?_append_right (Nat.le_refl _), Nat.sub_self] at e
      cases e
      exact ⟨D, by show (M.L ++ [D])[h.length]? = _; rw [← len, List.getElem?_append_right (Nat.le_refl _), Nat.sub_self]; rfl, fun _ z => nL (r.dsub D z), us, hD, hz, Reps.tr Tr.show _ _ rs⟩
  · show (M.L ++ [D])[h.length]? = _
    rw [← len, List.getElem?_append_right (Nat.le_refl _), Nat.sub_self]; rfl
theorem ext_add {M1 M : Gh} {H1 H : Hp} {D : Addr} (x : Ext M1 H1 M H) (hD : H1 D = none) : Ext M1 H1 (M.add D) H := by
  obtain ⟨L, E, rfl, hL⟩ := x.pre
  refine ⟨⟨L ++ [D], E, by simp [Gh.add], fun a ha => ?_⟩, x.keep, x.dom⟩
  rcases List.mem_append.mp ha with ha | ha
  · exact hL a ha
  · rw [List.mem_singleton.mp ha]; exact hD
/-- what a comprehension's reading asks, by the pure one -/
theorem lc_t {fi : SI} {g : GF} {ss : List Nat} {ft : SB} {fe : SE} {vs : List Nat} {k : List PV → PH → R PV} (hk : LcEnd G k) (hss : ∀ i ∈ ss, i ∈ vs) {σ : L2.St} {H : Hp} {Q : VK} (t : TFE G W (lcG vs fi g ft fe k) σ H Q) :
    tLc (TF G W (fun M H (J : It) (s : Src) => ItRep G M H J s) fi) (TGF G g ss) (TFB G W0 ft) (TFE G W0 fe) vs σ H Q := by
  refine (TF.bind (Rp := fun M H (J : It) (s : Src) => ItRep G M H J s) (k := fun ρ s h1 => if sameL s h1 then (compL s g ft fe (wipeE ρ vs) s.xs h1).bind k else .bad) t).mono fun J H1 ⟨M1, ρ1, h1, s, r1, e1, it, o1⟩ D hD => ?_
  cases hsl : sameL s h1 with
  | false => simp only [hsl] at o1; exact False.elim o1
  | true =>
    simp only [hsl, if_true] at o1
    obtain ⟨hz, it⟩ := it
    cases hcl : compL s g ft fe (wipeE ρ1 vs) s.xs h1 with
    | bad => rw [hcl] at o1; exact False.elim o1
    | exc e h' => exact absurd hcl (compL_exc _ _ _ _)
    | ok full hE =>
      rw [hcl] at o1
      simp only [R.bind_ok] at o1
      have nZ : D ∉ M1.Z := fun z => r1.hid D z hD
      have nL : D ∉ M1.L := fun z => r1.liveL z hD
      refine ⟨fun i m H => m = s.xs.length - i ∧ i ≤ s.xs.length ∧ ∃ (M : Gh) (h : PH) (acc : List PV) (accV : List V) (rest : List PV), H D = some (.lst accV) ∧ Reps G (M.hide D) H accV acc ∧ HRel G (M.hide D) H h ∧ Ext M1 H1 M H ∧ Tr M1 H1 (M.hide D) H ∧ lvOk s h ∧ accV.length ≤ i ∧ D ∉ M.L ∧ D ∉ M.Z ∧ compL s g ft fe (wipeE ρ1 vs) (s.xs.drop (i)) h = .ok rest hE ∧ acc ++ rest = full,
        ⟨s.xs.length, by simp, Nat.zero_le _, M1, h1, [], [], full, upd_same, trivial, r1.hide hD (fun _ z => by cases z), Ext.new r1 hD, Tr.hide hD, sameL_ok hsl, Nat.le_refl _, nL, nZ, by simpa using hcl, rfl⟩, ?_⟩
      rintro i m H2 ⟨rfl, hle, M2, h2, acc, accV, rest, hD2, rs2, r2, x2, t2, l2, hac, nL2, nZ2, hcl2, hfull⟩
      obtain ⟨go, stop⟩ := it (M2.hide D) H2 h2 t2 r2 l2
      by_cases hlt : i < s.xs.length
      · obtain ⟨g1, g2⟩ := go i hlt
        rw [List.drop_eq_getElem_cons hlt] at hcl2
        unfold compL at hcl2
        cases hg1 : g s.xs[i] (wipeE ρ1 vs) with
        | none => simp only [hg1] at hcl2; cases hcl2
        | some ρ3 =>
          simp only [hg1] at hcl2
          refine .inr ⟨g1, fun H' => ∃ (M : Gh) (h : PH) (acc : List PV) (accV : List V) (rest : List PV), H' D = some (.lst accV) ∧ Reps G (M.hide D) H' accV acc ∧ HRel G (M.hide D) H' h ∧ Ext M1 H1 M H' ∧ Tr M1 H1 (M.hide D) H' ∧ lvOk s h ∧ accV.length ≤ i + 1 ∧ D ∉ M.L ∧ D ∉ M.Z ∧ compL s g ft fe (wipeE ρ1 vs) (s.xs.drop (i + 1)) h = .ok rest hE ∧ acc ++ rest = full, fun H' q => ⟨s.xs.length - (i + 1), by omega, rfl, hlt, q⟩, fun u H3 y => ?_⟩
          obtain ⟨y1, y2, y3⟩ := g2 u H3 y
          have e0 : ERel G (M2.hide D) H2 (wipeE ρ1 vs) (L2.wipe σ vs) := (e1.tr t2).wipe vs
          refine ⟨M2.hide D, h2, s.xs[i], wipeE ρ1 vs, ρ3, y2, e0.ext y1, y3 _ (List.getElem?_eq_getElem hlt), hg1, fun σ4 e4 w4 => ⟨by rw [w4 vs hss, wipe_wipe], M2.hide D, ρ3, h2, y2, e4, ?_⟩⟩
          -- what stays behind a step with D hidden
          have keepD : ∀ {M' : Gh} {H' : Hp}, Ext (M2.hide D) H2 M' H' → ∃ M'' : Gh, M' = M''.hide D ∧ H' D = some (.lst accV) ∧ Ext M1 H1 M'' H' ∧ Tr M1 H1 M' H' ∧ Reps G M' H' accV acc ∧ D ∉ M''.L ∧ D ∉ M''.Z := fun {M' H'} x' => by
            obtain ⟨L, E, e, hL⟩ := x'.pre
            have hL' : ∀ a ∈ L, H1 a = none := fun a ha => by
              cases q : H1 a with
              | none => rfl
              | some o => exact absurd (hL a ha) (x2.dom a (by rw [q]; simp))
            have xx : Ext M2 H2 ⟨M2.L ++ L, M2.Z, E ++ M2.D⟩ H' := ⟨⟨L, E, rfl, hL⟩, x'.keep, x'.dom⟩
            refine ⟨⟨M2.L ++ L, M2.Z, E ++ M2.D⟩, e, x'.keep D _ hD2 (fun z => absurd z nL2) (fun ps z => by cases z), x2.trans xx, t2.trans x'.tr, Reps.ext x' _ _ rs2, fun z => ?_, nZ2⟩
            rcases List.mem_append.mp z with z | z
            · exact nL2 z
            · rw [hL D z] at hD2; cases hD2
          cases hf1 : ft ρ3 h2 with
          | bad => rw [hf1] at hcl2; cases hcl2
          | exc _ _ => rw [hf1] at hcl2; cases hcl2
          | ok b h5 =>
            rw [hf1] at hcl2
            intro b' M5 H5 x5 r5 p5
            subst p5
            have x5' := y1.trans x5
            cases b' with
            | false =>
              rw [if_neg Bool.false_ne_true]
              simp only at hcl2
              cases hsl5 : sameL s h5 with
              | false => simp only [hsl5] at hcl2; cases hcl2
              | true =>
                simp only [hsl5, if_true] at hcl2
                obtain ⟨M6, rfl, d6, x6, t6, rs6, nl6, nz6⟩ := keepD x5'
                exact ⟨M6, h5, acc, accV, rest, d6, rs6, r5, x6, t6, sameL_ok hsl5, by omega, nl6, nz6, hcl2, hfull⟩
            | true =>
              rw [if_pos rfl]
              simp only at hcl2
              refine ⟨M5, ρ3, h5, r5, e4.ext x5, ?_⟩
              cases hf2 : fe ρ3 h5 with
              | bad => rw [hf2] at hcl2; cases hcl2
              | exc _ _ => rw [hf2] at hcl2; cases hcl2
              | ok v h7 =>
                rw [hf2] at hcl2
                intro u7 M7 H7 x7 r7 p7
                simp only at hcl2
                cases hsl7 : sameL s h7 with
                | false => simp only [hsl7] at hcl2; cases hcl2
                | true =>
                  simp only [hsl7, if_true] at hcl2
                  cases hc7 : compL s g ft fe (wipeE ρ1 vs) (s.xs.drop (i + 1)) h7 with
                  | bad => rw [hc7] at hcl2; cases hcl2
                  | exc _ _ => rw [hc7] at hcl2; cases hcl2
                  | ok rest' h8 =>
                    rw [hc7] at hcl2
                    simp only [R.bind_ok] at hcl2
                    cases hcl2
                    obtain ⟨M8, rfl, d8, x8, t8, rs8, nl8, nz8⟩ := keepD (x5'.trans x7)
                    refine ⟨accV, d8, by omega, M8, h7, acc ++ [v], accV ++ [u7], rest', upd_same, Reps.tr Tr.hid _ _ (rs8.snoc p7), r7.hidW (fun u f z => by rw [d8] at z; cases z; exact f) (fun b z => by rw [d8] at z; cases z) (fun _ z => by cases z), ?_, t8.trans Tr.hid, sameL_ok hsl7, by simp; omega, nl8, nz8, hc7, by simpa using hfull⟩
                    refine ⟨x8.pre, fun a o q n t => ?_, fun a q => ?_⟩
                    · rw [upd_ne (ne_of_none q hD)]; exact x8.keep a o q n t
                    · by_cases z : a = D
                      · rw [z, upd_same]; simp
                      · rw [upd_ne z]; exact x8.dom a q
      · have e : i = s.xs.length := by omega
        subst e
        rw [List.drop_length] at hcl2
        simp only [compL] at hcl2
        cases hcl2
        rw [List.append_nil] at hfull
        subst hfull
        obtain ⟨v, h', M', hk1, hM, hr, hrep⟩ := hk M2 H2 hE D accV acc r2 hD2 (by omega) rs2 nZ2 nL2
        rw [hk1] at o1
        refine .inl ⟨stop, o1 (.ref D) M' H2 ?_ hr hrep⟩
        rcases hM with rfl | rfl
        · exact x2
        · exact ext_add x2 hD
end
end J

/-! J: comprehensions as rules; two clauses; enumerate. -/
namespace J
open PySem PySem.Spec PyProof.Rows L2
section
variable {G : Gc} {X : Cx} {W : WX} {tg iter : Expr} {pos : Pos}
/-- a comprehension's state: D is its list, the items so far -/
def CSt (G : Gc) (M1 : Gh) (H1 : Hp) (D : Addr) (M : Gh) (h : PH) (acc : List PV) (H : Hp) : Prop :=
  ∃ accV : List V, H D = some (.lst accV) ∧ Reps G (M.hide D) H accV acc ∧ HRel G (M.hide D) H h ∧ Ext M1 H1 M H ∧ Tr M1 H1 (M.hide D) H ∧ D ∉ M.L ∧ D ∉ M.Z
theorem CSt.step {M1 M M' : Gh} {H1 H H' : Hp} {D : Addr} {h h' : PH} {acc : List PV} (c : CSt G M1 H1 D M h acc H) (x : Ext (M.hide D) H M' H') (r : HRel G M' H' h') : ∃ M'' : Gh, M' = M''.hide D ∧ CSt G M1 H1 D M'' h' acc H' := by
  obtain ⟨accV, hD, rs, r0, x0, t0, nL, nZ⟩ := c
  obtain ⟨L, E, e, hL⟩ := x.pre
  have xx : Ext M H ⟨M.L ++ L, M.Z, E ++ M.D⟩ H' := ⟨⟨L, E, rfl, hL⟩, x.keep, x.dom⟩
  refine ⟨⟨M.L ++ L, M.Z, E ++ M.D⟩, e, accV, x.keep D _ hD (fun z => absurd z nL) (fun ps z => by cases z), ?_, ?_, x0.trans xx, ?_, fun z => ?_, nZ⟩
  · have := Reps.ext x _ _ rs; rw [e] at this; exact this
  · have := r; rw [e] at this; exact this
  · have := t0.trans x.tr; rw [e] at this; exact this
  · rcases List.mem_append.mp z with z | z
    · exact nL z
    · rw [hL D z] at hD; cases hD
theorem CSt.push {M1 M : Gh} {H1 H : Hp} {D : Addr} {h : PH} {acc : List PV} (c : CSt G M1 H1 D M h acc H) (hD1 : H1 D = none) {u : V} {v : PV} (p : Rep G (M.hide D) H u v) :
    ∃ accV, H D = some (.lst accV) ∧ accV.length = acc.length ∧ CSt G M1 H1 D M h (acc ++ [v]) (upd H D (.lst (accV ++ [u]))) ∧ Tr (M.hide D) H (M.hide D) (upd H D (.lst (accV ++ [u]))) := by
  obtain ⟨accV, hD, rs, r0, x0, t0, nL, nZ⟩ := c
  refine ⟨accV, hD, rs.length, ⟨accV ++ [u], upd_same, Reps.tr Tr.hid _ _ (rs.snoc p), r0.hidW (fun u f z => by rw [hD] at z; cases z; exact f) (fun b z => by rw [hD] at z; cases z) (fun _ z => by cases z), ⟨x0.pre, fun a o q n t => ?_, fun a q => ?_⟩, t0.trans Tr.hid, nL, nZ⟩, Tr.hid⟩
  · rw [upd_ne (ne_of_none q hD1)]; exact x0.keep a o q n t
  · by_cases z : a = D
    · rw [z, upd_same]; simp
    · rw [upd_ne z]; exact x0.dom a q
/-- the loop of one clause, its element pushed -/
theorem loop_ok {M1 : Gh} {H1 : Hp} {D : Addr} (hD1 : H1 D = none) {J : It} {s : Src} {g : GF} {ss vs : List Nat} {ft : SB} {fe : SE} {Mb : Gh} {Hb : Hp} {ρ0 : En} {σ0 : L2.St} (hss : ∀ i ∈ ss, i ∈ vs) (it : ItRep G Mb Hb J s) (eb : ERel G Mb Hb ρ0 σ0)
    {Ms : Gh} {H : Hp} {h hE : PH} {acc ws : List PV} (c : CSt G M1 H1 D Ms h acc H) (tb : Tr Mb Hb (Ms.hide D) H) (l : lvOk s h) (hcl : compL s g ft fe (wipeE ρ0 vs) s.xs h = .ok ws hE) (hz : acc.length + ws.length ≤ sizeLine)
    {P : Hp → Prop} (fin : ∀ M H', CSt G M1 H1 D M hE (acc ++ ws) H' → Tr (Ms.hide D) H (M.hide D) H' → P H') :
    ∃ Wv : Nat → Nat → Hp → Prop, (∃ m, Wv 0 m H) ∧ ∀ i m H, Wv i m H → (J.stop i H ∧ P H) ∨ (J.go i H ∧ ∃ Nx : Hp → Prop, (∀ H', Nx H' → ∃ m', m' < m ∧ Wv (i + 1) m' H') ∧ ∀ x H', J.yld i H x H' → TGF G g ss x (L2.wipe σ0 vs) H' fun σ2 H2 => L2.wipe σ2 vs = L2.wipe σ0 vs ∧ TFB G W0 ft σ2 H2 fun b H3 =>
      if b = true then TFE G W0 fe σ2 H3 fun y H4 => ∃ acc, H4 D = some (.lst acc) ∧ acc.length < sizeLine ∧ Nx (upd H4 D (.lst (acc ++ [y]))) else Nx H3) := by
  obtain ⟨hzs, it⟩ := it
  refine ⟨fun i m H' => m = s.xs.length - i ∧ i ≤ s.xs.length ∧ ∃ (M : Gh) (h' : PH) (a' rest : List PV), CSt G M1 H1 D M h' a' H' ∧ Tr (Ms.hide D) H (M.hide D) H' ∧ lvOk s h' ∧ compL s g ft fe (wipeE ρ0 vs) (s.xs.drop i) h' = .ok rest hE ∧ a' ++ rest = acc ++ ws,
    ⟨s.xs.length, by simp, Nat.zero_le _, Ms, h, acc, ws, c, ⟨⟨[], by simp⟩, fun _ ha => ha, fun a o q n t => ⟨q, n⟩⟩, l, by simpa using hcl, rfl⟩, ?_⟩
  rintro i m H2 ⟨rfl, hle, M2, h2, a2, rest, c2, t2, l2, hcl2, hfull⟩
  have r2 : HRel G (M2.hide D) H2 h2 := by obtain ⟨_, _, _, r, _⟩ := c2; exact r
  obtain ⟨go, stop⟩ := it (M2.hide D) H2 h2 (tb.trans t2) r2 l2
  by_cases hlt : i < s.xs.length
  · obtain ⟨g1, g2⟩ := go i hlt
    rw [List.drop_eq_getElem_cons hlt] at hcl2
    unfold compL at hcl2
    cases hg1 : g s.xs[i] (wipeE ρ0 vs) with
    | none => simp only [hg1] at hcl2; cases hcl2
    | some ρ3 =>
      simp only [hg1] at hcl2
      refine .inr ⟨g1, fun H' => ∃ (M : Gh) (h' : PH) (a' rest : List PV), CSt G M1 H1 D M h' a' H' ∧ Tr (Ms.hide D) H (M.hide D) H' ∧ lvOk s h' ∧ compL s g ft fe (wipeE ρ0 vs) (s.xs.drop (i + 1)) h' = .ok rest hE ∧ a' ++ rest = acc ++ ws, fun H' q => ⟨s.xs.length - (i + 1), by omega, rfl, hlt, q⟩, fun u H3 y => ?_⟩
      obtain ⟨y1, y2, y3⟩ := g2 u H3 y
      have e0 : ERel G (M2.hide D) H2 (wipeE ρ0 vs) (L2.wipe σ0 vs) := (eb.tr (tb.trans t2)).wipe vs
      refine ⟨M2.hide D, h2, s.xs[i], wipeE ρ0 vs, ρ3, y2, e0.ext y1, y3 _ (List.getElem?_eq_getElem hlt), hg1, fun σ4 e4 w4 => ⟨by rw [w4 vs hss, wipe_wipe], M2.hide D, ρ3, h2, y2, e4, ?_⟩⟩
      cases hf1 : ft ρ3 h2 with
      | bad => rw [hf1] at hcl2; cases hcl2
      | exc _ _ => rw [hf1] at hcl2; cases hcl2
      | ok b h5 =>
        rw [hf1] at hcl2
        intro b' M5 H5 x5 r5 p5
        subst p5
        have x5' := y1.trans x5
        cases b' with
        | false =>
          rw [if_neg Bool.false_ne_true]
          simp only at hcl2
          cases hsl5 : sameL s h5 with
          | false => simp only [hsl5] at hcl2; cases hcl2
          | true =>
            simp only [hsl5, if_true] at hcl2
            obtain ⟨M6, rfl, c6⟩ := c2.step x5' r5
            exact ⟨M6, h5, a2, rest, c6, t2.trans x5'.tr, sameL_ok hsl5, hcl2, hfull⟩
        | true =>
          rw [if_pos rfl]
          simp only at hcl2
          refine ⟨M5, ρ3, h5, r5, e4.ext x5, ?_⟩
          cases hf2 : fe ρ3 h5 with
          | bad => rw [hf2] at hcl2; cases hcl2
          | exc _ _ => rw [hf2] at hcl2; cases hcl2
          | ok v h7 =>
            rw [hf2] at hcl2
            intro u7 M7 H7 x7 r7 p7
            simp only at hcl2
            cases hsl7 : sameL s h7 with
            | false => simp only [hsl7] at hcl2; cases hcl2
            | true =>
              simp only [hsl7, if_true] at hcl2
              cases hc7 : compL s g ft fe (wipeE ρ0 vs) (s.xs.drop (i + 1)) h7 with
              | bad => rw [hc7] at hcl2; cases hcl2
              | exc _ _ => rw [hc7] at hcl2; cases hcl2
              | ok rest' h8 =>
                rw [hc7] at hcl2
                simp only [R.bind_ok] at hcl2
                cases hcl2
                obtain ⟨M8, rfl, c8⟩ := c2.step (x5'.trans x7) r7
                obtain ⟨accV, d8, l8, c9, t9⟩ := c8.push hD1 p7
                have hlen := congrArg List.length hfull
                simp only [List.length_append, List.length_cons] at hlen
                exact ⟨accV, d8, by omega, M8, h7, a2 ++ [v], rest', c9, (t2.trans (x5'.trans x7).tr).trans t9, sameL_ok hsl7, hc7, by simpa using hfull⟩
  · have e : i = s.xs.length := by omega
    subst e
    rw [List.drop_length] at hcl2
    simp only [compL] at hcl2
    cases hcl2
    rw [List.append_nil] at hfull
    subst hfull
    exact .inl ⟨stop, fin M2 H2 c2 t2⟩

/-! ### two clauses -/
def comp2L (s : Src) (g : GF) (ft : SB) (fi1 : SI) (g1 : GF) (ft1 : SB) (fe : SE) (vs1 : List Nat) (ρ0 : En) : List PV → PH → R (List PV)
  | [], h => .ok [] h
  | x :: xs, h => match g x ρ0 with
    | none => .bad
    | some ρ1 => match ft ρ1 h with
      | .ok true h1 => (match fi1 ρ1 h1 with
        | .ok s1 h2 => if sameL s1 h2 then (match compL s1 g1 ft1 fe (wipeE ρ1 vs1) s1.xs h2 with
          | .ok ws h3 => if sameL s h3 then (comp2L s g ft fi1 g1 ft1 fe vs1 ρ0 xs h3).bind fun vs h4 => .ok (ws ++ vs) h4 else .bad
          | _ => .bad) else .bad
        | _ => .bad)
      | .ok false h1 => if sameL s h1 then comp2L s g ft fi1 g1 ft1 fe vs1 ρ0 xs h1 else .bad
      | _ => .bad
theorem comp2L_exc {s : Src} {g : GF} {ft : SB} {fi1 : SI} {g1 : GF} {ft1 : SB} {fe : SE} {vs1 : List Nat} {ρ0 : En} : ∀ (xs : List PV) (h : PH) (e : Ex) (h' : PH), comp2L s g ft fi1 g1 ft1 fe vs1 ρ0 xs h ≠ .exc e h'
  | [], h, e, h' => by simp [comp2L]
  | x :: xs, h, e, h' => by
    unfold comp2L
    cases g x ρ0 with
    | none => simp
    | some ρ1 =>
      simp only
      cases ft ρ1 h with
      | ok b h1 =>
        cases b with
        | true =>
          simp only
          cases fi1 ρ1 h1 with
          | ok s1 h2 =>
            simp only
            split
            · cases compL s1 g1 ft1 fe (wipeE ρ1 vs1) s1.xs h2 with
              | ok ws h3 =>
                simp only
                split
                · have ih := comp2L_exc (s := s) (g := g) (ft := ft) (fi1 := fi1) (g1 := g1) (ft1 := ft1) (fe := fe) (vs1 := vs1) (ρ0 := ρ0) xs h3
                  cases q : comp2L s g ft fi1 g1 ft1 fe vs1 ρ0 xs h3 with
                  | ok vs h3 => simp
                  | exc e2 h4 => exact absurd q (ih e2 h4)
                  | bad => simp
                · simp
              | exc _ _ => simp
              | bad => simp
            · simp
          | exc _ _ => simp
          | bad => simp
        | false =>
          simp only
          split
          · exact comp2L_exc xs h1 e h'
          · simp
      | exc _ _ => simp
      | bad => simp
def lc2G (vs vs1 : List Nat) (fi : SI) (g : GF) (ft : SB) (fi1 : SI) (g1 : GF) (ft1 : SB) (fe : SE) (k : List PV → PH → R PV) : SE := fun ρ h => (fi ρ h).bind fun s h1 => if sameL s h1 then (comp2L s g ft fi1 g1 ft1 fe vs1 (wipeE ρ vs) s.xs h1).bind fun xs h2 => if xs.length ≤ sizeLine then k xs h2 else .bad else .bad
def lc2 (vs vs1 : List Nat) (fi : SI) (g : GF) (ft : SB) (fi1 : SI) (g1 : GF) (ft1 : SB) (fe : SE) : SE := lc2G vs vs1 fi g ft fi1 g1 ft1 fe fun xs h => .ok (.lst xs) h
theorem lc2_t {fi fi1 : SI} {g g1 : GF} {ss ss1 : List Nat} {ft ft1 : SB} {fe : SE} {vs vs1 : List Nat} {k : List PV → PH → R PV} (hk : LcEnd G k) (hss : ∀ i ∈ ss, i ∈ vs) (hss1 : ∀ i ∈ ss1, i ∈ vs1) {σ : L2.St} {H : Hp} {Q : VK} (t : TFE G W (lc2G vs vs1 fi g ft fi1 g1 ft1 fe k) σ H Q) :
    tLc2 (TF G W (fun M H (J : It) (s : Src) => ItRep G M H J s) fi) (TGF G g ss) (TFB G W0 ft) (TF G W0 (fun M H (J : It) (s : Src) => ItRep G M H J s) fi1) (TGF G g1 ss1) (TFB G W0 ft1) (TFE G W0 fe) vs vs1 σ H Q := by
  refine (TF.bind (Rp := fun M H (J : It) (s : Src) => ItRep G M H J s) (k := fun ρ s h1 => if sameL s h1 then (comp2L s g ft fi1 g1 ft1 fe vs1 (wipeE ρ vs) s.xs h1).bind fun xs h2 => if xs.length ≤ sizeLine then k xs h2 else .bad else .bad) t).mono fun J H1 ⟨M1, ρ1, h1, s, r1, e1, it, o1⟩ D hD => ?_
  cases hsl : sameL s h1 with
  | false => simp only [hsl] at o1; exact False.elim o1
  | true =>
    simp only [hsl, if_true] at o1
    obtain ⟨hz, it⟩ := it
    cases hcl : comp2L s g ft fi1 g1 ft1 fe vs1 (wipeE ρ1 vs) s.xs h1 with
    | bad => rw [hcl] at o1; exact False.elim o1
    | exc e h' => exact absurd hcl (comp2L_exc _ _ _ _)
    | ok full hE =>
      rw [hcl] at o1
      simp only [R.bind_ok] at o1
      by_cases hfz : full.length ≤ sizeLine
      · rw [if_pos hfz] at o1
        have nZ : D ∉ M1.Z := fun z => r1.hid D z hD
        have nL : D ∉ M1.L := fun z => r1.liveL z hD
        refine ⟨fun i m H' => m = s.xs.length - i ∧ i ≤ s.xs.length ∧ ∃ (M : Gh) (h' : PH) (a' rest : List PV), CSt G M1 H1 D M h' a' H' ∧ lvOk s h' ∧ comp2L s g ft fi1 g1 ft1 fe vs1 (wipeE ρ1 vs) (s.xs.drop i) h' = .ok rest hE ∧ a' ++ rest = full,
          ⟨s.xs.length, by simp, Nat.zero_le _, M1, h1, [], full, ⟨[], upd_same, trivial, r1.hide hD (fun _ z => by cases z), Ext.new r1 hD, Tr.hide hD, nL, nZ⟩, sameL_ok hsl, by simpa using hcl, rfl⟩, ?_⟩
        rintro i m H2 ⟨rfl, hle, M2, h2, a2, rest, c2, l2, hcl2, hfull⟩
        have r2 : HRel G (M2.hide D) H2 h2 := by obtain ⟨_, _, _, r, _⟩ := c2; exact r
        have t2 : Tr M1 H1 (M2.hide D) H2 := by obtain ⟨_, _, _, _, _, t, _⟩ := c2; exact t
        obtain ⟨go, stop⟩ := it (M2.hide D) H2 h2 t2 r2 l2
        by_cases hlt : i < s.xs.length
        · obtain ⟨g1', g2'⟩ := go i hlt
          rw [List.drop_eq_getElem_cons hlt] at hcl2
          unfold comp2L at hcl2
          cases hg1 : g s.xs[i] (wipeE ρ1 vs) with
          | none => simp only [hg1] at hcl2; cases hcl2
          | some ρ3 =>
            simp only [hg1] at hcl2
            refine .inr ⟨g1', fun H' => ∃ (M : Gh) (h' : PH) (a' rest : List PV), CSt G M1 H1 D M h' a' H' ∧ lvOk s h' ∧ comp2L s g ft fi1 g1 ft1 fe vs1 (wipeE ρ1 vs) (s.xs.drop (i + 1)) h' = .ok rest hE ∧ a' ++ rest = full, fun H' q => ⟨s.xs.length - (i + 1), by omega, rfl, hlt, q⟩, fun u H3 y => ?_⟩
            obtain ⟨y1, y2, y3⟩ := g2' u H3 y
            have e0 : ERel G (M2.hide D) H2 (wipeE ρ1 vs) (L2.wipe σ vs) := (e1.tr t2).wipe vs
            refine ⟨M2.hide D, h2, s.xs[i], wipeE ρ1 vs, ρ3, y2, e0.ext y1, y3 _ (List.getElem?_eq_getElem hlt), hg1, fun σ4 e4 w4 => ⟨by rw [w4 vs hss, wipe_wipe], M2.hide D, ρ3, h2, y2, e4, ?_⟩⟩
            cases hf1 : ft ρ3 h2 with
            | bad => rw [hf1] at hcl2; cases hcl2
            | exc _ _ => rw [hf1] at hcl2; cases hcl2
            | ok b h5 =>
              rw [hf1] at hcl2
              intro b' M5 H5 x5 r5 p5
              subst p5
              have x5' := y1.trans x5
              cases b' with
              | false =>
                rw [if_neg Bool.false_ne_true]
                simp only at hcl2
                cases hsl5 : sameL s h5 with
                | false => simp only [hsl5] at hcl2; cases hcl2
                | true =>
                  simp only [hsl5, if_true] at hcl2
                  obtain ⟨M6, rfl, c6⟩ := c2.step x5' r5
                  exact ⟨M6, h5, a2, rest, c6, sameL_ok hsl5, hcl2, hfull⟩
              | true =>
                rw [if_pos rfl]
                simp only at hcl2
                refine ⟨M5, ρ3, h5, r5, e4.ext x5, ?_⟩
                cases hf2 : fi1 ρ3 h5 with
                | bad => rw [hf2] at hcl2; cases hcl2
                | exc _ _ => rw [hf2] at hcl2; cases hcl2
                | ok s1 h7 =>
                  rw [hf2] at hcl2
                  intro J1 M7 H7 x7 r7 it7
                  simp only at hcl2
                  cases hsl7 : sameL s1 h7 with
                  | false => simp only [hsl7] at hcl2; cases hcl2
                  | true =>
                    simp only [hsl7, if_true] at hcl2
                    cases hc7 : compL s1 g1 ft1 fe (wipeE ρ3 vs1) s1.xs h7 with
                    | bad => rw [hc7] at hcl2; cases hcl2
                    | exc _ _ => rw [hc7] at hcl2; cases hcl2
                    | ok ws h8 =>
                      rw [hc7] at hcl2
                      simp only at hcl2
                      cases hsl8 : sameL s h8 with
                      | false => simp only [hsl8] at hcl2; cases hcl2
                      | true =>
                        simp only [hsl8, if_true] at hcl2
                        cases hc8 : comp2L s g ft fi1 g1 ft1 fe vs1 (wipeE ρ1 vs) (s.xs.drop (i + 1)) h8 with
                        | bad => rw [hc8] at hcl2; cases hcl2
                        | exc _ _ => rw [hc8] at hcl2; cases hcl2
                        | ok rest' h9 =>
                          rw [hc8] at hcl2
                          simp only [R.bind_ok] at hcl2
                          cases hcl2
                          obtain ⟨M8, rfl, c8⟩ := c2.step (x5'.trans x7) r7
                          have hlen := congrArg List.length hfull
                          simp only [List.length_append] at hlen
                          exact loop_ok hD hss1 it7 ((e4.ext x5).ext x7) c8 ⟨⟨[], by simp⟩, fun _ ha => ha, fun a o q n t => ⟨q, n⟩⟩ (sameL_ok hsl7) hc7 (by omega) fun M H' c' _ => ⟨M, h8, a2 ++ ws, rest', c', sameL_ok hsl8, hc8, by simpa using hfull⟩
        · have e : i = s.xs.length := by omega
          subst e
          rw [List.drop_length] at hcl2
          simp only [comp2L] at hcl2
          cases hcl2
          rw [List.append_nil] at hfull
          subst hfull
          obtain ⟨accV, hD2, rs2, _, x2, _, nL2, nZ2⟩ := c2
          obtain ⟨v, h', M', hk1, hM, hr, hrep⟩ := hk M2 H2 hE D accV a2 r2 hD2 (by rw [rs2.length]; exact hfz) rs2 nZ2 nL2
          rw [hk1] at o1
          refine .inl ⟨stop, o1 (.ref D) M' H2 ?_ hr hrep⟩
          rcases hM with rfl | rfl
          · exact x2
          · exact ext_add x2 hD
      · rw [if_neg hfz] at o1
        exact False.elim o1

/-! ### the rules -/
abbrev Cx.in_ (X : Cx) (scope : Scope) (s : Shared) (H : Hp) (C : Addr) (cl : List (Str × Addr)) (fp : List Addr) : Cx := X.blk s H scope (compEnvC scope cl C X.env) fp
variable {elt tg1 iter1 : Expr} {ifs ifs1 : List Expr} {scope : Scope} {fi fi1 : SI} {g g1 : GF} {ss ss1 : List Nat} {ft ft1 : SB} {fe : SE} {k : List PV → PH → R PV}
theorem je_lcG (own : List (Str × Nat)) (hk : LcEnd G k) (hN : X.N.Nodup) (hi : JI G X W tg iter fi) (ok : blkC X.N X.env.scope scope own = true)
    (hg : ∀ s H C cl fp, JG G (Cx.in_ X scope s H C cl fp) tg g ss) (ht : ∀ s H C cl fp, JTs G (Cx.in_ X scope s H C cl fp) W0 ifs ft) (he : ∀ s H C cl fp, JE G (Cx.in_ X scope s H C cl fp) W0 elt fe)
    (hss : ∀ i ∈ ss, i ∈ own.map (·.2) := by decide) (hc : X.calm = true := by rfl) (hs : ∀ x, foldedSetIterable iter X.env x = pure x := by intro _; rfl) :
    JE G X W (.ListComp elt [⟨tg, iter, ifs, 0⟩] scope pos) (lcG (own.map (·.2)) fi g ft fe k) :=
  pe_imp (pe_lc hc hN hi (blkOk_by ok) hg ht he hs) fun σ H Q t => lc_t hk hss t
theorem js_setLcG (i : Nat) {y : Str} {py spos : Pos} (own : List (Str × Nat)) (hk : LcEnd G k) (hN : X.N.Nodup) (hi : JI G X W tg iter fi) (ok : blkC X.N X.env.scope scope own = true)
    (hg : ∀ s H C cl fp, JG G (Cx.in_ X scope s H C cl fp) tg g ss) (ht : ∀ s H C cl fp, JTs G (Cx.in_ X scope s H C cl fp) W0 ifs ft) (he : ∀ s H C cl fp, JE G (Cx.in_ X scope s H C cl fp) W0 elt fe)
    (hsw : swapsWith (.ListComp elt [⟨tg, iter, ifs, 0⟩] scope pos) (some (.Name y py)) spos.line X.env = pure true)
    (hss : ∀ i ∈ ss, i ∈ own.map (·.2) := by decide) (hy : X.N[i]? = some y := by rfl) (hyl : X.env.scope.names.lookup y = some .local := by rfl) (hc : X.calm = true := by rfl) (hs : ∀ x, foldedSetIterable iter X.env x = pure x := by intro _; rfl) :
    JS G X W (.Assign [.Name y py] (.ListComp elt [⟨tg, iter, ifs, 0⟩] scope pos) spos) (sset i (lcG (own.map (·.2)) fi g ft fe k)) :=
  ps_imp (ps_setLc hc hN hy hyl hsw hi (blkOk_by ok) hg ht he hs) fun D σ H t => by
    obtain ⟨M, ρ, h, r, e, o⟩ := t
    refine lc_t (W := W) hk hss ⟨M, ρ, h, r, e, ?_⟩
    exact (OutS.bind (Rp := fun M H (u : V) (v : PV) => Rep G M H u v) e o).mono fun u H1 ⟨M1, h1, v, x1, r1, p, o1⟩ => o1 _ M1 H1 (Ext.refl _ _) r1 ((e.ext x1).set p)
theorem je_lc2G (own : List (Str × Nat)) (vs1 : List Nat) (hk : LcEnd G k) (hN : X.N.Nodup) (hi : JI G X W tg iter fi) (ok : blkC X.N X.env.scope scope own = true)
    (hg : ∀ s H C cl fp, JG G (Cx.in_ X scope s H C cl fp) tg g ss) (ht : ∀ s H C cl fp, JTs G (Cx.in_ X scope s H C cl fp) W0 ifs ft)
    (hi1 : ∀ s H C cl fp, JI G (Cx.in_ X scope s H C cl fp) W0 tg1 iter1 fi1) (hg1 : ∀ s H C cl fp, JG G (Cx.in_ X scope s H C cl fp) tg1 g1 ss1) (ht1 : ∀ s H C cl fp, JTs G (Cx.in_ X scope s H C cl fp) W0 ifs1 ft1)
    (he : ∀ s H C cl fp, JE G (Cx.in_ X scope s H C cl fp) W0 elt fe)
    (hss : ∀ i ∈ ss, i ∈ own.map (·.2) := by decide) (hss1 : ∀ i ∈ ss1, i ∈ vs1 := by decide) (hv : ∀ i ∈ vs1, i ∈ own.map (·.2) := by decide) (hc : X.calm = true := by rfl) (hs : ∀ x, foldedSetIterable iter X.env x = pure x := by intro _; rfl) (hs1 : ∀ env x, foldedSetIterable iter1 env x = pure x := by intro _ _; rfl) :
    JE G X W (.ListComp elt [⟨tg, iter, ifs, 0⟩, ⟨tg1, iter1, ifs1, 0⟩] scope pos) (lc2G (own.map (·.2)) vs1 fi g ft fi1 g1 ft1 fe k) :=
  pe_imp (pe_lc2 hc hN hi (blkOk_by ok) hv hg ht hi1 hg1 ht1 he hs hs1) fun σ H Q t => lc2_t hk hss hss1 t
theorem js_setLc2G (i : Nat) {y : Str} {py spos : Pos} (own : List (Str × Nat)) (vs1 : List Nat) (hk : LcEnd G k) (hN : X.N.Nodup) (hi : JI G X W tg iter fi) (ok : blkC X.N X.env.scope scope own = true)
    (hg : ∀ s H C cl fp, JG G (Cx.in_ X scope s H C cl fp) tg g ss) (ht : ∀ s H C cl fp, JTs G (Cx.in_ X scope s H C cl fp) W0 ifs ft)
    (hi1 : ∀ s H C cl fp, JI G (Cx.in_ X scope s H C cl fp) W0 tg1 iter1 fi1) (hg1 : ∀ s H C cl fp, JG G (Cx.in_ X scope s H C cl fp) tg1 g1 ss1) (ht1 : ∀ s H C cl fp, JTs G (Cx.in_ X scope s H C cl fp) W0 ifs1 ft1)
    (he : ∀ s H C cl fp, JE G (Cx.in_ X scope s H C cl fp) W0 elt fe)
    (hsw : swapsWith (.ListComp elt [⟨tg, iter, ifs, 0⟩, ⟨tg1, iter1, ifs1, 0⟩] scope pos) (some (.Name y py)) spos.line X.env = pure true)
    (hss : ∀ i ∈ ss, i ∈ own.map (·.2) := by decide) (hss1 : ∀ i ∈ ss1, i ∈ vs1 := by decide) (hv : ∀ i ∈ vs1, i ∈ own.map (·.2) := by decide) (hy : X.N[i]? = some y := by rfl) (hyl : X.env.scope.names.lookup y = some .local := by rfl) (hc : X.calm = true := by rfl) (hs : ∀ x, foldedSetIterable iter X.env x = pure x := by intro _; rfl) (hs1 : ∀ env x, foldedSetIterable iter1 env x = pure x := by intro _ _; rfl) :
    JS G X W (.Assign [.Name y py] (.ListComp elt [⟨tg, iter, ifs, 0⟩, ⟨tg1, iter1, ifs1, 0⟩] scope pos) spos) (sset i (lc2G (own.map (·.2)) vs1 fi g ft fi1 g1 ft1 fe k)) :=
  ps_imp (ps_setLc2 hc hN hy hyl hsw hi (blkOk_by ok) hv hg ht hi1 hg1 ht1 he hs hs1) fun D σ H t => by
    obtain ⟨M, ρ, h, r, e, o⟩ := t
    refine lc2_t (W := W) hk hss hss1 ⟨M, ρ, h, r, e, ?_⟩
    exact (OutS.bind (Rp := fun M H (u : V) (v : PV) => Rep G M H u v) e o).mono fun u H1 ⟨M1, h1, v, x1, r1, p, o1⟩ => o1 _ M1 H1 (Ext.refl _ _) r1 ((e.ext x1).set p)
end
end J

/-! J: enumerate. -/
namespace J
open PySem PySem.Spec PyProof.Rows L2
section
open AutoSeq1 (wpAny_loadPart')
set_option maxHeartbeats 1000000 in
theorem meets_enum1 {v : Value} {o : Obj} {H : Heap → Prop} (B : Begins v o H) :
    Meets (Builtin.«enumerate.__new__» ⟨[.type "enumerate", v], []⟩) (fun _ R s => H s.heap ∧
      R (.ok (.ret (.ref (s.heap.push o).objs.size))) { s with heap := (s.heap.push o).push { cls := .type "enumerate", data := .fields #[.none, .bool false, .ref s.heap.objs.size, rawInt 0, .none, .none] } }) :=
  .of_wp fun prog w A R s h => by
    obtain ⟨hp, g, d, tk, os⟩ := s; obtain ⟨h1, h⟩ := h
    have hsub := sub_enumerate
    have q1 : ∀ {A' : Around} {E : Value → Shared → Prop} {Q : Value → Shared → Prop}, Q (.ref hp.objs.size) ⟨hp.push o, g, d, tk, os⟩ → wpAny (model prog w) A' (pyIter v) Q E ⟨hp, g, d, tk, os⟩ :=
      fun q => B.iter prog w _ _ ⟨hp, g, d, tk, os⟩ _ h1 q
    wp_walk using q1
    refine wpAny_stack_any fun st => wpAny_pure ?_
    split
    · rename_i c _ _ _ _ _
      cases (c == Value.type "enumerate")
      · wp_walk using q1
        exact ⟨_, rfl, h⟩
      · wp_walk using q1
        exact ⟨_, rfl, h⟩
    · wp_walk using q1
      exact ⟨_, rfl, h⟩
theorem enum_begins1 {prog : Program} {w : World} {A : Around} {E : Value → Shared → Prop} {s : Shared} {v : Value} {o : Obj} {H : Heap → Prop} {Q : Value → Shared → Prop} (B : Begins v o H) (h1 : H s.heap)
    (h : ∀ h', IsEnum h' (s.heap.objs.size + 1) s.heap.objs.size 0 .none → h'.get? s.heap.objs.size = some o → h'.objs.size = s.heap.objs.size + 2 →
      (∀ b o, s.heap.get? b = some o → h'.get? b = some o) → Q (.ref (s.heap.objs.size + 1)) { s with heap := h' }) :
    wpAny (model prog w) A (call (.type "enumerate") [v]) Q E s := by
  refine callType_new F.called_enumerate (by decide) (F.typeCall_enumerate_1 _) (F.newCall_enumerate_1 _) (fun obj => F.args_object_init_2 obj _) F.entry_enumerate_new (meets_enum1 B) ⟨h1, ?_⟩
  have hz : (s.heap.push o).objs.size = s.heap.objs.size + 1 := Heap.size_push ..
  show _ ∧ _
  rw [hz]
  have he : IsEnum ((s.heap.push o).push { cls := .type "enumerate", data := .fields #[.none, .bool false, .ref s.heap.objs.size, rawInt 0, .none, .none] }) (s.heap.objs.size + 1) s.heap.objs.size 0 .none := by
    have := Heap.get?_push_size (s.heap.push o) (o := { cls := .type "enumerate", data := .fields #[.none, .bool false, .ref s.heap.objs.size, rawInt 0, .none, .none] }) rfl
    rw [hz] at this; exact this
  refine ⟨⟨_, he, rfl⟩, h _ he (Heap.get?_push_of_some _ (Heap.get?_push_size _ B.free)) (by rw [Heap.size_push, hz]) fun b o x => Heap.get?_push_of_some _ (Heap.get?_push_of_some _ x)⟩
end
/-- the tuple at a, each item in a new pair -/
def IteT (K : PySem.W.Frag) (a : Addr) : It :=
  ⟨fun i H => ∃ (xs : List V) (x : V), SqT K H a xs ∧ xs[i]? = some x, fun i H v H' => ∃ T x, v = .ref T ∧ H T = none ∧ H' = upd H T (.tup [.int (i : Nat), x]) ∧ ∀ xs, SqT K H a xs → xs[i]? = some x, fun i H => ∃ xs : List V, SqT K H a xs ∧ xs.length = i⟩
theorem turn_enumT {P : Program} {w : World} {K : PySem.W.Frag} {elts : List Expr} {kk : Nat} {tpos : Pos} (a e it : Addr) :
    Turn P w K (.Tuple elts kk tpos) (IteT K a) [e, it] e (fun i h => (∃ old, IsEnum h e it ((i : Nat) : Int) old) ∧ h.IsTupleIter it a i ∧ e ≠ it) where
  mem := by simp
  obj := fun i h st b hb => by
    obtain ⟨⟨old, he⟩, ⟨o, ho, hc, hd⟩, _⟩ := st
    have e' : b = e ∨ b = it := by simpa using hb
    rcases e' with z | z
    · rw [z]; exact ⟨_, he, fun v q => nomatch q⟩
    · rw [z]; exact ⟨o, ho, fun v q => by rw [hd] at q; cases q⟩
  keep := fun i h h' st k => let ⟨⟨old, he⟩, hi, hne⟩ := st; ⟨⟨old, k e (by simp) _ he⟩, hi.at fun o q => k it (by simp) o q, hne⟩
  item := by
    intro X hP hw hK hc i pins s σ H E I hf st hg
    subst hP hw hK
    obtain ⟨⟨old, he⟩, hit, hne⟩ := st
    obtain ⟨xs, x, hq, hx⟩ := hg
    obtain ⟨its, rv, p, hz⟩ := I.tuple hq
    obtain ⟨u, hu, ru⟩ := rv.get hx
    have hel : e < s.heap.objs.size := Heap.lt_size he
    have hil : it < s.heap.objs.size := by obtain ⟨_, q, _⟩ := hit; exact Heap.lt_size q
    have hia : a ≠ it := fun z => by
      obtain ⟨o1, q1, c1, _⟩ := p
      obtain ⟨o2, q2, c2, _⟩ := hit
      rw [z, q2] at q1; cases q1; rw [c1] at c2; exact absurd (Value.type.inj c2) (by decide)
    have hea : e ≠ a := fun z => by
      obtain ⟨o1, q1, c1, _⟩ := p
      rw [← z] at q1
      have q2 : s.heap.get? e = some _ := he
      rw [q2] at q1; cases q1; exact absurd (Value.type.inj c1) (by decide)
    have hil2 : i < its.toArray.size := by
      have := (List.getElem?_eq_some_iff.mp hu).1
      simpa using this
    have D := Draws.tuple (prog := X.prog) (w := X.w) (A := X.A.in1) (I.ok.hd hc) it a hia its.toArray
    refine wpAny_pyNext_enum_itemD D he ⟨hit, p⟩ hil2 hne (fun z => ?_) fun u' h' tk hu' ho hit' hT hsz hk => ?_
    · have z' : e = it ∨ e = a := by simpa using z
      exact z'.elim hne hea
    have eu : u' = u := by
      have h1 : its.toArray[i]? = some u' := hu'
      have h2 : its.toArray[i]? = some u := by simpa using hu
      rw [h1] at h2; exact Option.some.inj h2
    subst eu
    refine ⟨_, rfl, wpAny_letOwnedTupleGo_enum (s := { s with heap := h', toks := tk + 1 }) ho fun h'' he' sb => ?_⟩
    have hT2 : h''.get? s.heap.objs.size = some { cls := .type "tuple", data := .seq #[.int i tk, u'] } := (sb.2 _ (Nat.ne_of_gt hel)).trans hT
    have new : ObjOk X.prog X.w (upd H s.heap.objs.size (.tup [.int (i : Nat), x])) h'' s.heap.objs.size (.tup [.int (i : Nat), x]) :=
      ⟨by show 2 ≤ sizeLine; decide, [.int i tk, u'], .cons ⟨_, rfl⟩ (.cons ru .nil), ⟨_, hT2, rfl, _, rfl⟩⟩
    have I1 : Inv X pins σ (upd H s.heap.objs.size (.tup [.int (i : Nat), x])) { s with heap := h'', toks := tk + 1 } :=
      I.turnedNew (ch := [e, it]) (fun b ob hb q => (sb.2 b (fun z => hb (by simp [z]))).trans (hk b ob (fun z => hb (by simp [z])) (fun z => hb (by simp [z])) q)) hf (Nat.le_refl _) new
    refine ⟨.ref s.heap.objs.size, _, I1, rfl, ⟨_, x, rfl, I.hok.fresh (Nat.le_refl _), rfl, fun ys hy => by rw [I.tuple_inj hy hq]; exact hx⟩, ⟨⟨u', ?_⟩, hit'.1.at fun o q => (sb.2 it (Ne.symm hne)).trans q, hne⟩, fun b hb => ?_⟩
    · have e1 : ((i + 1 : Nat) : Int) = (i : Int) + 1 := by omega
      rw [e1]; exact he'
    · have hb' : b < s.heap.objs.size := by
        have e' : b = e ∨ b = it := by simpa using hb
        rcases e' with z | z
        · rw [z]; exact hel
        · rw [z]; exact hil
      rw [upd_ne (Nat.ne_of_lt hb')]
      exact (hf b hb).1
  done := by
    intro X hP hw hK hc i pins s σ H E I hf st hg
    subst hP hw hK
    obtain ⟨⟨old, he⟩, hit, hne⟩ := st
    obtain ⟨xs, hq, hx⟩ := hg
    obtain ⟨its, rv, p, hz⟩ := I.tuple hq
    obtain ⟨f0, f1, f2, f3, f4, f5⟩ := hf it (by simp)
    have hl := rv.length
    have hia : a ≠ it := fun z => by
      obtain ⟨o1, q1, c1, _⟩ := p
      obtain ⟨o2, q2, c2, _⟩ := hit
      rw [z, q2] at q1; cases q1; rw [c1] at c2; exact absurd (Value.type.inj c2) (by decide)
    have D := Draws.tuple (prog := X.prog) (w := X.w) (A := X.A.in1) (I.ok.hd hc) it a hia its.toArray
    have hn : its.toArray.size = i := by simp; omega
    refine wpAny_pyNext_enum_endD D he (by rw [hn]; exact ⟨hit, p⟩) fun h' eb => ⟨rfl, I.turned (t' := s.toks) (fun b o hb q => eb b o hb q) f0 f1 f3 f4 f5⟩
  self := fun A i s Q E st h => let ⟨⟨_, he⟩, _⟩ := st; wpAny_pyIter_enum he h
def iEnumA (K : PySem.W.Frag) (ta : TA) : TI := fun σ H R => ta σ H fun vs H1 => ∃ a xs, vs = [.ref a] ∧ ((SqL K H1 a xs ∧ R (Ite K a) H1) ∨ (SqT K H1 a xs ∧ R (IteT K a) H1))
theorem pi_enumA {X : Cx} {e : Expr} {ta : TA} {p pos tpos : Pos} {elts : List Expr} {kk : Nat} (hg : Gl X "enumerate") (hm : X.mg "enumerate" = none) (ha : PA X [e] ta) (hs : starEach [e] X.env = [(false, eval e X.env)]) :
    PI X (.Tuple elts kk tpos) (.Call (.Name "enumerate" p) [e] [] pos) (iEnumA X.K ta) := by
  refine ⟨fun pins s σ H R I h => ?_⟩
  refine Call_ (ld_blt I hg hm boot_enumerate (PyProof.Rows.callWith_type1 (thn (ha.run pos pins s σ H _ I h) fun us s1 ⟨vs, H1, I1, r1, q1⟩ => ?_) hs rfl))
  obtain ⟨a, xs, ex, q⟩ := q1
  subst ex
  cases r1 with
  | cons r rr =>
    cases rr
    cases r
    have fin : ∀ b, (b ∈ [s1.heap.objs.size + 1, s1.heap.objs.size]) → FpOk X pins H1 b := fun b hb => by
      have e' : b = s1.heap.objs.size + 1 ∨ b = s1.heap.objs.size := by simpa using hb
      have hle : s1.heap.objs.size ≤ b := by
        rcases e' with z | z
        · rw [z]; exact Nat.le_add_right _ _
        · rw [z]; exact Nat.le_refl _
      exact I1.fpOk hle (I1.hok.fresh hle)
    rcases q with ⟨hq, q⟩ | ⟨hq, q⟩
    · obtain ⟨its, rv, p', hz⟩ := I1.list hq
      refine call_enumerate_list p'.isList fun h' he hit hsz hk => wpAny_pyIter_enum he ?_
      exact ⟨s1.heap.objs.size + 1, [s1.heap.objs.size + 1, s1.heap.objs.size], _, _, H1, rfl, I1.kept (t' := s1.toks) hk, turn_enum a (s1.heap.objs.size + 1) s1.heap.objs.size, ⟨⟨.none, he⟩, hit, Nat.succ_ne_self _⟩, fin, q⟩
    · obtain ⟨its, rv, p', hz⟩ := I1.tuple hq
      refine enum_begins1 (begins_tuple a its.toArray) p' fun h' he hit hsz hk => wpAny_pyIter_enum he ?_
      exact ⟨s1.heap.objs.size + 1, [s1.heap.objs.size + 1, s1.heap.objs.size], _, _, H1, rfl, I1.kept (t' := s1.toks) hk, turn_enumT a (s1.heap.objs.size + 1) s1.heap.objs.size, ⟨⟨.none, he⟩, ⟨_, hit, rfl, rfl⟩, Nat.succ_ne_self _⟩, fin, q⟩
section
variable {G : Gc} {X : Cx} {W : WX}
def enumL (xs : List PV) : Nat → List PV := fun k => match xs with
  | [] => []
  | x :: r => .kt [.int (k : Nat), x] :: enumL r (k + 1)
theorem enumL_len : ∀ (xs : List PV) (k : Nat), (enumL xs k).length = xs.length
  | [], k => rfl
  | x :: r, k => by simp only [enumL, List.length_cons]; rw [enumL_len r (k + 1)]
theorem enumL_get : ∀ (xs : List PV) (k i : Nat), (enumL xs k)[i]? = xs[i]?.map fun x => .kt [.int ((k + i : Nat) : Int), x]
  | [], k, i => by simp [enumL]
  | x :: r, k, 0 => by simp [enumL]
  | x :: r, k, i + 1 => by
    simp only [enumL, List.getElem?_cons_succ]
    rw [enumL_get r (k + 1) i]
    congr 1
    funext x
    congr 4
    omega
/-- the pairs of two sources -/
theorem pair_rep {M : Gh} {H : Hp} {h : PH} (r : HRel G M H h) {T : Addr} (hT : H T = none) {x y : V} {a b : PV} (p : Rep G M H x a) (q : Rep G M H y b) : Ext M H M (upd H T (.tup [x, y])) ∧ HRel G M (upd H T (.tup [x, y])) h ∧ Rep G M (upd H T (.tup [x, y])) (.ref T) (.kt [a, b]) :=
  ⟨Ext.new r hT, r.new hT, rep_kt_new r hT (by show 2 ≤ sizeLine; decide) ⟨p, q, trivial⟩⟩
def oneS : List PV → Option PV
  | [x] => some x
  | _ => none
theorem oneS_eq {vs : List PV} {x : PV} (h : oneS vs = some x) : vs = [x] := by
  unfold oneS at h
  split at h
  · cases h; rfl
  · cases h
def enumO : PV → Option Src
  | .tup xs => some ⟨enumL xs 0, none⟩
  | .kt xs => some ⟨enumL xs 0, none⟩
  | .lst xs => some ⟨enumL xs 0, none⟩
  | _ => none
def ienum (g : SA) : SI := fun ρ h => (g ρ h).bind fun vs h1 => R.of h1 ((oneS vs).bind enumO)
theorem ji_enum {e : Expr} {g : SA} {p pos tpos : Pos} {elts : List Expr} {kk : Nat} (hK : G.K = X.K) (hm : X.mg "enumerate" = none) (ha : JAs G X W [e] g) (hg : Gl X "enumerate" := by rfl) (hs : starEach [e] X.env = [(false, eval e X.env)] := by rfl) :
    JI G X W (.Tuple elts kk tpos) (.Call (.Name "enumerate" p) [e] [] pos) (ienum g) := by
  refine pi_imp (pi_enumA hg hm ha hs) fun σ H Q t' => ?_
  refine (TF.bind (Rp := fun M H (u : List V) (v : List PV) => Reps G M H u v) t').mono fun us H1 ⟨M1, ρ, h1, vs, r1, e1, p, o⟩ => ?_
  cases hv : oneS vs with
  | none => rw [hv] at o; exact False.elim o
  | some v =>
    rw [hv] at o
    have := oneS_eq hv
    subst this
    obtain ⟨u, rfl, pu⟩ := reps1 p
    rw [← hK]
    cases v with
    | tup xs =>
      obtain ⟨a, us, rfl, s, z, rs⟩ := pu
      refine ⟨a, us, rfl, .inr ⟨s.sq, ?_⟩⟩
      refine o _ M1 H1 (Ext.refl _ _) r1 ⟨by show (enumL xs 0).length ≤ _; rw [enumL_len, ← rs.length]; exact z, fun M2 H2 h2 x r l => ?_⟩
      have hl : (enumL xs 0).length = us.length := by rw [enumL_len, rs.length]
      have s2 : SqT G.K H2 a us := (x.sqT s).sq
      refine ⟨fun i hi => ?_, ⟨us, s2, hl.symm⟩⟩
      have hi' : i < us.length := by rw [← hl]; exact hi
      refine ⟨⟨us, us[i], s2, List.getElem?_eq_getElem hi'⟩, fun w H3 y => ?_⟩
      obtain ⟨T, x', rfl, hT, rfl, hy⟩ := y
      obtain ⟨b, hb1, hb2⟩ := (Reps.tr x _ _ rs).get' (hy us s2)
      obtain ⟨q1, q2, q3⟩ := pair_rep (a := .int ((i : Nat) : Int)) r hT (show Rep G M2 H2 (.int ((i : Nat) : Int)) _ from rfl) hb2
      refine ⟨q1, q2, fun v hv => ?_⟩
      have hv : (enumL xs 0)[i]? = some v := hv
      rw [enumL_get, hb1] at hv
      have := Option.some.inj hv
      rw [Nat.zero_add] at this
      rw [← this]; exact q3
    | lst xs =>
      obtain ⟨a, us, rfl, s, z, rs⟩ := pu
      refine ⟨a, us, rfl, .inl ⟨s.sq, ?_⟩⟩
      refine o _ M1 H1 (Ext.refl _ _) r1 ⟨by show (enumL xs 0).length ≤ _; rw [enumL_len, ← rs.length]; exact z, fun M2 H2 h2 x r l => ?_⟩
      have hl : (enumL xs 0).length = us.length := by rw [enumL_len, rs.length]
      have s2 : SqL G.K H2 a us := (x.sqL s).sq
      refine ⟨fun i hi => ?_, ⟨us, s2, Nat.le_of_eq hl.symm⟩⟩
      have hi' : i < us.length := by rw [← hl]; exact hi
      refine ⟨⟨us, us[i], s2, List.getElem?_eq_getElem hi'⟩, fun w H3 y => ?_⟩
      obtain ⟨T, x', rfl, hT, rfl, hy⟩ := y
      obtain ⟨b, hb1, hb2⟩ := (Reps.tr x _ _ rs).get' (hy us s2)
      obtain ⟨q1, q2, q3⟩ := pair_rep (a := .int ((i : Nat) : Int)) r hT (show Rep G M2 H2 (.int ((i : Nat) : Int)) _ from rfl) hb2
      refine ⟨q1, q2, fun v hv => ?_⟩
      have hv : (enumL xs 0)[i]? = some v := hv
      rw [enumL_get, hb1] at hv
      have := Option.some.inj hv
      rw [Nat.zero_add] at this
      rw [← this]; exact q3
    | kt xs =>
      obtain ⟨a, us, rfl, n, s, z, rs⟩ := pu
      have s : Rd H1 a (.tup us) := .inl s
      refine ⟨a, us, rfl, .inr ⟨.inl s, ?_⟩⟩
      refine o _ M1 H1 (Ext.refl _ _) r1 ⟨by show (enumL xs 0).length ≤ _; rw [enumL_len, ← rs.length]; exact z, fun M2 H2 h2 x r l => ?_⟩
      have hl : (enumL xs 0).length = us.length := by rw [enumL_len, rs.length]
      have s2 : SqT G.K H2 a us := .inl (x.rd n (fun ps z => by cases z) s).1
      refine ⟨fun i hi => ?_, ⟨us, s2, hl.symm⟩⟩
      have hi' : i < us.length := by rw [← hl]; exact hi
      refine ⟨⟨us, us[i], s2, List.getElem?_eq_getElem hi'⟩, fun w H3 y => ?_⟩
      obtain ⟨T, x', rfl, hT, rfl, hy⟩ := y
      obtain ⟨b, hb1, hb2⟩ := (Reps.tr x _ _ rs).get' (hy us s2)
      obtain ⟨q1, q2, q3⟩ := pair_rep (a := .int ((i : Nat) : Int)) r hT (show Rep G M2 H2 (.int ((i : Nat) : Int)) _ from rfl) hb2
      refine ⟨q1, q2, fun v hv => ?_⟩
      have hv : (enumL xs 0)[i]? = some v := hv
      rw [enumL_get, hb1] at hv
      have := Option.some.inj hv
      rw [Nat.zero_add] at this
      rw [← this]; exact q3
    | str z => exact False.elim o
    | loc n => exact False.elim o
    | non => exact False.elim o
    | bl _ => exact False.elim o
    | int _ => exact False.elim o
    | dic _ _ _ => exact False.elim o
end
end J

/-! J: defs and their calls. -/
namespace J
open PySem PySem.Spec PyProof.Rows L2
/-! ### what is left behind a call -/
mutual
/-- every loc lies below n -/
def clo (n : Nat) : PV → Bool
  | .non => true
  | .bl _ => true
  | .int _ => true
  | .str _ => true
  | .tup xs => clos n xs
  | .kt xs => clos n xs
  | .lst xs => clos n xs
  | .dic _ ks vs => clos n vs
  | .loc k => decide (k < n)
def clos (n : Nat) : List PV → Bool
  | [] => true
  | x :: xs => clo n x && clos n xs
end
def cloO (n : Nat) : PO → Bool
  | .lst xs => clos n xs
  | .dic _ _ vs => clos n vs
  | .dead => true
  | .ins _ fs => clos n (fs.map (·.2))
def cloH (n : Nat) (h : PH) : Bool := (h.take n).all (cloO n)
/-- a smaller ghost -/
structure Sub (n : Nat) (M' M : Gh) : Prop where
  at_ : ∀ k, k < n → M.L[k]? = M'.L[k]?
  sub : ∀ a, a ∈ M → a ∈ M'
section
variable {G : Gc} {M M' : Gh} {H : Hp} {n : Nat}
mutual
theorem Rep.sub (s : Sub n M' M) : ∀ (v : PV) (u : V), clo n v = true → Rep G M' H u v → Rep G M H u v
  | .non, _, _, h => h
  | .bl _, _, _, h => h
  | .int _, _, _, h => h
  | .str _, _, _, h => h
  | .tup xs, u, c, h => by
    obtain ⟨a, us, e, q, z, r⟩ := h
    exact ⟨a, us, e, q.imp (fun q => ⟨fun z => q.1 (s.sub a z), q.2⟩) id, z, Reps.sub s xs us (by simpa [clo] using c) r⟩
  | .kt xs, u, c, h => by
    obtain ⟨a, us, e, q, q2, z, r⟩ := h
    exact ⟨a, us, e, fun z => q (s.sub a z), q2, z, Reps.sub s xs us (by simpa [clo] using c) r⟩
  | .lst xs, u, c, h => by
    obtain ⟨a, us, e, q, z, r⟩ := h
    exact ⟨a, us, e, q.imp (fun q => ⟨fun z => q.1 (s.sub a z), q.2⟩) id, z, Reps.sub s xs us (by simpa [clo] using c) r⟩
  | .dic t ks vs, u, c, h => by
    obtain ⟨a, o, d, us, e, q, hd, dd, r⟩ := h
    exact ⟨a, o, d, us, e, fun z => q (s.sub a z), hd, dd, Reps.sub s vs us (by simpa [clo] using c) r⟩
  | .loc k, u, c, h => by
    obtain ⟨a, e, q⟩ := h
    exact ⟨a, e, by rw [s.at_ k (by simpa [clo] using c)]; exact q⟩
theorem Reps.sub (s : Sub n M' M) : ∀ (vs : List PV) (us : List V), clos n vs = true → Reps G M' H us vs → Reps G M H us vs
  | [], [], _, _ => trivial
  | [], _ :: _, _, h => h
  | _ :: _, [], _, h => h
  | v :: vs, u :: us, c, h => by
    simp only [clos, Bool.and_eq_true] at c
    exact ⟨Rep.sub s v u c.1 h.1, Reps.sub s vs us c.2 h.2⟩
end
theorem ORep.sub (s : Sub n M' M) {a : Addr} {o : PO} (c : cloO n o = true) (hd : a ∈ M'.D → a ∈ M.D) (h : ORep G M' H a o) : ORep G M H a o := by
  cases o with
  | lst xs =>
    obtain ⟨us, e, z, r⟩ := h
    exact ⟨us, e, z, Reps.sub s xs us c r⟩
  | dic t ks vs =>
    obtain ⟨us, d, hd, dd, r⟩ := h
    exact ⟨us, d, hd, dd, Reps.sub s vs us c r⟩
  | dead => exact hd h
  | ins cc fs =>
    obtain ⟨C, dx, ufs, e1, e2, nm, r1, r2, r3⟩ := h
    exact ⟨C, dx, ufs, e1, e2, fun z => nm (s.sub dx z), r1, r2, Reps.sub s _ _ c r3⟩
theorem cloH_at {h : PH} (c : cloH n h = true) {k : Nat} {o : PO} (hk : k < n) (e : h[k]? = some o) : cloO n o = true := by
  unfold cloH at c
  rw [List.all_eq_true] at c
  refine c o (List.mem_of_getElem? (i := k) ?_)
  rw [List.getElem?_take_of_lt hk]; exact e
/-- the ghost behind a call: E, what was frozen meanwhile -/
def Gh.cut (M : Gh) (E : List Addr) : Gh := ⟨M.L, M.Z, E.filter (fun a => decide (a ∈ M.L)) ++ M.D⟩
theorem Gh.cut_D {M : Gh} {E : List Addr} {a : Addr} (h : a ∈ M.L) (q : a ∈ E ++ M.D) : a ∈ (M.cut E).D := by
  rcases List.mem_append.mp q with q | q
  · exact List.mem_append_left _ (List.mem_filter.mpr ⟨q, by simpa using h⟩)
  · exact List.mem_append_right _ q
theorem Gh.of_cut {M : Gh} {E : List Addr} {a : Addr} (q : a ∈ (M.cut E).D) : a ∈ E ++ M.D := by
  rcases List.mem_append.mp q with q | q
  · exact List.mem_append_left _ (List.mem_filter.mp q).1
  · exact List.mem_append_right _ q
theorem Sub.cut {M : Gh} {L E : List Addr} (hn : M.L.length = n) : Sub n (⟨M.L ++ L, M.Z, E ++ M.D⟩ : Gh) (M.cut E) :=
  ⟨fun k hk => (List.getElem?_append_left (show k < M.L.length by omega)).symm, fun a z => by
    rcases z with ⟨z, zd⟩ | z
    · exact .inl ⟨List.mem_append_left _ z, fun q => zd (Gh.cut_D z q)⟩
    · exact .inr z⟩
/-- the heap cut back to its first n objects -/
theorem HRel.cutH {h' : PH} {L E : List Addr} (r : HRel G ⟨M.L ++ L, M.Z, E ++ M.D⟩ H h') (ds : ∀ a ∈ M.D, a ∈ M.L) (hn : M.L.length = n) (c : cloH n h' = true) : HRel G (M.cut E) H (h'.take n) where
  nd := (List.nodup_append.mp r.nd).1
  apart := fun a ha => r.apart a (List.mem_append_left _ ha)
  len := by
    have := r.len
    simp only [List.length_append] at this
    show M.L.length = _
    rw [List.length_take]; omega
  hid := r.hid
  hidT := r.hidT
  dsub := fun a ha => by
    rcases List.mem_append.mp ha with q | q
    · show a ∈ M.L
      simpa using (List.mem_filter.mp q).2
    · exact ds a q
  live0 := fun a ha => r.live0 a (List.mem_append_left _ ha)
  obj := fun k o e => by
    have hk : k < n := by
      have := (List.getElem?_eq_some_iff.mp e).1
      rw [List.length_take] at this; omega
    rw [List.getElem?_take_of_lt hk] at e
    obtain ⟨a, h1, hd, h2⟩ := r.obj k o e
    exact ⟨a, by rw [← h1]; exact (List.getElem?_append_left (show k < M.L.length by omega)).symm, fun q z => hd q (Gh.of_cut z), h2.sub (Sub.cut hn) (cloH_at c hk e) (Gh.cut_D (List.mem_of_getElem? (i := k) (by rw [← h1]; exact (List.getElem?_append_left (show k < M.L.length by omega)).symm)))⟩
  tab := r.tab
/-- .. and one object more, the k-th -/
theorem HRel.cutH1 {h' : PH} {L E : List Addr} (r : HRel G ⟨M.L ++ L, M.Z, E ++ M.D⟩ H h') (ds : ∀ a ∈ M.D, a ∈ M.L) (hn : M.L.length = n) (c : cloH n h' = true) {k : Nat} {o : PO} (hk : n ≤ k) (e : h'[k]? = some o) (co : cloO n o = true) (ho : o ≠ .dead) :
    ∃ a, a ∈ L ∧ (M.L ++ L)[k]? = some a ∧ a ∉ M.L ∧ a ∉ M.Z ∧ HRel G ((M.cut E).add a) H (h'.take n ++ [o]) := by
  obtain ⟨a, h1, hd, h2⟩ := r.obj k o e
  have h1 : (M.L ++ L)[k]? = some a := h1
  have hL : L[k - M.L.length]? = some a := by rw [List.getElem?_append_right (by omega)] at h1; exact h1
  have haL := List.mem_of_getElem? hL
  have nd := List.nodup_append.mp r.nd
  have nL : a ∉ M.L := fun z => nd.2.2 a z a haL rfl
  have nZ : a ∉ M.Z := r.apart a (List.mem_append_right _ haL)
  have rc := r.cutH ds hn c
  have s : Sub n (⟨M.L ++ L, M.Z, E ++ M.D⟩ : Gh) ((M.cut E).add a) := ⟨fun k hk => by
    show (M.L ++ [a])[k]? = (M.L ++ L)[k]?
    rw [List.getElem?_append_left (by omega), List.getElem?_append_left (by omega)], fun b z => by
    rcases z with ⟨z, zd⟩ | z
    · rcases List.mem_append.mp z with z | z
      · exact .inl ⟨List.mem_append_left _ z, fun q => zd (Gh.cut_D z q)⟩
      · rw [List.mem_singleton.mp z]; exact .inl ⟨List.mem_append_right _ haL, hd ho⟩
    · exact .inr z⟩
  have hl : (h'.take n).length = n := by
    have := r.len
    simp only [List.length_append] at this
    rw [List.length_take]; omega
  refine ⟨a, haL, h1, nL, nZ, ?_, fun b hb => ?_, by simp [Gh.add, Gh.cut, hl, hn], r.hid, r.hidT, fun b hb => List.mem_append_left _ (rc.dsub b hb), fun b hb => ?_, fun j ob q => ?_, r.tab⟩
  · show (M.L ++ [a]).Nodup
    rw [List.nodup_append]
    refine ⟨rc.nd, by simp, fun b hb d hd => ?_⟩
    rw [List.mem_singleton.mp hd]
    exact fun z => nL (z ▸ hb)
  · rcases List.mem_append.mp hb with hb | hb
    · exact rc.apart b hb
    · rw [List.mem_singleton.mp hb]; exact nZ
  · rcases List.mem_append.mp hb with hb | hb
    · exact rc.live0 b hb
    · rw [List.mem_singleton.mp hb]; exact r.live0 a (List.mem_append_right _ haL)
  · by_cases hj : j < n
    · rw [List.getElem?_append_left (by omega), List.getElem?_take_of_lt hj] at q
      obtain ⟨b, q1, qd, q2⟩ := r.obj j ob q
      have q1 : (M.L ++ L)[j]? = some b := q1
      refine ⟨b, ?_, fun w z => qd w (Gh.of_cut z), q2.sub s (cloH_at c hj q) (Gh.cut_D (List.mem_of_getElem? (i := j) (by rw [List.getElem?_append_left (by omega)] at q1; exact q1)))⟩
      show (M.L ++ [a])[j]? = _
      rw [List.getElem?_append_left (by omega)] at q1 ⊢; exact q1
    · have hj2 : j < (h'.take n ++ [o]).length := (List.getElem?_eq_some_iff.mp q).1
      have ej : j = n := by simp at hj2; omega
      subst ej
      rw [List.getElem?_append_right (by omega), hl, Nat.sub_self] at q
      cases q
      exact ⟨a, by show (M.L ++ [a])[j]? = _; rw [List.getElem?_append_right (by omega), ← hn, Nat.sub_self]; rfl, fun w z => hd w (Gh.of_cut z), h2.sub s co (fun z => absurd z (hd ho))⟩
end
/-- keep: what is told of a fresh list is mutable; frz: it is a value -/
inductive Md where
  | keep | frz
/-- the heap cut back, if nothing in it points at what goes -/
def cutP (n : Nat) (h : PH) : PH := if cloH n h then h.take n else h
theorem cutP_self (h : PH) : cutP h.length h = h := by
  unfold cutP
  split
  · exact List.take_length
  · rfl
def trimV (md : Md) (n : Nat) (v : PV) (h : PH) : PV × PH :=
  if clo n v then (v, cutP n h) else match v with
    | .loc k => (match h[k]? with
      | some o => if cloH n h && cloO n o then (match md, o with
        | .frz, .lst xs => (.lst xs, h.take n)
        | _, .dead => (v, h)
        | _, _ => (.loc n, h.take n ++ [o])) else (v, h)
      | none => (v, h))
    | _ => (v, h)
def trimR (md : Md) (n : Nat) : R PV → R PV
  | .ok v h => .ok (trimV md n v h).1 (trimV md n v h).2
  | .exc e h => if cloH n h && (match e.arg with | some v => clo n v | none => true) then .exc e (h.take n) else .exc e h
  | .bad => .bad
section
variable {G : Gc} {M M' : Gh} {H H' : Hp} {h h' : PH}
theorem trimV_ok {md : Md} (r : HRel G M H h) (x : Ext M H M' H') (r' : HRel G M' H' h') {u : V} {v : PV} (p : Rep G M' H' u v) : ∃ M'', Ext M H M'' H' ∧ HRel G M'' H' (trimV md h.length v h').2 ∧ Rep G M'' H' u (trimV md h.length v h').1 := by
  have same : ∃ M'', Ext M H M'' H' ∧ HRel G M'' H' h' ∧ Rep G M'' H' u v := ⟨M', x, r', p⟩
  obtain ⟨L, E, rfl, hL⟩ := x.pre
  have hn := r.len
  have s : Sub h.length (⟨M.L ++ L, M.Z, E ++ M.D⟩ : Gh) (M.cut E) := Sub.cut hn
  have xM : Ext M H (M.cut E) H' := ⟨⟨[], E.filter (fun a => decide (a ∈ M.L)), by simp [Gh.cut], by simp⟩, x.keep, x.dom⟩
  unfold trimV
  by_cases cv : clo h.length v = true
  · rw [if_pos cv]
    unfold cutP
    by_cases c : cloH h.length h' = true
    · rw [if_pos c]
      exact ⟨M.cut E, xM, r'.cutH r.dsub hn c, Rep.sub s v u cv p⟩
    · rw [if_neg c]; exact same
  · rw [if_neg cv]
    · cases v with
      | loc k =>
        simp only
        cases hk : h'[k]? with
        | none => exact same
        | some o =>
          simp only
          by_cases cc : (cloH h.length h' && cloO h.length o) = true
          · rw [if_pos cc]
            have c : cloH h.length h' = true := (Bool.and_eq_true _ _ ▸ cc).1
            have co : cloO h.length o = true := (Bool.and_eq_true _ _ ▸ cc).2
            have hge : h.length ≤ k := by
              simp only [clo, decide_eq_true_eq] at cv; omega
            by_cases hdd : o = .dead
            · subst hdd
              cases md <;> exact same
            obtain ⟨a, haL, ha, nL, nZ, rc⟩ := r'.cutH1 r.dsub hn c hge hk co hdd
            obtain ⟨b, rfl, hb⟩ := p
            have hb : (M.L ++ L)[k]? = some b := hb
            rw [ha] at hb; cases hb
            have fin1 : ∃ M'', Ext M H M'' H' ∧ HRel G M'' H' (h'.take h.length ++ [o]) ∧ Rep G M'' H' (.ref a) (.loc h.length) := by
              refine ⟨(M.cut E).add a, ⟨⟨[a], E.filter (fun a => decide (a ∈ M.L)), rfl, fun c hc => by rw [List.mem_singleton.mp hc]; exact hL a haL⟩, x.keep, x.dom⟩, rc, a, rfl, ?_⟩
              show (M.L ++ [a])[h.length]? = _
              rw [← hn, List.getElem?_append_right (Nat.le_refl _), Nat.sub_self]; rfl
            cases md with
            | keep =>
              cases o with
              | dead => exact absurd rfl hdd
              | lst xs => exact fin1
              | dic t ks vs => exact fin1
              | ins c fs => exact fin1
            | frz =>
              cases o with
              | lst xs =>
                obtain ⟨a2, q1, _, us, q2, z, rs⟩ := r'.obj k _ hk
                have q1 : (M.L ++ L)[k]? = some a2 := q1
                rw [ha] at q1; cases q1
                exact ⟨M.cut E, xM, r'.cutH r.dsub hn c, a, us, rfl, .inl ⟨fun z => z.elim (fun q => nL q.1) nZ, .inl q2⟩, z, Reps.sub s xs us co rs⟩
              | dead => exact absurd rfl hdd
              | dic t ks vs => exact fin1
              | ins c fs => exact fin1
          · rw [if_neg cc]; exact same
      | _ => exact same
end

/-! ### defs -/
def fin : RS → R PV
  | .nx _ h => .ok .non h
  | .rt v h => .ok v h
  | .ex e _ h => .exc e h
  | _ => .bad
/-- the promise of a def by a pure function -/
def spJ (G : Gc) (n : Nat) (m : List PV → PH → R PV) : Sp := fun vs H Q E => ∃ M args h, HRel G M H h ∧ Reps G M H vs args ∧ args.length = n ∧ Out G (fun cls d _ H => E cls d H) [] (fun M H (u : V) (v : PV) => Rep G M H u v) M H (m args h) Q
def startE (N : Nat) (args : List PV) : En := args.map some ++ List.replicate (N - args.length) none
theorem start_rel {G : Gc} {M : Gh} {H : Hp} {N : List Str} {vs : List V} {args : List PV} (r : Reps G M H vs args) : ERel G M H (startE N.length args) (L2.start N vs) := by
  have hl := r.length
  refine ⟨by simp [startE, L2.start, hl], fun i v e => ?_⟩
  unfold startE at e
  unfold L2.start
  by_cases hi : i < args.length
  · rw [List.getElem?_append_left (by simpa using hi), List.getElem?_map] at e
    cases q : args[i]? with
    | none => rw [q] at e; cases e
    | some w =>
      rw [q] at e
      cases e
      obtain ⟨u, h1, h2⟩ := r.get q
      exact ⟨u, by rw [List.getElem?_append_left (by rw [List.length_map]; omega), List.getElem?_map, h1]; rfl, h2⟩
  · rw [List.getElem?_append_right (by simpa using hi), List.getElem?_replicate] at e
    split at e <;> cases e
/-- what a def's end is told of its body's -/
theorem fin_ok {G : Gc} {md : Md} {M : Gh} {H : Hp} {hh : PH} {E : XK} {Q : VK} (r : HRel G M H hh) {rs : RS} (o : Out G (fun cls d _ H => E cls d H) [] (fun M H (u : V) (v : PV) => Rep G M H u v) M H (trimR md hh.length (fin rs)) Q) :
    OutS G (fun cls d _ H => E cls d H) M H rs { nx := fun _ H' => Q .non H', rt := Q } := by
  cases rs with
  | nx ρ' h' =>
    intro σ' M' H' x' r' e'
    obtain ⟨M'', x2, r2, p2⟩ := trimV_ok (md := md) r x' r' (u := .non) (v := .non) rfl
    exact o .non M'' H' x2 r2 p2
  | rt v h' =>
    intro u M' H' x' r' p'
    obtain ⟨M'', x2, r2, p2⟩ := trimV_ok (md := md) r x' r' p'
    exact o u M'' H' x2 r2 p2
  | bk ρ' h' => exact False.elim o
  | ct ρ' h' => exact False.elim o
  | bad => exact False.elim o
  | ex e ρ' h' =>
    intro cls d σ' M' H' x' r' e' xr
    simp only [fin, trimR] at o
    by_cases c : (cloH hh.length h' && (match e.arg with | some v => clo hh.length v | none => true)) = true
    · rw [if_pos c] at o
      simp only [Bool.and_eq_true] at c
      obtain ⟨L, E, rfl, hL⟩ := x'.pre
      have hn := r.len
      refine o cls d (M.cut E) H' ⟨⟨[], E.filter (fun a => decide (a ∈ M.L)), by simp [Gh.cut], by simp⟩, x'.keep, x'.dom⟩ (r'.cutH r.dsub hn c.1) ⟨xr.1, fun v hv => ?_⟩
      obtain ⟨da, ff, uu, q1, q2, q3⟩ := xr.2 v hv
      have s : Sub hh.length (⟨M.L ++ L, M.Z, E ++ M.D⟩ : Gh) (M.cut E) := Sub.cut hn
      have c2 := c.2
      rw [hv] at c2
      exact ⟨da, ff, uu, q1, q2, Rep.sub s v uu c2 q3⟩
    · rw [if_neg c] at o
      exact o cls d M' H' x' r' xr
/-- a def of the module, known by name -/
def Known (P : Program) (w : World) (K : PySem.W.Frag) (mg : Str → Option Value) (base : Heap) (G : Gc) (x : Str) (k n : Nat) (m : List PV → PH → R PV) : Prop :=
  ∃ f fd ps, FnOk P w K mg base (L2.CX P w) k f fd ps (spJ G n m) ∧ mg x = some (.ref f) ∧ PySem.W.keepIn K (.ref f) = true ∧ Binds K fd ps [] ∧ ps.length = n
section
variable {P : Program} {w : World} {K : PySem.W.Frag} {mg : Str → Option Value} {base : Heap} {G : Gc}
theorem def_ok {x qual : Str} {st : Stmt} {f : Addr} {fd : FuncData} {N ps : List Str} {k : Nat} (md : Md) (m : List PV → PH → R PV) (F : Fun K x qual st f fd) (S : FnScope N ps (defScope st)) {fb : SS}
    (body : ∀ (cdv : Value) (A : Around) (outer : List Env) (s : Shared) (H : Hp) (E : XK), Room k (A.deeper (envOfC qual (defScope st) s.heap.objs.size f cdv)) →
      JSs G (cxOf (L2.CX P w) P w K mg base N qual (defScope st) f cdv A outer s H E) (fun cls d _ H => E cls d H) (defBody st) fb)
    (hm : ∀ args h, args.length = ps.length → m args h = .bad ∨ m args h = trimR md h.length (fin (fb (startE N.length args) h))) : FnOk P w K mg base (L2.CX P w) (k + 1) f fd ps (spJ G ps.length m) := by
  refine F.okX S (fun vs H Q E h => ?_) fun cdv A outer s H vs Q E hr h => ?_
  · obtain ⟨M, args, hh, r, rs, hl, _⟩ := h
    rw [rs.length, hl]
  · obtain ⟨M, args, hh, r, rs, hl, o⟩ := h
    refine ⟨_, body cdv A outer s H E hr, M, startE N.length args, hh, r, start_rel rs, ?_⟩
    rcases hm args hh hl with hb | he
    · rw [hb] at o; exact False.elim o
    · rw [he] at o
      exact fin_ok r o
end
section
variable {G : Gc} {X : Cx} {W : WX} {e : Expr} {es : List Expr} {ga : SA} {p pos : Pos} {x : Str} {k n : Nat} {m : List PV → PH → R PV}
def calld (n : Nat) (m : List PV → PH → R PV) (g : SA) : SE := fun ρ h => (g ρ h).bind fun vs h1 => if vs.length = n then m vs h1 else .bad
theorem je_call (Kn : Known X.prog X.w X.K X.mg X.base G x k n m) (hr : Room k X.A) (tk : Takes X W) (ha : JAs G X W (e :: es) ga) (hg : Gl X x := by rfl) (hdb : (x == ("__debug__" : Str)) = false := by decide)
    (he : starEach (e :: es) X.env = (false, eval e X.env) :: starEach es X.env := by rfl) (hpl : (backTo pos (starEach es X.env)).any (·.1) = false := by rfl) : JE G X W (.Call (.Name x p) (e :: es) [] pos) (calld n m ga) := by
  obtain ⟨f, fd, ps, F, hm, hk, hb, hl⟩ := Kn
  refine pe_imp (pe_callSD (E := WE W) F hr hg hm hk hb .nil (fun σ => passAt tk σ) ha hdb he hpl) fun σ H Q t => (TF.bind (Rp := fun M H (u : List V) (v : List PV) => Reps G M H u v) t).mono fun us H1 ⟨M1, ρ, h1, vs, r1, e1, p, o⟩ => ?_
  by_cases hv : vs.length = n
  · rw [if_pos hv] at o
    rw [List.append_nil]
    refine ⟨M1, vs, h1, r1, p, hv, ?_⟩
    cases q : m vs h1 with
    | ok a h => rw [q] at o; exact o
    | exc a h => rw [q] at o; exact o
    | bad => rw [q] at o; exact o
  · rw [if_neg hv] at o
    exact False.elim o
end
end J

/-! J: comparisons of anything, chains, the module's constants, truth. -/
namespace J
open PySem PySem.Spec PyProof.Rows L2
def cmpJ (f : Int → Int → Bool) (g : PV → PV → PH → Option PV) (x y : PV) (h : PH) : Option PV := match x, y with
  | .int i, .int j => some (.bl (f i j))
  | _, _ => g x y h
@[simp] theorem cmpJ_int (f : Int → Int → Bool) (g : PV → PV → PH → Option PV) (i j : Int) (h : PH) : cmpJ f g (.int i) (.int j) h = some (.bl (f i j)) := nrfl rfl
def ltJ : PV → PV → PH → Option PV := cmpJ (fun i j => decide (i < j)) ltO
def leJ : PV → PV → PH → Option PV := cmpJ (fun i j => decide (i ≤ j)) leO
def gtJ : PV → PV → PH → Option PV := cmpJ (fun i j => decide (j < i)) gtO
def geJ : PV → PV → PH → Option PV := cmpJ (fun i j => decide (j ≤ i)) geO
section
variable {G : Gc} {X : Cx} {W : WX}
theorem oj_or {r r' : R2} {f : Int → Int → Bool} {g : PV → PV → PH → Option PV} (h1 : OpJ G r (intO0 fun i j => .bl (f i j))) (h2 : OpJ G r' g) : OpJ G (fun x y H Q => r x y H Q ∨ r' x y H Q) (cmpJ f g) := by
  intro M h H u v x y z Q r p q e k
  unfold cmpJ at e
  split at e
  · exact .inl (h1 M h H u v _ _ z Q r p q e k)
  · exact .inr (h2 M h H u v _ _ z Q r p q e k)
theorem oj_lt : OpJ G (fun x y H Q => rI0 (fun i j => .bl (decide (i < j))) x y H Q ∨ rCmp G.K (fun d e => PySem.W.dataLt d e) x y H Q) ltJ := oj_or oj_ltI oj_ltD
theorem oj_le : OpJ G (fun x y H Q => rI0 (fun i j => .bl (decide (i ≤ j))) x y H Q ∨ rCmp G.K (fun d e => !PySem.W.dataLt e d) x y H Q) leJ := oj_or oj_leI oj_leD
theorem oj_gt : OpJ G (fun x y H Q => rI0 (fun i j => .bl (decide (j < i))) x y H Q ∨ rCmp G.K (fun d e => PySem.W.dataLt e d) x y H Q) gtJ := oj_or oj_gtI oj_gtD
theorem oj_ge : OpJ G (fun x y H Q => rI0 (fun i j => .bl (decide (j ≤ i))) x y H Q ∨ rCmp G.K (fun d e => !PySem.W.dataLt d e) x y H Q) geJ := oj_or oj_geI oj_geD
theorem op_ltJ (hu : X.A.units + 64 < cLine) : OpR X (compareOp .Lt) (fun x y H Q => rI0 (fun i j => .bl (decide (i < j))) x y H Q ∨ rCmp X.K (fun d e => PySem.W.dataLt d e) x y H Q) := OpR.or op_lt (op_ltD hu)
theorem op_leJ (hu : X.A.units + 64 < cLine) : OpR X (compareOp .LtE) (fun x y H Q => rI0 (fun i j => .bl (decide (i ≤ j))) x y H Q ∨ rCmp X.K (fun d e => !PySem.W.dataLt e d) x y H Q) := OpR.or op_le (op_leD hu)
theorem op_gtJ (hu : X.A.units + 64 < cLine) : OpR X (compareOp .Gt) (fun x y H Q => rI0 (fun i j => .bl (decide (j < i))) x y H Q ∨ rCmp X.K (fun d e => PySem.W.dataLt e d) x y H Q) := OpR.or op_gt (op_gtD hu)
theorem op_geJ (hu : X.A.units + 64 < cLine) : OpR X (compareOp .GtE) (fun x y H Q => rI0 (fun i j => .bl (decide (j ≤ i))) x y H Q ∨ rCmp X.K (fun d e => !PySem.W.dataLt d e) x y H Q) := OpR.or op_ge (op_geD hu)
/-! ### a < b < c -/
def chn (f g : PV → PV → PH → Option PV) (fa fb fc : SE) : SE := fun ρ h => (fa ρ h).bind fun x h1 => (fb ρ h1).bind fun y h2 => match f x y h2 with
  | some (.bl true) => (fc ρ h2).bind fun z h3 => R.of h3 (g y z h3)
  | some (.bl false) => .ok (.bl false) h2
  | _ => .bad
variable {a b c : Expr} {fa fb fc : SE} {pos : Pos}
theorem chn_t {r r' : R2} {f g : PV → PV → PH → Option PV} (h1 : OpJ G r f) (h2 : OpJ G r' g) {σ : L2.St} {H : Hp} {Q : VK} (t : TFE G W (chn f g fa fb fc) σ H Q) : tChain r r' (TFE G W fa) (TFE G W fb) (TFE G W fc) σ H Q := by
  obtain ⟨M, ρ, h, r0, e0, o⟩ := t
  refine ⟨M, ρ, h, r0, e0, (Out.bind (Rp := fun M H (u : V) (v : PV) => Rep G M H u v) o).mono fun ux H1 ⟨M1, h1', x, x1, r1, p1, o1⟩ => ?_⟩
  refine ⟨M1, ρ, h1', r1, e0.ext x1, (Out.bind (Rp := fun M H (u : V) (v : PV) => Rep G M H u v) o1).mono fun uy H2 ⟨M2, h2', y, x2, r2, p2, o2⟩ => ?_⟩
  cases hf : f x y h2' with
  | none => rw [hf] at o2; exact False.elim o2
  | some z =>
    refine h1 M2 h2' H2 ux uy x y z _ r2 (Rep.ext x2 _ _ p1) p2 hf fun w H' x' r' p' => ?_
    rw [hf] at o2
    cases z with
    | bl k =>
      refine ⟨k, p', ?_⟩
      cases k with
      | false => rw [if_neg Bool.false_ne_true]; exact o2 _ M2 H' x' r' rfl
      | true =>
        rw [if_pos rfl]
        refine ⟨M2, ρ, h2', r', ((e0.ext x1).ext x2).ext x', (Out.bind (Rp := fun M H (u : V) (v : PV) => Rep G M H u v) (Out.ext x' o2)).mono fun uz H3 ⟨M3, h3', zz, x3, r3, p3, o3⟩ => ?_⟩
        cases hg : g y zz h3' with
        | none => rw [hg] at o3; exact False.elim o3
        | some q =>
          rw [hg] at o3
          exact h2 M3 h3' H3 uy uz y zz q Q r3 (Rep.ext (x'.trans x3) _ _ p2) p3 hg fun w H4 x4 r4 p4 => o3 w M3 H4 x4 r4 p4
    | _ => exact False.elim o2
theorem je_chain {op op' : CmpOp} {r r' : R2} {f g : PV → PV → PH → Option PV} (ho : OpR X (compareOp op) r) (ho' : OpR X (compareOp op') r') (h1 : OpJ G r f) (h2 : OpJ G r' g) (ha : JE G X W a fa) (hb : JE G X W b fb) (hc : JE G X W c fc)
    (hm : lastMarks [op, op'] [b, c] = false := by with_unfolding_all rfl) : JE G X W (.Compare a [op, op'] [b, c] pos) (chn f g fa fb fc) := pe_imp (pe_chain ho ho' ha hb hc hm) fun _ _ _ t => chn_t h1 h2 t
theorem jt_chain {op op' : CmpOp} {r r' : R2} {f g : PV → PV → PH → Option PV} (ho : OpR X (compareOp op) r) (ho' : OpR X (compareOp op') r') (h1 : OpJ G r f) (h2 : OpJ G r' g) (ha : JE G X W a fa) (hb : JE G X W b fb) (hc : JE G X W c fc)
    (hm : lastMarks [op, op'] [b, c] = false := by with_unfolding_all rfl) : JT G X W (.Compare a [op, op'] [b, c] pos) (tst (chn f g fa fb fc)) := pt_imp (pt_chain ho ho' ha hb hc hm) fun _ _ _ t => chn_t h1 h2 (tst_t t)
/-! ### truth of any value -/
def truO (h : PH) (v : PV) : Option Bool := match rd h v with
  | .non => some false
  | .bl b => some b
  | .int i => some (i != 0)
  | .str z => if z.length ≤ sizeLine then some ((z.length : Int) != 0) else none
  | .tup xs => some (!xs.isEmpty)
  | .kt xs => some (!xs.isEmpty)
  | .lst xs => some (!xs.isEmpty)
  | _ => none
def tru (f : SE) : SB := fun ρ h => (f ρ h).bind fun v h1 => R.of h1 (truO h1 v)
theorem Reps.emp {M : Gh} {H : Hp} {us : List V} {xs : List PV} (r : Reps G M H us xs) : (!us.isEmpty) = !xs.isEmpty := by
  match us, xs, r with
  | [], [], _ => rfl
  | _ :: _, _ :: _, _ => rfl
  | [], _ :: _, r => exact r.elim
  | _ :: _, [], r => exact r.elim
theorem jt_truth {e : Expr} {f : SE} (hK : G.K = X.K) (h : JE G X W e f) (he : ∀ whole, isTrue e X.env whole = (do let v ← whole; standAt e.pos; holding [v] (truthy v)) := by intro _; rfl) : JT G X W e (tru f) := by
  refine pt_imp (pt_truth h he) fun σ H Q t => (TF.bind (Rp := fun M H (u : V) (v : PV) => Rep G M H u v) t).mono fun u H1 ⟨M1, ρ, h1, v, r1, e1, p, o⟩ => ?_
  rw [← hK]
  unfold truO at o
  cases q : rd h1 v with
  | non =>
    rw [q] at o
    cases v with
    | non => cases p; exact ⟨false, rfl, Out.ret o r1 rfl⟩
    | loc n => rcases rd_cases h1 n with ⟨xs, _, e⟩ | e <;> (rw [e] at q; cases q)
    | _ => cases q
  | bl b =>
    rw [q] at o
    cases v with
    | bl b' => cases q; cases p; exact ⟨b, rfl, Out.ret o r1 rfl⟩
    | loc n => rcases rd_cases h1 n with ⟨xs, _, e⟩ | e <;> (rw [e] at q; cases q)
    | _ => cases q
  | int i =>
    rw [q] at o
    have := rd_int_inv q; subst this
    cases p; exact ⟨_, rfl, Out.ret o r1 rfl⟩
  | str z =>
    rw [q] at o
    have := rd_str_inv q; subst this
    simp only at o
    split at o
    · rename_i hz
      cases p; exact ⟨_, ⟨hz, rfl⟩, Out.ret o r1 rfl⟩
    · exact False.elim o
  | tup xs =>
    rw [q] at o
    have := rd_tup_inv q; subst this
    obtain ⟨a, us, rfl, s, z, rs⟩ := p
    exact ⟨_, .inr (.inl ⟨us, s.sq, rfl⟩), by rw [rs.emp]; exact Out.ret o r1 rfl⟩
  | kt xs =>
    rw [q] at o
    have := rd_kt_inv q; subst this
    obtain ⟨a, us, rfl, n, s, z, rs⟩ := p
    exact ⟨_, .inr (.inl ⟨us, .inl (.inl s), rfl⟩), by rw [rs.emp]; exact Out.ret o r1 rfl⟩
  | lst xs =>
    rw [q] at o
    obtain ⟨a, us, rfl, s, z, rs⟩ := Rep.list r1 p q
    exact ⟨_, .inl ⟨us, s, rfl⟩, by rw [rs.emp]; exact Out.ret o r1 rfl⟩
  | dic t ks vs => rw [q] at o; exact False.elim o
  | loc n => rw [q] at o; exact False.elim o
/-! ### the module's constants -/
theorem je_gstr {x z : Str} {t : Tok} (hm : X.mg x = some (.str z t)) (hg : Gl X x := by rfl) (hd : (x == ("__debug__" : Str)) = false := by decide) : JE G X W (.Name x pos) (cst (.str z)) := je_cst (pe_glob (v := V.str z) hg hm ⟨_, rfl⟩ hd) fun _ _ => rfl
theorem je_gint {x : Str} {i : Int} {t : Tok} (hm : X.mg x = some (.int i t)) (hg : Gl X x := by rfl) (hd : (x == ("__debug__" : Str)) = false := by decide) : JE G X W (.Name x pos) (cst (.int i)) := je_cst (pe_glob (v := V.int i) hg hm ⟨_, rfl⟩ hd) fun _ _ => rfl
/-! ### list(range(..)) -/
def lrng (g : SI) : SE := fun ρ h => (g ρ h).bind fun s h1 => .ok (.lst s.xs) h1
theorem rgV_reps {M : Gh} {H : Hp} (lo hi : Int) : Reps G M H (rgV lo hi) (rangeL lo (hi - lo).toNat) := by
  unfold rgV rangeL
  refine Reps.of_get (by simp) fun i u v h1 h2 => ?_
  rw [List.getElem?_map] at h1 h2
  cases q : (List.range (hi - lo).toNat)[i]? with
  | none => rw [q] at h1; cases h1
  | some j => rw [q] at h1 h2; cases h1; cases h2; rfl
theorem je_listRg1 {e : Expr} {f : SE} {p p2 pos2 : Pos} (hml : X.mg "list" = none) (hmr : X.mg "range" = none) (h : JE G X W e f) (hc : X.calm = true := by rfl) (hg : Gl X "list" := by rfl) (hg2 : Gl X "range" := by rfl)
    (na : starEach [e] X.env = (false, eval e X.env) :: starEach [] X.env := by rfl) (na2 : starEach [.Call (.Name "range" p2) [e] [] pos2] X.env = (false, eval (.Call (.Name "range" p2) [e] [] pos2) X.env) :: starEach [] X.env := by rfl) :
    JE G X W (.Call (.Name "list" p) [.Call (.Name "range" p2) [e] [] pos2] [] pos) (lrng (irng1 (acons f anil))) := by
  refine pe_imp (pe_listRg hc hg hml (prg_1 hg2 hmr h na) na2) fun σ H Q t => ?_
  obtain ⟨M, ρ, h, r, e, o⟩ := t
  refine ⟨M, ρ, h, r, e, ?_⟩
  unfold lrng irng1 acons anil at o
  cases hf : f ρ h with
  | bad => rw [hf] at o; exact False.elim o
  | exc ex h' => rw [hf] at o; exact o
  | ok v h' =>
    rw [hf] at o
    intro u M' H' x' r' p'
    cases v with
    | int j =>
      simp only [R.bind_ok, int1] at o
      by_cases hj : j ≤ sizeLine ∧ -(2 ^ 62) ≤ j
      · rw [if_pos hj] at o
        simp only [R.bind_ok] at o
        have hsl := sizeLine_eq
        refine ⟨j, p', ⟨by omega, by omega, hj.2, by omega, by omega⟩, fun q hq => ?_⟩
        have hz : (rgV 0 j).length ≤ sizeLine := by rw [rgV_length]; omega
        have rr := rgV_reps (G := G) (M := M') (H := H') 0 j
        rw [show (j - 0).toNat = j.toNat by simp] at rr
        exact o _ M' _ (x'.trans (Ext.new r' hq)) (r'.new hq) (rep_lst_new r' hq hz rr)
      · rw [if_neg hj] at o; exact False.elim o
    | _ => exact False.elim o
end
end J

/-! J: the end of a law. -/
namespace J
open PySem PySem.Spec PyProof.Rows L2
/-- what the law is called with, and what is wanted -/
def spEnd (K : PySem.W.Frag) (T : List Addr) : Sp := fun vs H Q _ => ∃ (a : Addr) (ns : List Int), vs = [.ref a] ∧ SqL K H a (ns.map V.int) ∧ ns.length ≤ 63 ∧ (∀ z ∈ ns, Builtin.Int.intBits z ≤ 1048576) ∧ (∀ P ∈ T, H P = some (.tbl #[])) ∧ ∀ H', Q (.bl true) H'
/-- the law as a pure function -/
def LawTrue (m : List PV → PH → R PV) : Prop := ∀ ns : List Int, ns.length ≤ 63 → (∀ z ∈ ns, Builtin.Int.intBits z ≤ 1048576) → ∃ h', m [.lst (ns.map .int)] [] = .ok (.bl true) h'
theorem end_sp {K : PySem.W.Frag} {T : List Addr} {mg : Str → Option Value} {nm : Nat → Nat → Str} {m : List PV → PH → R PV} (hm : LawTrue m) : ∀ vs H Q E, spEnd K T vs H Q E → spJ ⟨K, T, mg, nm⟩ 1 m vs H Q E := by
  intro vs H Q E h
  obtain ⟨a, ns, rfl, hS, hl, hb, hT, q⟩ := h
  have hsl := sizeLine_eq
  refine ⟨⟨[], [], []⟩, [.lst (ns.map .int)], [], ⟨.nil, fun _ z => absurd z (by simp), rfl, fun _ z => absurd z (by simp), fun _ z => absurd z (by simp), fun _ z => absurd z (by simp), fun _ z => absurd z (by simp), fun n o e => by simp at e, fun P hP => TabD.nil (hT P hP) 2⟩, ⟨⟨a, ns.map V.int, rfl, ?_, by rw [List.length_map]; omega, reps_ints ns⟩, trivial⟩, rfl, ?_⟩
  · rcases hS with h | h
    · exact .inl ⟨fun z => z.elim (by simp) (by simp), h⟩
    · exact .inr h
  · obtain ⟨h', e⟩ := hm ns hl hb
    rw [e]
    intro u M' H' x r p
    cases p
    exact q H'
theorem cx_never {P : Program} {w : World} {l : List Env} {H : Hp} {s : Shared} {e : Value} {s' : Shared} (h : L2.CX P w l H s (fun _ _ _ => False) e s') : False := by
  obtain ⟨_, _, _, _, _, _, _, _, _, _, _, _, z⟩ := h
  exact z.elim
theorem known_mk {P : Program} {w : World} {K : PySem.W.Frag} {mg : Str → Option Value} {base : Heap} {G : Gc} {x : Str} {k n : Nat} {m : List PV → PH → R PV} {f : Addr} {fd : FuncData} {ps : List Str} (F : FnOk P w K mg base (L2.CX P w) k f fd ps (spJ G n m)) (hm : mg x = some (.ref f)) (hk : PySem.W.keepIn K (.ref f) = true) (hb : Binds K fd ps []) (hl : ps.length = n) : Known P w K mg base G x k n m := ⟨f, fd, ps, F, hm, hk, hb, hl⟩
end J

/-! J: a body that is looked at with one mutable object alone. -/
namespace J
open PySem PySem.Spec PyProof.Rows L2
/-- the closed values of the slots of ks, from i on -/
def keepE (ks : List Nat) : Nat → En → En
  | _, [] => []
  | i, v :: ρ => (if ks.contains i then (match v with | some v => if clo 0 v then some v else none | none => none) else none) :: keepE ks (i + 1) ρ
theorem keepE_length (ks : List Nat) : ∀ (i : Nat) (ρ : En), (keepE ks i ρ).length = ρ.length
  | _, [] => rfl
  | i, v :: ρ => by simp [keepE, keepE_length ks (i + 1) ρ]
theorem keepE_get (ks : List Nat) : ∀ (i : Nat) (ρ : En) (j : Nat) (v : PV), (keepE ks i ρ)[j]? = some (some v) → ρ[j]? = some (some v) ∧ clo 0 v = true
  | _, [], j, v, h => by simp [keepE] at h
  | i, w :: ρ, 0, v, h => by
    simp only [keepE, List.getElem?_cons_zero, Option.some.injEq] at h
    split at h
    · cases w with
      | none => cases h
      | some w =>
        simp only at h
        split at h
        · cases h; exact ⟨rfl, by assumption⟩
        · cases h
    · cases h
  | i, w :: ρ, j + 1, v, h => by
    simp only [keepE, List.getElem?_cons_succ] at h
    exact keepE_get ks (i + 1) ρ j v h
/-- three numbers -/
def die (o : PO) : Bool := match o with
  | .lst [.int _, .int _, .int _] => true
  | _ => false
def focO (b : Bool) (k : Nat) (ks : List Nat) (h : PH) (ρ' : En) (h' : PH) : RS := match h'[0]? with
  | some o' => if die o' then (if b then .nx (keepE ks 0 ρ') (h.set k o') else .ct (keepE ks 0 ρ') (h.set k o')) else .bad
  | none => .bad
def foc (d : Nat) (ks : List Nat) (f : SS) : SS := fun ρ h => match ρ[d]? with
  | some (some (.loc k)) => (match h[k]? with
    | some o => if die o then (match f ((keepE ks 0 ρ).set d (some (.loc 0))) [o] with
      | .nx ρ' h' => focO true k ks h ρ' h'
      | .ct ρ' h' => focO false k ks h ρ' h'
      | _ => .bad) else .bad
    | none => .bad)
  | _ => .bad
section
variable {G : Gc} {X : Cx} {W : WX} {M M' : Gh} {H H' : Hp} {h : PH}
theorem die_rep {a : Addr} {o : PO} (d : die o = true) (r : ORep G M H a o) : ∃ x y z : Int, o = .lst [.int x, .int y, .int z] ∧ H a = some (.lst [.int x, .int y, .int z]) := by
  match o, d with
  | .lst [.int x, .int y, .int z], _ =>
    obtain ⟨us, e, _, rs⟩ := r
    match us, rs with
    | [u1, u2, u3], ⟨r1, r2, r3, _⟩ =>
      cases r1; cases r2; cases r3
      exact ⟨x, y, z, rfl, e⟩
theorem die_mk {a : Addr} {x y z : Int} (e : H a = some (.lst [.int x, .int y, .int z])) : ORep G M H a (.lst [.int x, .int y, .int z]) :=
  ⟨_, e, by have := sizeLine_eq; simp; omega, rfl, rfl, rfl, trivial⟩
theorem ORep.ntbl {a : Addr} {o : PO} (r : ORep G M H a o) (ho : o ≠ .dead) : ∃ u, H a = some u ∧ ∀ ps, u ≠ .tbl ps := by
  cases o with
  | lst xs => obtain ⟨us, e, _⟩ := r; exact ⟨_, e, fun _ z => by cases z⟩
  | dic t ks vs =>
    obtain ⟨us, d, e, dd, _⟩ := r
    cases t with
    | false => obtain ⟨kvs, rfl, _⟩ := dd; exact ⟨_, e, fun _ z => by cases z⟩
    | true => obtain ⟨kvs, rfl, _⟩ := dd; exact ⟨_, e, fun _ z => by cases z⟩
  | dead => exact absurd rfl ho
  | ins c fs => obtain ⟨C, dx, ufs, e, _⟩ := r; exact ⟨_, e, fun _ z => by cases z⟩
theorem ORep.notT {a : Addr} {o : PO} (r : ORep G M H a o) (hd : a ∉ M.D) (xs : List V) : H a ≠ some (.tup xs) := by
  cases o with
  | lst ys => obtain ⟨us, e, _⟩ := r; rw [e]; exact fun z => by cases z
  | dic t ks vs =>
    obtain ⟨us, d, e, dd, _⟩ := r
    rw [e]
    cases t with
    | false => obtain ⟨kvs, rfl, _⟩ := dd; exact fun z => by cases z
    | true => obtain ⟨kvs, rfl, _⟩ := dd; exact fun z => by cases z
  | dead => exact absurd r hd
  | ins c fs => obtain ⟨C, dx, ufs, e, _⟩ := r; rw [e]; exact fun z => by cases z
theorem ERel.keep {ρ : En} {σ : L2.St} {ks : List Nat} (e : ERel G M H ρ σ) (s : Sub 0 M M') : ERel G M' H (keepE ks 0 ρ) σ := ⟨by rw [keepE_length]; exact e.1, fun i v q => by
  obtain ⟨q1, q2⟩ := keepE_get ks 0 ρ i v q
  obtain ⟨u, p1, p2⟩ := e.2 i v q1
  exact ⟨u, p1, Rep.sub s v u q2 p2⟩⟩
theorem foc_t {d : Nat} {ks : List Nat} {f : SS} {D : Ends} {σ : L2.St} (t : TSF G W (foc d ks f) D σ H) : TSF G W f D σ H := by
  obtain ⟨M, ρ, h, r, e, o⟩ := t
  unfold foc at o
  split at o
  · rename_i k hk
    split at o
    · rename_i ob ho
      split at o
      · rename_i hd
        obtain ⟨a, ha, hal, ra⟩ := r.obj k ob ho
        have nD : a ∉ M.D := hal (fun z => by subst z; cases hd)
        obtain ⟨x, y, z, rfl, hx⟩ := die_rep hd ra
        have haM := List.mem_of_getElem? ha
        obtain ⟨u, hu, pu⟩ := e.2 d _ hk
        obtain ⟨a', rfl, ha'⟩ := pu
        rw [ha] at ha'; cases ha'
        let M1 : Gh := ⟨[a], (M.L.erase a).filter (fun b => decide (b ∉ M.D)) ++ M.Z, []⟩
        have mm : ∀ b, b ∈ M1 ↔ b ∈ M := fun b => by
          constructor
          · rintro (⟨q, _⟩ | q)
            · rw [List.mem_singleton.mp q]; exact .inl ⟨haM, nD⟩
            · rcases List.mem_append.mp q with q | q
              · obtain ⟨q1, q2⟩ := List.mem_filter.mp q
                exact .inl ⟨List.mem_of_mem_erase q1, by simpa using q2⟩
              · exact .inr q
          · rintro (⟨q, qd⟩ | q)
            · by_cases hb : b = a
              · exact .inl ⟨by rw [hb]; exact List.mem_singleton.mpr rfl, by simp [M1]⟩
              · exact .inr (List.mem_append_left _ (List.mem_filter.mpr ⟨(List.mem_erase_of_ne hb).mpr q, by simpa using qd⟩))
            · exact .inr (List.mem_append_right _ q)
        have s1 : Sub 0 M M1 := ⟨fun _ z => absurd z (Nat.not_lt_zero _), fun b z => (mm b).mp z⟩
        have r1 : HRel G M1 H [.lst [.int x, .int y, .int z]] := by
          refine ⟨by simp [M1], fun b hb z => ?_, rfl, fun b hb => ?_, fun b hb => ?_, fun b hb => by simp [M1] at hb, fun b hb => by rw [List.mem_singleton.mp hb]; exact r.liveL haM, fun n o q => ?_, r.tab⟩
          · rw [List.mem_singleton.mp hb] at z
            rcases List.mem_append.mp z with z | z
            · exact r.nd.not_mem_erase (List.mem_filter.mp z).1
            · exact r.apart a haM z
          · rcases List.mem_append.mp hb with hb | hb
            · exact r.liveL (List.mem_of_mem_erase (List.mem_filter.mp hb).1)
            · exact r.hid b hb
          · rcases List.mem_append.mp hb with hb | hb
            · obtain ⟨n2, hn2⟩ := List.getElem?_of_mem (List.mem_of_mem_erase (List.mem_filter.mp hb).1)
              have hl2 : n2 < h.length := by
                have := (List.getElem?_eq_some_iff.mp hn2).1
                have := r.len
                omega
              obtain ⟨b2, hb2, hbd2, rb2⟩ := r.obj n2 h[n2] (List.getElem?_eq_getElem hl2)
              rw [hn2] at hb2
              have eb : b = b2 := Option.some.inj hb2
              subst eb
              exact rb2.notT (by simpa using (List.mem_filter.mp hb).2)
            · exact r.hidT b hb
          · cases n with
            | zero => cases q; exact ⟨a, rfl, fun _ => by simp [M1], die_mk hx⟩
            | succ n => simp at q
        have e1 : ERel G M1 H ((keepE ks 0 ρ).set d (some (.loc 0))) σ := by
          have := (e.keep (ks := ks) s1).set (i := d) (u := .ref a) (v := .loc 0) ⟨a, rfl, rfl⟩
          have hs : σ.set d (some (V.ref a)) = σ := by
            apply List.ext_getElem?
            intro j
            by_cases hj : d = j
            · subst hj
              rw [List.getElem?_set_self (by exact (List.getElem?_eq_some_iff.mp hu).1), hu]
            · rw [List.getElem?_set_ne hj]
          rw [hs] at this; exact this
        refine ⟨M1, _, _, r1, e1, ?_⟩
        have key : ∀ bb σ' M' H' ρ' h', OutS G W M H (focO bb k ks h ρ' h') D → Ext M1 H M' H' → HRel G M' H' h' → ERel G M' H' ρ' σ' → (if bb then D.nx σ' H' else D.ct σ' H') := by
          intro bb σ' M' H' ρ' h' o x' r' e'
          unfold focO at o
          split at o
          · rename_i o' ho'
            split at o
            · rename_i hd'
              obtain ⟨L, E, rfl, hL⟩ := x'.pre
              obtain ⟨b, hb, hbd, rb⟩ := r'.obj 0 o' ho'
              have hb : ([a] ++ L)[0]? = some b := hb
              cases hb
              have nE := hbd (fun z => by subst z; cases hd')
              obtain ⟨x2, y2, z2, rfl, hx2⟩ := die_rep hd' rb
              have xM : Ext M H M H' := ⟨⟨[], [], by simp, by simp⟩, fun b o q n t => x'.keep b o q (fun z => absurd (n (by rw [List.mem_singleton.mp z]; exact haM)) (by rw [List.mem_singleton.mp z]; exact nD)) t, x'.dom⟩
              have s2 : Sub 0 (⟨M1.L ++ L, M1.Z, E ++ M1.D⟩ : Gh) M := ⟨fun _ z => absurd z (Nat.not_lt_zero _), fun b z => ((mm b).mpr z).imp (fun q => ⟨List.mem_append_left _ q.1, by rw [List.mem_singleton.mp q.1]; exact nE⟩) id⟩
              have rr : HRel G M H' (h.set k (.lst [.int x2, .int y2, .int z2])) := ?_
              · cases bb with
                | true => exact o σ' M H' xM rr (e'.keep s2)
                | false => exact o σ' M H' xM rr (e'.keep s2)
              refine ⟨r.nd, r.apart, by rw [List.length_set]; exact r.len, fun b hb => x'.dom b (r.hid b hb), fun b hb => ?_, r.dsub, fun b hb => x'.dom b (r.live0 b hb), fun n on q => ?_, r'.tab⟩
              · intro xs q
                exact r'.hidT b (List.mem_append_right _ hb) xs q
              by_cases hn : k = n
              · subst hn
                rw [List.getElem?_set_self (by exact (List.getElem?_eq_some_iff.mp ho).1)] at q
                cases q
                exact ⟨a, ha, fun _ => nD, die_mk hx2⟩
              · rw [List.getElem?_set_ne hn] at q
                obtain ⟨c, hc, hcd, rc⟩ := r.obj n on q
                have hca : c ≠ a := fun z => by
                  subst z
                  have h1 := (List.getElem?_eq_some_iff.mp ha)
                  have h2 := (List.getElem?_eq_some_iff.mp hc)
                  obtain ⟨l1, g1⟩ := h1
                  obtain ⟨l2, g2⟩ := h2
                  rcases Nat.lt_or_gt_of_ne hn with lt | lt
                  · exact List.pairwise_iff_getElem.mp r.nd k n l1 l2 lt (g1.trans g2.symm)
                  · exact List.pairwise_iff_getElem.mp r.nd n k l2 l1 lt (g2.trans g1.symm)
                by_cases hdd : on = .dead
                · subst hdd
                  exact ⟨c, hc, hcd, rc⟩
                obtain ⟨uu, hu1, hu2⟩ := rc.ntbl hdd
                refine ⟨c, hc, hcd, rc.ext xM ?_ fun dx q nM => ?_⟩
                · rw [hu1]; exact x'.keep c uu hu1 (fun z => absurd (List.mem_singleton.mp z) hca) hu2
                · rw [q]; exact x'.keep dx _ q (fun z => absurd (show dx ∈ M by rw [List.mem_singleton.mp z]; exact .inl ⟨haM, nD⟩) nM) (fun _ z => by cases z)
            · exact o.elim
          · exact o.elim
        split at o
        · rename_i ρ' h' hf
          rw [hf]
          exact fun σ' M' H' x' r' e' => key true σ' M' H' ρ' h' o x' r' e'
        · rename_i ρ' h' hf
          rw [hf]
          exact fun σ' M' H' x' r' e' => key false σ' M' H' ρ' h' o x' r' e'
        · exact o.elim
      · exact o.elim
    · exact o.elim
  · exact o.elim
theorem jss_foc {body : List Stmt} {f : SS} (d : Nat) (ks : List Nat) (hb : JSs G X W body f) : JSs G X W body (foc d ks f) := pss_imp hb fun D σ H t => foc_t t
end
end J

/-! J: the pure functions by rewriting. -/
namespace J
open PySem PySem.Spec PyProof.Rows L2
def RS.th (r : RS) (g : SS) : RS := match r with
  | .nx ρ h => g ρ h
  | r => r
section
variable {α : Type} (f g : SS) (fe fa fb fc : SE) (ft fu : SB) (gA : SA) (ρ : En) (h : PH) (v w : PV) (i : Nat)
@[simp] theorem th_nx : (RS.nx ρ h).th g = g ρ h := nrfl rfl
@[simp] theorem th_rt : (RS.rt v h).th g = .rt v h := nrfl rfl
@[simp] theorem th_bk : (RS.bk ρ h).th g = .bk ρ h := nrfl rfl
@[simp] theorem th_ct : (RS.ct ρ h).th g = .ct ρ h := nrfl rfl
@[simp] theorem th_ex (e : Ex) : (RS.ex e ρ h).th g = .ex e ρ h := nrfl rfl
@[simp] theorem th_bad : (RS.bad).th g = .bad := nrfl rfl
@[simp] theorem seq_ev : seq f g ρ h = (f ρ h).th g := by unfold seq RS.th; cases f ρ h <;> rfl
@[simp] theorem snil_ev : snil ρ h = .nx ρ h := nrfl rfl
@[simp] theorem sret_ev : sret fe ρ h = (fe ρ h).toS ρ fun v h1 => .rt v h1 := nrfl rfl
@[simp] theorem sexp_ev : sexp fe ρ h = (fe ρ h).toS ρ fun _ h1 => .nx ρ h1 := nrfl rfl
@[simp] theorem sbrk_ev : sbrk ρ h = .bk ρ h := nrfl rfl
@[simp] theorem scont_ev : scont ρ h = .ct ρ h := nrfl rfl
@[simp] theorem sretN_ev : sretN ρ h = .rt .non h := nrfl rfl
@[simp] theorem sset_ev : sset i fe ρ h = (fe ρ h).toS ρ fun v h1 => .nx (ρ.set i (some v)) h1 := nrfl rfl
def sifK (r : R Bool) (f g : SS) (ρ : En) : RS := match r with
  | .ok true h => f ρ h
  | .ok false h => g ρ h
  | .exc e h => .ex e ρ h
  | .bad => .bad
@[simp] theorem sifK_t : sifK (.ok true h) f g ρ = f ρ h := nrfl rfl
@[simp] theorem sifK_f : sifK (.ok false h) f g ρ = g ρ h := nrfl rfl
@[simp] theorem sifK_e (e : Ex) : sifK (.exc e h) f g ρ = .ex e ρ h := nrfl rfl
@[simp] theorem sifK_b : sifK .bad f g ρ = .bad := nrfl rfl
theorem sifK_c (b : Bool) : sifK (.ok b h) f g ρ = if b = true then f ρ h else g ρ h := by cases b <;> rfl
@[simp] theorem sif_ev : sif ft f g ρ h = sifK (ft ρ h) f g ρ := by
  unfold sif sifK
  cases ft ρ h with
  | ok b h => cases b <;> rfl
  | exc e h => rfl
  | bad => rfl
def parK (i j : Nat) (ρ : En) (h : PH) : List PV → RS
  | [v, w] => .nx ((ρ.set i (some v)).set j (some w)) h
  | _ => .bad
@[simp] theorem parK_ev (j : Nat) : parK i j ρ h [v, w] = .nx ((ρ.set i (some v)).set j (some w)) h := nrfl rfl
@[simp] theorem spar_ev (j : Nat) : spar i j gA ρ h = (gA ρ h).toS ρ fun vs h1 => parK i j ρ h1 vs := nrfl rfl
def asgK (h : PH) : Option En → RS
  | some ρ => .nx ρ h
  | none => .bad
@[simp] theorem asgK_s : asgK h (some ρ) = .nx ρ h := nrfl rfl
@[simp] theorem sasg_ev (gf : GF) : sasg gf fe ρ h = (fe ρ h).toS ρ fun v h1 => asgK h1 (gf v ρ) := by
  unfold sasg
  rfl
@[simp] theorem gnm_ev : gnm i v ρ = some (ρ.set i (some v)) := nrfl rfl
def subK (ρ : En) : Option PH → RS
  | some h => .nx ρ h
  | none => .bad
@[simp] theorem subK_s : subK ρ (some h) = .nx ρ h := nrfl rfl
@[simp] theorem ssub_ev (s : PV → PV → PV → PH → Option PH) : ssub s fa fb fc ρ h = (fa ρ h).toS ρ fun v h1 => (fb ρ h1).toS ρ fun o h2 => (fc ρ h2).toS ρ fun i h3 => subK ρ (s o i v h3) := by
  unfold ssub
  rfl
/-! expressions -/
@[simp] theorem vr_zero (ρ : En) : vr 0 (some v :: ρ) h = .ok v h := nrfl rfl
@[simp] theorem vr_succ (x : Option PV) : vr (i + 1) (x :: ρ) h = vr i ρ h := nrfl rfl
@[simp] theorem cst_ev : cst v ρ h = .ok v h := nrfl rfl
@[simp] theorem bin2_ev (o : PV → PV → PH → Option PV) : bin2 o fa fb ρ h = (fa ρ h).bind fun x h1 => (fb ρ h1).bind fun y h2 => R.of h2 (o x y h2) := nrfl rfl
@[simp] theorem un1_ev (o : PV → PH → Option PV) : un1 o fa ρ h = (fa ρ h).bind fun x h1 => R.of h1 (o x h1) := nrfl rfl
def tstK (h : PH) : PV → R Bool
  | .bl b => .ok b h
  | _ => .bad
@[simp] theorem tstK_bl (b : Bool) : tstK h (.bl b) = .ok b h := nrfl rfl
@[simp] theorem tst_ev : tst fe ρ h = (fe ρ h).bind fun v h1 => tstK h1 v := by
  unfold tst
  rfl
@[simp] theorem tru_ev : tru fe ρ h = (fe ρ h).bind fun v h1 => R.of h1 (truO h1 v) := nrfl rfl
@[simp] theorem fnot_ev : fnot ft ρ h = (ft ρ h).bind fun b h1 => .ok (!b) h1 := nrfl rfl
def andK (r : R Bool) (g : SB) (ρ : En) : R Bool := r.bind fun b h1 => if b then g ρ h1 else .ok false h1
def orK (r : R Bool) (g : SB) (ρ : En) : R Bool := r.bind fun b h1 => if b then .ok true h1 else g ρ h1
@[simp] theorem fand_ev : fand ft fu ρ h = andK (ft ρ h) fu ρ := nrfl rfl
@[simp] theorem ffor_ev : ffor ft fu ρ h = orK (ft ρ h) fu ρ := nrfl rfl
@[simp] theorem andK_t : andK (.ok true h) fu ρ = fu ρ h := nrfl rfl
@[simp] theorem andK_f : andK (.ok false h) fu ρ = .ok false h := nrfl rfl
@[simp] theorem orK_t : orK (.ok true h) fu ρ = .ok true h := nrfl rfl
@[simp] theorem orK_f : orK (.ok false h) fu ρ = fu ρ h := nrfl rfl
@[simp] theorem anil_ev : anil ρ h = .ok [] h := nrfl rfl
@[simp] theorem acons_ev : acons fe gA ρ h = (fe ρ h).bind fun x h1 => (gA ρ h1).bind fun xs h2 => .ok (x :: xs) h2 := nrfl rfl
@[simp] theorem cal_ev (o : List PV → PH → Option PV) : cal o gA ρ h = (gA ρ h).bind fun xs h1 => R.of h1 (o xs h1) := nrfl rfl
@[simp] theorem calld_ev (n : Nat) (m : List PV → PH → R PV) : calld n m gA ρ h = (gA ρ h).bind fun vs h1 => if vs.length = n then m vs h1 else .bad := nrfl rfl
@[simp] theorem mkTup_ev : mkTup gA ρ h = (gA ρ h).bind fun xs h1 => if xs.length ≤ sizeLine then .ok (.tup xs) h1 else .bad := nrfl rfl
@[simp] theorem mkLst_ev : mkLst gA ρ h = (gA ρ h).bind fun xs h1 => if xs.length ≤ sizeLine then .ok (.lst xs) h1 else .bad := nrfl rfl
@[simp] theorem mkLoc_ev : mkLoc gA ρ h = (gA ρ h).bind fun xs h1 => if xs.length ≤ sizeLine then .ok (.loc h1.length) (h1 ++ [.lst xs]) else .bad := nrfl rfl
@[simp] theorem onone_ev : onone ρ h = .ok none h := nrfl rfl
def osomeK (h : PH) : PV → R (Option Int)
  | .int i => .ok (some i) h
  | _ => .bad
@[simp] theorem osomeK_i (i : Int) : osomeK h (.int i) = .ok (some i) h := nrfl rfl
@[simp] theorem osome_ev : osome fe ρ h = (fe ρ h).bind fun v h1 => osomeK h1 v := by
  unfold osome
  rfl
@[simp] theorem slc_ev (fl fh : SO) : slc fe fl fh ρ h = (fe ρ h).bind fun x h1 => (fl ρ h1).bind fun l h2 => (fh ρ h2).bind fun u h3 => R.of h3 (slO x l u h3) := nrfl rfl
@[simp] theorem isrc_ev : isrc fe ρ h = (fe ρ h).bind fun v h1 => R.of h1 (srcOf h1 v) := nrfl rfl
@[simp] theorem srcOf_lst (xs : List PV) : srcOf h (.lst xs) = some ⟨xs, none⟩ := nrfl rfl
@[simp] theorem srcOf_tup (xs : List PV) : srcOf h (.tup xs) = some ⟨xs, none⟩ := nrfl rfl
@[simp] theorem itemsOf_lst (xs : List PV) : itemsOf h (.lst xs) = some xs := nrfl rfl
@[simp] theorem itemsOf_tup (xs : List PV) : itemsOf h (.tup xs) = some xs := nrfl rfl
theorem itemsOf_loc (xs : List PV) (n : Nat) (e : h[n]? = some (.lst xs)) : itemsOf h (.loc n) = some xs := by simp [itemsOf, rd, e, rdO]
theorem ixO_of {xs : List PV} {x : PV} (j : Int) (e : itemsOf h x = some xs) : ixO x (.int j) h = atI xs j := by simp [ixO, e]
@[simp] theorem ixO_tup (xs : List PV) (j : Int) : ixO (.tup xs) (.int j) h = atI xs j := nrfl rfl
@[simp] theorem ixO_lst (xs : List PV) (j : Int) : ixO (.lst xs) (.int j) h = atI xs j := nrfl rfl
@[simp] theorem eqO_int (i j : Int) : eqO (.int i) (.int j) h = some (.bl (i == j)) := by simp [eqO, dle]
@[simp] theorem neO_int (i j : Int) : neO (.int i) (.int j) h = some (.bl (!(i == j))) := by simp [neO, dle]
@[simp] theorem gtJ_int (i j : Int) : gtJ (.int i) (.int j) h = some (.bl (decide (j < i))) := nrfl rfl
@[simp] theorem geJ_int (i j : Int) : geJ (.int i) (.int j) h = some (.bl (decide (j ≤ i))) := nrfl rfl
@[simp] theorem ltJ_int (i j : Int) : ltJ (.int i) (.int j) h = some (.bl (decide (i < j))) := nrfl rfl
@[simp] theorem leJ_int (i j : Int) : leJ (.int i) (.int j) h = some (.bl (decide (i ≤ j))) := nrfl rfl
@[simp] theorem addO_int (i j : Int) : addO (.int i) (.int j) h = some (.int (i + j)) := nrfl rfl
@[simp] theorem subO_int (i j : Int) : subO (.int i) (.int j) h = some (.int (i - j)) := nrfl rfl
@[simp] theorem mulO_int (i j : Int) : mulO (.int i) (.int j) h = if (decide (i.natAbs < 2 ^ 64) || decide (j.natAbs < 2 ^ 64)) = true then some (.int (i * j)) else none := nrfl rfl
theorem mulO_r (i j : Int) (e : j.natAbs < 2 ^ 64) : mulO (.int i) (.int j) h = some (.int (i * j)) := by rw [mulO_int, if_pos (by simp [e])]
theorem modO_p (i j : Int) (e : 0 < j) : modO (.int i) (.int j) h = some (.int (i % j)) := by simp [modO, intO, e]
theorem fdivO_p (i j : Int) (e : 0 < j) (e2 : j < 1073741824) : fdivO (.int i) (.int j) h = some (.int (i / j)) := by simp [fdivO, intO, e, e2]
theorem powO_p (i j : Int) (e : 0 ≤ j ∧ j ≤ 1000000 ∧ i.natAbs < 2 ^ 64) : powO (.int i) (.int j) h = some (.int (i ^ j.toNat)) := by unfold powO intO; simp only; rw [if_pos (by simpa using e)]
@[simp] theorem absO_int (i : Int) : absO [.int i] h = some (.int (if i < 0 then -i else i)) := nrfl rfl
@[simp] theorem intO1_int (i : Int) : intO1 [.int i] h = some (.int i) := nrfl rfl
@[simp] theorem intO1_bl (b : Bool) : intO1 [.bl b] h = some (.int (if b then 1 else 0)) := nrfl rfl
@[simp] theorem lenO_tup (xs : List PV) : lenO [.tup xs] h = some (.int xs.length) := nrfl rfl
@[simp] theorem lenO_lst (xs : List PV) : lenO [.lst xs] h = some (.int xs.length) := nrfl rfl
theorem lenO_loc (xs : List PV) (n : Nat) (e : h[n]? = some (.lst xs)) : lenO [.loc n] h = some (.int xs.length) := by simp [lenO, itemsOf_loc h xs n e]
@[simp] theorem tupleO_lst (xs : List PV) : tupleO [.lst xs] h = some (.tup xs) := nrfl rfl
@[simp] theorem tupleO_tup (xs : List PV) : tupleO [.tup xs] h = some (.tup xs) := nrfl rfl
@[simp] theorem slO_lst (xs : List PV) (a b : Option Int) : slO (.lst xs) a b h = some (.lst (cut xs a b)) := nrfl rfl
@[simp] theorem slO_tup (xs : List PV) (a b : Option Int) : slO (.tup xs) a b h = some (.tup (cut xs a b)) := nrfl rfl
/-! the die at loc 0 -/
theorem trimR_int (md : Md) (n : Nat) (j : Int) : trimR md h.length (.ok (.int j) h) = .ok (.int j) h := by simp [trimR, trimV, clo, cutP_self]
theorem trimR_clo (md : Md) (n : Nat) (v : PV) (e : h.length = n) (c : clo n v = true) : trimR md n (.ok v h) = .ok v h := by subst e; simp [trimR, trimV, c, cutP_self]
end
abbrev di (a b c : Int) : PO := .lst [.int a, .int b, .int c]
end J

/-! J: the dice, that all laws roll. -/
namespace J
open PySem PySem.Spec PyProof.Rows L2
def fb__law_dice : SS := (seq (sif (tst (chn ltJ ltJ (bin2 subO (cst (.int 0)) (cst (.int 10))) (vr 0) (cst (.int 10)))) (seq (sret (mkLoc (acons (cal absO (acons (vr 0) anil)) (acons (cst (.int 0)) (acons (cst (.int 2)) anil))))) snil) snil)
  (seq (sret (mkLoc (acons (vr 0) (acons (bin2 addO (cst (.int 1)) (bin2 modO (cal intO1 (acons (vr 0) anil)) (cst (.int 1009)))) (acons (cal intO1 (acons (bin2 geJ (vr 0) (bin2 powO (cst (.int 10)) (cst (.int 18)))) anil)) anil))))) snil))
def m__law_dice : List PV → PH → R PV := fun args h => trimR .keep h.length (fin (fb__law_dice (startE 1 args) h))
def fb__law_roll : SS := (seq (sif (ffor (tst (bin2 eqO (bin2 ixO (vr 0) (cst (.int 2))) (cst (.int 2)))) (fand (tst (bin2 eqO (bin2 ixO (vr 0) (cst (.int 2))) (cst (.int 1)))) (tst (bin2 gtJ (bin2 ixO (vr 0) (cst (.int 0))) (cst (.int 0)))))) (seq (sset 2 (bin2 modO (cal intO1 (acons (bin2 ixO (vr 0) (cst (.int 0))) anil)) (vr 1)))
  (seq (ssub setLO (bin2 fdivO (bin2 ixO (vr 0) (cst (.int 0))) (vr 1)) (vr 0) (cst (.int 0)))
  (seq (sret (vr 2)) snil))) snil)
  (seq (ssub setLO (cst (.int 0)) (vr 0) (cst (.int 2)))
  (seq (ssub setLO (bin2 modO (cal intO1 (acons (bin2 addO (bin2 addO (bin2 mulO (bin2 ixO (vr 0) (cst (.int 0))) (cst (.int 48271))) (bin2 mulO (bin2 ixO (vr 0) (cst (.int 1))) (cst (.int 69621)))) (cst (.int 11))) anil)) (cst (.int 2147483647))) (vr 0) (cst (.int 0)))
  (seq (ssub setLO (bin2 addO (bin2 ixO (vr 0) (cst (.int 1))) (cst (.int 1))) (vr 0) (cst (.int 1)))
  (seq (sret (bin2 modO (cal intO1 (acons (bin2 addO (bin2 fdivO (bin2 ixO (vr 0) (cst (.int 0))) (cst (.int 7))) (bin2 ixO (vr 0) (cst (.int 0)))) anil)) (vr 1))) snil)))))
def m__law_roll : List PV → PH → R PV := fun args h => trimR .keep h.length (fin (fb__law_roll (startE 3 args) h))
def fb__law_rounds : SS := (seq (sset 2 (slc (vr 0) onone (osome (vr 1))))
  (seq (sif (tst (bin2 eqO (vr 2) (mkLst anil))) (seq (sset 2 (mkLst (acons (cst (.int 0)) anil))) snil) snil)
  (seq (sret (lcG [3] (isrc (vr 2)) (gnm 3) tyes (calld 1 m__law_dice (acons (vr 3) anil)) (fun xs h => .ok (.lst xs) h))) snil)))
def m__law_rounds : List PV → PH → R PV := fun args h => trimR .keep h.length (fin (fb__law_rounds (startE 4 args) h))
def fb__law_names : SS := (seq (sret (cal tupleO (acons (slc (mkLst (acons (cst (.str "a")) (acons (cst (.str "bb")) (acons (cst (.str "c")) (acons (cst (.str "dd")) (acons (cst (.str "e")) (acons (cst (.str "f")) anil))))))) onone (osome (vr 0))) anil))) snil)
def m__law_names : List PV → PH → R PV := fun args h => trimR .keep h.length (fin (fb__law_names (startE 1 args) h))
def fb__law_mixed : SS := (seq (spar 2 3 (acons (listM (acons (vr 1) anil)) (acons (mkLoc anil) anil)))
  (seq (sfor (irng1 (acons (cal lenO (acons (vr 1) anil)) anil)) (gnm 4) (seq (sset 5 (bin2 ixO (vr 2) (calld 2 m__law_roll (acons (vr 0) (acons (cal lenO (acons (vr 2) anil)) anil)))))
  (seq (sexp (met .list appendO (vr 3) (acons (vr 5) anil)))
  (seq (sexp (met .list removeO (vr 2) (acons (vr 5) anil))) snil))))
  (seq (sret (vr 3)) snil)))
def m__law_mixed : List PV → PH → R PV := fun args h => trimR .frz h.length (fin (fb__law_mixed (startE 6 args) h))
section
variable (a b c : Int) (h : PH) (v : PV)
@[simp] theorem ixO_d0 : ixO (.loc 0) (.int 0) (di a b c :: h) = some (.int a) := nrfl rfl
@[simp] theorem ixO_d1 : ixO (.loc 0) (.int 1) (di a b c :: h) = some (.int b) := nrfl rfl
@[simp] theorem ixO_d2 : ixO (.loc 0) (.int 2) (di a b c :: h) = some (.int c) := nrfl rfl
@[simp] theorem setLO_d0 (x : Int) : setLO (.loc 0) (.int 0) (.int x) (di a b c :: h) = some (di x b c :: h) := nrfl rfl
@[simp] theorem setLO_d1 (x : Int) : setLO (.loc 0) (.int 1) (.int x) (di a b c :: h) = some (di a x c :: h) := nrfl rfl
@[simp] theorem setLO_d2 (x : Int) : setLO (.loc 0) (.int 2) (.int x) (di a b c :: h) = some (di a b x :: h) := nrfl rfl
end
theorem roll_fb (a b c n : Int) (h : PH) (hn : 0 < n) (hn2 : n < 1073741824) : ∃ r a' b' c', 0 ≤ r ∧ r < n ∧ fb__law_roll (startE 3 [.loc 0, .int n]) (di a b c :: h) = .rt (.int r) (di a' b' c' :: h) := by
  have m1 : ∀ (x : Int) h, mulO (.int x) (.int 48271) h = some (.int (x * 48271)) := fun x h => mulO_r h x _ (by decide)
  have m2 : ∀ (x : Int) h, mulO (.int x) (.int 69621) h = some (.int (x * 69621)) := fun x h => mulO_r h x _ (by decide)
  have m3 : ∀ (x : Int) h, modO (.int x) (.int 2147483647) h = some (.int (x % 2147483647)) := fun x h => modO_p h x _ (by decide)
  have m4 : ∀ (x : Int) h, fdivO (.int x) (.int 7) h = some (.int (x / 7)) := fun x h => fdivO_p h x _ (by decide) (by decide)
  have m5 : ∀ (x : Int) h, modO (.int x) (.int n) h = some (.int (x % n)) := fun x h => modO_p h x _ hn
  have m6 : ∀ (x : Int) h, fdivO (.int x) (.int n) h = some (.int (x / n)) := fun x h => fdivO_p h x _ hn hn2
  have fin : ∀ x : Int, 0 ≤ x % n ∧ x % n < n := fun x => ⟨Int.emod_nonneg _ (by omega), Int.emod_lt_of_pos _ hn⟩
  by_cases h2 : c = 2
  · subst h2
    refine ⟨a % n, a / n, b, 2, (fin _).1, (fin _).2, ?_⟩
    simp [fb__law_roll, startE, m5, m6]
  · by_cases h1 : c = 1
    · subst h1
      by_cases ha : 0 < a
      · refine ⟨a % n, a / n, b, 1, (fin _).1, (fin _).2, ?_⟩
        simp [fb__law_roll, startE, m5, m6, ha]
      · suffices q : ∃ x a' b' c' : Int, fb__law_roll (startE 3 [.loc 0, .int n]) (di a b 1 :: h) = .rt (.int (x % n)) (di a' b' c' :: h) by
          obtain ⟨x, a', b', c', q⟩ := q
          exact ⟨x % n, a', b', c', (fin x).1, (fin x).2, q⟩
        refine ⟨(a * 48271 + b * 69621 + 11) % 2147483647 / 7 + (a * 48271 + b * 69621 + 11) % 2147483647, (a * 48271 + b * 69621 + 11) % 2147483647, b + 1, 0, ?_⟩
        · simp [fb__law_roll, startE, m1, m2, m3, m4, m5, ha]
    · suffices q : ∃ x a' b' c' : Int, fb__law_roll (startE 3 [.loc 0, .int n]) (di a b c :: h) = .rt (.int (x % n)) (di a' b' c' :: h) by
        obtain ⟨x, a', b', c', q⟩ := q
        exact ⟨x % n, a', b', c', (fin x).1, (fin x).2, q⟩
      refine ⟨(a * 48271 + b * 69621 + 11) % 2147483647 / 7 + (a * 48271 + b * 69621 + 11) % 2147483647, (a * 48271 + b * 69621 + 11) % 2147483647, b + 1, 0, ?_⟩
      · have e1 : (c == 1) = false := by simp [h1]
        have e2 : (c == 2) = false := by simp [h2]
        simp [fb__law_roll, startE, m1, m2, m3, m4, m5, e1, e2]
theorem roll (a b c n : Int) (h : PH) (hn : 0 < n) (hn2 : n < 1073741824) : ∃ r a' b' c', 0 ≤ r ∧ r < n ∧ m__law_roll [.loc 0, .int n] (di a b c :: h) = .ok (.int r) (di a' b' c' :: h) := by
  obtain ⟨r, a', b', c', h1, h2, e⟩ := roll_fb a b c n h hn hn2
  exact ⟨r, a', b', c', h1, h2, by unfold m__law_roll; rw [e]; exact trimR_clo _ _ _ _ rfl rfl⟩
end J

/-! J: the rounds, and the law by its body. -/
namespace J
open PySem PySem.Spec PyProof.Rows L2
theorem dice_ok (z : Int) (h : PH) : ∃ a b c, m__law_dice [.int z] h = .ok (.loc h.length) (h ++ [di a b c]) := by
  have tr : ∀ a b c : Int, trimR .keep h.length (.ok (.loc h.length) (h ++ [di a b c])) = .ok (.loc h.length) (h ++ [di a b c]) := fun a b c => by
    simp [trimR, trimV, clo]
  have sl : (3 : Nat) ≤ sizeLine := by rw [sizeLine_eq]; decide
  by_cases hz : -10 < z ∧ z < 10
  · refine ⟨if z < 0 then -z else z, 0, 2, ?_⟩
    unfold m__law_dice
    rw [← tr]
    congr 1
    simp [fb__law_dice, startE, chn, hz.1, hz.2, fin, sl]
  · refine ⟨z, 1 + z % 1009, if 1000000000000000000 ≤ z then 1 else 0, ?_⟩
    unfold m__law_dice
    rw [← tr]
    congr 1
    have m1 : ∀ h, modO (.int z) (.int 1009) h = some (.int (z % 1009)) := fun h => modO_p h z _ (by decide)
    have m2 : ∀ h, powO (.int 10) (.int 18) h = some (.int 1000000000000000000) := fun h => powO_p h _ _ (by decide)
    have ch : chn ltJ ltJ (bin2 subO (cst (.int 0)) (cst (.int 10))) (vr 0) (cst (.int 10)) [some (.int z)] h = .ok (.bl false) h := by
      by_cases h1 : -10 < z
      · have h2 : ¬ z < 10 := fun q => hz ⟨h1, q⟩
        simp [chn, h1, h2]
      · simp [chn, h1]
    simp [fb__law_dice, startE, ch, m1, m2, fin, sl]
def locs (n m : Nat) : List PV := match m with
  | 0 => []
  | m + 1 => .loc n :: locs (n + 1) m
theorem rounds_comp (ρ0 : En) (hρ : ρ0.length = 4) (s : Src) (hs : s.lv = none) : ∀ (ns : List Int) (h : PH), (∀ o ∈ h, die o = true) → ∃ ds : PH, (∀ o ∈ ds, die o = true) ∧ ds.length = ns.length ∧
    compL s (gnm 3) tyes (calld 1 m__law_dice (acons (vr 3) anil)) ρ0 (ns.map .int) h = .ok (locs h.length ns.length) (h ++ ds)
  | [], h, _ => ⟨[], by simp, rfl, by simp [compL, locs]⟩
  | z :: ns, h, hd => by
    obtain ⟨a, b, c, e⟩ := dice_ok z h
    have hd2 : ∀ o ∈ h ++ [di a b c], die o = true := fun o ho => by
      rcases List.mem_append.mp ho with q | q
      · exact hd o q
      · rw [List.mem_singleton.mp q]; rfl
    obtain ⟨ds, h1, h2, h3⟩ := rounds_comp ρ0 hρ s hs ns (h ++ [di a b c]) hd2
    refine ⟨di a b c :: ds, fun o ho => ?_, by simp [h2], ?_⟩
    · rcases List.mem_cons.mp ho with q | q
      · rw [q]; rfl
      · exact h1 o q
    · have hv : vr 3 (ρ0.set 3 (some (.int z))) h = .ok (.int z) h := by
        unfold vr
        rw [List.getElem?_set_self (by omega)]
      have sm : ∀ h, sameL s h = true := fun h => by unfold sameL; rw [hs]
      rw [List.map_cons]
      unfold compL
      simp only [gnm_ev, tyes, calld_ev, acons_ev, hv, R.bind_ok, anil_ev, List.length_cons, List.length_nil, if_true, e, sm, h3, Nat.zero_add]
      simp [locs]
theorem rounds_ok (ns : List Int) (k : Int) (hk : 0 < k) : ∃ ds : PH, (∀ o ∈ ds, die o = true) ∧ m__law_rounds [.lst (ns.map .int), .int k] [] = .ok (.lst (locs 0 ds.length)) ds := by
  have main : ∀ ms : List Int, ms ≠ [] → ∃ ds : PH, (∀ o ∈ ds, die o = true) ∧ trimR .keep 0 (fin (sret (lcG [3] (isrc (vr 2)) (gnm 3) tyes (calld 1 m__law_dice (acons (vr 3) anil)) (fun xs h => .ok (.lst xs) h)) [some (.lst (ns.map .int)), some (.int k), some (.lst (ms.map .int)), none] [])) = .ok (.lst (locs 0 ds.length)) ds := by
    intro ms hms
    obtain ⟨ds, h1, h2, h3⟩ := rounds_comp [some (.lst (ns.map .int)), some (.int k), some (.lst (ms.map .int)), none] rfl ⟨ms.map .int, none⟩ rfl ms [] (by simp)
    refine ⟨ds, h1, ?_⟩
    have e : lcG [3] (isrc (vr 2)) (gnm 3) tyes (calld 1 m__law_dice (acons (vr 3) anil)) (fun xs h => .ok (.lst xs) h) [some (.lst (ns.map .int)), some (.int k), some (.lst (ms.map .int)), none] [] = .ok (.lst (locs 0 ds.length)) ds := by
      unfold lcG
      simp only [isrc_ev, vr_succ, vr_zero, R.bind_ok, srcOf_lst, R.of_some, sameL_none, if_true]
      have w : wipeE [some (PV.lst (ns.map .int)), some (.int k), some (.lst (ms.map .int)), none] [3] = [some (PV.lst (ns.map .int)), some (.int k), some (.lst (ms.map .int)), none] := rfl
      rw [w, h3, ← h2]
      rfl
    rw [sret_ev, e]
    cases ms with
    | nil => exact absurd rfl hms
    | cons m ms =>
      cases ds with
      | nil => simp at h2
      | cons d ds => rfl
  have hc : cut (ns.map PV.int) none (some k) = (ns.take k.toNat).map .int := by
    have : ¬ k < 0 := by omega
    simp [cut, HT.sIx, this, List.map_take]
  have step : ∀ ms : List Int, ms = (if (ns.take k.toNat) = [] then [0] else ns.take k.toNat) → fb__law_rounds (startE 4 [.lst (ns.map .int), .int k]) [] = sret (lcG [3] (isrc (vr 2)) (gnm 3) tyes (calld 1 m__law_dice (acons (vr 3) anil)) (fun xs h => .ok (.lst xs) h)) [some (.lst (ns.map .int)), some (.int k), some (.lst (ms.map .int)), none] [] := by
    intro ms hms
    have sl : (1 : Nat) ≤ sizeLine := by rw [sizeLine_eq]; decide
    have hd : ∀ xs : List Int, dles 59 (xs.map PV.int) = true := fun xs => by
      induction xs with
      | nil => rfl
      | cons x xs ih => simp [dles, dle, ih]
    have hq : ∀ f : SE, ∀ ρ h, ((sret f ρ h).th snil) = sret f ρ h := fun f ρ h => by
      rw [sret_ev]
      cases f ρ h <;> rfl
    cases ht : ns.take k.toNat with
    | nil =>
      rw [ht, if_pos rfl] at hms
      subst hms
      rw [ht] at hc
      have e1 : ∀ h, eqO (.lst []) (.lst []) h = some (.bl true) := fun h => by simp [eqO, dle, dles, DEPTH]
      unfold fb__law_rounds
      simp only [seq_ev, sset_ev, slc_ev, startE, List.map_cons, List.map_nil, List.length_cons, List.length_nil, Nat.reduceAdd, Nat.reduceSub, List.replicate, List.cons_append, List.nil_append, vr_succ, vr_zero, R.bind_ok, onone_ev, osome_ev, osomeK_i, slO_lst, hc, R.of_some, R.toS_ok, th_nx, List.set_cons_succ, List.set_cons_zero, sif_ev, tst_ev, bin2_ev, mkLst_ev, anil_ev, Nat.zero_le, if_true, e1, tstK_bl, sifK_t, acons_ev, cst_ev, sl, snil_ev]
      rw [hq]
    | cons x xs =>
      rw [ht, if_neg (by simp)] at hms
      subst hms
      rw [ht] at hc
      have e1 : ∀ h, eqO (.lst ((x :: xs).map .int)) (.lst []) h = some (.bl false) := fun h => by simp [eqO, dle, dles, DEPTH, hd]
      unfold fb__law_rounds
      simp only [seq_ev, sset_ev, slc_ev, startE, List.map_cons, List.map_nil, List.length_cons, List.length_nil, Nat.reduceAdd, Nat.reduceSub, List.replicate, List.cons_append, List.nil_append, vr_succ, vr_zero, R.bind_ok, onone_ev, osome_ev, osomeK_i, slO_lst, hc, R.of_some, R.toS_ok, th_nx, List.set_cons_succ, List.set_cons_zero, sif_ev, tst_ev, bin2_ev, mkLst_ev, anil_ev, Nat.zero_le, if_true]
      simp only [List.map_cons] at e1
      simp only [e1, R.of_some, R.bind_ok, tstK_bl, sifK_f, snil_ev, th_nx]
      rw [seq_ev, hq]
  unfold m__law_rounds
  rw [step _ rfl]
  exact main _ (by split <;> simp_all)
/-- what a body is to do with any die -/
def BodyOk (N : Nat) (body : SS) : Prop := ∀ a b c : Int, ∃ ρ' h' o', (body (none :: some (.loc 0) :: List.replicate N none) [di a b c] = .nx ρ' h' ∨ body (none :: some (.loc 0) :: List.replicate N none) [di a b c] = .ct ρ' h') ∧ ρ'.length = N + 2 ∧ h'[0]? = some o' ∧ die o' = true
theorem keepE_nil : ∀ (i : Nat) (ρ : En), keepE [] i ρ = List.replicate ρ.length none
  | _, [] => rfl
  | i, v :: ρ => by simp [keepE, keepE_nil (i + 1) ρ, List.replicate_succ]
theorem die_is {o : PO} (d : die o = true) : ∃ a b c, o = di a b c := by
  match o, d with
  | .lst [.int a, .int b, .int c], _ => exact ⟨a, b, c, rfl⟩
theorem for_locs {N : Nat} {body : SS} (hb : BodyOk N body) (xs : List PV) : ∀ (m n : Nat) (ρ : En) (h : PH), ρ.length = N + 2 → n + m ≤ h.length → (∀ o ∈ h, die o = true) → ∃ ρ' h', forL ⟨xs, none⟩ (gnm 1) (foc 1 [] body) (locs n m) ρ h = .nx ρ' h'
  | 0, n, ρ, h, _, _, _ => ⟨ρ, h, rfl⟩
  | m + 1, n, ρ, h, hl, hm, hd => by
    have hn : n < h.length := by omega
    obtain ⟨a, b, c, ho⟩ := die_is (hd h[n] (List.getElem_mem hn))
    obtain ⟨ρ1, h1, o1, e, l1, g1, d1⟩ := hb a b c
    have hq : h[n]? = some (di a b c) := by rw [List.getElem?_eq_getElem hn, ho]
    have env : (keepE [] 0 (ρ.set 1 (some (.loc n)))).set 1 (some (.loc 0)) = none :: some (.loc 0) :: List.replicate N none := by
      rw [keepE_nil, List.length_set, hl]; rfl
    have hf : foc 1 [] body (ρ.set 1 (some (.loc n))) h = .nx (List.replicate (N + 2) none) (h.set n o1) ∨ foc 1 [] body (ρ.set 1 (some (.loc n))) h = .ct (List.replicate (N + 2) none) (h.set n o1) := by
      unfold foc
      rw [List.getElem?_set_self (by omega)]
      simp only [hq, env]
      rw [if_pos (show die (di a b c) = true from rfl)]
      rcases e with e | e
      · left; rw [e]; simp [focO, g1, d1, keepE_nil, l1]
      · right; rw [e]; simp [focO, g1, d1, keepE_nil, l1]
    have hd2 : ∀ o ∈ h.set n o1, die o = true := fun o ho => by
      rcases List.mem_or_eq_of_mem_set ho with q | q
      · exact hd o q
      · rw [q]; exact d1
    obtain ⟨ρ2, h2, e2⟩ := for_locs hb xs m (n + 1) (List.replicate (N + 2) none) (h.set n o1) (by simp) (by rw [List.length_set]; omega) hd2
    refine ⟨ρ2, h2, ?_⟩
    show (match gnm 1 (.loc n) ρ with
      | none => RS.bad
      | some ρ1 => match foc 1 [] body ρ1 h with
        | .nx ρ' h' => if sameL ⟨xs, none⟩ h' then forL ⟨xs, none⟩ (gnm 1) (foc 1 [] body) (locs (n + 1) m) ρ' h' else .bad
        | .ct ρ' h' => if sameL ⟨xs, none⟩ h' then forL ⟨xs, none⟩ (gnm 1) (foc 1 [] body) (locs (n + 1) m) ρ' h' else .bad
        | .bk ρ' h' => .nx ρ' h'
        | .rt v h' => .rt v h'
        | .ex e ρ' h' => .ex e ρ' h'
        | .bad => .bad) = _
    simp only [gnm_ev]
    rcases hf with q | q <;> simp only [q, sameL_none, if_true] <;> exact e2
theorem law_of {N : Nat} {k : Int} {body rest : SS} (hk : 0 < k) (hb : BodyOk N body) (hr : ∀ ρ h, ∃ h', rest ρ h = .rt (.bl true) h') :
    LawTrue fun args h => trimR .keep h.length (fin (seq (sfor (isrc (calld 2 m__law_rounds (acons (vr 0) (acons (cst (.int k)) anil)))) (gnm 1) (foc 1 [] body)) rest (startE (N + 2) args) h)) := by
  intro ns _ _
  obtain ⟨ds, h1, h2⟩ := rounds_ok ns k hk
  obtain ⟨ρ', h', e⟩ := for_locs hb (locs 0 ds.length) ds.length 0 (startE (N + 2) [.lst (ns.map .int)]) ds (by simp [startE]) (by simp) h1
  obtain ⟨h2', er⟩ := hr ρ' h'
  have hv : ∀ h, vr 0 (startE (N + 2) [.lst (ns.map .int)]) h = .ok (.lst (ns.map .int)) h := fun h => rfl
  have hs : sfor (isrc (calld 2 m__law_rounds (acons (vr 0) (acons (cst (.int k)) anil)))) (gnm 1) (foc 1 [] body) (startE (N + 2) [.lst (ns.map .int)]) [] = .nx ρ' h' := by
    unfold sfor
    simp only [isrc_ev, calld_ev, acons_ev, hv, R.bind_ok, cst_ev, anil_ev, List.length_cons, List.length_nil, Nat.zero_add, Nat.reduceAdd, if_true, h2, srcOf_lst, R.of_some, R.toS_ok, sameL_none]
    exact e
  refine ⟨cutP 0 h2', ?_⟩
  show trimR .keep 0 _ = _
  rw [seq_ev, hs, th_nx, er]
  rfl
end J

namespace J
open PySem PySem.Spec PyProof.Rows L2
def NAMES : List PV := [.str "a", .str "bb", .str "c", .str "dd", .str "e", .str "f"]
theorem clos_str (n : Nat) (xs : List Str) : clos n (xs.map .str) = true := by
  induction xs with
  | nil => rfl
  | cons x xs ih => simp [clos, clo, ih]
theorem names_ok (n : Nat) (h : PH) : m__law_names [.int n] h = .ok (.tup (NAMES.take n)) h := by
  have sl : (6 : Nat) ≤ sizeLine := by rw [sizeLine_eq]; decide
  have e : fb__law_names (startE 1 [.int n]) h = .rt (.tup (NAMES.take n)) h := by
    have hc : cut [PV.str "a", .str "bb", .str "c", .str "dd", .str "e", .str "f"] none (some (n : Int)) = NAMES.take n := by
      have : ¬ ((n : Int) < 0) := by omega
      simp only [cut, HT.sIx, this, if_false, Int.toNat_natCast, List.drop_zero, Nat.sub_zero, NAMES]
      by_cases hn : n ≤ 6
      · rw [Nat.min_eq_left (by simpa using hn)]
      · rw [Nat.min_eq_right (by simp; omega), List.take_of_length_le (Nat.le_refl _), List.take_of_length_le (by simp; omega)]
    simp [fb__law_names, startE, sl, hc]
  unfold m__law_names
  rw [e]
  refine trimR_clo _ _ _ _ rfl ?_
  have : NAMES.take n = (([("a" : Str), ("bb" : Str), ("c" : Str), ("dd" : Str), ("e" : Str), ("f" : Str)] : List Str).take n).map .str := by rw [List.map_take]; rfl
  simp only [clo, this, clos_str]
def chk (N : Nat) (r : RS) : Bool := match r with
  | .nx ρ h => ρ.length == N + 2 && (match h[0]? with | some o => die o | none => false)
  | .ct ρ h => ρ.length == N + 2 && (match h[0]? with | some o => die o | none => false)
  | _ => false
theorem bodyOk_of {N : Nat} {body : SS} (h : ∀ a b c : Int, chk N (body (none :: some (.loc 0) :: List.replicate N none) [di a b c]) = true) : BodyOk N body := by
  intro a b c
  have q := h a b c
  cases e : body (none :: some (.loc 0) :: List.replicate N none) [di a b c] with
  | nx ρ' h' =>
    rw [e] at q
    simp only [chk, Bool.and_eq_true, beq_iff_eq] at q
    cases g : h'[0]? with
    | none => rw [g] at q; cases q.2
    | some o => rw [g] at q; exact ⟨ρ', h', o, .inl rfl, q.1, g, q.2⟩
  | ct ρ' h' =>
    rw [e] at q
    simp only [chk, Bool.and_eq_true, beq_iff_eq] at q
    cases g : h'[0]? with
    | none => rw [g] at q; cases q.2
    | some o => rw [g] at q; exact ⟨ρ', h', o, .inr rfl, q.1, g, q.2⟩
  | rt v h' => rw [e] at q; cases q
  | bk v h' => rw [e] at q; cases q
  | ex v h' => rw [e] at q; cases q
  | bad => rw [e] at q; cases q
theorem natOf {r n : Int} (h : 0 ≤ r) (h2 : r < n) : ∃ k : Nat, r = k ∧ k < n.toNat := ⟨r.toNat, by omega, by omega⟩
end J

set_option maxHeartbeats 1000000
/-! J: generator expressions, the model's side. -/
namespace J
open PySem PySem.Spec PyProof.Rows L2 GxR
/-- the context of a generator expression's frame -/
abbrev gx (X : Cx) (B : Around) (s : Shared) (H : Hp) (ce : Env) (fp : List Addr) : Cx :=
  { X with A := B, s_0 := s, H_0 := H, env := ce, outer := X.stack, stack := ce :: X.stack, ex := fp, fn := fun _ => false, calm := true, pn := [], xe := fun _ _ => False }
theorem over_gen {A : Around} {elt : Expr} {gs : List Comprehension} {scope : Scope} {pos : Pos} {it acc : Value} {env : Env} : A.over (.compLoop (.GeneratorExp elt gs scope pos) 0 it acc env) [] = A.deeper env := by
  first
    | rfl
    | (obtain ⟨hd, d, fr, gs, u⟩ := A; simp [Around.over, Around.deeper, marksOver, frameCount, unitsOf, envsOf, guardsOf, pushEnvs, pushGuards, Code.envs, Code.env?, Code.isFrame, Code.guards, Code.isGuard, Code.weight, Code.frames, Code.isCreation, Code.isCaller, Code.cUnits])
theorem over_gen0 {A : Around} {elt : Expr} {gs : List Comprehension} {scope : Scope} {pos : Pos} {it acc : Value} {env : Env} : A.over (.compStart (.GeneratorExp elt gs scope pos) 0 it acc env) [] = A.deeper env := by
  first
    | rfl
    | (obtain ⟨hd, d, fr, gs, u⟩ := A; simp [Around.over, Around.deeper, marksOver, frameCount, unitsOf, envsOf, guardsOf, pushEnvs, pushGuards, Code.envs, Code.env?, Code.isFrame, Code.guards, Code.isGuard, Code.weight, Code.frames, Code.isCreation, Code.isCaller, Code.cUnits])
section
variable {X : Cx} {pins : List (Addr × Obj)} {σ : L2.St} {H : Hp} {s : Shared}
abbrev gEnv (X : Cx) (scope : Scope) (C : Addr) (code : Value) : Env := genEnv scope (cloFrom X.env.cells scope.names []) C code builtinsNs X.env
theorem gen_start {scope : Scope} {own : List (Str × Nat)} {fp : List Addr} {B : Around} {code : Value} {s5 : Shared} {m : Str → Option Value} (I : Inv X pins σ H s) (ok : BlkOk X.N X.env.scope scope own) (nocell : ∀ y ∈ scope.names, y.2 ≠ .cell) (hN : X.N.Nodup)
    (hfp : ∀ b ∈ fp, FpOk X pins H b ∧ b < s.heap.objs.size) (hBf : B.frames = some (gEnv X scope s.heap.objs.size code :: X.stack)) (hBh : B.handled = none) (hos : s5.os = s.os) (hb : AllBare s5.gens)
    (kp : ∀ b o, s.heap.get? b = some o → s5.heap.get? b = some o) (hns : s5.heap.Ns s.heap.objs.size m) :
    Inv (gx X B s H (gEnv X scope s.heap.objs.size code) fp) [] (wipe σ (own.map (·.2))) H s5 := by
  have hfree : ∀ y ∈ scope.names, y.2 = .free → ∃ c, X.env.cells.lookup y.1 = some c := fun y hy e => by
    rcases ok.free y hy e with k | k
    · exact I.ok.has _ (.inl k)
    · exact I.ok.has _ (.inr k)
  generalize hcenv : gEnv X scope s.heap.objs.size code = cenv at hBf ⊢
  have hL : cenv.locals = s.heap.objs.size := by rw [← hcenv]; rfl
  have hcl : cenv.cells = cloFrom X.env.cells scope.names [] := by rw [← hcenv]; rfl
  have hsc : cenv.scope = scope := by rw [← hcenv]; rfl
  have cm : ∀ {y c}, cenv.cells.lookup y = some c → X.env.cells.lookup y = some c ∧ c < s.heap.objs.size := fun {y c} hm => by
    rw [hcl] at hm
    rcases cloFrom_mem (PySem.mem_of_lookup hm) with hm | ⟨h1, rfl⟩
    · cases hm
    · obtain ⟨c, hc⟩ := hfree _ h1 rfl
      rw [hc]
      obtain ⟨w, z⟩ := I.cell _ _ hc
      exact ⟨rfl, z.lt⟩
  have look : ∀ {y}, scope.names.lookup y = some .free → ∃ c, cenv.cells.lookup y = some c ∧ X.env.cells.lookup y = some c := fun {y} hl => by
    have hy : (y, NameKind.free) ∈ scope.names := PySem.mem_of_lookup hl
    obtain ⟨c', e'⟩ := mem_lookup (cloFrom_has (cells := X.env.cells) (acc := []) hy)
    rw [← hcl] at e'
    exact ⟨c', e', (cm e').1⟩
  have okB : (gx X B s H cenv fp).Ok := by
    refine ⟨I.ok.mod, by show cenv.scope.kind = _; rw [hsc]; exact ok.kind, by show cenv.globals = _; rw [← hcenv]; exact I.ok.glob, by show cenv.builtins = _; rw [← hcenv]; rfl, by show s.heap.objs.size ≤ cenv.locals; rw [hL]; exact Nat.le_refl _,
      fun y z c e1 e2 => I.ok.inj y z c (cm e1).1 (cm e2).1, fun y hy => ?_, fun y c z e => absurd z Bool.false_ne_true, fun _ => hBh, hBf, .inr ⟨rfl, by show cenv.frame = some cenv.locals; rw [← hcenv]; rfl⟩, fun b hb => ⟨?_, fun y c e z => ?_⟩, I.bs, Nat.le_trans I.ok.bsz I.sz, fun b o e hb => ?_, fun b hb z => ?_, I.stack, I.stkFree⟩
    · show ∃ c, cenv.cells.lookup y = some c
      have hk : scope.names.lookup y = some .cell ∨ scope.names.lookup y = some .free := by
        unfold Env.kindOf at hy
        rw [← hsc]; exact hy
      rcases hk with e | e
      · exact absurd rfl (nocell _ (PySem.mem_of_lookup e))
      · obtain ⟨c, h1, _⟩ := look e
        exact ⟨c, h1⟩
    · show b ≠ cenv.locals
      rw [hL]; exact Nat.ne_of_lt (hfp b hb).2
    · exact (hfp b hb).1.2.2.2.2.1 y c (cm e).1 z
    · rcases (hfp b hb).1.2.2.2.1 with z | z
      · exact I.ok.noex b o e z
      · exact absurd (Nat.lt_of_lt_of_le (Heap.lt_size e) (Nat.le_trans I.ok.bsz z)) (Nat.lt_irrefl _)
    · rcases List.mem_cons.mp (I.stkSub b z) with z | z
      · exact (hfp b hb).1.2.1 z
      · exact (hfp b hb).1.2.2.1 z
  refine ⟨okB, hos, hb, Un.kept kp, ⟨m, ?_, fun i y av e1 e2 e3 => ?_⟩, fun y c e => ?_, ?_, fun y c e => ?_, fun p hp => absurd (show p ∈ ([] : List (Addr × Obj)) from hp) (by simp), I.hok.kept kp, by rw [wipe_length]; exact I.len⟩
  · show Heap.Ns _ cenv.locals _
    rw [hL]; exact hns
  · obtain ⟨e2, hne⟩ := wipe_some e2
    have no : ∀ k, scope.names.lookup y = some k → ¬ (k = .local ∨ k = .cell) := fun k e hh => by
      rcases ok.own _ (PySem.mem_of_lookup e) hh with e' | e'
      · obtain ⟨p, hp, hpy⟩ := List.mem_map.mp e'
        have e3 := ok.ix p hp
        have : p.1 = y := hpy
        rw [this] at e3
        exact hne (List.mem_map.mpr ⟨p, hp, nodup_ix hN e3 e1⟩)
      · exact e' (List.mem_of_getElem? e1)
    have e3 : Vis cenv.scope y := e3
    rw [hsc] at e3
    have hfr : scope.names.lookup y = some .free := by
      rcases e3 with e3 | e3 | e3
      · exact absurd (.inl rfl) (no _ e3)
      · exact absurd (.inr rfl) (no _ e3)
      · exact e3
    obtain ⟨m', hn, hl⟩ := I.loc
    have hvis : Vis X.env.scope y := (ok.free _ (PySem.mem_of_lookup hfr) rfl).elim (fun k => .inr (.inl k)) (fun k => .inr (.inr k))
    obtain ⟨w, r, q⟩ := hl i y av e1 e2 hvis
    refine ⟨w, r, .inr ⟨.inr ?_, ?_⟩⟩
    · show cenv.kindOf y = _
      unfold Env.kindOf
      rw [hsc]; exact hfr
    obtain ⟨c, h1, h2⟩ := look hfr
    rcases q with ⟨k, _⟩ | ⟨_, c', e', z⟩
    · have k : X.env.scope.names.lookup y = some .local := k
      rcases ok.free _ (PySem.mem_of_lookup hfr) rfl with k' | k' <;> rw [show X.env.scope.names.lookup y = _ from k'] at k <;> cases k
    · rw [h2] at e'; cases e'
      exact ⟨c, h1, z.keeps kp⟩
  · obtain ⟨v, z⟩ := I.cell y c (cm e).1
    exact ⟨v, z.keeps kp⟩
  · show H cenv.locals = none
    rw [hL]; exact I.hok.fresh (Nat.le_refl _)
  · exact I.freeC y c (cm e).1
end
/-! ### the generator's turns -/
def KeptC (cs : List Addr) (s s' : Shared) : Prop := ∀ b ∈ cs, ∀ o, s.heap.get? b = some o → s'.heap.get? b = some o
theorem KeptC.trans {cs : List Addr} {s s' s'' : Shared} (x : KeptC cs s s') (y : KeptC cs s' s'') : KeptC cs s s'' := fun b hb o e => y b hb o (x b hb o e)
/-- while the generator sleeps: the objects of cs may be changed by who walks it -/
structure Slept (cs : List Addr) (s s' : Shared) : Prop where
  os : s'.os = s.os
  bare : AllBare s'.gens
  keep : ∀ b o, b ∉ cs → s.heap.get? b = some o → s'.heap.get? b = some o
  own : ∀ b ∈ cs, ∃ o, s'.heap.get? b = some o ∧ ∀ v, o.data ≠ .cell v
/-- who walks the generator: what it has gathered, by the state; what an item does to it; what is wanted at the end, and where it stops earlier -/
structure Walker (α : Type) where
  At : α → Shared → Prop
  Step : α → V → Hp → α → Prop
  QE : α → Hp → Prop
  QS : α → V → Hp → Prop
def RG {α : Type} (Z : Walker α) (XG : Cx) (σw : L2.St) (ca : List Addr) : GenEnd := fun _ s₀ r s₁ => r = .ok .next ∧ (KeptC ca s₀ s₁ ∧ ∃ a H, L2.Inv XG [] σw H s₁ ∧ Z.At a s₁ ∧ Z.QE a H)
def YG {α : Type} (Z : Walker α) (XG : Cx) (ca cs : List Addr) : Protocol := fun _ s₀ v s kap => KeptC ca s₀ s ∧ ∃ a H x σ2, L2.Inv XG [] σ2 H s ∧ RelV x v ∧ Z.At a s ∧ ((∃ a', Z.Step a x H a' ∧ ∀ s'', Slept cs s s'' → Z.At a' s'' → kap (.send .none) s'') ∨ Z.QS a x H)
/-- what the objects of the walker are in the generator's context -/
structure Apart (XG : Cx) (b : Addr) : Prop where
  loc : b ≠ XG.env.locals
  fs : b ∉ XG.fs
  new : XG.s_0.heap.objs.size ≤ b
  cell : ∀ x c, XG.env.cells.lookup x = some c → c ≠ b
def tTurn {α : Type} (Z : Walker α) (J : It) (g : TG) (tt : TT) (te : TE) (vs : List Nat) (σ : L2.St) (W : α → Nat → Nat → Hp → Prop) : Prop := ∀ a i m H, W a i m H →
  (J.stop i H ∧ Z.QE a H) ∨ (J.go i H ∧ ∃ Nx : α → Hp → Prop, (∀ a' H', Nx a' H' → ∃ m', m' < m ∧ W a' (i + 1) m' H') ∧ ∀ x H', J.yld i H x H' → g x (wipe σ vs) H' fun σ2 H2 => wipe σ2 vs = wipe σ vs ∧ tt σ2 H2 fun b H3 =>
    if b = true then te σ2 H3 fun y H4 => (∃ a', Z.Step a y H4 a' ∧ Nx a' H4) ∨ Z.QS a y H4 else Nx a H3)
section
variable {α : Type} {Z : Walker α} {X : Cx} {A : Around} {s3 : Shared} {H3 : Hp} {ce : Env} {fp : List Addr} {ca cs : List Addr} {elt tg iter : Expr} {ifs : List Expr} {scope : Scope} {pos : Pos} {it : Addr} {J : It} {tn : Nat → Heap → Prop} {g : TG} {tt : TT} {te : TE} {vs : List Nat} {σ : L2.St} {W : α → Nat → Nat → Hp → Prop}
theorem seg_gloop (hco : ce.scope.isCoroutine = false) (T : Turn X.prog X.w X.K tg J fp it tn) (pg : PG (gx X (A.deeper ce) s3 H3 ce fp) tg g) (pt : PTs (gx X (A.deeper ce) s3 H3 ce fp) ifs tt) (pe : PE (gx X (A.deeper ce) s3 H3 ce fp) elt te)
    (hca : ∀ b ∈ ca, Apart (gx X (A.deeper ce) s3 H3 ce fp) b ∧ b ∉ fp) (hcs : ∀ b ∈ cs, b ∈ ca) (hAt : ∀ a s s', KeptC ca s s' → Z.At a s → Z.At a s') (turn : tTurn Z J g tt te vs σ W) :
    ∀ (m n : Nat) (s₀ s : Shared) (a : α) (i : Nat) (H : Hp), m < n → W a i m H → L2.Inv (gx X (A.deeper ce) s3 H3 ce fp) [] (wipe σ vs) H s → tn i s.heap → (∀ b ∈ fp, H b = none) → (∀ b ∈ ca, H b = none ∧ ∃ o, s.heap.get? b = some o ∧ ∀ v, o.data ≠ .cell v) → Z.At a s → KeptC ca s₀ s →
      Seg (model X.prog X.w) A (RG Z (gx X (A.deeper ce) s3 H3 ce fp) (wipe σ vs) ca) (YG Z (gx X (A.deeper ce) s3 H3 ce fp) ca cs) n s₀ (.compLoop (.GeneratorExp elt [⟨tg, iter, ifs, 0⟩] scope pos) 0 (.ref it) .none ce)
        ((model X.prog X.w).den (.compLoop (.GeneratorExp elt [⟨tg, iter, ifs, 0⟩] scope pos) 0 (.ref it) .none ce)) [] s := by
  intro m
  induction m using Nat.strongRecOn with
  | _ m ih =>
  intro n s₀ s a i H hmn hW I st hfp hcn hat hkept
  have stat : ∀ {pins : List (Addr × Obj)} {σ' : L2.St} {H' : Hp} {s' : Shared}, L2.Inv (gx X (A.deeper ce) s3 H3 ce fp) pins σ' H' s' → (∀ b ∈ fp, H' b = none) → (∀ p ∈ pins, p.1 ∈ ca) → ∀ b ∈ fp, FpOk (gx X (A.deeper ce) s3 H3 ce fp) pins H' b := fun {pins σ' H' s'} I' hn hp b hb =>
    ⟨hn b hb, (I'.ok.exf b hb).1, I'.ok.exfs b hb, .inl hb, fun x c e => (I'.ok.exf b hb).2 x c e, fun p hpp z => by
      have hpp : p ∈ pins := by simpa using hpp
      exact (hca p.1 (hp p hpp)).2 (z ▸ hb)⟩
  have fpA : ∀ b ∈ ca, FpOk (gx X (A.deeper ce) s3 H3 ce fp) [] H b := fun b hb => by
    obtain ⟨h1, h2⟩ := hca b hb
    exact ⟨(hcn b hb).1, h1.loc, h1.fs, .inr h1.new, h1.cell, fun p hp => absurd (show p ∈ ([] : List (Addr × Obj)) from hp) (by simp)⟩
  have I0 := I.pinned fpA fun b hb => (hcn b hb).2
  have inca : ∀ p ∈ [] ++ pinsAt ca s.heap, p.1 ∈ ca := fun p hp => by
    rcases List.mem_append.mp hp with z | z
    · cases z
    · exact (of_pinsAt z).1
  have kept : ∀ {pl : List (Addr × Obj)} {σ' : L2.St} {H' : Hp} {s' : Shared}, L2.Inv (gx X (A.deeper ce) s3 H3 ce fp) (([] ++ pinsAt ca s.heap) ++ pl) σ' H' s' → KeptC ca s s' ∧ ∀ b ∈ ca, H' b = none ∧ ∃ o, s'.heap.get? b = some o ∧ ∀ v, o.data ≠ .cell v := fun {pl σ' H' s'} I' => by
    have q : ∀ b ∈ ca, ∀ o, s.heap.get? b = some o → s'.heap.get? b = some o ∧ H' b = none := fun b hb o e => by
      have z := I'.pin (b, o) (List.mem_append_right _ (List.mem_append_left _ (List.mem_append_right _ (mem_pinsAt hb e))))
      exact ⟨z.1, z.2.1⟩
    refine ⟨fun b hb o e => (q b hb o e).1, fun b hb => ?_⟩
    obtain ⟨_, o, e, d⟩ := hcn b hb
    exact ⟨(q b hb o e).2, o, (q b hb o e).1, d⟩
  show Seg _ A _ _ _ s₀ _ ((compTurn (.GeneratorExp elt [⟨tg, iter, ifs, 0⟩] scope pos) 0 (.ref it) .none ce).onRaise (leaving ce)) [] s
  rw [compTurn_gen, Sem.onRaise_eq_wrap]
  refine seg_bind_wrap (wpAny_standAt ?_)
  rcases turn a i m H hW with ⟨stop, qq⟩ | ⟨go, Nx, hNx, step⟩
  · have td := T.done (gx X (A.deeper ce) s3 H3 ce fp) rfl rfl rfl rfl i _ s _ H (fun _ _ => False) I0 (stat I0 hfp inca) st stop
    refine seg_bind_wrap ?_
    rw [over_gen]
    refine thnF td fun r s6 ⟨hr, I6⟩ => ?_
    subst hr
    have k6 := kept (pl := []) (by simpa using I6)
    exact seg_end (.ok .next) ⟨rfl, hkept.trans k6.1, a, H, by simpa using (I6.unpinned (pins := []) (pl := pinsAt ca s.heap)), hAt _ _ _ k6.1 hat, qq⟩
  · have ti := T.item (gx X (A.deeper ce) s3 H3 ce fp) rfl rfl rfl rfl i _ s _ H (fun _ _ => False) I0 (stat I0 hfp inca) st go
    refine seg_bind_wrap ?_
    rw [over_gen]
    refine thnF ti fun r s6 ⟨u, hr, h6⟩ => ?_
    subst hr
    refine seg_bind_wrap ?_
    rw [over_gen]
    refine thnF h6 fun _ s7 ⟨x, H7, I7, r7, y7, st7, n7⟩ => ?_
    have I7' := I7.pinned (stat I7 n7 inca) (T.obj _ _ st7)
    refine seg_bind_wrap ?_
    rw [over_gen]
    refine thnF (pg.run _ s7 _ H7 x u _ I7' r7 (step x H7 y7)) fun _ s8 ⟨σ8, H8, I8, hw8, q8⟩ => ?_
    refine seg_bind_wrap ?_
    rw [over_gen]
    refine thnF (pt.run _ s8 σ8 H8 _ I8 q8) fun b s9 ⟨H9, I9, q9⟩ => ?_
    have hl : (wipe σ vs).length = σ8.length := by rw [← hw8, wipe_length]
    -- behind the turn
    have fin : ∀ {s' : Shared} {H' : Hp}, L2.Inv (gx X (A.deeper ce) s3 H3 ce fp) (([] ++ pinsAt ca s.heap) ++ pinsAt fp s7.heap) σ8 H' s' → L2.Inv (gx X (A.deeper ce) s3 H3 ce fp) [] (wipe σ vs) H' s' ∧ tn (i + 1) s'.heap ∧ (∀ b ∈ fp, H' b = none) := fun {s' H'} I' => by
      have pin' : ∀ b ∈ fp, ∀ o, s7.heap.get? b = some o → s'.heap.get? b = some o ∧ H' b = none := fun b hb o e =>
        let z := I'.pin (b, o) (List.mem_append_right _ (List.mem_append_right _ (mem_pinsAt hb e)))
        ⟨z.1, z.2.1⟩
      refine ⟨((I'.unpinned (pins := [] ++ pinsAt ca s.heap)).unpinned (pins := [])).weak hl (fun j v e => ?_), T.keep _ _ _ st7 fun b hb o e => (pin' b hb o e).1, fun b hb => ?_⟩
      · rw [← hw8] at e
        exact (wipe_some e).1
      · obtain ⟨o, e, _⟩ := T.obj _ _ st7 b hb
        exact (pin' b hb o e).2
    cases b with
    | false =>
      simp only [Bool.false_eq_true, if_false] at q9 ⊢
      obtain ⟨m', hm', w'⟩ := hNx _ _ q9
      obtain ⟨f1, f2, f3⟩ := fin I9
      obtain ⟨k1, k2⟩ := kept I9
      exact seg_again rfl (ih m' hm' n s₀ _ a (i + 1) H9 (by omega) w' f1 f2 f3 k2 (hAt _ _ _ k1 hat) (hkept.trans k1))
    | true =>
      simp only [if_true] at q9 ⊢
      have hy : ∀ v, yieldOut ce v = yieldValue v := fun v => by simp only [yieldOut, hco, Bool.false_eq_true, if_false]
      simp only [hy]
      rw [Sem.bind_eq_wrap', Sem.bind_eq_wrap', Sem.wrap_wrap, Sem.wrap_wrap]
      refine seg_wrap ?_
      rw [over_gen]
      refine thnF (pe.run _ s9 σ8 H9 _ I9 q9) fun z s10 ⟨yv, H10, I10, r10, yp⟩ => ?_
      obtain ⟨f1, f2, f3⟩ := fin I10
      obtain ⟨k1, k2⟩ := kept I10
      obtain ⟨n', rfl⟩ : ∃ n', n = n' + 1 := ⟨n - 1, by omega⟩
      refine seg_at (seg_yield rfl rfl rfl ⟨hkept.trans k1, a, H10, yv, _, f1, r10, hAt _ _ _ k1 hat, ?_⟩)
      rcases yp with ⟨a', hs, nx⟩ | qs
      · refine .inl ⟨a', hs, fun s'' sl hat' => ?_⟩
        obtain ⟨m', hm', w'⟩ := hNx _ _ nx
        have I11 : L2.Inv (gx X (A.deeper ce) s3 H3 ce fp) [] (wipe σ vs) H10 s'' := by
          have e1 := f1.turnedL (t' := s''.toks) (h' := s''.heap) (ch := cs) sl.keep fun b hb => by
            obtain ⟨h1, h2⟩ := hca b (hcs b hb)
            exact ⟨(k2 b (hcs b hb)).1, h1.loc, h1.fs, .inr h1.new, h1.cell, fun p hp => absurd (show p ∈ ([] : List (Addr × Obj)) from hp) (by simp)⟩
          exact e1.call' (ch := []) sl.os (Un.kept fun _ _ e => e) e1.hok sl.bare fun b hb => absurd hb (by simp)
        refine seg_again rfl (ih m' hm' n' s'' s'' a' (i + 1) H10 (by omega) w' I11 (T.keep _ _ _ f2 fun b hb o e => sl.keep b o (fun z => (hca b (hcs b z)).2 hb) e) f3 (fun b hb => ?_) hat' fun b hb o e => e)
        by_cases hbc : b ∈ cs
        · exact ⟨(k2 b hb).1, sl.own b hbc⟩
        · obtain ⟨q1, o, q2, q3⟩ := k2 b hb
          exact ⟨q1, o, sl.keep b o hbc q2, q3⟩
      · exact .inr qs
end
end J

set_option maxHeartbeats 1000000
/-! J: generator expressions: the start, one item, all, any. -/
namespace J
open PySem PySem.Spec PyProof.Rows L2 GxR
theorem allBare_set {s : Shared} {g : Nat} {x : GenState} (h : AllBare s.gens) (hx : x.bare = true) : AllBare (s.setGen g x).gens := by
  intro y hy
  obtain ⟨i, hi, rfl⟩ := Array.mem_iff_getElem.mp hy
  have hi' : i < s.gens.size := by simpa [Shared.setGen] using hi
  by_cases e : g = i
  · subst e
    simp [Shared.setGen, hx]
  · simp only [Shared.setGen]
    rw [Array.getElem_setIfInBounds_ne (by omega) (by omega)]
    exact h _ (Array.getElem_mem hi')
theorem getGen_set {s : Shared} {g : Nat} {x : GenState} (h : g < s.gens.size) : (s.setGen g x).gens[g]? = some x := by simp [Shared.setGen, h]
section
variable {α : Type} {Z : Walker α} {X : Cx} {A : Around} {s3 : Shared} {H3 : Hp} {ce : Env} {fp : List Addr} {ca cs : List Addr} {elt tg iter : Expr} {ifs : List Expr} {scope : Scope} {pos : Pos} {it : Addr} {J : It} {tn : Nat → Heap → Prop} {g : TG} {tt : TT} {te : TE} {vs : List Nat} {σ : L2.St} {W : α → Nat → Nat → Hp → Prop}
theorem seg_gstart (hco : ce.scope.isCoroutine = false) (T : Turn X.prog X.w X.K tg J fp it tn) (pg : PG (gx X (A.deeper ce) s3 H3 ce fp) tg g) (pt : PTs (gx X (A.deeper ce) s3 H3 ce fp) ifs tt) (pe : PE (gx X (A.deeper ce) s3 H3 ce fp) elt te)
    (hca : ∀ b ∈ ca, Apart (gx X (A.deeper ce) s3 H3 ce fp) b ∧ b ∉ fp) (hcs : ∀ b ∈ cs, b ∈ ca) (hAt : ∀ a s s', KeptC ca s s' → Z.At a s → Z.At a s') (turn : tTurn Z J g tt te vs σ W)
    {m n : Nat} {s : Shared} {a : α} {H : Hp} (hmn : m < n) (hW : W a 0 m H) (I : L2.Inv (gx X (A.deeper ce) s3 H3 ce fp) [] (wipe σ vs) H s) (st : tn 0 s.heap) (hfp : ∀ b ∈ fp, H b = none) (hcn : ∀ b ∈ ca, H b = none ∧ ∃ o, s.heap.get? b = some o ∧ ∀ v, o.data ≠ .cell v) (hat : Z.At a s) :
      Seg (model X.prog X.w) A (RG Z (gx X (A.deeper ce) s3 H3 ce fp) (wipe σ vs) ca) (YG Z (gx X (A.deeper ce) s3 H3 ce fp) ca cs) n s (.compStart (.GeneratorExp elt [⟨tg, iter, ifs, 0⟩] scope pos) 0 (.ref it) .none ce)
        ((model X.prog X.w).den (.compStart (.GeneratorExp elt [⟨tg, iter, ifs, 0⟩] scope pos) 0 (.ref it) .none ce)) [] s := by
  have loop := seg_gloop (iter := iter) (scope := scope) (pos := pos) hco T pg pt pe hca hcs hAt turn m n s s a 0 H hmn hW I st hfp hcn hat fun b hb o e => e
  show Seg _ A _ _ _ s _ ((compStart (.GeneratorExp elt [⟨tg, iter, ifs, 0⟩] scope pos) 0 (.ref it) .none ce).onRaise (leaving ce)) [] s
  unfold compStart
  rw [Sem.onRaise_eq_wrap]
  show Seg _ A _ _ _ s _ ((ask >>= _).wrap _ _ _ _) [] s
  refine seg_bind_wrap (wpAny_askSetting ?_)
  split
  · exact seg_again rfl loop
  · first
      | exact seg_bind_wrap (wpAny_rule (seg_bind_wrap (wpAny_standAt (seg_bind_wrap (T.self _ 0 s _ _ st (seg_again rfl loop))))))
      | (refine seg_bind_wrap (wpAny_rule ?_); show Seg _ A _ _ _ s _ ((standAt iter.pos >>= _).wrap _ _ _ _) [] s; exact seg_bind_wrap (wpAny_standAt (seg_bind_wrap (T.self _ 0 s _ _ st (seg_again rfl loop)))))
end
section
variable {α : Type} {Z : Walker α} {XG : Cx} {A : Around} {ca cs : List Addr} {σw : L2.St} {P : Program} {w : World}
/-- the generator at a sleeps, or has not begun; n: a bound of its items -/
structure GSus (Z : Walker α) (XG : Cx) (A : Around) (σw : L2.St) (ca cs : List Addr) (a : Addr) (g n : Nat) (x : α) (s : Shared) : Prop where
  gen : s.heap.IsGen a g
  lim : s.heap.NoLimit
  bare : AllBare s.gens
  at_ : Z.At x s
  goes : ∃ gs, s.gens[g]? = some gs ∧ ∀ s'', s''.heap = s.heap → s''.os = s.os → AllBare s''.gens → gs.Goes (model XG.prog XG.w) A (RG Z XG σw ca) (YG Z XG ca cs) n (.send .none) s''
/-- what the next item tells -/
def GTold (Z : Walker α) (XG : Cx) (A : Around) (σw : L2.St) (ca cs : List Addr) (a : Addr) (g n : Nat) (x : α) (s : Shared) (r : Option Value) (s' : Shared) : Prop := KeptC ca s s' ∧ match r with
  | none => ∃ H, L2.Inv XG [] σw H s' ∧ Z.At x s' ∧ Z.QE x H
  | some v => ∃ H y σ2, L2.Inv XG [] σ2 H s' ∧ RelV y v ∧ Z.At x s' ∧ ((∃ x', Z.Step x y H x' ∧ ∀ s'', Slept cs s' s'' → s''.gens = s'.gens → Z.At x' s'' → ∃ n', n = n' + 1 ∧ GSus Z XG A σw ca cs a g n' x' s'') ∨ Z.QS x y H)
theorem gnext {a : Addr} {g n : Nat} {x : α} {s : Shared} {Q : Option Value → Shared → Prop} {E : Value → Shared → Prop} (hh : A.handled = none) (hroom : A.depth < recursionLimit) (hac : a ∈ ca) (hacs : a ∉ cs) (hcC : cStatics ∉ cs) (hfun : ∀ x x' s, Z.At x s → Z.At x' s → x = x') (hAt : ∀ a s s', KeptC ca s s' → Z.At a s → Z.At a s')
    (G : GSus Z XG A.in1 σw ca cs a g n x s) (hQ : ∀ r s', GTold Z XG A.in1 σw ca cs a g n x s r s' → Q r s') : wpAny (model XG.prog XG.w) A (pyNext (.ref a)) Q E s := by
  obtain ⟨hg, hl, hb, hat, gs, hgs, hgo⟩ := G
  have hlt : g < s.gens.size := by
    rcases Nat.lt_or_ge g s.gens.size with h | h
    · exact h
    · rw [Array.getElem?_eq_none h] at hgs; cases hgs
  refine GenW.wpAny_gsz (n := g + 1) hlt ?_
  refine wpAny_pyNext_genexpQ (P := fun _ s₀ s₁ => KeptC ca s₀ s₁ ∧ ∃ a H, L2.Inv XG [] σw H s₁ ∧ Z.At a s₁ ∧ Z.QE a H) (Y := YG Z XG ca cs) (n := n) hh hl hroom hg hgs (hgo _ rfl rfl (allBare_set hb rfl)) (fun v s₁ gs' hbr hv => ?_) (fun s₁ hp h' hk => ?_)
  · intro hsz
    obtain ⟨kp, x1, H, y, σ2, I, r, at1, rest⟩ := hv
    have kp : KeptC ca s s₁ := kp
    have := hfun _ _ _ at1 (hAt _ _ _ kp hat)
    subst this
    have hsz : g < s₁.gens.size := by
      have : g + 1 ≤ (s₁.setGen g gs').gens.size := hsz
      rw [GenW.setGen_size] at this; exact this
    have I2 : L2.Inv XG [] σ2 H (s₁.setGen g gs') := I.call' (ch := []) rfl (Un.kept fun _ _ e => e) I.hok (allBare_set I.bare hbr) fun b hb => absurd hb (by simp)
    have kp2 : KeptC ca s (s₁.setGen g gs') := kp
    refine hQ _ _ ⟨kp2, H, y, σ2, I2, r, hAt _ _ _ kp2 hat, ?_⟩
    rcases rest with ⟨x', hs, cont⟩ | qs
    · refine .inl ⟨x', hs, fun s'' sl eg at' => ?_⟩
      cases n with
      | zero =>
        exact (cont s'' ⟨sl.os, sl.bare, sl.keep, sl.own⟩ at').elim
      | succ n' =>
        refine ⟨n', rfl, ?_, ?_, sl.bare, at', gs', by rw [eg]; exact getGen_set hsz, fun s3 e1 e2 e3 => ?_⟩
        · obtain ⟨o, nm, qn, ho, r⟩ := hg
          exact ⟨o, nm, qn, sl.keep a o hacs (kp2 a hac o ho), r⟩
        · obtain ⟨mc, hns, hnn⟩ := I2.nolimit
          exact ⟨mc, hns.at' fun o e => sl.keep cStatics o hcC e, hnn⟩
        · refine cont s3 ⟨e2.trans sl.os, e3, fun b o hb e => by rw [e1]; exact sl.keep b o hb e, fun b hb => by rw [e1]; exact sl.own b hb⟩ ?_
          exact hAt _ _ _ (fun b hb o e => by rw [e1]; exact e) at'
    · exact .inr qs
  · intro hsz
    obtain ⟨kp, x1, H, I, at1, qe⟩ := hp
    have kp : KeptC ca s s₁ := kp
    have := hfun _ _ _ at1 (hAt _ _ _ kp hat)
    subst this
    have kp2 : KeptC ca s { s₁.setGen g .finished with heap := h' } := fun b hb o e => hk b o (kp b hb o e)
    exact hQ _ _ ⟨kp2, H, I.call' (ch := []) rfl (Un.kept hk) (I.hok.kept hk) (allBare_set (s := s₁) I.bare rfl) fun b hb => absurd hb (by simp), hAt _ _ _ kp2 hat, qe⟩
end
/-! ### all, any -/
/-- the truth of what all and any meet -/
def TrB (K : PySem.W.Frag) (y : V) (H : Hp) (k : Bool) : Prop := match y with
  | .non => k = false
  | .bl b => k = b
  | .ref p => (∃ xs, SqL K H p xs ∧ k = !xs.isEmpty) ∨ ∃ xs, SqT K H p xs ∧ k = !xs.isEmpty
  | _ => False
theorem tr_any {X : Cx} {pins : List (Addr × Obj)} {σ : L2.St} {H : Hp} {s : Shared} {y : V} {v : Value} {k : Bool} {A : Around} {Q : Bool → Shared → Prop} {E : Value → Shared → Prop} (I : L2.Inv X pins σ H s) (r : RelV y v) (e : TrB X.K y H k) (hQ : ∀ t, Q k { s with toks := t }) : wpAny (model X.prog X.w) A (truthy v) Q E s := by
  have hl := line63
  cases y with
  | non => cases r; obtain rfl : k = false := e; exact truthy_none (hQ s.toks)
  | bl b => cases r; obtain rfl : k = b := e; exact wpAny_truthy_bool (hQ s.toks)
  | ref p =>
    cases r
    rcases e with ⟨xs, hx, rfl⟩ | ⟨xs, hx, rfl⟩
    · obtain ⟨its, rv, pl, hz⟩ := I.list hx
      have hlen := rv.length
      exact wpAny_truthy_list pl.isList (by simp only [List.size_toArray]; omega) (by rw [isEmpty_of rv]; exact hQ _)
    · obtain ⟨its, rv, pl, hz⟩ := I.tuple hx
      have hlen := rv.length
      exact truthy_tuple pl (by simp only [List.size_toArray]; omega) (by rw [isEmpty_of rv]; exact hQ _)
  | _ => exact False.elim e
def ZB (K : PySem.W.Frag) (b : Bool) (QE QS : Hp → Prop) : Walker Unit := ⟨fun _ _ => True, fun _ y H _ => TrB K y H b, fun _ H => QE H, fun _ y H => TrB K y H (!b) ∧ QS H⟩
section
variable {XG : Cx} {A : Around} {a : Addr} {g : Nat} {σw : L2.St} {QE QS : Hp → Prop} {R : Result → Shared → Prop}
theorem slept_tok {s : Shared} {t : Nat} (h : AllBare s.gens) : Slept [] s { s with toks := t } := ⟨rfl, h, fun _ _ _ e => e, fun b hb => absurd hb (by simp)⟩
theorem slept_refl {s : Shared} (h : AllBare s.gens) : Slept [] s s := ⟨rfl, h, fun _ _ _ e => e, fun b hb => absurd hb (by simp)⟩
theorem all_loopG (hh : A.handled = none) (hroom : A.depth < recursionLimit) (hE : ∀ H s', L2.Inv XG [] σw H s' → QE H → R (.ok (.ret (.bool true))) s') (hS : ∀ H σ2 s', L2.Inv XG [] σ2 H s' → QS H → R (.ok (.ret (.bool false))) s') :
    ∀ (n : Nat) (s : Shared), GSus (ZB XG.K true QE QS) XG A.in1.in1 σw [a] [] a g n () s → codeAny (model XG.prog XG.w) A (.builtin "all.loop" ⟨[.ref a], []⟩) R s := by
  intro n
  induction n with
  | zero =>
    intro s G
    refine codeAny_builtin F.entry_all_loop ?_
    rw [Around.under_plainId F.plain_all_loop _]
    show wpAny _ A.in1 (pyNext (.ref a) >>= _) _ _ s
    refine wpAny_bind (gnext (A := A.in1) hh hroom (by simp) (by simp) (by simp) (fun _ _ _ _ _ => rfl) (fun _ _ _ _ _ => trivial) G fun r s' t => ?_)
    obtain ⟨kp, t⟩ := t
    cases r with
    | none =>
      obtain ⟨H, I, _, q⟩ := t
      exact wpAny_bind (wpAny_rule (wpAny_pure (hE H s' I q)))
    | some v =>
      obtain ⟨H, y, σ2, I, r, _, t⟩ := t
      rcases t with ⟨x', hs, cont⟩ | ⟨tr, q⟩
      · obtain ⟨n', e, _⟩ := cont s' (slept_refl I.bare) rfl trivial
        omega
      · refine wpAny_bind (wpAny_holding (tr_any I r tr fun t => ?_))
        refine wpAny_bind (wpAny_letGo ?_)
        simp only [Bool.not_true, Bool.false_eq_true, if_false]
        exact wpAny_bind (wpAny_rule (wpAny_pure (hS H σ2 _ (I.tok _) q)))
  | succ n ih =>
    intro s G
    refine codeAny_builtin F.entry_all_loop ?_
    rw [Around.under_plainId F.plain_all_loop _]
    show wpAny _ A.in1 (pyNext (.ref a) >>= _) _ _ s
    refine wpAny_bind (gnext (A := A.in1) hh hroom (by simp) (by simp) (by simp) (fun _ _ _ _ _ => rfl) (fun _ _ _ _ _ => trivial) G fun r s' t => ?_)
    obtain ⟨kp, t⟩ := t
    cases r with
    | none =>
      obtain ⟨H, I, _, q⟩ := t
      exact wpAny_bind (wpAny_rule (wpAny_pure (hE H s' I q)))
    | some v =>
      obtain ⟨H, y, σ2, I, r, _, t⟩ := t
      rcases t with ⟨x', hs, cont⟩ | ⟨tr, q⟩
      · refine wpAny_bind (wpAny_holding (tr_any I r hs fun t => ?_))
        obtain ⟨n', e, G'⟩ := cont { s' with toks := t } (slept_tok I.bare) rfl trivial
        have e' : n = n' := by omega
        subst e'
        refine wpAny_bind (wpAny_letGo ?_)
        simp only [if_true]
        exact wpAny_pure ⟨plainId_quiet F.plain_all_loop _, ih _ G'⟩
      · refine wpAny_bind (wpAny_holding (tr_any I r tr fun t => ?_))
        refine wpAny_bind (wpAny_letGo ?_)
        simp only [Bool.not_true, Bool.false_eq_true, if_false]
        exact wpAny_bind (wpAny_rule (wpAny_pure (hS H σ2 _ (I.tok _) q)))
theorem any_loopG (hh : A.handled = none) (hroom : A.depth < recursionLimit) (hE : ∀ H s', L2.Inv XG [] σw H s' → QE H → R (.ok (.ret (.bool false))) s') (hS : ∀ H σ2 s', L2.Inv XG [] σ2 H s' → QS H → R (.ok (.ret (.bool true))) s') :
    ∀ (n : Nat) (s : Shared), GSus (ZB XG.K false QE QS) XG A.in1.in1 σw [a] [] a g n () s → codeAny (model XG.prog XG.w) A (.builtin "any.loop" ⟨[.ref a], []⟩) R s := by
  intro n
  induction n with
  | zero =>
    intro s G
    refine codeAny_builtin F.entry_any_loop ?_
    rw [Around.under_plainId F.plain_any_loop _]
    show wpAny _ A.in1 (pyNext (.ref a) >>= _) _ _ s
    refine wpAny_bind (gnext (A := A.in1) hh hroom (by simp) (by simp) (by simp) (fun _ _ _ _ _ => rfl) (fun _ _ _ _ _ => trivial) G fun r s' t => ?_)
    obtain ⟨kp, t⟩ := t
    cases r with
    | none =>
      obtain ⟨H, I, _, q⟩ := t
      exact wpAny_bind (wpAny_rule (wpAny_pure (hE H s' I q)))
    | some v =>
      obtain ⟨H, y, σ2, I, r, _, t⟩ := t
      rcases t with ⟨x', hs, cont⟩ | ⟨tr, q⟩
      · obtain ⟨n', e, _⟩ := cont s' (slept_refl I.bare) rfl trivial
        omega
      · refine wpAny_bind (wpAny_holding (tr_any I r tr fun t => ?_))
        refine wpAny_bind (wpAny_letGo ?_)
        simp only [Bool.not_false, if_true]
        exact wpAny_bind (wpAny_rule (wpAny_pure (hS H σ2 _ (I.tok _) q)))
  | succ n ih =>
    intro s G
    refine codeAny_builtin F.entry_any_loop ?_
    rw [Around.under_plainId F.plain_any_loop _]
    show wpAny _ A.in1 (pyNext (.ref a) >>= _) _ _ s
    refine wpAny_bind (gnext (A := A.in1) hh hroom (by simp) (by simp) (by simp) (fun _ _ _ _ _ => rfl) (fun _ _ _ _ _ => trivial) G fun r s' t => ?_)
    obtain ⟨kp, t⟩ := t
    cases r with
    | none =>
      obtain ⟨H, I, _, q⟩ := t
      exact wpAny_bind (wpAny_rule (wpAny_pure (hE H s' I q)))
    | some v =>
      obtain ⟨H, y, σ2, I, r, _, t⟩ := t
      rcases t with ⟨x', hs, cont⟩ | ⟨tr, q⟩
      · refine wpAny_bind (wpAny_holding (tr_any I r hs fun t => ?_))
        obtain ⟨n', e, G'⟩ := cont { s' with toks := t } (slept_tok I.bare) rfl trivial
        have e' : n = n' := by omega
        subst e'
        refine wpAny_bind (wpAny_letGo ?_)
        simp only [Bool.not_true, Bool.false_eq_true, if_false]
        exact wpAny_pure ⟨plainId_quiet F.plain_any_loop _, ih _ G'⟩
      · refine wpAny_bind (wpAny_holding (tr_any I r tr fun t => ?_))
        refine wpAny_bind (wpAny_letGo ?_)
        simp only [Bool.not_false, if_true]
        exact wpAny_bind (wpAny_rule (wpAny_pure (hS H σ2 _ (I.tok _) q)))
end
/-! ### sum -/
def ZS (S : Addr) (QE : Int → Hp → Prop) : Walker Int := ⟨fun acc s => ∃ t c, s.heap.get? S = some { cls := .type "list", dict := none, data := .seq #[.int acc t] c, slots := #[] }, fun acc y _ acc' => ∃ j, y = .int j ∧ InLong j ∧ InLong (acc + j) ∧ acc' = acc + j, fun acc H => QE acc H, fun _ _ _ => False⟩
section
variable {XG : Cx} {A : Around} {a S : Addr} {g : Nat} {σw : L2.St} {QE : Int → Hp → Prop} {R : Result → Shared → Prop}
theorem zs_fun {x x' : Int} {s : Shared} (h : (ZS S QE).At x s) (h' : (ZS S QE).At x' s) : x = x' := by
  obtain ⟨t, c, e⟩ := h
  obtain ⟨t', c', e'⟩ := h'
  rw [e] at e'
  simp only [Option.some.injEq, Obj.mk.injEq, Data.seq.injEq, true_and, and_true] at e'
  have := e'.1
  simp only [Array.mk.injEq, List.cons.injEq, Value.int.injEq, and_true] at this
  exact this.1
theorem sum_loopG (hh : A.handled = none) (hroom : A.depth < recursionLimit) (haS : a ≠ S) (hcS : cStatics ≠ S) (hE : ∀ acc t H s', L2.Inv XG [] σw H s' → QE acc H → R (.ok (.ret (.int acc t))) s') :
    ∀ (n : Nat) (acc : Int) (s : Shared), GSus (ZS S QE) XG A.in1.in1 σw [a, S] [S] a g n acc s → codeAny (model XG.prog XG.w) A (.builtin "sum.loop" ⟨[.ref a, .ref S, rawInt 0, rawInt 0], []⟩) R s := by
  intro n
  induction n with
  | zero =>
    intro acc s G
    obtain ⟨tA, c, hS⟩ := G.at_
    refine codeAny_builtin F.entry_sum_loop ?_
    rw [Around.under_plainId F.plain_sum_loop _]
    show wpAny _ A.in1 (seqItems? (.ref S) >>= _) _ _ s
    refine wpAny_bind (wpAny_seqItems hS rfl ?_)
    show wpAny _ A.in1 (tryCatch (pyNext (.ref a)) _ >>= _) _ _ s
    refine wpAny_bind (wpAny_tryCatch (gnext (A := A.in1) hh hroom (by simp) (by simpa using haS) (by simpa using hcS) (fun _ _ _ => zs_fun) (fun _ _ _ k ⟨t, c, e⟩ => ⟨t, c, k S (by simp) _ e⟩) G fun r s' t => ?_))
    obtain ⟨kp, t⟩ := t
    cases r with
    | none =>
      obtain ⟨H, I, _, q⟩ := t
      exact wpAny_pure (hE acc tA H s' I q)
    | some v =>
      obtain ⟨H, y, σ2, I, r, _, t⟩ := t
      rcases t with ⟨x', hs, cont⟩ | q
      · have hS' := kp S (by simp) _ hS
        obtain ⟨j, rfl, hj, hf, rfl⟩ := hs
        have hup := Heap.get?_update_self (fun o => { o with data := .seq #[.int (acc + j) 0] 0 }) hS' rfl
        obtain ⟨n', e, _⟩ := cont { s' with heap := s'.heap.update S (fun o => { o with data := .seq #[.int (acc + j) 0] 0 }) }
          ⟨rfl, I.bare, fun b o hb e => (Heap.get?_update_other _ _ (fun h : S = b => hb (by simp [h]))).trans e, fun b hb => by
            rw [List.mem_singleton.mp hb]; exact ⟨_, hup, fun v z => by cases z⟩⟩ rfl ⟨0, 0, hup⟩
        omega
      · exact q.elim
  | succ n ih =>
    intro acc s G
    obtain ⟨tA, c, hS⟩ := G.at_
    refine codeAny_builtin F.entry_sum_loop ?_
    rw [Around.under_plainId F.plain_sum_loop _]
    show wpAny _ A.in1 (seqItems? (.ref S) >>= _) _ _ s
    refine wpAny_bind (wpAny_seqItems hS rfl ?_)
    show wpAny _ A.in1 (tryCatch (pyNext (.ref a)) _ >>= _) _ _ s
    refine wpAny_bind (wpAny_tryCatch (gnext (A := A.in1) hh hroom (by simp) (by simpa using haS) (by simpa using hcS) (fun _ _ _ => zs_fun) (fun _ _ _ k ⟨t, c, e⟩ => ⟨t, c, k S (by simp) _ e⟩) G fun r s' t => ?_))
    obtain ⟨kp, t⟩ := t
    cases r with
    | none =>
      obtain ⟨H, I, _, q⟩ := t
      exact wpAny_pure (hE acc tA H s' I q)
    | some v =>
      obtain ⟨H, y, σ2, I, r, _, t⟩ := t
      rcases t with ⟨x', hs, cont⟩ | q
      · have hS' := kp S (by simp) _ hS
        obtain ⟨j, rfl, ⟨f1, f2⟩, ⟨f3, f4⟩, rfl⟩ := hs
        obtain ⟨tv, rfl⟩ := r
        have hc : ((decide (-(2 ^ 63) ≤ j) && decide (j < 2 ^ 63)) && (decide (-(2 ^ 63) ≤ acc + j) && decide (acc + j < 2 ^ 63))) = true := by
          simp only [Bool.and_eq_true, decide_eq_true_eq]
          exact ⟨⟨f1, f2⟩, f3, f4⟩
        show wpAny _ A.in1 (if (_ : Bool) = true then (mkInt (acc + j) >>= _) else _) _ _ _
        split
        · refine wpAny_bind (wpAny_mkInt ?_)
          show wpAny _ A.in1 (updateSeq S (fun _ => #[.int (acc + j) s'.toks]) >>= _) _ _ _
          refine wpAny_bind ?_
          refine wpAny_updateSeq hS' rfl (wpAny_pure ⟨plainId_quiet F.plain_sum_loop _, ?_⟩)
          have key : ∀ s'' : Shared, Slept [S] s' s'' → s''.gens = s'.gens → (ZS S QE).At (acc + j) s'' → codeAny (model XG.prog XG.w) A (.builtin "sum.loop" ⟨[.ref a, .ref S, rawInt 0, rawInt 0], []⟩) R s'' := fun s'' sl eg at' => by
            obtain ⟨n', e, G'⟩ := cont s'' sl eg at'
            have e' : n = n' := by omega
            subst e'
            exact ih _ _ G'
          refine key _ ⟨rfl, I.bare, fun b o hb e => (Heap.get?_update_other _ _ (fun h : S = b => hb (by simp [h]))).trans e, fun b hb => ?_⟩ rfl ⟨_, _, Heap.get?_update_self _ hS' rfl⟩
          rw [List.mem_singleton.mp hb]
          exact ⟨_, Heap.get?_update_self _ hS' rfl, fun v z => by cases z⟩
        · rename_i hneg
          exact absurd hc hneg
      · exact q.elim
end
end J

set_option maxHeartbeats 1000000
/-! J: code objects and their tables; generator expressions: the making. -/
namespace J
open PySem PySem.Spec PyProof.Rows L2 GxR
/-! ### tables that grow -/
theorem among_more {pos p' : Pos} {c cv : Value} (l : List Value) (ok : TriplesOk l) : codeAmong p' (l ++ [rawInt pos.line, rawInt pos.col, c]) = some cv → codeAmong p' l = some cv ∨ (cv = c ∧ p'.line = pos.line ∧ p'.col = pos.col) := by
  fun_induction TriplesOk l with
  | case1 =>
    intro z
    simp only [List.nil_append, rawInt, codeAmong] at z
    split at z
    · rename_i q
      simp only [Bool.and_eq_true, beq_iff_eq] at q
      exact .inr ⟨(Option.some.inj z).symm, by omega, by omega⟩
    · cases z
  | case2 a t b u x rest ih =>
    intro z
    simp only [List.cons_append, codeAmong] at z ⊢
    by_cases q : (a == (p'.line : Int) && b == (p'.col : Int)) = true
    · rw [if_pos q] at z ⊢
      exact .inl z
    · rw [if_neg q] at z ⊢
      exact ih ok z
  | case3 l h1 h2 => exact ok.elim
theorem among_pre {p' : Pos} {cv : Value} {m : List Value} (l : List Value) : codeAmong p' l = some cv → codeAmong p' (l ++ m) = some cv := by
  fun_induction codeAmong p' l with
  | case1 a t b u x rest q =>
    intro z
    simp only [List.cons_append, codeAmong, q, if_true]
    exact z
  | case2 a t b u x rest q ih =>
    intro z
    simp only [List.cons_append, codeAmong, q]
    exact ih z
  | case3 l h => intro z; cases z
def CodeAt (H : Hp) (P : Addr) (pos : Pos) (code : Value) : Prop := ∃ ps : Array Value, H P = some (.tbl ps) ∧ codeAmong pos ps.toList = some code
/-- the code object of what stands at pos: told by the table at P, or new -/
def Grown (P : Addr) (pos : Pos) (q : Str) (code : Value) (H H' : Hp) : Prop :=
  (H' = H ∧ CodeAt H P pos code) ∨ ∃ (ps : Array Value) (c P1 : Addr), H P = some (.tbl ps) ∧ TriplesOk ps.toList ∧ codeAmong pos ps.toList = none ∧ H c = none ∧ H P1 = none ∧ c ≠ P1 ∧ code = .ref c ∧
    H' = upd (upd (upd H P (.tbl (ps ++ #[rawInt pos.line, rawInt pos.col, .ref c]))) c (CodeN c P1 q)) P1 (.tbl #[])
section
variable {P : Addr} {pos : Pos} {q : Str} {code : Value} {H H' : Hp}
theorem Grown.keep (g : Grown P pos q code H H') {b : Addr} {o : HO} (hb : b ≠ P) (e : H b = some o) : H' b = some o := by
  rcases g with ⟨rfl, _⟩ | ⟨ps, c, P1, _, _, _, n1, n2, _, _, rfl⟩
  · exact e
  · rw [upd_ne (ne_of_none e n2), upd_ne (ne_of_none e n1), upd_ne hb]; exact e
theorem Grown.at (g : Grown P pos q code H H') : CodeAt H' P pos code := by
  rcases g with ⟨rfl, h⟩ | ⟨ps, c, P1, hP, ht, hn, n1, n2, _, rfl, rfl⟩
  · exact h
  · refine ⟨ps ++ #[rawInt pos.line, rawInt pos.col, .ref c], by rw [upd_ne (ne_of_none hP n2), upd_ne (ne_of_none hP n1), upd_same], ?_⟩
    have e : (ps ++ #[rawInt pos.line, rawInt pos.col, .ref c]).toList = ps.toList ++ [rawInt pos.line, rawInt pos.col, .ref c] := by simp
    rw [e]
    exact codeAmong_snoc _ ht hn
theorem Grown.tab {nm : Nat → Nat → Str} (g : Grown P pos q code H H') (hq : q = nm pos.line pos.col) : ∀ {n : Nat} {Q : Addr}, TabD nm H n Q → TabD nm H' n Q := by
  rcases g with ⟨rfl, _⟩ | ⟨ps, c, P1, hP, ht, hn, n1, n2, n3, rfl, hH⟩
  · exact fun h => h
  subst hq
  have kp : ∀ {b : Addr} {o : HO}, b ≠ P → H b = some o → H' b = some o := fun {b o} hb e => by rw [hH, upd_ne (ne_of_none e n2), upd_ne (ne_of_none e n1), upd_ne hb]; exact e
  have aP : H' P = some (.tbl (ps ++ #[rawInt pos.line, rawInt pos.col, .ref c])) := by rw [hH, upd_ne (ne_of_none hP n2), upd_ne (ne_of_none hP n1), upd_same]
  have eL : (ps ++ #[rawInt pos.line, rawInt pos.col, .ref c]).toList = ps.toList ++ [rawInt pos.line, rawInt pos.col, .ref c] := by simp
  have tr : TriplesOk (ps ++ #[rawInt pos.line, rawInt pos.col, .ref c]).toList := by rw [eL]; exact TriplesOk_snoc _ _ _ _ ht
  have ac : H' c = some (CodeN c P1 (nm pos.line pos.col)) := by rw [hH, upd_ne n3, upd_same]
  have a1 : H' P1 = some (.tbl #[]) := by rw [hH, upd_same]
  intro n
  induction n with
  | zero =>
    rintro Q ⟨qs, e, t⟩
    by_cases z : Q = P
    · rw [z]; exact ⟨_, aP, tr⟩
    · exact ⟨qs, kp z e, t⟩
  | succ n ih =>
    rintro Q ⟨qs, e, t, r⟩
    have old : ∀ (p' : Pos) (cv : Value), codeAmong p' qs.toList = some cv → ∃ c2 P2, cv = .ref c2 ∧ H' c2 = some (CodeN c2 P2 (nm p'.line p'.col)) ∧ TabD nm H' n P2 := fun p' cv hc => by
      obtain ⟨c2, P2, e1, e2, e3⟩ := r p' cv hc
      refine ⟨c2, P2, e1, kp (fun z => ?_) e2, ih e3⟩
      rw [z, hP] at e2
      unfold CodeN at e2
      cases e2
    by_cases z : Q = P
    · subst z
      rw [hP] at e
      cases e
      refine ⟨_, aP, tr, fun p' cv hc => ?_⟩
      rw [eL] at hc
      rcases among_more _ ht hc with hc | ⟨rfl, l1, l2⟩
      · exact old p' cv hc
      · exact ⟨c, P1, rfl, by rw [l1, l2]; exact ac, TabD.nil a1 n⟩
    · exact ⟨qs, kp z e, t, old⟩
end
theorem TabD.less {nm : Nat → Nat → Str} {H : Hp} : ∀ {n : Nat} {P : Addr}, TabD nm H (n + 1) P → TabD nm H n P
  | 0, _, ⟨ps, e, t, _⟩ => ⟨ps, e, t⟩
  | n + 1, _, ⟨ps, e, t, r⟩ => ⟨ps, e, t, fun pos cv hc => by
    obtain ⟨c, P1, e1, e2, e3⟩ := r pos cv hc
    exact ⟨c, P1, e1, e2, TabD.less e3⟩⟩
/-! ### the model's side -/
section
variable {X : Cx} {pins : List (Addr × Obj)} {σ : L2.St} {H : Hp} {s : Shared}
theorem inv_grow {P c P1 : Addr} {q : Str} {ps more : Array Value} {h' : Heap} {t' : Nat} (I : L2.Inv X pins σ H s) (hP : H P = some (.tbl ps)) (k : ∀ b u, b ≠ P → s.heap.get? b = some u → h'.get? b = some u)
    (hm : h'.get? P = some { cls := .none, data := .fields (ps ++ more) }) (hc : s.heap.objs.size ≤ c) (h1 : s.heap.objs.size ≤ P1) (hne : c ≠ P1) (ho : PySem.W.CodeHd h' c P1 ∧ h'.CodeRec (.ref c) q) (ht : h'.get? P1 = some { cls := .none, data := .fields #[] }) :
    L2.Inv X pins σ (upd (upd (upd H P (.tbl (ps ++ more))) c (CodeN c P1 q)) P1 (.tbl #[])) { s with heap := h', toks := t' } := by
  have n0 : H c = none := I.hok.fresh hc
  have n1 : H P1 = none := I.hok.fresh h1
  generalize hH : upd (upd (upd H P (.tbl (ps ++ more))) c (CodeN c P1 q)) P1 (.tbl #[]) = H'
  have off : ∀ b, b ≠ P → b ≠ c → b ≠ P1 → H' b = H b := fun b z1 z2 z3 => by rw [← hH, upd_ne z3, upd_ne z2, upd_ne z1]
  have atP : H' P = some (.tbl (ps ++ more)) := by rw [← hH, upd_ne (ne_of_none hP n1), upd_ne (ne_of_none hP n0), upd_same]
  have atC : H' c = some (CodeN c P1 q) := by rw [← hH, upd_ne hne, upd_same]
  have at1 : H' P1 = some (.tbl #[]) := by rw [← hH, upd_same]
  have nP : ∀ b u, H b = some u → (∀ q, u ≠ .tbl q) → b ≠ P := fun b u e z w => by
    subst w
    rw [hP] at e
    exact z ps (Option.some.inj e).symm
  have nN : ∀ b, H b = none → b ≠ P := fun b e w => by
    subst w
    rw [hP] at e; cases e
  have lt : ∀ b u, s.heap.get? b = some u → b ≠ c ∧ b ≠ P1 := fun b u e => by
    have := Heap.lt_size e
    exact ⟨fun w => Nat.lt_irrefl _ (Nat.lt_of_lt_of_le (w ▸ this) hc), fun w => Nat.lt_irrefl _ (Nat.lt_of_lt_of_le (w ▸ this) h1)⟩
  have kp : ∀ b u, H b = some u → (∀ q, u ≠ .tbl q) → H' b = some u := fun b u e z => by
    rw [off b (nP b u e z) (ne_of_none e n0) (ne_of_none e n1)]; exact e
  refine I.step (g' := s.gens) (d' := s.drawn) (ch := []) (fun b hb => absurd hb (by simp)) (fun b u _ _ _ e n => k b u (nN b n) e) (fun b u _ _ _ e n => ⟨u.slots, k b u (nN b n) e⟩)
    (fun b u _ e n => by rw [off b (nN b n) (lt b u e).1 (lt b u e).2]; exact n) (fun b u _ e => ?_) (fun b xs e => kp b _ e fun _ z => by cases z) (fun b u v e => kp b _ e fun _ z => by cases z) (fun b qs e => ?_) (fun m hn => ?_) (fun b u e => ?_) I.bare
  · by_cases w : b = P
    · subst w; exact ⟨_, hm⟩
    · exact ⟨u, k b u w e⟩
  · by_cases w : b = P
    · subst w
      rw [hP] at e
      cases e
      exact ⟨more, atP⟩
    · exact ⟨#[], by rw [off b w (ne_of_none e n0) (ne_of_none e n1), e]; simp⟩
  · obtain ⟨ob, es, ep, ho, r⟩ := hn
    exact ⟨ob, es, ep, k _ ob (nN _ I.free) ho, r⟩
  · by_cases w1 : b = P1
    · subst w1
      rw [at1] at e
      cases e
      exact ht
    by_cases w2 : b = c
    · subst w2
      rw [atC] at e
      cases e
      obtain ⟨o1, vs, f1, tf, fl, tg, inF, tx, tt, d1, dr⟩ := id ho.1
      refine ⟨ho, ⟨o1, d1⟩, fun ha hb' hx st => ⟨?_, ?_⟩⟩
      · obtain ⟨o2, vs, f1, tf, fl, tg, inF, tx, tt, d1, dr⟩ := hx.1
        exact ⟨o2, vs, f1, tf, fl, tg, inF, tx, tt, st _ d1, dr⟩
      · obtain ⟨cc, oc, vs, t, d0, d1, dr⟩ := hx.2
        cases d0
        exact ⟨_, oc, vs, t, rfl, st _ d1, dr⟩
    by_cases w : b = P
    · subst w
      rw [atP] at e
      cases e
      exact hm
    · rw [off b w w2 w1] at e
      refine (I.hok b u e).stay (fun d v hd z => k d v ?_ z) (fun d z => kp d _ z fun _ y => by cases y) fun d xs z => kp d _ z fun _ y => by cases y
      rcases hd with z | z
      · rw [z]; exact w
      · exact nP d _ z fun _ y => by cases y
/-- where the running code's table lies -/
def TabC (X : Cx) (H : Hp) (c P : Addr) : Prop := TabB X.base X.mg c P ∨ ∃ q, H c = some (CodeN c P q)
theorem TabC.facts {c P : Addr} {ps : Array Value} (I : L2.Inv X pins σ H s) (t : TabC X H c P) (hP : H P = some (.tbl ps)) (hb : ∃ P0, X.base.BuiltinsAt X.mg P0) : PySem.W.CodeHd s.heap c P ∧ s.heap.BuiltinsAt X.mg P ∧ mainGlobals ≠ P := by
  have nb : ∀ b o, X.base.get? b = some o → b ≠ P := fun b o e z => by
    have := (I.bs b o e).2
    rw [z, hP] at this; cases this
  refine ⟨?_, ?_, ?_⟩
  · rcases t with t | ⟨q, e⟩
    · exact t.code.keeps fun b u e => I.bk b u e
    · exact (I.hok c _ e).1.1
  · obtain ⟨P0, bm, ob, e1, e2, e3, e4, e5, e6, e7, e8⟩ := hb
    exact ⟨bm, ob, e1, e2, e3, nb bm ob e5, I.bk _ _ e5, e6, e7, e8⟩
  · obtain ⟨ob, es, ep, ho, r⟩ := I.mod.glob
    exact nb _ _ ho
/-- the running code object at c: what is known of the heaps (HT) leads to its table (PP) -/
structure CodeSrc (X : Cx) (c : Addr) (HT : Hp → Prop) (PP : Addr → Hp → Prop) : Prop where
  bm : ∃ P0, X.base.BuiltinsAt X.mg P0
  code : X.env.code = .ref c
  src : ∀ pins σ H s, L2.Inv X pins σ H s → HT H → ∃ P, TabC X H c P ∧ TabG H P ∧ PP P H
structure GNew (X : Cx) (pins : List (Addr × Obj)) (σ : L2.St) (H : Hp) (elt tg iter : Expr) (ifs : List Expr) (scope : Scope) (pos : Pos) (J : It) (code : Value) (a : Addr) (s4 s5 : Shared) : Prop where
  ex : ∃ (g : Nat) (it : Addr) (fp : List Addr) (tn : Nat → Heap → Prop) (m : Str → Option Value), L2.Inv X pins σ H s4 ∧ Turn X.prog X.w X.K tg J fp it tn ∧ tn 0 s4.heap ∧ (∀ b ∈ fp, FpOk X pins H b ∧ b < s4.heap.objs.size) ∧
    s5.gens[g]? = some (.fresh (.compStart (.GeneratorExp elt [⟨tg, iter, ifs, 0⟩] scope pos) 0 (.ref it) .none (gEnv X scope s4.heap.objs.size code))) ∧ s5.heap.IsGen a g ∧ s5.os = s4.os ∧ AllBare s5.gens ∧
    (∀ b o, s4.heap.get? b = some o → s5.heap.get? b = some o) ∧ s5.heap.Ns s4.heap.objs.size m ∧ s4.heap.objs.size < a ∧ a < s5.heap.objs.size
variable {elt tg iter : Expr} {ifs : List Expr} {scope : Scope} {gpos : Pos} {own : List (Str × Nat)} {wi : TI} {c : Addr} {k : Nat}
theorem gen_make {R : It → Hp → Prop} {PP : Addr → Hp → Prop} {HT : Hp → Prop} {Q' : Value → Shared → Prop} (hd : X.A.depth < recursionLimit) (cs : CodeSrc X c HT PP) (ok : BlkOk X.N X.env.scope scope own) (nocell : ∀ y ∈ scope.names, y.2 ≠ .cell)
    (hdot : scope.names.lookup (".0" : Str) = some NameKind.local) (hco : scope.isCoroutine = false) (hi : PI X tg iter wi) (hs : ∀ v, genFold iter X.env v = pure v) (I : L2.Inv X pins σ H s) (h : wi σ H fun J H1 => HT H1 ∧ R J H1)
    (hQ : ∀ J H1 P H2 code a s4 s5, R J H1 → PP P H1 → Grown P gpos (X.env.qual ++ "<genexpr>") code H1 H2 → GNew X pins σ H2 elt tg iter ifs scope gpos J code a s4 s5 → Q' (.ref a) s5) :
    wpAny (model X.prog X.w) X.A (eval (.GeneratorExp elt [⟨tg, iter, ifs, 0⟩] scope gpos) X.env) Q' X.xe s := by
  have hfree : ∀ y ∈ scope.names, y.2 = .free → ∃ c, X.env.cells.lookup y.1 = some c := fun y hy e => by
    rcases ok.free y hy e with k | k
    · exact I.ok.has _ (.inl k)
    · exact I.ok.has _ (.inr k)
  refine wpAny_GeneratorExp_make hco (closure_ok hfree) nocell hdot ok.kind hd (thn (hi.run pins s σ H _ I h) fun xv s1 hx => thn hx fun itv s2 h2 => ?_) hs
  obtain ⟨it, fp, tn, J, H1, rfl, I1, T, st1, f1, hHT, hR⟩ := h2
  obtain ⟨P, tc, ⟨ps, hP, ht⟩, hPP⟩ := cs.src _ _ _ _ I1 hHT
  have hcode := cs.code
  obtain ⟨cd, bP, gP⟩ := tc.facts I1 hP cs.bm
  have hPs : s2.heap.get? P = some { cls := .none, data := .fields ps } := I1.hok P _ hP
  refine ⟨I1.nolimit, ?_⟩
  have cont : ∀ (code : Value) (h3 : Heap) (tk : Nat) (H2 : Hp), Grown P gpos (X.env.qual ++ "<genexpr>") code H1 H2 → L2.Inv X pins σ H2 { s2 with heap := h3, toks := tk } → Heap.ExtBut P s2.heap h3 → s2.heap.objs.size ≤ h3.objs.size → (∀ b ∈ fp, H2 b = none) →
      wpAny (model X.prog X.w) X.A (builtinsFor X.env.globals X.env.builtins) (fun bi s₄ =>
        ∀ h', h'.Ns s₄.heap.objs.size (fun y => if y = ".0" then some (.ref it) else none) → Heap.SameBut s₄.heap.objs.size (s₄.heap.push { cls := .type "frame", data := .dict #[] }) h' →
          Q' (.ref h'.objs.size) { s₄ with
            gens := s₄.gens.push (.fresh (.compStart (.GeneratorExp elt [⟨tg, iter, ifs, 0⟩] scope gpos) 0 (.ref it) .none (genEnv scope (cloFrom X.env.cells scope.names []) s₄.heap.objs.size code bi X.env))),
            toks := s₄.toks + 1 + 1 + 1,
            heap := h'.push { cls := .type "generator", data := .fields #[.int s₄.gens.size 0, .str "<genexpr>" (s₄.toks + 1), .str (X.env.qual ++ "<genexpr>") (s₄.toks + 1 + 1)] } }) X.xe { s2 with heap := h3, toks := tk } := by
    intro code h3 tk H2 hg I4 hx hsz hfp
    obtain ⟨bm, ob, e1, e2, e3, e4, e5, e6, e7, e8⟩ := bP
    have keep3 : ∀ b u, b ≠ P → s2.heap.get? b = some u → h3.get? b = some u := fun b u hb e => hx b u hb e
    refine wpAny_builtinsFor (m := X.mg) (by rw [I1.ok.glob]; exact (I1.mod.glob.keeps I1.bk).extBut hx gP) e1 e2 (keep3 _ _ e4 e5) e6 e7 e8 ?_
    intro h' hns hsb
    have nP : ∀ b ∈ fp, b ≠ P := fun b hb z => by
      have := (f1 b hb).1
      rw [z, hP] at this; cases this
    have hlt : ∀ b ∈ fp, b < h3.objs.size := fun b hb => by
      obtain ⟨o, e, _⟩ := T.obj _ _ st1 b hb
      exact Nat.lt_of_lt_of_le (Heap.lt_size e) hsz
    have hsz' : h'.objs.size = h3.objs.size + 1 := by rw [hsb.1, Heap.size_push]
    have keep' : ∀ b o, h3.get? b = some o → h'.get? b = some o := fun b o e => hsb.extBut b o (Nat.ne_of_lt (Heap.lt_size e)) (Heap.get?_push_of_some _ e)
    refine hQ J H1 P H2 code h'.objs.size { s2 with heap := h3, toks := tk } _ hR hPP hg ⟨s2.gens.size, it, fp, tn, _, I4, T, ?_, fun b hb => ⟨?_, hlt b hb⟩, ?_, ?_, rfl, I1.bare.push rfl, fun b o e => Heap.get?_push_of_some _ (keep' b o e), hns.push _, ?_, ?_⟩
    · exact T.keep _ _ _ st1 fun b hb o e => keep3 b o (nP b hb) e
    · exact ⟨hfp b hb, (f1 b hb).2⟩
    · exact Array.getElem?_push_size ..
    · exact ⟨_, _, _, Heap.get?_push_size _ rfl, rfl, rfl, rfl⟩
    · show h3.objs.size < h'.objs.size
      omega
    · show h'.objs.size < (h'.push _).objs.size
      rw [Heap.size_push]; exact Nat.lt_succ_self _
  cases hf : codeAmong gpos ps.toList with
  | none =>
    refine wpAny_genexprCodeX hcode (cd.code hPs ht) (cd.tab hPs) hf fun c' h' tk hx hge hlt hco' hrec htab' hn => ?_
    obtain ⟨P1, hp1, n1, n2⟩ := hn
    have hd1 : PySem.W.CodeHd h' c' P1 := PySem.W.CodeHd.of n1 n2
    have hne : c' ≠ P1 := by
      obtain ⟨_, _, _, _, _, _, _, _, _, _, _, _, _, _, _, _, _, _, z⟩ := hd1
      exact z
    have n0 : H1 c' = none := I1.hok.fresh hge
    have n3 : H1 P1 = none := I1.hok.fresh hp1
    refine cont (.ref c') h' tk _ (.inr ⟨ps, c', P1, hP, ht, hf, n0, n3, hne, rfl, rfl⟩) (inv_grow I1 hP (fun b u hb e => hx b u hb e) htab'.2 hge hp1 hne ⟨hd1, hrec⟩ n2.2) hx (Nat.le_trans hge (Nat.le_of_lt hlt)) fun b hb => ?_
    have hb0 := (f1 b hb).1
    obtain ⟨o, e, _⟩ := T.obj _ _ st1 b hb
    have hl := Heap.lt_size e
    have z1 : b ≠ P1 := fun z => Nat.lt_irrefl b (Nat.lt_of_lt_of_le hl (by rw [z]; exact hp1))
    have z2 : b ≠ c' := fun z => Nat.lt_irrefl b (Nat.lt_of_lt_of_le hl (by rw [z]; exact hge))
    rw [upd_ne z1, upd_ne z2, upd_ne (fun z => by rw [z, hP] at hb0; cases hb0)]
    exact hb0
  | some cv =>
    refine wpAny_genexprCode_hit hcode (cd.code hPs ht) hf ?_
    exact cont cv s2.heap s2.toks H1 (.inl ⟨rfl, ps, hP, hf⟩) I1 (Heap.ExtBut.refl _ _) (Nat.le_refl _) fun b hb => (f1 b hb).1
/-- back in the def -/
theorem GNew.back {code : Value} {s4 : Shared} {B : Around} {fp : List Addr} {σ2 : L2.St} {H2 H' : Hp} {s' : Shared} (I4 : L2.Inv X pins σ H2 s4) (hf : ∀ b ∈ fp, FpOk X pins H2 b ∧ b < s4.heap.objs.size) (I : L2.Inv (gx X B s4 H2 (gEnv X scope s4.heap.objs.size code) fp) [] σ2 H' s') : L2.Inv X pins σ H' s' :=
  I4.call' (ch := fp) I.os I.base I.hok I.bare fun b hb => ⟨(hf b hb).1.2.2.2.1, (hf b hb).1.2.1, (hf b hb).1.2.2.2.2.1, (hf b hb).1.2.2.2.2.2⟩
end
end J

set_option maxHeartbeats 1000000
/-! J: all, any, sum of a generator expression, the model's side. -/
namespace J
open PySem PySem.Spec PyProof.Rows L2 GxR
section
variable {α : Type} {Z : Walker α} {X : Cx} {pins : List (Addr × Obj)} {σ : L2.St} {H : Hp} {elt tg iter : Expr} {ifs : List Expr} {scope : Scope} {pos : Pos} {own : List (Str × Nat)} {J : It} {code : Value} {a : Addr} {s4 s5 s6 : Shared} {g : TG} {tt : TT} {te : TE} {W : α → Nat → Nat → Hp → Prop} {ca cs : List Addr}
theorem gsus {A : Around} {it : Addr} {fp : List Addr} {tn : Nat → Heap → Prop} {mm : Str → Option Value} {gn : Nat} (hAf : A.frames = some X.stack) (hAh : A.handled = none) (ok : BlkOk X.N X.env.scope scope own) (nocell : ∀ y ∈ scope.names, y.2 ≠ .cell) (hco : scope.isCoroutine = false) (hN : X.N.Nodup)
    (I4 : L2.Inv X pins σ H s4) (T : Turn X.prog X.w X.K tg J fp it tn) (st : tn 0 s4.heap) (hf : ∀ b ∈ fp, FpOk X pins H b ∧ b < s4.heap.objs.size)
    (hgn : s6.gens[gn]? = some (.fresh (.compStart (.GeneratorExp elt [⟨tg, iter, ifs, 0⟩] scope pos) 0 (.ref it) .none (gEnv X scope s4.heap.objs.size code)))) (hig : s6.heap.IsGen a gn) (hos : s6.os = s4.os) (hb : AllBare s6.gens)
    (kp : ∀ b o, s4.heap.get? b = some o → s6.heap.get? b = some o) (hns : s6.heap.Ns s4.heap.objs.size mm)
    (pg : PG (gx X (A.deeper (gEnv X scope s4.heap.objs.size code)) s4 H (gEnv X scope s4.heap.objs.size code) fp) tg g) (pt : PTs (gx X (A.deeper (gEnv X scope s4.heap.objs.size code)) s4 H (gEnv X scope s4.heap.objs.size code) fp) ifs tt) (pe : PE (gx X (A.deeper (gEnv X scope s4.heap.objs.size code)) s4 H (gEnv X scope s4.heap.objs.size code) fp) elt te)
    (hca : ∀ b ∈ ca, s4.heap.objs.size < b ∧ ∃ o, s6.heap.get? b = some o ∧ ∀ v, o.data ≠ .cell v) (hcs : ∀ b ∈ cs, b ∈ ca) (hAt : ∀ a s s', KeptC ca s s' → Z.At a s → Z.At a s') (turn : tTurn Z J g tt te (own.map (·.2)) σ W)
    {m : Nat} {x : α} (hW : W x 0 m H) (hat : Z.At x s6) :
    GSus Z (gx X (A.deeper (gEnv X scope s4.heap.objs.size code)) s4 H (gEnv X scope s4.heap.objs.size code) fp) A (wipe σ (own.map (·.2))) ca cs a gn (m + 1) x s6 := by
  refine ⟨hig, I4.nolimit.keeps kp, hb, hat, _, hgn, fun s'' e1 e2 e3 => ⟨rfl, ?_⟩⟩
  have I5 : L2.Inv (gx X (A.deeper (gEnv X scope s4.heap.objs.size code)) s4 H (gEnv X scope s4.heap.objs.size code) fp) [] (wipe σ (own.map (·.2))) H s'' :=
    gen_start I4 ok nocell hN hf (Around.frames_deeper hAf) hAh (e2.trans hos) e3 (fun b o e => by rw [e1]; exact kp b o e) (by rw [e1]; exact hns)
  refine seg_gstart hco T pg pt pe (fun b hb => ?_) hcs hAt turn (Nat.lt_succ_self m) hW I5 (T.keep _ _ _ st fun b hb o e => by rw [e1]; exact kp b o e) (fun b hb => (hf b hb).1.1) (fun b hb => ⟨I4.hok.fresh (Nat.le_of_lt (hca b hb).1), by rw [e1]; exact (hca b hb).2⟩) (hAt _ _ _ (fun b hb o e => by rw [e1]; exact e) hat)
  have hlt := (hca b hb).1
  refine ⟨⟨fun z => ?_, fun z => ?_, Nat.le_of_lt hlt, fun y c e z => ?_⟩, fun z => ?_⟩
  · have z : b = s4.heap.objs.size := z
    rw [z] at hlt
    exact absurd hlt (Nat.lt_irrefl _)
  · rcases List.mem_cons.mp (I4.stkSub b z) with z | z
    · have := I4.lt
      rw [← z] at this
      exact absurd (Nat.lt_trans this hlt) (Nat.lt_irrefl _)
    · exact I4.nofs (Nat.le_of_lt hlt) z
  · have e : (cloFrom X.env.cells scope.names []).lookup y = some c := e
    rcases cloFrom_mem (PySem.mem_of_lookup e) with hm | ⟨h1, h2⟩
    · cases hm
    · obtain ⟨c', hc⟩ : ∃ c, X.env.cells.lookup y = some c := by
        rcases ok.free _ h1 rfl with k | k
        · exact I4.ok.has _ (.inl k)
        · exact I4.ok.has _ (.inr k)
      rw [hc] at h2
      obtain ⟨w, q⟩ := I4.cell _ _ hc
      have h2 : c = c' := h2
      have q2 := q.lt
      rw [← h2, z] at q2
      exact absurd (Nat.lt_trans q2 hlt) (Nat.lt_irrefl _)
  · exact absurd (Nat.lt_trans hlt (hf b z).2) (Nat.lt_irrefl _)
end
/-- all, any: the element's truth is b till the end, or it stops -/
def tGenB (K : PySem.W.Frag) (b : Bool) (HT : Hp → Prop) (PP : Addr → Hp → Prop) (CI : Hp → Value → Prop) (q : Str) (gpos : Pos) (wi : TI) (g : TG) (tt : TT) (te : TE) (vs : List Nat) : TE := fun σ H Q => wi σ H fun J H1 => HT H1 ∧ ∀ P H2 code, PP P H1 → Grown P gpos q code H1 H2 → CI H2 code ∧ ∃ W : Unit → Nat → Nat → Hp → Prop, (∃ m, W () 0 m H2) ∧ tTurn (ZB K b (Q (.bl b)) (Q (.bl (!b)))) J g tt te vs σ W
def tGenS (HT : Hp → Prop) (PP : Addr → Hp → Prop) (CI : Hp → Value → Prop) (q : Str) (gpos : Pos) (wi : TI) (g : TG) (tt : TT) (te : TE) (vs : List Nat) : TE := fun σ H Q => wi σ H fun J H1 => HT H1 ∧ ∀ P H2 code S, PP P H1 → Grown P gpos q code H1 H2 → CI H2 code ∧ ∃ W : Int → Nat → Nat → Hp → Prop, (∃ m, W 0 0 m H2) ∧ tTurn (ZS S fun acc H => Q (.int acc) H) J g tt te vs σ W
theorem roomG {k : Nat} {A : Around} {env : Env} (r : Room (k + 1) A) : Room k (A.in1.in1.deeper env) :=
  ⟨r.hd, by have := r.dp; show A.depth + 1 + 3 * k + 5 < _; omega, by have := r.un; show A.units + 1 + 1 + 3 + 16 * k + 200 < _; omega⟩
section
variable {X : Cx} {c : Addr} {HT : Hp → Prop} {PP : Addr → Hp → Prop} {CI : Hp → Value → Prop} {elt tg iter : Expr} {ifs : List Expr} {scope : Scope} {gpos p pos : Pos} {own : List (Str × Nat)} {wi : TI} {g : TG} {tt : TT} {te : TE} {k : Nat}
theorem pe_allG (hr : Room (k + 1) X.A) (hg : Gl X "all") (hm : X.mg "all" = none) (hb : bootBuiltins "all" = some (.builtin "all")) (cs : CodeSrc X c HT PP) (ok : BlkOk X.N X.env.scope scope own) (nocell : ∀ y ∈ scope.names, y.2 ≠ .cell)
    (hdot : scope.names.lookup (".0" : Str) = some NameKind.local) (hco : scope.isCoroutine = false) (hN : X.N.Nodup) (hi : PI X tg iter wi) (hs : ∀ v, genFold iter X.env v = pure v)
    (pg : ∀ (B : Around) (s : Shared) (H : Hp) (C : Addr) (code : Value) (fp : List Addr), Room k B → CI H code → PG (gx X B s H (gEnv X scope C code) fp) tg g) (pt : ∀ (B : Around) (s : Shared) (H : Hp) (C : Addr) (code : Value) (fp : List Addr), Room k B → CI H code → PTs (gx X B s H (gEnv X scope C code) fp) ifs tt)
    (pe : ∀ (B : Around) (s : Shared) (H : Hp) (C : Addr) (code : Value) (fp : List Addr), Room k B → CI H code → PE (gx X B s H (gEnv X scope C code) fp) elt te)
    (he : starEach [.GeneratorExp elt [⟨tg, iter, ifs, 0⟩] scope gpos] X.env = (false, eval (.GeneratorExp elt [⟨tg, iter, ifs, 0⟩] scope gpos) X.env) :: starEach [] X.env := by rfl) :
    PE X (.Call (.Name "all" p) [.GeneratorExp elt [⟨tg, iter, ifs, 0⟩] scope gpos] [] pos) (tGenB X.K true HT PP CI (X.env.qual ++ "<genexpr>") gpos wi g tt te (own.map (·.2))) := by
  refine ⟨fun pins s σ H Q I h => ?_⟩
  refine wpAny_Call_Name_kw (ld_blt I hg hm hb ?_)
  refine PyProof.Rows.callWith_builtin1 ?_ he (by rfl)
  rw [he]
  show wpAny _ _ (spliced ((false, eval (.GeneratorExp elt [⟨tg, iter, ifs, 0⟩] scope gpos) X.env) :: backTo pos (starEach [] X.env))) _ _ s
  refine Calls.spliced_cons (gen_make hr.depth cs ok nocell hdot hco hi hs I h fun J H1 P H2 code a s4 s5 hR hPP hT hG => ?_)
  obtain ⟨gn, it, fp, tn, mm, I4, T, st, hf, hgn, hig, hos, hba, kp, hns, hlt, hlt2⟩ := hG.ex
  obtain ⟨hCI, W, ⟨m, hW⟩, turn⟩ := hR P H2 code hPP hT
  refine Calls.spliced_nil ?_
  refine call_function_tree F.kind_all F.plain_all F.entry_all (F.args_all1 _) ?_
  unfold Builtin.«all»
  refine wpAny_bind (m := oneArg "all" _) (wpAny_pure ?_)
  refine wpAny_bind (wpAny_pyIter_gen hig ?_)
  have hB : Room k (X.A.in1.in1.deeper (gEnv X scope s4.heap.objs.size code)) := roomG hr
  refine wpAny_pure ⟨plainId_quiet F.plain_all_loop _, all_loopG (σw := wipe σ (own.map (·.2))) (XG := gx X (X.A.in1.in1.deeper (gEnv X scope s4.heap.objs.size code)) s4 H2 (gEnv X scope s4.heap.objs.size code) fp) hr.hd hr.depth (fun H' s' I' q => ?_) (fun H' σ2 s' I' q => ?_) (m + 1) s5
    (gsus (A := X.A.in1.in1) (by exact I4.ok.frames) hr.hd ok nocell hco hN I4 T st hf hgn hig hos hba kp hns (pg _ _ _ _ _ _ hB hCI) (pt _ _ _ _ _ _ hB hCI) (pe _ _ _ _ _ _ hB hCI) (fun b hb => ?_) (fun b hb => absurd hb (by simp)) (fun _ _ _ _ _ => trivial) turn hW trivial)⟩
  · exact ⟨.bl true, H', GNew.back I4 hf I', rfl, q⟩
  · exact ⟨.bl false, H', GNew.back I4 hf I', rfl, q⟩
  · rw [List.mem_singleton.mp hb]
    obtain ⟨o, nm, qn, ho, r1, r2, r3⟩ := hig
    exact ⟨hlt, o, ho, fun v z => by rw [r2] at z; cases z⟩
theorem pe_anyG (hr : Room (k + 1) X.A) (hg : Gl X "any") (hm : X.mg "any" = none) (cs : CodeSrc X c HT PP) (ok : BlkOk X.N X.env.scope scope own) (nocell : ∀ y ∈ scope.names, y.2 ≠ .cell)
    (hdot : scope.names.lookup (".0" : Str) = some NameKind.local) (hco : scope.isCoroutine = false) (hN : X.N.Nodup) (hi : PI X tg iter wi) (hs : ∀ v, genFold iter X.env v = pure v)
    (pg : ∀ (B : Around) (s : Shared) (H : Hp) (C : Addr) (code : Value) (fp : List Addr), Room k B → CI H code → PG (gx X B s H (gEnv X scope C code) fp) tg g) (pt : ∀ (B : Around) (s : Shared) (H : Hp) (C : Addr) (code : Value) (fp : List Addr), Room k B → CI H code → PTs (gx X B s H (gEnv X scope C code) fp) ifs tt)
    (pe : ∀ (B : Around) (s : Shared) (H : Hp) (C : Addr) (code : Value) (fp : List Addr), Room k B → CI H code → PE (gx X B s H (gEnv X scope C code) fp) elt te)
    (he : starEach [.GeneratorExp elt [⟨tg, iter, ifs, 0⟩] scope gpos] X.env = (false, eval (.GeneratorExp elt [⟨tg, iter, ifs, 0⟩] scope gpos) X.env) :: starEach [] X.env := by rfl) :
    PE X (.Call (.Name "any" p) [.GeneratorExp elt [⟨tg, iter, ifs, 0⟩] scope gpos] [] pos) (tGenB X.K false HT PP CI (X.env.qual ++ "<genexpr>") gpos wi g tt te (own.map (·.2))) := by
  refine ⟨fun pins s σ H Q I h => ?_⟩
  refine wpAny_Call_Name_kw (ld_blt I hg hm boot_any ?_)
  refine PyProof.Rows.callWith_builtin1 ?_ he (by rfl)
  rw [he]
  show wpAny _ _ (spliced ((false, eval (.GeneratorExp elt [⟨tg, iter, ifs, 0⟩] scope gpos) X.env) :: backTo pos (starEach [] X.env))) _ _ s
  refine Calls.spliced_cons (gen_make hr.depth cs ok nocell hdot hco hi hs I h fun J H1 P H2 code a s4 s5 hR hPP hT hG => ?_)
  obtain ⟨gn, it, fp, tn, mm, I4, T, st, hf, hgn, hig, hos, hba, kp, hns, hlt, hlt2⟩ := hG.ex
  obtain ⟨hCI, W, ⟨m, hW⟩, turn⟩ := hR P H2 code hPP hT
  refine Calls.spliced_nil ?_
  refine call_function_tree F.kind_any F.plain_any F.entry_any (F.args_any1 _) ?_
  unfold Builtin.«any»
  refine wpAny_bind (m := oneArg "any" _) (wpAny_pure ?_)
  refine wpAny_bind (wpAny_pyIter_gen hig ?_)
  have hB : Room k (X.A.in1.in1.deeper (gEnv X scope s4.heap.objs.size code)) := roomG hr
  refine wpAny_pure ⟨plainId_quiet F.plain_any_loop _, any_loopG (σw := wipe σ (own.map (·.2))) (XG := gx X (X.A.in1.in1.deeper (gEnv X scope s4.heap.objs.size code)) s4 H2 (gEnv X scope s4.heap.objs.size code) fp) hr.hd hr.depth (fun H' s' I' q => ?_) (fun H' σ2 s' I' q => ?_) (m + 1) s5
    (gsus (A := X.A.in1.in1) (by exact I4.ok.frames) hr.hd ok nocell hco hN I4 T st hf hgn hig hos hba kp hns (pg _ _ _ _ _ _ hB hCI) (pt _ _ _ _ _ _ hB hCI) (pe _ _ _ _ _ _ hB hCI) (fun b hb => ?_) (fun b hb => absurd hb (by simp)) (fun _ _ _ _ _ => trivial) turn hW trivial)⟩
  · exact ⟨.bl false, H', GNew.back I4 hf I', rfl, q⟩
  · exact ⟨.bl true, H', GNew.back I4 hf I', rfl, q⟩
  · rw [List.mem_singleton.mp hb]
    obtain ⟨o, nm, qn, ho, r1, r2, r3⟩ := hig
    exact ⟨hlt, o, ho, fun v z => by rw [r2] at z; cases z⟩
theorem pe_sumG (hr : Room (k + 1) X.A) (hg : Gl X "sum") (hm : X.mg "sum" = none) (hb : bootBuiltins "sum" = some (.builtin "sum")) (cs : CodeSrc X c HT PP) (ok : BlkOk X.N X.env.scope scope own) (nocell : ∀ y ∈ scope.names, y.2 ≠ .cell)
    (hdot : scope.names.lookup (".0" : Str) = some NameKind.local) (hco : scope.isCoroutine = false) (hN : X.N.Nodup) (hi : PI X tg iter wi) (hs : ∀ v, genFold iter X.env v = pure v)
    (pg : ∀ (B : Around) (s : Shared) (H : Hp) (C : Addr) (code : Value) (fp : List Addr), Room k B → CI H code → PG (gx X B s H (gEnv X scope C code) fp) tg g) (pt : ∀ (B : Around) (s : Shared) (H : Hp) (C : Addr) (code : Value) (fp : List Addr), Room k B → CI H code → PTs (gx X B s H (gEnv X scope C code) fp) ifs tt)
    (pe : ∀ (B : Around) (s : Shared) (H : Hp) (C : Addr) (code : Value) (fp : List Addr), Room k B → CI H code → PE (gx X B s H (gEnv X scope C code) fp) elt te)
    (he : starEach [.GeneratorExp elt [⟨tg, iter, ifs, 0⟩] scope gpos] X.env = (false, eval (.GeneratorExp elt [⟨tg, iter, ifs, 0⟩] scope gpos) X.env) :: starEach [] X.env := by rfl) :
    PE X (.Call (.Name "sum" p) [.GeneratorExp elt [⟨tg, iter, ifs, 0⟩] scope gpos] [] pos) (tGenS HT PP CI (X.env.qual ++ "<genexpr>") gpos wi g tt te (own.map (·.2))) := by
  refine ⟨fun pins s σ H Q I h => ?_⟩
  refine wpAny_Call_Name_kw (ld_blt I hg hm hb ?_)
  refine PyProof.Rows.callWith_builtin1 ?_ he (by rfl)
  rw [he]
  show wpAny _ _ (spliced ((false, eval (.GeneratorExp elt [⟨tg, iter, ifs, 0⟩] scope gpos) X.env) :: backTo pos (starEach [] X.env))) _ _ s
  refine Calls.spliced_cons (gen_make hr.depth cs ok nocell hdot hco hi hs I h fun J H1 P H2 code a s4 s5 hR hPP hT hG => ?_)
  obtain ⟨gn, it, fp, tn, mm, I4, T, st, hf, hgn, hig, hos, hba, kp, hns, hlt, hlt2⟩ := hG.ex
  obtain ⟨hCI, W, ⟨m, hW⟩, turn⟩ := hR P H2 code s5.heap.objs.size hPP hT
  refine Calls.spliced_nil ?_
  refine call_function_tree F.kind_sum F.plain_sum F.entry_sum (F.args_sum1 _) ?_
  unfold Builtin.«sum»
  simp only [List.length_cons, List.length_nil]
  rw [if_neg (by decide)]
  refine wpAny_bind (wpAny_of_eq (show Builtin.Builtins.bindParams "sum" ["start"] 0 { } = pure [none] from rfl) ?_)
  refine wpAny_bind (wpAny_pyIter_gen hig ?_)
  refine wpAny_bind (wpAny_mkInt ?_)
  refine wpAny_bind (wpAny_pure ?_)
  simp only [List.forIn_cons, List.forIn_nil]
  refine wpAny_bind (wpAny_bind (wpAny_bind (wpAny_isInstance (T := "int") (b := false) (typeIs_int _ _ _) PySem.sub_int_str ?_)))
  simp only [Bool.false_eq_true, if_false]
  refine wpAny_pure (wpAny_bind (wpAny_bind (wpAny_isInstance (T := "int") (b := false) (typeIs_int _ _ _) PySem.sub_int_bytes ?_)))
  simp only [Bool.false_eq_true, if_false]
  refine wpAny_pure (wpAny_bind (wpAny_bind (wpAny_isInstance (T := "int") (b := false) (typeIs_int _ _ _) PySem.sub_int_bytearray ?_)))
  simp only [Bool.false_eq_true, if_false]
  refine wpAny_pure (wpAny_pure ?_)
  refine wpAny_bind (wpAny_newObj_type ?_)
  have hB : Room k (X.A.in1.in1.deeper (gEnv X scope s4.heap.objs.size code)) := roomG hr
  have hcl : cStatics < s5.heap.objs.size := let ⟨_, hn, _⟩ := I4.nolimit.keeps kp; hn.lt
  have key : ∀ (s6 : Shared) (t0 : Tok) (c0 : Nat), s6.gens = s5.gens → s6.os = s5.os → s6.heap = s5.heap.push { cls := .type "list", dict := none, data := .seq #[.int 0 t0] c0, slots := #[] } →
      GSus (ZS s5.heap.objs.size fun acc H => Q (.int acc) H) (gx X (X.A.in1.in1.deeper (gEnv X scope s4.heap.objs.size code)) s4 H2 (gEnv X scope s4.heap.objs.size code) fp) X.A.in1.in1 (wipe σ (own.map (·.2))) [a, s5.heap.objs.size] [s5.heap.objs.size] a gn (m + 1) 0 s6 := by
    intro s6 t0 c0 eg eo eh
    have kp6 : ∀ b o, s5.heap.get? b = some o → s6.heap.get? b = some o := fun b o e => by rw [eh]; exact Heap.get?_push_of_some _ e
    have hS6 : s6.heap.get? s5.heap.objs.size = some { cls := .type "list", dict := none, data := .seq #[.int 0 t0] c0, slots := #[] } := by rw [eh]; exact Heap.get?_push_size _ rfl
    refine gsus (Z := ZS s5.heap.objs.size fun acc H => Q (.int acc) H) (ca := [a, s5.heap.objs.size]) (A := X.A.in1.in1) (by exact I4.ok.frames) hr.hd ok nocell hco hN I4 T st hf (by rw [eg]; exact hgn) (by
      obtain ⟨o, nm, qn, ho, r⟩ := hig
      exact ⟨o, nm, qn, kp6 _ _ ho, r⟩) (eo.trans hos) (by rw [eg]; exact hba) (fun b o e => kp6 b o (kp b o e)) (hns.keeps kp6) (pg _ _ _ _ _ _ hB hCI) (pt _ _ _ _ _ _ hB hCI) (pe _ _ _ _ _ _ hB hCI) (fun b hb => ?_) (fun b hb => List.mem_cons_of_mem _ hb) (fun _ _ _ k ⟨t, c, e⟩ => ⟨t, c, k _ (by simp) _ e⟩) turn hW ⟨t0, c0, hS6⟩
    rcases List.mem_cons.mp hb with z | z
    · rw [z]
      obtain ⟨o, nm, qn, ho, r1, r2, r3⟩ := hig
      exact ⟨hlt, o, kp6 _ _ ho, fun v z => by rw [r2] at z; cases z⟩
    · rw [List.mem_singleton.mp z]
      exact ⟨Nat.lt_trans hlt hlt2, _, hS6, fun v z => by cases z⟩
  refine wpAny_pure ⟨plainId_quiet F.plain_sum_loop _, sum_loopG (QE := fun acc H => Q (.int acc) H) (σw := wipe σ (own.map (·.2))) (XG := gx X (X.A.in1.in1.deeper (gEnv X scope s4.heap.objs.size code)) s4 H2 (gEnv X scope s4.heap.objs.size code) fp) hr.hd hr.depth (Nat.ne_of_lt hlt2) (Nat.ne_of_lt hcl) (fun acc t H' s' I' q => ⟨.int acc, H', GNew.back I4 hf I', ⟨t, rfl⟩, q⟩) (m + 1) 0 _ (key _ _ 0 rfl rfl rfl)⟩
end
end J

set_option maxHeartbeats 1000000
/-! J: all, any, sum of a generator expression. -/
namespace J
open PySem PySem.Spec PyProof.Rows L2 GxR
def genL {α : Type} (s : Src) (g : GF) (ft : SB) (fe : SE) (ρ0 : En) (stp : α → PV → Option (α ⊕ PV)) (end_ : α → PV) : α → List PV → PH → R PV
  | a, [], h => .ok (end_ a) h
  | a, x :: xs, h => match g x ρ0 with
    | none => .bad
    | some ρ1 => match ft ρ1 h with
      | .ok true h1 => (match fe ρ1 h1 with
        | .ok v h2 => if sameL s h2 then (match stp a v with
          | some (.inl a') => genL s g ft fe ρ0 stp end_ a' xs h2
          | some (.inr r) => .ok r h2
          | none => .bad) else .bad
        | _ => .bad)
      | .ok false h1 => if sameL s h1 then genL s g ft fe ρ0 stp end_ a xs h1 else .bad
      | _ => .bad
def genE {α : Type} (vs : List Nat) (fi : SI) (g : GF) (ft : SB) (fe : SE) (stp : α → PV → Option (α ⊕ PV)) (end_ : α → PV) (a0 : α) : SE := fun ρ h => (fi ρ h).bind fun s h1 => if sameL s h1 then genL s g ft fe (wipeE ρ vs) stp end_ a0 s.xs h1 else .bad
section
variable {G : Gc} {X : Cx} {W : WX}
theorem HRel.grown {M : Gh} {H H' : Hp} {h : PH} {P : Addr} {pos : Pos} {q : Str} {code : Value} (r : HRel G M H h) (g : Grown P pos q code H H') (hq : q = G.nm pos.line pos.col) : Ext M H M H' ∧ HRel G M H' h := by
  obtain ⟨ps, hp⟩ : ∃ ps, H P = some (.tbl ps) := by
    rcases g with ⟨_, ps, e, _⟩ | ⟨ps, _, _, e, _⟩ <;> exact ⟨ps, e⟩
  have nP : ∀ a u, H a = some u → (∀ ps, u ≠ .tbl ps) → a ≠ P := fun a u e q z => by
    rw [z, hp] at e; cases e; exact q ps rfl
  have kp : ∀ a u, H a = some u → (∀ ps, u ≠ .tbl ps) → H' a = some u := fun a u e q => g.keep (nP a u e q) e
  have dm : ∀ a, H a ≠ none → H' a ≠ none := fun a e => by
    by_cases z : a = P
    · rw [z]
      obtain ⟨ps', e', _⟩ := g.at
      rw [e']; simp
    · cases hq : H a with
      | none => exact absurd hq e
      | some u => rw [g.keep z hq]; simp
  have x : Ext M H M H' := ⟨⟨[], [], by simp, by simp⟩, fun a o e _ q => kp a o e q, dm⟩
  refine ⟨x, r.nd, r.apart, r.len, fun a ha => x.dom a (r.hid a ha), fun a ha xs e => ?_, r.dsub, fun a ha => x.dom a (r.live0 a ha), fun n o e => ?_, fun P' hP' => g.tab hq (r.tab P' hP')⟩
  · cases hz : H a with
    | none => exact r.hid a ha hz
    | some u =>
      by_cases z : a = P
      · subst z
        obtain ⟨ps', e', _⟩ := g.at
        rw [e'] at e; cases e
      · rw [g.keep z hz] at e
        cases e
        exact r.hidT a ha xs hz
  · obtain ⟨a, h1, hd, h2⟩ := r.obj n o e
    by_cases hdd : o = .dead
    · subst hdd
      exact ⟨a, h1, hd, h2⟩
    obtain ⟨u, hu, hu2⟩ := h2.ntbl hdd
    exact ⟨a, h1, hd, h2.ext x (by rw [kp a u hu hu2, hu]) fun dx q _ => by rw [kp dx _ q (fun _ z => by cases z), q]⟩
/-- what a rule knows of the code that runs; top: the code of a def -/
def HT (G : Gc) (H : Hp) : Prop := ∃ M h, HRel G M H h
def PPt (G : Gc) (top : Bool) (P : Addr) (H : Hp) : Prop := TabD G.nm H 1 P ∧ (top = true → P ∈ G.T)
def CIt (G : Gc) (top : Bool) (gpos : Pos) (H : Hp) (code : Value) : Prop := ∃ P c, (top = true → P ∈ G.T) ∧ code = .ref c ∧ CodeAt H P gpos code
def JSrc (G : Gc) (X : Cx) (top : Bool) : Prop := ∃ c, CodeSrc X c (HT G) (PPt G top)
theorem src_top {c P : Addr} (tb : TabB X.base X.mg c P) (hP : P ∈ G.T) (hc : X.env.code = .ref c) : JSrc G X true :=
  ⟨c, ⟨P, tb.bm⟩, hc, fun pins σ H s I ⟨M, h, r⟩ => ⟨P, .inl tb, (r.tab P hP).at, (r.tab P hP).less, fun _ => hP⟩⟩
theorem src_in {c P : Addr} {gpos : Pos} (tb : TabB X.base X.mg c P) (cd : CIt G true gpos X.H_0 X.env.code) : JSrc G X false := by
  obtain ⟨P0, c0, hP, e, ps, e1, e2⟩ := cd
  refine ⟨c0, ⟨P, tb.bm⟩, e, fun pins σ H s I ⟨M, h, r⟩ => ?_⟩
  obtain ⟨more, e3⟩ := I.base.tbls P0 ps e1
  obtain ⟨ps', e4, t, q⟩ := r.tab P0 (hP rfl)
  rw [e3] at e4
  cases e4
  obtain ⟨c2, P1, e5, e6, e7⟩ := q gpos (.ref c0) (by rw [Array.toList_append, ← e]; exact among_pre _ e2)
  cases e5
  exact ⟨P1, .inr ⟨_, e6⟩, e7.at, e7, fun z => by cases z⟩
theorem ci_of {top : Bool} {P : Addr} {gpos : Pos} {q : Str} {code : Value} {H H' : Hp} (p : PPt G top P H) (g : Grown P gpos q code H H') : CIt G top gpos H' code := by
  have hc : ∃ c, code = .ref c := by
    rcases g with ⟨_, ps, e, hc⟩ | ⟨_, c, _, _, _, _, _, _, _, e, _⟩
    · obtain ⟨ps', e', _, r⟩ := p.1
      rw [e] at e'; cases e'
      obtain ⟨c, _, e1, _⟩ := r _ _ hc
      exact ⟨c, e1⟩
    · exact ⟨c, e⟩
  obtain ⟨c, hc⟩ := hc
  exact ⟨P, c, p.2, hc, g.at⟩
/-- how a walker lies to the pure one -/
structure WalkJ {α : Type} (G : Gc) (Z : Walker α) (stp : α → PV → Option (α ⊕ PV)) (end_ : α → PV) (Q : VK) : Prop where
  step : ∀ M H y v a a', Rep G M H y v → stp a v = some (.inl a') → Z.Step a y H a'
  stop : ∀ M H y v a r, Rep G M H y v → stp a v = some (.inr r) → (∀ u, Rep G M H u r → Q u H) → Z.QS a y H
  fin : ∀ M H a, (∀ u, Rep G M H u (end_ a) → Q u H) → Z.QE a H
theorem gen_t {α : Type} {stp : α → PV → Option (α ⊕ PV)} {end_ : α → PV} {a0 : α} {fi : SI} {g : GF} {ss : List Nat} {ft : SB} {fe : SE} {vs : List Nat} {top : Bool} {gpos : Pos} {q : Str} {σ : L2.St} {H : Hp} {Q : VK} (hq : q = G.nm gpos.line gpos.col) (hss : ∀ i ∈ ss, i ∈ vs) (t : TFE G W (genE vs fi g ft fe stp end_ a0) σ H Q) :
    TF G W (fun M H (J : It) (s : Src) => ItRep G M H J s) fi σ H fun J H1 => HT G H1 ∧ ∀ P H2 code, PPt G top P H1 → Grown P gpos q code H1 H2 → CIt G top gpos H2 code ∧ ∀ Z : Walker α, WalkJ G Z stp end_ Q → ∃ Wv : α → Nat → Nat → Hp → Prop, (∃ m, Wv a0 0 m H2) ∧ tTurn Z J (TGF G g ss) (TFB G W0 ft) (TFE G W0 fe) vs σ Wv := by
  refine (TF.bind (Rp := fun M H (J : It) (s : Src) => ItRep G M H J s) (k := fun ρ s h1 => if sameL s h1 then genL s g ft fe (wipeE ρ vs) stp end_ a0 s.xs h1 else .bad) t).mono fun J H0 ⟨M1, ρ1, h1, s, r0, e0, it0, o0⟩ => ⟨⟨M1, h1, r0⟩, fun P H1 code hPP htab => ⟨ci_of hPP htab, fun Z hZ => ?_⟩⟩
  obtain ⟨xt, r1⟩ := r0.grown htab hq
  have e1 := e0.ext xt
  have o1 := Out.ext xt o0
  cases hsl : sameL s h1 with
  | false => simp only [hsl] at o1; exact False.elim o1
  | true =>
    simp only [hsl, if_true] at o1
    obtain ⟨hz, it⟩ := it0
    refine ⟨fun a i m H => m = s.xs.length - i ∧ i ≤ s.xs.length ∧ ∃ (M : Gh) (h : PH), HRel G M H h ∧ Ext M1 H1 M H ∧ lvOk s h ∧ Out G W σ (fun M H (u : V) (v : PV) => Rep G M H u v) M H (genL s g ft fe (wipeE ρ1 vs) stp end_ a (s.xs.drop i) h) Q,
      ⟨s.xs.length, by simp, Nat.zero_le _, M1, h1, r1, Ext.refl _ _, sameL_ok hsl, by simpa using o1⟩, ?_⟩
    rintro a i m H2 ⟨rfl, hle, M2, h2, r2, x2, l2, o2⟩
    obtain ⟨go, stop⟩ := it M2 H2 h2 (xt.trans x2).tr r2 l2
    by_cases hlt : i < s.xs.length
    · obtain ⟨g1, g2⟩ := go i hlt
      rw [List.drop_eq_getElem_cons hlt] at o2
      unfold genL at o2
      cases hg1 : g s.xs[i] (wipeE ρ1 vs) with
      | none => simp only [hg1] at o2; exact False.elim o2
      | some ρ3 =>
        simp only [hg1] at o2
        refine .inr ⟨g1, fun a' H' => ∃ (M : Gh) (h : PH), HRel G M H' h ∧ Ext M1 H1 M H' ∧ lvOk s h ∧ Out G W σ (fun M H (u : V) (v : PV) => Rep G M H u v) M H' (genL s g ft fe (wipeE ρ1 vs) stp end_ a' (s.xs.drop (i + 1)) h) Q, fun a' H' q => ⟨s.xs.length - (i + 1), by omega, rfl, hlt, q⟩, fun u H3 y => ?_⟩
        obtain ⟨y1, y2, y3⟩ := g2 u H3 y
        have ew : ERel G M2 H2 (wipeE ρ1 vs) (L2.wipe σ vs) := (e1.ext x2).wipe vs
        refine ⟨M2, h2, s.xs[i], wipeE ρ1 vs, ρ3, y2, ew.ext y1, y3 _ (List.getElem?_eq_getElem hlt), hg1, fun σ4 e4 w4 => ⟨by rw [w4 vs hss, wipe_wipe], M2, ρ3, h2, y2, e4, ?_⟩⟩
        have o3 := Out.ext y1 o2
        cases hf1 : ft ρ3 h2 with
        | bad => simp only [hf1] at o3; exact False.elim o3
        | exc _ _ => simp only [hf1] at o3; exact False.elim o3
        | ok b h5 =>
          simp only [hf1] at o3
          intro b' M5 H5 x5 r5 p5
          subst p5
          have x5' := (x2.trans y1).trans x5
          cases b' with
          | false =>
            rw [if_neg Bool.false_ne_true]
            cases hsl5 : sameL s h5 with
            | false => simp only [hsl5] at o3; exact False.elim o3
            | true =>
              simp only [hsl5, if_true] at o3
              exact ⟨M5, h5, r5, x5', sameL_ok hsl5, Out.ext x5 o3⟩
          | true =>
            rw [if_pos rfl]
            simp only at o3
            refine ⟨M5, ρ3, h5, r5, e4.ext x5, ?_⟩
            cases hf2 : fe ρ3 h5 with
            | bad => simp only [hf2] at o3; exact False.elim o3
            | exc _ _ => simp only [hf2] at o3; exact False.elim o3
            | ok v h7 =>
              simp only [hf2] at o3
              intro u7 M7 H7 x7 r7 p7
              cases hsl7 : sameL s h7 with
              | false => simp only [hsl7] at o3; exact False.elim o3
              | true =>
                simp only [hsl7, if_true] at o3
                cases hst : stp a v with
                | none => simp only [hst] at o3; exact False.elim o3
                | some w =>
                  simp only [hst] at o3
                  cases w with
                  | inl a' => exact .inl ⟨a', hZ.step _ _ _ _ _ _ p7 hst, M7, h7, r7, x5'.trans x7, sameL_ok hsl7, Out.ext (x5.trans x7) o3⟩
                  | inr rr => exact .inr (hZ.stop _ _ _ _ _ _ p7 hst fun w pw => o3 w M7 H7 (x5.trans x7) r7 pw)
    · have e : i = s.xs.length := by omega
      subst e
      rw [List.drop_length] at o2
      exact .inl ⟨stop, hZ.fin M2 H2 a fun u pu => o2 u M2 H2 (Ext.refl _ _) r2 pu⟩
/-! ### the three -/
/-- the truth of a value that all and any meet -/
def trP : PV → Option Bool
  | .non => some false
  | .tup xs => some (!xs.isEmpty)
  | .kt xs => some (!xs.isEmpty)
  | .lst xs => some (!xs.isEmpty)
  | .bl x => some x
  | _ => none
def stB (b : Bool) : Unit → PV → Option (Unit ⊕ PV) := fun _ v => match trP v with
  | some x => if x == b then some (.inl ()) else some (.inr (.bl x))
  | none => none
theorem reps_empty {M : Gh} {H : Hp} {us : List V} {xs : List PV} (r : Reps G M H us xs) : (!xs.isEmpty) = !us.isEmpty := by
  cases us <;> cases xs <;> first | rfl | exact r.elim
theorem trP_ok {M : Gh} {H : Hp} {y : V} {v : PV} {x : Bool} (p : Rep G M H y v) (e : trP v = some x) : TrB G.K y H x := by
  cases v <;> first | (cases e; done) | skip
  · cases e; rw [show y = V.non from p]; rfl
  · cases e; rw [show y = V.bl _ from p]; rfl
  · cases e; obtain ⟨a, us, rfl, s, z, rs⟩ := p; exact .inr ⟨us, s.sq, reps_empty rs⟩
  · cases e; obtain ⟨a, us, rfl, n, s, z, rs⟩ := p; exact .inr ⟨us, .inl (.inl s), reps_empty rs⟩
  · cases e; obtain ⟨a, us, rfl, s, z, rs⟩ := p; exact .inl ⟨us, s.sq, reps_empty rs⟩
def enB (b : Bool) : Unit → PV := fun _ => .bl b
def inLongB (i : Int) : Bool := decide (-(2 ^ 63) ≤ i) && decide (i < 2 ^ 63)
def stS : Int → PV → Option (Int ⊕ PV) := fun a v => match v with
  | .int j => if inLongB j && inLongB (a + j) then some (.inl (a + j)) else none
  | _ => none
def allG (vs : List Nat) (fi : SI) (g : GF) (ft : SB) (fe : SE) : SE := genE vs fi g ft fe (stB true) (enB true) ()
def anyG (vs : List Nat) (fi : SI) (g : GF) (ft : SB) (fe : SE) : SE := genE vs fi g ft fe (stB false) (enB false) ()
def sumG (vs : List Nat) (fi : SI) (g : GF) (ft : SB) (fe : SE) : SE := genE vs fi g ft fe stS (fun a => .int a) 0
theorem walkB {b : Bool} {Q : VK} : WalkJ G (ZB G.K b (Q (.bl b)) (Q (.bl (!b)))) (stB b) (enB b) Q where
  step := fun M H y v a a' p e => by
    unfold stB at e
    split at e
    · rename_i x hx
      split at e
      · rename_i q
        show TrB G.K y H b
        rw [← eq_of_beq q]
        exact trP_ok p hx
      · cases e
    · cases e
  stop := fun M H y v a r p e k => by
    unfold stB at e
    split at e
    · rename_i x hx
      split at e
      · cases e
      · rename_i q
        cases e
        have : x = !b := by cases x <;> cases b <;> simp_all
        subst this
        exact ⟨trP_ok p hx, k _ rfl⟩
    · cases e
  fin := fun M H a k => k _ rfl
theorem walkS {S : Addr} {Q : VK} : WalkJ G (ZS S fun acc H => Q (.int acc) H) stS (fun a => .int a) Q where
  step := fun M H y v a a' p e => by
    unfold stS at e
    split at e
    · rename_i j
      cases p
      split at e
      · rename_i q
        cases e
        simp only [inLongB, Bool.and_eq_true, decide_eq_true_eq] at q
        exact ⟨j, rfl, q.1, q.2, rfl⟩
      · cases e
    · cases e
  stop := fun M H y v a r p e k => by
    unfold stS at e
    split at e
    · split at e <;> cases e
    · cases e
  fin := fun M H a k => k _ rfl
variable {top : Bool} {elt tg iter : Expr} {ifs : List Expr} {scope : Scope} {gpos p pos : Pos} {fi : SI} {g : GF} {ss : List Nat} {ft : SB} {fe : SE} {k : Nat}
/-- no cells of its own; the walked thing's name -/
def genC (scope : Scope) : Bool := (scope.names.all fun y => match y.2 with | .cell => false | _ => true) && decide (scope.names.lookup (".0" : Str) = some NameKind.local) && !scope.isCoroutine
theorem genC_ok {scope : Scope} (h : genC scope = true) : (∀ y ∈ scope.names, y.2 ≠ .cell) ∧ scope.names.lookup (".0" : Str) = some NameKind.local ∧ scope.isCoroutine = false := by
  unfold genC at h
  simp only [Bool.and_eq_true, List.all_eq_true, decide_eq_true_eq, Bool.not_eq_true'] at h
  refine ⟨fun y hy e => ?_, h.1.2, h.2⟩
  have := h.1.1 y hy
  rw [e] at this
  cases this
abbrev gin (X : Cx) (scope : Scope) (B : Around) (s : Shared) (H : Hp) (C : Addr) (code : Value) (fp : List Addr) : Cx := gx X B s H (gEnv X scope C code) fp
theorem je_all (own : List (Str × Nat)) (hr : Room (k + 1) X.A) (hm : X.mg "all" = none) (src : JSrc G X top) (hN : X.N.Nodup) (hi : JI G X W tg iter fi) (ok : blkC X.N X.env.scope scope own = true) (gc : genC scope = true)
    (hg : ∀ B s H C code fp, Room k B → CIt G top gpos H code → JG G (gin X scope B s H C code fp) tg g ss) (ht : ∀ B s H C code fp, Room k B → CIt G top gpos H code → JTs G (gin X scope B s H C code fp) W0 ifs ft) (he : ∀ B s H C code fp, Room k B → CIt G top gpos H code → JE G (gin X scope B s H C code fp) W0 elt fe)
    (hss : ∀ i ∈ ss, i ∈ own.map (·.2) := by decide) (hq : X.env.qual ++ "<genexpr>" = G.nm gpos.line gpos.col := by kernel_rfl) (hgl : Gl X "all" := by rfl) (hs : ∀ v, genFold iter X.env v = pure v := by intro _; rfl)
    (hst : starEach [.GeneratorExp elt [⟨tg, iter, ifs, 0⟩] scope gpos] X.env = (false, eval (.GeneratorExp elt [⟨tg, iter, ifs, 0⟩] scope gpos) X.env) :: starEach [] X.env := by rfl) (hK : G.K = X.K := by rfl) :
    JE G X W (.Call (.Name "all" p) [.GeneratorExp elt [⟨tg, iter, ifs, 0⟩] scope gpos] [] pos) (allG (own.map (·.2)) fi g ft fe) := by
  obtain ⟨c1, c2, c3⟩ := genC_ok gc
  obtain ⟨cc, cs⟩ := src
  refine pe_imp (pe_allG hr hgl hm (by decide +kernel) cs (blkOk_by ok) c1 c2 c3 hN hi hs hg ht he hst) fun σ H Q t => ?_
  exact TF.mono (gen_t (top := top) hq hss t) fun J H1 ⟨h1, h2⟩ => ⟨h1, fun P H2 code hp ht => by rw [← hK]; exact ⟨(h2 P H2 code hp ht).1, (h2 P H2 code hp ht).2 _ walkB⟩⟩
theorem je_any (own : List (Str × Nat)) (hr : Room (k + 1) X.A) (hm : X.mg "any" = none) (src : JSrc G X top) (hN : X.N.Nodup) (hi : JI G X W tg iter fi) (ok : blkC X.N X.env.scope scope own = true) (gc : genC scope = true)
    (hg : ∀ B s H C code fp, Room k B → CIt G top gpos H code → JG G (gin X scope B s H C code fp) tg g ss) (ht : ∀ B s H C code fp, Room k B → CIt G top gpos H code → JTs G (gin X scope B s H C code fp) W0 ifs ft) (he : ∀ B s H C code fp, Room k B → CIt G top gpos H code → JE G (gin X scope B s H C code fp) W0 elt fe)
    (hss : ∀ i ∈ ss, i ∈ own.map (·.2) := by decide) (hq : X.env.qual ++ "<genexpr>" = G.nm gpos.line gpos.col := by kernel_rfl) (hgl : Gl X "any" := by rfl) (hs : ∀ v, genFold iter X.env v = pure v := by intro _; rfl)
    (hst : starEach [.GeneratorExp elt [⟨tg, iter, ifs, 0⟩] scope gpos] X.env = (false, eval (.GeneratorExp elt [⟨tg, iter, ifs, 0⟩] scope gpos) X.env) :: starEach [] X.env := by rfl) (hK : G.K = X.K := by rfl) :
    JE G X W (.Call (.Name "any" p) [.GeneratorExp elt [⟨tg, iter, ifs, 0⟩] scope gpos] [] pos) (anyG (own.map (·.2)) fi g ft fe) := by
  obtain ⟨c1, c2, c3⟩ := genC_ok gc
  obtain ⟨cc, cs⟩ := src
  refine pe_imp (pe_anyG hr hgl hm cs (blkOk_by ok) c1 c2 c3 hN hi hs hg ht he hst) fun σ H Q t => ?_
  exact TF.mono (gen_t (top := top) hq hss t) fun J H1 ⟨h1, h2⟩ => ⟨h1, fun P H2 code hp ht => by rw [← hK]; exact ⟨(h2 P H2 code hp ht).1, (h2 P H2 code hp ht).2 _ walkB⟩⟩
theorem je_sum (own : List (Str × Nat)) (hr : Room (k + 1) X.A) (hm : X.mg "sum" = none) (src : JSrc G X top) (hN : X.N.Nodup) (hi : JI G X W tg iter fi) (ok : blkC X.N X.env.scope scope own = true) (gc : genC scope = true)
    (hg : ∀ B s H C code fp, Room k B → CIt G top gpos H code → JG G (gin X scope B s H C code fp) tg g ss) (ht : ∀ B s H C code fp, Room k B → CIt G top gpos H code → JTs G (gin X scope B s H C code fp) W0 ifs ft) (he : ∀ B s H C code fp, Room k B → CIt G top gpos H code → JE G (gin X scope B s H C code fp) W0 elt fe)
    (hss : ∀ i ∈ ss, i ∈ own.map (·.2) := by decide) (hq : X.env.qual ++ "<genexpr>" = G.nm gpos.line gpos.col := by kernel_rfl) (hgl : Gl X "sum" := by rfl) (hs : ∀ v, genFold iter X.env v = pure v := by intro _; rfl)
    (hst : starEach [.GeneratorExp elt [⟨tg, iter, ifs, 0⟩] scope gpos] X.env = (false, eval (.GeneratorExp elt [⟨tg, iter, ifs, 0⟩] scope gpos) X.env) :: starEach [] X.env := by rfl) :
    JE G X W (.Call (.Name "sum" p) [.GeneratorExp elt [⟨tg, iter, ifs, 0⟩] scope gpos] [] pos) (sumG (own.map (·.2)) fi g ft fe) := by
  obtain ⟨c1, c2, c3⟩ := genC_ok gc
  obtain ⟨cc, cs⟩ := src
  refine pe_imp (pe_sumG hr hgl hm (by decide +kernel) cs (blkOk_by ok) c1 c2 c3 hN hi hs hg ht he hst) fun σ H Q t => ?_
  exact TF.mono (gen_t (top := top) hq hss t) fun J H1 ⟨h1, h2⟩ => ⟨h1, fun P H2 code S hp ht => ⟨(h2 P H2 code hp ht).1, (h2 P H2 code hp ht).2 _ walkS⟩⟩
end
end J

set_option maxHeartbeats 1000000
/-! J: isinstance of built-in types; what is never reached. -/
namespace J
open PySem PySem.Spec PyProof.Rows L2 GxR
def tyL : Option PO → Option String
  | some (.lst _) => some "list"
  | some (.dic _ _ _) => some "dict"
  | _ => none
def tyN (h : PH) : PV → Option String
  | .non => some "NoneType"
  | .bl _ => some "bool"
  | .int _ => some "int"
  | .str _ => some "str"
  | .tup _ => some "tuple"
  | .kt _ => some "tuple"
  | .lst _ => some "list"
  | .dic false _ _ => some "dict"
  | .loc n => tyL h[n]?
  | _ => none
def isiT (t c : String) : Bool := t == c || (t == "bool" && c == "int")
theorem isiT_ok {K : PySem.W.Frag} {t c : String} (ht : t ∈ ["NoneType", "bool", "int", "str", "tuple", "list", "dict"]) (hc : c ∈ ["int", "str", "bool", "tuple", "list", "dict"]) : PySem.W.kitOne K (.type t) (.type c) = some (isiT t c) := by
  refine kit_ty ?_
  have : (["NoneType", "bool", "int", "str", "tuple", "list", "dict"].all fun t => ["int", "str", "bool", "tuple", "list", "dict"].all fun c => decide (kitB t c = some (isiT t c))) = true := by decide +kernel
  rw [List.all_eq_true] at this
  have h1 := this t ht
  rw [List.all_eq_true] at h1
  exact of_decide_eq_true (h1 c hc)
section
variable {G : Gc} {X : Cx} {W : WX}
theorem tyN_in {h : PH} {v : PV} {t : String} (e : tyN h v = some t) : t ∈ ["NoneType", "bool", "int", "str", "tuple", "list", "dict"] := by
  cases v with
  | loc n =>
    have e : tyL h[n]? = some t := e
    cases ho : h[n]? with
    | none => rw [ho] at e; cases e
    | some o => rw [ho] at e; cases o <;> first | (cases e; done) | (cases e; decide)
  | dic t ks vs =>
    cases t with
    | false => cases e; decide
    | true => cases e
  | _ => cases e; decide
theorem tyN_ok {M : Gh} {H : Hp} {h : PH} {u : V} {v : PV} {t : String} (r : HRel G M H h) (p : Rep G M H u v) (e : tyN h v = some t) : TyX G.K H u (.type t) := by
  cases v with
  | non => cases p; cases e; exact .base .non
  | bl b => cases p; cases e; exact .base (.bl b)
  | int b => cases p; cases e; exact .base (.int b)
  | str b => cases p; cases e; exact .base (.str b)
  | tup xs =>
    cases e
    obtain ⟨a, us, rfl, (⟨_, o, _, q⟩ | ⟨o, its, n, q1, q2, _⟩), _⟩ := p
    · exact .fTuple q
    · exact .kTuple q1 q2
  | kt xs =>
    cases e
    obtain ⟨a, us, rfl, _, q, _⟩ := p
    exact .base (.tup q)
  | lst xs =>
    cases e
    obtain ⟨a, us, rfl, (⟨_, (q | ⟨o, q⟩)⟩ | ⟨o, its, n, q1, q2, _⟩), _⟩ := p
    · exact .base (.lst q)
    · exact .base (.frz q)
    · exact .kList q1 q2
  | dic t ks vs =>
    cases t with
    | true => cases e
    | false =>
      cases e
      obtain ⟨a, o, d, us, rfl, _, hd, ⟨kvs, rfl, _⟩, _⟩ := p
      exact .fDict hd
  | loc n =>
    obtain ⟨a, rfl, ha⟩ := p
    have e : tyL h[n]? = some t := e
    cases ho : h[n]? with
    | none => rw [ho] at e; cases e
    | some o =>
      rw [ho] at e
      obtain ⟨a', ha', _, ro⟩ := r.obj n o ho
      rw [ha] at ha'; cases ha'
      cases o with
      | lst xs => cases e; obtain ⟨us, q, _⟩ := ro; exact .base (.lst q)
      | dic t ks vs =>
        cases e
        obtain ⟨us, d, q, dd, _⟩ := ro
        cases t with
        | false => obtain ⟨kvs, rfl, _⟩ := dd; exact .base (.dK q)
        | true => obtain ⟨kvs, rfl, _⟩ := dd; exact .base (.dT q)
      | dead => cases e
      | ins c fs => cases e
def isi (c : String) (f : SE) : SE := fun ρ h => (f ρ h).bind fun v h1 => R.of h1 ((tyN h1 v).map fun t => .bl (isiT t c))
theorem je_isi (c : String) {e : Expr} {f : SE} {x : Str} {p p2 pos : Pos} (hK : G.K = X.K) (hm : X.mg "isinstance" = none) (hmx : X.mg x = none) (he : JE G X W e f) (hc : c ∈ ["int", "str", "bool", "tuple", "list", "dict"] := by decide) (hv : bootBuiltins x = some (.type c) := by decide +kernel)
    (hg : Gl X "isinstance" := by rfl) (hgx : Gl X x := by rfl) (hn : x ≠ "__name__" := by decide) (hd : (x == ("__debug__" : Str)) = false := by decide)
    (hs : starEach (e :: [.Name x p2]) X.env = (false, eval e X.env) :: starEach [.Name x p2] X.env := by rfl) (hpl : (backTo pos (starEach [.Name x p2] X.env)).any (·.1) = false := by rfl) : JE G X W (.Call (.Name "isinstance" p) [e, .Name x p2] [] pos) (isi c f) := by
  refine pe_imp (pe_callB call_isi hg hm (by decide +kernel) (pa_cons he (pa_cons (pe_bltn (v := .ty c) hgx hmx hv rfl hn hd) pa_nil) hs) (by decide) (by decide) hs hpl) fun σ H Q t => ?_
  refine (TF.bind (Rp := fun M H (u : V) (v : PV) => Rep G M H u v) (k := fun ρ v h1 => R.of h1 ((tyN h1 v).map fun t => PV.bl (isiT t c))) t).mono fun u H1 ⟨M1, ρ, h1, v, r1, e1, q, o⟩ => ?_
  cases ht : tyN h1 v with
  | none => rw [ht] at o; exact False.elim o
  | some t =>
    rw [ht] at o
    refine ⟨u, .ty c, .type t, .type c, isiT t c, rfl, .ty c, ?_, isiT_ok (tyN_in ht) hc, ?_⟩
    · rw [← hK]; exact tyN_ok r1 q ht
    · exact o _ M1 H1 (Ext.refl _ _) r1 rfl
/-- what the pure one never reaches -/
def sbad : SS := fun _ _ => .bad
def ebad : SE := fun _ _ => .bad
theorem js_never {s : Stmt} : JS G X W s sbad := ⟨fun _ _ _ _ _ _ ⟨_, _, _, _, _, o⟩ => o.elim⟩
theorem je_never {e : Expr} : JE G X W e ebad := ⟨fun _ _ _ _ _ _ ⟨_, _, _, _, _, o⟩ => o.elim⟩
@[simp] theorem isi_ev (c : String) (f : SE) (ρ : En) (h : PH) : isi c f ρ h = (f ρ h).bind fun v h1 => R.of h1 ((tyN h1 v).map fun t => .bl (isiT t c)) := nrfl rfl
end
end J

set_option maxHeartbeats 1000000
/-! J: defs with their code objects, the end by the head's facts. -/
namespace J
open PySem PySem.Spec PyProof.Rows L2 GxR
/-- the global part: tf, the defs that make code objects -/
abbrev GX (K : PySem.W.Frag) (tf : List He.Defn) (nm : Nat → Nat → Str) (mg : Str → Option Value) : Gc := ⟨K, tf.map fun p => (He.cT K p).2, mg, nm⟩
abbrev FnP (K : PySem.W.Frag) (x : Str) (st : Stmt) (f : Addr) (fd : FuncData) : Prop := FunD K x x (defArgs st) (defBody st) (defScope st) [] [] f fd
section
variable {P : Program} {w : World} {K : PySem.W.Frag} {mg : Str → Option Value} {base : Heap} {G : Gc}
theorem def_okD {x : Str} {st : Stmt} {fd : FuncData} {N ps : List Str} {k : Nat} (md : Md) (m : List PV → PH → R PV) (F : FnP K x st (He.fAd K (x, none)) fd) (S : FnScope N ps (defScope st)) {fb : SS}
    (body : ∀ (cdv : Value) (A : Around) (outer : List Env) (s : Shared) (H : Hp) (E : XK), cdv = .ref (He.cT K (x, none)).1 → Room k (A.deeper (envOfC x (defScope st) s.heap.objs.size (He.fAd K (x, none)) cdv)) →
      JSs G (cxOf (L2.CX P w) P w K mg base N x (defScope st) (He.fAd K (x, none)) cdv A outer s H E) (fun cls d _ H => E cls d H) (defBody st) fb)
    (hm : ∀ args h, args.length = ps.length → m args h = .bad ∨ m args h = trimR md h.length (fin (fb (startE N.length args) h))) : FnOk P w K mg base (L2.CX P w) (k + 1) (He.fAd K (x, none)) fd ps (spJ G ps.length m) := by
  obtain ⟨oc, od, dV, kV, doc, pm, an, cdv, ct, osl, rfl, lk, hcd, _, _⟩ := F.ex
  have hcode : cdv = .ref (He.cT K (x, none)).1 := by
    obtain ⟨c, e⟩ := He.codeIn_ref hcd
    rw [e]
    show Value.ref c = .ref (He.codeOf K (x, none))
    rw [He.codeOf_eq lk e]
  refine fn_of lk hcd S (fun vs H Q E h => ?_) fun A outer s H vs Q E hr h => ?_
  · obtain ⟨M, args, hh, r, rs, hl, _⟩ := h
    rw [rs.length, hl]
  · obtain ⟨M, args, hh, r, rs, hl, o⟩ := h
    refine ⟨_, body cdv A outer s H E hcode hr, M, startE N.length args, hh, r, start_rel rs, ?_⟩
    rcases hm args hh hl with hb | he
    · rw [hb] at o; exact False.elim o
    · rw [he] at o
      exact fin_ok r o
theorem knownD {x : Str} {k n : Nat} {m : List PV → PH → R PV} {st : Stmt} {fd : FuncData} {ps : List Str} (F : FnOk P w K mg base (L2.CX P w) k (He.fAd K (x, none)) fd ps (spJ G n m)) (hf : FnP K x st (He.fAd K (x, none)) fd) (hm : mg x = some (.ref (He.fAd K (x, none))))
    (hb : Binds K fd ps []) (hl : ps.length = n) : Known P w K mg base G x k n m := ⟨_, fd, ps, F, hm, hf.kp, hb, hl⟩
theorem tabG_of {mg : Str → Option Value} {c P : Addr} (t : LamX.TabB base mg c P) : GxR.TabB base mg c P := ⟨t.code, t.bm, t.gP⟩
theorem tabs_of {tf : List He.Defn} (h : ∀ q ∈ tf.map (He.cT K), LamX.TabB base mg q.1 q.2) : ∀ p ∈ tf, GxR.TabB base mg (He.cT K p).1 (He.cT K p).2 := fun p hp => tabG_of (h _ (List.mem_map.mpr ⟨p, hp, rfl⟩))
end
/-- the law's promise at the head's heap -/
theorem lawAt {l : PySem.W.OpenLaw} {w : World} {K : PySem.W.Frag} {mg : Str → Option Value} {h : Heap} {fa : List He.Fa} {fn : List He.DefD} {tf : List He.Defn} {nm : Nat → Nat → Str} {ex : PySem.W.Frag → Bool} {k : Nat} {f : Addr} {fd : FuncData} {m : List PV → PH → R PV} (X : K.In h) (c : He.SaysX fa fn [] tf ex w h K)
    (hb : ∀ (s : Shared) (u : Value), BindsTo s fd ⟨[u], []⟩ [("script", u)]) (hm : LawTrue m)
    (hF : ∀ base : Heap, K.In base → base.Ns mainGlobals mg → (∀ p ∈ tf, GxR.TabB base mg (He.cT K p).1 (He.cT K p).2) → FnOk l.prog w K mg base (L2.CX l.prog w) k f fd ["script"] (spJ (GX K tf nm mg) 1 m)) :
    LamX.LawAtS l w K (L2.CX l.prog w) k 63 "script" mg f h := by
  refine ⟨fd, tf.map (He.cT K), spEnd K (tf.map fun p => (He.cT K p).2), fun q hq => ?_, fun q hq => ?_, fun q hq => ?_, hb, fun H a ns hl hbits hT hS => ⟨a, ns, rfl, hS, hl, hbits, fun P hP => ?_, fun _ => rfl⟩, fun base h1 h2 h3 => (hF base h1 h2 (tabs_of h3)).imp (end_sp hm)⟩
  · obtain ⟨p, hp, rfl⟩ := List.mem_map.mp hq
    exact c.empty p hp
  · obtain ⟨p, hp, rfl⟩ := List.mem_map.mp hq
    exact c.out p hp
  · obtain ⟨p, hp, rfl⟩ := List.mem_map.mp hq
    exact PySem.W.codeHd_of_K X (c.hd p hp)
  · obtain ⟨p, hp, rfl⟩ := List.mem_map.mp hP
    exact hT _ (List.mem_map.mpr ⟨p, hp, rfl⟩)
end J

/-! J: raise X("..."), try .. except X. -/
namespace J
open PySem PySem.Spec PyProof.Rows L2
/-- the classes of errors of the program -/
def XL : List Str := ["ChoiceError", "BadName", "BadBallot", "BadProfile", "BadText", "BadOrder", "BadNumber", "BadWishes", "BadPaper", "BadGames", "TooLarge", "BadDeed"]
def subX (c d : Str) : Option Bool := if XL.contains c && XL.contains d then some (c == d || d == "ChoiceError") else none
theorem XL_boot : ∀ c ∈ XL, bootBuiltins c = none := by decide +kernel
/-- the pure order of the classes is the model's -/
structure XOk (G : Gc) : Prop where
  sub : ∀ c d b cls dv, subX c d = some b → G.mg c = some cls → G.mg d = some dv → PySem.W.exmOne G.K cls dv = some b
theorem subX_l {c d : Str} {b : Bool} (h : subX c d = some b) : c ∈ XL := by
  unfold subX at h
  split at h
  · rename_i q
    simp only [Bool.and_eq_true, List.contains_iff_mem] at q
    exact q.1
  · cases h
theorem XOk.at {G : Gc} (x : XOk G) {M : Gh} {H : Hp} {e : Ex} {cls : Value} {d : Option Addr} (r : XRep G M H e cls d) {c : Str} {b : Bool} {dv : Value} (h : subX e.cls c = some b) (hd : G.mg c = some dv) : PySem.W.exmOne G.K cls dv = some b := by
  rcases r.1 with q | ⟨_, q⟩
  · exact x.sub _ _ _ _ _ h q hd
  · rw [XL_boot _ (subX_l h)] at q; cases q
def sraise (c : Str) : SS := fun ρ h => .ex ⟨c, none⟩ ρ h
def noex : RS → RS
  | .ex _ _ _ => .bad
  | r => r
theorem noex_out {G : Gc} {W : WX} {M : Gh} {H : Hp} {r : RS} {D : Ends} (o : OutS G W M H (noex r) D) : OutS G W0 M H r D := by
  cases r <;> first | exact o | exact False.elim o
def stryX (c : Str) (fs : SS) (e : Ex) (ρ : En) (h : PH) : RS := match subX e.cls c with
  | some true => noex (fs ρ h)
  | some false => .ex e ρ h
  | none => .bad
def stryK (c : Str) (fs : SS) : RS → RS
  | .ex e ρ h => stryX c fs e ρ h
  | r => r
/-- try: fb / except c: fs -/
def stry1 (c : Str) (fb fs : SS) : SS := fun ρ h => stryK c fs (fb ρ h)
section
variable {G : Gc} {X : Cx} {W : WX}
theorem js_raise {x m : Str} {j : Nat} {p p2 p3 pos : Pos} {C : Addr} (hmg : G.mg = X.mg) (tk : Takes X W) (q : PySem.W.excIn X.K C He.veBase "ValueError.__new__" = true) (gC : X.mg x = some (.ref C)) (kC : PySem.W.keepIn X.K (.ref C) = true)
    (h1 : PySem.W.subIn X.K (.ref C) (.type "BaseException") = some true) (h2 : PySem.W.typeIn X.K (.ref C) = some (.type "type")) (hg : Gl X x := by rfl) (hc : X.calm = true := by rfl) (hdb : (x == ("__debug__" : Str)) = false := by decide) :
    JS G X W (.Raise (some (.Call (.Name x p) [.Constant (.str m) j p2] [] p3)) none pos) (sraise x) := by
  refine ps_imp (ps_raise hc tk (pmk_own PySem.F.excBase_ValueError q gC kC (raises_own h1 h2) hg hdb)) fun D σ H t => ?_
  obtain ⟨M, ρ, h, r, e, o⟩ := t
  exact o (.ref C) none σ M H (Ext.refl M H) r e ⟨.inl (by rw [hmg]; exact gC), fun v hv => by cases hv⟩
theorem js_try1 {c : Str} {C : Addr} {body suite : List Stmt} {b0 : Stmt} {np pos pos' : Pos} {fb fs : SS} (x : XOk G) (hK : G.K = X.K) (hmg : G.mg = X.mg) (gC : X.mg c = some (.ref C)) (tk : Takes X W)
    (hb : ∀ (W : WX) (pn : List (Addr × Obj)) (xe : Value → Shared → Prop), Takes (X.tr pn xe) W → PassesOwn (model X.prog X.w) X.A X.env xe → JSs G (X.tr pn xe) W body fb)
    (hsu : ∀ (a : Addr) (oe : Obj) (pn : List (Addr × Obj)), JSs G (X.suite a ((a, oe) :: pn)) W0 (b0 :: suite) fs)
    (hs : X.stack = X.env :: X.outer := by rfl) (hf : X.env.frame = some X.env.locals := by rfl) (hg : Gl X c := by rfl) (hdb : (c == ("__debug__" : Str)) = false := by decide) :
    JS G X W (.Try body [.ExceptHandler (some (.Name c np)) none (b0 :: suite) pos'] [] [] pos) (stry1 c fb fs) := by
  refine ps_imp (ps_try_only (c := .ref C) (tb := fun W => TSF G W fb) (ts := fun _ _ _ => TSF G W0 fs) hs hf ⟨hg, hdb, .inl gC⟩ tk hb fun a oe cls d pn _ _ => hsu a oe pn) fun D σ H t => ?_
  obtain ⟨M, ρ, h, r, e, o⟩ := t
  refine ⟨M, ρ, h, r, e, ?_⟩
  revert o
  unfold stry1
  cases fb ρ h with
  | ex ee ρ' h' =>
    intro o cls d σ' M' H' xt r' e' xr
    have o : OutS G W M H (stryX c fs ee ρ' h') D := o
    unfold stryX at o
    revert o
    cases hq : subX ee.cls c with
    | none => exact fun o => False.elim o
    | some b =>
      have hx : PySem.W.exmOne X.K cls (.ref C) = some b := by
        rw [← hK]
        exact x.at xr hq (by rw [hmg]; exact gC)
      cases b with
      | true => exact fun o => ⟨true, hx, fun _ a _ => ⟨M', ρ', h', r', e', OutS.ext xt (noex_out o)⟩, (fun z => by cases z)⟩
      | false => exact fun o => ⟨false, hx, (fun z => by cases z), fun _ => o cls d σ' M' H' xt r' e' xr⟩
  | nx ρ' h' => exact fun o => o
  | rt v h' => exact fun o => o
  | bk ρ' h' => exact fun o => o
  | ct ρ' h' => exact fun o => o
  | bad => exact fun o => o
variable (f g fs : SS) (ρ : En) (h : PH) (v : PV) (c : Str)
@[simp] theorem sraise_ev : sraise c ρ h = .ex ⟨c, none⟩ ρ h := nrfl rfl
@[simp] theorem stry1_ev : stry1 c f fs ρ h = stryK c fs (f ρ h) := nrfl rfl
@[simp] theorem stryK_nx : stryK c fs (.nx ρ h) = .nx ρ h := nrfl rfl
@[simp] theorem stryK_rt : stryK c fs (.rt v h) = .rt v h := nrfl rfl
end
/-! ### the classes by the head's facts -/
/-- P0: classes without an __init__ of their own; P: all that the text has -/
def clsB (P0 P : List Str) (K : PySem.W.Frag) : Bool :=
  (P.all fun c => (He.Fa.glo c).ok K) && ((XL.all fun c => P.contains c || (He.Fa.free c).ok K) && ((P.all fun c => P.all fun d => decide (PySem.W.exmOne K (.ref (He.ga K c)) (.ref (He.ga K d)) = subX c d)) && P0.all fun c => (He.Fa.exc c).ok K))
structure ClsOk (G : Gc) (P0 P : List Str) : Prop where
  glo : ∀ c ∈ P, G.mg c = some (.ref (He.ga G.K c))
  exc : ∀ c ∈ P0, (He.Fa.exc c).ok G.K = true
  ok : XOk G
theorem subX_r {c d : Str} {b : Bool} (h : subX c d = some b) : d ∈ XL := by
  unfold subX at h
  split at h
  · rename_i q
    simp only [Bool.and_eq_true, List.contains_iff_mem] at q
    exact q.2
  · cases h
theorem clsB_ok {P0 P : List Str} {K : PySem.W.Frag} {T : List Addr} {h : Heap} {mg : Str → Option Value} {nm : Nat → Nat → Str} (X : K.In h) (G : h.Ns mainGlobals mg) (e : clsB P0 P K = true) : ClsOk ⟨K, T, mg, nm⟩ P0 P := by
  unfold clsB at e
  simp only [Bool.and_eq_true, List.all_eq_true] at e
  obtain ⟨e1, e2, e3, e4⟩ := e
  have g : ∀ c ∈ P, mg c = some (.ref (He.ga K c)) := fun c hc => He.glo_ok X G (e1 c hc)
  refine ⟨g, e4, ⟨fun c d b cls dv hs hc hd => ?_⟩⟩
  have inP : ∀ c v, c ∈ XL → mg c = some v → c ∈ P := fun c v hx hm => by
    have q := e2 c hx
    rcases Bool.or_eq_true_iff.mp q with q | q
    · exact List.contains_iff_mem.mp q
    · rw [He.free_ok X G q] at hm; cases hm
  have hcP := inP c cls (subX_l hs) hc
  have hdP := inP d dv (subX_r hs) hd
  have q := of_decide_eq_true (e3 c hcP d hdP)
  have e5 : cls = .ref (He.ga K c) := Option.some.inj (hc.symm.trans (g c hcP))
  have e6 : dv = .ref (He.ga K d) := Option.some.inj (hd.symm.trans (g d hdP))
  rw [e5, e6]
  exact q.trans hs
theorem js_raiseC {G : Gc} {X : Cx} {W : WX} {P0 P : List Str} {x m : Str} {j : Nat} {p p2 p3 pos : Pos} (c : ClsOk G P0 P) (tk : Takes X W) (hx0 : x ∈ P0 := by decide) (hx : x ∈ P := by decide) (hK : G.K = X.K := by rfl) (hmg : G.mg = X.mg := by rfl) (hg : Gl X x := by rfl) (hc : X.calm = true := by rfl)
    (hdb : (x == ("__debug__" : Str)) = false := by decide) : JS G X W (.Raise (some (.Call (.Name x p) [.Constant (.str m) j p2] [] p3)) none pos) (sraise x) := by
  obtain ⟨c1, c2, c3, c4⟩ := He.exc_ok (c.exc x hx0)
  have g := c.glo x hx
  rw [hK] at c1 c2 c3 c4
  exact js_raise hmg tk c1 (by rw [← hmg, g, hK]) c2 c3 c4 hg hc hdb
theorem js_try1C {G : Gc} {X : Cx} {W : WX} {P0 P : List Str} {c : Str} {body suite : List Stmt} {b0 : Stmt} {np pos pos' : Pos} {fb fs : SS} (x : ClsOk G P0 P) (tk : Takes X W)
    (hb : ∀ (W : WX) (pn : List (Addr × Obj)) (xe : Value → Shared → Prop), Takes (X.tr pn xe) W → PassesOwn (model X.prog X.w) X.A X.env xe → JSs G (X.tr pn xe) W body fb)
    (hsu : ∀ (a : Addr) (oe : Obj) (pn : List (Addr × Obj)), JSs G (X.suite a ((a, oe) :: pn)) W0 (b0 :: suite) fs) (hx : c ∈ P := by decide) (hK : G.K = X.K := by rfl) (hmg : G.mg = X.mg := by rfl)
    (hs : X.stack = X.env :: X.outer := by rfl) (hf : X.env.frame = some X.env.locals := by rfl) (hg : Gl X c := by rfl) (hdb : (c == ("__debug__" : Str)) = false := by decide) :
    JS G X W (.Try body [.ExceptHandler (some (.Name c np)) none (b0 :: suite) pos'] [] [] pos) (stry1 c fb fs) :=
  js_try1 x.ok hK hmg (by rw [← hmg]; exact x.glo c hx) tk hb hsu hs hf hg hdb
end J

/-! J: in for texts, is for truths. -/
namespace J
open PySem PySem.Spec PyProof.Rows L2
/-- the one sign of a text -/
def sign1 : PV → Option Nat
  | .str ⟨⟨[c]⟩⟩ => some c
  | _ => none
theorem sign1_eq {x : PV} {c : Nat} (h : sign1 x = some c) : x = .str ⟨#[c]⟩ := by
  unfold sign1 at h
  split at h
  · cases h; rfl
  · cases h
def inJ (x y : PV) (h : PH) : Option PV := match y with
  | .str z => (sign1 x).map fun c => .bl (decide (c ∈ z.cps.toList))
  | _ => inO x y h
def ninJ (x y : PV) (h : PH) : Option PV := match y with
  | .str z => (sign1 x).map fun c => .bl (!decide (c ∈ z.cps.toList))
  | _ => ninO x y h
def isJ (x y : PV) (h : PH) : Option PV := match y with
  | .bl b => (match x with
    | .bl a => some (.bl (decide (a = b)))
    | _ => none)
  | _ => isO x y h
def isnJ (x y : PV) (h : PH) : Option PV := match y with
  | .bl b => (match x with
    | .bl a => some (.bl (!decide (a = b)))
    | _ => none)
  | _ => isnO x y h
section
variable {G : Gc} {X : Cx} {W : WX}
def rInJ (K : PySem.W.Frag) : R2 := fun x y H Q => rInP K false x y H Q ∨ (∃ (c : Nat) (z : Str), x = .str ⟨#[c]⟩ ∧ y = .str z ∧ Q (.bl (decide (c ∈ z.cps.toList))) H)
def rNinJ (K : PySem.W.Frag) : R2 := fun x y H Q => rInP K true x y H Q ∨ (∃ (c : Nat) (z : Str), x = .str ⟨#[c]⟩ ∧ y = .str z ∧ Q (.bl (!decide (c ∈ z.cps.toList))) H)
theorem op_inJ (hu : X.A.units + 64 < cLine) : OpR X (compareOp .In) (rInJ X.K) := OpR.or (op_inP hu) op_in_sign
theorem op_ninJ (hu : X.A.units + 64 < cLine) : OpR X (compareOp .NotIn) (rNinJ X.K) := OpR.or (op_ninP hu) op_notIn_sign
theorem oj_inJ : OpJ G (rInJ G.K) inJ := by
  intro M h H u v x y z Q r p q e k
  unfold inJ at e
  split at e
  · rename_i t
    cases hs : sign1 x with
    | none => rw [hs] at e; cases e
    | some c =>
      rw [hs] at e
      cases e
      have := sign1_eq hs
      subst this
      exact .inr ⟨c, t, p, q, k _ H (Ext.refl M H) r rfl⟩
  · exact .inl (oj_in M h H u v x y z Q r p q e k)
theorem oj_ninJ : OpJ G (rNinJ G.K) ninJ := by
  intro M h H u v x y z Q r p q e k
  unfold ninJ at e
  split at e
  · rename_i t
    cases hs : sign1 x with
    | none => rw [hs] at e; cases e
    | some c =>
      rw [hs] at e
      cases e
      have := sign1_eq hs
      subst this
      exact .inr ⟨c, t, p, q, k _ H (Ext.refl M H) r rfl⟩
  · exact .inl (oj_nin M h H u v x y z Q r p q e k)
def rIsJ : R2 := fun x y H Q => (y = .non ∧ Q (.bl (decide (x = .non))) H) ∨ (∃ a b, x = .bl a ∧ y = .bl b ∧ Q (.bl (decide (a = b))) H)
def rIsnJ : R2 := fun x y H Q => (y = .non ∧ Q (.bl (!decide (x = .non))) H) ∨ (∃ a b, x = .bl a ∧ y = .bl b ∧ Q (.bl (!decide (a = b))) H)
theorem op_isJ : OpR X (compareOp .Is) rIsJ := OpR.or op_isN op_is_bl
theorem op_isnJ : OpR X (compareOp .IsNot) rIsnJ := OpR.or op_notN op_isnot_bl
theorem oj_isJ : OpJ G rIsJ isJ := by
  intro M h H u v x y z Q r p q e k
  unfold isJ at e
  split at e
  · rename_i b
    cases x <;> first | (cases e; done) | skip
    rename_i a
    cases e
    exact .inr ⟨a, b, p, q, k _ H (Ext.refl M H) r rfl⟩
  · exact .inl (oj_is M h H u v x y z Q r p q e k)
theorem oj_isnJ : OpJ G rIsnJ isnJ := by
  intro M h H u v x y z Q r p q e k
  unfold isnJ at e
  split at e
  · rename_i b
    cases x <;> first | (cases e; done) | skip
    rename_i a
    cases e
    exact .inr ⟨a, b, p, q, k _ H (Ext.refl M H) r rfl⟩
  · exact .inl (oj_isn M h H u v x y z Q r p q e k)
end
end J

/-! J: mutable objects become values; dicts. -/
namespace J
open PySem PySem.Spec PyProof.Rows L2
/-! ### a mutable object becomes a value -/
def frzK (i : Nat) (f : SS) (ρ : En) (h : PH) (n : Nat) : Option PO → RS
  | some (.lst xs) => f (ρ.set i (some (.lst xs))) (h.set n .dead)
  | some (.dic t ks vs) => f (ρ.set i (some (.dic t ks vs))) (h.set n .dead)
  | _ => .bad
def frz (i : Nat) (f : SS) : SS := fun ρ h => match ρ[i]? with
  | some (some (.loc n)) => frzK i f ρ h n h[n]?
  | _ => .bad
section
variable {G : Gc} {X : Cx} {W : WX}
theorem pss_lock {body : List Stmt} {t : TS} (hb : PSs X body t) : PSs X body (fun D σ H => ∃ a u, H a = some u ∧ Mut (some u) ∧ ∀ od, t D σ (upd H a (.frz od u))) :=
  ⟨fun pins s σ H D I ⟨a, u, e, m, q⟩ => by
    obtain ⟨od, I2⟩ := I.lock e m
    exact hb.run pins s σ _ D I2 (q od)⟩
theorem Ext.kill {M : Gh} {H : Hp} {h : PH} (r : HRel G M H h) {n : Nat} {a : Addr} {u : HO} (ha : M.L[n]? = some a) (hD : a ∉ M.D) : Ext M H (M.kill a) (upd H a u) :=
  ⟨⟨[], [a], by simp [Gh.kill], by simp⟩, fun b o e k t => by
    have hb : b ≠ a := fun z => by subst z; exact hD (k (List.mem_of_getElem? ha))
    exact (upd_ne hb).trans e, fun b e => by
    by_cases z : b = a
    · rw [z, upd_same]; simp
    · rw [upd_ne z]; exact e⟩
theorem HRel.kill {M : Gh} {H : Hp} {h : PH} (r : HRel G M H h) {n : Nat} {a : Addr} {u : HO} (ha : M.L[n]? = some a) (hD : a ∉ M.D) (nt : ∀ u, Fix u → H a ≠ some u) (nd : ∀ b, H a ≠ some (.own b)) : HRel G (M.kill a) (upd H a u) (h.set n .dead) where
  nd := r.nd
  apart := r.apart
  len := by rw [List.length_set]; exact r.len
  hid := fun b hb => (Ext.kill r ha hD).dom b (r.hid b hb)
  hidT := fun b hb xs q => by
    have hba : b ≠ a := fun z => r.apart a (List.mem_of_getElem? ha) (z ▸ hb)
    rw [upd_ne hba] at q
    exact r.hidT b hb xs q
  dsub := fun b hb => by
    rcases List.mem_cons.mp hb with q | q
    · rw [q]; exact List.mem_of_getElem? ha
    · exact r.dsub b q
  live0 := fun b hb => (Ext.kill r ha hD).dom b (r.live0 b hb)
  obj := fun k ob e => by
    by_cases hk : n = k
    · subst hk
      have hl : n < h.length := by
        have := (List.getElem?_eq_some_iff.mp e).1
        simpa using this
      rw [List.getElem?_set_self hl] at e
      cases e
      exact ⟨a, ha, fun z => absurd rfl z, List.mem_cons_self⟩
    · rw [List.getElem?_set_ne hk] at e
      obtain ⟨b, h1, h3, h2⟩ := r.obj k ob e
      have hba : b ≠ a := fun z => by
        subst z
        obtain ⟨p1, q1⟩ := List.getElem?_eq_some_iff.mp h1
        obtain ⟨p2, q2⟩ := List.getElem?_eq_some_iff.mp ha
        exact hk ((List.getElem_inj r.nd).mp (q2.trans q1.symm))
      refine ⟨b, h1, fun z w => ?_, h2.ext (Ext.kill r ha hD) (upd_ne hba) fun dx e _ => upd_ne fun z => nd b (z ▸ e)⟩
      rcases List.mem_cons.mp w with w | w
      · exact hba w
      · exact h3 z w
  tab := fun P hP => (r.tab P hP).keep fun b u e f => (upd_ne (show b ≠ a from fun z => nt u f (z ▸ e))).trans e
theorem HRel.killed {M : Gh} {H : Hp} {h : PH} (r : HRel G M H h) {n : Nat} {a : Addr} (ha : M.L[n]? = some a) : a ∉ M.kill a := fun z => by
  rcases z with ⟨_, z⟩ | z
  · exact z List.mem_cons_self
  · exact r.apart a (List.mem_of_getElem? ha) z
theorem jss_frz {body : List Stmt} {f : SS} (i : Nat) (hb : JSs G X W body f) : JSs G X W body (frz i f) := by
  refine pss_imp (pss_lock hb) fun D σ H t => ?_
  obtain ⟨M, ρ, h, r, e, o⟩ := t
  unfold frz at o
  split at o
  · rename_i n hρ
    obtain ⟨u, hu, b, rfl, hb⟩ := e.2 i _ hρ
    have sset : ∀ {M' : Gh} {H' : Hp} {v : PV}, Ext M H M' H' → Rep G M' H' (.ref b) v → ERel G M' H' (ρ.set i (some v)) σ := fun {M' H' v} x p => by
      have := (e.ext x).set (i := i) p
      have hs : σ.set i (some (V.ref b)) = σ := by
        apply List.ext_getElem?
        intro j
        by_cases hj : i = j
        · subst hj
          rw [List.getElem?_set_self (by exact (List.getElem?_eq_some_iff.mp hu).1), hu]
        · rw [List.getElem?_set_ne hj]
      rwa [hs] at this
    cases ho : h[n]? with
    | none => rw [ho] at o; exact False.elim o
    | some ob =>
      rw [ho] at o
      obtain ⟨a, ha, hal, ro⟩ := r.obj n ob ho
      rw [ha] at hb
      have eab : a = b := Option.some.inj hb
      subst eab
      cases ob with
      | lst xs =>
        obtain ⟨us, h1, z, rs⟩ := ro
        have hD := hal (fun z => by cases z)
        refine ⟨a, .lst us, h1, trivial, fun od => ?_⟩
        have x := Ext.kill (u := .frz od (.lst us)) r ha hD
        refine ⟨M.kill a, _, _, r.kill ha hD (fun u f q => by rw [h1] at q; cases q; exact f) (fun b q => by rw [h1] at q; cases q), sset x ?_, OutS.ext x o⟩
        exact ⟨a, us, rfl, .inl ⟨r.killed ha, .inr ⟨od, upd_same⟩⟩, z, Reps.ext x xs us rs⟩
      | dic t ks vs =>
        obtain ⟨us, d, h1, dd, rs⟩ := ro
        have hD := hal (fun z => by cases z)
        have hm : Mut (some d) ∧ (∀ u, Fix u → H a ≠ some u) ∧ ∀ b, H a ≠ some (.own b) := by
          cases t with
          | false => obtain ⟨kvs, rfl, _⟩ := dd; exact ⟨trivial, (fun u f q => by rw [h1] at q; cases q; exact f), (fun b q => by rw [h1] at q; cases q)⟩
          | true => obtain ⟨kvs, rfl, _⟩ := dd; exact ⟨trivial, (fun u f q => by rw [h1] at q; cases q; exact f), (fun b q => by rw [h1] at q; cases q)⟩
        refine ⟨a, d, h1, hm.1, fun od => ?_⟩
        have x := Ext.kill (u := .frz od d) r ha hD
        refine ⟨M.kill a, _, _, r.kill ha hD hm.2.1 hm.2.2, sset x ?_, OutS.ext x o⟩
        exact ⟨a, od, d, us, rfl, r.killed ha, upd_same, dd, Reps.ext x vs us rs⟩
      | dead => exact False.elim o
      | ins c fs => exact False.elim o
  · exact False.elim o
end
/-! ### keys -/
theorem keyOf_inj {x y : PV} {a : Key} (h : keyOf x = some a) (h' : keyOf y = some a) : x = y := by
  cases x <;> first | (cases h; done) | skip
  all_goals (cases y <;> first | (cases h'; done) | skip)
  all_goals first | (cases h; cases h'; rfl) | (cases h; cases h')
theorem keysOf_inj : ∀ {xs ys : List PV} {a : List Key}, keysOf xs = some a → keysOf ys = some a → xs = ys
  | [], [], _, _, _ => rfl
  | [], y :: ys, a, h, h' => by
    cases h
    unfold keysOf at h'
    split at h' <;> cases h'
  | x :: xs, [], a, h, h' => by
    cases h'
    unfold keysOf at h
    split at h <;> cases h
  | x :: xs, y :: ys, a, h, h' => by
    unfold keysOf at h h'
    split at h
    · rename_i k ks h1 h2
      cases h
      split at h'
      · rename_i k' ks' h3 h4
        cases h'
        rw [keyOf_inj h1 h3, keysOf_inj h2 h4]
      · cases h'
    · cases h
theorem tkeyOf_inj {x y : PV} {a : List Key} (h : tkeyOf x = some a) (h' : tkeyOf y = some a) : x = y := by
  cases x <;> first | (cases h; done) | skip
  cases y <;> first | (cases h'; done) | skip
  rw [keysOf_inj h h']
def kOk (t : Bool) (k : PV) : Bool := match t with
  | false => (keyOf k).isSome
  | true => (tkeyOf k).isSome
def dfind : List PV → List PV → PV → Option PV
  | k :: ks, v :: vs, x => if beqP k x then some v else dfind ks vs x
  | _, _, _ => none
def dset : List PV → List PV → PV → PV → List PV
  | k :: ks, w :: vs, x, v => if beqP k x then v :: vs else w :: dset ks vs x v
  | _, vs, _, _ => vs
section
variable {G : Gc} {M : Gh} {H : Hp} {κ : Type} [DecidableEq κ] {kf : PV → Option κ}
theorem beq_key (inj : ∀ x y a, kf x = some a → kf y = some a → x = y) {x y : PV} {a b : κ} (hx : kf x = some a) (hy : kf y = some b) : (beqP x y = true) ↔ a = b := by
  constructor
  · intro h
    have := beqP_eq x y h
    subst this
    rw [hx] at hy
    exact Option.some.inj hy
  · rintro rfl
    rw [inj x y a hx hy]
    exact beqP_refl y
theorem dfind_val (inj : ∀ x y a, kf x = some a → kf y = some a → x = y) : ∀ (kvs : List (κ × V)) (ks vs : List PV), ks.map kf = kvs.map (fun p => some p.1) → Reps G M H (kvs.map (·.2)) vs → ∀ (x : PV) (kk : κ), kf x = some kk →
    (∀ v, dfind ks vs x = some v → ∃ u, valV kvs kk = some u ∧ Rep G M H u v) ∧ (dfind ks vs x = none → valV kvs kk = none)
  | [], [], vs, _, _, x, kk, _ => by
    refine ⟨fun v h => ?_, fun _ => rfl⟩
    cases vs <;> cases h
  | [], _ :: _, vs, h, _, x, kk, _ => by simp at h
  | p :: kvs, [], vs, h, _, x, kk, _ => by simp at h
  | p :: kvs, k :: ks, [], h, r, x, kk, _ => r.elim
  | p :: kvs, k :: ks, v :: vs, h, r, x, kk, hx => by
    simp only [List.map_cons, List.cons.injEq] at h
    have ih := dfind_val inj kvs ks vs h.2 r.2 x kk hx
    have q := beq_key inj h.1 hx
    unfold dfind
    by_cases hb : beqP k x = true
    · rw [if_pos hb, valV_pos (q.mp hb)]
      exact ⟨fun v' e => by cases e; exact ⟨_, rfl, r.1⟩, fun e => by cases e⟩
    · rw [if_neg hb, valV_neg (fun z => hb (q.mpr z))]
      exact ih
theorem dset_map (inj : ∀ x y a, kf x = some a → kf y = some a → x = y) {u : V} {v : PV} (p : Rep G M H u v) : ∀ (kvs : List (κ × V)) (ks vs : List PV), (kvs.map (·.1)).Nodup → ks.map kf = kvs.map (fun p => some p.1) → Reps G M H (kvs.map (·.2)) vs → ∀ (x : PV) (kk : κ), kf x = some kk →
    Reps G M H ((kvs.map fun kv => if kv.1 = kk then (kv.1, u) else kv).map (·.2)) (dset ks vs x v)
  | [], [], [], _, _, _, x, kk, _ => trivial
  | [], [], _ :: _, _, _, r, x, kk, _ => r.elim
  | [], _ :: _, vs, _, h, _, x, kk, _ => by simp at h
  | p0 :: kvs, [], vs, _, h, _, x, kk, _ => by simp at h
  | p0 :: kvs, k :: ks, [], _, h, r, x, kk, _ => r.elim
  | p0 :: kvs, k :: ks, w :: vs, hn, h, r, x, kk, hx => by
    simp only [List.map_cons, List.cons.injEq] at h
    simp only [List.map_cons, List.nodup_cons] at hn
    have q := beq_key inj h.1 hx
    unfold dset
    by_cases hb : beqP k x = true
    · rw [if_pos hb]
      have e := q.mp hb
      refine ⟨by simp only [List.map_cons]; rw [if_pos e]; exact p, ?_⟩
      have hid : (kvs.map fun kv => if kv.1 = kk then (kv.1, u) else kv) = kvs := by
        have z : (kvs.map fun kv => if kv.1 = kk then (kv.1, u) else kv) = kvs.map id := List.map_congr_left fun kv hm => if_neg fun z => hn.1 (by rw [e, ← z]; exact List.mem_map_of_mem hm)
        rw [z, List.map_id]
      rw [hid]
      exact r.2
    · rw [if_neg hb]
      have e : ¬ p0.1 = kk := fun z => hb (q.mpr z)
      exact ⟨by simp only [List.map_cons]; rw [if_neg e]; exact r.1, dset_map inj p kvs ks vs hn.2 h.2 r.2 x kk hx⟩
end
/-! ### a dict read -/
section
variable {G : Gc} {M : Gh} {H : Hp} {h : PH}
theorem rep_key {u : V} {x : PV} {k : Key} (p : Rep G M H u x) (e : keyOf x = some k) : u = kV k := by
  cases x <;> first | (cases e; done) | skip
  all_goals (cases e; exact p)
theorem reps_keys : ∀ {us : List V} {xs : List PV} {ks : List Key}, Reps G M H us xs → keysOf xs = some ks → us = ks.map kV
  | [], [], ks, _, e => by cases e; rfl
  | [], _ :: _, _, r, _ => r.elim
  | _ :: _, [], _, r, _ => r.elim
  | u :: us, x :: xs, ks, r, e => by
    unfold keysOf at e
    split at e
    · rename_i k ks' h1 h2
      cases e
      rw [List.map_cons, rep_key r.1 h1, reps_keys r.2 h2]
    · cases e
theorem rep_tkey {u : V} {x : PV} {k : List Key} (p : Rep G M H u x) (e : tkeyOf x = some k) : ∃ b, u = .ref b ∧ H b = some (.tup (k.map kV)) := by
  cases x <;> first | (cases e; done) | skip
  obtain ⟨b, us, e1, _, hb, _, rs⟩ := p
  exact ⟨b, e1, by rw [hb, reps_keys rs e]⟩
theorem rep_tlen {u : V} {x : PV} {k : List Key} (p : Rep G M H u x) (e : tkeyOf x = some k) : k.length ≤ sizeLine := by
  cases x <;> first | (cases e; done) | skip
  obtain ⟨b, us, e1, _, hb, hz, rs⟩ := p
  have := reps_keys rs e
  rw [this, List.length_map] at hz
  exact hz
theorem dget_ok (r : HRel G M H h) {u uy : V} {x y : PV} (p : Rep G M H u x) {t : Bool} {ks vs : List PV} (e : rdD h x = some (t, ks, vs)) (q : Rep G M H uy y) (hk : kOk t y = true) :
    ∃ a o, u = .ref a ∧ DGet H a uy o ∧ (∀ v, dfind ks vs y = some v → ∃ w, o = some w ∧ Rep G M H w v) ∧ (dfind ks vs y = none → o = none) := by
  obtain ⟨a, d, us, rfl, hd, dd, rs⟩ := rdD_rep r p e
  cases t with
  | false =>
    obtain ⟨kvs, rfl, hz, hn, hks, rfl⟩ := dd
    cases hy : keyOf y with
    | none => simp [kOk, hy] at hk
    | some kk =>
      have f := dfind_val (kf := keyOf) (fun x y a => keyOf_inj) kvs ks vs hks rs y kk hy
      exact ⟨a, valV kvs kk, rfl, .inl ⟨kvs, kk, hd, rep_key q hy, rfl⟩, f⟩
  | true =>
    obtain ⟨kvs, rfl, hz, hn, hks, rfl, _⟩ := dd
    cases hy : tkeyOf y with
    | none => simp [kOk, hy] at hk
    | some kk =>
      have f := dfind_val (kf := tkeyOf) (fun x y a => tkeyOf_inj) kvs ks vs hks rs y kk hy
      obtain ⟨b, rfl, hb⟩ := rep_tkey q hy
      exact ⟨a, valV kvs kk, rfl, .inr ⟨kvs, kk, b, hd, rfl, hb, rfl⟩, f⟩
end
def ixJ (x y : PV) (h : PH) : Option PV := match rdD h x with
  | some (t, ks, vs) => if kOk t y then dfind ks vs y else none
  | none => ixO x y h
def inD (x y : PV) (h : PH) : Option PV := match rdD h y with
  | some (t, ks, vs) => if kOk t x then some (.bl (dfind ks vs x).isSome) else none
  | none => inJ x y h
def ninD (x y : PV) (h : PH) : Option PV := match rdD h y with
  | some (t, ks, vs) => if kOk t x then some (.bl (!(dfind ks vs x).isSome)) else none
  | none => ninJ x y h
section
variable {G : Gc} {X : Cx} {W : WX}
def rDG : R2 := fun x y H Q => ∃ a v, x = .ref a ∧ DGet H a y (some v) ∧ Q v H
theorem ix_dict (hu : X.A.units + 64 < cLine) : IxR X rDG := by
  intro value slice pins s σ H x y v u Q I rx ry h hs
  obtain ⟨a, w, rfl, g, q⟩ := h
  cases rx
  exact tail_any (dict_typeIs I g) PySem.F.slot_dict_getitem.lookup (d_getItem (by omega) I g ry fun w' s' I' rw' => ⟨w, H, I', rw', q⟩) hs
theorem ix_J (hu : X.A.units + 64 < cLine) : IxR X (fun x y H Q => rDG x y H Q ∨ rIx X.K x y H Q) := (ix_dict hu).or ix_seq
theorem oj_ixJ : OpJ G (fun x y H Q => rDG x y H Q ∨ rIx G.K x y H Q) ixJ := by
  intro M h H u v x y z Q r p q e k
  unfold ixJ at e
  split at e
  · rename_i t ks vs hx
    split at e
    · rename_i hk
      obtain ⟨a, o, rfl, g, f, _⟩ := dget_ok r p hx q hk
      obtain ⟨w, rfl, rw'⟩ := f z e
      exact .inl ⟨a, w, rfl, g, k w H (Ext.refl M H) r rw'⟩
    · cases e
  · exact .inr (oj_ix M h H u v x y z Q r p q e k)
def rDI (b : Bool) : R2 := fun x y H Q => ∃ a o, y = .ref a ∧ DGet H a x o ∧ Q (.bl (xor b o.isSome)) H
theorem op_inDd (hu : X.A.units + 64 < cLine) : OpR X (compareOp .In) (rDI false) := by
  intro pins s σ H x y v u Q I rx ry h
  obtain ⟨a, o, rfl, g, q⟩ := h
  cases ry
  exact d_in (by omega) I g rx fun s' I' => ⟨.bl o.isSome, H, I', rfl, by simpa using q⟩
theorem op_ninDd (hu : X.A.units + 64 < cLine) : OpR X (compareOp .NotIn) (rDI true) := by
  intro pins s σ H x y v u Q I rx ry h
  obtain ⟨a, o, rfl, g, q⟩ := h
  cases ry
  exact d_notIn (by omega) I g rx fun s' I' => ⟨.bl (!o.isSome), H, I', rfl, by simpa using q⟩
theorem op_inD (hu : X.A.units + 64 < cLine) : OpR X (compareOp .In) (fun x y H Q => rDI false x y H Q ∨ rInJ X.K x y H Q) := OpR.or (op_inDd hu) (op_inJ hu)
theorem op_ninD (hu : X.A.units + 64 < cLine) : OpR X (compareOp .NotIn) (fun x y H Q => rDI true x y H Q ∨ rNinJ X.K x y H Q) := OpR.or (op_ninDd hu) (op_ninJ hu)
theorem opt_is {o : Option V} {c : Option PV} {P : V → PV → Prop} (f : ∀ v, c = some v → ∃ w, o = some w ∧ P w v) (g : c = none → o = none) : o.isSome = c.isSome := by
  cases c with
  | none => rw [g rfl]; rfl
  | some v => obtain ⟨w, rfl, _⟩ := f v rfl; rfl
theorem oj_inD : OpJ G (fun x y H Q => rDI false x y H Q ∨ rInJ G.K x y H Q) inD := by
  intro M h H u v x y z Q r p q e k
  unfold inD at e
  split at e
  · rename_i t ks vs hx
    split at e
    · rename_i hk
      cases e
      obtain ⟨a, o, rfl, g, f1, f2⟩ := dget_ok r q hx p hk
      exact .inl ⟨a, o, rfl, g, k _ H (Ext.refl M H) r (by rw [opt_is f1 f2]; simp [Rep])⟩
    · cases e
  · exact .inr (oj_inJ M h H u v x y z Q r p q e k)
theorem oj_ninD : OpJ G (fun x y H Q => rDI true x y H Q ∨ rNinJ G.K x y H Q) ninD := by
  intro M h H u v x y z Q r p q e k
  unfold ninD at e
  split at e
  · rename_i t ks vs hx
    split at e
    · rename_i hk
      cases e
      obtain ⟨a, o, rfl, g, f1, f2⟩ := dget_ok r q hx p hk
      exact .inl ⟨a, o, rfl, g, k _ H (Ext.refl M H) r (by rw [opt_is f1 f2]; simp [Rep])⟩
    · cases e
  · exact .inr (oj_ninJ M h H u v x y z Q r p q e k)
/-! ### d.get(k, x) -/
def rGet2 : V → List V → Hp → VK → Prop := fun x xs H Q => ∃ a y z o, x = .ref a ∧ xs = [y, z] ∧ DGet H a y o ∧ Q (o.getD z) H
theorem mt_get2 (hu : X.A.units + 64 < cLine) : MtR X "dict.get" rGet2 := by
  intro pins s σ H x xs v us Q I rx rs h
  obtain ⟨a, y, z, o, rfl, rfl, g, q⟩ := h
  cases rx
  cases rs with
  | cons r1 rr =>
    cases rr with
    | cons r2 rr =>
      cases rr
      exact d_get2 (by omega) I g r1 r2 fun w' s' I' rw' => ⟨o.getD z, H, I', rw', q⟩
def getO (x : PV) (xs : List PV) (h : PH) : Option (PV × PH) := match xs with
  | [y, z] => (match rdD h x with
    | some (t, ks, vs) => if kOk t y then some ((dfind ks vs y).getD z, h) else none
    | none => none)
  | _ => none
theorem mj_get : MtJ G rGet2 getO := by
  intro M h H u us x xs z h' Q r p q e k
  unfold getO at e
  split at e
  · rename_i y w
    obtain ⟨uy, uz, rfl, py, pz⟩ := reps2 q
    split at e
    · rename_i t ks vs hx
      split at e
      · rename_i hk
        cases e
        obtain ⟨a, o, rfl, g, f1, f2⟩ := dget_ok r p hx py hk
        refine ⟨a, uy, uz, o, rfl, rfl, g, k _ H (Ext.refl M H) r ?_⟩
        cases hc : dfind ks vs y with
        | none => rw [f2 hc]; exact pz
        | some v => obtain ⟨w', rfl, rw'⟩ := f1 v hc; exact rw'
      · cases e
    · cases e
  · cases e
/-! ### d[k] = v -/
def rSetD : TSet := fun o i v H Q => ∃ a H', o = .ref a ∧ DPut H a i v H' ∧ Q H'
theorem set_dict (hu : X.A.units + 64 < cLine) : PSet X rSetD := by
  intro pins s σ H o i v ov iv u Q I ro ri rv h
  obtain ⟨a, H', rfl, g, q⟩ := h
  cases ro
  exact d_setItem (by omega) I g ri rv fun s' I' => ⟨H', I', q⟩
theorem PSet.orJ {t t' : TSet} (h : PSet X t) (h' : PSet X t') : PSet X (fun o i v H Q => t o i v H Q ∨ t' o i v H Q) := by
  intro pins s σ H o i v ov iv u Q I ro ri rv q
  rcases q with q | q
  · exact h pins s σ H o i v ov iv u Q I ro ri rv q
  · exact h' pins s σ H o i v ov iv u Q I ro ri rv q
def dputK (ks vs : List PV) (k v : PV) : List PV := if (dfind ks vs k).isSome then ks else ks ++ [k]
def dputV (ks vs : List PV) (k v : PV) : List PV := if (dfind ks vs k).isSome then dset ks vs k v else vs ++ [v]
def setD (o i v : PV) (h : PH) : Option PH := match o with
  | .loc n => (match h[n]? with
    | some (.dic t ks vs) => if kOk t i && decide (ks.length < sizeLine) then some (h.set n (.dic t (dputK ks vs i v) (dputV ks vs i v))) else none
    | _ => setLO o i v h)
  | _ => setLO o i v h
theorem put_do {M : Gh} {H : Hp} {κ : Type} [DecidableEq κ] {kf : PV → Option κ} (inj : ∀ x y a, kf x = some a → kf y = some a → x = y) {kvs : List (κ × V)} {ks vs : List PV} (hn : (kvs.map (·.1)).Nodup) (hks : ks.map kf = kvs.map (fun p => some p.1)) (rs : Reps G M H (kvs.map (·.2)) vs)
    {i v : PV} {kk : κ} {u : V} (hi : kf i = some kk) (p : Rep G M H u v) (hz : kvs.length < sizeLine) : (putK kvs kk u).length ≤ sizeLine ∧ ((putK kvs kk u).map (·.1)).Nodup ∧ (dputK ks vs i v).map kf = (putK kvs kk u).map (fun p => some p.1) ∧ Reps G M H ((putK kvs kk u).map (·.2)) (dputV ks vs i v) := by
  have f := dfind_val inj kvs ks vs hks rs i kk hi
  have hl := length_putK kvs kk u
  refine ⟨by omega, ?_⟩
  unfold dputK dputV
  cases hc : dfind ks vs i with
  | none =>
    have e := f.2 hc
    rw [putK_new u e]
    have hnew : kk ∉ kvs.map (·.1) := fun z => by
      obtain ⟨q, hq, rfl⟩ := List.mem_map.mp z
      have := valV_any q.1 kvs
      rw [e] at this
      have ha : (kvs.any fun kv => decide (kv.1 = q.1)) = true := List.any_eq_true.mpr ⟨q, hq, by simp⟩
      rw [ha] at this
      cases this
    refine ⟨?_, ?_, ?_⟩
    · rw [List.map_append, List.nodup_append]
      refine ⟨hn, by simp, fun a ha b hb => ?_⟩
      simp at hb
      subst hb
      exact fun z => hnew (z ▸ ha)
    · simp [hks, hi]
    · simp only [Option.isSome_none, Bool.false_eq_true, if_false, List.map_append, List.map_cons, List.map_nil]
      exact rs.snoc p
  | some w =>
    obtain ⟨uw, e, _⟩ := f.1 w hc
    have hp : putK kvs kk u = kvs.map fun kv => if kv.1 = kk then (kv.1, u) else kv := by
      unfold putK
      rw [valV_any, e]
      exact if_pos rfl
    rw [hp]
    have hfst : ∀ kv : κ × V, (if kv.1 = kk then (kv.1, u) else kv).1 = kv.1 := fun kv => by split <;> rfl
    refine ⟨?_, ?_, ?_⟩
    · rw [List.map_map, show ((·.1) ∘ fun kv : κ × V => if kv.1 = kk then (kv.1, u) else kv) = (·.1) from funext hfst]
      exact hn
    · simp only [Option.isSome_some, if_true, List.map_map]
      rw [hks]
      refine List.map_congr_left fun kv _ => ?_
      simp only [Function.comp]
      rw [hfst]
    · simp only [Option.isSome_some, if_true]
      exact dset_map inj p kvs ks vs hn hks rs i kk hi
theorem putK_mem {κ : Type} [DecidableEq κ] {kvs : List (κ × V)} {k : κ} {u : V} {p : κ × V} (h : p ∈ putK kvs k u) : p.1 = k ∨ ∃ p' ∈ kvs, p'.1 = p.1 := by
  unfold putK at h
  split at h
  · obtain ⟨q, hq, rfl⟩ := List.mem_map.mp h
    exact .inr ⟨q, hq, by split <;> rfl⟩
  · rcases List.mem_append.mp h with h | h
    · exact .inr ⟨p, h, rfl⟩
    · exact .inl (by rw [List.mem_singleton.mp h])
theorem sj_D : SetJ G (fun o i v H Q => rSetD o i v H Q ∨ rSetL o i v H Q) setD := by
  intro M h H uo ui uv o i v h' Q r po pi pv e k
  have old : ∀ {h'}, setLO o i v h = some h' → (∀ H', Ext M H M H' → HRel G M H' h' → Q H') → rSetD uo ui uv H Q ∨ rSetL uo ui uv H Q := fun e k => .inr (sj_list M h H uo ui uv o i v _ Q r po pi pv e k)
  unfold setD at e
  split at e
  · rename_i n
    split at e
    · rename_i t ks vs hn
      split at e
      · rename_i hc
        cases e
        simp only [Bool.and_eq_true, decide_eq_true_eq] at hc
        obtain ⟨a, ha, hal, us, d, hd, dd, rs⟩ := r.obj n _ hn
        have hD := hal (fun z => by cases z)
        obtain ⟨b, rfl, hb⟩ := po
        have eab : a = b := Option.some.inj (ha.symm.trans hb)
        subst eab
        cases t with
        | false =>
          obtain ⟨kvs, rfl, hz, hnd, hks, rfl⟩ := dd
          cases hi : keyOf i with
          | none => simp [kOk, hi] at hc
          | some kk =>
            have hl : kvs.length < sizeLine := by
              have := congrArg List.length hks
              simp at this
              omega
            have x := Ext.wr (o := .dK (putK kvs kk uv)) r (List.mem_of_getElem? ha) hD
            obtain ⟨q1, q2, q3, q4⟩ := put_do (G := G) (M := M) (H := H) (fun x y a => keyOf_inj) hnd hks rs hi pv hl
            refine .inl ⟨a, _, rfl, .inl ⟨kvs, kk, hd, rep_key pi hi, hl, rfl⟩, k _ x (r.wr ha hD (fun u f q => by rw [hd] at q; cases q; exact f) (fun b q => by rw [hd] at q; cases q) ?_)⟩
            exact ⟨_, _, upd_same, ⟨_, rfl, q1, q2, q3, rfl⟩, Reps.ext x _ _ q4⟩
        | true =>
          obtain ⟨kvs, rfl, hz, hnd, hks, rfl, hkl⟩ := dd
          cases hi : tkeyOf i with
          | none => simp [kOk, hi] at hc
          | some kk =>
            have hl : kvs.length < sizeLine := by
              have := congrArg List.length hks
              simp at this
              omega
            have x := Ext.wr (o := .dT (putK kvs kk uv)) r (List.mem_of_getElem? ha) hD
            obtain ⟨q1, q2, q3, q4⟩ := put_do (G := G) (M := M) (H := H) (fun x y a => tkeyOf_inj) hnd hks rs hi pv hl
            have hkk := rep_tlen pi hi
            obtain ⟨c, rfl, hc'⟩ := rep_tkey pi hi
            refine .inl ⟨a, _, rfl, .inr ⟨kvs, kk, c, hd, rfl, hc', hl, rfl⟩, k _ x (r.wr ha hD (fun u f q => by rw [hd] at q; cases q; exact f) (fun b q => by rw [hd] at q; cases q) ?_)⟩
            exact ⟨_, _, upd_same, ⟨_, rfl, q1, q2, q3, rfl, fun p hp => (putK_mem hp).elim (fun z => z ▸ hkk) (fun ⟨p', h1, h2⟩ => h2 ▸ hkl p' h1)⟩, Reps.ext x _ _ q4⟩
      · cases e
    · exact old e k
  · exact old e k
/-! ### {} -/
def mkDic (t : Bool) : SE := fun _ h => .ok (.loc h.length) (h ++ [.dic t [] []])
theorem je_dic (t : Bool) {pos : Pos} : JE G X W (.Dict [] [] pos) (mkDic t) := by
  cases t with
  | false =>
    refine pe_imp pe_dnewK fun σ H Q ⟨M, ρ, h, r, e, o⟩ p hp => ?_
    have x := Ext.alloc (o := HO.dK []) r hp
    exact o _ _ _ x (r.alloc hp ⟨[], _, upd_same, ⟨[], rfl, Nat.zero_le _, .nil, rfl, rfl⟩, trivial⟩) r.newLoc
  | true =>
    refine pe_imp pe_dnewT fun σ H Q ⟨M, ρ, h, r, e, o⟩ p hp => ?_
    have x := Ext.alloc (o := HO.dT []) r hp
    exact o _ _ _ x (r.alloc hp ⟨[], _, upd_same, ⟨[], rfl, Nat.zero_le _, .nil, rfl, rfl, fun _ z => by cases z⟩, trivial⟩) r.newLoc
/-! ### len(d) -/
def rLenD : List V → Hp → VK → Prop := fun xs H Q => ∃ p, xs = [.ref p] ∧ ((∃ kvs : List (Key × V), Rd H p (.dK kvs) ∧ Q (.int (kvs.length : Nat)) H) ∨ ∃ kvs : List (List Key × V), Rd H p (.dT kvs) ∧ Q (.int (kvs.length : Nat)) H)
theorem cr_lenD : CallR X (.builtin "len") rLenD := by
  intro pins s σ H xs us Q I r h
  obtain ⟨p, rfl, h⟩ := h
  obtain ⟨u, rfl, rx⟩ := vals1 r
  obtain rfl : u = .ref p := rx
  rcases h with ⟨kvs, hd, q⟩ | ⟨kvs, hd, q⟩
  · exact d_len I hd fun t s' I' => ⟨.int (kvs.length : Nat), H, I', ⟨_, rfl⟩, q⟩
  · obtain ⟨z, hs, ys, rel, dd⟩ := dt_rd I.hok hd
    have hl : kvs.length = ys.length := Paired.length rel
    refine call_len_dictH hs dd (by rw [← hl]; rw [sizeLine_eq] at z; omega) ?_
    rw [← hl]
    exact ⟨.int (kvs.length : Nat), H, I.tok _, ⟨_, rfl⟩, q⟩
theorem cr_lenD' : CallR X (.builtin "len") (fun xs H Q => rLenD xs H Q ∨ rLenJ X.K xs H Q) := CallR.or cr_lenD cr_lenJ
def lenD (xs : List PV) (h : PH) : Option PV := match xs with
  | [x] => (match rdD h x with
    | some (_, ks, _) => some (.int (ks.length : Nat))
    | none => lenO xs h)
  | _ => none
theorem cj_lenD : CallJ G (fun xs H Q => rLenD xs H Q ∨ rLenJ G.K xs H Q) lenD := by
  intro M h H us xs z Q r q e k
  unfold lenD at e
  split at e
  · rename_i x
    split at e
    · rename_i t ks vs hx
      cases e
      obtain ⟨u, rfl, p⟩ := reps1 q
      obtain ⟨a, d, ws, rfl, hd, dd, _⟩ := rdD_rep r p hx
      refine .inl ⟨a, rfl, ?_⟩
      cases t with
      | false =>
        obtain ⟨kvs, rfl, _, _, hks, _⟩ := dd
        have hl : ks.length = kvs.length := by simpa using congrArg List.length hks
        exact .inl ⟨kvs, hd, by rw [← hl]; exact k _ H (Ext.refl M H) r rfl⟩
      | true =>
        obtain ⟨kvs, rfl, _, _, hks, _⟩ := dd
        have hl : ks.length = kvs.length := by simpa using congrArg List.length hks
        exact .inr ⟨kvs, hd, by rw [← hl]; exact k _ H (Ext.refl M H) r rfl⟩
    · exact .inr (cj_len M h H us _ z Q r q e k)
  · cases e
end
end J

set_option maxHeartbeats 1000000
/-! J: dict comprehensions of one clause; max, min, sum of a list; equal dicts. -/
namespace J
open PySem PySem.Spec PyProof.Rows L2
section
variable {G : Gc} {X : Cx} {W : WX} {tg iter : Expr} {pos : Pos}
theorem DO.other {t : Bool} {ks : List PV} {us : List V} {d : HO} (h : DO t ks us d) : (∀ ps, d ≠ .tbl ps) ∧ (∀ b, d ≠ .own b) ∧ ∀ xs, d ≠ .tup xs := by
  cases t with
  | false => obtain ⟨_, rfl, _⟩ := h; exact ⟨fun _ z => (by cases z), fun _ z => (by cases z), fun _ z => (by cases z)⟩
  | true => obtain ⟨_, rfl, _⟩ := h; exact ⟨fun _ z => (by cases z), fun _ z => (by cases z), fun _ z => (by cases z)⟩
/-- a dict comprehension's state: D is its dict, the keys and values so far -/
def DSt (G : Gc) (M1 : Gh) (H1 : Hp) (D : Addr) (M : Gh) (h : PH) (t : Bool) (ks vs : List PV) (H : Hp) : Prop :=
  ∃ us d, H D = some d ∧ DO t ks us d ∧ Reps G (M.hide D) H us vs ∧ HRel G (M.hide D) H h ∧ Ext M1 H1 M H ∧ Tr M1 H1 (M.hide D) H ∧ D ∉ M.L ∧ D ∉ M.Z
theorem DSt.step {M1 M M' : Gh} {H1 H H' : Hp} {D : Addr} {h h' : PH} {t : Bool} {ks vs : List PV} (c : DSt G M1 H1 D M h t ks vs H) (x : Ext (M.hide D) H M' H') (r : HRel G M' H' h') : ∃ M'' : Gh, M' = M''.hide D ∧ DSt G M1 H1 D M'' h' t ks vs H' := by
  obtain ⟨us, d, hD, dd, rs, r0, x0, t0, nL, nZ⟩ := c
  obtain ⟨L, E, e, hL⟩ := x.pre
  have xx : Ext M H ⟨M.L ++ L, M.Z, E ++ M.D⟩ H' := ⟨⟨L, E, rfl, hL⟩, x.keep, x.dom⟩
  refine ⟨⟨M.L ++ L, M.Z, E ++ M.D⟩, e, us, d, x.keep D _ hD (fun z => absurd z nL) dd.other.1, dd, ?_, ?_, x0.trans xx, ?_, fun z => ?_, nZ⟩
  · have := Reps.ext x _ _ rs; rw [e] at this; exact this
  · have := r; rw [e] at this; exact this
  · have := t0.trans x.tr; rw [e] at this; exact this
  · rcases List.mem_append.mp z with z | z
    · exact nL z
    · rw [hL D z] at hD; cases hD
theorem DSt.push {M1 M : Gh} {H1 H : Hp} {D : Addr} (hD1 : H1 D = none) {h : PH} {ks vs : List PV} (c : DSt G M1 H1 D M h false ks vs H) {i v : PV} {ui uv : V} (pi : Rep G (M.hide D) H ui i) (pv : Rep G (M.hide D) H uv v) (hk : kOk false i = true) (hl : ks.length < sizeLine) :
    ∃ kvs k, ui = kV k ∧ H D = some (.dK kvs) ∧ kvs.length < sizeLine ∧ DSt G M1 H1 D M h false (dputK ks vs i v) (dputV ks vs i v) (upd H D (.dK (putK kvs k uv))) ∧ Tr (M.hide D) H (M.hide D) (upd H D (.dK (putK kvs k uv))) := by
  obtain ⟨us, d, hD, ⟨kvs, rfl, hz, hnd, hks, rfl⟩, rs, r0, x0, t0, nL, nZ⟩ := c
  cases hi : keyOf i with
  | none => simp [kOk, hi] at hk
  | some kk =>
    have hl' : kvs.length < sizeLine := by
      have := congrArg List.length hks
      simp at this
      omega
    obtain ⟨q1, q2, q3, q4⟩ := put_do (G := G) (M := M.hide D) (H := H) (fun x y a => keyOf_inj) hnd hks rs hi pv hl'
    refine ⟨kvs, kk, rep_key pi hi, hD, hl', ⟨_, _, upd_same, ⟨_, rfl, q1, q2, q3, rfl⟩, Reps.tr Tr.hid _ _ q4, r0.hidW (fun u f z => by rw [hD] at z; cases z; exact f) (fun b z => by rw [hD] at z; cases z) (fun _ z => by cases z), ⟨x0.pre, fun a o q n t => ?_, fun a q => ?_⟩, t0.trans Tr.hid, nL, nZ⟩, Tr.hid⟩
    · rw [upd_ne (ne_of_none q hD1)]; exact x0.keep a o q n t
    · by_cases z : a = D
      · rw [z, upd_same]; simp
      · rw [upd_ne z]; exact x0.dom a q
/-- a hidden object comes into the open -/
theorem HRel.show {M : Gh} {H : Hp} {h : PH} {D : Addr} {ob : PO} (r : HRel G (M.hide D) H h) (hD : H D ≠ none) (nZ : D ∉ M.Z) (nL : D ∉ M.L) (o : ORep G (M.add D) H D ob) : HRel G (M.add D) H (h ++ [ob]) ∧ Rep G (M.add D) H (.ref D) (.loc h.length) := by
  have len : M.L.length = h.length := r.len
  refine ⟨⟨?_, fun a ha => ?_, by simp [Gh.add, len], fun a ha => r.hid a (List.mem_cons_of_mem _ ha), fun a ha => r.hidT a (List.mem_cons_of_mem _ ha), fun a ha => List.mem_append_left _ (r.dsub a ha), fun a ha => ?_, fun n ob' e => ?_, r.tab⟩, D, rfl, ?_⟩
  · show (M.L ++ [D]).Nodup
    rw [List.nodup_append]
    refine ⟨r.nd, by simp, fun a ha b hb => ?_⟩
    rw [List.mem_singleton.mp hb]
    exact fun z => nL (z ▸ ha)
  · rcases List.mem_append.mp ha with ha | ha
    · exact fun z => r.apart a ha (List.mem_cons_of_mem _ z)
    · rw [List.mem_singleton.mp ha]; exact nZ
  · rcases List.mem_append.mp ha with ha | ha
    · exact r.live0 a ha
    · rw [List.mem_singleton.mp ha]; exact hD
  · by_cases hn : n < h.length
    · rw [List.getElem?_append_left hn] at e
      obtain ⟨a, h1, hd, h2⟩ := r.obj n ob' e
      exact ⟨a, by show (M.L ++ [D])[n]? = _; rw [List.getElem?_append_left (by rw [len]; exact hn)]; exact h1, hd, h2.tr Tr.show rfl fun _ _ _ => rfl⟩
    · have hl : n < (h ++ [ob]).length := (List.getElem?_eq_some_iff.mp e).1
      have hn' : n = h.length := by simp at hl; omega
      subst hn'
      rw [List.getElem?_append_right (Nat.le_refl _), Nat.sub_self] at e
      cases e
      exact ⟨D, by show (M.L ++ [D])[h.length]? = _; rw [← len, List.getElem?_append_right (Nat.le_refl _), Nat.sub_self]; rfl, fun _ z => nL (r.dsub D z), o⟩
  · show (M.L ++ [D])[h.length]? = _
    rw [← len, List.getElem?_append_right (Nat.le_refl _), Nat.sub_self]; rfl
/-! ### the comprehension -/
def dcL (t : Bool) (s : Src) (g : GF) (ft : SB) (fk fv : SE) (ρ0 : En) : List PV → List PV → List PV → PH → R (List PV × List PV)
  | [], ks, vs, h => .ok (ks, vs) h
  | x :: xs, ks, vs, h => match g x ρ0 with
    | none => .bad
    | some ρ1 => match ft ρ1 h with
      | .ok true h1 => (match fk ρ1 h1 with
        | .ok k h2 => (match fv ρ1 h2 with
          | .ok v h3 => if sameL s h3 && kOk t k && decide (ks.length < sizeLine) then dcL t s g ft fk fv ρ0 xs (dputK ks vs k v) (dputV ks vs k v) h3 else .bad
          | _ => .bad)
        | _ => .bad)
      | .ok false h1 => if sameL s h1 then dcL t s g ft fk fv ρ0 xs ks vs h1 else .bad
      | _ => .bad
theorem dcL_exc {t : Bool} {s : Src} {g : GF} {ft : SB} {fk fv : SE} {ρ0 : En} : ∀ (xs ks vs : List PV) (h : PH) (e : Ex) (h' : PH), dcL t s g ft fk fv ρ0 xs ks vs h ≠ .exc e h'
  | [], ks, vs, h, e, h' => by simp [dcL]
  | x :: xs, ks, vs, h, e, h' => by
    unfold dcL
    cases g x ρ0 with
    | none => simp
    | some ρ1 =>
      simp only
      cases ft ρ1 h with
      | ok b h1 =>
        cases b with
        | true =>
          simp only
          cases fk ρ1 h1 with
          | ok k h2 =>
            simp only
            cases fv ρ1 h2 with
            | ok v h3 =>
              simp only
              split
              · exact dcL_exc xs _ _ h3 e h'
              · simp
            | exc _ _ => simp
            | bad => simp
          | exc _ _ => simp
          | bad => simp
        | false =>
          simp only
          split
          · exact dcL_exc xs _ _ h1 e h'
          · simp
      | exc _ _ => simp
      | bad => simp
def dcE (vs : List Nat) (fi : SI) (g : GF) (ft : SB) (fk fv : SE) : SE := fun ρ h => (fi ρ h).bind fun s h1 => if sameL s h1 then (dcL false s g ft fk fv (wipeE ρ vs) s.xs [] [] h1).bind fun p h2 => .ok (PV.loc h2.length) (h2 ++ [.dic false p.1 p.2]) else .bad
theorem dc_t {fi : SI} {g : GF} {ss : List Nat} {ft : SB} {fk fv : SE} {vs : List Nat} (hss : ∀ i ∈ ss, i ∈ vs) {σ : L2.St} {H : Hp} {Q : VK} (t : TFE G W (dcE vs fi g ft fk fv) σ H Q) :
    tDc (TF G W (fun M H (J : It) (s : Src) => ItRep G M H J s) fi) (TGF G g ss) (TFB G W0 ft) (TFE G W0 fk) (TFE G W0 fv) vs σ H Q := by
  refine (TF.bind (Rp := fun M H (J : It) (s : Src) => ItRep G M H J s) (k := fun ρ s h1 => if sameL s h1 then (dcL false s g ft fk fv (wipeE ρ vs) s.xs [] [] h1).bind fun p h2 => .ok (PV.loc h2.length) (h2 ++ [.dic false p.1 p.2]) else .bad) t).mono fun J H1 ⟨M1, ρ1, h1, s, r1, e1, it, o1⟩ D hD => ?_
  cases hsl : sameL s h1 with
  | false => simp only [hsl] at o1; exact False.elim o1
  | true =>
    simp only [hsl, if_true] at o1
    obtain ⟨hz, it⟩ := it
    cases hcl : dcL false s g ft fk fv (wipeE ρ1 vs) s.xs [] [] h1 with
    | bad => rw [hcl] at o1; exact False.elim o1
    | exc e h' => exact absurd hcl (dcL_exc _ _ _ _ _ _)
    | ok full hE =>
      rw [hcl] at o1
      simp only [R.bind_ok] at o1
      have nZ : D ∉ M1.Z := fun z => r1.hid D z hD
      have nL : D ∉ M1.L := fun z => r1.liveL z hD
      refine ⟨fun i m H' => m = s.xs.length - i ∧ i ≤ s.xs.length ∧ ∃ (M : Gh) (h' : PH) (ks ws : List PV), DSt G M1 H1 D M h' false ks ws H' ∧ lvOk s h' ∧ dcL false s g ft fk fv (wipeE ρ1 vs) (s.xs.drop i) ks ws h' = .ok full hE,
        ⟨s.xs.length, by simp, Nat.zero_le _, M1, h1, [], [], ⟨[], _, upd_same, ⟨[], rfl, Nat.zero_le _, .nil, rfl, rfl⟩, trivial, r1.hide hD (fun _ z => by cases z), Ext.new r1 hD, Tr.hide hD, nL, nZ⟩, sameL_ok hsl, by simpa using hcl⟩, ?_⟩
      rintro i m H2 ⟨rfl, hle, M2, h2, ks, ws, c2, l2, hcl2⟩
      have r2 : HRel G (M2.hide D) H2 h2 := by obtain ⟨_, _, _, _, _, r, _⟩ := c2; exact r
      have t2 : Tr M1 H1 (M2.hide D) H2 := by obtain ⟨_, _, _, _, _, _, _, t, _⟩ := c2; exact t
      obtain ⟨go, stop⟩ := it (M2.hide D) H2 h2 t2 r2 l2
      by_cases hlt : i < s.xs.length
      · obtain ⟨g1, g2⟩ := go i hlt
        rw [List.drop_eq_getElem_cons hlt] at hcl2
        unfold dcL at hcl2
        cases hg1 : g s.xs[i] (wipeE ρ1 vs) with
        | none => simp only [hg1] at hcl2; cases hcl2
        | some ρ3 =>
          simp only [hg1] at hcl2
          refine .inr ⟨g1, fun H' => ∃ (M : Gh) (h' : PH) (ks ws : List PV), DSt G M1 H1 D M h' false ks ws H' ∧ lvOk s h' ∧ dcL false s g ft fk fv (wipeE ρ1 vs) (s.xs.drop (i + 1)) ks ws h' = .ok full hE, fun H' q => ⟨s.xs.length - (i + 1), by omega, rfl, hlt, q⟩, fun u H3 y => ?_⟩
          obtain ⟨y1, y2, y3⟩ := g2 u H3 y
          have e0 : ERel G (M2.hide D) H2 (wipeE ρ1 vs) (L2.wipe σ vs) := (e1.tr t2).wipe vs
          refine ⟨M2.hide D, h2, s.xs[i], wipeE ρ1 vs, ρ3, y2, e0.ext y1, y3 _ (List.getElem?_eq_getElem hlt), hg1, fun σ4 e4 w4 => ⟨by rw [w4 vs hss, wipe_wipe], M2.hide D, ρ3, h2, y2, e4, ?_⟩⟩
          cases hf1 : ft ρ3 h2 with
          | bad => rw [hf1] at hcl2; cases hcl2
          | exc _ _ => rw [hf1] at hcl2; cases hcl2
          | ok b h5 =>
            rw [hf1] at hcl2
            intro b' M5 H5 x5 r5 p5
            subst p5
            have x5' := y1.trans x5
            cases b' with
            | false =>
              rw [if_neg Bool.false_ne_true]
              simp only at hcl2
              cases hsl5 : sameL s h5 with
              | false => simp only [hsl5] at hcl2; cases hcl2
              | true =>
                simp only [hsl5, if_true] at hcl2
                obtain ⟨M6, rfl, c6⟩ := c2.step x5' r5
                exact ⟨M6, h5, ks, ws, c6, sameL_ok hsl5, hcl2⟩
            | true =>
              rw [if_pos rfl]
              simp only at hcl2
              refine ⟨M5, ρ3, h5, r5, e4.ext x5, ?_⟩
              cases hf2 : fk ρ3 h5 with
              | bad => rw [hf2] at hcl2; cases hcl2
              | exc _ _ => rw [hf2] at hcl2; cases hcl2
              | ok k h7 =>
                rw [hf2] at hcl2
                intro u7 M7 H7 x7 r7 p7
                simp only at hcl2
                refine ⟨M7, ρ3, h7, r7, (e4.ext x5).ext x7, ?_⟩
                cases hf3 : fv ρ3 h7 with
                | bad => rw [hf3] at hcl2; cases hcl2
                | exc _ _ => rw [hf3] at hcl2; cases hcl2
                | ok v h8 =>
                  rw [hf3] at hcl2
                  intro u8 M8 H8 x8 r8 p8
                  simp only at hcl2
                  cases hsl8 : (sameL s h8 && kOk false k && decide (ks.length < sizeLine)) with
                  | false => simp only [hsl8] at hcl2; cases hcl2
                  | true =>
                    simp only [hsl8, if_true] at hcl2
                    simp only [Bool.and_eq_true, decide_eq_true_eq] at hsl8
                    obtain ⟨⟨hs8, hk8⟩, hl8⟩ := hsl8
                    obtain ⟨M9, rfl, c9⟩ := c2.step ((x5'.trans x7).trans x8) r8
                    obtain ⟨kvs, kk, ek, hd9, l9, c10, t10⟩ := c9.push hD (Rep.ext x8 _ _ p7) p8 hk8 hl8
                    exact ⟨kvs, kk, ek, hd9, l9, M9, h8, _, _, c10, sameL_ok hs8, hcl2⟩
      · have e : i = s.xs.length := by omega
        subst e
        rw [List.drop_length] at hcl2
        simp only [dcL] at hcl2
        cases hcl2
        obtain ⟨us, d, hD2, dd2, rs2, _, x2, _, nL2, nZ2⟩ := c2
        have hh := HRel.show (ob := .dic false ks ws) r2 (by rw [hD2]; simp) nZ2 nL2 ⟨us, d, hD2, dd2, Reps.tr Tr.show _ _ rs2⟩
        exact .inl ⟨stop, o1 (.ref D) _ H2 (ext_add x2 hD) hh.1 hh.2⟩
variable {kx vx : Expr} {ifs : List Expr} {scope : Scope} {fi : SI} {g : GF} {ss : List Nat} {ft : SB} {fk fv : SE}
theorem je_dc (own : List (Str × Nat)) (hN : X.N.Nodup) (hi : JI G X W tg iter fi) (ok : blkC X.N X.env.scope scope own = true)
    (hg : ∀ s H C cl fp, JG G (Cx.in_ X scope s H C cl fp) tg g ss) (ht : ∀ s H C cl fp, JTs G (Cx.in_ X scope s H C cl fp) W0 ifs ft) (hk : ∀ s H C cl fp, JE G (Cx.in_ X scope s H C cl fp) W0 kx fk) (he : ∀ s H C cl fp, JE G (Cx.in_ X scope s H C cl fp) W0 vx fv)
    (hss : ∀ i ∈ ss, i ∈ own.map (·.2) := by decide) (hc : X.calm = true := by rfl) (hs : ∀ x, foldedSetIterable iter X.env x = pure x := by intro _; rfl) :
    JE G X W (.DictComp kx vx [⟨tg, iter, ifs, 0⟩] scope pos) (dcE (own.map (·.2)) fi g ft fk fv) :=
  pe_imp (pe_dc hc hN hi (blkOk_by ok) hg ht hk he hs) fun σ H Q t => dc_t hss t
end
end J

set_option maxHeartbeats 1000000
/-! J: max, min, sum of a list; dicts that hold the same. -/
namespace J
open PySem PySem.Spec PyProof.Rows L2
def lmax (ns : List Int) : Int := ns.foldl max (ns.headD 0)
def lmin (ns : List Int) : Int := ns.foldl min (ns.headD 0)
theorem foldl_max_ge : ∀ (ns : List Int) (a : Int), a ≤ ns.foldl max a ∧ ∀ y ∈ ns, y ≤ ns.foldl max a
  | [], a => ⟨Int.le_refl _, fun _ z => by cases z⟩
  | x :: ns, a => by
    obtain ⟨h1, h2⟩ := foldl_max_ge ns (max a x)
    refine ⟨?_, fun y hy => ?_⟩
    · rw [List.foldl_cons]; omega
    · rw [List.foldl_cons]
      rcases List.mem_cons.mp hy with rfl | hy
      · omega
      · exact h2 y hy
theorem foldl_max_mem : ∀ (ns : List Int) (a : Int), ns.foldl max a = a ∨ ns.foldl max a ∈ ns
  | [], a => .inl rfl
  | x :: ns, a => by
    rw [List.foldl_cons]
    rcases foldl_max_mem ns (max a x) with h | h
    · rw [h]
      by_cases q : a ≤ x
      · exact .inr (by rw [show max a x = x by omega]; exact List.mem_cons_self)
      · exact .inl (by omega)
    · exact .inr (List.mem_cons_of_mem _ h)
theorem lmax_ge {ns : List Int} : ∀ y ∈ ns, y ≤ lmax ns := (foldl_max_ge ns _).2
theorem lmax_mem {ns : List Int} (h : ns ≠ []) : lmax ns ∈ ns := by
  cases ns with
  | nil => exact absurd rfl h
  | cons a r => rcases foldl_max_mem (a :: r) a with q | q
                · rw [show lmax (a :: r) = a from q]; exact List.mem_cons_self
                · exact q
theorem lmax_eq {ns : List Int} {m : Int} (h : m ∈ ns) (g : ∀ y ∈ ns, y ≤ m) : lmax ns = m := by
  have h1 := g _ (lmax_mem (List.ne_nil_of_mem h))
  have h2 := lmax_ge m h
  omega
theorem foldl_min_le : ∀ (ns : List Int) (a : Int), ns.foldl min a ≤ a ∧ ∀ y ∈ ns, ns.foldl min a ≤ y
  | [], a => ⟨Int.le_refl _, fun _ z => by cases z⟩
  | x :: ns, a => by
    obtain ⟨h1, h2⟩ := foldl_min_le ns (min a x)
    refine ⟨?_, fun y hy => ?_⟩
    · rw [List.foldl_cons]; omega
    · rw [List.foldl_cons]
      rcases List.mem_cons.mp hy with rfl | hy
      · omega
      · exact h2 y hy
theorem foldl_min_mem : ∀ (ns : List Int) (a : Int), ns.foldl min a = a ∨ ns.foldl min a ∈ ns
  | [], a => .inl rfl
  | x :: ns, a => by
    rw [List.foldl_cons]
    rcases foldl_min_mem ns (min a x) with h | h
    · rw [h]
      by_cases q : x ≤ a
      · exact .inr (by rw [show min a x = x by omega]; exact List.mem_cons_self)
      · exact .inl (by omega)
    · exact .inr (List.mem_cons_of_mem _ h)
theorem lmin_le {ns : List Int} : ∀ y ∈ ns, lmin ns ≤ y := (foldl_min_le ns _).2
theorem lmin_mem {ns : List Int} (h : ns ≠ []) : lmin ns ∈ ns := by
  cases ns with
  | nil => exact absurd rfl h
  | cons a r => rcases foldl_min_mem (a :: r) a with q | q
                · rw [show lmin (a :: r) = a from q]; exact List.mem_cons_self
                · exact q
theorem lmin_eq {ns : List Int} {m : Int} (h : m ∈ ns) (g : ∀ y ∈ ns, m ≤ y) : lmin ns = m := by
  have h1 := g _ (lmin_mem (List.ne_nil_of_mem h))
  have h2 := lmin_le m h
  omega
def intsL (h : PH) (x : PV) : Option (List Int) := match rd h x with
  | .lst ys => intsOf ys
  | _ => none
def max1O (xs : List PV) (h : PH) : Option PV := match xs with
  | [x] => (match intsL h x with
    | some (n :: ns) => some (.int (lmax (n :: ns)))
    | _ => none)
  | _ => none
def min1O (xs : List PV) (h : PH) : Option PV := match xs with
  | [x] => (match intsL h x with
    | some (n :: ns) => some (.int (lmin (n :: ns)))
    | _ => none)
  | _ => none
def sum1O (xs : List PV) (h : PH) : Option PV := match xs with
  | [x] => (match intsL h x with
    | some ns => some (.int ns.sum)
    | none => none)
  | _ => none
section
variable {G : Gc} {X : Cx} {W : WX}
theorem intsL_rep {M : Gh} {H : Hp} {h : PH} (r : HRel G M H h) {u : V} {x : PV} {ns : List Int} (p : Rep G M H u x) (e : intsL h x = some ns) : ∃ a, u = .ref a ∧ SqL G.K H a (ns.map V.int) := by
  unfold intsL at e
  split at e
  · rename_i ys hx
    have := intsOf_eq e
    subst this
    obtain ⟨a, vs, rfl, s, z, rs⟩ := Rep.list r p hx
    have := rs.ints
    subst this
    exact ⟨a, rfl, s⟩
  · cases e
theorem cj_max1 : CallJ G (rMax G.K) max1O := by
  intro M h H us xs z Q r p e k
  unfold max1O at e
  split at e
  · rename_i x
    obtain ⟨u, rfl, pu⟩ := reps1 p
    split at e
    · rename_i n ns hx
      cases e
      obtain ⟨a, rfl, s⟩ := intsL_rep r pu hx
      refine ⟨a, n :: ns, rfl, s, Nat.succ_pos _, fun m hm hg => ?_⟩
      rw [← lmax_eq hm hg]
      exact k _ H (Ext.refl M H) r rfl
    · cases e
  · cases e
theorem cj_min1 : CallJ G (rMin G.K) min1O := by
  intro M h H us xs z Q r p e k
  unfold min1O at e
  split at e
  · rename_i x
    obtain ⟨u, rfl, pu⟩ := reps1 p
    split at e
    · rename_i n ns hx
      cases e
      obtain ⟨a, rfl, s⟩ := intsL_rep r pu hx
      refine ⟨a, n :: ns, rfl, s, Nat.succ_pos _, fun m hm hg => ?_⟩
      rw [← lmin_eq hm hg]
      exact k _ H (Ext.refl M H) r rfl
    · cases e
  · cases e
theorem cj_sum1 : CallJ G (rSum G.K) sum1O := by
  intro M h H us xs z Q r p e k
  unfold sum1O at e
  split at e
  · rename_i x
    obtain ⟨u, rfl, pu⟩ := reps1 p
    split at e
    · rename_i ns hx
      cases e
      obtain ⟨a, rfl, s⟩ := intsL_rep r pu hx
      exact ⟨a, ns, rfl, s, k _ H (Ext.refl M H) r rfl⟩
    · cases e
  · cases e
/-! ### dicts that hold the same -/
def fEq : PV → PV → Bool
  | .int a, .int b => decide (a = b)
  | .str a, .str b => decide (a = b)
  | .bl a, .bl b => decide (a = b)
  | .non, .non => true
  | _, _ => false
theorem fEq_ok {M : Gh} {H : Hp} {u w : V} {x y : PV} (p : Rep G M H u x) (q : Rep G M H w y) (e : fEq x y = true) : w = u ∧ flatB u = true := by
  unfold fEq at e
  split at e
  · simp only [decide_eq_true_eq] at e; subst e
    rw [show u = _ from p, show w = _ from q]; exact ⟨rfl, rfl⟩
  · simp only [decide_eq_true_eq] at e; subst e
    rw [show u = _ from p, show w = _ from q]; exact ⟨rfl, rfl⟩
  · simp only [decide_eq_true_eq] at e; subst e
    rw [show u = _ from p, show w = _ from q]; exact ⟨rfl, rfl⟩
  · rw [show u = _ from p, show w = _ from q]; exact ⟨rfl, rfl⟩
  · cases e
def dsame (ls ws : List PV) : List PV → List PV → Bool
  | k :: ks, v :: vs => (match dfind ls ws k with | some v' => fEq v v' | none => false) && dsame ls ws ks vs
  | [], [] => true
  | _, _ => false
theorem dsame_ok {M : Gh} {H : Hp} {lvs : List (Key × V)} {ls ws : List PV} (hls : ls.map keyOf = lvs.map (fun p => some p.1)) (rl : Reps G M H (lvs.map (·.2)) ws) : ∀ (kvs : List (Key × V)) (ks vs : List PV), ks.map keyOf = kvs.map (fun p => some p.1) → Reps G M H (kvs.map (·.2)) vs → dsame ls ws ks vs = true → ∀ p ∈ kvs, valV lvs p.1 = some p.2 ∧ flatB p.2 = true
  | [], ks, vs, _, _, _, p, hp => by cases hp
  | q :: kvs, k :: ks, v :: vs, hk, hr, e, p, hp => by
    simp only [List.map_cons, List.cons.injEq] at hk
    unfold dsame at e
    rw [Bool.and_eq_true] at e
    rcases List.mem_cons.mp hp with rfl | hp
    · cases hd : dfind ls ws k with
      | none => rw [hd] at e; cases e.1
      | some v' =>
        rw [hd] at e
        obtain ⟨w, hw, pw⟩ := (dfind_val (kf := keyOf) (fun x y a => keyOf_inj) lvs ls ws hls rl k p.1 hk.1).1 v' hd
        obtain ⟨e1, e2⟩ := fEq_ok hr.1 pw e.1
        exact ⟨by rw [hw, e1], e2⟩
    · exact dsame_ok hls rl kvs ks vs hk.2 hr.2 e.2 p hp
  | q :: kvs, [], vs, hk, _, _, p, hp => by cases hk
  | q :: kvs, k :: ks, [], hk, hr, _, p, hp => by cases hr
def eqvD (x y : PV) (h : PH) : Option Bool := match x, y with
  | .loc n, .loc m => (match h[n]?, h[m]? with
    | some (.dic false ks vs), some (.dic false ls ws) => some (decide (ks.length = ls.length) && dsame ls ws ks vs)
    | _, _ => none)
  | _, _ => none
def eqD (x y : PV) (h : PH) : Option PV := match eqvD x y h with
  | some true => some (.bl true)
  | some false => none
  | none => eqO x y h
def neD (x y : PV) (h : PH) : Option PV := match eqvD x y h with
  | some true => some (.bl false)
  | some false => none
  | none => neO x y h
theorem eqvD_ok {M : Gh} {H : Hp} {h : PH} (r : HRel G M H h) {u w : V} {x y : PV} (p : Rep G M H u x) (q : Rep G M H w y) (e : eqvD x y h = some true) : ∃ a b ks ls, u = .ref a ∧ w = .ref b ∧ H a = some (.dK ks) ∧ H b = some (.dK ls) ∧ ks.length = ls.length ∧ ∀ p ∈ ks, valV ls p.1 = some p.2 ∧ flatB p.2 = true := by
  unfold eqvD at e
  split at e
  · rename_i n m
    split at e
    · rename_i ks vs ls ws hn hm
      simp only [Option.some.injEq, Bool.and_eq_true, decide_eq_true_eq] at e
      obtain ⟨a, ha, _, us, d, hd, ⟨kvs, rfl, hz, hnd, hks, rfl⟩, rs⟩ := r.obj n _ hn
      obtain ⟨b, hb, _, us', d', hd', ⟨lvs, rfl, hz', hnd', hls, rfl⟩, rs'⟩ := r.obj m _ hm
      obtain ⟨a', rfl, ha'⟩ := p
      obtain ⟨b', rfl, hb'⟩ := q
      obtain rfl : a = a' := Option.some.inj (ha.symm.trans ha')
      obtain rfl : b = b' := Option.some.inj (hb.symm.trans hb')
      refine ⟨a, b, kvs, lvs, rfl, rfl, hd, hd', ?_, dsame_ok hls rs' kvs ks vs hks rs e.2⟩
      have h1 := congrArg List.length hks
      have h2 := congrArg List.length hls
      simp at h1 h2
      omega
    · cases e
  · cases e
theorem op_eqDJ (hu : X.A.units + 64 < cLine) : OpR X (compareOp .Eq) (fun x y H Q => rEqDA x y H Q ∨ rEqP X.K false x y H Q) := OpR.or (op_eq_dictA (by omega)) (op_eqP hu)
theorem op_neDJ (hu : X.A.units + 64 < cLine) : OpR X (compareOp .NotEq) (fun x y H Q => rNeDA x y H Q ∨ rEqP X.K true x y H Q) := OpR.or (op_ne_dictA (by omega)) (op_neP hu)
theorem oj_eqD : OpJ G (fun x y H Q => rEqDA x y H Q ∨ rEqP G.K false x y H Q) eqD := by
  intro M h H u v x y z Q r p q e k
  unfold eqD at e
  split at e
  · rename_i hd
    cases e
    obtain ⟨a, b, ks, ls, e1, e2, e3, e4, e5, e6⟩ := eqvD_ok r p q hd
    exact .inl ⟨a, b, ks, ls, e1, e2, e3, e4, e5, e6, k _ H (Ext.refl M H) r rfl⟩
  · cases e
  · exact .inr (oj_eq M h H u v x y z Q r p q e k)
theorem oj_neD : OpJ G (fun x y H Q => rNeDA x y H Q ∨ rEqP G.K true x y H Q) neD := by
  intro M h H u v x y z Q r p q e k
  unfold neD at e
  split at e
  · rename_i hd
    cases e
    obtain ⟨a, b, ks, ls, e1, e2, e3, e4, e5, e6⟩ := eqvD_ok r p q hd
    exact .inl ⟨a, b, ks, ls, e1, e2, e3, e4, e5, e6, k _ H (Ext.refl M H) r rfl⟩
  · cases e
  · exact .inr (oj_ne M h H u v x y z Q r p q e k)
end
end J

set_option maxHeartbeats 1000000
/-! J: o[i] op= e; the count of an item. -/
namespace J
open PySem PySem.Spec PyProof.Rows L2
section
variable {G : Gc} {X : Cx} {W : WX}
/-! ### o[i] op= e -/
theorem get_list : PGet X (rIxL X.K) := by
  intro pins s σ H o i ov iv Q I ro ri h
  obtain ⟨p, xs, k, z, rfl, rfl, hq, he, q⟩ := h
  cases ro
  obtain ⟨tt, rfl⟩ := ri
  obtain ⟨its, r, pl, hz⟩ := I.list hq
  obtain ⟨j, h1, h2, h3, h4, h5⟩ := atI_get he
  obtain ⟨w, ew, rw1⟩ := r.get h2
  have hl := r.length
  have hn := line63
  have fin : EP X pins σ Q w s := ⟨z, H, I, rw1, q⟩
  by_cases h0 : 0 ≤ k
  · have hj : k.toNat = j := by
      rw [seqIndex_of h0 h5] at h1
      exact Option.some.inj h1
    exact wpAny_getItem_list pl.isList h0 (by omega) (by rw [hj]; simpa using ew) fin
  · have hj : (k + (its.toArray.size : Int)).toNat = j := by
      rw [seqIndex_neg (by omega) h4] at h1
      rw [List.size_toArray, ← hl]
      exact Option.some.inj h1
    exact wpAny_getItem_list_neg pl.isList (by omega) (by rw [List.size_toArray] <;> omega) (by omega) (by rw [hj]; simpa using ew) fin
theorem get_dict (hu : X.A.units + 64 < cLine) : PGet X rDG := by
  intro pins s σ H o i ov iv Q I ro ri h
  obtain ⟨a, w, rfl, g, q⟩ := h
  cases ro
  exact d_getItem (by omega) I g ri fun w' s' I' rw' => ⟨w, H, I', rw', q⟩
theorem PGet.orJ {t t' : V → V → Hp → VK → Prop} (h : PGet X t) (h' : PGet X t') : PGet X (fun o i H Q => t o i H Q ∨ t' o i H Q) := by
  intro pins s σ H o i ov iv Q I ro ri q
  rcases q with q | q
  · exact h pins s σ H o i ov iv Q I ro ri q
  · exact h' pins s σ H o i ov iv Q I ro ri q
theorem get_J (hu : X.A.units + 64 < cLine) : PGet X (fun o i H Q => rDG o i H Q ∨ rIxL X.K o i H Q) := PGet.orJ (get_dict hu) get_list
/-- o[i] of a list or a dict -/
def ixA (x y : PV) (h : PH) : Option PV := match rdD h x with
  | some (t, ks, vs) => if kOk t y then dfind ks vs y else none
  | none => (match rd h x, y with
    | .lst xs, .int i => atI xs i
    | _, _ => none)
theorem gj_J : OpJ G (fun o i H Q => rDG o i H Q ∨ rIxL G.K o i H Q) ixA := by
  intro M h H u v x y z Q r p q e k
  unfold ixA at e
  split at e
  · rename_i t ks vs hx
    split at e
    · rename_i hk
      obtain ⟨a, o, rfl, g, f, _⟩ := dget_ok r p hx q hk
      obtain ⟨w, rfl, rw'⟩ := f z e
      exact .inl ⟨a, w, rfl, g, k w H (Ext.refl M H) r rw'⟩
    · cases e
  · split at e
    · rename_i xs i hx
      cases q
      obtain ⟨a, us, rfl, s, _, rs⟩ := Rep.list r p hx
      obtain ⟨w, h1, h2⟩ := rs.atI e
      exact .inr ⟨a, us, i, w, rfl, rfl, s, h1, k w H (Ext.refl M H) r h2⟩
    · cases e
def saugS (g f : PV → PV → PH → Option PV) (st : PV → PV → PV → PH → Option PH) (fo fi fe : SE) : SS := fun ρ h => (fo ρ h).toS ρ fun o h1 => (fi ρ h1).toS ρ fun i h2 => match g o i h2 with
  | some x => (fe ρ h2).toS ρ fun y h3 => (match f x y h3 with
    | some z => (match st o i z h3 with
      | some h' => .nx ρ h'
      | none => .bad)
    | none => .bad)
  | none => .bad
theorem js_augS {o i e : Expr} {fo fi fe : SE} {op : Operator} {tg : V → V → Hp → VK → Prop} {tip : TIp} {ts : TSet} {g f : PV → PV → PH → Option PV} {st : PV → PV → PV → PH → Option PH} {tpos pos : Pos} (ho : JE G X W o fo) (hi : JE G X W i fi) (he : JE G X W e fe) (hg : PGet X tg) (hgj : OpJ G tg g) (hp : PIp X op tip) (hpj : IpJ G tip f) (hs : PSet X ts) (hsj : SetJ G ts st)
    (ha : ∀ ov iv new, augStore i ov iv new = (do holding [new, ov, iv] (setItem ov iv new); release [new, ov, iv] []; pure .next) := by intros; rfl) :
    JS G X W (.AugAssign (.Subscript o i tpos) op e pos) (saugS g f st fo fi fe) := by
  refine ps_imp (ps_augS ho hi hg he hp hs ha) fun D σ H t => ?_
  refine (TSF.bind (Rp := fun M H (u : V) (v : PV) => Rep G M H u v) (k := fun ρ o h1 => (fi ρ h1).toS ρ fun i h2 => match g o i h2 with
    | some x => (fe ρ h2).toS ρ fun y h3 => (match f x y h3 with
      | some z => (match st o i z h3 with
        | some h' => .nx ρ h'
        | none => .bad)
      | none => .bad)
    | none => .bad) t).mono fun uo H1 ⟨M1, ρ, h1, ov, r1, e1, p1, o1⟩ => ?_
  refine ⟨M1, ρ, h1, r1, e1, (OutS.bind (Rp := fun M H (u : V) (v : PV) => Rep G M H u v) e1 o1).mono fun ui H2 ⟨M2, h2, iv, x2, r2, p2, o2⟩ => ?_⟩
  cases hg1 : g ov iv h2 with
  | none => simp only [hg1] at o2; exact False.elim o2
  | some xv =>
    simp only [hg1] at o2
    refine hgj M2 h2 H2 uo ui ov iv xv _ r2 (Rep.ext x2 _ _ p1) p2 hg1 fun w H' x' r' p' => ?_
    refine ⟨M2, ρ, h2, r', (e1.ext x2).ext x', ?_⟩
    refine (OutS.bind (Rp := fun M H (u : V) (v : PV) => Rep G M H u v) ((e1.ext x2).ext x') (OutS.ext x' o2)).mono fun uy H4 ⟨M4, h4, yv, x4, r4, p4, o4⟩ => ?_
    cases hf1 : f xv yv h4 with
    | none => simp only [hf1] at o4; exact False.elim o4
    | some zv =>
      simp only [hf1] at o4
      refine hpj M4 h4 H4 w uy xv yv zv _ r4 (Rep.ext x4 _ _ p') p4 hf1 fun w5 H5 x5 r5 p5 => ?_
      cases hs1 : st ov iv zv h4 with
      | none => simp only [hs1] at o4; exact False.elim o4
      | some h6 =>
        simp only [hs1] at o4
        exact hsj M4 h4 H5 uo ui w5 ov iv zv h6 _ r5 (Rep.ext ((((x2.trans x').trans x4)).trans x5) _ _ p1) (Rep.ext ((x'.trans x4).trans x5) _ _ p2) p5 hs1 fun H6 x6 r6 => o4 σ M4 H6 (x5.trans x6) r6 (((((e1.ext x2).ext x').ext x4).ext x5).ext x6)
/-! ### l.count(x), t.count(x) -/
def countO (x : PV) (xs : List PV) (h : PH) : Option (PV × PH) := match xs with
  | [y] => match itemsOf h x with
    | some ys => if dles DEPTH ys && dle DEPTH (rd h y) then some (.int ((ys.countP fun z => eqv z (rd h y) : Nat) : Int), h) else none
    | none => none
  | _ => none
theorem count_eq (ys : List PV) (y : PV) : (toDs ys).countP (fun z => PyData.eqv z (toD y)) = ys.countP fun z => eqv z y := by
  rw [toDs_map, List.countP_map]
  rfl
def rCountP (K : PySem.W.Frag) : V → List V → Hp → VK → Prop := fun x xs H Q => ∃ (y : V) (d : PyData) (ds : List PyData), xs = [y] ∧ Dp K H x (.list ds) ∧ Dp K H y d ∧ d.plain = true ∧ PyData.plainAll ds = true ∧ d.depth ≤ 60 ∧ Q (.int ((ds.countP fun z => PyData.eqv z d : Nat) : Int)) H
theorem mt_countL (hu : X.A.units + 64 < cLine) : MtR X "list.count" (rCountP X.K) := by
  intro pins s σ H x xs v us Q I rx rs h
  obtain ⟨y, d, ds, rfl, hx, hy, pd, pds, dd, q⟩ := h
  obtain ⟨uy, rfl, ry⟩ := vals1 rs
  obtain ⟨bs, r1⟩ := Dp.reads I d y uy hy ry
  cases hx with
  | lst hs ha =>
    cases rx
    obtain ⟨its, rv, pl, hz⟩ := I.list hs
    obtain ⟨as, h4⟩ := Dp.readsAll I ds _ its ha rv
    exact SeqAt.count_list_data pl.isList (show ReadsAll s.heap its.toArray.toList ds as from h4) r1 pds pd (by omega) ⟨.int ((ds.countP fun z => PyData.eqv z d : Nat) : Int), H, I.tok _, ⟨_, rfl⟩, q⟩
theorem mj_countL : MtJ G (rCountP G.K) (fun x xs h => if isT .list h x then countO x xs h else none) := by
  intro M h H u us x xs z h' Q r p q e k
  simp only at e
  split at e
  · rename_i ht
    unfold isT at ht
    simp only at ht
    split at ht
    · rename_i ys hx
      unfold countO at e
      split at e
      · rename_i y
        obtain ⟨v, rfl, pv⟩ := reps1 q
        simp only [itemsOf, hx] at e
        split at e
        · rename_i c
          simp only [Bool.and_eq_true] at c
          cases e
          obtain ⟨a, vs, rfl, s, z, rs⟩ := Rep.list r p hx
          have c1 := dle_ok _ _ c.2
          have c2 := dles_ok _ _ c.1
          refine ⟨v, _, _, rfl, .lst s (Reps.dp ys vs _ c.1 rs), Rep.dpr r pv c.2, c1.1, c2.1, c1.2, ?_⟩
          rw [count_eq]
          exact k _ H (Ext.refl M H) r rfl
        · cases e
      · cases e
    · cases ht
  · cases e
end
end J

set_option maxHeartbeats 1000000
/-! J: dict comprehensions, any keys, one or two clauses. -/
namespace J
open PySem PySem.Spec PyProof.Rows L2
/-- what a dict comprehension stores -/
theorem dc_put {X : Cx} {pins : List (Addr × Obj)} {σ : L2.St} {H H' : Hp} {s : Shared} {E : Value → Shared → Prop} {D : Addr} {y v : V} {u r : Value} {Q : Unit → Shared → Prop} (hu : X.A.units + 64 < cLine) (I : Inv X pins σ H s) (g : DPut H D y v H') (ry : RelV y u) (rv : RelV v r)
    (h : ∀ s', Inv X pins σ H' s' → Q () s') : wpAny (model X.prog X.w) X.A (dictSet D u r) Q E s := by
  rcases g with ⟨kvs, k, e, ey, l, eH⟩ | ⟨kvs, k, b, e, ey, eb, l, eH⟩
  · subst ey eH
    exact d_dictSet I e l ry rv h
  · subst ey eH
    cases (show u = Value.ref b from ry)
    obtain ⟨z, hd, xs, rel, dd⟩ := dt_of I.hok e
    have hzx : xs.length ≤ sizeLine := Paired.length rel ▸ z
    have hlp := length_putK kvs k v
    refine wpAny_dictSet_heap (hsz := hzx) (show X.A.units < cLine by omega) (key_of I.hok eb) dd fun h2 dd2 hb => h _ ?_
    obtain ⟨q, es, ep, hq, w2, w3, w4, _, w5⟩ := dd2
    exact d_write I (by rw [e]; exact True.intro) hb ⟨q, hq⟩ ⟨by omega, hd, _, (rel.put k eb rv).keeps fun c ys ec => (upd_ne (ne_of ec e (fun z => nomatch z))).trans ec, q, es, ep, hq, w2, w3, w4, w5⟩
/-! ### the turns of two clauses -/
abbrev dc2 (kx vx t0 i0 t1 i1 : Expr) (f0 f1 : List Expr) (scope : Scope) (pos : Pos) : Expr := .DictComp kx vx [⟨t0, i0, f0, 0⟩, ⟨t1, i1, f1, 0⟩] scope pos
section
variable {prog : Program} {w : World} {A : Around} {R : Result → Shared → Prop} {s : Shared} {kx vx t0 i0 t1 i1 : Expr} {f0 f1 : List Expr} {scope : Scope} {pos : Pos} {it : Value} {D : Addr} {env : Env}
/-- all tests hold -/
abbrev testsC (fs : List Expr) (env : Env) : Sem Bool := forIn fs true fun c r => if r = true then do let ok ← isTrue c env (eval c env); pure (ForInStep.yield ok) else pure (ForInStep.yield r)
/-- what is raised goes on -/
abbrev upX (prog : Program) (w : World) (A : Around) (env : Env) (R : Result → Shared → Prop) : Value → Shared → Prop := notedBy (model prog w) A env fun e s' => R (.error e) s'
theorem turn_out : compTurn (dc2 kx vx t0 i0 t1 i1 f0 f1 scope pos) 0 it (.ref D) env = (do
    standAt i0.pos
    match ← pyNext it with
    | none => pure (.done .next)
    | some v =>
      letOwnedTupleGo t0 it v
      assign t0 env v
      let mut ok := true
      for c in f0 do
        if ok then ok ← isTrue c env (eval c env)
      if ok then
        let src ← eval i1 env
        standAt i1.pos
        let src ← foldedSetIterable i1 env src
        let _ ← runOwn (.compStart (dc2 kx vx t0 i0 t1 i1 f0 f1 scope pos) 1 (← holding [src] (pyIter src)) (.ref D) env) env
      again (.compLoop (dc2 kx vx t0 i0 t1 i1 f0 f1 scope pos) 0 it (.ref D) env)) := by rfl
theorem turn_in : compTurn (dc2 kx vx t0 i0 t1 i1 f0 f1 scope pos) 1 it (.ref D) env = (do
    standAt i1.pos
    match ← pyNext it with
    | none => pure (.done .next)
    | some v =>
      letOwnedTupleGo t1 it v
      assign t1 env v
      let mut ok := true
      for c in f1 do
        if ok then ok ← isTrue c env (eval c env)
      if ok then
        (do
          let key ← eval kx env
          let val ← holding [key] (eval vx env)
          standAt { kx.pos with endLine := vx.pos.endLine, endCol := vx.pos.endCol }
          holding [key, val] (dictSet D key val))
      again (.compLoop (dc2 kx vx t0 i0 t1 i1 f0 f1 scope pos) 1 it (.ref D) env)) := by rfl
theorem dloop_out (hs : ∀ x, foldedSetIterable i1 env x = pure x) (Iv : Nat → Shared → Prop)
    (turn : ∀ n s, Iv n s → wpAny (model prog w) A (pyNext it) (fun r s1 => match r with
      | none => R (.ok .next) s1
      | some v => wpAny (model prog w) A (letOwnedTupleGo t0 it v) (fun _ s2 => wpAny (model prog w) A (assign t0 env v) (fun _ s3 => wpAny (model prog w) A (testsC f0 env) (fun ok s4 =>
          if ok = true then wpAny (model prog w) A (eval i1 env) (fun x s5 => wpAny (model prog w) A (pyIter x) (fun it1 s6 =>
            codeAny (model prog w) A (.compStart (dc2 kx vx t0 i0 t1 i1 f0 f1 scope pos) 1 it1 (.ref D) env) (fun r s' => match r with
              | .ok _ => ∃ m, m < n ∧ Iv m s'
              | .error _ => False) s6) (upX prog w A env R) s5) (upX prog w A env R) s4
          else ∃ m, m < n ∧ Iv m s4) (upX prog w A env R) s3) (upX prog w A env R) s2) (upX prog w A env R) s1) (upX prog w A env R) s)
    (n : Nat) (h : Iv n s) : codeAny (model prog w) A (.compLoop (dc2 kx vx t0 i0 t1 i1 f0 f1 scope pos) 0 it (.ref D) env) R s := by
  refine codeAny_loop rfl Iv (fun n s hI => ?_) n h
  show wpAny _ A ((compTurn (dc2 kx vx t0 i0 t1 i1 f0 f1 scope pos) 0 it (.ref D) env).onRaise (fun x => do noteFrame x env; theTreesLotGoes x)) _ _ s
  refine wpAny_noted ?_
  rw [turn_out]
  refine wpAny_bind (wpAny_standAt (wpAny_bind (thn (turn n s hI) fun r s1 k1 => ?_)))
  cases r with
  | none => exact wpAny_pure k1
  | some v =>
    refine wpAny_bind (thn k1 fun _ s2 k2 => wpAny_bind (thn k2 fun _ s3 k3 => wpAny_bind (thn k3 fun ok s4 k4 => ?_)))
    cases ok with
    | false => exact wpAny_pure ⟨rfl, k4⟩
    | true =>
      refine wpAny_bind (thn k4 fun x s5 k5 => wpAny_bind (wpAny_standAt (wpAny_bind (wpAny_of_eq (hs x) (wpAny_bind (wpAny_holding (thn k5 fun it1 s6 k6 => wpAny_bind (wpAny_runOwn ?_))))))))
      rw [Around.mark_none]
      refine codeAny_mono k6 fun r s' hr => ?_
      cases r with
      | ok f =>
        first
          | exact wpAny_pure ⟨rfl, hr⟩
          | exact wpAny_bind (wpAny_pure (wpAny_pure ⟨rfl, hr⟩))
      | error e => exact hr.elim
theorem dloop_in (Iv : Nat → Shared → Prop)
    (turn : ∀ n s, Iv n s → wpAny (model prog w) A (pyNext it) (fun r s1 => match r with
      | none => R (.ok .next) s1
      | some v => wpAny (model prog w) A (letOwnedTupleGo t1 it v) (fun _ s2 => wpAny (model prog w) A (assign t1 env v) (fun _ s3 => wpAny (model prog w) A (testsC f1 env) (fun ok s4 =>
          if ok = true then wpAny (model prog w) A (eval kx env) (fun a s5 => wpAny (model prog w) A (eval vx env) (fun b s6 =>
            wpAny (model prog w) A (dictSet D a b) (fun _ s7 => ∃ m, m < n ∧ Iv m s7) (upX prog w A env R) s6) (upX prog w A env R) s5) (upX prog w A env R) s4
          else ∃ m, m < n ∧ Iv m s4) (upX prog w A env R) s3) (upX prog w A env R) s2) (upX prog w A env R) s1) (upX prog w A env R) s)
    (n : Nat) (h : Iv n s) : codeAny (model prog w) A (.compLoop (dc2 kx vx t0 i0 t1 i1 f0 f1 scope pos) 1 it (.ref D) env) R s := by
  refine codeAny_loop rfl Iv (fun n s hI => ?_) n h
  show wpAny _ A ((compTurn (dc2 kx vx t0 i0 t1 i1 f0 f1 scope pos) 1 it (.ref D) env).onRaise (fun x => do noteFrame x env; theTreesLotGoes x)) _ _ s
  refine wpAny_noted ?_
  rw [turn_in]
  refine wpAny_bind (wpAny_standAt (wpAny_bind (thn (turn n s hI) fun r s1 k1 => ?_)))
  cases r with
  | none => exact wpAny_pure k1
  | some v =>
    refine wpAny_bind (thn k1 fun _ s2 k2 => wpAny_bind (thn k2 fun _ s3 k3 => wpAny_bind (thn k3 fun ok s4 k4 => ?_)))
    cases ok with
    | false => exact wpAny_pure ⟨rfl, k4⟩
    | true => exact wpAny_bind (wpAny_bind (thn k4 fun a s5 k5 => wpAny_bind (wpAny_holding (thn k5 fun b s6 k6 => wpAny_bind (wpAny_standAt (wpAny_holding (thn k6 fun _ s7 k7 => wpAny_pure ⟨rfl, k7⟩)))))))
theorem dstart1 (h0 : codeAny (model prog w) A (.compLoop (dc2 kx vx t0 i0 t1 i1 f0 f1 scope pos) 1 it (.ref D) env) R s)
    (h : wpAny (model prog w) A (pyIter it) (fun it' s' => codeAny (model prog w) A (.compLoop (dc2 kx vx t0 i0 t1 i1 f0 f1 scope pos) 1 it' (.ref D) env) R s') (upX prog w A env R) s) :
    codeAny (model prog w) A (.compStart (dc2 kx vx t0 i0 t1 i1 f0 f1 scope pos) 1 it (.ref D) env) R s := by
  refine codeAny_of_tree ?_
  show wpAny _ _ ((compStart (dc2 kx vx t0 i0 t1 i1 f0 f1 scope pos) 1 it (.ref D) env).onRaise (fun x => do noteFrame x env; standAt theWindowsPlace)) _ _ s
  refine wpAny_notedAt ?_
  unfold compStart
  show wpAny _ _ (ask >>= _) _ _ s
  refine wpAny_bind (wpAny_askSetting (wpAny_ite ?_))
  split
  · first
      | exact wpAny_pure (And.intro rfl h0)
      | exact wpAny_bind (wpAny_pure (wpAny_pure (And.intro rfl h0)))
  · refine wpAny_bind (wpAny_rule ?_)
    show wpAny _ _ (standAt i1.pos >>= _) _ _ s
    exact wpAny_bind (wpAny_standAt (wpAny_bind (thn h fun it' s' k => wpAny_pure (And.intro rfl k))))
end
/-! ### one turn of a clause -/
section
variable {Y : Cx} {tg : Expr} {J : It} {fp : List Addr} {it : Addr} {tn : Nat → Heap → Prop} {pins : List (Addr × Obj)}
/-- behind a turn: the iterator's objects are as they were behind its step -/
theorem turn_back (T : Turn Y.prog Y.w Y.K tg J fp it tn) {i : Nat} {s7 s' : Shared} {σ9 σ0 : L2.St} {H' : Hp} (st : tn i s7.heap) (I : Inv Y (pins ++ pinsAt fp s7.heap) σ9 H' s') (hl : σ0.length = σ9.length) (hk : ∀ (j : Nat) v, σ0[j]? = some (some v) → σ9[j]? = some (some v)) :
    Inv Y pins σ0 H' s' ∧ tn i s'.heap ∧ ∀ b ∈ fp, H' b = none := by
  have old : ∀ b ∈ fp, ∀ o, s7.heap.get? b = some o → s'.heap.get? b = some o ∧ H' b = none := fun b hb o e =>
    have z := I.pin (b, o) (List.mem_append_right _ (List.mem_append_right _ (mem_pinsAt hb e)))
    ⟨z.1, z.2.1⟩
  refine ⟨I.unpinned.weak hl hk, T.keep _ _ _ st fun b hb o e => (old b hb o e).1, fun b hb => ?_⟩
  obtain ⟨o, e, _⟩ := T.obj _ _ st b hb
  exact (old b hb o e).2
/-- a clause's turn: the next item, its store, its tests -/
theorem turn_go (T : Turn Y.prog Y.w Y.K tg J fp it tn) {g : TG} {tt : TT} {ifs : List Expr} (hc : Y.calm = true) (hx : Y.xe = fun _ _ => False) (pg : PG Y tg g) (pt : PTs Y ifs tt) {i : Nat} {s : Shared} {σ : L2.St} {H : Hp} (I : Inv Y pins σ H s) (fo : ∀ H' : Hp, (∀ b ∈ fp, H' b = none) → ∀ b ∈ fp, FpOk Y pins H' b) (st : tn i s.heap) (nf : ∀ b ∈ fp, H b = none)
    {Qe : Hp → Prop} {p : L2.St → Prop} {Qt : L2.St → Bool → Hp → Prop} {R0 : Shared → Prop} {Rt : Bool → Shared → Prop} {E : Value → Shared → Prop}
    (alt : (J.stop i H ∧ Qe H) ∨ (J.go i H ∧ ∀ x H', J.yld i H x H' → g x σ H' fun σ2 H2 => p σ2 ∧ tt σ2 H2 fun b H3 => Qt σ2 b H3))
    (he : ∀ s', Inv Y pins σ H s' → Qe H → R0 s') (ht : ∀ (b : Bool) (s7 s' : Shared) (σ2 : L2.St) (H' : Hp), tn (i + 1) s7.heap → Inv Y (pins ++ pinsAt fp s7.heap) σ2 H' s' → p σ2 → Qt σ2 b H' → Rt b s') :
    wpAny (model Y.prog Y.w) Y.A (pyNext (.ref it)) (fun r s1 => match r with
      | none => R0 s1
      | some v => wpAny (model Y.prog Y.w) Y.A (letOwnedTupleGo tg (.ref it) v) (fun _ s2 => wpAny (model Y.prog Y.w) Y.A (assign tg Y.env v) (fun _ s3 => wpAny (model Y.prog Y.w) Y.A (testsC ifs Y.env) (fun ok s4 => Rt ok s4) E s3) E s2) E s1) E s := by
  rcases alt with ⟨stop, q⟩ | ⟨go, step⟩
  · refine thnF (T.done Y rfl rfl rfl hc i pins s σ H (fun _ _ => False) I (fo H nf) st stop) fun r s1 ⟨hr, I1⟩ => ?_
    subst hr
    exact he s1 I1 q
  · refine thnF (T.item Y rfl rfl rfl hc i pins s σ H (fun _ _ => False) I (fo H nf) st go) fun r s1 ⟨u, hr, k1⟩ => ?_
    subst hr
    refine thnF k1 fun _ s2 ⟨x, H2, I2, r2, y2, st2, n2⟩ => ?_
    have I2' := I2.pinned (fo H2 n2) (T.obj _ _ st2)
    have e2 := pg.run _ s2 σ H2 x u _ I2' r2 (step x H2 y2)
    rw [hx] at e2
    refine thnF e2 fun _ s3 ⟨σ3, H3, I3, p3, q3⟩ => ?_
    have e3 := pt.run _ s3 σ3 H3 _ I3 q3
    rw [hx] at e3
    refine thnF e3 fun b s4 ⟨H4, I4, q4⟩ => ?_
    exact ht b s2 s4 σ3 H4 st2 I4 p3 q4
end
/-! ### the loops -/
/-- two clauses: the first source J, the dict D, what is reached at the end -/
def gDc2 (J : It) (D : Addr) (g : TG) (tt : TT) (wi1 : TI) (g1 : TG) (tt1 : TT) (tk tv : TE) (vs vs1 : List Nat) (σ : L2.St) (H0 : Hp) (Q : Hp → Prop) : Prop :=
  ∃ W : Nat → Nat → Hp → Prop, (∃ m, W 0 m H0) ∧ ∀ i m H, W i m H → (J.stop i H ∧ Q H) ∨ (J.go i H ∧ ∃ Nx : Hp → Prop, (∀ H', Nx H' → ∃ m', m' < m ∧ W (i + 1) m' H') ∧ ∀ x H', J.yld i H x H' → g x (wipe σ vs) H' fun σ2 H2 => wipe σ2 vs = wipe σ vs ∧ tt σ2 H2 fun b H3 =>
    if b = true then wi1 σ2 H3 fun J1 H4 => ∃ W1 : Nat → Nat → Hp → Prop, (∃ m, W1 0 m H4) ∧ ∀ j k H, W1 j k H → (J1.stop j H ∧ Nx H) ∨ (J1.go j H ∧ ∃ Nx1 : Hp → Prop, (∀ H', Nx1 H' → ∃ k', k' < k ∧ W1 (j + 1) k' H') ∧ ∀ x H', J1.yld j H x H' → g1 x (wipe σ2 vs1) H' fun σ3 H5 => wipe σ3 vs1 = wipe σ2 vs1 ∧ tt1 σ3 H5 fun b H6 =>
      if b = true then tk σ3 H6 fun y H7 => tv σ3 H7 fun z H8 => ∃ H9, DPut H8 D y z H9 ∧ Nx1 H9 else Nx1 H6)
    else Nx H3)
section
variable {Y : Cx} {tg tg1 iter iter1 kx vx : Expr} {ifs ifs1 : List Expr} {scope : Scope} {pos : Pos} {J : It} {fp : List Addr} {it D : Addr} {tn : Nat → Heap → Prop} {g g1 : TG} {tt tt1 : TT} {wi1 : TI} {tk tv : TE} {vs vs1 : List Nat} {σ : L2.St} {R : Result → Shared → Prop}
theorem dc2_run (hc : Y.calm = true) (hx : Y.xe = fun _ _ => False) (hu : Y.A.units + 64 < cLine) (T : Turn Y.prog Y.w Y.K tg J fp it tn) (pg : PG Y tg g) (pt : PTs Y ifs tt) (pi1 : PI Y tg1 iter1 wi1) (pg1 : PG Y tg1 g1) (pt1 : PTs Y ifs1 tt1) (pk : PE Y kx tk) (pv : PE Y vx tv)
    (hs1 : ∀ x, foldedSetIterable iter1 Y.env x = pure x) (hv : ∀ i ∈ vs1, i ∈ vs) (fo : ∀ H' : Hp, (∀ b ∈ fp, H' b = none) → ∀ b ∈ fp, FpOk Y [] H' b) {H0 : Hp} {s0 : Shared} (I0 : Inv Y [] (wipe σ vs) H0 s0) (st0 : tn 0 s0.heap) (nf0 : ∀ b ∈ fp, H0 b = none)
    {Q : Hp → Prop} (h : gDc2 J D g tt wi1 g1 tt1 tk tv vs vs1 σ H0 Q) (hR : ∀ s' H', Inv Y [] (wipe σ vs) H' s' → Q H' → R (.ok .next) s') :
    codeAny (model Y.prog Y.w) Y.A (.compLoop (dc2 kx vx tg iter tg1 iter1 ifs ifs1 scope pos) 0 (.ref it) (.ref D) Y.env) R s0 := by
  obtain ⟨W, ⟨m0, w0⟩, turn⟩ := h
  refine dloop_out hs1 (fun n s' => ∃ i H', Inv Y [] (wipe σ vs) H' s' ∧ tn i s'.heap ∧ (∀ b ∈ fp, H' b = none) ∧ W i n H') ?_ m0 ⟨0, H0, I0, st0, nf0, w0⟩
  rintro n s5 ⟨i, H5, I5, st5, n5, w5⟩
  rcases turn i n H5 w5 with ⟨stop, qq⟩ | ⟨go, Nx, hNx, step⟩
  · refine turn_go T hc hx pg pt I5 fo st5 n5 (Qe := Q) (p := fun _ => False) (Qt := fun _ _ _ => False) (R0 := fun s' => R (.ok .next) s') (.inl ⟨stop, qq⟩) (fun s' I' q' => hR s' H5 I' q') ?_
    intro _ _ _ _ _ _ _ z _
    exact z.elim
  · have fin : ∀ {σ9 : L2.St} {s7 s' : Shared} {H' : Hp}, tn (i + 1) s7.heap → Inv Y ([] ++ pinsAt fp s7.heap) σ9 H' s' → (wipe σ vs).length = σ9.length → (∀ (j : Nat) v, (wipe σ vs)[j]? = some (some v) → σ9[j]? = some (some v)) → Nx H' →
        ∃ m, m < n ∧ ∃ i H', Inv Y [] (wipe σ vs) H' s' ∧ tn i s'.heap ∧ (∀ b ∈ fp, H' b = none) ∧ W i m H' := fun {σ9 s7 s' H'} st' I' hl hk nx => by
      obtain ⟨m', hm, w'⟩ := hNx H' nx
      obtain ⟨b1, b2, b3⟩ := turn_back T st' I' hl hk
      exact ⟨m', hm, i + 1, H', b1, b2, b3, w'⟩
    refine turn_go T hc hx pg pt I5 fo st5 n5 (Qe := fun _ => False) (R0 := fun s' => R (.ok .next) s') (p := fun σ2 => wipe σ2 vs = wipe σ vs) (Qt := fun σ2 b H3 => if b = true then wi1 σ2 H3 fun J1 H4 => ∃ W1 : Nat → Nat → Hp → Prop, (∃ m, W1 0 m H4) ∧ ∀ j k H, W1 j k H → (J1.stop j H ∧ Nx H) ∨ (J1.go j H ∧ ∃ Nx1 : Hp → Prop, (∀ H', Nx1 H' → ∃ k', k' < k ∧ W1 (j + 1) k' H') ∧ ∀ x H', J1.yld j H x H' → g1 x (wipe σ2 vs1) H' fun σ3 H5 => wipe σ3 vs1 = wipe σ2 vs1 ∧ tt1 σ3 H5 fun b H6 =>
      if b = true then tk σ3 H6 fun y H7 => tv σ3 H7 fun z H8 => ∃ H9, DPut H8 D y z H9 ∧ Nx1 H9 else Nx1 H6) else Nx H3) (.inr ⟨go, step⟩) (fun _ _ z => z.elim) ?_
    · intro b s7 s9 σ8 H9 st7 I9 hw8 q9
      have hl8 : (wipe σ vs).length = σ8.length := by rw [← hw8, wipe_length]
      have hk8 : ∀ (j : Nat) v, (wipe σ vs)[j]? = some (some v) → σ8[j]? = some (some v) := fun j v e => by
        rw [← hw8] at e
        exact (wipe_some e).1
      have hk9 : ∀ (j : Nat) v, (wipe σ vs)[j]? = some (some v) → (wipe σ8 vs1)[j]? = some (some v) := fun j v e => by
        rw [← hw8] at e
        obtain ⟨e1, e2⟩ := wipe_some e
        exact (wipe_out fun z => e2 (hv j z)).trans e1
      cases b with
      | false =>
        simp only [Bool.false_eq_true, if_false] at q9 ⊢
        exact fin st7 I9 hl8 hk8 q9
      | true =>
        simp only [if_true] at q9 ⊢
        have ei := pi1.run _ s9 σ8 H9 _ I9 q9
        rw [hx] at ei
        refine thnF ei fun xv s10 hxv => thnF hxv fun itv s11 h11 => ?_
        obtain ⟨it1, fp1, tn1, J1, H11, e1, I11, T1, st11, f11, W1, ⟨m1, w1⟩, turn1⟩ := h11
        subst e1
        have fo1 : ∀ H' : Hp, (∀ b ∈ fp1, H' b = none) → ∀ b ∈ fp1, FpOk Y ([] ++ pinsAt fp s7.heap) H' b := fun H' hn b hb => ⟨hn b hb, (f11 b hb).2⟩
        have inner : codeAny (model Y.prog Y.w) Y.A (.compLoop (dc2 kx vx tg iter tg1 iter1 ifs ifs1 scope pos) 1 (.ref it1) (.ref D) Y.env) (fun r s' => match r with
            | .ok _ => ∃ m, m < n ∧ ∃ i H', Inv Y [] (wipe σ vs) H' s' ∧ tn i s'.heap ∧ (∀ b ∈ fp, H' b = none) ∧ W i m H'
            | .error _ => False) s11 := by
          refine dloop_in (fun k s' => ∃ j H', Inv Y ([] ++ pinsAt fp s7.heap) (wipe σ8 vs1) H' s' ∧ tn1 j s'.heap ∧ (∀ b ∈ fp1, H' b = none) ∧ W1 j k H') ?_ m1 ⟨0, H11, I11.weak (wipe_length _ _) (fun j v e => (wipe_some e).1), st11, fun b hb => (f11 b hb).1, w1⟩
          rintro k s12 ⟨j, H12, I12, st12, n12, w12⟩
          rcases turn1 j k H12 w12 with ⟨stop1, nx1⟩ | ⟨go1, Nx1, hNx1, step1⟩
          · refine turn_go T1 hc hx pg1 pt1 I12 fo1 st12 n12 (Qe := Nx) (p := fun _ => False) (Qt := fun _ _ _ => False) (.inl ⟨stop1, nx1⟩) (fun s' I' q' => fin st7 I' (hl8.trans (wipe_length σ8 vs1).symm) hk9 q') ?_
            intro _ _ _ _ _ _ _ z _
            exact z.elim
          · refine turn_go T1 hc hx pg1 pt1 I12 fo1 st12 n12 (Qe := fun _ => False) (p := fun σ3 => wipe σ3 vs1 = wipe σ8 vs1) (Qt := fun σ3 b H6 => if b = true then tk σ3 H6 fun y H7 => tv σ3 H7 fun z H8 => ∃ H9, DPut H8 D y z H9 ∧ Nx1 H9 else Nx1 H6) (.inr ⟨go1, step1⟩) (fun _ _ z => z.elim) ?_
            intro b1 s14 s16 σ15 H16 st14 I16 hw15 q16
            have fin1 : ∀ {s' : Shared} {H' : Hp}, Inv Y (([] ++ pinsAt fp s7.heap) ++ pinsAt fp1 s14.heap) σ15 H' s' → Nx1 H' → ∃ m, m < k ∧ ∃ j H', Inv Y ([] ++ pinsAt fp s7.heap) (wipe σ8 vs1) H' s' ∧ tn1 j s'.heap ∧ (∀ b ∈ fp1, H' b = none) ∧ W1 j m H' := fun {s' H'} I' nx => by
              obtain ⟨m', hm, w'⟩ := hNx1 H' nx
              obtain ⟨b1, b2, b3⟩ := turn_back T1 st14 I' (σ0 := wipe σ8 vs1) (by rw [← hw15, wipe_length]) (fun j v e => by rw [← hw15] at e; exact (wipe_some e).1)
              exact ⟨m', hm, j + 1, H', b1, b2, b3, w'⟩
            cases b1 with
            | false =>
              simp only [Bool.false_eq_true, if_false] at q16 ⊢
              exact fin1 I16 q16
            | true =>
              simp only [if_true] at q16 ⊢
              have ek := pk.run _ s16 σ15 H16 _ I16 q16
              rw [hx] at ek
              refine thnF ek fun kv s17 ⟨yk, H17, I17, r17, q17⟩ => ?_
              have ev := pv.run _ s17 σ15 H17 _ I17 q17
              rw [hx] at ev
              refine thnF ev fun vv s18 ⟨yv, H18, I18, r18, H19, put, nx⟩ => ?_
              exact dc_put hu I18 put r17 r18 fun s19 I19 => fin1 I19 nx
        exact dstart1 inner (T1.self Y.A 0 _ _ _ st11 inner)
/-- one clause -/
def gDc1 (J : It) (D : Addr) (g : TG) (tt : TT) (tk tv : TE) (vs : List Nat) (σ : L2.St) (H0 : Hp) (Q : Hp → Prop) : Prop :=
  ∃ W : Nat → Nat → Hp → Prop, (∃ m, W 0 m H0) ∧ ∀ i m H, W i m H → (J.stop i H ∧ Q H) ∨ (J.go i H ∧ ∃ Nx : Hp → Prop, (∀ H', Nx H' → ∃ m', m' < m ∧ W (i + 1) m' H') ∧ ∀ x H', J.yld i H x H' → g x (wipe σ vs) H' fun σ2 H2 => wipe σ2 vs = wipe σ vs ∧ tt σ2 H2 fun b H3 =>
    if b = true then tk σ2 H3 fun y H4 => tv σ2 H4 fun z H5 => ∃ H6, DPut H5 D y z H6 ∧ Nx H6 else Nx H3)
theorem dc1_run (hc : Y.calm = true) (hx : Y.xe = fun _ _ => False) (hu : Y.A.units + 64 < cLine) (T : Turn Y.prog Y.w Y.K tg J fp it tn) (pg : PG Y tg g) (pt : PTs Y ifs tt) (pk : PE Y kx tk) (pv : PE Y vx tv)
    (fo : ∀ H' : Hp, (∀ b ∈ fp, H' b = none) → ∀ b ∈ fp, FpOk Y [] H' b) {H0 : Hp} {s0 : Shared} (I0 : Inv Y [] (wipe σ vs) H0 s0) (st0 : tn 0 s0.heap) (nf0 : ∀ b ∈ fp, H0 b = none)
    {Q : Hp → Prop} (h : gDc1 J D g tt tk tv vs σ H0 Q) (hR : ∀ s' H', Inv Y [] (wipe σ vs) H' s' → Q H' → R (.ok .next) s') :
    codeAny (model Y.prog Y.w) Y.A (.compLoop (.DictComp kx vx [⟨tg, iter, ifs, 0⟩] scope pos) 0 (.ref it) (.ref D) Y.env) R s0 := by
  obtain ⟨W, ⟨m0, w0⟩, turn⟩ := h
  refine compLoop_anyD (fun n s' => ∃ i H', Inv Y [] (wipe σ vs) H' s' ∧ tn i s'.heap ∧ (∀ b ∈ fp, H' b = none) ∧ W i n H') ?_ m0 ⟨0, H0, I0, st0, nf0, w0⟩
  rintro n s5 ⟨i, H5, I5, st5, n5, w5⟩
  rcases turn i n H5 w5 with ⟨stop, qq⟩ | ⟨go, Nx, hNx, step⟩
  · refine turn_go T hc hx pg pt I5 fo st5 n5 (Qe := Q) (p := fun _ => False) (Qt := fun _ _ _ => False) (R0 := fun s' => R (.ok .next) s') (.inl ⟨stop, qq⟩) (fun s' I' q' => hR s' H5 I' q') ?_
    intro _ _ _ _ _ _ _ z _
    exact z.elim
  · refine turn_go T hc hx pg pt I5 fo st5 n5 (Qe := fun _ => False) (R0 := fun s' => R (.ok .next) s') (p := fun σ2 => wipe σ2 vs = wipe σ vs) (Qt := fun σ2 b H3 => if b = true then tk σ2 H3 fun y H4 => tv σ2 H4 fun z H5 => ∃ H6, DPut H5 D y z H6 ∧ Nx H6 else Nx H3) (.inr ⟨go, step⟩) (fun _ _ z => z.elim) ?_
    intro b s7 s9 σ8 H9 st7 I9 hw8 q9
    have fin : ∀ {s' : Shared} {H' : Hp}, Inv Y ([] ++ pinsAt fp s7.heap) σ8 H' s' → Nx H' → ∃ m, m < n ∧ ∃ i H', Inv Y [] (wipe σ vs) H' s' ∧ tn i s'.heap ∧ (∀ b ∈ fp, H' b = none) ∧ W i m H' := fun {s' H'} I' nx => by
      obtain ⟨m', hm, w'⟩ := hNx H' nx
      obtain ⟨b1, b2, b3⟩ := turn_back T st7 I' (σ0 := wipe σ vs) (by rw [← hw8, wipe_length]) (fun j v e => by rw [← hw8] at e; exact (wipe_some e).1)
      exact ⟨m', hm, i + 1, H', b1, b2, b3, w'⟩
    cases b with
    | false =>
      simp only [Bool.false_eq_true, if_false] at q9 ⊢
      exact fin I9 q9
    | true =>
      simp only [if_true] at q9 ⊢
      have ek := pk.run _ s9 σ8 H9 _ I9 q9
      rw [hx] at ek
      refine thnF ek fun kv s17 ⟨yk, H17, I17, r17, q17⟩ => ?_
      have ev := pv.run _ s17 σ8 H17 _ I17 q17
      rw [hx] at ev
      refine thnF ev fun vv s18 ⟨yv, H18, I18, r18, H19, put, nx⟩ => ?_
      exact dc_put hu I18 put r17 r18 fun s19 I19 => fin I19 nx
end
/-! ### the block -/
/-- the new dict -/
def emp (t : Bool) : HO := if t then .dT [] else .dK []
theorem emp_ok {P : Program} {w : World} {H : Hp} (t : Bool) (h : Heap) (hb : sysModules < h.objs.size) : ObjOk P w H (h.push { cls := .type "dict", data := .dict #[] }) h.objs.size (emp t) := by
  cases t with
  | false => exact dk_empty h hb
  | true => exact dt_empty h hb
theorem dblk {X : Cx} {pins : List (Addr × Obj)} {s : Shared} {σ : L2.St} {H : Hp} {Q : VK} {kx vx tg iter : Expr} {ifs : List Expr} {rest : List PySem.Comprehension} {scope : Scope} {own : List (Str × Nat)} {pos pos2 : Pos} {wi : TI} {use : Option (Value → Sem Unit)} {Qf : Value → Shared → Prop} (t : Bool) (P : It → Addr → Hp → (Hp → Prop) → Prop)
    (hN : X.N.Nodup) (I : Inv X pins σ H s) (hi : PI X tg iter wi) (ok : BlkOk X.N X.env.scope scope own) (hs : ∀ x, foldedSetIterable iter X.env x = pure x)
    (h : wi σ H fun J H1 => ∀ D, H1 D = none → P J D (upd H1 D (emp t)) fun H' => Q (.ref D) H')
    (loop : ∀ (s3 : Shared) (H3 : Hp) (C : Addr) (cl : List (Str × Addr)) (fp : List Addr) (it D : Addr) (tn : Nat → Heap → Prop) (J : It) (s4 : Shared) (R : Result → Shared → Prop), Turn X.prog X.w X.K tg J fp it tn →
      Inv (X.blk s3 H3 scope (compEnvC scope cl C X.env) fp) [] (wipe σ (own.map (·.2))) H3 s4 → tn 0 s4.heap → (∀ b ∈ fp, H3 b = none) → (∀ H' : Hp, (∀ b ∈ fp, H' b = none) → ∀ b ∈ fp, FpOk (X.blk s3 H3 scope (compEnvC scope cl C X.env) fp) [] H' b) → P J D H3 (fun H' => Q (.ref D) H') →
      (∀ s' H', Inv (X.blk s3 H3 scope (compEnvC scope cl C X.env) fp) [] (wipe σ (own.map (·.2))) H' s' → Q (.ref D) H' → R (.ok .next) s') →
      codeAny (model X.prog X.w) X.A (.compLoop (.DictComp kx vx (⟨tg, iter, ifs, 0⟩ :: rest) scope pos) 0 (.ref it) (.ref D) (compEnvC scope cl C X.env)) R s4)
    (hRR : ∀ D C s' m H', Inv X pins σ H' s' → Q (.ref D) H' → s'.heap.Ns C m → FpOk X pins H' C → compPost (model X.prog X.w) X.A X.xe use Qf (.ref D) C (.ok .next) s') :
    wpAny (model X.prog X.w) X.A (comprehension (.DictComp kx vx (⟨tg, iter, ifs, 0⟩ :: rest) scope pos) scope X.env pos2 newDict false (eval iter X.env) use) Qf X.xe s := by
  have hfree : ∀ y ∈ scope.names, y.2 = .free → ∃ c, X.env.cells.lookup y.1 = some c := fun y hy e => (ok.free y hy e).elim (fun k => I.ok.has _ (.inl k)) fun k => I.ok.has _ (.inr k)
  refine wpAny_comprehension_free (use := use) rfl hs (closure_ok hfree) ok.kind (fun y hy e => (ok.uniq y hy).trans (by rw [e])) (thn (hi.run pins s σ H _ I h) fun xv s1 k1 => thn k1 fun itv s2 k2 => ?_)
  obtain ⟨it, fp, tn, J, H2, rfl, I2, T, st2, f2, q⟩ := k2
  refine wpAny_newObj_type (newEnv_comp ?_)
  generalize hD : s2.heap.objs.size = D
  have hDn : H2 D = none := I2.hok.fresh (Nat.le_of_eq hD)
  have q := q D hDn
  generalize hs3 : ({ s2 with heap := s2.heap.push { cls := .type "dict", data := .dict #[] } } : Shared) = s3
  have h3 : s3.heap = s2.heap.push { cls := .type "dict", data := .dict #[] } := by rw [← hs3]
  have I3 : Inv X pins σ (upd H2 D (emp t)) s3 := by
    have z := emp_ok (P := X.prog) (w := X.w) (H := upd H2 D (emp t)) t s2.heap I2.big
    rw [hD] at z
    rw [← hs3]
    exact I2.laid (t' := s2.toks) (fun b o e => Heap.get?_push_of_some _ e) (Nat.le_of_eq hD) z
  have f3 : ∀ b ∈ fp, FpOk X pins (upd H2 D (emp t)) b ∧ b < s3.heap.objs.size := fun b hb => by
    obtain ⟨o, e, _⟩ := T.obj _ _ st2 b hb
    have hlt := Heap.lt_size e
    have hbD : b ≠ D := hD ▸ Nat.ne_of_lt hlt
    exact ⟨⟨(upd_ne hbD).trans (f2 b hb).1, (f2 b hb).2⟩, by rw [h3, Heap.size_push]; exact Nat.lt_succ_of_lt hlt⟩
  have st3 : tn 0 s3.heap := T.keep _ _ _ st2 fun b _ o e => by rw [h3]; exact Heap.get?_push_of_some _ e
  have I4 := block_start I3 ok hN f3
  have st4 : tn 0 (pushCells (s3.heap.push { cls := .type "dict", data := .dict #[] }) scope.names) := T.keep _ _ _ st3 fun b _ o e => pushCells_keeps _ _ _ _ (Heap.get?_push_of_some _ e)
  have go : ∀ R, (∀ s' H', Inv (X.blk s3 (upd H2 D (emp t)) scope (compEnvC scope (cellsFrom (s3.heap.objs.size + 1) scope.names (cloFrom X.env.cells scope.names [])) s3.heap.objs.size X.env) fp) [] (wipe σ (own.map (·.2))) H' s' → Q (.ref D) H' → R (.ok .next) s') → codeAny (model X.prog X.w) X.A (.compLoop (.DictComp kx vx (⟨tg, iter, ifs, 0⟩ :: rest) scope pos) 0 (.ref it) (.ref D) (compEnvC scope (cellsFrom (s3.heap.objs.size + 1) scope.names (cloFrom X.env.cells scope.names [])) s3.heap.objs.size X.env)) R { s3 with heap := pushCells (s3.heap.push { cls := .type "dict", data := .dict #[] }) scope.names } := fun R hR =>
    loop s3 _ _ _ fp it D tn J _ R T I4 st4 (fun b hb => (f3 b hb).1.1) (fun H' hn b hb => ⟨hn b hb, (I4.ok.exf b hb).1, I4.ok.exfs b hb, .inl hb, fun x c e => (I4.ok.exf b hb).2 x c e, fun p hp => absurd (show p ∈ ([] : List (Addr × Obj)) ++ [] from hp) (by simp)⟩) q hR
  have last := go (compPost (model X.prog X.w) X.A X.xe use Qf (.ref D) s3.heap.objs.size) fun s6 H5 I6 qq => by
    have I7 : Inv X pins σ H5 s6 := I3.call' (ch := fp) I6.os I6.base I6.hok I6.bare fun b hb => ⟨(f3 b hb).1.2.2.2.1, (f3 b hb).1.2.1, (f3 b hb).1.2.2.2.2.1, (f3 b hb).1.2.2.2.2.2⟩
    have nC : H5 s3.heap.objs.size = none := I6.free
    obtain ⟨m, hn, _⟩ := I6.loc
    exact hRR D s3.heap.objs.size s6 m H5 I7 qq hn (I3.fpOk (Nat.le_refl _) nC)
  exact codeAny_compStart_dict last (T.self X.A 0 _ _ _ st4 last)
section
variable {X : Cx} {tg iter tg1 iter1 kx vx : Expr} {ifs ifs1 : List Expr} {scope : Scope} {own : List (Str × Nat)} {pos : Pos} {wi wi1 : TI} {g g1 : TG} {tt tt1 : TT} {tk tv : TE} {vs1 : List Nat}
theorem pe_dcA (t : Bool) (hc : X.calm = true) (hN : X.N.Nodup) (hu : X.A.units + 64 < cLine) (hi : PI X tg iter wi) (ok : BlkOk X.N X.env.scope scope own)
    (hg : ∀ s H C cl fp, PG (Cx.in_ X scope s H C cl fp) tg g) (ht : ∀ s H C cl fp, PTs (Cx.in_ X scope s H C cl fp) ifs tt) (hk : ∀ s H C cl fp, PE (Cx.in_ X scope s H C cl fp) kx tk) (he : ∀ s H C cl fp, PE (Cx.in_ X scope s H C cl fp) vx tv)
    (hs : ∀ x, foldedSetIterable iter X.env x = pure x) :
    PE X (.DictComp kx vx [⟨tg, iter, ifs, 0⟩] scope pos) (fun σ H Q => wi σ H fun J H1 => ∀ D, H1 D = none → gDc1 J D g tt tk tv (own.map (·.2)) σ (upd H1 D (emp t)) fun H' => Q (.ref D) H') := by
  refine ⟨fun pins s σ H Q I h => ?_⟩
  rw [arm_eval_DictComp]
  refine dblk t (fun J D H0 Q' => gDc1 J D g tt tk tv (own.map (·.2)) σ H0 Q') hN I hi ok hs h (fun s3 H3 C cl fp it D tn J s4 R T I4 st4 nf fo pq hR => ?_) fun D C s' m H' I' q hn f => ⟨m, hn, fun h2 sb => ?_⟩
  · exact dc1_run (Y := Cx.in_ X scope s3 H3 C cl fp) hc rfl hu T (hg _ _ _ _ _) (ht _ _ _ _ _) (hk _ _ _ _ _) (he _ _ _ _ _) fo I4 st4 nf pq hR
  · obtain ⟨f0, f1, f2, f3, f4, f5⟩ := f
    exact ⟨.ref D, H', I'.turned (t' := s'.toks) (fun b o hb e => (sb.2 b hb).trans e) f0 f1 f3 f4 f5, rfl, q⟩
theorem pe_dcB (t : Bool) (hc : X.calm = true) (hN : X.N.Nodup) (hu : X.A.units + 64 < cLine) (hi : PI X tg iter wi) (ok : BlkOk X.N X.env.scope scope own) (hv : ∀ i ∈ vs1, i ∈ own.map (·.2))
    (hg : ∀ s H C cl fp, PG (Cx.in_ X scope s H C cl fp) tg g) (ht : ∀ s H C cl fp, PTs (Cx.in_ X scope s H C cl fp) ifs tt) (hi1 : ∀ s H C cl fp, PI (Cx.in_ X scope s H C cl fp) tg1 iter1 wi1) (hg1 : ∀ s H C cl fp, PG (Cx.in_ X scope s H C cl fp) tg1 g1) (ht1 : ∀ s H C cl fp, PTs (Cx.in_ X scope s H C cl fp) ifs1 tt1)
    (hk : ∀ s H C cl fp, PE (Cx.in_ X scope s H C cl fp) kx tk) (he : ∀ s H C cl fp, PE (Cx.in_ X scope s H C cl fp) vx tv)
    (hs : ∀ x, foldedSetIterable iter X.env x = pure x) (hs1 : ∀ env x, foldedSetIterable iter1 env x = pure x) :
    PE X (dc2 kx vx tg iter tg1 iter1 ifs ifs1 scope pos) (fun σ H Q => wi σ H fun J H1 => ∀ D, H1 D = none → gDc2 J D g tt wi1 g1 tt1 tk tv (own.map (·.2)) vs1 σ (upd H1 D (emp t)) fun H' => Q (.ref D) H') := by
  refine ⟨fun pins s σ H Q I h => ?_⟩
  rw [arm_eval_DictComp]
  refine dblk t (fun J D H0 Q' => gDc2 J D g tt wi1 g1 tt1 tk tv (own.map (·.2)) vs1 σ H0 Q') hN I hi ok hs h (fun s3 H3 C cl fp it D tn J s4 R T I4 st4 nf fo pq hR => ?_) fun D C s' m H' I' q hn f => ⟨m, hn, fun h2 sb => ?_⟩
  · exact dc2_run (Y := Cx.in_ X scope s3 H3 C cl fp) hc rfl hu T (hg _ _ _ _ _) (ht _ _ _ _ _) (hi1 _ _ _ _ _) (hg1 _ _ _ _ _) (ht1 _ _ _ _ _) (hk _ _ _ _ _) (he _ _ _ _ _) (hs1 _) hv fo I4 st4 nf pq hR
  · obtain ⟨f0, f1, f2, f3, f4, f5⟩ := f
    exact ⟨.ref D, H', I'.turned (t' := s'.toks) (fun b o hb e => (sb.2 b hb).trans e) f0 f1 f3 f4 f5, rfl, q⟩
end
end J

set_option maxHeartbeats 1000000
/-! J: dict comprehensions of any keys, one or two clauses, as pure functions. -/
namespace J
open PySem PySem.Spec PyProof.Rows L2
section
variable {G : Gc} {X : Cx} {W : WX} {tg iter : Expr} {pos : Pos}
theorem DSt.put {M1 M : Gh} {H1 H : Hp} {D : Addr} (hD1 : H1 D = none) {h : PH} {t : Bool} {ks vs : List PV} (c : DSt G M1 H1 D M h t ks vs H) {i v : PV} {ui uv : V} (pi : Rep G (M.hide D) H ui i) (pv : Rep G (M.hide D) H uv v) (hk : kOk t i = true) (hl : ks.length < sizeLine) :
    ∃ H', DPut H D ui uv H' ∧ DSt G M1 H1 D M h t (dputK ks vs i v) (dputV ks vs i v) H' ∧ Tr (M.hide D) H (M.hide D) H' := by
  cases t with
  | false =>
    obtain ⟨kvs, k, e1, e2, e3, e4, e5⟩ := c.push hD1 pi pv hk hl
    subst e1
    exact ⟨_, .k e2 e3, e4, e5⟩
  | true =>
    obtain ⟨us, d, hD, ⟨kvs, rfl, hz, hnd, hks, rfl, hkl⟩, rs, r0, x0, t0, nL, nZ⟩ := c
    cases hi : tkeyOf i with
    | none => simp [kOk, hi] at hk
    | some kk =>
      have hl' : kvs.length < sizeLine := by
        have := congrArg List.length hks
        simp at this
        omega
      obtain ⟨q1, q2, q3, q4⟩ := put_do (G := G) (M := M.hide D) (H := H) (fun x y a => tkeyOf_inj) hnd hks rs hi pv hl'
      have hkk := rep_tlen pi hi
      obtain ⟨b, rfl, hb⟩ := rep_tkey pi hi
      refine ⟨_, .t hD hb hl', ⟨_, _, upd_same, ⟨_, rfl, q1, q2, q3, rfl, fun p hp => (putK_mem hp).elim (fun z => z ▸ hkk) (fun ⟨p', h1, h2⟩ => h2 ▸ hkl p' h1)⟩, Reps.tr Tr.hid _ _ q4, r0.hidW (fun u f z => by rw [hD] at z; cases z; exact f) (fun b z => by rw [hD] at z; cases z) (fun _ z => by cases z), ⟨x0.pre, fun a o q n t => ?_, fun a q => ?_⟩, t0.trans Tr.hid, nL, nZ⟩, Tr.hid⟩
      · rw [upd_ne (ne_of_none q hD1)]; exact x0.keep a o q n t
      · by_cases z : a = D
        · rw [z, upd_same]; simp
        · rw [upd_ne z]; exact x0.dom a q
theorem DSt.rel {M1 M : Gh} {H1 H : Hp} {D : Addr} {h : PH} {t : Bool} {ks vs : List PV} (c : DSt G M1 H1 D M h t ks vs H) : HRel G (M.hide D) H h ∧ Tr M1 H1 (M.hide D) H := by
  obtain ⟨_, _, _, _, _, r, _, tr, _⟩ := c
  exact ⟨r, tr⟩
/-- the loop of the clause that stores -/
theorem dl_ok {M1 : Gh} {H1 : Hp} {D : Addr} (hD1 : H1 D = none) {J : It} {s : Src} {g : GF} {ss vs : List Nat} {ft : SB} {fk fv : SE} {Mb : Gh} {Hb : Hp} {ρ0 : En} {σ0 : L2.St} (hss : ∀ i ∈ ss, i ∈ vs) (it : ItRep G Mb Hb J s) (eb : ERel G Mb Hb ρ0 σ0)
    {Ms : Gh} {H : Hp} {h hE : PH} {t : Bool} {ks ws : List PV} {full : List PV × List PV} (c : DSt G M1 H1 D Ms h t ks ws H) (tb : Tr Mb Hb (Ms.hide D) H) (l : lvOk s h) (hcl : dcL t s g ft fk fv (wipeE ρ0 vs) s.xs ks ws h = .ok full hE)
    {P : Hp → Prop} (fin : ∀ M H', DSt G M1 H1 D M hE t full.1 full.2 H' → Tr (Ms.hide D) H (M.hide D) H' → P H') :
    gDc1 J D (TGF G g ss) (TFB G W0 ft) (TFE G W0 fk) (TFE G W0 fv) vs σ0 H P := by
  obtain ⟨hzs, it⟩ := it
  refine ⟨fun i m H' => m = s.xs.length - i ∧ i ≤ s.xs.length ∧ ∃ (M : Gh) (h' : PH) (k' w' : List PV), DSt G M1 H1 D M h' t k' w' H' ∧ Tr (Ms.hide D) H (M.hide D) H' ∧ lvOk s h' ∧ dcL t s g ft fk fv (wipeE ρ0 vs) (s.xs.drop i) k' w' h' = .ok full hE,
    ⟨s.xs.length, by simp, Nat.zero_le _, Ms, h, ks, ws, c, ⟨⟨[], by simp⟩, fun _ ha => ha, fun a o q n t => ⟨q, n⟩⟩, l, by simpa using hcl⟩, ?_⟩
  rintro i m H2 ⟨rfl, hle, M2, h2, k2, w2, c2, t2, l2, hcl2⟩
  have r2 := c2.rel.1
  obtain ⟨go, stop⟩ := it (M2.hide D) H2 h2 (tb.trans t2) r2 l2
  by_cases hlt : i < s.xs.length
  · obtain ⟨g1, g2⟩ := go i hlt
    rw [List.drop_eq_getElem_cons hlt] at hcl2
    unfold dcL at hcl2
    cases hg1 : g s.xs[i] (wipeE ρ0 vs) with
    | none => simp only [hg1] at hcl2; cases hcl2
    | some ρ3 =>
      simp only [hg1] at hcl2
      refine .inr ⟨g1, fun H' => ∃ (M : Gh) (h' : PH) (k' w' : List PV), DSt G M1 H1 D M h' t k' w' H' ∧ Tr (Ms.hide D) H (M.hide D) H' ∧ lvOk s h' ∧ dcL t s g ft fk fv (wipeE ρ0 vs) (s.xs.drop (i + 1)) k' w' h' = .ok full hE, fun H' q => ⟨s.xs.length - (i + 1), by omega, rfl, hlt, q⟩, fun u H3 y => ?_⟩
      obtain ⟨y1, y2, y3⟩ := g2 u H3 y
      have e0 : ERel G (M2.hide D) H2 (wipeE ρ0 vs) (L2.wipe σ0 vs) := (eb.tr (tb.trans t2)).wipe vs
      refine ⟨M2.hide D, h2, s.xs[i], wipeE ρ0 vs, ρ3, y2, e0.ext y1, y3 _ (List.getElem?_eq_getElem hlt), hg1, fun σ4 e4 w4 => ⟨by rw [w4 vs hss, wipe_wipe], M2.hide D, ρ3, h2, y2, e4, ?_⟩⟩
      cases hf1 : ft ρ3 h2 with
      | bad => rw [hf1] at hcl2; cases hcl2
      | exc _ _ => rw [hf1] at hcl2; cases hcl2
      | ok b h5 =>
        rw [hf1] at hcl2
        intro b' M5 H5 x5 r5 p5
        subst p5
        have x5' := y1.trans x5
        cases b' with
        | false =>
          rw [if_neg Bool.false_ne_true]
          simp only at hcl2
          cases hsl5 : sameL s h5 with
          | false => simp only [hsl5] at hcl2; cases hcl2
          | true =>
            simp only [hsl5, if_true] at hcl2
            obtain ⟨M6, rfl, c6⟩ := c2.step x5' r5
            exact ⟨M6, h5, k2, w2, c6, t2.trans x5'.tr, sameL_ok hsl5, hcl2⟩
        | true =>
          rw [if_pos rfl]
          simp only at hcl2
          refine ⟨M5, ρ3, h5, r5, e4.ext x5, ?_⟩
          cases hf2 : fk ρ3 h5 with
          | bad => rw [hf2] at hcl2; cases hcl2
          | exc _ _ => rw [hf2] at hcl2; cases hcl2
          | ok k h7 =>
            rw [hf2] at hcl2
            intro u7 M7 H7 x7 r7 p7
            simp only at hcl2
            refine ⟨M7, ρ3, h7, r7, (e4.ext x5).ext x7, ?_⟩
            cases hf3 : fv ρ3 h7 with
            | bad => rw [hf3] at hcl2; cases hcl2
            | exc _ _ => rw [hf3] at hcl2; cases hcl2
            | ok v h8 =>
              rw [hf3] at hcl2
              intro u8 M8 H8 x8 r8 p8
              simp only at hcl2
              cases hsl8 : (sameL s h8 && kOk t k && decide (k2.length < sizeLine)) with
              | false => simp only [hsl8] at hcl2; cases hcl2
              | true =>
                simp only [hsl8, if_true] at hcl2
                simp only [Bool.and_eq_true, decide_eq_true_eq] at hsl8
                obtain ⟨⟨hs8, hk8⟩, hl8⟩ := hsl8
                have xx := (x5'.trans x7).trans x8
                obtain ⟨M9, rfl, c9⟩ := c2.step xx r8
                obtain ⟨H10, put, c10, t10⟩ := c9.put hD1 (Rep.ext x8 _ _ p7) p8 hk8 hl8
                exact ⟨H10, put, M9, h8, _, _, c10, (t2.trans xx.tr).trans t10, sameL_ok hs8, hcl2⟩
  · have e : i = s.xs.length := by omega
    subst e
    rw [List.drop_length] at hcl2
    simp only [dcL] at hcl2
    cases hcl2
    exact .inl ⟨stop, fin M2 H2 c2 t2⟩
theorem DSt.first {M1 : Gh} {H1 : Hp} {D : Addr} {h1 : PH} (t : Bool) (r1 : HRel G M1 H1 h1) (hD : H1 D = none) : DSt G M1 H1 D M1 h1 t [] [] (upd H1 D (emp t)) := by
  have nZ : D ∉ M1.Z := fun z => r1.hid D z hD
  have nL : D ∉ M1.L := fun z => r1.liveL z hD
  cases t with
  | false => exact ⟨[], _, upd_same, ⟨[], rfl, Nat.zero_le _, .nil, rfl, rfl⟩, trivial, r1.hide hD (fun _ z => by cases z), Ext.new r1 hD, Tr.hide hD, nL, nZ⟩
  | true => exact ⟨[], _, upd_same, ⟨[], rfl, Nat.zero_le _, .nil, rfl, rfl, fun _ z => (by cases z)⟩, trivial, r1.hide hD (fun _ z => by cases z), Ext.new r1 hD, Tr.hide hD, nL, nZ⟩
def dcT (t : Bool) (vs : List Nat) (fi : SI) (g : GF) (ft : SB) (fk fv : SE) : SE := fun ρ h => (fi ρ h).bind fun s h1 => if sameL s h1 then (dcL t s g ft fk fv (wipeE ρ vs) s.xs [] [] h1).bind fun p h2 => .ok (PV.loc h2.length) (h2 ++ [.dic t p.1 p.2]) else .bad
theorem dcT_t {t : Bool} {fi : SI} {g : GF} {ss : List Nat} {ft : SB} {fk fv : SE} {vs : List Nat} (hss : ∀ i ∈ ss, i ∈ vs) {σ : L2.St} {H : Hp} {Q : VK} (q : TFE G W (dcT t vs fi g ft fk fv) σ H Q) :
    TF G W (fun M H (J : It) (s : Src) => ItRep G M H J s) fi σ H fun J H1 => ∀ D, H1 D = none → gDc1 J D (TGF G g ss) (TFB G W0 ft) (TFE G W0 fk) (TFE G W0 fv) vs σ (upd H1 D (emp t)) fun H' => Q (.ref D) H' := by
  refine (TF.bind (Rp := fun M H (J : It) (s : Src) => ItRep G M H J s) (k := fun ρ s h1 => if sameL s h1 then (dcL t s g ft fk fv (wipeE ρ vs) s.xs [] [] h1).bind fun p h2 => .ok (PV.loc h2.length) (h2 ++ [.dic t p.1 p.2]) else .bad) q).mono fun J H1 ⟨M1, ρ1, h1, s, r1, e1, it, o1⟩ D hD => ?_
  cases hsl : sameL s h1 with
  | false => simp only [hsl] at o1; exact False.elim o1
  | true =>
    simp only [hsl, if_true] at o1
    cases hcl : dcL t s g ft fk fv (wipeE ρ1 vs) s.xs [] [] h1 with
    | bad => rw [hcl] at o1; exact False.elim o1
    | exc e h' => exact absurd hcl (dcL_exc _ _ _ _ _ _)
    | ok full hE =>
      rw [hcl] at o1
      simp only [R.bind_ok] at o1
      refine dl_ok hD hss it e1 (DSt.first t r1 hD) (Tr.hide hD) (sameL_ok hsl) hcl fun M2 H2 c2 _ => ?_
      obtain ⟨us, d, hD2, dd2, rs2, r2, x2, _, nL2, nZ2⟩ := c2
      have hh := HRel.show (ob := .dic t full.1 full.2) r2 (by rw [hD2]; simp) nZ2 nL2 ⟨us, d, hD2, dd2, Reps.tr Tr.show _ _ rs2⟩
      exact o1 (.ref D) _ H2 (ext_add x2 hD) hh.1 hh.2
/-! ### two clauses -/
def dc2L (t : Bool) (s : Src) (g : GF) (ft : SB) (fi1 : SI) (g1 : GF) (ft1 : SB) (fk fv : SE) (vs1 : List Nat) (ρ0 : En) : List PV → List PV → List PV → PH → R (List PV × List PV)
  | [], ks, vs, h => .ok (ks, vs) h
  | x :: xs, ks, vs, h => match g x ρ0 with
    | none => .bad
    | some ρ1 => match ft ρ1 h with
      | .ok true h1 => (match fi1 ρ1 h1 with
        | .ok s1 h2 => if sameL s1 h2 then (match dcL t s1 g1 ft1 fk fv (wipeE ρ1 vs1) s1.xs ks vs h2 with
          | .ok p h3 => if sameL s h3 then dc2L t s g ft fi1 g1 ft1 fk fv vs1 ρ0 xs p.1 p.2 h3 else .bad
          | _ => .bad) else .bad
        | _ => .bad)
      | .ok false h1 => if sameL s h1 then dc2L t s g ft fi1 g1 ft1 fk fv vs1 ρ0 xs ks vs h1 else .bad
      | _ => .bad
theorem dc2L_exc {t : Bool} {s : Src} {g : GF} {ft : SB} {fi1 : SI} {g1 : GF} {ft1 : SB} {fk fv : SE} {vs1 : List Nat} {ρ0 : En} : ∀ (xs ks vs : List PV) (h : PH) (e : Ex) (h' : PH), dc2L t s g ft fi1 g1 ft1 fk fv vs1 ρ0 xs ks vs h ≠ .exc e h'
  | [], ks, vs, h, e, h' => by simp [dc2L]
  | x :: xs, ks, vs, h, e, h' => by
    unfold dc2L
    cases g x ρ0 with
    | none => simp
    | some ρ1 =>
      simp only
      cases ft ρ1 h with
      | ok b h1 =>
        cases b with
        | true =>
          simp only
          cases fi1 ρ1 h1 with
          | ok s1 h2 =>
            simp only
            split
            · cases dcL t s1 g1 ft1 fk fv (wipeE ρ1 vs1) s1.xs ks vs h2 with
              | ok p h3 =>
                simp only
                split
                · exact dc2L_exc xs _ _ h3 e h'
                · simp
              | exc _ _ => simp
              | bad => simp
            · simp
          | exc _ _ => simp
          | bad => simp
        | false =>
          simp only
          split
          · exact dc2L_exc xs _ _ h1 e h'
          · simp
      | exc _ _ => simp
      | bad => simp
def dc2T (t : Bool) (vs vs1 : List Nat) (fi : SI) (g : GF) (ft : SB) (fi1 : SI) (g1 : GF) (ft1 : SB) (fk fv : SE) : SE := fun ρ h => (fi ρ h).bind fun s h1 => if sameL s h1 then (dc2L t s g ft fi1 g1 ft1 fk fv vs1 (wipeE ρ vs) s.xs [] [] h1).bind fun p h2 => .ok (PV.loc h2.length) (h2 ++ [.dic t p.1 p.2]) else .bad
theorem dc2T_t {t : Bool} {fi fi1 : SI} {g g1 : GF} {ss ss1 : List Nat} {ft ft1 : SB} {fk fv : SE} {vs vs1 : List Nat} (hss : ∀ i ∈ ss, i ∈ vs) (hss1 : ∀ i ∈ ss1, i ∈ vs1) {σ : L2.St} {H : Hp} {Q : VK} (q : TFE G W (dc2T t vs vs1 fi g ft fi1 g1 ft1 fk fv) σ H Q) :
    TF G W (fun M H (J : It) (s : Src) => ItRep G M H J s) fi σ H fun J H1 => ∀ D, H1 D = none → gDc2 J D (TGF G g ss) (TFB G W0 ft) (TF G W0 (fun M H (J : It) (s : Src) => ItRep G M H J s) fi1) (TGF G g1 ss1) (TFB G W0 ft1) (TFE G W0 fk) (TFE G W0 fv) vs vs1 σ (upd H1 D (emp t)) fun H' => Q (.ref D) H' := by
  refine (TF.bind (Rp := fun M H (J : It) (s : Src) => ItRep G M H J s) (k := fun ρ s h1 => if sameL s h1 then (dc2L t s g ft fi1 g1 ft1 fk fv vs1 (wipeE ρ vs) s.xs [] [] h1).bind fun p h2 => .ok (PV.loc h2.length) (h2 ++ [.dic t p.1 p.2]) else .bad) q).mono fun J H1 ⟨M1, ρ1, h1, s, r1, e1, it, o1⟩ D hD => ?_
  cases hsl : sameL s h1 with
  | false => simp only [hsl] at o1; exact False.elim o1
  | true =>
    simp only [hsl, if_true] at o1
    obtain ⟨hz, it⟩ := it
    cases hcl : dc2L t s g ft fi1 g1 ft1 fk fv vs1 (wipeE ρ1 vs) s.xs [] [] h1 with
    | bad => rw [hcl] at o1; exact False.elim o1
    | exc e h' => exact absurd hcl (dc2L_exc _ _ _ _ _ _)
    | ok full hE =>
      rw [hcl] at o1
      simp only [R.bind_ok] at o1
      refine ⟨fun i m H' => m = s.xs.length - i ∧ i ≤ s.xs.length ∧ ∃ (M : Gh) (h' : PH) (ks ws : List PV), DSt G M1 H1 D M h' t ks ws H' ∧ lvOk s h' ∧ dc2L t s g ft fi1 g1 ft1 fk fv vs1 (wipeE ρ1 vs) (s.xs.drop i) ks ws h' = .ok full hE,
        ⟨s.xs.length, by simp, Nat.zero_le _, M1, h1, [], [], DSt.first t r1 hD, sameL_ok hsl, by simpa using hcl⟩, ?_⟩
      rintro i m H2 ⟨rfl, hle, M2, h2, ks, ws, c2, l2, hcl2⟩
      obtain ⟨r2, t2⟩ := c2.rel
      obtain ⟨go, stop⟩ := it (M2.hide D) H2 h2 t2 r2 l2
      by_cases hlt : i < s.xs.length
      · obtain ⟨g1', g2'⟩ := go i hlt
        rw [List.drop_eq_getElem_cons hlt] at hcl2
        unfold dc2L at hcl2
        cases hg1 : g s.xs[i] (wipeE ρ1 vs) with
        | none => simp only [hg1] at hcl2; cases hcl2
        | some ρ3 =>
          simp only [hg1] at hcl2
          refine .inr ⟨g1', fun H' => ∃ (M : Gh) (h' : PH) (ks ws : List PV), DSt G M1 H1 D M h' t ks ws H' ∧ lvOk s h' ∧ dc2L t s g ft fi1 g1 ft1 fk fv vs1 (wipeE ρ1 vs) (s.xs.drop (i + 1)) ks ws h' = .ok full hE, fun H' q => ⟨s.xs.length - (i + 1), by omega, rfl, hlt, q⟩, fun u H3 y => ?_⟩
          obtain ⟨y1, y2, y3⟩ := g2' u H3 y
          have e0 : ERel G (M2.hide D) H2 (wipeE ρ1 vs) (L2.wipe σ vs) := (e1.tr t2).wipe vs
          refine ⟨M2.hide D, h2, s.xs[i], wipeE ρ1 vs, ρ3, y2, e0.ext y1, y3 _ (List.getElem?_eq_getElem hlt), hg1, fun σ4 e4 w4 => ⟨by rw [w4 vs hss, wipe_wipe], M2.hide D, ρ3, h2, y2, e4, ?_⟩⟩
          cases hf1 : ft ρ3 h2 with
          | bad => rw [hf1] at hcl2; cases hcl2
          | exc _ _ => rw [hf1] at hcl2; cases hcl2
          | ok b h5 =>
            rw [hf1] at hcl2
            intro b' M5 H5 x5 r5 p5
            subst p5
            have x5' := y1.trans x5
            cases b' with
            | false =>
              rw [if_neg Bool.false_ne_true]
              simp only at hcl2
              cases hsl5 : sameL s h5 with
              | false => simp only [hsl5] at hcl2; cases hcl2
              | true =>
                simp only [hsl5, if_true] at hcl2
                obtain ⟨M6, rfl, c6⟩ := c2.step x5' r5
                exact ⟨M6, h5, ks, ws, c6, sameL_ok hsl5, hcl2⟩
            | true =>
              rw [if_pos rfl]
              simp only at hcl2
              refine ⟨M5, ρ3, h5, r5, e4.ext x5, ?_⟩
              cases hf2 : fi1 ρ3 h5 with
              | bad => rw [hf2] at hcl2; cases hcl2
              | exc _ _ => rw [hf2] at hcl2; cases hcl2
              | ok s1 h7 =>
                rw [hf2] at hcl2
                intro J7 M7 H7 x7 r7 it7
                simp only at hcl2
                cases hsl7 : sameL s1 h7 with
                | false => simp only [hsl7] at hcl2; cases hcl2
                | true =>
                  simp only [hsl7, if_true] at hcl2
                  cases hc7 : dcL t s1 g1 ft1 fk fv (wipeE ρ3 vs1) s1.xs ks ws h7 with
                  | bad => rw [hc7] at hcl2; cases hcl2
                  | exc _ _ => rw [hc7] at hcl2; cases hcl2
                  | ok p h8 =>
                    rw [hc7] at hcl2
                    simp only at hcl2
                    cases hsl8 : sameL s h8 with
                    | false => simp only [hsl8] at hcl2; cases hcl2
                    | true =>
                      simp only [hsl8, if_true] at hcl2
                      obtain ⟨M8, rfl, c8⟩ := c2.step (x5'.trans x7) r7
                      exact dl_ok hD hss1 it7 ((e4.ext x5).ext x7) c8 ⟨⟨[], by simp⟩, fun _ ha => ha, fun a o q n t => ⟨q, n⟩⟩ (sameL_ok hsl7) hc7 fun M H' c' _ => ⟨M, h8, p.1, p.2, c', sameL_ok hsl8, hcl2⟩
      · have e : i = s.xs.length := by omega
        subst e
        rw [List.drop_length] at hcl2
        simp only [dc2L] at hcl2
        cases hcl2
        obtain ⟨us, d, hD2, dd2, rs2, _, x2, _, nL2, nZ2⟩ := c2
        have hh := HRel.show (ob := .dic t ks ws) r2 (by rw [hD2]; simp) nZ2 nL2 ⟨us, d, hD2, dd2, Reps.tr Tr.show _ _ rs2⟩
        exact .inl ⟨stop, o1 (.ref D) _ H2 (ext_add x2 hD) hh.1 hh.2⟩
variable {kx vx tg1 iter1 : Expr} {ifs ifs1 : List Expr} {scope : Scope} {fi fi1 : SI} {g g1 : GF} {ss ss1 : List Nat} {ft ft1 : SB} {fk fv : SE}
theorem je_dcT (t : Bool) (own : List (Str × Nat)) (hN : X.N.Nodup) (hu : X.A.units + 64 < cLine) (hi : JI G X W tg iter fi) (ok : blkC X.N X.env.scope scope own = true)
    (hg : ∀ s H C cl fp, JG G (Cx.in_ X scope s H C cl fp) tg g ss) (ht : ∀ s H C cl fp, JTs G (Cx.in_ X scope s H C cl fp) W0 ifs ft) (hk : ∀ s H C cl fp, JE G (Cx.in_ X scope s H C cl fp) W0 kx fk) (he : ∀ s H C cl fp, JE G (Cx.in_ X scope s H C cl fp) W0 vx fv)
    (hss : ∀ i ∈ ss, i ∈ own.map (·.2) := by decide) (hc : X.calm = true := by rfl) (hs : ∀ x, foldedSetIterable iter X.env x = pure x := by intro _; rfl) :
    JE G X W (.DictComp kx vx [⟨tg, iter, ifs, 0⟩] scope pos) (dcT t (own.map (·.2)) fi g ft fk fv) :=
  pe_imp (pe_dcA t hc hN hu hi (blkOk_by ok) hg ht hk he hs) fun σ H Q q => dcT_t hss q
theorem je_dc2T (t : Bool) (own : List (Str × Nat)) (vs1 : List Nat) (hN : X.N.Nodup) (hu : X.A.units + 64 < cLine) (hi : JI G X W tg iter fi) (ok : blkC X.N X.env.scope scope own = true)
    (hg : ∀ s H C cl fp, JG G (Cx.in_ X scope s H C cl fp) tg g ss) (ht : ∀ s H C cl fp, JTs G (Cx.in_ X scope s H C cl fp) W0 ifs ft)
    (hi1 : ∀ s H C cl fp, JI G (Cx.in_ X scope s H C cl fp) W0 tg1 iter1 fi1) (hg1 : ∀ s H C cl fp, JG G (Cx.in_ X scope s H C cl fp) tg1 g1 ss1) (ht1 : ∀ s H C cl fp, JTs G (Cx.in_ X scope s H C cl fp) W0 ifs1 ft1)
    (hk : ∀ s H C cl fp, JE G (Cx.in_ X scope s H C cl fp) W0 kx fk) (he : ∀ s H C cl fp, JE G (Cx.in_ X scope s H C cl fp) W0 vx fv)
    (hss : ∀ i ∈ ss, i ∈ own.map (·.2) := by decide) (hss1 : ∀ i ∈ ss1, i ∈ vs1 := by decide) (hv : ∀ i ∈ vs1, i ∈ own.map (·.2) := by decide) (hc : X.calm = true := by rfl) (hs : ∀ x, foldedSetIterable iter X.env x = pure x := by intro _; rfl) (hs1 : ∀ env x, foldedSetIterable iter1 env x = pure x := by intro _ _; rfl) :
    JE G X W (.DictComp kx vx [⟨tg, iter, ifs, 0⟩, ⟨tg1, iter1, ifs1, 0⟩] scope pos) (dc2T t (own.map (·.2)) vs1 fi g ft fi1 g1 ft1 fk fv) :=
  pe_imp (pe_dcB t hc hN hu hi (blkOk_by ok) hv hg ht hi1 hg1 ht1 hk he hs hs1) fun σ H Q q => dc2T_t hss hss1 q
end
end J

set_option maxHeartbeats 1000000
/-! J: the keys of a dict as a source. -/
namespace J
open PySem PySem.Spec PyProof.Rows L2
section
variable {G : Gc} {X : Cx} {W : WX} {tg : Expr}
theorem key_rep {M : Gh} {H : Hp} {x : PV} {k : Key} (e : keyOf x = some k) : Rep G M H (kV k) x := by
  cases x <;> first | (cases e; done) | skip
  · cases e; rfl
  · cases e; rfl
theorem keys_rep {M : Gh} {H : Hp} : ∀ {xs : List PV} {k : List Key}, keysOf xs = some k → Reps G M H (k.map kV) xs
  | [], k, e => by cases e; trivial
  | x :: xs, k, e => by
    unfold keysOf at e
    split at e
    · rename_i a as h1 h2
      cases e
      exact ⟨key_rep h1, keys_rep h2⟩
    · cases e
/-- no tuple is one of the mutable objects -/
theorem HRel.tup_out {M : Gh} {H : Hp} {h : PH} (r : HRel G M H h) {q : Addr} {xs : List V} (e : H q = some (.tup xs)) : q ∉ M := by
  rintro (⟨hL, hD⟩ | hZ)
  · obtain ⟨n, hn⟩ := List.getElem?_of_mem hL
    have hl : n < h.length := by rw [← r.len]; exact (List.getElem?_eq_some_iff.mp hn).1
    obtain ⟨a, h1, _, h2⟩ := r.obj n h[n] (List.getElem?_eq_getElem hl)
    obtain rfl : q = a := Option.some.inj (hn.symm.trans h1)
    cases ho : h[n] with
    | lst ys => rw [ho] at h2; obtain ⟨us, z, _⟩ := h2; rw [e] at z; cases z
    | dic t ks vs =>
      rw [ho] at h2
      obtain ⟨us, d, z, dd, _⟩ := h2
      rw [e] at z
      exact dd.other.2.2 xs (Option.some.inj z).symm
    | dead => rw [ho] at h2; exact hD h2
    | ins c fs => rw [ho] at h2; obtain ⟨C, dx, ufs, z, _⟩ := h2; rw [e] at z; cases z
  · exact r.hidT q hZ xs e
def ikeys (f : SE) : SI := fun ρ h => (f ρ h).bind fun v h1 => match v with
  | .dic _ ks _ => .ok ⟨ks, none⟩ h1
  | _ => .bad
theorem ji_keys {e : Expr} {f : SE} (he : JE G X W e f) : JI G X W tg e (ikeys f) := by
  refine pi_imp (pi_keys he) fun σ H Q t' => ?_
  refine (TF.bind (Rp := fun M H (u : V) (v : PV) => Rep G M H u v) t').mono fun u H1 ⟨M1, ρ, h1, v, r1, e1, p, o⟩ => ?_
  cases v <;> first | exact False.elim o | skip
  rename_i t ks vs
  obtain ⟨a, ob, d, us, rfl, n, hs, dd, rs⟩ := p
  refine ⟨a, ob, rfl, ?_⟩
  cases t with
  | false =>
    obtain ⟨kvs, rfl, hz, hnd, hks, rfl⟩ := dd
    have hl : ks.length = kvs.length := by have := congrArg List.length hks; simpa using this
    refine .inl ⟨kvs, hs, o _ M1 H1 (Ext.refl _ _) r1 ⟨by show ks.length ≤ _; omega, fun M2 H2 h2 x r l => ?_⟩⟩
    have s2 := (x.keep a _ hs n (fun ps z => by cases z)).1
    refine ⟨fun i hi => ⟨⟨s2, by show i < _; rw [← hl]; exact hi⟩, fun w H3 y => ?_⟩, s2, Nat.le_of_eq hl.symm⟩
    obtain ⟨rfl, k, v, hk, rfl⟩ := y
    refine ⟨Ext.refl _ _, r, fun v' hv => key_rep ?_⟩
    have hv : ks[i]? = some v' := hv
    have q := congrArg (fun l => l[i]?) hks
    simp only [List.getElem?_map, hv, hk, Option.map_some, Option.some.injEq] at q
    exact q
  | true =>
    obtain ⟨kvs, rfl, hz, hnd, hks, rfl, hkl⟩ := dd
    have hl : ks.length = kvs.length := by have := congrArg List.length hks; simpa using this
    refine .inr ⟨kvs, hs, o _ M1 H1 (Ext.refl _ _) r1 ⟨by show ks.length ≤ _; omega, fun M2 H2 h2 x r l => ?_⟩⟩
    have s2 := (x.keep a _ hs n (fun ps z => by cases z)).1
    refine ⟨fun i hi => ⟨⟨s2, by show i < _; rw [← hl]; exact hi⟩, fun w H3 y => ?_⟩, s2, Nat.le_of_eq hl.symm⟩
    obtain ⟨rfl, k, v, b, hk, rfl, hb⟩ := y
    refine ⟨Ext.refl _ _, r, fun v' hv => ?_⟩
    have hv : ks[i]? = some v' := hv
    have q := congrArg (fun l => l[i]?) hks
    simp only [List.getElem?_map, hv, hk, Option.map_some, Option.some.injEq] at q
    cases v' <;> first | (cases q; done) | skip
    rename_i ps
    exact ⟨b, k.map kV, rfl, r.tup_out hb, hb, by rw [List.length_map]; exact hkl _ (List.mem_of_getElem? hk), keys_rep q⟩
end
end J

/-! J: typed data as pure values. -/
namespace J
open PySem PySem.Spec PyProof.Rows L2
theorem small {n : Nat} (h : n ≤ 16777216) : n ≤ sizeLine := by rw [sizeLine_eq]; exact h
mutual
theorem dle_mono : ∀ (v : PV) (m n : Nat), m ≤ n → dle m v = true → dle n v = true
  | .non, _, _, _, _ => by simp [dle]
  | .bl _, _, _, _, _ => by simp [dle]
  | .int _, _, _, _, _ => by simp [dle]
  | .str _, _, _, _, _ => by simp [dle]
  | .tup xs, 0, _, _, h => by simp [dle] at h
  | .kt xs, 0, _, _, h => by simp [dle] at h
  | .lst xs, 0, _, _, h => by simp [dle] at h
  | .tup xs, m + 1, n, hm, h => by
    obtain ⟨k, rfl⟩ : ∃ k, n = k + 1 := ⟨n - 1, by omega⟩
    simp only [dle] at h ⊢
    exact dles_mono xs m k (by omega) h
  | .kt xs, m + 1, n, hm, h => by
    obtain ⟨k, rfl⟩ : ∃ k, n = k + 1 := ⟨n - 1, by omega⟩
    simp only [dle] at h ⊢
    exact dles_mono xs m k (by omega) h
  | .lst xs, m + 1, n, hm, h => by
    obtain ⟨k, rfl⟩ : ∃ k, n = k + 1 := ⟨n - 1, by omega⟩
    simp only [dle] at h ⊢
    exact dles_mono xs m k (by omega) h
  | .dic _ _ _, m, n, _, h => by cases m <;> simp [dle] at h
  | .loc _, m, n, _, h => by cases m <;> simp [dle] at h
theorem dles_mono : ∀ (xs : List PV) (m n : Nat), m ≤ n → dles m xs = true → dles n xs = true
  | [], _, _, _, _ => by simp [dles]
  | x :: xs, m, n, hm, h => by
    simp only [dles, Bool.and_eq_true] at h ⊢
    exact ⟨dle_mono x m n hm h.1, dles_mono xs m n hm h.2⟩
end
/-- map, that simp leaves alone -/
def mp {α β : Type} (f : α → β) (xs : List α) : List β := xs.map f
section
variable {α β γ : Type} (f : α → β) (g : β → γ) (x : α) (xs ys : List α)
theorem mp_eq : mp f xs = xs.map f := rfl
@[simp] theorem mp_nil : mp f [] = [] := nrfl rfl
theorem mp_cons : mp f (x :: xs) = f x :: mp f xs := rfl
@[simp] theorem mp_length : (mp f xs).length = xs.length := List.length_map ..
@[simp] theorem mp_mp : mp g (mp f xs) = mp (fun x => g (f x)) xs := List.map_map ..
@[simp] theorem mp_filter (p : β → Bool) : (mp f xs).filter p = mp f (xs.filter fun x => p (f x)) := List.filter_map ..
@[simp] theorem mp_flatMap (h : β → List γ) : (mp f xs).flatMap h = xs.flatMap fun x => h (f x) := List.flatMap_map ..
@[simp] theorem mp_all (p : β → Bool) : (mp f xs).all p = xs.all fun x => p (f x) := List.all_map
@[simp] theorem mp_any (p : β → Bool) : (mp f xs).any p = xs.any fun x => p (f x) := List.any_map
theorem mem_mp {b : β} : b ∈ mp f xs ↔ ∃ a ∈ xs, f a = b := List.mem_map
@[simp] theorem forall_mp (P : β → Prop) : (∀ b, b ∈ mp f xs → P b) ↔ ∀ a, a ∈ xs → P (f a) := List.forall_mem_map
@[simp] theorem mp_app : mp f xs ++ mp f ys = mp f (xs ++ ys) := List.map_append.symm
@[simp] theorem mp_app1 : mp f xs ++ [f x] = mp f (xs ++ [x]) := by simp [mp]
@[simp] theorem mp_take (k : Nat) : (mp f xs).take k = mp f (xs.take k) := List.map_take.symm
@[simp] theorem mp_drop (k : Nat) : (mp f xs).drop k = mp f (xs.drop k) := List.map_drop.symm
@[simp] theorem mp_get (k : Nat) : (mp f xs)[k]? = xs[k]?.map f := List.getElem?_map ..
@[simp] theorem mp_rev : (mp f xs).reverse = mp f xs.reverse := List.map_reverse.symm
@[simp] theorem mp_isNil : (mp f xs = []) = (xs = []) := by simp [mp]
theorem mp_id : mp (fun x : α => x) xs = xs := List.map_id' _
theorem mp_congr {f g : α → β} {xs : List α} (h : ∀ x ∈ xs, f x = g x) : mp f xs = mp g xs := List.map_congr_left h
end
/-- f tells data of a type, unlike ones unlike -/
class EmbF {α : Type} (f : α → PV) where
  dep : Nat
  hdep : ∀ a, dle dep (f a) = true
  hclo : ∀ n a, clo n (f a) = true
  heq : ∀ a b, eqv (f a) (f b) = true ↔ a = b
  hrd : ∀ h a, rd h (f a) = f a
theorem dles_emb {α : Type} {f : α → PV} [E : EmbF f] {n : Nat} (hn : EmbF.dep f ≤ n) (xs : List α) : dles n (mp f xs) = true := by
  rw [dles_all, List.all_eq_true]
  intro x hx
  obtain ⟨a, _, rfl⟩ := (mem_mp f xs).mp hx
  exact dle_mono _ _ _ hn (E.hdep a)
theorem clos_emb {α : Type} {f : α → PV} [E : EmbF f] (n : Nat) (xs : List α) : clos n (mp f xs) = true := by
  induction xs with
  | nil => rfl
  | cons x xs ih => simp [mp_cons, clos, E.hclo, ih]
theorem eqs_emb {α : Type} {f : α → PV} [E : EmbF f] : ∀ xs ys : List α, eqs (mp f xs) (mp f ys) = true ↔ xs = ys
  | [], [] => by simp
  | [], y :: ys => by simp [mp_cons]
  | x :: xs, [] => by simp [mp_cons]
  | x :: xs, y :: ys => by
    rw [mp_cons, mp_cons, eqs_cons, Bool.and_eq_true, E.heq, eqs_emb xs ys, List.cons.injEq]
theorem beq_iff_decide {a : Bool} {p : Prop} [Decidable p] (h : a = true ↔ p) : a = decide p := by
  cases a
  · exact (decide_eq_false fun q => by simpa using h.mpr q).symm
  · exact (decide_eq_true (h.mp rfl)).symm
instance : EmbF PV.str where
  dep := 0
  hdep := fun _ => rfl
  hclo := fun _ _ => rfl
  heq := fun a b => by simp
  hrd := fun _ _ => rfl
instance : EmbF PV.int where
  dep := 0
  hdep := fun _ => rfl
  hclo := fun _ _ => rfl
  heq := fun a b => by simp
  hrd := fun _ _ => rfl
/-- tuples, lists, pairs of data -/
def T {α : Type} (f : α → PV) (xs : List α) : PV := .tup (mp f xs)
def Li {α : Type} (f : α → PV) (xs : List α) : PV := .lst (mp f xs)
def P2 {α β : Type} (f : α → PV) (g : β → PV) (p : α × β) : PV := .tup [f p.1, g p.2]
instance {α : Type} {f : α → PV} [E : EmbF f] : EmbF (T f) where
  dep := EmbF.dep f + 1
  hdep := fun xs => by simp only [T, dle]; exact dles_emb (Nat.le_refl _) xs
  hclo := fun n xs => by simp only [T, clo]; exact clos_emb n xs
  heq := fun a b => by rw [T, T, eqv_tup, eqs_emb]
  hrd := fun _ _ => rfl
instance {α : Type} {f : α → PV} [E : EmbF f] : EmbF (Li f) where
  dep := EmbF.dep f + 1
  hdep := fun xs => by simp only [Li, dle]; exact dles_emb (Nat.le_refl _) xs
  hclo := fun n xs => by simp only [Li, clo]; exact clos_emb n xs
  heq := fun a b => by rw [Li, Li, eqv_lst, eqs_emb]
  hrd := fun _ _ => rfl
instance {α β : Type} {f : α → PV} {g : β → PV} [E : EmbF f] [F : EmbF g] : EmbF (P2 f g) where
  dep := (EmbF.dep f + EmbF.dep g) + 1
  hdep := fun p => by
    simp only [P2, dle, dles, Bool.and_true, Bool.and_eq_true]
    exact ⟨dle_mono _ _ _ (Nat.le_add_right _ _) (E.hdep _), dle_mono _ _ _ (Nat.le_add_left _ _) (F.hdep _)⟩
  hclo := fun n p => by simp [P2, clo, clos, E.hclo, F.hclo]
  heq := fun a b => by
    rw [P2, P2, eqv_tup, eqs_cons, eqs_cons, eqs_nil, Bool.and_true, Bool.and_eq_true, E.heq, F.heq]
    exact Prod.ext_iff.symm
  hrd := fun _ _ => rfl
section
variable {α : Type} {f : α → PV} [E : EmbF f]
theorem eqO_emb [DecidableEq α] (a b : α) (h : PH) (hd : EmbF.dep f ≤ DEPTH := by decide) : eqO (f a) (f b) h = some (.bl (decide (a = b))) := by
  unfold eqO
  rw [E.hrd, E.hrd, dle_mono _ _ _ hd (E.hdep a), dle_mono _ _ _ hd (E.hdep b), beq_iff_decide (E.heq a b)]
  rfl
theorem neO_emb [DecidableEq α] (a b : α) (h : PH) (hd : EmbF.dep f ≤ DEPTH := by decide) : neO (f a) (f b) h = some (.bl (!decide (a = b))) := by
  unfold neO
  rw [E.hrd, E.hrd, dle_mono _ _ _ hd (E.hdep a), dle_mono _ _ _ hd (E.hdep b), beq_iff_decide (E.heq a b)]
  rfl
theorem inS_emb [BEq α] [LawfulBEq α] (a : α) (xs : List α) : inS (f a) (mp f xs) = decide (a ∈ xs) := by
  refine beq_iff_decide ?_
  unfold inS
  rw [mp_any, List.any_eq_true]
  constructor
  · rintro ⟨x, hx, e⟩
    have := (E.heq x a).mp e
    exact this ▸ hx
  · exact fun h => ⟨a, h, (E.heq a a).mpr rfl⟩
theorem inJ_emb [BEq α] [LawfulBEq α] (a : α) (xs : List α) (y : PV) (h : PH) (hy : y = T f xs ∨ y = Li f xs) (hd : EmbF.dep f ≤ DEPTH := by decide) : inJ (f a) y h = some (.bl (decide (a ∈ xs))) := by
  have hi : itemsOf h y = some (mp f xs) := by rcases hy with rfl | rfl <;> rfl
  have hj : inJ (f a) y h = inO (f a) y h := by rcases hy with rfl | rfl <;> rfl
  rw [hj]
  unfold inO
  rw [hi]
  simp only [E.hrd, dle_mono _ _ _ hd (E.hdep a), dles_emb (f := f) hd xs, Bool.and_self, if_true]
  rw [inS_emb (f := f)]
theorem ninJ_emb [BEq α] [LawfulBEq α] (a : α) (xs : List α) (y : PV) (h : PH) (hy : y = T f xs ∨ y = Li f xs) (hd : EmbF.dep f ≤ DEPTH := by decide) : ninJ (f a) y h = some (.bl (!decide (a ∈ xs))) := by
  have hi : itemsOf h y = some (mp f xs) := by rcases hy with rfl | rfl <;> rfl
  have hj : ninJ (f a) y h = ninO (f a) y h := by rcases hy with rfl | rfl <;> rfl
  rw [hj]
  unfold ninO
  rw [hi]
  simp only [E.hrd, dle_mono _ _ _ hd (E.hdep a), dles_emb (f := f) hd xs, Bool.and_self, if_true]
  rw [inS_emb (f := f)]
theorem indexOf_emb [BEq α] [LawfulBEq α] (a : α) (xs : List α) (ha : a ∈ xs) : indexOf (mp f xs) (f a) = some (xs.idxOf a) := by
  unfold indexOf
  rw [mp_eq, List.findIdx?_map]
  induction xs with
  | nil => cases ha
  | cons x xs ih =>
    rw [List.findIdx?_cons]
    by_cases hx : x = a
    · subst hx
      simp [Function.comp, (E.heq x x).mpr rfl]
    · have hn : eqv (f x) (f a) = false := by
        cases q : eqv (f x) (f a) with
        | false => rfl
        | true => exact absurd ((E.heq x a).mp q) hx
      have ha' : a ∈ xs := by
        rcases List.mem_cons.mp ha with q | q
        · exact absurd q.symm hx
        · exact q
      have ih' := ih ha'
      simp only [Function.comp] at ih' ⊢
      simp only [hn, ih', List.idxOf_cons, beq_eq_false_iff_ne.mpr hx]
      simp
theorem inJ_T [BEq α] [LawfulBEq α] (a : α) (xs : List α) (h : PH) (hd : EmbF.dep f ≤ DEPTH) : inJ (f a) (T f xs) h = some (.bl (decide (a ∈ xs))) := inJ_emb a xs _ h (.inl rfl) hd
theorem inJ_L [BEq α] [LawfulBEq α] (a : α) (xs : List α) (h : PH) (hd : EmbF.dep f ≤ DEPTH) : inJ (f a) (Li f xs) h = some (.bl (decide (a ∈ xs))) := inJ_emb a xs _ h (.inr rfl) hd
theorem ninJ_T [BEq α] [LawfulBEq α] (a : α) (xs : List α) (h : PH) (hd : EmbF.dep f ≤ DEPTH) : ninJ (f a) (T f xs) h = some (.bl (!decide (a ∈ xs))) := ninJ_emb a xs _ h (.inl rfl) hd
theorem ninJ_L [BEq α] [LawfulBEq α] (a : α) (xs : List α) (h : PH) (hd : EmbF.dep f ≤ DEPTH) : ninJ (f a) (Li f xs) h = some (.bl (!decide (a ∈ xs))) := ninJ_emb a xs _ h (.inr rfl) hd
@[simp] theorem eqO_T [DecidableEq α] (xs ys : List α) (h : PH) (hd : EmbF.dep (T f) ≤ DEPTH) : eqO (T f xs) (T f ys) h = some (.bl (decide (xs = ys))) := eqO_emb (f := T f) xs ys h hd
@[simp] theorem neO_T [DecidableEq α] (xs ys : List α) (h : PH) (hd : EmbF.dep (T f) ≤ DEPTH) : neO (T f xs) (T f ys) h = some (.bl (!decide (xs = ys))) := neO_emb (f := T f) xs ys h hd
@[simp] theorem eqO_L [DecidableEq α] (xs ys : List α) (h : PH) (hd : EmbF.dep (Li f) ≤ DEPTH) : eqO (Li f xs) (Li f ys) h = some (.bl (decide (xs = ys))) := eqO_emb (f := Li f) xs ys h hd
@[simp] theorem neO_L [DecidableEq α] (xs ys : List α) (h : PH) (hd : EmbF.dep (Li f) ≤ DEPTH) : neO (Li f xs) (Li f ys) h = some (.bl (!decide (xs = ys))) := neO_emb (f := Li f) xs ys h hd
@[simp] theorem eqO_T0 [DecidableEq α] (xs : List α) (h : PH) (hd : EmbF.dep (T f) ≤ DEPTH) : eqO (T f xs) (.tup []) h = some (.bl (decide (xs = []))) := eqO_emb (f := T f) xs [] h hd
@[simp] theorem neO_T0 [DecidableEq α] (xs : List α) (h : PH) (hd : EmbF.dep (T f) ≤ DEPTH) : neO (T f xs) (.tup []) h = some (.bl (!decide (xs = []))) := neO_emb (f := T f) xs [] h hd
@[simp] theorem eqO_L0 [DecidableEq α] (xs : List α) (h : PH) (hd : EmbF.dep (Li f) ≤ DEPTH) : eqO (Li f xs) (.lst []) h = some (.bl (decide (xs = []))) := eqO_emb (f := Li f) xs [] h hd
@[simp] theorem neO_L0 [DecidableEq α] (xs : List α) (h : PH) (hd : EmbF.dep (Li f) ≤ DEPTH) : neO (Li f xs) (.lst []) h = some (.bl (!decide (xs = []))) := neO_emb (f := Li f) xs [] h hd
@[simp] theorem eqO_P [DecidableEq α] {β : Type} {g : β → PV} [F : EmbF g] [DecidableEq β] (p q : α × β) (h : PH) (hd : EmbF.dep (P2 f g) ≤ DEPTH) : eqO (P2 f g p) (P2 f g q) h = some (.bl (decide (p = q))) := eqO_emb (f := P2 f g) p q h hd
theorem indexO_T [BEq α] [LawfulBEq α] (a : α) (xs : List α) (h : PH) (hm : a ∈ xs) (hd : EmbF.dep f ≤ DEPTH) : indexO (T f xs) [f a] h = some (.int (xs.idxOf a : Nat), h) := by
  unfold indexO T
  simp only [itemsOf_tup]
  rw [dles_emb (f := f) hd xs, E.hrd, dle_mono _ _ _ hd (E.hdep a), indexOf_emb a xs hm]
  rfl
theorem indexO_L [BEq α] [LawfulBEq α] (a : α) (xs : List α) (h : PH) (hm : a ∈ xs) (hd : EmbF.dep f ≤ DEPTH) : indexO (Li f xs) [f a] h = some (.int (xs.idxOf a : Nat), h) := by
  unfold indexO Li
  simp only [itemsOf_lst]
  rw [dles_emb (f := f) hd xs, E.hrd, dle_mono _ _ _ hd (E.hdep a), indexOf_emb a xs hm]
  rfl
end
section
variable {α β : Type} (f : α → PV) (g : β → PV)
@[simp] theorem dep_str : EmbF.dep PV.str = 0 := nrfl rfl
@[simp] theorem dep_int : EmbF.dep PV.int = 0 := nrfl rfl
@[simp] theorem dep_T [EmbF f] : EmbF.dep (T f) = EmbF.dep f + 1 := nrfl rfl
@[simp] theorem dep_L [EmbF f] : EmbF.dep (Li f) = EmbF.dep f + 1 := nrfl rfl
@[simp] theorem dep_P [EmbF f] [EmbF g] : EmbF.dep (P2 f g) = EmbF.dep f + EmbF.dep g + 1 := nrfl rfl
@[simp] theorem dep_le (n : Nat) : (n ≤ DEPTH) = (n ≤ 60) := nrfl rfl
@[simp] theorem tup_mp (xs : List α) : PV.tup (mp f xs) = T f xs := nrfl rfl
@[simp] theorem lst_mp (xs : List α) : PV.lst (mp f xs) = Li f xs := nrfl rfl
variable (xs ys : List α) (h : PH)
@[simp] theorem itemsOf_T : itemsOf h (T f xs) = some (mp f xs) := nrfl rfl
@[simp] theorem itemsOf_L : itemsOf h (Li f xs) = some (mp f xs) := nrfl rfl
@[simp] theorem srcOf_T : srcOf h (T f xs) = some ⟨mp f xs, none⟩ := nrfl rfl
@[simp] theorem srcOf_L : srcOf h (Li f xs) = some ⟨mp f xs, none⟩ := nrfl rfl
@[simp] theorem lenO_T : lenO [T f xs] h = some (.int xs.length) := by simp [lenO]
@[simp] theorem lenO_L : lenO [Li f xs] h = some (.int xs.length) := by simp [lenO]
@[simp] theorem ixO_T (j : Int) : ixO (T f xs) (.int j) h = atI (mp f xs) j := nrfl rfl
@[simp] theorem ixO_L (j : Int) : ixO (Li f xs) (.int j) h = atI (mp f xs) j := nrfl rfl
@[simp] theorem tupleO_L : tupleO [Li f xs] h = some (T f xs) := nrfl rfl
@[simp] theorem tupleO_T : tupleO [T f xs] h = some (T f xs) := nrfl rfl
@[simp] theorem listO_L : listO [Li f xs] h = some (Li f xs) := nrfl rfl
@[simp] theorem listO_T : listO [T f xs] h = some (Li f xs) := nrfl rfl
@[simp] theorem slO_T (a b : Option Int) : slO (T f xs) a b h = some (.tup (cut (mp f xs) a b)) := nrfl rfl
@[simp] theorem slO_L (a b : Option Int) : slO (Li f xs) a b h = some (.lst (cut (mp f xs) a b)) := nrfl rfl
@[simp] theorem isT_T : isT .tuple h (T f xs) = true := nrfl rfl
@[simp] theorem isT_L : isT .list h (Li f xs) = true := nrfl rfl
@[simp] theorem tyN_non : tyN h .non = some "NoneType" := nrfl rfl
@[simp] theorem tyN_bl (b : Bool) : tyN h (.bl b) = some "bool" := nrfl rfl
@[simp] theorem tyN_int (b : Int) : tyN h (.int b) = some "int" := nrfl rfl
@[simp] theorem tyN_str (b : Str) : tyN h (.str b) = some "str" := nrfl rfl
@[simp] theorem tyN_tup (b : List PV) : tyN h (.tup b) = some "tuple" := nrfl rfl
@[simp] theorem tyN_lst (b : List PV) : tyN h (.lst b) = some "list" := nrfl rfl
@[simp] theorem tyN_P (p : α × β) : tyN h (P2 f g p) = some "tuple" := nrfl rfl
@[simp] theorem tyN_T : tyN h (T f xs) = some "tuple" := nrfl rfl
@[simp] theorem tyN_L : tyN h (Li f xs) = some "list" := nrfl rfl
@[simp] theorem clo_T (n : Nat) : clo n (T f xs) = xs.all fun x => clo n (f x) := by
  unfold T
  simp only [clo]
  induction xs with
  | nil => rfl
  | cons x xs ih => simp [mp_cons, clos, ih]
@[simp] theorem clo_L (n : Nat) : clo n (Li f xs) = xs.all fun x => clo n (f x) := by
  unfold Li
  simp only [clo]
  induction xs with
  | nil => rfl
  | cons x xs ih => simp [mp_cons, clos, ih]
@[simp] theorem clo_P (n : Nat) (p : α × β) : clo n (P2 f g p) = (clo n (f p.1) && clo n (g p.2)) := by simp [P2, clo, clos]
@[simp] theorem truO_T : truO h (T f xs) = some (!xs.isEmpty) := by
  unfold truO T
  cases xs <;> rfl
@[simp] theorem truO_L : truO h (Li f xs) = some (!xs.isEmpty) := by
  unfold truO Li
  cases xs <;> rfl
theorem addO_T (hz : xs.length + ys.length ≤ sizeLine) : addO (T f xs) (T f ys) h = some (T f (xs ++ ys)) := by
  show (if (mp f xs).length + (mp f ys).length ≤ sizeLine then _ else _) = _
  rw [mp_length, mp_length, if_pos hz, mp_app]; rfl
theorem addO_L (hz : xs.length + ys.length ≤ sizeLine) : addO (Li f xs) (Li f ys) h = some (Li f (xs ++ ys)) := by
  show (if (mp f xs).length + (mp f ys).length ≤ sizeLine then _ else _) = _
  rw [mp_length, mp_length, if_pos hz, mp_app]; rfl
theorem addO_Tx (zs : List PV) (hz : xs.length + zs.length ≤ sizeLine) : addO (T f xs) (.tup zs) h = some (.tup (mp f xs ++ zs)) := by
  show (if (mp f xs).length + zs.length ≤ sizeLine then _ else _) = _
  rw [mp_length, if_pos hz]
theorem addO_xL (zs : List PV) (hz : zs.length + xs.length ≤ sizeLine) : addO (.lst zs) (Li f xs) h = some (.lst (zs ++ mp f xs)) := by
  show (if zs.length + (mp f xs).length ≤ sizeLine then _ else _) = _
  rw [mp_length, if_pos hz]
theorem addO_T1 (x : α) (hz : xs.length + 1 ≤ sizeLine) : addO (T f xs) (.tup [f x]) h = some (T f (xs ++ [x])) := addO_T f xs [x] h hz
theorem addO_L1 (x : α) (hz : xs.length + 1 ≤ sizeLine) : addO (Li f xs) (.lst [f x]) h = some (Li f (xs ++ [x])) := addO_L f xs [x] h hz
variable {γ : Type} (zs : List γ)
@[simp] theorem mp_T_f (k : γ → List α) : mp (fun x => T f (k x)) zs = mp (T f) (zs.map k) := (List.map_map (f := k) (g := T f)).symm
@[simp] theorem mp_L_f (k : γ → List α) : mp (fun x => Li f (k x)) zs = mp (Li f) (zs.map k) := (List.map_map (f := k) (g := Li f)).symm
@[simp] theorem mp_int_f (k : γ → Int) : mp (fun x => PV.int (k x)) zs = mp PV.int (zs.map k) := (List.map_map (f := k) (g := PV.int)).symm
@[simp] theorem mp_str_f (k : γ → Str) : mp (fun x => PV.str (k x)) zs = mp PV.str (zs.map k) := (List.map_map (f := k) (g := PV.str)).symm
@[simp] theorem mp_bl_f (k : γ → Bool) : mp (fun x => PV.bl (k x)) zs = mp PV.bl (zs.map k) := (List.map_map (f := k) (g := PV.bl)).symm
end
@[simp] theorem inJ_Ts (x : Str) (xs : List (Str)) (h : PH) (hd : EmbF.dep PV.str ≤ DEPTH) : inJ (.str x) (T PV.str xs) h = some (.bl (decide (x ∈ xs))) := inJ_T (f := PV.str) x xs h hd
@[simp] theorem inJ_Ls (x : Str) (xs : List (Str)) (h : PH) (hd : EmbF.dep PV.str ≤ DEPTH) : inJ (.str x) (Li PV.str xs) h = some (.bl (decide (x ∈ xs))) := inJ_L (f := PV.str) x xs h hd
@[simp] theorem ninJ_Ts (x : Str) (xs : List (Str)) (h : PH) (hd : EmbF.dep PV.str ≤ DEPTH) : ninJ (.str x) (T PV.str xs) h = some (.bl (!decide (x ∈ xs))) := ninJ_T (f := PV.str) x xs h hd
@[simp] theorem ninJ_Ls (x : Str) (xs : List (Str)) (h : PH) (hd : EmbF.dep PV.str ≤ DEPTH) : ninJ (.str x) (Li PV.str xs) h = some (.bl (!decide (x ∈ xs))) := ninJ_L (f := PV.str) x xs h hd
@[simp] theorem indexO_Ts (x : Str) (xs : List (Str)) (h : PH) (hm : x ∈ xs) (hd : EmbF.dep PV.str ≤ DEPTH) : indexO (T PV.str xs) [.str x] h = some (.int (xs.idxOf x : Nat), h) := indexO_T (f := PV.str) x xs h hm hd
@[simp] theorem indexO_Ls (x : Str) (xs : List (Str)) (h : PH) (hm : x ∈ xs) (hd : EmbF.dep PV.str ≤ DEPTH) : indexO (Li PV.str xs) [.str x] h = some (.int (xs.idxOf x : Nat), h) := indexO_L (f := PV.str) x xs h hm hd
@[simp] theorem inJ_Ti (x : Int) (xs : List (Int)) (h : PH) (hd : EmbF.dep PV.int ≤ DEPTH) : inJ (.int x) (T PV.int xs) h = some (.bl (decide (x ∈ xs))) := inJ_T (f := PV.int) x xs h hd
@[simp] theorem inJ_Li (x : Int) (xs : List (Int)) (h : PH) (hd : EmbF.dep PV.int ≤ DEPTH) : inJ (.int x) (Li PV.int xs) h = some (.bl (decide (x ∈ xs))) := inJ_L (f := PV.int) x xs h hd
@[simp] theorem ninJ_Ti (x : Int) (xs : List (Int)) (h : PH) (hd : EmbF.dep PV.int ≤ DEPTH) : ninJ (.int x) (T PV.int xs) h = some (.bl (!decide (x ∈ xs))) := ninJ_T (f := PV.int) x xs h hd
@[simp] theorem ninJ_Li (x : Int) (xs : List (Int)) (h : PH) (hd : EmbF.dep PV.int ≤ DEPTH) : ninJ (.int x) (Li PV.int xs) h = some (.bl (!decide (x ∈ xs))) := ninJ_L (f := PV.int) x xs h hd
@[simp] theorem indexO_Ti (x : Int) (xs : List (Int)) (h : PH) (hm : x ∈ xs) (hd : EmbF.dep PV.int ≤ DEPTH) : indexO (T PV.int xs) [.int x] h = some (.int (xs.idxOf x : Nat), h) := indexO_T (f := PV.int) x xs h hm hd
@[simp] theorem indexO_Li (x : Int) (xs : List (Int)) (h : PH) (hm : x ∈ xs) (hd : EmbF.dep PV.int ≤ DEPTH) : indexO (Li PV.int xs) [.int x] h = some (.int (xs.idxOf x : Nat), h) := indexO_L (f := PV.int) x xs h hm hd
@[simp] theorem inJ_TT {α : Type} {f : α → PV} [EmbF f] [BEq α] [LawfulBEq α] (x : List α) (xs : List (List α)) (h : PH) (hd : EmbF.dep (T f) ≤ DEPTH) : inJ (T f x) (T (T f) xs) h = some (.bl (decide (x ∈ xs))) := inJ_T (f := (T f)) x xs h hd
@[simp] theorem inJ_LT {α : Type} {f : α → PV} [EmbF f] [BEq α] [LawfulBEq α] (x : List α) (xs : List (List α)) (h : PH) (hd : EmbF.dep (T f) ≤ DEPTH) : inJ (T f x) (Li (T f) xs) h = some (.bl (decide (x ∈ xs))) := inJ_L (f := (T f)) x xs h hd
@[simp] theorem ninJ_TT {α : Type} {f : α → PV} [EmbF f] [BEq α] [LawfulBEq α] (x : List α) (xs : List (List α)) (h : PH) (hd : EmbF.dep (T f) ≤ DEPTH) : ninJ (T f x) (T (T f) xs) h = some (.bl (!decide (x ∈ xs))) := ninJ_T (f := (T f)) x xs h hd
@[simp] theorem ninJ_LT {α : Type} {f : α → PV} [EmbF f] [BEq α] [LawfulBEq α] (x : List α) (xs : List (List α)) (h : PH) (hd : EmbF.dep (T f) ≤ DEPTH) : ninJ (T f x) (Li (T f) xs) h = some (.bl (!decide (x ∈ xs))) := ninJ_L (f := (T f)) x xs h hd
@[simp] theorem indexO_TT {α : Type} {f : α → PV} [EmbF f] [BEq α] [LawfulBEq α] (x : List α) (xs : List (List α)) (h : PH) (hm : x ∈ xs) (hd : EmbF.dep (T f) ≤ DEPTH) : indexO (T (T f) xs) [T f x] h = some (.int (xs.idxOf x : Nat), h) := indexO_T (f := (T f)) x xs h hm hd
@[simp] theorem indexO_LT {α : Type} {f : α → PV} [EmbF f] [BEq α] [LawfulBEq α] (x : List α) (xs : List (List α)) (h : PH) (hm : x ∈ xs) (hd : EmbF.dep (T f) ≤ DEPTH) : indexO (Li (T f) xs) [T f x] h = some (.int (xs.idxOf x : Nat), h) := indexO_L (f := (T f)) x xs h hm hd
@[simp] theorem inJ_TL {α : Type} {f : α → PV} [EmbF f] [BEq α] [LawfulBEq α] (x : List α) (xs : List (List α)) (h : PH) (hd : EmbF.dep (Li f) ≤ DEPTH) : inJ (Li f x) (T (Li f) xs) h = some (.bl (decide (x ∈ xs))) := inJ_T (f := (Li f)) x xs h hd
@[simp] theorem inJ_LL {α : Type} {f : α → PV} [EmbF f] [BEq α] [LawfulBEq α] (x : List α) (xs : List (List α)) (h : PH) (hd : EmbF.dep (Li f) ≤ DEPTH) : inJ (Li f x) (Li (Li f) xs) h = some (.bl (decide (x ∈ xs))) := inJ_L (f := (Li f)) x xs h hd
@[simp] theorem ninJ_TL {α : Type} {f : α → PV} [EmbF f] [BEq α] [LawfulBEq α] (x : List α) (xs : List (List α)) (h : PH) (hd : EmbF.dep (Li f) ≤ DEPTH) : ninJ (Li f x) (T (Li f) xs) h = some (.bl (!decide (x ∈ xs))) := ninJ_T (f := (Li f)) x xs h hd
@[simp] theorem ninJ_LL {α : Type} {f : α → PV} [EmbF f] [BEq α] [LawfulBEq α] (x : List α) (xs : List (List α)) (h : PH) (hd : EmbF.dep (Li f) ≤ DEPTH) : ninJ (Li f x) (Li (Li f) xs) h = some (.bl (!decide (x ∈ xs))) := ninJ_L (f := (Li f)) x xs h hd
@[simp] theorem indexO_TL {α : Type} {f : α → PV} [EmbF f] [BEq α] [LawfulBEq α] (x : List α) (xs : List (List α)) (h : PH) (hm : x ∈ xs) (hd : EmbF.dep (Li f) ≤ DEPTH) : indexO (T (Li f) xs) [Li f x] h = some (.int (xs.idxOf x : Nat), h) := indexO_T (f := (Li f)) x xs h hm hd
@[simp] theorem indexO_LL {α : Type} {f : α → PV} [EmbF f] [BEq α] [LawfulBEq α] (x : List α) (xs : List (List α)) (h : PH) (hm : x ∈ xs) (hd : EmbF.dep (Li f) ≤ DEPTH) : indexO (Li (Li f) xs) [Li f x] h = some (.int (xs.idxOf x : Nat), h) := indexO_L (f := (Li f)) x xs h hm hd
@[simp] theorem inJ_TP {α β : Type} {f : α → PV} [EmbF f] [BEq α] [LawfulBEq α] {g : β → PV} [EmbF g] [BEq β] [LawfulBEq β] (x : α × β) (xs : List (α × β)) (h : PH) (hd : EmbF.dep (P2 f g) ≤ DEPTH) : inJ (P2 f g x) (T (P2 f g) xs) h = some (.bl (decide (x ∈ xs))) := inJ_T (f := (P2 f g)) x xs h hd
@[simp] theorem inJ_LP {α β : Type} {f : α → PV} [EmbF f] [BEq α] [LawfulBEq α] {g : β → PV} [EmbF g] [BEq β] [LawfulBEq β] (x : α × β) (xs : List (α × β)) (h : PH) (hd : EmbF.dep (P2 f g) ≤ DEPTH) : inJ (P2 f g x) (Li (P2 f g) xs) h = some (.bl (decide (x ∈ xs))) := inJ_L (f := (P2 f g)) x xs h hd
@[simp] theorem ninJ_TP {α β : Type} {f : α → PV} [EmbF f] [BEq α] [LawfulBEq α] {g : β → PV} [EmbF g] [BEq β] [LawfulBEq β] (x : α × β) (xs : List (α × β)) (h : PH) (hd : EmbF.dep (P2 f g) ≤ DEPTH) : ninJ (P2 f g x) (T (P2 f g) xs) h = some (.bl (!decide (x ∈ xs))) := ninJ_T (f := (P2 f g)) x xs h hd
@[simp] theorem ninJ_LP {α β : Type} {f : α → PV} [EmbF f] [BEq α] [LawfulBEq α] {g : β → PV} [EmbF g] [BEq β] [LawfulBEq β] (x : α × β) (xs : List (α × β)) (h : PH) (hd : EmbF.dep (P2 f g) ≤ DEPTH) : ninJ (P2 f g x) (Li (P2 f g) xs) h = some (.bl (!decide (x ∈ xs))) := ninJ_L (f := (P2 f g)) x xs h hd
@[simp] theorem indexO_TP {α β : Type} {f : α → PV} [EmbF f] [BEq α] [LawfulBEq α] {g : β → PV} [EmbF g] [BEq β] [LawfulBEq β] (x : α × β) (xs : List (α × β)) (h : PH) (hm : x ∈ xs) (hd : EmbF.dep (P2 f g) ≤ DEPTH) : indexO (T (P2 f g) xs) [P2 f g x] h = some (.int (xs.idxOf x : Nat), h) := indexO_T (f := (P2 f g)) x xs h hm hd
@[simp] theorem indexO_LP {α β : Type} {f : α → PV} [EmbF f] [BEq α] [LawfulBEq α] {g : β → PV} [EmbF g] [BEq β] [LawfulBEq β] (x : α × β) (xs : List (α × β)) (h : PH) (hm : x ∈ xs) (hd : EmbF.dep (P2 f g) ≤ DEPTH) : indexO (Li (P2 f g) xs) [P2 f g x] h = some (.int (xs.idxOf x : Nat), h) := indexO_L (f := (P2 f g)) x xs h hm hd
theorem addO_T1s (x : Str) (xs : List (Str)) (h : PH) (hz : xs.length + 1 ≤ sizeLine) : addO (T PV.str xs) (.tup [.str x]) h = some (T PV.str (xs ++ [x])) := addO_T1 PV.str xs h x hz
theorem addO_L1s (x : Str) (xs : List (Str)) (h : PH) (hz : xs.length + 1 ≤ sizeLine) : addO (Li PV.str xs) (.lst [.str x]) h = some (Li PV.str (xs ++ [x])) := addO_L1 PV.str xs h x hz
theorem addO_T1i (x : Int) (xs : List (Int)) (h : PH) (hz : xs.length + 1 ≤ sizeLine) : addO (T PV.int xs) (.tup [.int x]) h = some (T PV.int (xs ++ [x])) := addO_T1 PV.int xs h x hz
theorem addO_L1i (x : Int) (xs : List (Int)) (h : PH) (hz : xs.length + 1 ≤ sizeLine) : addO (Li PV.int xs) (.lst [.int x]) h = some (Li PV.int (xs ++ [x])) := addO_L1 PV.int xs h x hz
theorem addO_T1T {α : Type} {f : α → PV}  (x : List α) (xs : List (List α)) (h : PH) (hz : xs.length + 1 ≤ sizeLine) : addO (T (T f) xs) (.tup [T f x]) h = some (T (T f) (xs ++ [x])) := addO_T1 (T f) xs h x hz
theorem addO_L1T {α : Type} {f : α → PV}  (x : List α) (xs : List (List α)) (h : PH) (hz : xs.length + 1 ≤ sizeLine) : addO (Li (T f) xs) (.lst [T f x]) h = some (Li (T f) (xs ++ [x])) := addO_L1 (T f) xs h x hz
theorem addO_T1L {α : Type} {f : α → PV}  (x : List α) (xs : List (List α)) (h : PH) (hz : xs.length + 1 ≤ sizeLine) : addO (T (Li f) xs) (.tup [Li f x]) h = some (T (Li f) (xs ++ [x])) := addO_T1 (Li f) xs h x hz
theorem addO_L1L {α : Type} {f : α → PV}  (x : List α) (xs : List (List α)) (h : PH) (hz : xs.length + 1 ≤ sizeLine) : addO (Li (Li f) xs) (.lst [Li f x]) h = some (Li (Li f) (xs ++ [x])) := addO_L1 (Li f) xs h x hz
theorem addO_T1P {α β : Type} {f : α → PV}  {g : β → PV}  (x : α × β) (xs : List (α × β)) (h : PH) (hz : xs.length + 1 ≤ sizeLine) : addO (T (P2 f g) xs) (.tup [P2 f g x]) h = some (T (P2 f g) (xs ++ [x])) := addO_T1 (P2 f g) xs h x hz
theorem addO_L1P {α β : Type} {f : α → PV}  {g : β → PV}  (x : α × β) (xs : List (α × β)) (h : PH) (hz : xs.length + 1 ≤ sizeLine) : addO (Li (P2 f g) xs) (.lst [P2 f g x]) h = some (Li (P2 f g) (xs ++ [x])) := addO_L1 (P2 f g) xs h x hz
@[simp] theorem tup_s1 (x : Str) : PV.tup [.str x] = T PV.str [x] := nrfl rfl
@[simp] theorem tup_s2 (x y : Str) : PV.tup [.str x, .str y] = T PV.str [x, y] := nrfl rfl
abbrev tS : List Str → PV := T PV.str
abbrev tB : List (List Str) → PV := T (T PV.str)
end J

/-! J: comprehensions, generator expressions and loops over data, by rewriting. -/
namespace J
open PySem PySem.Spec PyProof.Rows L2
def okR {α : Type} (r : R α) (h : PH) : Prop := ∃ a, r = .ok a h
@[simp] theorem okR_ok {α : Type} (a : α) (h : PH) : okR (.ok a h) h := ⟨a, rfl⟩
def okB (r : R Bool) (v : R PV) (h : PH) : Prop := r = .ok false h ∨ (r = .ok true h ∧ okR v h)
@[simp] theorem okB_ok (b : Bool) (v : R PV) (h : PH) : okB (.ok b h) v h ↔ (b = true → okR v h) := by
  cases b <;> simp [okB]
def getB : R Bool → Bool
  | .ok b _ => b
  | _ => false
def getV : R PV → PV
  | .ok v _ => v
  | _ => .non
@[simp] theorem getB_ok (b : Bool) (h : PH) : getB (.ok b h) = b := nrfl rfl
@[simp] theorem getV_ok (v : PV) (h : PH) : getV (.ok v h) = v := nrfl rfl
/-- the slots behind the target -/
def gE (g : GF) (ρ0 : En) (x : PV) : En := (g x ρ0).getD ρ0
@[simp] theorem gE_nm (i : Nat) (ρ0 : En) (x : PV) : gE (gnm i) ρ0 x = ρ0.set i (some x) := nrfl rfl
def gOk (g : GF) (ρ0 : En) (x : PV) : Prop := (g x ρ0).isSome = true
@[simp] theorem gOk_nm (i : Nat) (ρ0 : En) (x : PV) : gOk (gnm i) ρ0 x := nrfl rfl
theorem gE_eq {g : GF} {ρ0 : En} {x : PV} (h : gOk g ρ0 x) : g x ρ0 = some (gE g ρ0 x) := by
  unfold gOk at h
  unfold gE
  cases q : g x ρ0 with
  | none => rw [q] at h; cases h
  | some r => rfl
@[simp] theorem gE_tup2 (i j : Nat) (ρ0 : En) (x y : PV) : gE (gtup 2 (gcons (gnm i) (gcons (gnm j) gnil))) ρ0 (.tup [x, y]) = (ρ0.set i (some x)).set j (some y) := by
  simp [gE, gtup, gcons, gnil, gnm]
@[simp] theorem gE_kt2 (i j : Nat) (ρ0 : En) (x y : PV) : gE (gtup 2 (gcons (gnm i) (gcons (gnm j) gnil))) ρ0 (.kt [x, y]) = (ρ0.set i (some x)).set j (some y) := by
  simp [gE, gtup, gcons, gnil, gnm]
@[simp] theorem gOk_tup2 (i j : Nat) (ρ0 : En) (x y : PV) : gOk (gtup 2 (gcons (gnm i) (gcons (gnm j) gnil))) ρ0 (.tup [x, y]) := by
  simp [gOk, gtup, gcons, gnil, gnm]
@[simp] theorem gOk_kt2 (i j : Nat) (ρ0 : En) (x y : PV) : gOk (gtup 2 (gcons (gnm i) (gcons (gnm j) gnil))) ρ0 (.kt [x, y]) := by
  simp [gOk, gtup, gcons, gnil, gnm]
/-! ### list comprehensions -/
theorem compL_val {s : Src} {g : GF} {ft : SB} {fe : SE} {ρ0 : En} {h : PH} (hs : sameL s h = true) : ∀ xs : List PV, (∀ x ∈ xs, gOk g ρ0 x ∧ okB (ft (gE g ρ0 x) h) (fe (gE g ρ0 x) h) h) →
    compL s g ft fe ρ0 xs h = .ok (mp (fun x => getV (fe (gE g ρ0 x) h)) (xs.filter fun x => getB (ft (gE g ρ0 x) h))) h
  | [], _ => rfl
  | x :: xs, H => by
    have ih := compL_val (s := s) (g := g) (ft := ft) (fe := fe) (ρ0 := ρ0) hs xs fun y hy => H y (List.mem_cons_of_mem _ hy)
    obtain ⟨h1, h2⟩ := H x List.mem_cons_self
    rw [List.filter_cons]
    unfold compL
    rw [gE_eq h1]
    rcases h2 with h2 | ⟨h2, v, h3⟩
    · simp only [h2, hs, if_true, ih, getB_ok]
      rfl
    · simp only [h2, h3, hs, if_true, ih, getB_ok, R.bind_ok, mp_cons, getV_ok]
@[simp] theorem compL_vn {xs0 : List PV} {g : GF} {ft : SB} {fe : SE} {ρ0 : En} {h : PH} {xs : List PV} (H : ∀ x ∈ xs, gOk g ρ0 x ∧ okB (ft (gE g ρ0 x) h) (fe (gE g ρ0 x) h) h) :
    compL ⟨xs0, none⟩ g ft fe ρ0 xs h = .ok (mp (fun x => getV (fe (gE g ρ0 x) h)) (xs.filter fun x => getB (ft (gE g ρ0 x) h))) h := compL_val rfl xs H
@[simp] theorem lcG_ev (vs : List Nat) (fi : SI) (g : GF) (ft : SB) (fe : SE) (k : List PV → PH → R PV) (ρ : En) (h : PH) : lcG vs fi g ft fe k ρ h = (fi ρ h).bind fun s h1 => if sameL s h1 = true then (compL s g ft fe (wipeE ρ vs) s.xs h1).bind k else .bad := nrfl rfl
@[simp] theorem wipeE_nil (ρ : En) : wipeE ρ [] = ρ := nrfl rfl
@[simp] theorem wipeE_cons (ρ : En) (v : Nat) (vs : List Nat) : wipeE ρ (v :: vs) = (wipeE ρ vs).set v none := nrfl rfl
@[simp] theorem tyes_ev (ρ : En) (h : PH) : tyes ρ h = .ok true h := nrfl rfl
/-- .. over data -/
theorem compL_mem {α : Type} (emb : α → PV) (c : α → Bool) (f : α → PV) {s : Src} {g : GF} {ft : SB} {fe : SE} {ρ0 : En} {h : PH} (hs : sameL s h = true) : ∀ xs : List α, (∀ x ∈ xs, ∃ ρ1, g (emb x) ρ0 = some ρ1 ∧ ft ρ1 h = .ok (c x) h ∧ (c x = true → fe ρ1 h = .ok (f x) h)) →
    compL s g ft fe ρ0 (mp emb xs) h = .ok (mp f (xs.filter c)) h
  | [], _ => rfl
  | x :: xs, H => by
    have ih := compL_mem emb c f (s := s) (g := g) (ft := ft) (fe := fe) (ρ0 := ρ0) hs xs fun y hy => H y (List.mem_cons_of_mem _ hy)
    obtain ⟨ρ1, h1, h2, h3⟩ := H x List.mem_cons_self
    rw [List.filter_cons, mp_cons]
    unfold compL
    simp only [h1, h2]
    cases hc : c x with
    | false => simp only [hs, if_true, ih]; rfl
    | true => simp only [h3 hc, hs, if_true, ih, R.bind_ok, mp_cons]
/-! ### two clauses -/
def okI (r : R Src) (h : PH) (p : List PV → Prop) : Prop := ∃ xs, r = .ok ⟨xs, none⟩ h ∧ p xs
@[simp] theorem okI_ok (xs : List PV) (h : PH) (p : List PV → Prop) : okI (.ok ⟨xs, none⟩ h) h p ↔ p xs := ⟨fun ⟨ys, e, q⟩ => by cases e; exact q, fun q => ⟨xs, rfl, q⟩⟩
def getS : R Src → List PV
  | .ok s _ => s.xs
  | _ => []
@[simp] theorem getS_ok (s : Src) (h : PH) : getS (.ok s h) = s.xs := nrfl rfl
theorem comp2L_val {s : Src} {g g1 : GF} {ft ft1 : SB} {fi1 : SI} {fe : SE} {vs1 : List Nat} {ρ0 : En} {h : PH} (hs : sameL s h = true) : ∀ xs : List PV,
    (∀ x ∈ xs, gOk g ρ0 x ∧ okR (ft (gE g ρ0 x) h) h ∧ (getB (ft (gE g ρ0 x) h) = true → okI (fi1 (gE g ρ0 x) h) h fun ys => ∀ y ∈ ys, gOk g1 (wipeE (gE g ρ0 x) vs1) y ∧ okB (ft1 (gE g1 (wipeE (gE g ρ0 x) vs1) y) h) (fe (gE g1 (wipeE (gE g ρ0 x) vs1) y) h) h)) →
    comp2L s g ft fi1 g1 ft1 fe vs1 ρ0 xs h = .ok ((xs.filter fun x => getB (ft (gE g ρ0 x) h)).flatMap fun x => mp (fun y => getV (fe (gE g1 (wipeE (gE g ρ0 x) vs1) y) h)) ((getS (fi1 (gE g ρ0 x) h)).filter fun y => getB (ft1 (gE g1 (wipeE (gE g ρ0 x) vs1) y) h))) h
  | [], _ => rfl
  | x :: xs, H => by
    have ih := comp2L_val (s := s) (g := g) (g1 := g1) (ft := ft) (ft1 := ft1) (fi1 := fi1) (fe := fe) (vs1 := vs1) (ρ0 := ρ0) hs xs fun y hy => H y (List.mem_cons_of_mem _ hy)
    obtain ⟨h1, ⟨b, h2⟩, h3⟩ := H x List.mem_cons_self
    rw [List.filter_cons]
    unfold comp2L
    rw [gE_eq h1]
    cases b with
    | false =>
      simp only [h2, hs, if_true, ih, getB_ok]
      rfl
    | true =>
      obtain ⟨ys, e, q⟩ := h3 (by rw [h2]; rfl)
      have z : sameL ⟨ys, none⟩ h = true := rfl
      simp only [h2, e, z, if_true, compL_val z ys q, hs, ih, getB_ok, R.bind_ok, getS_ok, List.flatMap_cons]
@[simp] theorem comp2L_vn {xs0 : List PV} {g g1 : GF} {ft ft1 : SB} {fi1 : SI} {fe : SE} {vs1 : List Nat} {ρ0 : En} {h : PH} {xs : List PV}
    (H : ∀ x ∈ xs, gOk g ρ0 x ∧ okR (ft (gE g ρ0 x) h) h ∧ (getB (ft (gE g ρ0 x) h) = true → okI (fi1 (gE g ρ0 x) h) h fun ys => ∀ y ∈ ys, gOk g1 (wipeE (gE g ρ0 x) vs1) y ∧ okB (ft1 (gE g1 (wipeE (gE g ρ0 x) vs1) y) h) (fe (gE g1 (wipeE (gE g ρ0 x) vs1) y) h) h)) :
    comp2L ⟨xs0, none⟩ g ft fi1 g1 ft1 fe vs1 ρ0 xs h = .ok ((xs.filter fun x => getB (ft (gE g ρ0 x) h)).flatMap fun x => mp (fun y => getV (fe (gE g1 (wipeE (gE g ρ0 x) vs1) y) h)) ((getS (fi1 (gE g ρ0 x) h)).filter fun y => getB (ft1 (gE g1 (wipeE (gE g ρ0 x) vs1) y) h))) h := comp2L_val rfl xs H
@[simp] theorem lc2G_ev (vs vs1 : List Nat) (fi fi1 : SI) (g g1 : GF) (ft ft1 : SB) (fe : SE) (k : List PV → PH → R PV) (ρ : En) (h : PH) : lc2G vs vs1 fi g ft fi1 g1 ft1 fe k ρ h =
    (fi ρ h).bind fun s h1 => if sameL s h1 = true then (comp2L s g ft fi1 g1 ft1 fe vs1 (wipeE ρ vs) s.xs h1).bind fun xs h2 => if xs.length ≤ sizeLine then k xs h2 else .bad else .bad := rfl
/-! ### all, any -/
theorem genB_val {b : Bool} {s : Src} {g : GF} {ft : SB} {fe : SE} {ρ0 : En} {h : PH} (hs : sameL s h = true) : ∀ xs : List PV, (∀ x ∈ xs, gOk g ρ0 x ∧ okB (ft (gE g ρ0 x) h) (fe (gE g ρ0 x) h) h ∧ (getB (ft (gE g ρ0 x) h) = true → ∃ c, getV (fe (gE g ρ0 x) h) = .bl c)) →
    genL s g ft fe ρ0 (stB b) (enB b) () xs h = .ok (.bl (if b then xs.all fun x => !getB (ft (gE g ρ0 x) h) || getB (tstK h (getV (fe (gE g ρ0 x) h))) else xs.any fun x => getB (ft (gE g ρ0 x) h) && getB (tstK h (getV (fe (gE g ρ0 x) h))))) h
  | [], _ => by cases b <;> rfl
  | x :: xs, H => by
    have ih := genB_val (b := b) (s := s) (g := g) (ft := ft) (fe := fe) (ρ0 := ρ0) hs xs fun y hy => H y (List.mem_cons_of_mem _ hy)
    obtain ⟨h1, h2, h4⟩ := H x List.mem_cons_self
    rw [List.all_cons, List.any_cons]
    unfold genL
    rw [gE_eq h1]
    rcases h2 with h2 | ⟨h2, v, h3⟩
    · simp only [h2, hs, if_true, ih, getB_ok]
      simp
    · obtain ⟨c, hc⟩ := h4 (by rw [h2]; rfl)
      rw [h3] at hc
      have hc : v = .bl c := hc
      subst hc
      simp only [h2, h3, hs, if_true, getB_ok, getV_ok, tstK_bl]
      cases b <;> cases c <;> simp [stB, trP, enB, ih]
def isBl : PV → Prop
  | .bl _ => True
  | _ => False
@[simp] theorem isBl_bl (b : Bool) : isBl (.bl b) := True.intro
theorem isBl_ex {v : PV} (h : isBl v) : ∃ c, v = .bl c := by
  cases v <;> first | exact ⟨_, rfl⟩ | exact False.elim h
def okG (r : R Bool) (v : R PV) (h : PH) : Prop := okB r v h ∧ (getB r = true → isBl (getV v))
@[simp] theorem okG_ok (b : Bool) (v : R PV) (h : PH) : okG (.ok b h) v h ↔ (b = true → okR v h ∧ isBl (getV v)) := by
  unfold okG
  rw [okB_ok, getB_ok]
  exact ⟨fun q e => ⟨q.1 e, q.2 e⟩, fun q => ⟨fun e => (q e).1, fun e => (q e).2⟩⟩
@[simp] theorem allL_v {xs0 : List PV} {g : GF} {ft : SB} {fe : SE} {ρ0 : En} {h : PH} {xs : List PV} (H : ∀ x ∈ xs, gOk g ρ0 x ∧ okG (ft (gE g ρ0 x) h) (fe (gE g ρ0 x) h) h) :
    genL ⟨xs0, none⟩ g ft fe ρ0 (stB true) (enB true) () xs h = .ok (.bl (xs.all fun x => !getB (ft (gE g ρ0 x) h) || getB (tstK h (getV (fe (gE g ρ0 x) h))))) h :=
  (genB_val rfl xs fun x hx => ⟨(H x hx).1, (H x hx).2.1, fun e => isBl_ex ((H x hx).2.2 e)⟩).trans (by simp)
@[simp] theorem anyL_v {xs0 : List PV} {g : GF} {ft : SB} {fe : SE} {ρ0 : En} {h : PH} {xs : List PV} (H : ∀ x ∈ xs, gOk g ρ0 x ∧ okG (ft (gE g ρ0 x) h) (fe (gE g ρ0 x) h) h) :
    genL ⟨xs0, none⟩ g ft fe ρ0 (stB false) (enB false) () xs h = .ok (.bl (xs.any fun x => getB (ft (gE g ρ0 x) h) && getB (tstK h (getV (fe (gE g ρ0 x) h))))) h :=
  (genB_val rfl xs fun x hx => ⟨(H x hx).1, (H x hx).2.1, fun e => isBl_ex ((H x hx).2.2 e)⟩).trans (by simp)
@[simp] theorem allG_ev (vs : List Nat) (fi : SI) (g : GF) (ft : SB) (fe : SE) (ρ : En) (h : PH) : allG vs fi g ft fe ρ h = (fi ρ h).bind fun s h1 => if sameL s h1 = true then genL s g ft fe (wipeE ρ vs) (stB true) (enB true) () s.xs h1 else .bad := nrfl rfl
@[simp] theorem anyG_ev (vs : List Nat) (fi : SI) (g : GF) (ft : SB) (fe : SE) (ρ : En) (h : PH) : anyG vs fi g ft fe ρ h = (fi ρ h).bind fun s h1 => if sameL s h1 = true then genL s g ft fe (wipeE ρ vs) (stB false) (enB false) () s.xs h1 else .bad := nrfl rfl
theorem genB_mem {α : Type} (b : Bool) (emb : α → PV) (c f : α → Bool) {s : Src} {g : GF} {ft : SB} {fe : SE} {ρ0 : En} {h : PH} (hs : sameL s h = true) : ∀ xs : List α, (∀ x ∈ xs, ∃ ρ1, g (emb x) ρ0 = some ρ1 ∧ ft ρ1 h = .ok (c x) h ∧ (c x = true → fe ρ1 h = .ok (.bl (f x)) h)) →
    genL s g ft fe ρ0 (stB b) (enB b) () (mp emb xs) h = .ok (.bl (if b then xs.all fun x => !c x || f x else xs.any fun x => c x && f x)) h
  | [], _ => by cases b <;> rfl
  | x :: xs, H => by
    have ih := genB_mem b emb c f (s := s) (g := g) (ft := ft) (fe := fe) (ρ0 := ρ0) hs xs fun y hy => H y (List.mem_cons_of_mem _ hy)
    obtain ⟨ρ1, h1, h2, h3⟩ := H x List.mem_cons_self
    rw [List.all_cons, List.any_cons, mp_cons]
    unfold genL
    simp only [h1, h2]
    cases hc : c x with
    | false =>
      simp only [hs, if_true, ih]
      simp
    | true =>
      simp only [h3 hc, hs, if_true]
      cases b <;> cases hf : f x <;> simp [stB, trP, enB, ih]
theorem all_mem {α : Type} (emb : α → PV) (f : α → Bool) {s : Src} {g : GF} {fe : SE} {ρ0 : En} {h : PH} (hs : sameL s h = true) (xs : List α) (H : ∀ x ∈ xs, ∃ ρ1, g (emb x) ρ0 = some ρ1 ∧ fe ρ1 h = .ok (.bl (f x)) h) :
    genL s g tyes fe ρ0 (stB true) (enB true) () (mp emb xs) h = .ok (.bl (xs.all f)) h :=
  (genB_mem true emb (fun _ => true) f hs xs fun x hx => by
    obtain ⟨ρ1, h1, h2⟩ := H x hx
    exact ⟨ρ1, h1, rfl, fun _ => h2⟩).trans (by simp)
theorem any_mem {α : Type} (emb : α → PV) (f : α → Bool) {s : Src} {g : GF} {fe : SE} {ρ0 : En} {h : PH} (hs : sameL s h = true) (xs : List α) (H : ∀ x ∈ xs, ∃ ρ1, g (emb x) ρ0 = some ρ1 ∧ fe ρ1 h = .ok (.bl (f x)) h) :
    genL s g tyes fe ρ0 (stB false) (enB false) () (mp emb xs) h = .ok (.bl (xs.any f)) h :=
  (genB_mem false emb (fun _ => true) f hs xs fun x hx => by
    obtain ⟨ρ1, h1, h2⟩ := H x hx
    exact ⟨ρ1, h1, rfl, fun _ => h2⟩).trans (by simp)
/-! ### a < b < c -/
def chnK (r : Option PV) (g : PV → PV → PH → Option PV) (y : PV) (fc : SE) (ρ : En) (h : PH) : R PV := match r with
  | some (.bl true) => (fc ρ h).bind fun z h3 => R.of h3 (g y z h3)
  | some (.bl false) => .ok (.bl false) h
  | _ => .bad
@[simp] theorem chn_ev (f g : PV → PV → PH → Option PV) (fa fb fc : SE) (ρ : En) (h : PH) : chn f g fa fb fc ρ h = (fa ρ h).bind fun x h1 => (fb ρ h1).bind fun y h2 => chnK (f x y h2) g y fc ρ h2 := nrfl rfl
@[simp] theorem chnK_t (g : PV → PV → PH → Option PV) (y : PV) (fc : SE) (ρ : En) (h : PH) : chnK (some (.bl true)) g y fc ρ h = (fc ρ h).bind fun z h3 => R.of h3 (g y z h3) := nrfl rfl
@[simp] theorem chnK_f (g : PV → PV → PH → Option PV) (y : PV) (fc : SE) (ρ : En) (h : PH) : chnK (some (.bl false)) g y fc ρ h = .ok (.bl false) h := nrfl rfl
/-! ### and, or, not as values -/
def vandK (r : R PV) (g : SE) (ρ : En) : R PV := r.bind fun v h1 => match v with
  | .bl true => g ρ h1
  | .bl false => .ok (.bl false) h1
  | _ => .bad
def vorK (r : R PV) (g : SE) (ρ : En) : R PV := r.bind fun v h1 => match v with
  | .bl true => .ok (.bl true) h1
  | .bl false => g ρ h1
  | _ => .bad
section
variable (f g : SE) (ρ : En) (h : PH) (b : Bool)
@[simp] theorem vand_ev : vand f g ρ h = vandK (f ρ h) g ρ := nrfl rfl
@[simp] theorem vor_ev : vor f g ρ h = vorK (f ρ h) g ρ := nrfl rfl
@[simp] theorem vandK_t : vandK (.ok (.bl true) h) g ρ = g ρ h := nrfl rfl
@[simp] theorem vandK_f : vandK (.ok (.bl false) h) g ρ = .ok (.bl false) h := nrfl rfl
@[simp] theorem vorK_t : vorK (.ok (.bl true) h) g ρ = .ok (.bl true) h := nrfl rfl
@[simp] theorem vorK_f : vorK (.ok (.bl false) h) g ρ = g ρ h := nrfl rfl
theorem vandK_c {c : Bool} (e : b = true → g ρ h = .ok (.bl c) h) : vandK (.ok (.bl b) h) g ρ = .ok (.bl (b && c)) h := by
  cases b
  · rfl
  · exact e rfl
theorem vorK_c {c : Bool} (e : b = false → g ρ h = .ok (.bl c) h) : vorK (.ok (.bl b) h) g ρ = .ok (.bl (b || c)) h := by
  cases b
  · exact e rfl
  · rfl
theorem andK_c {g : SB} {c : Bool} (e : b = true → g ρ h = .ok c h) : andK (.ok b h) g ρ = .ok (b && c) h := by
  cases b
  · rfl
  · exact e rfl
theorem orK_c {g : SB} {c : Bool} (e : b = false → g ρ h = .ok c h) : orK (.ok b h) g ρ = .ok (b || c) h := by
  cases b
  · exact e rfl
  · rfl
def vnotK (h : PH) : PV → R PV
  | .bl b => .ok (.bl (!b)) h
  | _ => .bad
@[simp] theorem vnot_ev : vnot f ρ h = (f ρ h).bind fun v h1 => vnotK h1 v := nrfl rfl
@[simp] theorem vnotK_bl : vnotK h (.bl b) = .ok (.bl (!b)) h := nrfl rfl
def fiteK (r : R Bool) (f g : SE) (ρ : En) : R PV := r.bind fun b h1 => if b then f ρ h1 else g ρ h1
@[simp] theorem fite_ev (c : SB) : fite c f g ρ h = fiteK (c ρ h) f g ρ := nrfl rfl
theorem fiteK_c : fiteK (.ok b h) f g ρ = if b = true then f ρ h else g ρ h := rfl
@[simp] theorem fiteK_t : fiteK (.ok true h) f g ρ = f ρ h := nrfl rfl
@[simp] theorem fiteK_f : fiteK (.ok false h) f g ρ = g ρ h := nrfl rfl
@[simp] theorem truO_bl : truO h (.bl b) = some b := nrfl rfl
end
/-! ### undecided tests -/
def getT : R PV → Bool
  | .ok (.bl b) _ => b
  | _ => false
@[simp] theorem getT_ok (b : Bool) (h : PH) : getT (.ok (.bl b) h) = b := nrfl rfl
def whenT (b : Bool) (p : Prop) : Prop := b = true → p
def whenF (b : Bool) (p : Prop) : Prop := b = false → p
@[simp] theorem whenT_ev (b : Bool) (p : Prop) : whenT b p ↔ (b = true → p) := Iff.rfl
@[simp] theorem whenF_ev (b : Bool) (p : Prop) : whenF b p ↔ (b = false → p) := Iff.rfl
def okT (r : R PV) (h : PH) : Prop := ∃ b, r = .ok (.bl b) h
@[simp] theorem okT_ok (b : Bool) (h : PH) : okT (.ok (.bl b) h) h := ⟨b, rfl⟩
section
variable {f g : SE} {c : SB} {ρ : En} {h : PH} {b : Bool}
@[simp] theorem vandK_v (H : whenT b (okT (g ρ h) h)) : vandK (.ok (.bl b) h) g ρ = .ok (.bl (b && getT (g ρ h))) h := by
  cases b
  · rfl
  · obtain ⟨d, e⟩ := H rfl
    rw [vandK_t, e]; rfl
@[simp] theorem vorK_v (H : whenF b (okT (g ρ h) h)) : vorK (.ok (.bl b) h) g ρ = .ok (.bl (b || getT (g ρ h))) h := by
  cases b
  · obtain ⟨d, e⟩ := H rfl
    rw [vorK_f, e]; rfl
  · rfl
@[simp] theorem andK_v (H : whenT b (okR (c ρ h) h)) : andK (.ok b h) c ρ = .ok (b && getB (c ρ h)) h := by
  cases b
  · rfl
  · obtain ⟨d, e⟩ := H rfl
    rw [andK_t, e]; rfl
@[simp] theorem orK_v (H : whenF b (okR (c ρ h) h)) : orK (.ok b h) c ρ = .ok (b || getB (c ρ h)) h := by
  cases b
  · obtain ⟨d, e⟩ := H rfl
    rw [orK_f, e]; rfl
  · rfl
def okF (b : Bool) (r r' : R PV) (h : PH) : Prop := (b = true → okR r h) ∧ (b = false → okR r' h)
@[simp] theorem okF_ev (r r' : R PV) : okF b r r' h ↔ (b = true → okR r h) ∧ (b = false → okR r' h) := Iff.rfl
@[simp] theorem fiteK_v (H : okF b (f ρ h) (g ρ h) h) : fiteK (.ok b h) f g ρ = .ok (if b = true then getV (f ρ h) else getV (g ρ h)) h := by
  cases b
  · obtain ⟨d, e⟩ := H.2 rfl
    rw [fiteK_f, e]; rfl
  · obtain ⟨d, e⟩ := H.1 rfl
    rw [fiteK_t, e]; rfl
end
@[simp] theorem chnK_v {b : Bool} {g : PV → PV → PH → Option PV} {y : PV} {fc : SE} {ρ : En} {h : PH} (H : whenT b (okT ((fc ρ h).bind fun z h3 => R.of h3 (g y z h3)) h)) : chnK (some (.bl b)) g y fc ρ h = .ok (.bl (b && getT ((fc ρ h).bind fun z h3 => R.of h3 (g y z h3)))) h := by
  cases b
  · rfl
  · obtain ⟨d, e⟩ := H rfl
    rw [chnK_t, e]; rfl
@[simp] theorem castI (m n : Nat) : ((m : Int) = n) = (m = n) := propext (by omega)
@[simp] theorem castI0 (m : Nat) : ((m : Int) = 0) = (m = 0) := propext (by omega)
@[simp] theorem castI1 (m : Nat) : ((m : Int) = 1) = (m = 1) := propext (by omega)
@[simp] theorem castI2 (m : Nat) : ((m : Int) = 2) = (m = 2) := propext (by omega)
@[simp] theorem castL (m n : Nat) : ((m : Int) < n) = (m < n) := propext (by omega)
@[simp] theorem castE (m n : Nat) : ((m : Int) ≤ n) = (m ≤ n) := propext (by omega)
@[simp] theorem castL0 (m : Nat) : ((0 : Int) < m) = (0 < m) := propext (by omega)
@[simp] theorem castL1 (m : Nat) : ((1 : Int) < m) = (1 < m) := propext (by omega)
@[simp] theorem castE1 (m : Nat) : ((1 : Int) ≤ m) = (1 ≤ m) := propext (by omega)
@[simp] theorem beqI (i j : Int) : (i == j) = decide (i = j) := by
  by_cases h : i = j <;> simp [h]
end J

/-! J: operations on names, ballots, numbers, by rewriting. -/
namespace J
open PySem PySem.Spec PyProof.Rows L2
section
variable (a b : Str) (h : PH)
@[simp] theorem eqO_s : eqO (.str a) (.str b) h = some (.bl (decide (a = b))) := eqO_emb (f := PV.str) a b h
@[simp] theorem neO_s : neO (.str a) (.str b) h = some (.bl (!decide (a = b))) := neO_emb (f := PV.str) a b h
@[simp] theorem isJ_bl (a b : Bool) (h : PH) : isJ (.bl a) (.bl b) h = some (.bl (decide (a = b))) := nrfl rfl
@[simp] theorem isnJ_bl (a b : Bool) (h : PH) : isnJ (.bl a) (.bl b) h = some (.bl (!decide (a = b))) := nrfl rfl
@[simp] theorem isJ_non (a : PV) (h : PH) : isJ a .non h = some (.bl (isNone a)) := nrfl rfl
@[simp] theorem isnJ_non (a : PV) (h : PH) : isnJ a .non h = some (.bl (!isNone a)) := nrfl rfl
@[simp] theorem eqO_bl (a b : Bool) (h : PH) : eqO (.bl a) (.bl b) h = some (.bl (decide (a = b))) := by simp [eqO, dle]; cases a <;> cases b <;> rfl
@[simp] theorem neO_bl (a b : Bool) (h : PH) : neO (.bl a) (.bl b) h = some (.bl (!decide (a = b))) := by simp [neO, dle]; cases a <;> cases b <;> rfl
theorem addO_tup (is js : List PV) (hz : is.length + js.length ≤ sizeLine) : addO (.tup is) (.tup js) h = some (.tup (is ++ js)) := by
  show (if is.length + js.length ≤ sizeLine then _ else _) = _
  rw [if_pos hz]
theorem addO_lst (is js : List PV) (hz : is.length + js.length ≤ sizeLine) : addO (.lst is) (.lst js) h = some (.lst (is ++ js)) := by
  show (if is.length + js.length ≤ sizeLine then _ else _) = _
  rw [if_pos hz]
end
section
variable (a : Str) (xs : List Str) (h : PH)
def metK : Option (PV × PH) → R PV
  | some (z, h) => .ok z h
  | none => .bad
@[simp] theorem metK_s (z : PV) (h : PH) : metK (some (z, h)) = .ok z h := nrfl rfl
@[simp] theorem met_ev (T : Ty) (f : PV → List PV → PH → Option (PV × PH)) (fo : SE) (ga : SA) (ρ : En) (h : PH) : met T f fo ga ρ h = (fo ρ h).bind fun x h1 => if isT T h1 x = true then (ga ρ h1).bind fun xs h2 => metK (f x xs h2) else .bad := by
  exact nrfl rfl
@[simp] theorem isT_tup (xs : List PV) : isT .tuple h (.tup xs) = true := nrfl rfl
@[simp] theorem isT_lst (xs : List PV) : isT .list h (.lst xs) = true := nrfl rfl
end
@[simp] theorem intsOf_mp (ns : List Int) : intsOf (mp PV.int ns) = some ns := intsOf_map ns
@[simp] theorem sortedO_mp (ns : List Int) (h : PH) : sortedO [Li PV.int ns] h = some (Li PV.int (isort ns)) := by
  show ((intsOf (mp PV.int ns)).map fun ns => PV.lst ((isort ns).map .int)) = _
  rw [intsOf_mp]; rfl
/-! ### texts, ranges, slices -/
@[simp] theorem srcOf_str (z : Str) (h : PH) : srcOf h (.str z) = if z.length ≤ sizeLine then some ⟨mp (fun c => PV.str ⟨#[c]⟩) z.cps.toList, none⟩ else none := nrfl rfl
@[simp] theorem inJ_sign (c : Nat) (z : Str) (h : PH) : inJ (.str ⟨#[c]⟩) (.str z) h = some (.bl (decide (c ∈ z.cps.toList))) := nrfl rfl
@[simp] theorem lenO_str (z : Str) (h : PH) : lenO [.str z] h = if z.length ≤ sizeLine then some (.int z.length) else none := nrfl rfl
def irngK (h : PH) : Option Int → R Src
  | some j => if j ≤ sizeLine ∧ -(2 ^ 62) ≤ j then .ok ⟨rangeL 0 j.toNat, none⟩ h else .bad
  | none => .bad
@[simp] theorem irng1_ev (g : SA) (ρ : En) (h : PH) : irng1 g ρ h = (g ρ h).bind fun vs h1 => irngK h1 (int1 vs) := nrfl rfl
@[simp] theorem int1_i (i : Int) : int1 [.int i] = some i := nrfl rfl
def nI (i : Nat) : PV := .int (i : Int)
@[simp] theorem nI_ev (i : Nat) : nI i = .int (i : Int) := nrfl rfl
@[simp] theorem irngK_n (n : Nat) (h : PH) (hn : n ≤ sizeLine) : irngK h (some (n : Int)) = .ok ⟨mp nI (List.range n), none⟩ h := by
  show (if (n : Int) ≤ sizeLine ∧ -(2 ^ 62) ≤ (n : Int) then _ else _) = _
  rw [if_pos ⟨by omega, by omega⟩]
  simp only [rangeL, Int.toNat_natCast, Int.zero_add]
  rfl
theorem cut_to {α : Type} (xs : List α) (k : Nat) : cut xs none (some (k : Int)) = xs.take k := by
  unfold cut HT.sIx
  have : ¬ ((k : Int) < 0) := by omega
  simp only [this, if_false, Int.toNat_natCast, List.drop_zero, Nat.sub_zero]
  by_cases hk : k ≤ xs.length
  · rw [Nat.min_eq_left hk]
  · rw [Nat.min_eq_right (by omega), List.take_of_length_le (Nat.le_refl _), List.take_of_length_le (by omega)]
@[simp] theorem cut_toM {α β : Type} (f : β → α) (xs : List β) (k : Nat) : cut (mp f xs) none (some (k : Int)) = mp f (xs.take k) := by rw [cut_to, mp_take]
theorem atI_nat {α : Type} (xs : List α) (k : Nat) : atI xs (k : Int) = xs[k]? := by
  unfold atI ixN
  rw [if_pos (show (0 : Int) ≤ k by omega)]
  by_cases hk : k < xs.length
  · rw [if_pos (by omega)]; rfl
  · rw [if_neg (by omega), List.getElem?_eq_none (by omega)]; rfl
/-! ### lists of lists -/
def flat {α : Type} (b : List (List α)) : List α := b.flatten
theorem mem_flat {α : Type} (b : List (List α)) (x : α) : x ∈ flat b ↔ ∃ g ∈ b, x ∈ g := List.mem_flatten
@[simp] theorem flat_nil {α : Type} : flat ([] : List (List α)) = [] := nrfl rfl
@[simp] theorem flat_cons {α : Type} (x : List α) (b : List (List α)) : flat (x :: b) = x ++ flat b := nrfl rfl
@[simp] theorem flat_append {α : Type} (a b : List (List α)) : flat (a ++ b) = flat a ++ flat b := List.flatten_append
@[simp] theorem filter_yes {α : Type} (xs : List α) : xs.filter (fun _ => true) = xs := List.filter_eq_self.mpr fun _ _ => rfl
@[simp] theorem flatMap_str (b : List (List Str)) : b.flatMap (fun g => mp PV.str g) = mp PV.str (flat b) := by
  induction b with
  | nil => rfl
  | cons x b ih => rw [List.flatMap_cons, ih, flat_cons, mp_app]
@[simp] theorem comp_ev {α β γ : Type} (g : β → γ) (f : α → β) : g ∘ f = fun x => g (f x) := nrfl rfl
/-! ### the end of a def -/
@[simp] theorem clo_tup (n : Nat) (xs : List PV) : clo n (.tup xs) = clos n xs := by simp [clo]
@[simp] theorem clo_lst (n : Nat) (xs : List PV) : clo n (.lst xs) = clos n xs := by simp [clo]
@[simp] theorem clo_str (n : Nat) (x : Str) : clo n (.str x) = true := by simp [clo]
@[simp] theorem clo_int (n : Nat) (x : Int) : clo n (.int x) = true := by simp [clo]
@[simp] theorem clo_bl (n : Nat) (x : Bool) : clo n (.bl x) = true := by simp [clo]
@[simp] theorem clo_non (n : Nat) : clo n .non = true := by simp [clo]
@[simp] theorem clos_nil (n : Nat) : clos n [] = true := by simp [clos]
@[simp] theorem clos_cons (n : Nat) (x : PV) (xs : List PV) : clos n (x :: xs) = (clo n x && clos n xs) := by simp [clos]
@[simp] theorem clos_app (n : Nat) (xs ys : List PV) : clos n (xs ++ ys) = (clos n xs && clos n ys) := by
  induction xs with
  | nil => simp
  | cons x xs ih => simp [ih, Bool.and_assoc]
@[simp] theorem clos_map {α : Type} (n : Nat) (f : α → PV) (xs : List α) : clos n (mp f xs) = xs.all fun x => clo n (f x) := by
  induction xs with
  | nil => rfl
  | cons x xs ih => simp [mp_cons, ih]
@[simp] theorem trim_ok (md : Md) (v : PV) (h : PH) (c : clo h.length v = true) : trimR md h.length (.ok v h) = .ok v h := trimR_clo h md h.length v rfl c
theorem trim_emb {α : Type} {f : α → PV} [E : EmbF f] (md : Md) (a : α) (h : PH) : trimR md h.length (.ok (f a) h) = .ok (f a) h := trimR_clo h md h.length (f a) rfl (E.hclo _ a)
@[simp] theorem trim_exc (md : Md) (e : Ex) (h : PH) : trimR md h.length (.exc e h) = .exc e h := by
  simp only [trimR, List.take_length]
  exact ite_self _
@[simp] theorem fin_rt (v : PV) (h : PH) : fin (.rt v h) = .ok v h := nrfl rfl
@[simp] theorem fin_nx (ρ : En) (h : PH) : fin (.nx ρ h) = .ok .non h := nrfl rfl
@[simp] theorem fin_ex (e : Ex) (ρ : En) (h : PH) : fin (.ex e ρ h) = .exc e h := nrfl rfl
@[simp] theorem startE_cons (N : Nat) (a : PV) (as : List PV) : startE (N + 1) (a :: as) = some a :: startE N as := by
  simp [startE]
@[simp] theorem startE_nil (N : Nat) : startE N [] = List.replicate N none := by simp [startE]
end J

/-! J: loops by an invariant; mutable lists. -/
namespace J
open PySem PySem.Spec PyProof.Rows L2
theorem forL_ind {s : Src} {g : GF} {body : SS} (I : Nat → En → PH → Prop) : ∀ (xs : List PV) (k : Nat) (ρ : En) (h : PH), I k ρ h →
    (∀ i x ρ h, xs[i]? = some x → I (k + i) ρ h → ∃ ρ1 ρ2 h2, g x ρ = some ρ1 ∧ (body ρ1 h = .nx ρ2 h2 ∨ body ρ1 h = .ct ρ2 h2) ∧ sameL s h2 = true ∧ I (k + i + 1) ρ2 h2) →
    ∃ ρ' h', forL s g body xs ρ h = .nx ρ' h' ∧ I (k + xs.length) ρ' h'
  | [], k, ρ, h, h0, _ => ⟨ρ, h, rfl, h0⟩
  | x :: xs, k, ρ, h, h0, st => by
    obtain ⟨ρ1, ρ2, h2, e1, e2, e3, e4⟩ := st 0 x ρ h rfl h0
    obtain ⟨ρ', h', e5, e6⟩ := forL_ind (s := s) (g := g) (body := body) I xs (k + 1) ρ2 h2 e4 fun i y ρ h hy hi => by
      have q := st (i + 1) y ρ h (by simpa using hy) (by rw [show k + (i + 1) = k + 1 + i by omega]; exact hi)
      rw [show k + (i + 1) = k + 1 + i by omega] at q
      exact q
    refine ⟨ρ', h', ?_, by rw [show k + (x :: xs).length = k + 1 + xs.length by simp; omega]; exact e6⟩
    show (match g x ρ with
      | none => RS.bad
      | some ρ1 => match body ρ1 h with
        | .nx ρ' h' => if sameL s h' then forL s g body xs ρ' h' else .bad
        | .ct ρ' h' => if sameL s h' then forL s g body xs ρ' h' else .bad
        | .bk ρ' h' => .nx ρ' h'
        | .rt v h' => .rt v h'
        | .ex e ρ' h' => .ex e ρ' h'
        | .bad => .bad) = _
    rw [e1]
    rcases e2 with e2 | e2 <;> simp only [e2, e3, if_true] <;> exact e5
/-- a loop over data, by an invariant over the part gone through -/
theorem for_inv {α : Type} {emb : α → PV} {s : Src} {g : GF} {body : SS} (I : List α → En → PH → Prop) (xs : List α) {ρ : En} {h : PH} (h0 : I [] ρ h)
    (st : ∀ pre x post ρ h, xs = pre ++ x :: post → I pre ρ h → ∃ ρ1 ρ2 h2, g (emb x) ρ = some ρ1 ∧ (body ρ1 h = .nx ρ2 h2 ∨ body ρ1 h = .ct ρ2 h2) ∧ sameL s h2 = true ∧ I (pre ++ [x]) ρ2 h2) :
    ∃ ρ' h', forL s g body (mp emb xs) ρ h = .nx ρ' h' ∧ I xs ρ' h' := by
  obtain ⟨ρ', h', e1, e2⟩ := forL_ind (s := s) (g := g) (body := body) (fun i ρ h => I (xs.take i) ρ h) (mp emb xs) 0 ρ h (by simpa using h0) fun i v ρ h hv hi => by
    rw [mp_get] at hv
    cases hx : xs[i]? with
    | none => rw [hx] at hv; cases hv
    | some x =>
      rw [hx] at hv
      cases hv
      have hl := (List.getElem?_eq_some_iff.mp hx).1
      have hxe := (List.getElem?_eq_some_iff.mp hx).2
      rw [Nat.zero_add] at hi
      obtain ⟨ρ1, ρ2, h2, q1, q2, q3, q4⟩ := st (xs.take i) x (xs.drop (i + 1)) ρ h (by rw [← hxe, List.getElem_cons_drop, List.take_append_drop]) hi
      refine ⟨ρ1, ρ2, h2, q1, q2, q3, ?_⟩
      rw [Nat.zero_add, List.take_succ, hx]
      exact q4
  refine ⟨ρ', h', e1, ?_⟩
  rw [Nat.zero_add, mp_length, List.take_length] at e2
  exact e2
/-- a loop whose turns only look -/
theorem for_pass {J : Type} {s : Src} {g : GF} {body : SS} (E : J → En) {h : PH} (hs : sameL s h = true) : ∀ (xs : List PV) (j : J), (∀ x ∈ xs, ∀ j, ∃ ρ1 j', g x (E j) = some ρ1 ∧ (body ρ1 h = .nx (E j') h ∨ body ρ1 h = .ct (E j') h)) → ∃ j', forL s g body xs (E j) h = .nx (E j') h
  | [], j, _ => ⟨j, rfl⟩
  | x :: xs, j, H => by
    obtain ⟨ρ1, j1, e1, e2⟩ := H x List.mem_cons_self j
    obtain ⟨j2, e3⟩ := for_pass (s := s) (g := g) (body := body) E hs xs j1 fun y hy => H y (List.mem_cons_of_mem _ hy)
    refine ⟨j2, ?_⟩
    show (match g x (E j) with
      | none => RS.bad
      | some ρ1 => match body ρ1 h with
        | .nx ρ' h' => if sameL s h' then forL s g body xs ρ' h' else .bad
        | .ct ρ' h' => if sameL s h' then forL s g body xs ρ' h' else .bad
        | .bk ρ' h' => .nx ρ' h'
        | .rt v h' => .rt v h'
        | .ex e ρ' h' => .ex e ρ' h'
        | .bad => .bad) = _
    rw [e1]
    rcases e2 with e2 | e2 <;> simp only [e2, hs, if_true] <;> exact e3
/-- a loop that folds a state -/
theorem for_fold {α σ J : Type} {emb : α → PV} {s : Src} {g : GF} {body : SS} (E : J → σ → En) (step : σ → α → σ) {h : PH} (hs : sameL s h = true) : ∀ (xs : List α) (j : J) (a : σ), (∀ x ∈ xs, ∀ j a, ∃ ρ1 j', g (emb x) (E j a) = some ρ1 ∧ (body ρ1 h = .nx (E j' (step a x)) h ∨ body ρ1 h = .ct (E j' (step a x)) h)) → ∃ j', forL s g body (mp emb xs) (E j a) h = .nx (E j' (xs.foldl step a)) h
  | [], j, a, _ => ⟨j, rfl⟩
  | x :: xs, j, a, H => by
    obtain ⟨ρ1, j1, e1, e2⟩ := H x List.mem_cons_self j a
    obtain ⟨j2, e3⟩ := for_fold (emb := emb) (s := s) (g := g) (body := body) E step hs xs j1 (step a x) fun y hy => H y (List.mem_cons_of_mem _ hy)
    refine ⟨j2, ?_⟩
    rw [mp_cons]
    show (match g (emb x) (E j a) with
      | none => RS.bad
      | some ρ1 => match body ρ1 h with
        | .nx ρ' h' => if sameL s h' then forL s g body (mp emb xs) ρ' h' else .bad
        | .ct ρ' h' => if sameL s h' then forL s g body (mp emb xs) ρ' h' else .bad
        | .bk ρ' h' => .nx ρ' h'
        | .rt v h' => .rt v h'
        | .ex e ρ' h' => .ex e ρ' h'
        | .bad => .bad) = _
    rw [e1]
    rcases e2 with e2 | e2 <;> simp only [e2, hs, if_true] <;> exact e3
@[simp] theorem sfor_ev (fi : SI) (g : GF) (body : SS) (ρ : En) (h : PH) : sfor fi g body ρ h = (fi ρ h).toS ρ fun s h1 => if sameL s h1 = true then forL s g body s.xs ρ h1 else .bad := nrfl rfl
/-! ### an if whose branches both go on -/
def okN (r : RS) (h : PH) : Prop := ∃ ρ, r = .nx ρ h
@[simp] theorem okN_nx (ρ : En) (h : PH) : okN (.nx ρ h) h := ⟨ρ, rfl⟩
def getE : RS → En
  | .nx ρ _ => ρ
  | _ => []
@[simp] theorem getE_nx (ρ : En) (h : PH) : getE (.nx ρ h) = ρ := nrfl rfl
def okN2 (b : Bool) (r r' : RS) (h : PH) : Prop := (b = true → okN r h) ∧ (b = false → okN r' h)
@[simp] theorem okN2_ev (b : Bool) (r r' : RS) (h : PH) : okN2 b r r' h ↔ (b = true → okN r h) ∧ (b = false → okN r' h) := Iff.rfl
@[simp] theorem sifK_v {b : Bool} {f g : SS} {ρ : En} {h : PH} (H : okN2 b (f ρ h) (g ρ h) h) : sifK (.ok b h) f g ρ = .nx (if b = true then getE (f ρ h) else getE (g ρ h)) h := by
  cases b
  · obtain ⟨d, e⟩ := H.2 rfl
    rw [sifK_f, e]; rfl
  · obtain ⟨d, e⟩ := H.1 rfl
    rw [sifK_t, e]; rfl
@[simp] theorem ite_cons {α : Type} {c : Prop} [Decidable c] (x y : α) (xs ys : List α) : (if c then x :: xs else y :: ys) = (if c then x else y) :: (if c then xs else ys) := by split <;> rfl
@[simp] theorem ite_some {α : Type} {c : Prop} [Decidable c] (x y : α) : (if c then some x else some y) = some (if c then x else y) := by split <;> rfl
@[simp] theorem ite_T {α : Type} {c : Prop} [Decidable c] (f : α → PV) (xs ys : List α) : (if c then T f xs else T f ys) = T f (if c then xs else ys) := by split <;> rfl
@[simp] theorem ite_Li {α : Type} {c : Prop} [Decidable c] (f : α → PV) (xs ys : List α) : (if c then Li f xs else Li f ys) = Li f (if c then xs else ys) := by split <;> rfl
@[simp] theorem ite_int {c : Prop} [Decidable c] (x y : Int) : (if c then PV.int x else PV.int y) = PV.int (if c then x else y) := by split <;> rfl
@[simp] theorem ite_str {c : Prop} [Decidable c] (x y : Str) : (if c then PV.str x else PV.str y) = PV.str (if c then x else y) := by split <;> rfl
@[simp] theorem ite_bl {c : Prop} [Decidable c] (x y : Bool) : (if c then PV.bl x else PV.bl y) = PV.bl (if c then x else y) := by split <;> rfl
/-! ### the last objects of the heap -/
section
variable (A : PH) (o p q : PO)
@[simp] theorem get_at0 : (A ++ [o])[A.length]? = some o := by simp
@[simp] theorem get_at1 : (A ++ [o, p])[A.length]? = some o := by simp
@[simp] theorem get_at2 : (A ++ [o, p])[A.length + 1]? = some p := by simp
@[simp] theorem set_at0 : (A ++ [o]).set A.length q = A ++ [q] := by simp
@[simp] theorem set_at1 : (A ++ [o, p]).set A.length q = A ++ [q, p] := by simp
@[simp] theorem set_at2 : (A ++ [o, p]).set (A.length + 1) q = A ++ [o, q] := by
  rw [List.set_append_right _ _ (by omega)]
  simp
end
section
variable {h : PH} {n : Nat} {xs : List PV} (e : h[n]? = some (.lst xs))
include e
theorem srcOf_loc : srcOf h (.loc n) = some ⟨xs, some n⟩ := by
  show (match rd h (.loc n) with
    | .lst xs => some (⟨xs, some n⟩ : Src)
    | _ => none) = _
  rw [rd_loc e]
theorem isT_loc : isT .list h (.loc n) = true := by
  show (match rd h (.loc n) with
    | .lst _ => true
    | _ => false) = true
  rw [rd_loc e]
theorem sameL_loc : sameL ⟨xs, some n⟩ h = true := by
  show sameO xs h[n]? = true
  rw [e]
  exact beqs_refl xs
theorem ixO_loc (j : Int) : ixO (.loc n) (.int j) h = atI xs j := ixO_of h j (itemsOf_loc h xs n e)
theorem appendO_loc (v : PV) (hz : xs.length < sizeLine) : appendO (.loc n) [v] h = some (.non, h.set n (.lst (xs ++ [v]))) := by
  unfold appendO
  simp only [e]
  rw [if_pos hz]
theorem setLO_loc (v : PV) (j : Int) (k : Nat) (hj : ixN xs.length j = some k) : setLO (.loc n) (.int j) v h = some (h.set n (.lst (xs.set k v))) := by
  unfold setLO
  simp only [e, hj]
  rfl
theorem slO_loc (a b : Option Int) : slO (.loc n) a b h = some (.lst (cut xs a b)) := by
  unfold slO
  rw [rd_loc e]
theorem tupleO_loc : tupleO [.loc n] h = some (.tup xs) := by
  unfold tupleO
  simp only [rd_loc e]
end
theorem rd_locE {h : PH} {n : Nat} {xs : List PV} (e : h[n]? = some (.lst xs)) : rd h (.loc n) = .lst xs := rd_loc e
theorem neO_loc {α : Type} {f : α → PV} [E : EmbF f] [DecidableEq α] {h : PH} {n : Nat} {xs : List α} (e : h[n]? = some (.lst (mp f xs))) (ys : List α) (hd : EmbF.dep (Li f) ≤ DEPTH := by decide) : neO (.loc n) (Li f ys) h = some (.bl (!decide (xs = ys))) := by
  rw [← neO_L (f := f) xs ys h hd]
  unfold neO
  rw [rd_loc e]
  rfl
theorem eqO_loc {α : Type} {f : α → PV} [E : EmbF f] [DecidableEq α] {h : PH} {n : Nat} {xs : List α} (e : h[n]? = some (.lst (mp f xs))) (ys : List α) (hd : EmbF.dep (Li f) ≤ DEPTH := by decide) : eqO (.loc n) (Li f ys) h = some (.bl (decide (xs = ys))) := by
  rw [← eqO_L (f := f) xs ys h hd]
  unfold eqO
  rw [rd_loc e]
  rfl
theorem neO_loc0 {α : Type} {f : α → PV} [E : EmbF f] [DecidableEq α] {h : PH} {n : Nat} {xs : List α} (e : h[n]? = some (.lst (mp f xs))) (hd : EmbF.dep (Li f) ≤ DEPTH := by decide) : neO (.loc n) (.lst []) h = some (.bl (!decide (xs = []))) := neO_loc e [] hd
theorem eqO_loc0 {α : Type} {f : α → PV} [E : EmbF f] [DecidableEq α] {h : PH} {n : Nat} {xs : List α} (e : h[n]? = some (.lst (mp f xs))) (hd : EmbF.dep (Li f) ≤ DEPTH := by decide) : eqO (.loc n) (.lst []) h = some (.bl (decide (xs = []))) := eqO_loc e [] hd
theorem atI_last {α : Type} (xs : List α) (x : α) : atI (xs ++ [x]) (-1) = some x := by
  unfold atI ixN
  rw [if_neg (by omega), if_pos (by simp; omega)]
  have e : ((-1 : Int) + ((xs ++ [x]).length : Nat)).toNat = xs.length := by simp; omega
  rw [e]
  simp
theorem ixN_last (n : Nat) : ixN (n + 1) (-1) = some n := by
  unfold ixN
  rw [if_neg (by omega), if_pos (by omega)]
  congr 1
  omega
@[simp] theorem negO_i (i : Int) (h : PH) : negO (.int i) h = some (.int (-i)) := nrfl rfl
theorem er_map {α β : Type} (f : α → β) : ∀ (xs : List α) (k : Nat), (mp f xs).eraseIdx k = mp f (xs.eraseIdx k)
  | [], _ => by simp
  | x :: xs, 0 => by simp [mp_cons]
  | x :: xs, k + 1 => by simp [mp_cons, er_map f xs k]
theorem removeO_emb {α : Type} {f : α → PV} [E : EmbF f] [BEq α] [LawfulBEq α] {h : PH} {n : Nat} {xs : List α} (e : h[n]? = some (.lst (mp f xs))) (a : α) (ha : a ∈ xs) (hd : EmbF.dep f ≤ DEPTH := by decide) : removeO (.loc n) [f a] h = some (.non, h.set n (.lst (mp f (xs.erase a)))) := by
  unfold removeO
  simp only [e]
  rw [dles_emb (f := f) hd xs, E.hrd, dle_mono _ _ _ hd (E.hdep a), indexOf_emb a xs ha]
  simp only [Bool.and_self, if_true, Option.map_some]
  congr 4
  rw [List.erase_eq_eraseIdx_of_idxOf (show xs.idxOf a = xs.idxOf a from rfl)]
  exact er_map f xs _
/-! ### a heap without places -/
mutual
theorem clo_mono : ∀ (v : PV) (m n : Nat), m ≤ n → clo m v = true → clo n v = true
  | .non, _, _, _, _ => by simp [clo]
  | .bl _, _, _, _, _ => by simp [clo]
  | .int _, _, _, _, _ => by simp [clo]
  | .str _, _, _, _, _ => by simp [clo]
  | .tup xs, m, n, hm, h => by
    simp only [clo] at h ⊢
    exact clos_mono xs m n hm h
  | .kt xs, m, n, hm, h => by
    simp only [clo] at h ⊢
    exact clos_mono xs m n hm h
  | .lst xs, m, n, hm, h => by
    simp only [clo] at h ⊢
    exact clos_mono xs m n hm h
  | .dic _ ks vs, m, n, hm, h => by
    simp only [clo] at h ⊢
    exact clos_mono vs m n hm h
  | .loc k, m, n, hm, h => by
    simp only [clo, decide_eq_true_eq] at h ⊢
    omega
theorem clos_mono : ∀ (xs : List PV) (m n : Nat), m ≤ n → clos m xs = true → clos n xs = true
  | [], _, _, _, _ => by simp [clos]
  | x :: xs, m, n, hm, h => by
    simp only [clos, Bool.and_eq_true] at h ⊢
    exact ⟨clo_mono x m n hm h.1, clos_mono xs m n hm h.2⟩
end
theorem cloO_mono (o : PO) {m n : Nat} (hm : m ≤ n) (h : cloO m o = true) : cloO n o = true := by
  cases o with
  | lst xs => exact clos_mono xs m n hm h
  | dic t ks vs => exact clos_mono vs m n hm h
  | dead => rfl
  | ins c fs => exact clos_mono _ m n hm h
/-- no object of the heap holds a place of it -/
def Flat (h : PH) : Prop := ∀ o ∈ h, cloO 0 o = true
@[simp] theorem flat0 : Flat [] := fun o ho => by cases ho
@[simp] theorem flat_dc (o : PO) (h : PH) : Flat (o :: h) ↔ cloO 0 o = true ∧ Flat h := by simp [Flat]
@[simp] theorem flat_ap (a b : PH) : Flat (a ++ b) ↔ Flat a ∧ Flat b := by
  simp only [Flat, List.mem_append]
  exact ⟨fun h => ⟨fun o ho => h o (.inl ho), fun o ho => h o (.inr ho)⟩, fun h o ho => ho.elim (h.1 o) (h.2 o)⟩
@[simp] theorem cloO_di (n : Nat) (a b c : Int) : cloO n (di a b c) = true := by simp [cloO, clos, clo]
theorem Flat.clo {h : PH} (f : Flat h) (m n : Nat) : cloH n (h.take m) = true := by
  unfold cloH
  rw [List.all_eq_true]
  intro o ho
  exact cloO_mono o (Nat.zero_le _) (f o (List.mem_of_mem_take (List.mem_of_mem_take ho)))
theorem Flat.clo' {h : PH} (f : Flat h) (n : Nat) : cloH n h = true := by
  have := f.clo h.length n
  rwa [List.take_length] at this
theorem cloO_die (n : Nat) {o : PO} (d : die o = true) : cloO n o = true := by
  obtain ⟨a, b, c, rfl⟩ := die_is d
  exact cloO_di n a b c
/-- a roll, whatever the die -/
theorem roll1 {d : PO} (hd : die d = true) (n : Nat) (h : PH) (hn : 0 < n) (hn2 : n < 1073741824) : ∃ (r : Nat) (d' : PO), r < n ∧ die d' = true ∧ m__law_roll [.loc 0, .int (n : Int)] (d :: h) = .ok (.int (r : Int)) (d' :: h) := by
  obtain ⟨a, b, c, rfl⟩ := die_is hd
  obtain ⟨r, a', b', c', h1, h2, e⟩ := roll a b c n h (by omega) (by omega)
  obtain ⟨k, rfl, hk⟩ := natOf h1 h2
  exact ⟨k, di a' b' c', by omega, rfl, e⟩
/-- the end of a def whose own lists stay behind -/
theorem trim_cut (md : Md) (v : PV) (h e : PH) (f : Flat h) (c : clo h.length v = true) : trimR md h.length (.ok v (h ++ e)) = .ok v h := by
  have hc : cloH h.length (h ++ e) = true := by
    unfold cloH
    rw [List.take_left']
    · rw [List.all_eq_true]
      exact fun o ho => cloO_mono o (Nat.zero_le _) (f o ho)
    · rfl
  simp [trimR, trimV, c, cutP, hc]
/-- .. and one of them is told as a value -/
theorem trim_frz (xs : List PV) (h e1 e2 : PH) (f : Flat h) (c : clos h.length xs = true) : trimR .frz h.length (.ok (.loc (h.length + e1.length)) (h ++ e1 ++ PO.lst xs :: e2)) = .ok (.lst xs) h := by
  have hc : cloH h.length (h ++ e1 ++ PO.lst xs :: e2) = true := by
    unfold cloH
    rw [List.append_assoc, List.take_left' rfl, List.all_eq_true]
    exact fun o ho => cloO_mono o (Nat.zero_le _) (f o ho)
  have hg : (h ++ e1 ++ PO.lst xs :: e2)[h.length + e1.length]? = some (PO.lst xs) := by
    rw [List.getElem?_append_right (by simp)]
    simp
  have hk : clo h.length (.loc (h.length + e1.length)) = false := by simp [clo]
  have ht : (h ++ e1 ++ PO.lst xs :: e2).take h.length = h := by rw [List.append_assoc, List.take_left' rfl]
  have hx : cloO h.length (.lst xs) = true := c
  simp only [trimR, trimV, hk, hg, hc, hx, ht, Bool.and_self, if_true]
  rfl
end J

/-! The pure functions of defs that many laws share: names, ballots. -/
namespace J
open PySem PySem.Spec PyProof.Rows L2
def fb__law_ballot : SS := (seq (sset 3 (calld 2 m__law_mixed (acons (vr 0) (acons (vr 1) anil))))
  (seq (sif (tst (bin2 eqO (calld 2 m__law_roll (acons (vr 0) (acons (cst (.int 4)) anil))) (cst (.int 0)))) (seq (sset 3 (slc (vr 3) onone (osome (calld 2 m__law_roll (acons (vr 0) (acons (bin2 addO (cal lenO (acons (vr 3) anil)) (cst (.int 1))) anil)))))) snil) snil)
  (seq (sset 4 (mkLoc anil))
  (seq (sfor (isrc (vr 3)) (gnm 5) (seq (sif (fand (tru (vr 2)) (fand (tst (bin2 neO (vr 4) (mkLst anil))) (tst (bin2 eqO (calld 2 m__law_roll (acons (vr 0) (acons (cst (.int 4)) anil))) (cst (.int 0)))))) (seq (ssub setLO (bin2 addO (bin2 ixO (vr 4) (un1 negO (cst (.int 1)))) (mkLst (acons (vr 5) anil))) (vr 4) (un1 negO (cst (.int 1)))) snil) (seq (sexp (met .list appendO (vr 4) (acons (mkLst (acons (vr 5) anil)) anil))) snil)) snil))
  (seq (sret (cal tupleO (acons (lcG [6] (isrc (vr 4)) (gnm 6) tyes (cal tupleO (acons (lcG [5] (isrc (vr 1)) (gnm 5) (tst (bin2 inJ (vr 5) (vr 6))) (vr 5) (fun xs h => .ok (.lst xs) h)) anil)) (fun xs h => .ok (.lst xs) h)) anil))) snil)))))
def m__law_ballot : List PV → PH → R PV := fun args h => trimR .keep h.length (fin (fb__law_ballot (startE 7 args) h))
def fb__law_strict : SS := (seq (sret (cal tupleO (acons (lcG [2] (isrc (calld 2 m__law_mixed (acons (vr 0) (acons (vr 1) anil)))) (gnm 2) tyes (mkTup (acons (vr 2) anil)) (fun xs h => .ok (.lst xs) h)) anil))) snil)
def m__law_strict : List PV → PH → R PV := fun args h => trimR .keep h.length (fin (fb__law_strict (startE 3 args) h))
def fb_is_name : SS := (seq (sret (vand (isi "str" (vr 0)) (vand (chn leJ leJ (cst (.int 1)) (cal lenO (acons (vr 0) anil)) (cst (.int 8))) (allG [1] (isrc (vr 0)) (gnm 1) tyes (bin2 inJ (vr 1) (cst (.str "abcdefghijklmnopqrstuvwxyz"))))))) snil)
def m_is_name : List PV → PH → R PV := fun args h => trimR .keep h.length (fin (fb_is_name (startE 2 args) h))
def fb_are_names : SS := (seq (sif (ffor (fnot (tru (isi "tuple" (vr 0)))) (fnot (tru (allG [1] (isrc (vr 0)) (gnm 1) tyes (calld 1 m_is_name (acons (vr 1) anil)))))) (seq (sret (cst (.bl false))) snil) snil)
  (seq (sret (allG [2] (irng1 (acons (cal lenO (acons (vr 0) anil)) anil)) (gnm 2) tyes (bin2 ninJ (bin2 ixO (vr 0) (vr 2)) (slc (vr 0) onone (osome (vr 2)))))) snil))
def m_are_names : List PV → PH → R PV := fun args h => trimR .keep h.length (fin (fb_are_names (startE 3 args) h))
def fb_in_turn : SS := (seq (sset 3 (lcG [2] (isrc (vr 0)) (gnm 2) tyes (met .tuple (fun x xs h => if isT .tuple h x then indexO x xs h else none) (vr 1) (acons (vr 2) anil)) (fun xs h => .ok (.lst xs) h)))
  (seq (sret (bin2 eqO (vr 3) (cal sortedO (acons (vr 3) anil)))) snil))
def m_in_turn : List PV → PH → R PV := fun args h => trimR .keep h.length (fin (fb_in_turn (startE 4 args) h))
def fb_is_ranking : SS := (seq (sif (ffor (fnot (tru (isi "tuple" (vr 0)))) (fnot (tru (allG [2] (isrc (vr 0)) (gnm 2) tyes (vand (isi "tuple" (vr 2)) (bin2 gtJ (cal lenO (acons (vr 2) anil)) (cst (.int 0)))))))) (seq (sret (cst (.bl false))) snil) snil)
  (seq (sset 4 (cal tupleO (acons (lc2G [2, 3] [3] (isrc (vr 0)) (gnm 2) tyes (isrc (vr 2)) (gnm 3) tyes (vr 3) (fun xs h => .ok (.lst xs) h)) anil)))
  (seq (sret (vand (calld 1 m_are_names (acons (vr 4) anil)) (vand (allG [3] (isrc (vr 4)) (gnm 3) tyes (bin2 inJ (vr 3) (vr 1))) (allG [2] (isrc (vr 0)) (gnm 2) tyes (calld 2 m_in_turn (acons (vr 2) (acons (vr 1) anil))))))) snil)))
def m_is_ranking : List PV → PH → R PV := fun args h => trimR .keep h.length (fin (fb_is_ranking (startE 5 args) h))
def fb_check_ranking : SS := (seq (sif (fnot (tru (calld 2 m_is_ranking (acons (vr 0) (acons (vr 1) anil))))) (seq (sraise "BadBallot") snil) snil) snil)
def m_check_ranking : List PV → PH → R PV := fun args h => trimR .keep h.length (fin (fb_check_ranking (startE 2 args) h))
def fb_ranked : SS := (seq (sret (cal tupleO (acons (lc2G [1, 2] [2] (isrc (vr 0)) (gnm 1) tyes (isrc (vr 1)) (gnm 2) tyes (vr 2) (fun xs h => .ok (.lst xs) h)) anil))) snil)
def m_ranked : List PV → PH → R PV := fun args h => trimR .keep h.length (fin (fb_ranked (startE 3 args) h))
def fb_left_out : SS := (seq (sset 2 (calld 1 m_ranked (acons (vr 0) anil)))
  (seq (sret (cal tupleO (acons (lcG [3] (isrc (vr 1)) (gnm 3) (tst (bin2 ninJ (vr 3) (vr 2))) (vr 3) (fun xs h => .ok (.lst xs) h)) anil))) snil))
def m_left_out : List PV → PH → R PV := fun args h => trimR .keep h.length (fin (fb_left_out (startE 4 args) h))
def fb_whole_ranking : SS := (seq (sset 2 (calld 2 m_left_out (acons (vr 0) (acons (vr 1) anil))))
  (seq (sret (fite (tst (bin2 eqO (vr 2) (mkTup anil))) (vr 0) (bin2 addO (vr 0) (mkTup (acons (vr 2) anil))))) snil))
def m_whole_ranking : List PV → PH → R PV := fun args h => trimR .keep h.length (fin (fb_whole_ranking (startE 3 args) h))
def fb_is_strict : SS := (seq (sret (vand (bin2 eqO (cal lenO (acons (vr 0) anil)) (cal lenO (acons (vr 1) anil))) (allG [2] (isrc (vr 0)) (gnm 2) tyes (bin2 eqO (cal lenO (acons (vr 2) anil)) (cst (.int 1)))))) snil)
def m_is_strict : List PV → PH → R PV := fun args h => trimR .keep h.length (fin (fb_is_strict (startE 3 args) h))
def fb_strict : SS := (seq (sret (cal tupleO (acons (lcG [1] (isrc (vr 0)) (gnm 1) tyes (mkTup (acons (vr 1) anil)) (fun xs h => .ok (.lst xs) h)) anil))) snil)
def m_strict : List PV → PH → R PV := fun args h => trimR .keep h.length (fin (fb_strict (startE 2 args) h))
def fb_check_names : SS := (seq (sif (ffor (fnot (tru (calld 1 m_are_names (acons (vr 0) anil)))) (tst (bin2 ltJ (cal lenO (acons (vr 0) anil)) (vr 1)))) (seq (sraise "BadName") snil) snil) snil)
def m_check_names : List PV → PH → R PV := fun args h => trimR .keep h.length (fin (fb_check_names (startE 2 args) h))
def fb_is_order : SS := (seq (sif (ffor (fnot (tru (isi "tuple" (vr 0)))) (ffor (tst (bin2 neO (cal lenO (acons (vr 0) anil)) (cal lenO (acons (vr 1) anil)))) (fnot (tru (calld 1 m_are_names (acons (vr 0) anil)))))) (seq (sret (cst (.bl false))) snil) snil)
  (seq (sret (allG [2] (isrc (vr 0)) (gnm 2) tyes (bin2 inJ (vr 2) (vr 1)))) snil))
def m_is_order : List PV → PH → R PV := fun args h => trimR .keep h.length (fin (fb_is_order (startE 3 args) h))
def fb_check_order : SS := (seq (sif (fnot (tru (calld 2 m_is_order (acons (vr 0) (acons (vr 1) anil))))) (seq (sraise "BadOrder") snil) snil) snil)
def m_check_order : List PV → PH → R PV := fun args h => trimR .keep h.length (fin (fb_check_order (startE 2 args) h))
def fb_in_order : SS := (seq (sret (cal tupleO (acons (lcG [2] (isrc (vr 0)) (gnm 2) (tst (bin2 inJ (vr 2) (vr 1))) (vr 2) (fun xs h => .ok (.lst xs) h)) anil))) snil)
def m_in_order : List PV → PH → R PV := fun args h => trimR .keep h.length (fin (fb_in_order (startE 3 args) h))
def fb_place_in : SS := (seq (sret (met .tuple (fun x xs h => if isT .tuple h x then indexO x xs h else none) (vr 0) (acons (vr 1) anil))) snil)
def m_place_in : List PV → PH → R PV := fun args h => trimR .keep h.length (fin (fb_place_in (startE 2 args) h))
def fb_is_whole : SS := (seq (sret (vand (isi "int" (vr 0)) (vand (vnot (isi "bool" (vr 0))) (chn leJ leJ (vr 1) (vr 0) (vr 2))))) snil)
def m_is_whole : List PV → PH → R PV := fun args h => trimR .keep h.length (fin (fb_is_whole (startE 3 args) h))
def fb_is_approval : SS := (seq (sif (ffor (fnot (tru (isi "tuple" (vr 0)))) (ffor (fnot (tru (calld 1 m_are_names (acons (vr 0) anil)))) (fnot (tru (allG [2] (isrc (vr 0)) (gnm 2) tyes (bin2 inJ (vr 2) (vr 1))))))) (seq (sret (cst (.bl false))) snil) snil)
  (seq (sret (calld 2 m_in_turn (acons (vr 0) (acons (vr 1) anil)))) snil))
def m_is_approval : List PV → PH → R PV := fun args h => trimR .keep h.length (fin (fb_is_approval (startE 3 args) h))
def fb_check_approval : SS := (seq (sif (fnot (tru (calld 2 m_is_approval (acons (vr 0) (acons (vr 1) anil))))) (seq (sraise "BadBallot") snil) snil) snil)
def m_check_approval : List PV → PH → R PV := fun args h => trimR .keep h.length (fin (fb_check_approval (startE 2 args) h))
def fb_is_scoring : SS := (seq (sif (ffor (fnot (tru (isi "tuple" (vr 0)))) (tst (bin2 neO (cal lenO (acons (vr 0) anil)) (cal lenO (acons (vr 1) anil))))) (seq (sret (cst (.bl false))) snil) snil)
  (seq (sret (allG [2] (isrc (vr 0)) (gnm 2) tyes (calld 3 m_is_whole (acons (vr 2) (acons (cst (.int 0)) (acons (cst (.int 20)) anil)))))) snil))
def m_is_scoring : List PV → PH → R PV := fun args h => trimR .keep h.length (fin (fb_is_scoring (startE 3 args) h))
def fb_check_scoring : SS := (seq (sif (fnot (tru (calld 2 m_is_scoring (acons (vr 0) (acons (vr 1) anil))))) (seq (sraise "BadBallot") snil) snil) snil)
def m_check_scoring : List PV → PH → R PV := fun args h => trimR .keep h.length (fin (fb_check_scoring (startE 2 args) h))
end J

/-! What the shared defs about names and ballots tell. -/
namespace J
open PySem PySem.Spec PyProof.Rows L2
theorem sl1 : (1 : Nat) ≤ sizeLine := small (by decide)
theorem sl2 : (2 : Nat) ≤ sizeLine := small (by decide)
theorem sl3 : (3 : Nat) ≤ sizeLine := small (by decide)
theorem ranked_ok (b : List (List Str)) (h : PH) (hz : (flat b).length ≤ sizeLine) : m_ranked [T tS b] h = .ok (T PV.str (flat b)) h := by
  unfold m_ranked fb_ranked
  simp [hz]
/-- the names that a ballot does not tell -/
def lfo (b : List (List Str)) (ns : List Str) : List Str := ns.filter fun x => !decide (x ∈ flat b)
theorem left_out_ok (b : List (List Str)) (ns : List Str) (h : PH) (hz : (flat b).length ≤ sizeLine) : m_left_out [T tS b, T PV.str ns] h = .ok (T PV.str (lfo b ns)) h := by
  unfold m_left_out fb_left_out
  simp [ranked_ok, hz, lfo]
theorem strict_ok (ns : List Str) (h : PH) : m_strict [T PV.str ns] h = .ok (T tS (ns.map fun x => [x])) h := by
  unfold m_strict fb_strict
  simp [sl1]
theorem is_strict_ok (b : List (List Str)) (ns : List Str) (h : PH) : m_is_strict [T tS b, T PV.str ns] h = .ok (.bl (decide (b.length = ns.length) && b.all fun g => decide (g.length = 1))) h := by
  unfold m_is_strict fb_is_strict
  simp
/-- a ballot with what it does not tell behind -/
def whole (b : List (List Str)) (ns : List Str) : List (List Str) := if lfo b ns = [] then b else b ++ [lfo b ns]
theorem whole_ok (b : List (List Str)) (ns : List Str) (h : PH) (hz : (flat b).length ≤ sizeLine) (hz2 : b.length + 1 ≤ sizeLine) : m_whole_ranking [T tS b, T PV.str ns] h = .ok (T tS (whole b ns)) h := by
  unfold m_whole_ranking fb_whole_ranking
  simp (maxDischargeDepth := 9) [left_out_ok, hz, addO_T1T, hz2, sl1, whole]
def isIx (group names : List Str) : Bool := decide ((group.map fun x => (names.idxOf x : Int)) = isort (group.map fun x => (names.idxOf x : Int)))
theorem in_turn_ok (g ns : List Str) (h : PH) (hg : ∀ x ∈ g, x ∈ ns) : m_in_turn [T PV.str g, T PV.str ns] h = .ok (.bl (isIx g ns)) h := by
  unfold m_in_turn fb_in_turn
  simp
  rw [compL_mem PV.str (fun _ => true) (fun x => .int (ns.idxOf x : Nat)) rfl g fun x hx => ⟨_, rfl, rfl, fun _ => by simp [hg x hx]⟩]
  simp [isIx]
/-! ### names -/
def SG : Str := "abcdefghijklmnopqrstuvwxyz"
def isNm (x : Str) : Bool := decide (1 ≤ x.length) && (decide (x.length ≤ 8) && x.cps.toList.all fun c => decide (c ∈ SG.cps.toList))
theorem is_name_ok (x : Str) (h : PH) (hz : x.length ≤ sizeLine) : m_is_name [.str x] h = .ok (.bl (isNm x)) h := by
  unfold m_is_name fb_is_name
  have e8 : ((x.length : Int) ≤ 8) = (x.length ≤ 8) := propext (by omega)
  simp (maxDischargeDepth := 9) [hz, isNm, SG, isiT, e8, Bool.and_assoc]
theorem is_name_not (v : PV) (h : PH) (t : String) (hv : tyN h v = some t) (ht : isiT t "str" = false) : m_is_name [v] h = .ok (.bl false) h := by
  unfold m_is_name fb_is_name
  simp (maxDischargeDepth := 9) [hv, ht]
theorem all_range {p : Nat → Bool} {n : Nat} : (List.range n).all p = true ↔ ∀ k, k < n → p k = true := by
  rw [List.all_eq_true]
  exact ⟨fun h k hk => h k (List.mem_range.mpr hk), fun h k hk => h k (List.mem_range.mp hk)⟩
theorem nodup_iff {xs : List Str} : xs.Nodup ↔ ∀ k, k < xs.length → (match xs[k]? with | some x => !decide (x ∈ xs.take k) | none => false) = true := by
  constructor
  · intro hn k hk
    rw [List.getElem?_eq_getElem hk]
    simp only [Bool.not_eq_true', decide_eq_false_iff_not]
    intro hm
    obtain ⟨j, hj, e⟩ := List.mem_iff_getElem.mp hm
    rw [List.getElem_take] at e
    have hj2 : j < k := by rw [List.length_take] at hj; omega
    have := (List.nodup_iff_pairwise_ne.mp hn)
    exact (List.pairwise_iff_getElem.mp this j k (by omega) hk hj2) e
  · intro h
    refine List.nodup_iff_pairwise_ne.mpr (List.pairwise_iff_getElem.mpr fun i j hi hj hij e => ?_)
    have q := h j hj
    rw [List.getElem?_eq_getElem hj] at q
    simp only [Bool.not_eq_true', decide_eq_false_iff_not] at q
    exact q (List.mem_iff_getElem.mpr ⟨i, by rw [List.length_take]; omega, by rw [List.getElem_take]; exact e⟩)
theorem are_names_ok (xs : List Str) (h : PH) (hz : xs.length ≤ sizeLine) (hx : ∀ x ∈ xs, x.length ≤ sizeLine) : m_are_names [T PV.str xs] h = .ok (.bl (xs.all isNm && decide xs.Nodup)) h := by
  have e1 : genL ⟨mp PV.str xs, none⟩ (gnm 1) tyes (calld 1 m_is_name (acons (vr 1) anil)) [some (T PV.str xs), none, none] (stB true) (enB true) () (mp PV.str xs) h = .ok (.bl (xs.all isNm)) h :=
    all_mem PV.str isNm rfl xs fun x hm => ⟨_, rfl, by simp [is_name_ok x h (hx x hm)]⟩
  have e2 : genL ⟨mp nI (List.range xs.length), none⟩ (gnm 2) tyes (bin2 ninJ (bin2 ixO (vr 0) (vr 2)) (slc (vr 0) onone (osome (vr 2)))) [some (T PV.str xs), none, none] (stB true) (enB true) () (mp nI (List.range xs.length)) h = .ok (.bl (decide xs.Nodup)) h := by
    rw [all_mem nI (fun k => match xs[k]? with | some x => !decide (x ∈ xs.take k) | none => false) rfl (List.range xs.length) fun k hk => ⟨_, rfl, ?_⟩]
    · congr 3
      exact beq_iff_decide (all_range.trans nodup_iff.symm)
    · have hk := List.mem_range.mp hk
      simp [atI_nat, List.getElem?_eq_getElem hk]
  unfold m_are_names fb_are_names
  simp [isiT, e1, e2, hz]
  cases xs.all isNm <;> simp [hz, e2]
end J

/-! Rankings, and what the law draws. -/
namespace J
open PySem PySem.Spec PyProof.Rows L2
def isRk (b : List (List Str)) (ns : List Str) : Bool := (b.all fun g => decide (0 < g.length)) && (((flat b).all isNm && decide (flat b).Nodup) && (((flat b).all fun x => decide (x ∈ ns)) && b.all fun g => isIx g ns))
theorem is_ranking_ok (b : List (List Str)) (ns : List Str) (h : PH) (hz : (flat b).length ≤ sizeLine) (hx : ∀ x ∈ flat b, x.length ≤ sizeLine) : m_is_ranking [T tS b, T PV.str ns] h = .ok (.bl (isRk b ns)) h := by
  unfold m_is_ranking fb_is_ranking
  simp [isiT, isRk]
  cases e1 : b.all (fun g => decide (0 < g.length)) with
  | false => simp
  | true =>
    simp [hz, are_names_ok _ h hz hx]
    cases e2 : ((flat b).all isNm && decide (flat b).Nodup) with
    | false => simp
    | true =>
      simp
      cases e3 : (flat b).all (fun x => decide (x ∈ ns)) with
      | false => simp
      | true =>
        have hm : ∀ g ∈ b, ∀ x ∈ g, x ∈ ns := fun g hg x hx => by
          have := List.all_eq_true.mp e3 x ((mem_flat b x).mpr ⟨g, hg, hx⟩)
          simpa using this
        simp
        rw [all_mem tS (fun g => isIx g ns) rfl b fun g hg => ⟨_, rfl, by simp [in_turn_ok g ns h (hm g hg)]⟩]
        simp
/-- a tuple with a part that is no tuple of names -/
theorem is_ranking_bad (xs : List PV) (ns : PV) (h : PH) (hx : ∀ x ∈ xs, (∃ g : List Str, x = tS g) ∨ ∃ t, tyN h x = some t ∧ isiT t "tuple" = false) (hb : ∃ x ∈ xs, ∃ t, tyN h x = some t ∧ isiT t "tuple" = false) : m_is_ranking [.tup xs, ns] h = .ok (.bl false) h := by
  have e : genL ⟨xs, none⟩ (gnm 2) tyes (vand (isi "tuple" (vr 2)) (bin2 gtJ (cal lenO (acons (vr 2) anil)) (cst (.int 0)))) [some (.tup xs), some ns, none, none, none] (stB true) (enB true) () xs h = .ok (.bl false) h := by
    have q := all_mem (fun x : PV => x) (fun x => match x with | .tup ys => decide (0 < ys.length) | _ => false) (s := ⟨xs, none⟩) (g := gnm 2) (fe := vand (isi "tuple" (vr 2)) (bin2 gtJ (cal lenO (acons (vr 2) anil)) (cst (.int 0)))) (ρ0 := [some (.tup xs), some ns, none, none, none]) (h := h) rfl xs fun x hm => by
      refine ⟨_, rfl, ?_⟩
      rcases hx x hm with ⟨g, rfl⟩ | ⟨t, h1, h2⟩
      · simp [isiT]
        simp [T, -tup_mp]
      · simp [h1, h2]
        cases x <;> first | rfl | skip
        simp at h1
        subst h1
        simp [isiT] at h2
    rw [mp_id] at q
    rw [q]
    congr 2
    obtain ⟨x, hm, t, h1, h2⟩ := hb
    rw [Bool.eq_false_iff]
    intro ha
    have := List.all_eq_true.mp ha x hm
    cases x <;> first | (simp at this; done) | skip
    simp at h1
    subst h1
    simp [isiT] at h2
  unfold m_is_ranking fb_is_ranking
  simp [isiT, e]
theorem is_ranking_no (v ns : PV) (h : PH) (t : String) (h1 : tyN h v = some t) (h2 : isiT t "tuple" = false) : m_is_ranking [v, ns] h = .ok (.bl false) h := by
  unfold m_is_ranking fb_is_ranking
  simp [h1, h2]
theorem check_ranking_ok (v ns : PV) (b : Bool) (h : PH) (e : m_is_ranking [v, ns] h = .ok (.bl b) h) : m_check_ranking [v, ns] h = if b = true then .ok .non h else .exc ⟨"BadBallot", none⟩ h := by
  unfold m_check_ranking fb_check_ranking
  simp [e]
  cases b
  · simp
  · simp
end J

/-! What the laws draw: orders, ballots. -/
namespace J
open PySem PySem.Spec PyProof.Rows L2
theorem atI_mp {α β : Type} (f : α → β) (xs : List α) (k : Nat) (hk : k < xs.length) : atI (mp f xs) (k : Int) = some (f xs[k]) := by
  rw [atI_nat, mp_get, List.getElem?_eq_getElem hk]; rfl
theorem mixed_ok {α : Type} {f : α → PV} [E : EmbF f] [BEq α] [LawfulBEq α] {d : PO} (hd : die d = true) (row : PV) (xs : List α) (h : PH) (hf : Flat h) (hr : itemsOf (d :: h) row = some (mp f xs)) (hr2 : ∀ e, itemsOf (d :: h ++ e) row = some (mp f xs)) (hz : xs.length < 1000) (hdp : EmbF.dep f ≤ DEPTH) :
    ∃ ys d', ys.Perm xs ∧ die d' = true ∧ m__law_mixed [.loc 0, row] (d :: h) = .ok (Li f ys) (d' :: h) := by
  have hs := sizeLine_eq
  let n := h.length + 1
  obtain ⟨ρ', h', e1, dd, left, found, k, one, e2, e3, hdd, hp, hl⟩ := for_inv (emb := nI) (s := ⟨mp nI (List.range xs.length), none⟩) (g := gnm 4) (body := (seq (sset 5 (bin2 ixO (vr 2) (calld 2 m__law_roll (acons (vr 0) (acons (cal lenO (acons (vr 2) anil)) anil)))))
  (seq (sexp (met .list appendO (vr 3) (acons (vr 5) anil)))
  (seq (sexp (met .list removeO (vr 2) (acons (vr 5) anil))) snil)))) (fun pre ρ hh => ∃ dd left found k one, ρ = [some (.loc 0), some row, some (.loc n), some (.loc (n + 1)), k, one] ∧ hh = (dd :: h) ++ [PO.lst (mp f left), PO.lst (mp f found)] ∧ die dd = true ∧ (left ++ found).Perm xs ∧ found.length = pre.length)
    (List.range xs.length) (ρ := [some (.loc 0), some row, some (.loc n), some (.loc (n + 1)), none, none]) (h := (d :: h) ++ [PO.lst (mp f xs), PO.lst (mp f [])])
    ⟨d, xs, [], none, none, rfl, rfl, hd, by simp, rfl⟩ (by
      rintro pre x post ρ hh hx ⟨dd, left, found, k, one, rfl, rfl, hdd, hp, hl⟩
      have hlen : pre.length < xs.length := by
        have := congrArg List.length hx
        simp at this
        omega
      have hll : left.length + found.length = xs.length := by rw [← hp.length_eq, List.length_append]
      have hpos : 0 < left.length := by omega
      obtain ⟨r, d2, hr1, hd2, er⟩ := roll1 hdd left.length (h ++ [PO.lst (mp f left), PO.lst (mp f found)]) hpos (by omega)
      have g1 : ∀ dd : PO, (dd :: h ++ [PO.lst (mp f left), PO.lst (mp f found)])[n]? = some (PO.lst (mp f left)) := fun dd => get_at1 (dd :: h) _ _
      have g2 : ∀ dd : PO, (dd :: h ++ [PO.lst (mp f left), PO.lst (mp f found)])[n + 1]? = some (PO.lst (mp f found)) := fun dd => get_at2 (dd :: h) _ _
      refine ⟨_, [some (.loc 0), some row, some (.loc n), some (.loc (n + 1)), some (nI x), some (f left[r])], d2 :: h ++ [PO.lst (mp f (left.erase left[r])), PO.lst (mp f (found ++ [left[r]]))], rfl, .inl ?_, rfl, d2, left.erase left[r], found ++ [left[r]], some (nI x), some (f left[r]), rfl, rfl, hd2, ?_, by simp [hl]⟩
      · have hm : left[r] ∈ left := List.getElem_mem _
        have s2 : ∀ q, (d2 :: h ++ [PO.lst (mp f left), PO.lst (mp f found)]).set (n + 1) q = d2 :: h ++ [PO.lst (mp f left), q] := fun q => set_at2 (d2 :: h) _ _ q
        have g3 : (d2 :: h ++ [PO.lst (mp f left), PO.lst (mp f (found ++ [left[r]]))])[n]? = some (PO.lst (mp f left)) := get_at1 (d2 :: h) _ _
        have s1 : ∀ q, (d2 :: h ++ [PO.lst (mp f left), PO.lst (mp f (found ++ [left[r]]))]).set n q = d2 :: h ++ [q, PO.lst (mp f (found ++ [left[r]]))] := fun q => set_at1 (d2 :: h) _ _ q
        have ap := appendO_loc (g2 d2) (f left[r]) (by rw [mp_length, sizeLine_eq]; omega)
        have rm := removeO_emb (f := f) g3 left[r] hm hdp
        rw [s2, mp_app1] at ap
        rw [s1] at rm
        simp only [List.cons_append] at g1 g2 g3 ap rm er
        simp [lenO_loc _ _ _ (g1 dd), er, ixO_loc (g1 d2), atI_mp, hr1, isT_loc (g2 d2), ap, isT_loc g3, rm]
      · have hm : left[r] ∈ left := List.getElem_mem _
        refine List.Perm.trans ?_ hp
        have q := List.perm_cons_erase hm
        refine List.Perm.trans ?_ (q.append_right found).symm
        simp only [List.cons_append]
        refine List.Perm.trans (List.perm_append_comm (l₁ := left.erase left[r])) ?_
        simp only [List.append_assoc, List.singleton_append]
        refine List.Perm.trans (List.perm_middle (a := left[r])) ?_
        exact List.Perm.cons _ List.perm_append_comm)
  have hle : left = [] := by
    have q := hp.length_eq
    simp [hl] at q
    exact q
  subst hle
  subst e3
  refine ⟨found, dd, by simpa using hp, hdd, ?_⟩
  have hfl : Flat (dd :: h) := by simp [hf, cloO_die 0 hdd]
  have tr := trim_frz (mp f found) (dd :: h) [PO.lst (mp f [])] [] hfl (clos_emb _ _)
  have hl2 : ∀ h' : PH, lenO [row] (d :: h ++ h') = some (.int xs.length) := fun h' => by
    unfold lenO
    simp only [hr2 h', mp_length]
  simp only [List.cons_append] at e1 tr hl2 hr2
  unfold m__law_mixed fb__law_mixed
  have hz2 : xs.length ≤ sizeLine := small (by omega)
  simp [hr, listM, hl2, hz2]
  simp only [n, mp_nil] at e1 e2
  rw [e1, e2]
  simp
  simp at tr
  exact tr
/-- a ranking of some of ns: groups of names in the order of ns, no name twice -/
structure Rk (b : List (List Str)) (ns : List Str) : Prop where
  ne : ∀ g ∈ b, g ≠ []
  nd : (flat b).Nodup
  sub : ∀ g ∈ b, g.Sublist ns
theorem Rk.mem {b : List (List Str)} {ns : List Str} (r : Rk b ns) {x : Str} (h : x ∈ flat b) : x ∈ ns := by
  obtain ⟨g, hg, hx⟩ := (mem_flat b x).mp h
  exact (r.sub g hg).subset hx
theorem flat_filter_nodup {ns : List Str} (hn : ns.Nodup) : ∀ gs : List (List Str), (flat gs).Nodup → (flat (gs.map fun g => ns.filter fun x => decide (x ∈ g))).Nodup
  | [], _ => by simp
  | g :: gs, h => by
    rw [flat_cons] at h
    rw [List.map_cons, flat_cons]
    obtain ⟨h1, h2, h3⟩ := List.nodup_append.mp h
    refine List.nodup_append.mpr ⟨hn.filter _, flat_filter_nodup hn gs h2, fun x hx y hy e => ?_⟩
    subst e
    have hxg : x ∈ g := by simpa using (List.mem_filter.mp hx).2
    obtain ⟨g', hg', hy'⟩ := (mem_flat _ x).mp hy
    obtain ⟨g2, hg2, rfl⟩ := List.mem_map.mp hg'
    exact h3 x hxg x ((mem_flat gs x).mpr ⟨g2, hg2, by simpa using (List.mem_filter.mp hy').2⟩) rfl
theorem rk_of {ns row : List Str} {gs : List (List Str)} (hn : ns.Nodup) (hr : row.Nodup) (hs : ∀ x ∈ row, x ∈ ns) (hg : flat gs = row) (hne : ∀ g ∈ gs, g ≠ []) : Rk (gs.map fun g => ns.filter fun x => decide (x ∈ g)) ns where
  ne := fun g hg' e => by
    obtain ⟨g2, hg2, rfl⟩ := List.mem_map.mp hg'
    obtain ⟨x, l, rfl⟩ : ∃ x l, g2 = x :: l := by
      cases g2 with
      | nil => exact absurd rfl (hne _ hg2)
      | cons x l => exact ⟨x, l, rfl⟩
    have hx : x ∈ ns := hs x (by rw [← hg]; exact (mem_flat gs x).mpr ⟨_, hg2, List.mem_cons_self⟩)
    have : x ∈ ns.filter fun y => decide (y ∈ x :: l) := List.mem_filter.mpr ⟨hx, by simp⟩
    rw [e] at this
    cases this
  nd := flat_filter_nodup hn gs (by rw [hg]; exact hr)
  sub := fun g hg' => by
    obtain ⟨g2, hg2, rfl⟩ := List.mem_map.mp hg'
    exact List.filter_sublist
def bC : SB := fand (tru (vr 2)) (fand (tst (bin2 neO (vr 4) (mkLst anil))) (tst (bin2 eqO (calld 2 m__law_roll (acons (vr 0) (acons (cst (.int 4)) anil))) (cst (.int 0)))))
def bT : SS := seq (ssub setLO (bin2 addO (bin2 ixO (vr 4) (un1 negO (cst (.int 1)))) (mkLst (acons (vr 5) anil))) (vr 4) (un1 negO (cst (.int 1)))) snil
def bE : SS := seq (sexp (met .list appendO (vr 4) (acons (mkLst (acons (vr 5) anil)) anil))) snil
theorem ballot_loop {d : PO} (hd : die d = true) (ties : Bool) (ns row : List Str) (h : PH) (hz : row.length < 1000) :
    ∃ ρ' d' gs x y, forL ⟨mp PV.str row, none⟩ (gnm 5) (seq (sif bC bT bE) snil)
      (mp PV.str row) [some (.loc 0), some (T PV.str ns), some (.bl ties), some (Li PV.str row), some (.loc (h.length + 1)), none, none] (d :: h ++ [PO.lst []]) = .nx ρ' (d' :: h ++ [PO.lst (mp (Li PV.str) gs)]) ∧
      ρ' = [some (.loc 0), some (T PV.str ns), some (.bl ties), some (Li PV.str row), some (.loc (h.length + 1)), x, y] ∧ die d' = true ∧ flat gs = row ∧ (∀ g ∈ gs, g ≠ []) ∧ (ties = false → ∀ g ∈ gs, g.length = 1) := by
  have hs := sizeLine_eq
  obtain ⟨ρ', h', e1, dd, gs, x, y, e2, e3, hdd, e4, e5, e6⟩ := for_inv (emb := PV.str) (s := ⟨mp PV.str row, none⟩) (g := gnm 5) (body := seq (sif bC bT bE) snil)
    (fun pre ρ hh => ∃ dd gs x y, ρ = [some (.loc 0), some (T PV.str ns), some (.bl ties), some (Li PV.str row), some (.loc (h.length + 1)), x, y] ∧ hh = dd :: h ++ [PO.lst (mp (Li PV.str) gs)] ∧ die dd = true ∧ flat gs = pre ∧ (∀ g ∈ gs, g ≠ []) ∧ (ties = false → ∀ g ∈ gs, g.length = 1)) row
    (ρ := [some (.loc 0), some (T PV.str ns), some (.bl ties), some (Li PV.str row), some (.loc (h.length + 1)), none, none]) (h := d :: h ++ [PO.lst []]) ⟨d, [], none, none, rfl, rfl, hd, rfl, by simp, by simp⟩ (by
      rintro pre nm post ρ hh hx ⟨dd, gs, x, y, rfl, rfl, hdd, e4, e5, e6⟩
      have hlen : pre.length < row.length := by
        have := congrArg List.length hx
        simp at this
        omega
      have hgl : ∀ gs : List (List Str), (∀ g ∈ gs, g ≠ []) → gs.length ≤ (flat gs).length := fun gs => by
        induction gs with
        | nil => simp
        | cons g gs ih =>
          intro hne
          have := ih fun g hg => hne g (List.mem_cons_of_mem _ hg)
          have hg := List.length_pos_iff.mpr (hne g List.mem_cons_self)
          simp
          omega
      have hgs : gs.length < 1000 := by
        have := hgl gs e5
        rw [e4] at this
        omega
      have g1 : ∀ dd : PO, (dd :: (h ++ [PO.lst (mp (Li PV.str) gs)]))[h.length + 1]? = some (PO.lst (mp (Li PV.str) gs)) := fun dd => get_at0 (dd :: h) _
      have s1 : ∀ (dd : PO) q, (dd :: (h ++ [PO.lst (mp (Li PV.str) gs)])).set (h.length + 1) q = dd :: (h ++ [q]) := fun dd q => set_at0 (dd :: h) _ q
      -- the other way: a group of its own
      have other : ∀ dd : PO, bE [some (.loc 0), some (T PV.str ns), some (.bl ties), some (Li PV.str row), some (.loc (h.length + 1)), some (.str nm), y] (dd :: (h ++ [PO.lst (mp (Li PV.str) gs)])) = .nx [some (.loc 0), some (T PV.str ns), some (.bl ties), some (Li PV.str row), some (.loc (h.length + 1)), some (.str nm), y] (dd :: (h ++ [PO.lst (mp (Li PV.str) (gs ++ [[nm]]))])) := fun dd => by
        have ap := appendO_loc (g1 dd) (Li PV.str [nm]) (by rw [mp_length, sizeLine_eq]; omega)
        rw [s1, mp_app1] at ap
        have e0 : PV.lst [PV.str nm] = Li PV.str [nm] := rfl
        simp [bE, sl1, isT_loc (g1 dd), e0, ap]
      have go : ∀ dd d2 : PO, (bC [some (.loc 0), some (T PV.str ns), some (.bl ties), some (Li PV.str row), some (.loc (h.length + 1)), some (.str nm), y] (dd :: (h ++ [PO.lst (mp (Li PV.str) gs)])) = .ok false (d2 :: (h ++ [PO.lst (mp (Li PV.str) gs)])) ∨ False) → seq (sif bC bT bE) snil [some (.loc 0), some (T PV.str ns), some (.bl ties), some (Li PV.str row), some (.loc (h.length + 1)), some (.str nm), y] (dd :: (h ++ [PO.lst (mp (Li PV.str) gs)])) = .nx [some (.loc 0), some (T PV.str ns), some (.bl ties), some (Li PV.str row), some (.loc (h.length + 1)), some (.str nm), y] (d2 :: (h ++ [PO.lst (mp (Li PV.str) (gs ++ [[nm]]))])) := fun dd d2 c => by
        rcases c with c | c
        · rw [seq_ev, sif_ev, c, sifK_f, other d2]; rfl
        · exact c.elim
      have fin0 : flat (gs ++ [[nm]]) = pre ++ [nm] := by simp [e4]
      have fin1 : ∀ g ∈ gs ++ [[nm]], g ≠ [] := fun g hg => by
        rcases List.mem_append.mp hg with q | q
        · exact e5 g q
        · simp at q; subst q; simp
      have fin2 : ties = false → ∀ g ∈ gs ++ [[nm]], g.length = 1 := fun ht g hg => by
        rcases List.mem_append.mp hg with q | q
        · exact e6 ht g q
        · simp at q; subst q; rfl
      by_cases ht : ties = true
      · subst ht
        by_cases hg0 : gs = []
        · refine ⟨_, _, _, rfl, .inl ?_, rfl, dd, gs ++ [[nm]], some (.str nm), y, rfl, rfl, hdd, fin0, fin1, fin2⟩
          refine go dd dd (.inl ?_)
          have c := neO_loc0 (g1 dd)
          simp only [decide_eq_true hg0, Bool.not_true] at c
          simp [bC, c]
        · obtain ⟨r, d2, hr1, hd2, er⟩ := roll1 hdd 4 (h ++ [PO.lst (mp (Li PV.str) gs)]) (by decide) (by decide)
          have er : m__law_roll [.loc 0, .int 4] (dd :: (h ++ [PO.lst (mp (Li PV.str) gs)])) = .ok (.int r) (d2 :: (h ++ [PO.lst (mp (Li PV.str) gs)])) := er
          by_cases hr0 : r = 0
          · subst hr0
            obtain ⟨ini, g, rfl⟩ : ∃ ini g, gs = ini ++ [g] := ⟨gs.dropLast, gs.getLast hg0, (List.dropLast_concat_getLast hg0).symm⟩
            refine ⟨_, [some (.loc 0), some (T PV.str ns), some (.bl true), some (Li PV.str row), some (.loc (h.length + 1)), some (.str nm), y], d2 :: h ++ [PO.lst (mp (Li PV.str) (ini ++ [g ++ [nm]]))], rfl, .inl ?_, rfl, d2, ini ++ [g ++ [nm]], some (.str nm), y, rfl, rfl, hd2, ?_, ?_, fun z => by cases z⟩
            · have hgl2 : g.length + 1 ≤ sizeLine := by
                have : (flat (ini ++ [g])).length = pre.length := by rw [e4]
                simp at this
                omega
              have st := setLO_loc (g1 d2) (Li PV.str (g ++ [nm])) (-1) ini.length (by rw [mp_length]; simp [ixN_last])
              rw [s1] at st
              have e9 : (mp (Li PV.str) (ini ++ [g])).set ini.length (Li PV.str (g ++ [nm])) = mp (Li PV.str) (ini ++ [g ++ [nm]]) := by
                simp [mp]
              rw [e9] at st
              have ix : ixO (.loc (h.length + 1)) (.int (-1)) (d2 :: (h ++ [PO.lst (mp (Li PV.str) (ini ++ [g]))])) = some (Li PV.str g) := by
                rw [ixO_loc (g1 d2), show mp (Li PV.str) (ini ++ [g]) = mp (Li PV.str) ini ++ [Li PV.str g] by simp [mp], atI_last]
              simp [bC, bT, neO_loc0 (g1 dd), er, ix, sl1, addO_L1s, hgl2, st]
            · simp at e4 ⊢
              rw [← e4]; simp
            · intro g' hg'
              rcases List.mem_append.mp hg' with q | q
              · exact e5 g' (List.mem_append_left _ q)
              · simp at q; subst q; simp
          · refine ⟨_, _, _, rfl, .inl ?_, rfl, d2, gs ++ [[nm]], some (.str nm), y, rfl, rfl, hd2, fin0, fin1, fin2⟩
            refine go dd d2 (.inl ?_)
            simp [bC, neO_loc0 (g1 dd), hg0, er, hr0]
      · have ht : ties = false := by simpa using ht
        subst ht
        refine ⟨_, _, _, rfl, .inl ?_, rfl, dd, gs ++ [[nm]], some (.str nm), y, rfl, rfl, hdd, fin0, fin1, fin2⟩
        refine go dd dd (.inl ?_)
        simp [bC])
  subst e3
  exact ⟨ρ', dd, gs, x, y, e1, e2, hdd, e4, e5, e6⟩
theorem filter_one {ns : List Str} (hn : ns.Nodup) {x : Str} (hx : x ∈ ns) : (ns.filter fun y => decide (y ∈ [x])) = [x] := by
  induction ns with
  | nil => cases hx
  | cons a ns ih =>
    rw [List.nodup_cons] at hn
    by_cases ha : a = x
    · subst ha
      have : (ns.filter fun y => decide (y ∈ [a])) = [] := by
        rw [List.filter_eq_nil_iff]
        intro y hy
        simp
        intro e
        exact hn.1 (e ▸ hy)
      rw [List.filter_cons, if_pos (by simp), this]
    · rw [List.filter_cons, if_neg (by simp [ha])]
      refine ih hn.2 ?_
      rcases List.mem_cons.mp hx with q | q
      · exact absurd q.symm ha
      · exact q
theorem ballot_row {d : PO} (hd : die d = true) (ties : Bool) (ns row : List Str) (h : PH) (hf : Flat h) (hn : ns.Nodup) (hr : row.Nodup) (hs : ∀ x ∈ row, x ∈ ns) (hz : row.length < 1000) :
    ∃ b d', Rk b ns ∧ (ties = false → ∀ g ∈ b, g.length = 1) ∧ (flat b).Perm row ∧ die d' = true ∧ trimR .keep (h.length + 1) (fin ((seq (sset 4 (mkLoc anil))
  (seq (sfor (isrc (vr 3)) (gnm 5) (seq (sif bC bT bE) snil))
  (seq (sret (cal tupleO (acons (lcG [6] (isrc (vr 4)) (gnm 6) tyes (cal tupleO (acons (lcG [5] (isrc (vr 1)) (gnm 5) (tst (bin2 inJ (vr 5) (vr 6))) (vr 5) (fun xs h => .ok (.lst xs) h)) anil)) (fun xs h => .ok (.lst xs) h)) anil))) snil))) [some (.loc 0), some (T PV.str ns), some (.bl ties), some (Li PV.str row), none, none, none] (d :: h))) = .ok (T tS b) (d' :: h) := by
  obtain ⟨ρ', d2, gs, x, y, e1, e2, hd2, e4, e5, e6⟩ := ballot_loop hd ties ns row h hz
  subst e2
  refine ⟨gs.map fun g => ns.filter fun x => decide (x ∈ g), d2, rk_of hn hr hs e4 e5, fun ht g hg => ?_, ?_, hd2, ?_⟩
  · obtain ⟨g2, hg2, rfl⟩ := List.mem_map.mp hg
    have l1 := e6 ht g2 hg2
    match g2, l1 with
    | [z], _ =>
      rw [filter_one hn (hs z (by rw [← e4]; exact (mem_flat gs z).mpr ⟨_, hg2, by simp⟩))]
      rfl
  · rw [← e4]
    have key : ∀ gs : List (List Str), (∀ x ∈ flat gs, x ∈ ns) → (flat gs).Nodup → (flat (gs.map fun g => ns.filter fun x => decide (x ∈ g))).Perm (flat gs) := fun gs => by
      induction gs with
      | nil => exact fun _ _ => .refl _
      | cons g gs ih =>
        intro hm hd
        rw [flat_cons] at hm hd
        rw [List.map_cons, flat_cons, flat_cons]
        obtain ⟨h1, h2, _⟩ := List.nodup_append.mp hd
        refine List.Perm.append ?_ (ih (fun x hx => hm x (List.mem_append_right _ hx)) h2)
        refine (List.perm_ext_iff_of_nodup (hn.filter _) h1).mpr fun z => ?_
        rw [List.mem_filter]
        exact ⟨fun q => by simpa using q.2, fun q => ⟨hm z (List.mem_append_left _ q), by simpa using q⟩⟩
    exact key gs (by rw [e4]; exact hs) (by rw [e4]; exact hr)
  · have g1 : (d2 :: (h ++ [PO.lst (mp (Li PV.str) gs)]))[h.length + 1]? = some (PO.lst (mp (Li PV.str) gs)) := get_at0 (d2 :: h) _
    have e7 : compL ⟨mp (Li PV.str) gs, some (h.length + 1)⟩ (gnm 6) tyes (cal tupleO (acons (lcG [5] (isrc (vr 1)) (gnm 5) (tst (bin2 inJ (vr 5) (vr 6))) (vr 5) (fun xs h => .ok (.lst xs) h)) anil)) [some (.loc 0), some (T PV.str ns), some (.bl ties), some (Li PV.str row), some (.loc (h.length + 1)), x, none] (mp (Li PV.str) gs) (d2 :: (h ++ [PO.lst (mp (Li PV.str) gs)])) = .ok (mp (fun g => tS (ns.filter fun x => decide (x ∈ g))) gs) (d2 :: (h ++ [PO.lst (mp (Li PV.str) gs)])) := by
      rw [compL_mem (Li PV.str) (fun _ => true) (fun g => tS (ns.filter fun x => decide (x ∈ g))) (sameL_loc g1) gs fun g hg => ⟨_, rfl, rfl, fun _ => by simp⟩]
      simp
    have tr := trim_cut .keep (T tS (gs.map fun g => ns.filter fun x => decide (x ∈ g))) (d2 :: h) [PO.lst (mp (Li PV.str) gs)] (by simp [hf, cloO_die 0 hd2]) (by simp)
    simp only [List.cons_append] at e1 tr
    simp
    rw [e1]
    simp [srcOf_loc g1, sameL_loc g1, e7]
    simp at tr
    exact tr
theorem ballot_ok {d : PO} (hd : die d = true) (ties : Bool) (ns : List Str) (h : PH) (hf : Flat h) (hn : ns.Nodup) (hz : ns.length < 900) :
    ∃ b d', Rk b ns ∧ (ties = false → ∀ g ∈ b, g.length = 1) ∧ die d' = true ∧ m__law_ballot [.loc 0, T PV.str ns, .bl ties] (d :: h) = .ok (T tS b) (d' :: h) := by
  obtain ⟨row, d1, hp, hd1, e1⟩ := mixed_ok (f := PV.str) hd (T PV.str ns) ns h hf rfl (fun _ => rfl) (by omega) (by decide)
  obtain ⟨r, d2, hr, hd2, e2⟩ := roll1 hd1 4 h (by decide) (by decide)
  have e2 : m__law_roll [.loc 0, .int 4] (d1 :: h) = .ok (.int r) (d2 :: h) := e2
  have hlen : row.length = ns.length := hp.length_eq
  by_cases h0 : r = 0
  · subst h0
    obtain ⟨k, d3, hk, hd3, e3⟩ := roll1 hd2 (row.length + 1) h (by omega) (by omega)
    obtain ⟨b, d4, hb, ht, _, hd4, e4⟩ := ballot_row hd3 ties ns (row.take k) h hf hn ((hp.nodup_iff.mpr hn).sublist (List.take_sublist _ _)) (fun x hx => hp.mem_iff.mp (List.mem_of_mem_take hx)) (by rw [List.length_take]; omega)
    refine ⟨b, d4, hb, ht, hd4, ?_⟩
    rw [← e4]
    unfold m__law_ballot fb__law_ballot
    simp only [Int.natCast_add, Int.cast_ofNat_Int] at e3
    simp [e1, e2, e3, bC, bT, bE]
  · obtain ⟨b, d4, hb, ht, _, hd4, e4⟩ := ballot_row hd2 ties ns row h hf hn (hp.nodup_iff.mpr hn) (fun x hx => hp.mem_iff.mp hx) (by omega)
    refine ⟨b, d4, hb, ht, hd4, ?_⟩
    rw [← e4]
    unfold m__law_ballot fb__law_ballot
    simp [e1, e2, h0, bC, bT, bE]
/-! ### the names -/
def NM : List Str := ["a", "bb", "c", "dd", "e", "f"]
theorem NM_nodup : NM.Nodup := by decide +kernel
theorem NM_ok : ∀ x ∈ NM, isNm x = true ∧ x.length ≤ 2 := by decide +kernel
theorem namesT (n : Nat) (h : PH) : m__law_names [.int (n : Int)] h = .ok (T PV.str (NM.take n)) h := by
  rw [names_ok]
  have : NAMES.take n = mp PV.str (NM.take n) := by rw [← mp_take]; rfl
  rw [this]; rfl
theorem names_nd (n : Nat) : (NM.take n).Nodup := NM_nodup.sublist (List.take_sublist _ _)
theorem names_in {n : Nat} {x : Str} (h : x ∈ NM.take n) : isNm x = true ∧ x.length ≤ 2 := NM_ok x (List.mem_of_mem_take h)
theorem names_len (n : Nat) : (NM.take n).length ≤ 6 := by
  rw [List.length_take]
  exact Nat.min_le_right _ _
/-! ### sorted lists of numbers -/
theorem isort_of_sorted : ∀ xs : List Int, xs.Pairwise (· ≤ ·) → isort xs = xs := fun xs h => sorted_unique (isort_perm xs) (isort_sorted xs) h
theorem idx_sorted {g ns : List Str} (hn : ns.Nodup) (hs : g.Sublist ns) : (g.map fun x => (ns.idxOf x : Int)).Pairwise (· < ·) := by
  refine List.Pairwise.sublist (hs.map _) ?_
  rw [List.pairwise_iff_getElem]
  intro i j hi hj hij
  rw [List.length_map] at hi hj
  simp only [List.getElem_map]
  rw [hn.idxOf_getElem i hi, hn.idxOf_getElem j hj]
  omega
theorem isIx_of {g ns : List Str} (hn : ns.Nodup) (hs : g.Sublist ns) : isIx g ns = true := by
  unfold isIx
  rw [isort_of_sorted _ ((idx_sorted hn hs).imp fun h => Int.le_of_lt h)]
  simp
theorem isRk_of {b : List (List Str)} {ns : List Str} (hn : ns.Nodup) (hm : ∀ x ∈ ns, isNm x = true) (r : Rk b ns) : isRk b ns = true := by
  unfold isRk
  simp only [Bool.and_eq_true, List.all_eq_true, decide_eq_true_eq]
  exact ⟨fun g hg => List.length_pos_iff.mpr (r.ne g hg), ⟨fun x hx => hm x (r.mem hx), r.nd⟩, fun x hx => r.mem hx, fun g hg => isIx_of hn (r.sub g hg)⟩
theorem rk_len {b : List (List Str)} {ns : List Str} (r : Rk b ns) : (flat b).length ≤ ns.length :=
  r.nd.length_le_of_subset fun _ hx => r.mem hx
theorem rk_len2 {b : List (List Str)} {ns : List Str} (r : Rk b ns) : b.length ≤ ns.length := by
  refine Nat.le_trans ?_ (rk_len r)
  have key : ∀ b : List (List Str), (∀ g ∈ b, g ≠ []) → b.length ≤ (flat b).length := fun gs => by
    induction gs with
    | nil => simp
    | cons g gs ih =>
      intro hne
      have := ih fun g hg => hne g (List.mem_cons_of_mem _ hg)
      have hg := List.length_pos_iff.mpr (hne g List.mem_cons_self)
      simp
      omega
  exact key b r.ne
theorem ones_of : ∀ (b : List (List Str)) (n : Nat), (∀ g ∈ b, g ≠ []) → (flat b).length ≤ n → n ≤ b.length → ∀ g ∈ b, g.length = 1
  | [], n, _, _, _, g, hg => by cases hg
  | x :: b, n, hne, h1, h2, g, hg => by
    have hx := List.length_pos_iff.mpr (hne x List.mem_cons_self)
    have key : ∀ b : List (List Str), (∀ g ∈ b, g ≠ []) → b.length ≤ (flat b).length := fun gs => by
      induction gs with
      | nil => simp
      | cons g gs ih =>
        intro hne
        have := ih fun g hg => hne g (List.mem_cons_of_mem _ hg)
        have hg := List.length_pos_iff.mpr (hne g List.mem_cons_self)
        simp
        omega
    have hb := key b fun g hg => hne g (List.mem_cons_of_mem _ hg)
    simp at h1 h2
    rcases List.mem_cons.mp hg with rfl | hg
    · omega
    · exact ones_of b b.length (fun g hg => hne g (List.mem_cons_of_mem _ hg)) (by omega) (Nat.le_refl _) g hg
end J

/-! Sums, dicts by texts, comprehensions that roll. -/
namespace J
open PySem PySem.Spec PyProof.Rows L2
@[simp] theorem sumG_ev (vs : List Nat) (fi : SI) (g : GF) (ft : SB) (fe : SE) (ρ : En) (h : PH) : sumG vs fi g ft fe ρ h = (fi ρ h).bind fun s h1 => if sameL s h1 = true then genL s g ft fe (wipeE ρ vs) stS (fun a => .int a) 0 s.xs h1 else .bad := nrfl rfl
theorem sum_mem {α : Type} (emb : α → PV) (f : α → Int) (B : Int) {s : Src} {g : GF} {fe : SE} {ρ0 : En} {h : PH} (hs : sameL s h = true) : ∀ (xs : List α) (a : Int), (∀ x ∈ xs, ∃ ρ1, g (emb x) ρ0 = some ρ1 ∧ fe ρ1 h = .ok (.int (f x)) h ∧ 0 ≤ f x ∧ f x ≤ B) → 0 ≤ a → 0 ≤ B → a + xs.length * B < 2 ^ 63 →
    genL s g tyes fe ρ0 stS (fun a => .int a) a (mp emb xs) h = .ok (.int (a + (xs.map f).sum)) h
  | [], a, _, _, _, _ => by simp [genL]
  | x :: xs, a, H, ha, hB, hz => by
    obtain ⟨ρ1, h1, h2, h3, h4⟩ := H x List.mem_cons_self
    have hm : (0 : Int) ≤ xs.length * B := Int.mul_nonneg (by omega) hB
    have hz' : a + (xs.length * B + B) < 2 ^ 63 := by
      rw [List.length_cons] at hz
      have : ((xs.length + 1 : Nat) : Int) * B = xs.length * B + B := by rw [Int.natCast_succ, Int.add_mul, Int.one_mul]
      omega
    have ih := sum_mem emb f B (s := s) (g := g) (fe := fe) (ρ0 := ρ0) hs xs (a + f x) (fun y hy => H y (List.mem_cons_of_mem _ hy)) (by omega) hB (by omega)
    have hl : (inLongB (f x) && inLongB (a + f x)) = true := by
      simp only [inLongB, Bool.and_eq_true, decide_eq_true_eq]
      omega
    rw [mp_cons]
    unfold genL
    have ht : tyes ρ1 h = .ok true h := rfl
    have hst : stS a (.int (f x)) = some (.inl (a + f x)) := by simp only [stS, hl, if_true]
    simp only [h1, ht, h2, hs, if_true, hst, ih, List.map_cons, List.sum_cons, Int.add_assoc]
/-! ### dicts by texts -/
def Di (f : Str → PV) (xs : List Str) : PO := .dic false (mp PV.str xs) (mp f xs)
theorem dfind_yes {f : Str → PV} {x : Str} : ∀ {xs : List Str}, x ∈ xs → dfind (mp PV.str xs) (mp f xs) (.str x) = some (f x)
  | y :: ys, h => by
    rw [mp_cons, mp_cons]
    unfold dfind
    by_cases e : y = x
    · subst e; simp [beqP]
    · have : beqP (.str y) (.str x) = false := by simp [beqP, e]
      rw [this]
      exact dfind_yes ((List.mem_cons.mp h).resolve_left fun z => e z.symm)
theorem dfind_no {f : Str → PV} {x : Str} : ∀ {xs : List Str}, x ∉ xs → dfind (mp PV.str xs) (mp f xs) (.str x) = none
  | [], _ => rfl
  | y :: ys, h => by
    rw [mp_cons, mp_cons]
    unfold dfind
    have e : ¬ y = x := fun z => h (z ▸ List.mem_cons_self)
    have : beqP (.str y) (.str x) = false := by simp [beqP, e]
    rw [this]
    exact dfind_no fun z => h (List.mem_cons_of_mem _ z)
theorem rdD_Di {f : Str → PV} {xs : List Str} {n : Nat} {h : PH} (e : h[n]? = some (Di f xs)) : rdD h (.loc n) = some (false, mp PV.str xs, mp f xs) := by
  show dicO h[n]? = _
  rw [e]; rfl
theorem ixJ_Di {f : Str → PV} {xs : List Str} {n : Nat} {x : Str} {h : PH} (e : h[n]? = some (Di f xs)) (hx : x ∈ xs) : ixJ (.loc n) (.str x) h = some (f x) := by
  unfold ixJ
  rw [rdD_Di e]
  simp [kOk, keyOf, dfind_yes hx]
theorem setD_new {f : Str → PV} {xs : List Str} {n : Nat} {x : Str} {v : PV} {h : PH} (e : h[n]? = some (Di f xs)) (hx : x ∉ xs) (hz : xs.length < sizeLine) (hv : v = f x) : setD (.loc n) (.str x) v h = some (h.set n (Di f (xs ++ [x]))) := by
  subst hv
  unfold setD
  simp only [e]
  simp [Di, kOk, keyOf, dputK, dputV, dfind_no hx, hz]
theorem neD_Di {f g : Str → PV} {xs : List Str} {n m : Nat} {h : PH} (e : h[n]? = some (Di f xs)) (e2 : h[m]? = some (Di g xs)) (hf : ∀ x ∈ xs, fEq (f x) (g x) = true) : neD (.loc n) (.loc m) h = some (.bl false) := by
  have : ∀ ys : List Str, (∀ y ∈ ys, y ∈ xs) → dsame (mp PV.str xs) (mp g xs) (mp PV.str ys) (mp f ys) = true := by
    intro ys
    induction ys with
    | nil => intro _; rfl
    | cons y ys ih =>
      intro hy
      rw [mp_cons, mp_cons]
      unfold dsame
      rw [dfind_yes (hy y List.mem_cons_self)]
      simp only [hf y (hy y List.mem_cons_self), ih fun z hz => hy z (List.mem_cons_of_mem _ hz), Bool.and_self]
  unfold neD eqvD
  simp only [e, e2]
  simp only [Di, this xs fun _ z => z, mp_length, decide_true, Bool.and_self]
@[simp] theorem dcE_ev (vs : List Nat) (fi : SI) (g : GF) (ft : SB) (fk fv : SE) (ρ : En) (h : PH) : dcE vs fi g ft fk fv ρ h = (fi ρ h).bind fun s h1 => if sameL s h1 = true then (dcL false s g ft fk fv (wipeE ρ vs) s.xs [] [] h1).bind fun p h2 => .ok (PV.loc h2.length) (h2 ++ [.dic false p.1 p.2]) else .bad := nrfl rfl
theorem dcL_mem (f : Str → PV) {s : Src} {g : GF} {fk fv : SE} {ρ0 : En} {h : PH} (hs : sameL s h = true) : ∀ (xs pre : List Str), (pre ++ xs).Nodup → (pre ++ xs).length ≤ sizeLine → (∀ x ∈ xs, ∃ ρ1, g (.str x) ρ0 = some ρ1 ∧ fk ρ1 h = .ok (.str x) h ∧ fv ρ1 h = .ok (f x) h) →
    dcL false s g tyes fk fv ρ0 (mp PV.str xs) (mp PV.str pre) (mp f pre) h = .ok (mp PV.str (pre ++ xs), mp f (pre ++ xs)) h
  | [], pre, _, _, _ => by simp [dcL]
  | x :: xs, pre, hn, hz, H => by
    obtain ⟨ρ1, h1, h2, h3⟩ := H x List.mem_cons_self
    have e : pre ++ x :: xs = (pre ++ [x]) ++ xs := by simp
    have hx : x ∉ pre := fun z => (List.nodup_append.mp hn).2.2 x z x List.mem_cons_self rfl
    have ih := dcL_mem f (s := s) (g := g) (fk := fk) (fv := fv) (ρ0 := ρ0) hs xs (pre ++ [x]) (e ▸ hn) (e ▸ hz) fun y hy => H y (List.mem_cons_of_mem _ hy)
    have hl : pre.length < sizeLine := by simp at hz; omega
    rw [mp_cons (f := PV.str) (x := x) (xs := xs)]
    unfold dcL
    have ht : tyes ρ1 h = .ok true h := rfl
    have hd : (sameL s h && kOk false (.str x) && decide ((mp PV.str pre).length < sizeLine)) = true := by simp [hs, kOk, keyOf, hl]
    have e1 : dputK (mp PV.str pre) (mp f pre) (.str x) (f x) = mp PV.str (pre ++ [x]) := by simp [dputK, dfind_no hx]
    have e2 : dputV (mp PV.str pre) (mp f pre) (.str x) (f x) = mp f (pre ++ [x]) := by simp [dputV, dfind_no hx]
    simp only [h1, ht, h2, h3, hd, if_true, e1, e2, ih, e]
theorem trim_new (h : PH) (o : PO) : trimR .keep h.length (.ok (.loc h.length) (h ++ [o])) = .ok (.loc h.length) (h ++ [o]) := by
  have hg : (h ++ [o])[h.length]? = some o := by rw [List.getElem?_append_right (Nat.le_refl _), Nat.sub_self]; rfl
  have ht : (h ++ [o]).take h.length = h := by simp
  have hc : clo h.length (.loc h.length) = false := by simp [clo]
  simp only [trimR, trimV, hc, hg, ht]
  cases o <;> simp <;> split <;> simp
theorem max1_mp (ks : List Int) (h : PH) (hk : ks ≠ []) : max1O [Li PV.int ks] h = some (.int (lmax ks)) := by
  have : intsL h (Li PV.int ks) = some ks := by
    show (match rd h (.lst (mp PV.int ks)) with | .lst ys => intsOf ys | _ => none) = _
    simp only [rd]
    exact intsOf_mp ks
  unfold max1O
  simp only [this]
  cases ks with
  | nil => exact absurd rfl hk
  | cons a l => rfl
@[simp] theorem mkDic_ev (t : Bool) (ρ : En) (h : PH) : mkDic t ρ h = .ok (.loc h.length) (h ++ [.dic t [] []]) := nrfl rfl
theorem di_nil (f : Str → PV) : PO.dic false [] [] = Di f [] := rfl
/-! ### comprehensions that roll -/
theorem compL_sub {α : Type} (emb f : α → PV) (I : PH → Prop) {s : Src} {g : GF} {ft : SB} {fe : SE} {ρ0 : En} : ∀ (xs : List α), (∀ x ∈ xs, ∀ h, I h → ∃ ρ1 b h1, g (emb x) ρ0 = some ρ1 ∧ ft ρ1 h = .ok b h1 ∧ sameL s h1 = true ∧ I h1 ∧ fe ρ1 h1 = .ok (f x) h1) → ∀ h, I h →
    ∃ ys h', ys.Sublist xs ∧ I h' ∧ compL s g ft fe ρ0 (mp emb xs) h = .ok (mp f ys) h'
  | [], _, h, i => ⟨[], h, .slnil, i, rfl⟩
  | x :: xs, H, h, i => by
    obtain ⟨ρ1, b, h1, e1, e2, e3, i1, e4⟩ := H x List.mem_cons_self h i
    obtain ⟨ys, h', y1, y2, y3⟩ := compL_sub emb f I (s := s) (g := g) (ft := ft) (fe := fe) (ρ0 := ρ0) xs (fun y hy => H y (List.mem_cons_of_mem _ hy)) h1 i1
    rw [mp_cons]
    unfold compL
    cases b with
    | false => exact ⟨ys, h', y1.cons _, y2, by simp only [e1, e2, e3, if_true, y3]⟩
    | true => exact ⟨x :: ys, h', y1.cons₂ _, y2, by simp only [e1, e2, e3, e4, if_true, y3, R.bind_ok, mp_cons]⟩
theorem compL_run {α β : Type} (emb : α → PV) (emb' : β → PV) (I : PH → Prop) (P : β → Prop) {s : Src} {g : GF} {fe : SE} {ρ0 : En} : ∀ (xs : List α), (∀ x ∈ xs, ∀ h, I h → ∃ ρ1 y h1, g (emb x) ρ0 = some ρ1 ∧ fe ρ1 h = .ok (emb' y) h1 ∧ sameL s h1 = true ∧ I h1 ∧ P y) → ∀ h, I h →
    ∃ ys h', ys.length = xs.length ∧ (∀ y ∈ ys, P y) ∧ I h' ∧ compL s g tyes fe ρ0 (mp emb xs) h = .ok (mp emb' ys) h'
  | [], _, h, i => ⟨[], h, rfl, fun _ z => (by cases z), i, rfl⟩
  | x :: xs, H, h, i => by
    obtain ⟨ρ1, y, h1, e1, e2, e3, i1, p1⟩ := H x List.mem_cons_self h i
    obtain ⟨ys, h', y1, y2, y3, y4⟩ := compL_run emb emb' I P (s := s) (g := g) (fe := fe) (ρ0 := ρ0) xs (fun y hy => H y (List.mem_cons_of_mem _ hy)) h1 i1
    rw [mp_cons]
    unfold compL
    have ht : tyes ρ1 h = .ok true h := rfl
    refine ⟨y :: ys, h', by simp [y1], fun z hz => ?_, y3, by simp only [e1, ht, e2, e3, if_true, y4, R.bind_ok, mp_cons]⟩
    rcases List.mem_cons.mp hz with rfl | hz
    · exact p1
    · exact y2 z hz
end J

/-! Approvals. -/
namespace J
open PySem PySem.Spec PyProof.Rows L2
theorem is_approval_yes {b ns : List Str} (h : PH) (hn : ns.Nodup) (hs : b.Sublist ns) (ni : ∀ x ∈ ns, isNm x = true ∧ x.length ≤ 2) (nl : ns.length ≤ 6) : m_is_approval [T PV.str b, T PV.str ns] h = .ok (.bl true) h := by
  have hb : b.length ≤ 6 := Nat.le_trans hs.length_le nl
  have e1 : m_are_names [T PV.str b] h = .ok (.bl true) h := by
    rw [are_names_ok b h (small (by omega)) fun x hx => small (by have := (ni x (hs.subset hx)).2; omega)]
    have : b.all isNm = true := List.all_eq_true.mpr fun x hx => (ni x (hs.subset hx)).1
    simp [this, hn.sublist hs]
  have e2 : b.all (fun x => decide (x ∈ ns)) = true := List.all_eq_true.mpr fun x hx => by simp [hs.subset hx]
  unfold m_is_approval fb_is_approval
  simp (maxDischargeDepth := 9) [isiT, e1, e2, in_turn_ok b ns h fun x hx => hs.subset hx, isIx_of hn hs]
theorem check_approval_yes {b ns : List Str} (h : PH) (hn : ns.Nodup) (hs : b.Sublist ns) (ni : ∀ x ∈ ns, isNm x = true ∧ x.length ≤ 2) (nl : ns.length ≤ 6) : m_check_approval [T PV.str b, T PV.str ns] h = .ok .non h := by
  unfold m_check_approval fb_check_approval
  simp [is_approval_yes h hn hs ni nl]
/-- how many tell a name -/
def cnt (bs : List (List Str)) (n : Str) : Nat := (bs.filter fun b => decide (n ∈ b)).length
theorem cnt_sum (n : Str) : ∀ bs : List (List Str), (bs.map fun b => if n ∈ b then (1 : Int) else 0).sum = cnt bs n
  | [] => rfl
  | b :: bs => by
    have ih := cnt_sum n bs
    unfold cnt at ih ⊢
    rw [List.map_cons, List.sum_cons, ih, List.filter_cons]
    by_cases h : n ∈ b <;> simp [h] <;> omega
theorem cnt_add (bs : List (List Str)) (m n : Str) : cnt (bs ++ [[m]]) n = cnt bs n + (if n = m then 1 else 0) := by
  unfold cnt
  by_cases h : n = m <;> simp [h]
def top (bs : List (List Str)) (ns : List Str) : Int := lmax (ns.map fun n => (cnt bs n : Int))
def win (bs : List (List Str)) (ns : List Str) : List Str := ns.filter fun n => decide ((cnt bs n : Int) = top bs ns)
theorem mem_win {bs : List (List Str)} {ns : List Str} {n : Str} : n ∈ win bs ns ↔ n ∈ ns ∧ ∀ y ∈ ns, cnt bs y ≤ cnt bs n := by
  unfold win top
  rw [List.mem_filter, decide_eq_true_eq]
  refine ⟨fun ⟨h1, h2⟩ => ⟨h1, fun y hy => ?_⟩, fun ⟨h1, h2⟩ => ⟨h1, ?_⟩⟩
  · have := lmax_ge (ns := ns.map fun n => (cnt bs n : Int)) (cnt bs y : Int) (List.mem_map.mpr ⟨y, hy, rfl⟩)
    omega
  · refine (lmax_eq (ns := ns.map fun n => (cnt bs n : Int)) (m := (cnt bs n : Int)) (List.mem_map.mpr ⟨n, h1, rfl⟩) fun z hz => ?_).symm
    obtain ⟨y, hy, rfl⟩ := List.mem_map.mp hz
    have := h2 y hy
    omega
theorem win_ne {bs : List (List Str)} {ns : List Str} (h : ns ≠ []) : win bs ns ≠ [] := by
  have := lmax_mem (ns := ns.map fun n => (cnt bs n : Int)) (by simpa using h)
  obtain ⟨y, hy, e⟩ := List.mem_map.mp this
  have : y ∈ win bs ns := by
    unfold win top
    rw [List.mem_filter, decide_eq_true_eq]
    exact ⟨hy, e⟩
  exact List.ne_nil_of_mem this
theorem win_one {bs : List (List Str)} {ns : List Str} (hn : ns.Nodup) {m : Str} (hm : m ∈ win bs ns) : win (bs ++ [[m]]) ns = [m] := by
  obtain ⟨h1, h2⟩ := mem_win.mp hm
  have hs : (win (bs ++ [[m]]) ns).Nodup := hn.sublist List.filter_sublist
  have : ∀ x, x ∈ win (bs ++ [[m]]) ns ↔ x = m := fun x => by
    rw [mem_win]
    refine ⟨fun ⟨q1, q2⟩ => ?_, fun q => ?_⟩
    · have := q2 m h1
      have := h2 x q1
      rw [cnt_add, cnt_add] at *
      by_cases e : x = m
      · exact e
      · simp [e] at *; omega
    · subst q
      refine ⟨h1, fun y hy => ?_⟩
      have := h2 y hy
      rw [cnt_add, cnt_add]
      split <;> simp <;> omega
  exact (List.perm_singleton.mp ((List.perm_ext_iff_of_nodup hs (by simp)).mpr fun x => by simp [this x]))
theorem win_more {bs : List (List Str)} {ns : List Str} {m : Str} (hm : m ∈ ns) : m ∈ win (bs ++ [[m]]) ns ↔ (cnt bs m : Int) + 1 ≥ top bs ns := by
  rw [mem_win]
  have hne : ns ≠ [] := List.ne_nil_of_mem hm
  have ht := lmax_mem (ns := ns.map fun n => (cnt bs n : Int)) (by simpa using hne)
  obtain ⟨y, hy, e⟩ := List.mem_map.mp ht
  have hge : ∀ z ∈ ns, (cnt bs z : Int) ≤ top bs ns := fun z hz => lmax_ge _ (List.mem_map.mpr ⟨z, hz, rfl⟩)
  have e : (cnt bs y : Int) = top bs ns := e
  refine ⟨fun ⟨_, q⟩ => ?_, fun q => ⟨hm, fun z hz => ?_⟩⟩
  · have := q y hy
    rw [cnt_add, cnt_add] at this
    simp at this
    split at this <;> omega
  · have := hge z hz
    rw [cnt_add, cnt_add]
    simp
    split
    · rename_i e; subst e; omega
    · omega
end J

/-! Pure functions that many laws reach: profiles and pairs. -/
namespace J
open PySem PySem.Spec PyProof.Rows L2
def fb_level_of : SS := (seq (sfor (ienum (acons (vr 0) anil)) (gtup 2 (gcons (gnm 2) (gcons (gnm 3) gnil))) (seq (sif (tst (bin2 inJ (vr 1) (vr 3))) (seq (sret (vr 2)) snil) snil) snil))
  (seq (sret (cal lenO (acons (vr 0) anil))) snil))
def m_level_of : List PV → PH → R PV := fun args h => trimR .keep h.length (fin (fb_level_of (startE 4 args) h))
def fb_prefers : SS := (seq (sret (bin2 ltJ (calld 2 m_level_of (acons (vr 0) (acons (vr 1) anil))) (calld 2 m_level_of (acons (vr 0) (acons (vr 2) anil))))) snil)
def m_prefers : List PV → PH → R PV := fun args h => trimR .keep h.length (fin (fb_prefers (startE 3 args) h))
def fb_is_profile : SS := (seq (sif (ffor (fnot (tru (isi "tuple" (vr 0)))) (ffor (tst (bin2 neO (cal lenO (acons (vr 0) anil)) (cst (.int 2)))) (ffor (fnot (tru (calld 1 m_are_names (acons (bin2 ixO (vr 0) (cst (.int 0))) anil)))) (tst (bin2 eqO (cal lenO (acons (bin2 ixO (vr 0) (cst (.int 0))) anil)) (cst (.int 0))))))) (seq (sret (cst (.bl false))) snil) snil)
  (seq (sif (fnot (tru (isi "tuple" (bin2 ixO (vr 0) (cst (.int 1)))))) (seq (sret (cst (.bl false))) snil) snil)
  (seq (sset 1 (mkLoc anil))
  (seq (sfor (isrc (bin2 ixO (vr 0) (cst (.int 1)))) (gnm 2) (seq (sif (ffor (fnot (tru (isi "tuple" (vr 2)))) (ffor (tst (bin2 neO (cal lenO (acons (vr 2) anil)) (cst (.int 2)))) (fnot (tru (calld 3 m_is_whole (acons (bin2 ixO (vr 2) (cst (.int 0))) (acons (cst (.int 1)) (acons (cst (.int 1000000)) anil)))))))) (seq (sret (cst (.bl false))) snil) snil)
  (seq (sif (ffor (fnot (tru (calld 2 m_is_ranking (acons (bin2 ixO (vr 2) (cst (.int 1))) (acons (bin2 ixO (vr 0) (cst (.int 0))) anil))))) (tst (bin2 inJ (bin2 ixO (vr 2) (cst (.int 1))) (vr 1)))) (seq (sret (cst (.bl false))) snil) snil)
  (seq (sexp (met .list appendO (vr 1) (acons (bin2 ixO (vr 2) (cst (.int 1))) anil))) snil))))
  (seq (sret (cst (.bl true))) snil)))))
def m_is_profile : List PV → PH → R PV := fun args h => trimR .keep h.length (fin (fb_is_profile (startE 3 args) h))
def fb_check_profile : SS := (seq (sif (fnot (tru (calld 1 m_is_profile (acons (vr 0) anil)))) (seq (sraise "BadProfile") snil) snil) snil)
def m_check_profile : List PV → PH → R PV := fun args h => trimR .keep h.length (fin (fb_check_profile (startE 1 args) h))
def fb_ahead : SS := (seq (sret (sumG [3, 4] (isrc (bin2 ixO (vr 0) (cst (.int 1)))) (gtup 2 (gcons (gnm 3) (gcons (gnm 4) gnil))) (tru (calld 3 m_prefers (acons (vr 4) (acons (vr 1) (acons (vr 2) anil))))) (vr 3))) snil)
def m_ahead : List PV → PH → R PV := fun args h => trimR .keep h.length (fin (fb_ahead (startE 5 args) h))
def fb_support : SS := (seq (sexp (calld 1 m_check_profile (acons (vr 0) anil)))
  (seq (sret (dc2T true [1, 2] [2] (isrc (bin2 ixO (vr 0) (cst (.int 0)))) (gnm 1) tyes (isrc (bin2 ixO (vr 0) (cst (.int 0)))) (gnm 2) (tst (bin2 neO (vr 1) (vr 2))) (mkKt (acons (vr 1) (acons (vr 2) anil))) (calld 3 m_ahead (acons (vr 0) (acons (vr 1) (acons (vr 2) anil)))))) snil))
def m_support : List PV → PH → R PV := fun args h => trimR .keep h.length (fin (fb_support (startE 3 args) h))
def fb_margins : SS := (seq (sset 1 (calld 1 m_support (acons (vr 0) anil)))
  (frz 1 (seq (sret (dcT true [2, 3] (ikeys (vr 1)) (gtup 2 (gcons (gnm 2) (gcons (gnm 3) gnil))) tyes (mkKt (acons (vr 2) (acons (vr 3) anil))) (bin2 subO (bin2 ixJ (vr 1) (mkKt (acons (vr 2) (acons (vr 3) anil)))) (bin2 ixJ (vr 1) (mkKt (acons (vr 3) (acons (vr 2) anil))))))) snil)))
def m_margins : List PV → PH → R PV := fun args h => trimR .keep h.length (fin (fb_margins (startE 4 args) h))
def fb_beats : SS := (seq (sret (vand (bin2 neO (vr 1) (vr 2)) (bin2 gtJ (bin2 ixJ (vr 0) (mkKt (acons (vr 1) (acons (vr 2) anil)))) (cst (.int 0))))) snil)
def m_beats : List PV → PH → R PV := fun args h => trimR .keep h.length (fin (fb_beats (startE 3 args) h))
def fb__law_profile : SS := (seq (sset 4 (mkLoc anil))
  (seq (sfor (irng1 (acons (calld 2 m__law_roll (acons (vr 0) (acons (bin2 addO (vr 2) (cst (.int 1))) anil))) anil)) (gnm 5) (seq (sset 6 (calld 3 m__law_ballot (acons (vr 0) (acons (vr 1) (acons (vr 3) anil)))))
  (seq (sset 7 (bin2 addO (cst (.int 1)) (calld 2 m__law_roll (acons (vr 0) (acons (cst (.int 5)) anil)))))
  (seq (sif (tst (bin2 eqO (calld 2 m__law_roll (acons (vr 0) (acons (cst (.int 6)) anil))) (cst (.int 0)))) (seq (sset 7 (bin2 addO (cst (.int 1)) (calld 2 m__law_roll (acons (vr 0) (acons (cst (.int 900)) anil))))) snil) snil)
  (seq (sif (tst (bin2 eqO (lcG [8, 9] (isrc (vr 4)) (gtup 2 (gcons (gnm 8) (gcons (gnm 9) gnil))) (tst (bin2 eqO (vr 9) (vr 6))) (vr 9) (fun xs h => .ok (.lst xs) h)) (mkLst anil))) (seq (sexp (met .list appendO (vr 4) (acons (mkTup (acons (vr 7) (acons (vr 6) anil))) anil))) snil) snil) snil)))))
  (seq (sret (mkTup (acons (vr 1) (acons (cal tupleO (acons (vr 4) anil)) anil)))) snil)))
def m__law_profile : List PV → PH → R PV := fun args h => trimR .keep h.length (fin (fb__law_profile (startE 10 args) h))
def fb__law_place : SS := (seq (sfor (irng1 (acons (cal lenO (acons (vr 0) anil)) anil)) (gnm 2) (seq (sif (tst (bin2 inJ (vr 1) (bin2 ixO (vr 0) (vr 2)))) (seq (sret (vr 2)) snil) snil) snil))
  (seq (sret (cal lenO (acons (vr 0) anil))) snil))
def m__law_place : List PV → PH → R PV := fun args h => trimR .keep h.length (fin (fb__law_place (startE 3 args) h))
def fb__law_margin : SS := (seq (sset 3 (cst (.int 0)))
  (seq (sfor (isrc (bin2 ixO (vr 0) (cst (.int 1)))) (gtup 2 (gcons (gnm 4) (gcons (gnm 5) gnil))) (seq (spar 6 7 (acons (calld 2 m__law_place (acons (vr 5) (acons (vr 1) anil))) (acons (calld 2 m__law_place (acons (vr 5) (acons (vr 2) anil))) anil)))
  (seq (sset 3 (bin2 addO (vr 3) (bin2 mulO (vr 4) (bin2 subO (cal intO1 (acons (bin2 ltJ (vr 6) (vr 7)) anil)) (cal intO1 (acons (bin2 ltJ (vr 7) (vr 6)) anil)))))) snil)))
  (seq (sret (vr 3)) snil)))
def m__law_margin : List PV → PH → R PV := fun args h => trimR .keep h.length (fin (fb__law_margin (startE 8 args) h))
def fb__law_ahead : SS := (seq (sset 3 (cst (.int 0)))
  (seq (sfor (isrc (bin2 ixO (vr 0) (cst (.int 1)))) (gtup 2 (gcons (gnm 4) (gcons (gnm 5) gnil))) (seq (sif (tst (bin2 ltJ (calld 2 m__law_place (acons (vr 5) (acons (vr 1) anil))) (calld 2 m__law_place (acons (vr 5) (acons (vr 2) anil))))) (seq (sset 3 (bin2 addO (vr 3) (vr 4))) snil) snil) snil))
  (seq (sret (vr 3)) snil)))
def m__law_ahead : List PV → PH → R PV := fun args h => trimR .keep h.length (fin (fb__law_ahead (startE 6 args) h))
end J

/-! Levels, profiles, pairs. -/
namespace J
open PySem PySem.Spec PyProof.Rows L2
/-- the number of a name's group -/
def lvl : List (List Str) → Str → Nat
  | [], _ => 0
  | g :: b, x => if x ∈ g then 0 else 1 + lvl b x
theorem lvl_le (x : Str) : ∀ b : List (List Str), lvl b x ≤ b.length
  | [] => Nat.le_refl _
  | g :: b => by
    have := lvl_le x b
    unfold lvl
    split <;> simp <;> omega
/-- an item with its number -/
def nE {α : Type} (f : α → PV) (p : α × Nat) : PV := .kt [.int (p.2 : Nat), f p.1]
theorem enumL_mp {α : Type} (f : α → PV) : ∀ (xs : List α) (k : Nat), enumL (mp f xs) k = mp (nE f) (xs.zipIdx k)
  | [], k => rfl
  | x :: xs, k => by
    rw [mp_cons]
    show PV.kt [.int (k : Nat), f x] :: enumL (mp f xs) (k + 1) = _
    rw [enumL_mp f xs (k + 1), List.zipIdx_cons, mp_cons]
    rfl
@[simp] theorem enumO_T {α : Type} (f : α → PV) (xs : List α) : enumO (T f xs) = some ⟨mp (nE f) (xs.zipIdx 0), none⟩ := by
  show some (⟨enumL (mp f xs) 0, none⟩ : Src) = _
  rw [enumL_mp]
@[simp] theorem ienum_ev (g : SA) (ρ : En) (h : PH) : ienum g ρ h = (g ρ h).bind fun vs h1 => R.of h1 ((oneS vs).bind enumO) := nrfl rfl
/-- a loop that looks for the first item of a kind -/
theorem for_find {α J : Type} {emb : α → PV} {s : Src} {g : GF} {body : SS} (E : J → En) (p : α → Bool) (f : α → PV) {h : PH} (hs : sameL s h = true) : ∀ (xs : List α) (j : J), (∀ x ∈ xs, ∀ j, ∃ ρ1 j', g (emb x) (E j) = some ρ1 ∧ body ρ1 h = if p x = true then .rt (f x) h else .nx (E j') h) →
    ∃ j', forL s g body (mp emb xs) (E j) h = match xs.find? p with
      | some x => .rt (f x) h
      | none => .nx (E j') h
  | [], j, _ => ⟨j, rfl⟩
  | x :: xs, j, H => by
    obtain ⟨ρ1, j1, e1, e2⟩ := H x List.mem_cons_self j
    obtain ⟨j2, e3⟩ := for_find (emb := emb) (s := s) (g := g) (body := body) E p f hs xs j1 fun y hy => H y (List.mem_cons_of_mem _ hy)
    refine ⟨j2, ?_⟩
    rw [mp_cons, List.find?_cons]
    unfold forL
    simp only [e1, e2]
    cases hp : p x with
    | true => simp only [if_true]
    | false =>
      simp only [Bool.false_eq_true, if_false, hs, if_true]
      exact e3
theorem find_lvl (x : Str) : ∀ (b : List (List Str)) (k : Nat), match (b.zipIdx k).find? (fun p => decide (x ∈ p.1)) with
    | some p => p.2 = k + lvl b x ∧ lvl b x < b.length
    | none => lvl b x = b.length
  | [], k => rfl
  | g :: b, k => by
    have ih := find_lvl x b (k + 1)
    rw [List.zipIdx_cons, List.find?_cons]
    by_cases h : x ∈ g
    · simp [h, lvl]
    · simp only [h, decide_false]
      unfold lvl
      rw [if_neg h]
      cases hf : (b.zipIdx (k + 1)).find? (fun p => decide (x ∈ p.1)) with
      | some p =>
        rw [hf] at ih
        simp only at ih ⊢
        exact ⟨by omega, by simp only [List.length_cons]; omega⟩
      | none =>
        rw [hf] at ih
        simp only at ih ⊢
        simp only [List.length_cons]
        omega
theorem level_of_ok (b : List (List Str)) (x : Str) (h : PH) : m_level_of [T tS b, .str x] h = .ok (.int (lvl b x : Nat)) h := by
  have lo := for_find (emb := nE tS) (s := ⟨mp (nE tS) (b.zipIdx 0), none⟩) (g := gtup 2 (gcons (gnm 2) (gcons (gnm 3) gnil))) (body := seq (sif (tst (bin2 inJ (vr 1) (vr 3))) (seq (sret (vr 2)) snil) snil) snil) (h := h) (fun j : Option PV × Option PV => [some (T tS b), some (.str x), j.1, j.2]) (fun p => decide (x ∈ p.1)) (fun p => .int (p.2 : Nat)) rfl (b.zipIdx 0) (none, none) (by
    rintro ⟨gr, n⟩ hp ⟨j1, j2⟩
    refine ⟨_, (some (.int (n : Nat)), some (tS gr)), rfl, ?_⟩
    by_cases hx : x ∈ gr <;> simp [hx])
  obtain ⟨⟨j1, j2⟩, lo⟩ := lo
  have fl := find_lvl x b 0
  unfold m_level_of fb_level_of
  simp only at lo
  simp [oneS, lo]
  cases hf : (b.zipIdx 0).find? (fun p => decide (x ∈ p.1)) with
  | none => rw [hf] at fl; simp only at fl; simp [fl]
  | some p => rw [hf] at fl; simp only at fl; simp [fl.1]
theorem prefers_ok (b : List (List Str)) (x y : Str) (h : PH) : m_prefers [T tS b, .str x, .str y] h = .ok (.bl (decide (lvl b x < lvl b y))) h := by
  unfold m_prefers fb_prefers
  simp [level_of_ok]
/-! ### profiles -/
abbrev Row := Int × List (List Str)
def rowV : Row → PV := P2 PV.int (T tS)
/-- a profile as a value -/
def prf (ns : List Str) (rs : List Row) : PV := .tup [T PV.str ns, T rowV rs]
@[simp] theorem prf0 (ns : List Str) (rs : List Row) (h : PH) : ixO (prf ns rs) (.int 0) h = some (T PV.str ns) := nrfl rfl
@[simp] theorem prf1 (ns : List Str) (rs : List Row) (h : PH) : ixO (prf ns rs) (.int 1) h = some (T rowV rs) := nrfl rfl
@[simp] theorem row0 (r : Row) (h : PH) : ixO (rowV r) (.int 0) h = some (.int r.1) := nrfl rfl
@[simp] theorem row1 (r : Row) (h : PH) : ixO (rowV r) (.int 1) h = some (T tS r.2) := nrfl rfl
@[simp] theorem ty_prf (ns : List Str) (rs : List Row) (h : PH) : tyN h (prf ns rs) = some "tuple" := nrfl rfl
@[simp] theorem ty_row (r : Row) (h : PH) : tyN h (rowV r) = some "tuple" := nrfl rfl
@[simp] theorem len_prf (ns : List Str) (rs : List Row) (h : PH) : lenO [prf ns rs] h = some (.int 2) := nrfl rfl
@[simp] theorem len_row (r : Row) (h : PH) : lenO [rowV r] h = some (.int 2) := nrfl rfl
theorem sum_memF {α : Type} (emb : α → PV) (c : α → Bool) (f : α → Int) (B : Int) {s : Src} {g : GF} {ft : SB} {fe : SE} {ρ0 : En} {h : PH} (hs : sameL s h = true) : ∀ (xs : List α) (a : Int), (∀ x ∈ xs, ∃ ρ1, g (emb x) ρ0 = some ρ1 ∧ ft ρ1 h = .ok (c x) h ∧ fe ρ1 h = .ok (.int (f x)) h ∧ 0 ≤ f x ∧ f x ≤ B) → 0 ≤ a → 0 ≤ B → a + xs.length * B < 2 ^ 63 →
    genL s g ft fe ρ0 stS (fun a => .int a) a (mp emb xs) h = .ok (.int (a + ((xs.filter c).map f).sum)) h
  | [], a, _, _, _, _ => by simp [genL]
  | x :: xs, a, H, ha, hB, hz => by
    obtain ⟨ρ1, h1, h2, h3, h4, h5⟩ := H x List.mem_cons_self
    have hm : (0 : Int) ≤ xs.length * B := Int.mul_nonneg (by omega) hB
    have hz' : a + (xs.length * B + B) < 2 ^ 63 := by
      rw [List.length_cons] at hz
      have : ((xs.length + 1 : Nat) : Int) * B = xs.length * B + B := by rw [Int.natCast_succ, Int.add_mul, Int.one_mul]
      omega
    rw [mp_cons, List.filter_cons]
    unfold genL
    cases hc : c x with
    | false =>
      have ih := sum_memF emb c f B (s := s) (g := g) (ft := ft) (fe := fe) (ρ0 := ρ0) hs xs a (fun y hy => H y (List.mem_cons_of_mem _ hy)) ha hB (by omega)
      simp only [h1, h2, hc, hs, if_true, ih]
      rfl
    | true =>
      have ih := sum_memF emb c f B (s := s) (g := g) (ft := ft) (fe := fe) (ρ0 := ρ0) hs xs (a + f x) (fun y hy => H y (List.mem_cons_of_mem _ hy)) (by omega) hB (by omega)
      have hl : (inLongB (f x) && inLongB (a + f x)) = true := by
        simp only [inLongB, Bool.and_eq_true, decide_eq_true_eq]
        omega
      have hst : stS a (.int (f x)) = some (.inl (a + f x)) := by simp only [stS, hl, if_true]
      simp only [h1, h2, hc, h3, hs, if_true, hst, ih, List.map_cons, List.sum_cons, Int.add_assoc]
/-- how many tell x ahead of y -/
def ahd (rs : List Row) (x y : Str) : Int := ((rs.filter fun r => decide (lvl r.2 x < lvl r.2 y)).map (·.1)).sum
theorem ahead_ok (ns : List Str) (rs : List Row) (x y : Str) (h : PH) (hc : ∀ r ∈ rs, 0 ≤ r.1 ∧ r.1 ≤ 1000000) (hl : rs.length ≤ 1000) : m_ahead [prf ns rs, .str x, .str y] h = .ok (.int (ahd rs x y)) h := by
  have sm := sum_memF rowV (fun r => decide (lvl r.2 x < lvl r.2 y)) (·.1) 1000000 (s := ⟨mp rowV rs, none⟩) (g := gtup 2 (gcons (gnm 3) (gcons (gnm 4) gnil))) (ft := tru (calld 3 m_prefers (acons (vr 4) (acons (vr 1) (acons (vr 2) anil))))) (fe := vr 3) (ρ0 := [some (prf ns rs), some (.str x), some (.str y), none, none]) (h := h) rfl rs 0 (by
    rintro ⟨n, b⟩ hr
    refine ⟨_, rfl, ?_, ?_, hc _ hr⟩
    · simp [prefers_ok]
    · simp) (by decide) (by decide) (by omega)
  unfold m_ahead fb_ahead
  simp [sm, ahd]
end J

/-! What is a profile; support. -/
namespace J
open PySem PySem.Spec PyProof.Rows L2
theorem is_whole_ok (i lo hi : Int) (h : PH) : m_is_whole [.int i, .int lo, .int hi] h = .ok (.bl (decide (lo ≤ i) && decide (i ≤ hi))) h := by
  unfold m_is_whole fb_is_whole
  simp (maxDischargeDepth := 9) [isiT]
theorem inJ_loc {h : PH} {n : Nat} {xs : List PV} (e : h[n]? = some (.lst xs)) (v : PV) : inJ v (.loc n) h = inJ v (.lst xs) h := by
  have h1 : itemsOf h (.loc n) = some xs := by unfold itemsOf; rw [rd_loc e]
  have h2 : itemsOf h (.lst xs) = some xs := rfl
  show inO v (.loc n) h = inO v (.lst xs) h
  unfold inO
  rw [h1, h2]
theorem is_profile_yes (ns : List Str) (rs : List Row) (h : PH) (fl : Flat h) (an : ∀ h, m_are_names [T PV.str ns] h = .ok (.bl true) h) (ne : ns ≠ []) (hc : ∀ r ∈ rs, 1 ≤ r.1 ∧ r.1 ≤ 1000000) (rk : ∀ r ∈ rs, ∀ h, m_is_ranking [T tS r.2, T PV.str ns] h = .ok (.bl true) h) (nd : (rs.map (·.2)).Nodup) (hl : rs.length ≤ 1000) :
    m_is_profile [prf ns rs] h = .ok (.bl true) h := by
  have ge : ∀ o : PO, (h ++ [o])[h.length]? = some o := fun o => by rw [List.getElem?_append_right (Nat.le_refl _), Nat.sub_self]; rfl
  obtain ⟨ρ', h', lo, j, rfl, rfl⟩ := for_inv (emb := rowV) (s := ⟨mp rowV rs, none⟩) (g := gnm 2) (body := (seq (sif (ffor (fnot (tru (isi "tuple" (vr 2)))) (ffor (tst (bin2 neO (cal lenO (acons (vr 2) anil)) (cst (.int 2)))) (fnot (tru (calld 3 m_is_whole (acons (bin2 ixO (vr 2) (cst (.int 0))) (acons (cst (.int 1)) (acons (cst (.int 1000000)) anil)))))))) (seq (sret (cst (.bl false))) snil) snil)
  (seq (sif (ffor (fnot (tru (calld 2 m_is_ranking (acons (bin2 ixO (vr 2) (cst (.int 1))) (acons (bin2 ixO (vr 0) (cst (.int 0))) anil))))) (tst (bin2 inJ (bin2 ixO (vr 2) (cst (.int 1))) (vr 1)))) (seq (sret (cst (.bl false))) snil) snil)
  (seq (sexp (met .list appendO (vr 1) (acons (bin2 ixO (vr 2) (cst (.int 1))) anil))) snil)))) (fun pre ρ hh => ∃ j, ρ = [some (prf ns rs), some (.loc h.length), j] ∧ hh = h ++ [.lst (mp (T tS) (pre.map (·.2)))]) rs (ρ := [some (prf ns rs), some (.loc h.length), none]) (h := h ++ [.lst []]) ⟨none, rfl, rfl⟩ (by
    rintro pre x post ρ hh hx ⟨j, rfl, rfl⟩
    have hxr : x ∈ rs := by rw [hx]; simp
    have hnot : x.2 ∉ pre.map (·.2) := fun z => by
      rw [hx, List.map_append, List.map_cons] at nd
      exact (List.nodup_append.mp nd).2.2 x.2 z x.2 List.mem_cons_self rfl
    have hlen : pre.length < sizeLine := by
      have := congrArg List.length hx
      simp at this
      exact Nat.lt_of_lt_of_le (show pre.length < 1001 by omega) (small (by decide))
    have ii := inJ_loc (ge (.lst (mp (T tS) (pre.map (·.2))))) (T tS x.2)
    have ap := appendO_loc (h := h ++ [.lst (mp (T tS) (pre.map (·.2)))]) (xs := mp (T tS) (pre.map (·.2))) (n := h.length) (ge _) (T tS x.2) (by simpa using hlen)
    refine ⟨_, _, _, rfl, .inl ?_, rfl, some (rowV x), rfl, rfl⟩
    have c1 := hc x hxr
    simp (maxDischargeDepth := 9) [isiT, is_whole_ok, c1.1, c1.2, rk x hxr]
    have i2 : inJ (T tS x.2) (.lst (mp (T tS) (pre.map (·.2)))) (h ++ [.lst (mp (T tS) (pre.map (·.2)))]) = some (.bl false) := by
      show inJ (T tS x.2) (Li (T tS) (pre.map (·.2))) _ = _
      have hnot : ¬ ∃ a, (a, x.2) ∈ pre := fun ⟨a, ha⟩ => hnot (List.mem_map.mpr ⟨_, ha, rfl⟩)
      simp [hnot]
    have is := isT_loc (h := h ++ [.lst (mp (T tS) (pre.map (·.2)))]) (xs := mp (T tS) (pre.map (·.2))) (n := h.length) (ge _)
    have se : (h ++ [PO.lst (mp (T tS) (pre.map (·.2)))]).set h.length (.lst (mp (T tS) (pre.map (·.2)) ++ [T tS x.2])) = h ++ [.lst (mp (T tS) (pre.map (·.2) ++ [x.2]))] := by
      rw [List.set_append_right _ _ (Nat.le_refl _), Nat.sub_self]
      simp
    rw [se] at ap
    simp only [ii, i2]
    simp [is, ap])
  unfold m_is_profile fb_is_profile
  simp (maxDischargeDepth := 9) [isiT, an, ne, lo]
  exact trim_cut _ _ _ _ fl rfl
end J

/-! Dicts with keys of a kind; support and margins. -/
namespace J
open PySem PySem.Spec PyProof.Rows L2
/-- what may be a key -/
class KeyE {κ : Type} [DecidableEq κ] (t : outParam Bool) (e : κ → PV) : Prop where
  heq : ∀ x y, beqP (e x) (e y) = decide (x = y)
  ok : ∀ x, kOk t (e x) = true
def kk (p : Str × Str) : PV := .kt [.str p.1, .str p.2]
instance : KeyE false PV.str := ⟨fun x y => by simp [beqP], fun x => rfl⟩
instance : KeyE true kk := ⟨fun x y => by
  obtain ⟨a, b⟩ := x
  obtain ⟨c, d⟩ := y
  simp only [kk, beqP, beqs, Bool.and_true, Prod.mk.injEq, Bool.decide_and], fun x => rfl⟩
section
variable {κ : Type} [DecidableEq κ] {t : Bool} {e : κ → PV} [K : KeyE t e] {f : κ → PV}
/-- a dict -/
def Dk (t : Bool) (e f : κ → PV) (xs : List κ) : PO := .dic t (mp e xs) (mp f xs)
include K
theorem kfind_yes {x : κ} : ∀ {xs : List κ}, x ∈ xs → dfind (mp e xs) (mp f xs) (e x) = some (f x)
  | y :: ys, h => by
    rw [mp_cons, mp_cons]
    unfold dfind
    rw [K.heq]
    by_cases z : y = x
    · subst z; simp
    · simp only [z, decide_false, Bool.false_eq_true, if_false]
      exact kfind_yes ((List.mem_cons.mp h).resolve_left fun q => z q.symm)
theorem kfind_no {x : κ} : ∀ {xs : List κ}, x ∉ xs → dfind (mp e xs) (mp f xs) (e x) = none
  | [], _ => rfl
  | y :: ys, h => by
    rw [mp_cons, mp_cons]
    unfold dfind
    have z : ¬ y = x := fun q => h (q ▸ List.mem_cons_self)
    simp only [K.heq, z, decide_false, Bool.false_eq_true, if_false]
    exact kfind_no fun q => h (List.mem_cons_of_mem _ q)
theorem ixJ_dic {xs : List κ} {x : κ} {h : PH} (hx : x ∈ xs) : ixJ (.dic t (mp e xs) (mp f xs)) (e x) h = some (f x) := by
  unfold ixJ
  show (if kOk t (e x) = true then dfind (mp e xs) (mp f xs) (e x) else none) = _
  rw [K.ok, if_pos rfl, kfind_yes hx]
theorem ixJ_Dk {xs : List κ} {n : Nat} {x : κ} {h : PH} (hn : h[n]? = some (Dk t e f xs)) (hx : x ∈ xs) : ixJ (.loc n) (e x) h = some (f x) := by
  unfold ixJ
  have : rdD h (.loc n) = some (t, mp e xs, mp f xs) := by
    show dicO h[n]? = _
    rw [hn]; rfl
  rw [this]
  show (if kOk t (e x) = true then dfind (mp e xs) (mp f xs) (e x) else none) = _
  rw [K.ok, if_pos rfl, kfind_yes hx]
theorem dcL_memG {α : Type} (emb : α → PV) (c : α → Bool) (ky : α → κ) {s : Src} {g : GF} {ft : SB} {fk fv : SE} {ρ0 : En} {h : PH} (hs : sameL s h = true) : ∀ (xs : List α) (pre : List κ), (pre ++ (xs.filter c).map ky).Nodup → (pre ++ (xs.filter c).map ky).length ≤ sizeLine →
    (∀ x ∈ xs, ∃ ρ1, g (emb x) ρ0 = some ρ1 ∧ ft ρ1 h = .ok (c x) h ∧ (c x = true → fk ρ1 h = .ok (e (ky x)) h ∧ fv ρ1 h = .ok (f (ky x)) h)) →
    dcL t s g ft fk fv ρ0 (mp emb xs) (mp e pre) (mp f pre) h = .ok (mp e (pre ++ (xs.filter c).map ky), mp f (pre ++ (xs.filter c).map ky)) h
  | [], pre, _, _, _ => by simp [dcL]
  | x :: xs, pre, hn, hz, H => by
    obtain ⟨ρ1, h1, h2, h3⟩ := H x List.mem_cons_self
    rw [mp_cons (f := emb)]
    unfold dcL
    cases hc : c x with
    | false =>
      have ef : (x :: xs).filter c = xs.filter c := by simp [List.filter_cons, hc]
      rw [ef] at hn hz ⊢
      have ih := dcL_memG emb c ky (s := s) (g := g) (ft := ft) (fk := fk) (fv := fv) (ρ0 := ρ0) hs xs pre hn hz fun y hy => H y (List.mem_cons_of_mem _ hy)
      simp only [h1, h2, hc, hs, if_true, ih]
    | true =>
      have ef : pre ++ ((x :: xs).filter c).map ky = (pre ++ [ky x]) ++ (xs.filter c).map ky := by simp [List.filter_cons, hc]
      rw [ef] at hn hz ⊢
      have hx : ky x ∉ pre := fun z => by
        have := (List.nodup_append.mp hn).1
        exact (List.nodup_append.mp this).2.2 _ z _ List.mem_cons_self rfl
      have hl : pre.length < sizeLine := by simp at hz; omega
      have ih := dcL_memG emb c ky (s := s) (g := g) (ft := ft) (fk := fk) (fv := fv) (ρ0 := ρ0) hs xs (pre ++ [ky x]) hn hz fun y hy => H y (List.mem_cons_of_mem _ hy)
      obtain ⟨k1, k2⟩ := h3 hc
      have hd : (sameL s h && kOk t (e (ky x)) && decide ((mp e pre).length < sizeLine)) = true := by simp [hs, K.ok, hl]
      have d1 : dputK (mp e pre) (mp f pre) (e (ky x)) (f (ky x)) = mp e (pre ++ [ky x]) := by simp [dputK, kfind_no hx]
      have d2 : dputV (mp e pre) (mp f pre) (e (ky x)) (f (ky x)) = mp f (pre ++ [ky x]) := by simp [dputV, kfind_no hx]
      simp only [h1, h2, hc, k1, k2, hd, if_true, d1, d2, ih]
theorem dc2L_memG {α β : Type} (emb : α → PV) (emb1 : β → PV) (ys : α → List β) (c : α → β → Bool) (ky : α → β → κ) {s : Src} {g g1 : GF} {ft ft1 : SB} {fi1 : SI} {fk fv : SE} {vs1 : List Nat} {ρ0 : En} {h : PH} (hs : sameL s h = true) : ∀ (xs : List α) (pre : List κ), (pre ++ xs.flatMap fun x => ((ys x).filter (c x)).map (ky x)).Nodup → (pre ++ xs.flatMap fun x => ((ys x).filter (c x)).map (ky x)).length ≤ sizeLine →
    (∀ x ∈ xs, ∃ ρ1, g (emb x) ρ0 = some ρ1 ∧ ft ρ1 h = .ok true h ∧ fi1 ρ1 h = .ok ⟨mp emb1 (ys x), none⟩ h ∧ ∀ y ∈ ys x, ∃ ρ2, g1 (emb1 y) (wipeE ρ1 vs1) = some ρ2 ∧ ft1 ρ2 h = .ok (c x y) h ∧ (c x y = true → fk ρ2 h = .ok (e (ky x y)) h ∧ fv ρ2 h = .ok (f (ky x y)) h)) →
    dc2L t s g ft fi1 g1 ft1 fk fv vs1 ρ0 (mp emb xs) (mp e pre) (mp f pre) h = .ok (mp e (pre ++ xs.flatMap fun x => ((ys x).filter (c x)).map (ky x)), mp f (pre ++ xs.flatMap fun x => ((ys x).filter (c x)).map (ky x))) h
  | [], pre, _, _, _ => by simp [dc2L]
  | x :: xs, pre, hn, hz, H => by
    obtain ⟨ρ1, h1, h2, h3, h4⟩ := H x List.mem_cons_self
    rw [mp_cons (f := emb)]
    unfold dc2L
    rw [List.flatMap_cons, ← List.append_assoc] at hn hz ⊢
    have i1 := dcL_memG (t := t) (e := e) (f := f) emb1 (c x) (ky x) (s := ⟨mp emb1 (ys x), none⟩) (g := g1) (ft := ft1) (fk := fk) (fv := fv) (ρ0 := wipeE ρ1 vs1) (h := h) rfl (ys x) pre (List.nodup_append.mp hn).1 (by rw [List.length_append] at hz; omega) h4
    have ih := dc2L_memG emb emb1 ys c ky (s := s) (g := g) (g1 := g1) (ft := ft) (ft1 := ft1) (fi1 := fi1) (fk := fk) (fv := fv) (vs1 := vs1) (ρ0 := ρ0) hs xs (pre ++ ((ys x).filter (c x)).map (ky x)) hn hz fun y hy => H y (List.mem_cons_of_mem _ hy)
    have z : sameL ⟨mp emb1 (ys x), none⟩ h = true := rfl
    simp only [h1, h2, h3, z, if_true, i1, hs, ih]
end
@[simp] theorem dc2T_ev (t : Bool) (vs vs1 : List Nat) (fi fi1 : SI) (g g1 : GF) (ft ft1 : SB) (fk fv : SE) (ρ : En) (h : PH) : dc2T t vs vs1 fi g ft fi1 g1 ft1 fk fv ρ h = (fi ρ h).bind fun s h1 => if sameL s h1 = true then (dc2L t s g ft fi1 g1 ft1 fk fv vs1 (wipeE ρ vs) s.xs [] [] h1).bind fun p h2 => .ok (PV.loc h2.length) (h2 ++ [.dic t p.1 p.2]) else .bad := nrfl rfl
@[simp] theorem dcT_ev (t : Bool) (vs : List Nat) (fi : SI) (g : GF) (ft : SB) (fk fv : SE) (ρ : En) (h : PH) : dcT t vs fi g ft fk fv ρ h = (fi ρ h).bind fun s h1 => if sameL s h1 = true then (dcL t s g ft fk fv (wipeE ρ vs) s.xs [] [] h1).bind fun p h2 => .ok (PV.loc h2.length) (h2 ++ [.dic t p.1 p.2]) else .bad := nrfl rfl
@[simp] theorem mkKt_ev (g : SA) (ρ : En) (h : PH) : mkKt g ρ h = (g ρ h).bind fun xs h1 => if xs.length ≤ sizeLine then .ok (.kt xs) h1 else .bad := nrfl rfl
@[simp] theorem ikeys_ev (f : SE) (ρ : En) (h : PH) : ikeys f ρ h = (f ρ h).bind fun v h1 => match v with
  | .dic _ ks _ => .ok ⟨ks, none⟩ h1
  | _ => .bad := nrfl rfl
/-! ### support, margins -/
theorem check_profile_yes {ns : List Str} {rs : List Row} {h : PH} (e : m_is_profile [prf ns rs] h = .ok (.bl true) h) : m_check_profile [prf ns rs] h = .ok .non h := by
  unfold m_check_profile fb_check_profile
  simp [e]
/-- all pairs of two names -/
def prs (ns : List Str) : List (Str × Str) := ns.flatMap fun x => (ns.filter fun y => !decide (x = y)).map fun y => (x, y)
theorem mem_prs {ns : List Str} {p : Str × Str} : p ∈ prs ns ↔ p.1 ∈ ns ∧ p.2 ∈ ns ∧ p.1 ≠ p.2 := by
  obtain ⟨a, b⟩ := p
  simp only [prs, List.mem_flatMap, List.mem_map, List.mem_filter, Prod.mk.injEq]
  constructor
  · rintro ⟨x, hx, y, ⟨hy, hn⟩, rfl, rfl⟩
    exact ⟨hx, hy, by simpa using hn⟩
  · rintro ⟨h1, h2, h3⟩
    exact ⟨a, h1, b, ⟨h2, by simpa using h3⟩, rfl, rfl⟩
theorem prs_nd {ns : List Str} (hn : ns.Nodup) : (prs ns).Nodup := by
  unfold prs
  rw [List.nodup_iff_pairwise_ne, List.pairwise_flatMap]
  refine ⟨fun x _ => ?_, (List.nodup_iff_pairwise_ne.mp hn).imp fun {a b} hab p h1 q h2 e => ?_⟩
  · rw [List.pairwise_map]
    exact ((List.nodup_iff_pairwise_ne.mp hn).filter _).imp fun {a b} h e => h (Prod.mk.inj e).2
  · subst e
    obtain ⟨_, _, rfl⟩ := List.mem_map.mp h1
    obtain ⟨_, _, e⟩ := List.mem_map.mp h2
    exact hab (Prod.mk.inj e).1.symm
theorem prs_len {ns : List Str} (hl : ns.length ≤ 100) : (prs ns).length ≤ 10000 := by
  have : ∀ xs : List Str, (xs.flatMap fun x => (ns.filter fun y => !decide (x = y)).map fun y => (x, y)).length ≤ xs.length * 100 := by
    intro xs
    induction xs with
    | nil => simp
    | cons a l ih =>
      rw [List.flatMap_cons, List.length_append, List.length_map, List.length_cons]
      have := List.length_filter_le (fun y => !decide (a = y)) ns
      omega
  have := this ns
  unfold prs
  omega
def supV (rs : List Row) (p : Str × Str) : PV := .int (ahd rs p.1 p.2)
theorem support_ok (ns : List Str) (rs : List Row) (h : PH) (e : m_is_profile [prf ns rs] h = .ok (.bl true) h) (hn : ns.Nodup) (nl : ns.length ≤ 100) (hc : ∀ r ∈ rs, 0 ≤ r.1 ∧ r.1 ≤ 1000000) (hl : rs.length ≤ 1000) :
    m_support [prf ns rs] h = .ok (.loc h.length) (h ++ [Dk true kk (supV rs) (prs ns)]) := by
  have dc := dc2L_memG (t := true) (e := kk) (f := supV rs) PV.str PV.str (fun _ => ns) (fun x y => !decide (x = y)) (fun x y => (x, y)) (s := ⟨mp PV.str ns, none⟩) (g := gnm 1) (g1 := gnm 2) (ft := tyes) (ft1 := tst (bin2 neO (vr 1) (vr 2))) (fi1 := isrc (bin2 ixO (vr 0) (cst (.int 0)))) (fk := mkKt (acons (vr 1) (acons (vr 2) anil))) (fv := calld 3 m_ahead (acons (vr 0) (acons (vr 1) (acons (vr 2) anil)))) (vs1 := [2]) (ρ0 := [some (prf ns rs), none, none]) (h := h) rfl ns [] (show ([] ++ prs ns).Nodup from prs_nd hn) (show ([] ++ prs ns).length ≤ sizeLine from small (Nat.le_trans (prs_len nl) (by decide))) (by
    intro x hx
    refine ⟨_, rfl, rfl, by simp, fun y hy => ⟨_, rfl, by simp, fun _ => ⟨?_, ?_⟩⟩⟩
    · simp [sl2, kk]
    · simp [ahead_ok ns rs x y h hc hl, supV])
  unfold m_support fb_support
  have dc : dc2L true ⟨mp PV.str ns, none⟩ (gnm 1) tyes (isrc (bin2 ixO (vr 0) (cst (.int 0)))) (gnm 2) (tst (bin2 neO (vr 1) (vr 2))) (mkKt (acons (vr 1) (acons (vr 2) anil))) (calld 3 m_ahead (acons (vr 0) (acons (vr 1) (acons (vr 2) anil)))) [2] [some (prf ns rs), none, none] (mp PV.str ns) [] [] h = .ok (mp kk (prs ns), mp (supV rs) (prs ns)) h := dc
  simp [check_profile_yes e, dc]
  exact trim_new h (Dk true kk (supV rs) (prs ns))
theorem frz_dic {i n : Nat} {f : SS} {ρ : En} {h : PH} {t : Bool} {ks vs : List PV} (e1 : ρ[i]? = some (some (.loc n))) (e2 : h[n]? = some (.dic t ks vs)) : frz i f ρ h = f (ρ.set i (some (.dic t ks vs))) (h.set n .dead) := by
  unfold frz
  simp only [e1, frzK, e2]
theorem trim_move (t : Bool) (ks vs : List PV) (h e1 e2 : PH) (fl : Flat h) (c : clos h.length vs = true) : trimR .keep h.length (.ok (.loc (h.length + e1.length)) (h ++ e1 ++ PO.dic t ks vs :: e2)) = .ok (.loc h.length) (h ++ [.dic t ks vs]) := by
  have hc : cloH h.length (h ++ e1 ++ PO.dic t ks vs :: e2) = true := by
    unfold cloH
    rw [List.append_assoc, List.take_left' rfl, List.all_eq_true]
    exact fun o ho => cloO_mono o (Nat.zero_le _) (fl o ho)
  have hg : (h ++ e1 ++ PO.dic t ks vs :: e2)[h.length + e1.length]? = some (.dic t ks vs) := by
    rw [List.getElem?_append_right (by simp)]
    simp
  have ht : (h ++ e1 ++ PO.dic t ks vs :: e2).take h.length = h := by rw [List.append_assoc, List.take_left' rfl]
  have hv : clo h.length (.loc (h.length + e1.length)) = false := by simp [clo]
  have ho : cloO h.length (.dic t ks vs) = true := c
  simp only [trimR, trimV, hv, hg, hc, ho, ht]
  rfl
def marV (rs : List Row) (p : Str × Str) : PV := .int (ahd rs p.1 p.2 - ahd rs p.2 p.1)
theorem margins_ok (ns : List Str) (rs : List Row) (h : PH) (fl : Flat h) (e : m_is_profile [prf ns rs] h = .ok (.bl true) h) (hn : ns.Nodup) (nl : ns.length ≤ 100) (hc : ∀ r ∈ rs, 0 ≤ r.1 ∧ r.1 ≤ 1000000) (hl : rs.length ≤ 1000) :
    m_margins [prf ns rs] h = .ok (.loc h.length) (h ++ [Dk true kk (marV rs) (prs ns)]) := by
  have su := support_ok ns rs h e hn nl hc hl
  have dc := dcL_memG (t := true) (e := kk) (f := marV rs) kk (fun _ => true) (fun p => p) (s := ⟨mp kk (prs ns), none⟩) (g := gtup 2 (gcons (gnm 2) (gcons (gnm 3) gnil))) (ft := tyes) (fk := mkKt (acons (vr 2) (acons (vr 3) anil))) (fv := bin2 subO (bin2 ixJ (vr 1) (mkKt (acons (vr 2) (acons (vr 3) anil)))) (bin2 ixJ (vr 1) (mkKt (acons (vr 3) (acons (vr 2) anil))))) (ρ0 := [some (prf ns rs), some (.dic true (mp kk (prs ns)) (mp (supV rs) (prs ns))), none, none]) (h := h ++ [.dead]) rfl (prs ns) [] (by simpa using prs_nd hn) (by simp; exact small (Nat.le_trans (prs_len nl) (by decide))) (by
    rintro ⟨x, y⟩ hp
    have hq : (y, x) ∈ prs ns := by
      have := mem_prs.mp hp
      exact mem_prs.mpr ⟨this.2.1, this.1, fun z => this.2.2 z.symm⟩
    have g1 := ixJ_dic (t := true) (e := kk) (f := supV rs) (h := h ++ [.dead]) hp
    have g2 := ixJ_dic (t := true) (e := kk) (f := supV rs) (h := h ++ [.dead]) hq
    simp only [kk] at g1 g2
    refine ⟨_, rfl, rfl, fun _ => ⟨by simp [sl2, kk], ?_⟩⟩
    simp [sl2, g1, g2, supV, marV])
  have dc : dcL true ⟨mp kk (prs ns), none⟩ (gtup 2 (gcons (gnm 2) (gcons (gnm 3) gnil))) tyes (mkKt (acons (vr 2) (acons (vr 3) anil))) (bin2 subO (bin2 ixJ (vr 1) (mkKt (acons (vr 2) (acons (vr 3) anil)))) (bin2 ixJ (vr 1) (mkKt (acons (vr 3) (acons (vr 2) anil))))) [some (prf ns rs), some (.dic true (mp kk (prs ns)) (mp (supV rs) (prs ns))), none, none] (mp kk (prs ns)) [] [] (h ++ [.dead]) = .ok (mp kk (prs ns), mp (marV rs) (prs ns)) (h ++ [.dead]) := by
    have := dc
    simp at this
    exact this
  unfold m_margins fb_margins
  simp [su]
  have ge : (h ++ [Dk true kk (supV rs) (prs ns)])[h.length]? = some (.dic true (mp kk (prs ns)) (mp (supV rs) (prs ns))) := by rw [List.getElem?_append_right (Nat.le_refl _), Nat.sub_self]; rfl
  have se : (h ++ [Dk true kk (supV rs) (prs ns)]).set h.length .dead = h ++ [.dead] := by rw [List.set_append_right _ _ (Nat.le_refl _), Nat.sub_self]; rfl
  rw [frz_dic rfl ge, se]
  simp [dc]
  have cl : clos h.length (mp (marV rs) (prs ns)) = true := by
    show clos h.length (mp (fun p : Str × Str => PV.int (ahd rs p.1 p.2 - ahd rs p.2 p.1)) (prs ns)) = true
    simp
  have := trim_move true (mp kk (prs ns)) (mp (marV rs) (prs ns)) h [.dead] [] fl cl
  simp at this
  exact this
end J

/-! A profile is drawn. -/
namespace J
open PySem PySem.Spec PyProof.Rows L2
/-- what a drawn profile's rows are -/
structure Rws (ns : List Str) (rs : List Row) : Prop where
  cnt : ∀ r ∈ rs, 1 ≤ r.1 ∧ r.1 ≤ 900
  rk : ∀ r ∈ rs, Rk r.2 ns
  nd : (rs.map (·.2)).Nodup
theorem srcOf_loc' {h : PH} {n : Nat} {xs : List PV} (e : h[n]? = some (.lst xs)) : srcOf h (.loc n) = some ⟨xs, some n⟩ := srcOf_loc e
theorem profile_ok {d : PO} (hd : die d = true) (ties : Bool) (ns : List Str) (most : Nat) (h : PH) (hf : Flat h) (hn : ns.Nodup) (hz : ns.length < 900) (hm : most < 900) :
    ∃ rs d', Rws ns rs ∧ rs.length ≤ most ∧ die d' = true ∧ m__law_profile [.loc 0, T PV.str ns, .int (most : Nat), .bl ties] (d :: h) = .ok (prf ns rs) (d' :: h) := by
  obtain ⟨r, d1, hr, hd1, e1⟩ := roll1 hd (most + 1) (h ++ [.lst []]) (by omega) (by omega)
  have e1 : m__law_roll [.loc 0, .int ((most : Int) + 1)] (d :: (h ++ [.lst []])) = .ok (.int r) (d1 :: (h ++ [.lst []])) := by
    rw [← e1]; simp
  obtain ⟨ρ', h', lo, d2, rs, j5, j6, j7, hd2, hrs, hlen, rfl, rfl⟩ := for_inv (emb := nI) (s := ⟨mp nI (List.range r), none⟩) (g := gnm 5) (body := (seq (sset 6 (calld 3 m__law_ballot (acons (vr 0) (acons (vr 1) (acons (vr 3) anil)))))
  (seq (sset 7 (bin2 addO (cst (.int 1)) (calld 2 m__law_roll (acons (vr 0) (acons (cst (.int 5)) anil)))))
  (seq (sif (tst (bin2 eqO (calld 2 m__law_roll (acons (vr 0) (acons (cst (.int 6)) anil))) (cst (.int 0)))) (seq (sset 7 (bin2 addO (cst (.int 1)) (calld 2 m__law_roll (acons (vr 0) (acons (cst (.int 900)) anil))))) snil) snil)
  (seq (sif (tst (bin2 eqO (lcG [8, 9] (isrc (vr 4)) (gtup 2 (gcons (gnm 8) (gcons (gnm 9) gnil))) (tst (bin2 eqO (vr 9) (vr 6))) (vr 9) (fun xs h => .ok (.lst xs) h)) (mkLst anil))) (seq (sexp (met .list appendO (vr 4) (acons (mkTup (acons (vr 7) (acons (vr 6) anil))) anil))) snil) snil) snil)))))
    (fun pre ρ hh => ∃ d2 rs j5 j6 j7, die d2 = true ∧ Rws ns rs ∧ rs.length ≤ pre.length ∧ ρ = [some (.loc 0), some (T PV.str ns), some (.int (most : Nat)), some (.bl ties), some (.loc (h.length + 1)), j5, j6, j7, none, none] ∧ hh = d2 :: (h ++ [.lst (mp rowV rs)])) (List.range r)
    (ρ := [some (.loc 0), some (T PV.str ns), some (.int (most : Nat)), some (.bl ties), some (.loc (h.length + 1)), none, none, none, none, none]) (h := d1 :: (h ++ [.lst []])) ⟨d1, [], none, none, none, hd1, ⟨fun _ z => (by cases z), fun _ z => (by cases z), .nil⟩, Nat.le_refl _, rfl, rfl⟩ (by
    rintro pre k post ρ hh hx ⟨d2, rs, j5, j6, j7, hd2, hrs, hlen, rfl, rfl⟩
    have hpl : pre.length < 900 := by
      have := congrArg List.length hx
      simp at this
      omega
    have fl2 : Flat (h ++ [.lst (mp rowV rs)]) := by
      have : clos 0 (mp rowV rs) = true := by
        show clos 0 (mp (P2 PV.int (T tS)) rs) = true
        simp
      simp [hf, cloO, this]
    obtain ⟨b, d3, rk, _, hd3, e3⟩ := ballot_ok hd2 ties ns _ fl2 hn hz
    obtain ⟨c1, d4, hc1, hd4, e4⟩ := roll1 hd3 5 (h ++ [.lst (mp rowV rs)]) (by decide) (by decide)
    have e4 : m__law_roll [.loc 0, .int 5] (d3 :: (h ++ [.lst (mp rowV rs)])) = .ok (.int c1) (d4 :: (h ++ [.lst (mp rowV rs)])) := e4
    obtain ⟨c2, d5, hc2, hd5, e5⟩ := roll1 hd4 6 (h ++ [.lst (mp rowV rs)]) (by decide) (by decide)
    have e5 : m__law_roll [.loc 0, .int 6] (d4 :: (h ++ [.lst (mp rowV rs)])) = .ok (.int c2) (d5 :: (h ++ [.lst (mp rowV rs)])) := e5
    have fin : ∀ (d6 : PO) (ct : Int), die d6 = true → 1 ≤ ct → ct ≤ 900 → ∃ d7 rs' , die d7 = true ∧ Rws ns rs' ∧ rs'.length ≤ pre.length + 1 ∧
        (seq (sif (tst (bin2 eqO (lcG [8, 9] (isrc (vr 4)) (gtup 2 (gcons (gnm 8) (gcons (gnm 9) gnil))) (tst (bin2 eqO (vr 9) (vr 6))) (vr 9) (fun xs h => .ok (.lst xs) h)) (mkLst anil))) (seq (sexp (met .list appendO (vr 4) (acons (mkTup (acons (vr 7) (acons (vr 6) anil))) anil))) snil) snil) snil) [some (.loc 0), some (T PV.str ns), some (.int (most : Nat)), some (.bl ties), some (.loc (h.length + 1)), some (.int (k : Int)), some (T tS b), some (.int ct), none, none] (d6 :: (h ++ [.lst (mp rowV rs)])) =
        .nx [some (.loc 0), some (T PV.str ns), some (.int (most : Nat)), some (.bl ties), some (.loc (h.length + 1)), some (.int (k : Int)), some (T tS b), some (.int ct), none, none] (d7 :: (h ++ [.lst (mp rowV rs')])) := by
      intro d6 ct hd6 l1 l2
      have ge : (d6 :: (h ++ [.lst (mp rowV rs)]))[h.length + 1]? = some (.lst (mp rowV rs)) := by
        rw [List.getElem?_cons_succ, List.getElem?_append_right (Nat.le_refl _), Nat.sub_self]; rfl
      have so := srcOf_loc (h := d6 :: (h ++ [.lst (mp rowV rs)])) (n := h.length + 1) (xs := mp rowV rs) ge
      have sa := sameL_loc (h := d6 :: (h ++ [.lst (mp rowV rs)])) (n := h.length + 1) (xs := mp rowV rs) ge
      have cm := compL_mem rowV (fun r => decide (r.2 = b)) (fun r => T tS r.2) (s := ⟨mp rowV rs, some (h.length + 1)⟩) (g := gtup 2 (gcons (gnm 8) (gcons (gnm 9) gnil))) (ft := tst (bin2 eqO (vr 9) (vr 6))) (fe := vr 9) (ρ0 := [some (.loc 0), some (T PV.str ns), some (.int (most : Nat)), some (.bl ties), some (.loc (h.length + 1)), some (.int (k : Int)), some (T tS b), some (.int ct), none, none]) (h := d6 :: (h ++ [.lst (mp rowV rs)])) sa rs (by
        rintro ⟨n, bb⟩ hr
        refine ⟨_, rfl, by simp, fun _ => by simp⟩)
      have hdc : decide (List.map Prod.snd (List.filter (fun r => decide (r.snd = b)) rs) = []) = decide (b ∉ rs.map (·.2)) := by
        rw [decide_eq_decide, List.map_eq_nil_iff, List.filter_eq_nil_iff]
        simp only [decide_eq_true_eq, List.mem_map, not_exists, not_and]
      have is := isT_loc (h := d6 :: (h ++ [.lst (mp rowV rs)])) (n := h.length + 1) (xs := mp rowV rs) ge
      have hlz : rs.length < sizeLine := Nat.lt_of_lt_of_le (show rs.length < 901 by omega) (small (by decide))
      have ap := appendO_loc (h := d6 :: (h ++ [.lst (mp rowV rs)])) (n := h.length + 1) (xs := mp rowV rs) ge (.tup [.int ct, T tS b]) (by simpa using hlz)
      have se : (d6 :: (h ++ [.lst (mp rowV rs)])).set (h.length + 1) (.lst (mp rowV rs ++ [.tup [.int ct, T tS b]])) = d6 :: (h ++ [.lst (mp rowV (rs ++ [(ct, b)]))]) := by
        rw [List.set_cons_succ, List.set_append_right _ _ (Nat.le_refl _), Nat.sub_self]
        have : mp rowV rs ++ [.tup [.int ct, T tS b]] = mp rowV (rs ++ [(ct, b)]) := by simp [mp, rowV, P2]
        rw [this]; rfl
      rw [se] at ap
      by_cases hin : b ∈ rs.map (·.2)
      · refine ⟨d6, rs, hd6, hrs, by omega, ?_⟩
        have hdc : decide (List.map Prod.snd (List.filter (fun r => decide (r.snd = b)) rs) = []) = false := by rw [hdc]; simp only [hin, not_true_eq_false, decide_false]
        simp [so, sa, cm, -List.map_eq_nil_iff, hdc]
      · refine ⟨d6, rs ++ [(ct, b)], hd6, ⟨fun r hr => ?_, fun r hr => ?_, ?_⟩, by simp; omega, ?_⟩
        · rcases List.mem_append.mp hr with q | q
          · exact hrs.cnt r q
          · rw [List.mem_singleton.mp q]; exact ⟨l1, l2⟩
        · rcases List.mem_append.mp hr with q | q
          · exact hrs.rk r q
          · rw [List.mem_singleton.mp q]; exact rk
        · rw [List.map_append, List.nodup_append]
          refine ⟨hrs.nd, by simp, fun a ha c hc e => hin ?_⟩
          simp at hc
          rw [← hc, ← e]; exact ha
        · have hdc : decide (List.map Prod.snd (List.filter (fun r => decide (r.snd = b)) rs) = []) = true := by rw [hdc]; simp only [hin, not_false_eq_true, decide_true]
          simp [so, sa, cm, -List.map_eq_nil_iff, hdc, sl2, is, ap]
    by_cases h0 : c2 = 0
    · subst h0
      obtain ⟨c3, d6, hc3, hd6, e6⟩ := roll1 hd5 900 (h ++ [.lst (mp rowV rs)]) (by decide) (by decide)
      have e6 : m__law_roll [.loc 0, .int 900] (d5 :: (h ++ [.lst (mp rowV rs)])) = .ok (.int c3) (d6 :: (h ++ [.lst (mp rowV rs)])) := e6
      obtain ⟨d7, rs', hd7, hrs', hl', ef⟩ := fin d6 (1 + c3) hd6 (by omega) (by omega)
      refine ⟨_, _, _, rfl, .inl ?_, rfl, d7, rs', some (.int (k : Int)), some (T tS b), some (.int (1 + (c3 : Int))), hd7, hrs', by simpa using hl', rfl, rfl⟩
      rw [← ef]
      simp [e3, e4, e5, e6]
    · obtain ⟨d7, rs', hd7, hrs', hl', ef⟩ := fin d5 (1 + c1) hd5 (by omega) (by omega)
      refine ⟨_, _, _, rfl, .inl ?_, rfl, d7, rs', some (.int (k : Int)), some (T tS b), some (.int (1 + (c1 : Int))), hd7, hrs', by simpa using hl', rfl, rfl⟩
      rw [← ef]
      simp [e3, e4, e5, h0])
  have zr : r ≤ sizeLine := small (by omega)
  have ge : (d2 :: (h ++ [.lst (mp rowV rs)]))[h.length + 1]? = some (.lst (mp rowV rs)) := by
    rw [List.getElem?_cons_succ, List.getElem?_append_right (Nat.le_refl _), Nat.sub_self]; rfl
  have tu := tupleO_loc (h := d2 :: (h ++ [.lst (mp rowV rs)])) (n := h.length + 1) (xs := mp rowV rs) ge
  have hrl : (List.range r).length = r := List.length_range
  refine ⟨rs, d2, hrs, by omega, hd2, ?_⟩
  unfold m__law_profile fb__law_profile
  simp [e1, zr, lo, tu, sl2]
  have cl : clo (h.length + 1) (prf ns rs) = true := by
    have h1 : clo (h.length + 1) (T rowV rs) = true := by
      show clo (h.length + 1) (T (P2 PV.int (T tS)) rs) = true
      exact EmbF.hclo _ _
    simp [prf, clo, clos, h1]
  have fl : Flat (d2 :: h) := by
    obtain ⟨a, b, c, rfl⟩ := die_is hd2
    simp [hf]
  exact trim_cut .keep (prf ns rs) (d2 :: h) [.lst (mp rowV rs)] fl cl
end J

/-! The laws' own count of margins; who beats whom. -/
namespace J
open PySem PySem.Spec PyProof.Rows L2
theorem lvl_at (x : Str) : ∀ b : List (List Str), lvl b x < b.length → ∃ g, b[lvl b x]? = some g ∧ x ∈ g
  | g :: b, h => by
    unfold lvl at h ⊢
    by_cases hx : x ∈ g
    · rw [if_pos hx]; exact ⟨g, rfl, hx⟩
    · rw [if_neg hx] at h ⊢
      rw [Nat.add_comm, List.getElem?_cons_succ]
      exact lvl_at x b (by simp only [List.length_cons] at h; omega)
theorem lvl_before (x : Str) : ∀ (b : List (List Str)) (j : Nat), j < lvl b x → ∃ g, b[j]? = some g ∧ x ∉ g
  | [], j, h => by simp [lvl] at h
  | g :: b, j, h => by
    unfold lvl at h
    by_cases hx : x ∈ g
    · rw [if_pos hx] at h; omega
    · rw [if_neg hx] at h
      cases j with
      | zero => exact ⟨g, rfl, hx⟩
      | succ j => rw [List.getElem?_cons_succ]; exact lvl_before x b j (by omega)
def inAt (b : List (List Str)) (x : Str) (k : Nat) : Bool := match b[k]? with
  | some g => decide (x ∈ g)
  | none => false
theorem find_range (b : List (List Str)) (x : Str) : (List.range b.length).find? (inAt b x) = if lvl b x < b.length then some (lvl b x) else none := by
  split
  · rename_i h
    rw [List.find?_range_eq_some]
    obtain ⟨g, hg, hx⟩ := lvl_at x b h
    refine ⟨by simp [inAt, hg, hx], List.mem_range.mpr h, fun j hj => ?_⟩
    obtain ⟨g, hg, hx⟩ := lvl_before x b j hj
    simp [inAt, hg, hx]
  · rename_i h
    rw [List.find?_eq_none]
    intro k hk
    have hk := List.mem_range.mp hk
    obtain ⟨g, hg, hx⟩ := lvl_before x b k (by have := lvl_le x b; omega)
    simp [inAt, hg, hx]
theorem place_ok (b : List (List Str)) (x : Str) (h : PH) (hz : b.length ≤ sizeLine) : m__law_place [T tS b, .str x] h = .ok (.int (lvl b x : Nat)) h := by
  obtain ⟨j, lo⟩ := for_find (emb := nI) (s := ⟨mp nI (List.range b.length), none⟩) (g := gnm 2) (body := seq (sif (tst (bin2 inJ (vr 1) (bin2 ixO (vr 0) (vr 2)))) (seq (sret (vr 2)) snil) snil) snil) (h := h) (fun j : Option PV => [some (T tS b), some (.str x), j]) (inAt b x) (fun k => .int (k : Nat)) rfl (List.range b.length) none (by
    intro k hk j
    have hk := List.mem_range.mp hk
    refine ⟨_, some (.int (k : Nat)), rfl, ?_⟩
    have e := List.getElem?_eq_getElem hk
    by_cases hx : x ∈ b[k] <;> simp [atI_nat, e, inAt, hx])
  unfold m__law_place fb__law_place
  simp [hz, lo, find_range]
  have := lvl_le x b
  split
  · rename_i y q
    split at q
    · cases q; simp
    · cases q
  · rename_i q
    split at q
    · cases q
    · have : lvl b x = b.length := by omega
      simp [this]
def mrg (rs : List Row) (x y : Str) : Int := ahd rs x y - ahd rs y x
theorem ahd_cons (r : Row) (rs : List Row) (x y : Str) : ahd (r :: rs) x y = (if lvl r.2 x < lvl r.2 y then r.1 else 0) + ahd rs x y := by
  unfold ahd
  rw [List.filter_cons]
  by_cases h : lvl r.2 x < lvl r.2 y <;> simp [h]
theorem beats_ok (ns : List Str) (rs : List Row) (n : Nat) (x y : Str) (h : PH) (e : h[n]? = some (Dk true kk (marV rs) (prs ns))) (hx : x ∈ ns) (hy : y ∈ ns) : m_beats [.loc n, .str x, .str y] h = .ok (.bl (decide (0 < mrg rs x y))) h := by
  unfold m_beats fb_beats
  by_cases q : x = y
  · subst q
    simp [mrg]
  · have g := ixJ_Dk (t := true) (e := kk) (f := marV rs) e (x := (x, y)) (mem_prs.mpr ⟨hx, hy, q⟩)
    simp only [kk] at g
    simp [q, sl2, g, marV, mrg]
theorem lmargin_ok (ns : List Str) (rs : List Row) (x y : Str) (h : PH) (hz : ∀ r ∈ rs, r.2.length ≤ sizeLine) : m__law_margin [prf ns rs, .str x, .str y] h = .ok (.int (mrg rs x y)) h := by
  obtain ⟨ρ', h', lo, j4, j5, j6, j7, rfl, rfl⟩ := for_inv (emb := rowV) (s := ⟨mp rowV rs, none⟩) (g := gtup 2 (gcons (gnm 4) (gcons (gnm 5) gnil))) (body := (seq (spar 6 7 (acons (calld 2 m__law_place (acons (vr 5) (acons (vr 1) anil))) (acons (calld 2 m__law_place (acons (vr 5) (acons (vr 2) anil))) anil)))
  (seq (sset 3 (bin2 addO (vr 3) (bin2 mulO (vr 4) (bin2 subO (cal intO1 (acons (bin2 ltJ (vr 6) (vr 7)) anil)) (cal intO1 (acons (bin2 ltJ (vr 7) (vr 6)) anil)))))) snil)))
    (fun pre ρ hh => ∃ j4 j5 j6 j7, ρ = [some (prf ns rs), some (.str x), some (.str y), some (.int (mrg pre x y)), j4, j5, j6, j7] ∧ hh = h) rs (ρ := [some (prf ns rs), some (.str x), some (.str y), some (.int 0), none, none, none, none]) (h := h) ⟨none, none, none, none, rfl, rfl⟩ (by
    rintro pre ⟨n, b⟩ post ρ hh hx ⟨j4, j5, j6, j7, rfl, rfl⟩
    have hb : b.length ≤ sizeLine := hz (n, b) (by rw [hx]; simp)
    refine ⟨_, _, _, rfl, .inl ?_, rfl, some (.int n), some (T tS b), some (.int (lvl b x : Nat)), some (.int (lvl b y : Nat)), rfl, rfl⟩
    have e : mrg (pre ++ [(n, b)]) x y = mrg pre x y + n * ((if lvl b x < lvl b y then (1 : Int) else 0) - (if lvl b y < lvl b x then (1 : Int) else 0)) := by
      have a1 : ∀ u v, ahd (pre ++ [(n, b)]) u v = ahd pre u v + (if lvl b u < lvl b v then n else 0) := fun u v => by
        unfold ahd
        rw [List.filter_append, List.map_append, List.sum_append]
        congr 1
        by_cases q : lvl b u < lvl b v <;> simp [List.filter_cons, q]
      unfold mrg
      rw [a1, a1]
      by_cases q1 : lvl b x < lvl b y
      · have q2 : ¬ lvl b y < lvl b x := by omega
        simp [q1, q2]; omega
      · by_cases q2 : lvl b y < lvl b x
        · simp [q1, q2]; omega
        · simp [q1, q2]
    rw [e]
    by_cases q1 : lvl b x < lvl b y
    · have q2 : ¬ lvl b y < lvl b x := by omega
      simp [place_ok b _ _ hb, q1, q2, intO1]
    · by_cases q2 : lvl b y < lvl b x
      · simp [place_ok b _ _ hb, q1, q2, intO1]
      · simp [place_ok b _ _ hb, q1, q2, intO1])
  unfold m__law_margin fb__law_margin
  simp [lo]
end J

set_option maxHeartbeats 1000000
/-! J: zip, reversed, range with a step as sources; extend, pop. -/
namespace J
open PySem PySem.Spec PyProof.Rows L2
section
variable {G : Gc} {X : Cx} {W : WX} {tg : Expr}
/-! ### zip -/
def zipL : List PV → List PV → List PV
  | x :: xs, y :: ys => .kt [x, y] :: zipL xs ys
  | _, _ => []
theorem zipL_len : ∀ (xs ys : List PV), (zipL xs ys).length = min xs.length ys.length
  | [], ys => by simp [zipL]
  | x :: xs, [] => by simp [zipL]
  | x :: xs, y :: ys => by simp only [zipL, List.length_cons]; rw [zipL_len xs ys]; omega
theorem zipL_get : ∀ (xs ys : List PV) (i : Nat) (v : PV), (zipL xs ys)[i]? = some v → ∃ x y, xs[i]? = some x ∧ ys[i]? = some y ∧ v = .kt [x, y]
  | [], ys, i, v, h => by simp [zipL] at h
  | x :: xs, [], i, v, h => by simp [zipL] at h
  | x :: xs, y :: ys, 0, v, h => by
    simp [zipL] at h
    exact ⟨x, y, rfl, rfl, h.symm⟩
  | x :: xs, y :: ys, i + 1, v, h => by
    simp only [zipL, List.getElem?_cons_succ] at h ⊢
    exact zipL_get xs ys i v h
def zipO (x y : PV) : Option Src := match x, y with
  | .lst xs, .lst ys => some ⟨zipL xs ys, none⟩
  | .tup xs, .tup ys => some ⟨zipL xs ys, none⟩
  | _, _ => none
def twoS (vs : List PV) : Option (PV × PV) := match vs with
  | [x, y] => some (x, y)
  | _ => none
theorem twoS_eq {vs : List PV} {p : PV × PV} (h : twoS vs = some p) : vs = [p.1, p.2] := by
  unfold twoS at h
  split at h
  · cases h; rfl
  · cases h
def izip (g : SA) : SI := fun ρ h => (g ρ h).bind fun vs h1 => R.of h1 ((twoS vs).bind fun p => zipO p.1 p.2)
theorem ji_zip {e e2 : Expr} {g : SA} {p pos tpos : Pos} {elts : List Expr} {kk : Nat} (hK : G.K = X.K) (hm : X.mg "zip" = none) (ha : JAs G X W [e, e2] g) (hg : Gl X "zip" := by rfl)
    (hs : starEach [e, e2] X.env = (false, eval e X.env) :: starEach [e2] X.env := by rfl) (hpl : (backTo pos (starEach [e2] X.env)).any (·.1) = false := by rfl) :
    JI G X W (.Tuple elts kk tpos) (.Call (.Name "zip" p) [e, e2] [] pos) (izip g) := by
  refine pi_imp (RZ.pi_zipA hg hm ha hs hpl) fun σ H Q t' => ?_
  refine (TF.bind (Rp := fun M H (u : List V) (v : List PV) => Reps G M H u v) t').mono fun us H1 ⟨M1, ρ, h1, vs, r1, e1, p, o⟩ => ?_
  cases hv : twoS vs with
  | none => rw [hv] at o; exact False.elim o
  | some v =>
    rw [hv] at o
    obtain ⟨v1, v2⟩ := v
    have := twoS_eq hv
    subst this
    obtain ⟨u1, u2, rfl, p1, p2⟩ := reps2 p
    rw [← hK]
    simp only [Option.bind_some] at o
    unfold zipO at o
    split at o
    · rename_i xs ys
      obtain ⟨a, us, rfl, s, z, rs⟩ := p1
      obtain ⟨b, ws, rfl, s', z', rs'⟩ := p2
      refine ⟨a, b, us, ws, rfl, .inl ⟨s.sq, s'.sq, ?_⟩⟩
      have hl1 := rs.length
      have hl2 := rs'.length
      refine o _ M1 H1 (Ext.refl _ _) r1 ⟨by show (zipL xs ys).length ≤ _; rw [zipL_len]; omega, fun M2 H2 h2 x r l => ?_⟩
      have s2 : SqL G.K H2 a us := (x.sqL s).sq
      have s2' : SqL G.K H2 b ws := (x.sqL s').sq
      have hl : (zipL xs ys).length = min us.length ws.length := by rw [zipL_len]; omega
      refine ⟨fun i hi => ?_, ⟨us, ws, s2, s2', ?_⟩⟩
      · have hi : i < (zipL xs ys).length := hi
        have h1 : i < us.length := by omega
        have h2 : i < ws.length := by omega
        refine ⟨⟨us, ws, us[i], ws[i], s2, s2', List.getElem?_eq_getElem h1, List.getElem?_eq_getElem h2⟩, fun w H3 y => ?_⟩
        obtain ⟨T, x', y', rfl, hT, rfl, hy, hy'⟩ := y
        obtain ⟨b1, hb1, hb2⟩ := (Reps.tr x _ _ rs).get' (hy us s2)
        obtain ⟨c1, hc1, hc2⟩ := (Reps.tr x _ _ rs').get' (hy' ws s2')
        obtain ⟨q1, q2, q3⟩ := pair_rep r hT hb2 hc2
        refine ⟨q1, q2, fun v hv => ?_⟩
        obtain ⟨x0, y0, g1, g2, rfl⟩ := zipL_get xs ys i v hv
        rw [hb1] at g1; cases g1
        rw [hc1] at g2; cases g2
        exact q3
      · show us.length ≤ (zipL xs ys).length ∨ ws.length ≤ (zipL xs ys).length
        omega
    · rename_i xs ys
      obtain ⟨a, us, rfl, s, z, rs⟩ := p1
      obtain ⟨b, ws, rfl, s', z', rs'⟩ := p2
      refine ⟨a, b, us, ws, rfl, .inr ⟨s.sq, s'.sq, ?_⟩⟩
      have hl1 := rs.length
      have hl2 := rs'.length
      refine o _ M1 H1 (Ext.refl _ _) r1 ⟨by show (zipL xs ys).length ≤ _; rw [zipL_len]; omega, fun M2 H2 h2 x r l => ?_⟩
      have s2 : SqT G.K H2 a us := (x.sqT s).sq
      have s2' : SqT G.K H2 b ws := (x.sqT s').sq
      have hl : (zipL xs ys).length = min us.length ws.length := by rw [zipL_len]; omega
      refine ⟨fun i hi => ?_, ⟨us, ws, s2, s2', ?_⟩⟩
      · have hi : i < (zipL xs ys).length := hi
        have h1 : i < us.length := by omega
        have h2 : i < ws.length := by omega
        refine ⟨⟨us, ws, us[i], ws[i], s2, s2', List.getElem?_eq_getElem h1, List.getElem?_eq_getElem h2⟩, fun w H3 y => ?_⟩
        obtain ⟨T, x', y', rfl, hT, rfl, hy, hy'⟩ := y
        obtain ⟨b1, hb1, hb2⟩ := (Reps.tr x _ _ rs).get' (hy us s2)
        obtain ⟨c1, hc1, hc2⟩ := (Reps.tr x _ _ rs').get' (hy' ws s2')
        obtain ⟨q1, q2, q3⟩ := pair_rep r hT hb2 hc2
        refine ⟨q1, q2, fun v hv => ?_⟩
        obtain ⟨x0, y0, g1, g2, rfl⟩ := zipL_get xs ys i v hv
        rw [hb1] at g1; cases g1
        rw [hc1] at g2; cases g2
        exact q3
      · show us.length ≤ (zipL xs ys).length ∨ ws.length ≤ (zipL xs ys).length
        omega
    · exact False.elim o
/-! ### reversed -/
def revO (x : PV) : Option Src := match x with
  | .lst xs => some ⟨xs.reverse, none⟩
  | .tup xs => some ⟨xs.reverse, none⟩
  | _ => none
def irev (f : SE) : SI := fun ρ h => (f ρ h).bind fun v h1 => R.of h1 (revO v)
theorem ji_rev {e : Expr} {f : SE} {p pos : Pos} (hK : G.K = X.K) (hm : X.mg "reversed" = none) (he : JE G X W e f) (hg : Gl X "reversed" := by rfl) (hs : starEach [e] X.env = (false, eval e X.env) :: starEach [] X.env := by rfl) :
    JI G X W tg (.Call (.Name "reversed" p) [e] [] pos) (irev f) := by
  refine pi_imp (RT.pi_revA hg hm he hs) fun σ H Q t' => ?_
  refine (TF.bind (Rp := fun M H (u : V) (v : PV) => Rep G M H u v) t').mono fun u H1 ⟨M1, ρ, h1, v, r1, e1, p, o⟩ => ?_
  rw [← hK]
  unfold revO at o
  split at o
  · rename_i xs
    obtain ⟨a, us, rfl, s, z, rs⟩ := p
    refine ⟨a, us, rfl, .inl ⟨s.sq, ?_⟩⟩
    have hl := rs.length
    refine o _ M1 H1 (Ext.refl _ _) r1 ⟨by show xs.reverse.length ≤ _; rw [List.length_reverse]; omega, fun M2 H2 h2 x r l => ?_⟩
    have s2 : SqL G.K H2 a us := (x.sqL s).sq
    refine ⟨fun i hi => ?_, by show us.length ≤ xs.reverse.length; rw [List.length_reverse]; omega⟩
    have hi : i < xs.reverse.length := hi
    rw [List.length_reverse] at hi
    refine ⟨⟨by show i < us.length; omega, us, us[us.length - 1 - i]'(by omega), s2, List.getElem?_eq_getElem (by omega)⟩, fun w H3 y => ?_⟩
    obtain ⟨rfl, hy⟩ := y
    obtain ⟨b1, hb1, hb2⟩ := (Reps.tr x _ _ rs).get' (hy us s2)
    refine ⟨Ext.refl _ _, r, fun v hv => ?_⟩
    have hv : xs.reverse[i]? = some v := hv
    rw [List.getElem?_reverse (by omega), ← hl, hb1] at hv
    cases hv
    exact hb2
  · rename_i xs
    obtain ⟨a, us, rfl, s, z, rs⟩ := p
    refine ⟨a, us, rfl, .inr ⟨s.sq, ?_⟩⟩
    have hl := rs.length
    refine o _ M1 H1 (Ext.refl _ _) r1 ⟨by show xs.reverse.length ≤ _; rw [List.length_reverse]; omega, fun M2 H2 h2 x r l => ?_⟩
    have s2 : SqT G.K H2 a us := (x.sqT s).sq
    refine ⟨fun i hi => ?_, by show us.length ≤ xs.reverse.length; rw [List.length_reverse]; omega⟩
    have hi : i < xs.reverse.length := hi
    rw [List.length_reverse] at hi
    refine ⟨⟨by show i < us.length; omega, us, us[us.length - 1 - i]'(by omega), s2, List.getElem?_eq_getElem (by omega)⟩, fun w H3 y => ?_⟩
    obtain ⟨rfl, hy⟩ := y
    obtain ⟨b1, hb1, hb2⟩ := (Reps.tr x _ _ rs).get' (hy us s2)
    refine ⟨Ext.refl _ _, r, fun v hv => ?_⟩
    have hv : xs.reverse[i]? = some v := hv
    rw [List.getElem?_reverse (by omega), ← hl, hb1] at hv
    cases hv
    exact hb2
  · exact False.elim o
/-! ### extend, pop -/
def rExtA (K : PySem.W.Frag) : V → List V → Hp → VK → Prop := fun x vs H Q => ∃ l b xs zs, x = .ref l ∧ vs = [.ref b] ∧ H l = some (.lst xs) ∧ SqL K H b zs ∧ xs.length + zs.length ≤ sizeLine ∧ Q .non (upd H l (.lst (xs ++ zs)))
theorem extend_any (l : Addr) (items : Array Value) (n : Nat) (b : Addr) (items2 : Array Value) (n2 : Nat) (sl : Array (Option Value)) (hc0 : ¬(!items.isEmpty && Builtin.List.listTooLong (items.size + items2.size)) = true) (hc1 : items.size ≤ sizeLine) (hs2 : items.size + items2.size ≤ sizeLine + 1) :
    Meets (Builtin.«list.extend» ⟨[.ref l, .ref b], []⟩) (fun _ R s => s.heap.get? l = some { cls := .type "list", dict := none, data := .seq items n, slots := #[] } ∧ s.heap.get? b = some { cls := .type "list", dict := none, data := .seq items2 n2, slots := sl } ∧ R (.ok (.ret Value.none)) { s with heap := s.heap.update l (Obj.mapSeq fun x => x ++ items2), toks := s.toks }) :=
  .of_wp fun prog w A R s h => by
    obtain ⟨hp, g, d, tk, os⟩ := s; obtain ⟨hl, hb, h⟩ := h; have f1 := AutoSeq1.idx_int; have f2 := AutoSeq1.sub_tuple_tuple; have f3 := AutoSeq1.sub_list_list; have f4 := AutoSeq1.sub_tuple_list; have f5 := AutoSeq1.sub_list_tuple;
    have hz' : (items ++ items2).size ≤ sizeLine + 1 := by rw [Array.size_append]; exact hs2
    wp_walk using (wpAny_updateSeq hl rfl (hz := hc1) (_hz' := hz')), AutoSeq1.wpAny_loadPart' hl, AutoSeq1.wpAny_loadPart' hb; exact ⟨_, rfl, h⟩
theorem mt_extendA : MtR X "list.extend" (rExtA X.K) := by
  intro pins s σ H x vs v us Q I rx rv h
  obtain ⟨l, b, xs, zs, rfl, rfl, hH, hB, hz, q⟩ := h
  cases rx
  obtain ⟨u, rfl, ru⟩ := rv.one
  cases ru
  obtain ⟨z, its, n, r, hl, e⟩ := I.lstM hH
  obtain ⟨its2, r2, pl, z2⟩ := I.list hB
  obtain ⟨⟨oc, od, oda, osl⟩, n2, e2, q1, q2, q3⟩ := pl
  have q1 : oc = _ := q1
  have q2 : od = _ := q2
  have q3 : oda = _ := q3
  subst q1
  subst q2
  subst q3
  have hl2 := r2.length
  have hsz : its.toArray.size + its2.toArray.size ≤ sizeLine := by rw [List.size_toArray, List.size_toArray]; omega
  have hlong : ¬ (!its.toArray.isEmpty && Builtin.List.listTooLong (its.toArray.size + its2.toArray.size)) = true := by
    rw [notLongL hsz, Bool.and_false]
    exact Bool.false_ne_true
  refine call_meets F.slot_list_extend ⟨_, e, rfl⟩ F.entry_list_extend (F.args_list_extend_2 _ _)
    (extend_any l its.toArray n b its2.toArray n2 osl hlong (by rw [List.size_toArray]; omega) (by omega)) ⟨e, e2, ?_⟩
  refine ⟨.non, _, I.lset (its' := its ++ its2) hH e (by simp) (r.append r2) ?_, rfl, q⟩
  rw [List.length_append]
  omega
def extendO (x : PV) (xs : List PV) (h : PH) : Option (PV × PH) := match x, xs with
  | .loc n, [y] => match h[n]?, rd h y with
    | some (.lst ys), .lst zs => if ys.length + zs.length ≤ sizeLine then some (.non, h.set n (.lst (ys ++ zs))) else none
    | _, _ => none
  | _, _ => none
theorem mj_extend : MtJ G (rExtA G.K) extendO := by
  intro M h H u us x xs z h' Q r p q e k
  unfold extendO at e
  split at e
  · rename_i n y
    obtain ⟨v, rfl, pv⟩ := reps1 q
    split at e
    · rename_i ys zs hn hy
      split at e
      · rename_i hz
        cases e
        obtain ⟨a, vs, h1, h2, z, rs⟩ := r.lstAt hn
        obtain ⟨b, rfl, e2⟩ := p
        rw [h1] at e2; cases e2
        obtain ⟨c, ws, rfl, sc, zc, rc⟩ := Rep.list r pv hy
        have hl := rs.length
        have hl2 := rc.length
        obtain ⟨xx, rr⟩ := r.setL (vs := vs ++ ws) (ys := ys ++ zs) hn h1 h2 (by simp; omega) (rs.append rc)
        exact ⟨_, c, vs, ws, rfl, rfl, h2, sc, by omega, k _ _ xx rr rfl⟩
      · cases e
    · cases e
  · cases e
def popO (x : PV) (xs : List PV) (h : PH) : Option (PV × PH) := match x, xs with
  | .loc n, [] => match h[n]? with
    | some (.lst ys) => (ys[ys.length - 1]?).map fun y => (y, h.set n (.lst ys.dropLast))
    | _ => none
  | _, _ => none
theorem Reps.dropLast {M : Gh} {H : Hp} {vs : List PV} {us : List V} (h : Reps G M H us vs) : Reps G M H us.dropLast vs.dropLast := by
  rw [List.dropLast_eq_take, List.dropLast_eq_take, h.length]
  exact h.take _
theorem mj_pop : MtJ G rPop popO := by
  intro M h H u us x xs z h' Q r p q e k
  unfold popO at e
  split at e
  · rename_i n
    split at e
    · rename_i ys hn
      obtain ⟨a, vs, h1, h2, z, rs⟩ := r.lstAt hn
      obtain ⟨b, rfl, e2⟩ := p
      rw [h1] at e2; cases e2
      cases us with
      | cons _ _ => exact False.elim q
      | nil =>
        cases hy : ys[ys.length - 1]? with
        | none => rw [hy] at e; cases e
        | some y =>
          rw [hy] at e
          cases e
          have hl := rs.length
          obtain ⟨w, hw, pw⟩ := rs.get hy
          obtain ⟨xx, rr⟩ := r.setL (vs := vs.dropLast) (ys := ys.dropLast) hn h1 h2 (by simp; omega) rs.dropLast
          exact ⟨_, vs, w, rfl, rfl, h2, by rw [hl]; exact hw, k _ _ xx rr (Rep.ext xx _ _ pw)⟩
    · cases e
  · cases e
def popAtO (x : PV) (xs : List PV) (h : PH) : Option (PV × PH) := match x, xs with
  | .loc n, [.int i] => match h[n]? with
    | some (.lst ys) => if 0 ≤ i ∧ i < 2 ^ 62 then (ys[i.toNat]?).map fun y => (y, h.set n (.lst (ys.eraseIdx i.toNat))) else none
    | _ => none
  | _, _ => none
theorem Reps.eraseIdx {M : Gh} {H : Hp} : ∀ {vs : List PV} {us : List V} (n : Nat), Reps G M H us vs → Reps G M H (us.eraseIdx n) (vs.eraseIdx n)
  | [], [], _, _ => trivial
  | [], _ :: _, _, h => h.elim
  | _ :: _, [], _, h => h.elim
  | v :: vs, u :: us, 0, h => h.2
  | v :: vs, u :: us, n + 1, h => ⟨h.1, Reps.eraseIdx n h.2⟩
theorem mj_popAt : MtJ G rPopAt popAtO := by
  intro M h H u us x xs z h' Q r p q e k
  unfold popAtO at e
  split at e
  · rename_i n i
    split at e
    · rename_i ys hn
      split at e
      · rename_i hi
        obtain ⟨a, vs, h1, h2, z, rs⟩ := r.lstAt hn
        obtain ⟨b, rfl, e2⟩ := p
        rw [h1] at e2; cases e2
        obtain ⟨v, rfl, pv⟩ := reps1 q
        obtain rfl : v = .int i := pv
        cases hy : ys[i.toNat]? with
        | none => rw [hy] at e; cases e
        | some y =>
          rw [hy] at e
          cases e
          have hl := rs.length
          have hlt := (List.getElem?_eq_some_iff.mp hy).1
          obtain ⟨w, hw, pw⟩ := rs.get hy
          obtain ⟨xx, rr⟩ := r.setL (vs := vs.eraseIdx i.toNat) (ys := ys.eraseIdx i.toNat) hn h1 h2 (by rw [List.length_eraseIdx]; split <;> omega) (rs.eraseIdx _)
          exact ⟨_, vs, i, i.toNat, w, rfl, rfl, h2, by omega, by omega, seqIndex_of hi.1 (by omega), hw, k _ _ xx rr (Rep.ext xx _ _ pw)⟩
      · cases e
    · cases e
  · cases e
end
end J

set_option maxHeartbeats 1000000
/-! J: tuples, some of them empty, can be sorted, too. -/
namespace PySem.W
open PySem PySem.Calls PyProof.Rows PySem.SeqAt
section
variable {prog : Program} {w : World} {A : Around} {E : Value → Shared → Prop} {s : Shared}
theorem oneLt_tup {xs ys : List PyData} {a b : Value} {as bs : List Addr} {Q : Bool → Shared → Prop} (ra : Reads s.heap a (.tuple xs) as) (rb : Reads s.heap b (.tuple ys) bs) (hal : alikeAll xs ys = true) (hu : A.units + min (PyData.tuple xs).depth (PyData.tuple ys).depth < cLine)
    (hq : Q (dataLt (.tuple xs) (.tuple ys)) s) : wpAny (model prog w) A (oneLt' true a b) Q E s := by
  cases ra with
  | @tuple l o vs n _ as₁ h1 h2 h3 h4 =>
    cases rb with
    | @tuple l' o' vs' n' _ bs₁ k1 k2 k3 k4 =>
      have n1 : vs.size = xs.length := by simpa using ReadsAll.length _ _ _ h4
      have n2 : vs'.size = ys.length := by simpa using ReadsAll.length _ _ _ k4
      rw [dataLt_tuple, ← firstLt_toks xs ys hal, ← n1, ← n2] at hq
      obtain ⟨cls, dd, data, sl⟩ := o
      obtain ⟨cls2, dd2, data2, sl2⟩ := o'
      simp only at h2 h3 k2 k3
      subst h2 h3 k2 k3
      rw [oneLt'_eq]
      simp only [if_true]
      refine wpAny_bind (wpAny_cRoomFor (room_here hu) ?_)
      refine wpAny_bind (wpAny_callSpecialIfBound?_slot (T := "tuple") ⟨_, h1, rfl⟩ F.slot_tuple_lt ?_)
      refine call_meets F.slot_tuple_lt ⟨_, h1, rfl⟩ F.entry_tuple_lt (F.args_tuple_lt_2 _ _) (tuple_ltAt l l' vs vs' n n' dd dd2 sl sl2 (pairEq xs ys) (fun j => dataLt (xs.getD j .none) (ys.getD j .none))) ⟨h1, k1, fun j j1 j2 => ?_, fun j j1 j2 hj => ?_, ?_⟩
      · have := eqAt_alikeAll xs ys A.in1 s vs.toList vs'.toList _ _ h4 k4 hal (room_in hu) j (by simpa using j1) (by simpa using j2)
        simpa using this
      · have := rcLt_alikeAll xs ys A.in1 s vs.toList vs'.toList _ _ h4 k4 hal (room_in hu) j (by simpa using j1) (by simpa using j2) hj
        simpa using this
      · exact wpAny_truthy_bool hq
/-- what the first items are: none where the tuple is empty -/
def firstIs : Option Value → PyData → Prop
  | none, d => d = .tuple []
  | some _, d => ∃ x r, d = .tuple (x :: r)
theorem firsts_of : ∀ {vs : List Value} {ds : List PyData} {Q : List (Option Value) → Shared → Prop}, EachIs (fun v d => ∃ as, Reads s.heap v d as) vs ds → (∀ d ∈ ds, ∃ xs, d = .tuple xs) → (∀ fs, EachIs firstIs fs ds → Q fs s) → wpAny (model prog w) A (vs.mapM firstOfTuple') Q E s
  | _, _, Q, .nil, _, h => by rw [List.mapM_nil]; exact wpAny_pure (h [] .nil)
  | _, _, Q, .cons (a := v) (b := d) (as := vs) ⟨as, r⟩ t, ht, h => by
    rw [List.mapM_cons]
    obtain ⟨xs, rfl⟩ := ht d List.mem_cons_self
    refine wpAny_bind ?_
    rw [kas_first_eq]
    refine wpAny_bind ((looks_reads r).here ?_)
    rw [if_neg (by simp [dataType])]
    cases r with
    | @tuple l o xv n _ _ h1 h2 h3 h4 =>
      refine wpAny_bind (listItems_at h1 h3 ?_)
      refine wpAny_pure (wpAny_bind (firsts_of t (fun d hd => ht d (List.mem_cons_of_mem _ hd)) fun fs hfs => wpAny_pure (h _ (.cons ?_ hfs))))
      cases hx : xv.toList with
      | nil =>
        rw [hx] at h4
        cases h4
        have : xv[0]? = none := by rw [← Array.getElem?_toList, hx]; rfl
        rw [this]; rfl
      | cons f fr =>
        rw [hx] at h4
        cases h4 with
        | cons r1 r2 =>
          have : xv[0]? = some f := by rw [← Array.getElem?_toList, hx]; rfl
          rw [this]; exact ⟨_, _, rfl⟩
theorem SortsAt.tups {vs : List Value} {ds : List PyData} (e : EachIs (fun v d => ∃ as, Reads s.heap v d as) vs ds) (hal : AllAlike ds) (ht : ∀ d ∈ ds, ∃ xs, d = .tuple xs) (hm : .tuple [] ∈ ds) (hu : ∀ d, d ∈ ds → A.units + d.depth < cLine) : SortsAt prog w A s (dataKind s.heap ds) vs := by
  have room : ∀ {d d' : PyData}, d ∈ ds → A.units + min d.depth d'.depth < cLine := fun {d d'} hd => Nat.lt_of_le_of_lt (Nat.add_le_add_left (Nat.min_le_left _ _) _) (hu d hd)
  refine ⟨fun v hv => ?_, ?_⟩
  · obtain ⟨d, hd, as, r⟩ := e.left v hv
    exact ⟨_, dataKind_some hal hd r⟩
  cases ds with
  | nil => cases hm
  | cons d0 ds0 =>
    have notall : ∀ fs, EachIs firstIs fs (d0 :: ds0) → (fs.toArray.all fun x => x.isSome) = false := fun fs hfs => by
      cases q : (fs.toArray.all fun x => x.isSome) with
      | false => rfl
      | true =>
        exfalso
        have key : ∀ {fs : List (Option Value)} {ds : List PyData}, EachIs firstIs fs ds → .tuple [] ∈ ds → (∀ x ∈ fs, x.isSome = true) → False := by
          intro fs ds h
          induction h with
          | nil => intro h _; cases h
          | @cons a b as bs h t ih =>
            intro hm hs
            rcases List.mem_cons.mp hm with z | z
            · subst z
              have := hs a List.mem_cons_self
              cases a with
              | none => cases this
              | some v => obtain ⟨x, r, z⟩ := h; cases z
            · exact ih z fun x hx => hs x (List.mem_cons_of_mem _ hx)
        exact key hfs hm (by simpa using q)
    obtain ⟨x0, rfl⟩ := ht d0 List.mem_cons_self
    cases x0 with
    | nil =>
      refine ⟨oneType', fun E x y a b Q ha hb hq => ?_, fun h2 E Q hq => ?_⟩
      · obtain ⟨d, as, hd, ra, rfl⟩ := dataKind_inv ha
        obtain ⟨d', as', hd', rb, rfl⟩ := dataKind_inv hb
        rw [keyLt'_oneType]
        have hdd := hal d hd d' hd'
        have hr := room (d' := d') hd
        obtain ⟨xs, rfl⟩ := ht d hd
        obtain ⟨ys, rfl⟩ := ht d' hd'
        exact oneLt_tup ra rb (by simpa [alike] using hdd) hr hq
      · rw [keyKind'_eq, List.mapM_toArray, map_eq_pure_bind]
        refine wpAny_bind (wpAny_bind (firsts_of e ht fun fs hfs => wpAny_pure ?_))
        rw [if_neg (by rw [notall fs hfs]; exact Bool.false_ne_true)]
        have h0 : (fs.toArray[0]?.bind id).isSome = false := by
          cases hfs with
          | @cons a b as bs h t =>
            cases a with
            | none => simp
            | some v => obtain ⟨x, r, z⟩ := h; cases z
        rw [if_neg (by rw [h0]; exact Bool.false_ne_true), oneTypeOnly'_eq, List.mapM_toArray, map_eq_pure_bind]
        have hty : ∀ v ∈ vs, Looks (model prog w) s.heap (typeOf v) (Value.type "tuple") := fun v hv => by
          obtain ⟨d, hd, as, r⟩ := e.left v hv
          obtain ⟨xs, rfl⟩ := ht d hd
          exact looks_reads r
        refine wpAny_bind (wpAny_bind (wpAny_bind (kas_mapM (r := Value.type "tuple") _ (fun v hv Q' hq => (hty v hv).here hq) (wpAny_pure ?_))))
        cases vs with
        | nil => simp at h2
        | cons v0 vr =>
          have h1 : ((List.map (fun _ => Value.type "tuple") (v0 :: vr)).toArray)[0]? = some (Value.type "tuple") := by simp
          have h3 : ((List.map (fun _ => Value.type "tuple") (v0 :: vr)).toArray.all fun x => x == Value.type "tuple") = true := by
            simp only [List.all_toArray, List.all_map, List.all_eq_true]
            intro _ _
            rfl
          rw [h1]
          simp only [h3, if_true]
          exact wpAny_pure (wpAny_pure hq)
    | cons x1 xr =>
      refine ⟨general', fun E x y a b Q ha hb hq => ?_, fun h2 E Q hq => ?_⟩
      · obtain ⟨d, as, hd, ra, rfl⟩ := dataKind_inv ha
        obtain ⟨d', as', hd', rb, rfl⟩ := dataKind_inv hb
        show wpAny _ _ (oneLt' false x y) _ _ _
        refine oneLt_alike (fun z => by cases z) ra rb (hal d hd d' hd') ?_ (room hd) hq
        obtain ⟨xs, rfl⟩ := ht d hd
        exact fun z => by cases z
      · rw [keyKind'_eq, List.mapM_toArray, map_eq_pure_bind]
        refine wpAny_bind (wpAny_bind (firsts_of e ht fun fs hfs => wpAny_pure ?_))
        rw [if_neg (by rw [notall fs hfs]; exact Bool.false_ne_true)]
        have h0 : (fs.toArray[0]?.bind id).isSome = true := by
          cases hfs with
          | @cons a b as bs h t =>
            cases a with
            | none => cases h
            | some v => simp
        rw [if_pos h0]
        exact wpAny_pure hq
def Sortable2 (ds : List PyData) : Prop := Sortable ds ∨ ∀ d ∈ ds, ∃ xs, d = .tuple xs
theorem SortsAt.data2 {vs : List Value} {ds : List PyData} (e : EachIs (fun v d => ∃ as, Reads s.heap v d as) vs ds) (hal : AllAlike ds) (hk : Sortable2 ds) (hu : ∀ d, d ∈ ds → A.units + d.depth < cLine) : SortsAt prog w A s (dataKind s.heap ds) vs := by
  rcases hk with hk | ht
  · exact SortsAt.data e hal hk hu
  · by_cases hm : .tuple [] ∈ ds
    · exact SortsAt.tups e hal ht hm hu
    · refine SortsAt.data e hal (.inl fun d hd => ?_) hu
      obtain ⟨xs, rfl⟩ := ht d hd
      cases xs with
      | nil => exact absurd hd hm
      | cons x r => exact ⟨x, r, rfl⟩
end
end PySem.W

set_option maxHeartbeats 1000000
/-! J: sorted of data, the other way round too. -/
namespace J
open PySem PySem.Spec PyProof.Rows L2 PySem.W
/-! ### one sorted list, by structural recursion -/
def insP {α : Type} (le : α → α → Bool) (a : α) : List α → List α
  | [] => [a]
  | b :: l => if le a b then a :: b :: l else b :: insP le a l
def srt {α : Type} (le : α → α → Bool) : List α → List α
  | [] => []
  | a :: l => insP le a (srt le l)
theorem insP_app {α : Type} {le : α → α → Bool} {a : α} : ∀ {l₁ l₂ : List α}, (∀ b ∈ l₁, (!le a b) = true) → (∀ b ∈ l₂.head?, le a b = true) → insP le a (l₁ ++ l₂) = l₁ ++ a :: l₂
  | [], [], _, _ => rfl
  | [], b :: l, _, h => by
    simp only [List.nil_append, insP]
    rw [if_pos (h b (by simp))]
  | b :: l, l2, h, h2 => by
    have hb : ¬ le a b = true := by have := h b List.mem_cons_self; simpa using this
    simp only [List.cons_append, insP, if_neg hb]
    rw [insP_app (fun c hc => h c (List.mem_cons_of_mem _ hc)) h2]
theorem srt_merge {α : Type} {le : α → α → Bool} (h : TotalLe le) : ∀ l : List α, l.mergeSort le = srt le l
  | [] => by simp [srt]
  | a :: l => by
    have tr : ∀ a b c : α, le a b → le b c → le a c := fun a b c => h.trans a b c
    have tt : ∀ a b : α, le a b || le b a := fun a b => by rcases h.total a b with q | q <;> simp [q]
    obtain ⟨l₁, l₂, e1, e2, e3⟩ := List.mergeSort_cons tr tt a l
    have hs := sort_pairwise h (a :: l)
    rw [e1] at hs
    have e4 : srt le (a :: l) = insP le a (l₁ ++ l₂) := by
      show insP le a (srt le l) = _
      rw [← srt_merge h l, e2]
    rw [e1, e4]
    symm
    refine insP_app e3 fun b hb => ?_
    have h2 := (List.pairwise_append.mp hs).2.1
    rw [List.pairwise_cons] at h2
    cases l₂ with
    | nil => simp at hb
    | cons c r =>
      simp at hb
      subst hb
      exact h2.1 _ List.mem_cons_self
def leP (rev : Bool) : PV → PV → Bool := dataLe rev toD
theorem leP_total (rev : Bool) : TotalLe (leP rev) := sortLe_total _ _ _
def alikeA (ds : List PyData) : Bool := ds.all fun d => ds.all fun e => alike d e
def sortableB (ds : List PyData) : Bool := (ds.all fun d => match d with | .tuple _ => true | _ => false) || ds.all fun d => match d with | .none => false | .tuple _ => false | _ => true
theorem alikeA_ok {ds : List PyData} (h : alikeA ds = true) : AllAlike ds := fun d hd e he => by
  simp only [alikeA, List.all_eq_true] at h
  exact h d hd e he
theorem sortableB_ok {ds : List PyData} (h : sortableB ds = true) : Sortable2 ds := by
  simp only [sortableB, Bool.or_eq_true, List.all_eq_true] at h
  rcases h with h | h
  · refine .inr fun d hd => ?_
    have := h d hd
    split at this
    · exact ⟨_, rfl⟩
    · cases this
  · refine .inl (.inr fun d hd => ?_)
    have := h d hd
    split at this
    · cases this
    · cases this
    · rename_i h1 h2
      exact ⟨h1, h2⟩
/-- the items may be sorted by these keys -/
def sortOk (ks : List PV) : Bool := dles DEPTH ks && alikeA (toDs ks) && sortableB (toDs ks)
def sortP (rev : Bool) (xs : List PV) : Option (List PV) := if sortOk xs then some (srt (leP rev) xs) else none
section
variable {prog : Program} {w : World} {A : Around} {E : Value → Shared → Prop} {s : Shared}
/-- sorted(x, ..) of a list or a tuple is list.sort(..) on a new list of its items -/
theorem sorted_col {it : Addr} {T : String} {o : Obj} {its : List Value} {n : Nat} {kw : List (Str × Value)} {Q : Value → Shared → Prop} (hT : T = "list" ∨ T = "tuple") (ho : s.heap.get? it = some o) (hc : o.cls = .type T) (hd : o.data = .seq its.toArray n) (hL : its.length ≤ sizeLine)
    (ha1 : argsOk "sorted" ⟨[.ref it], kw⟩) (ha2 : ∀ x, argsOk "list.sort" ⟨[.ref x], kw⟩)
    (body : ∀ (h' : Heap) (E' : Value → Shared → Prop), (∀ b o, s.heap.get? b = some o → h'.get? b = some o) → wpAny (model prog w) A.in1.in1 (Builtin.«list.sort» ⟨[.ref h'.objs.size], kw⟩) (fun f s' => f = .done (.ret .none) ∧ Q (.ref h'.objs.size) s') E' { s with heap := h'.push (seqObj "list" its.toArray 0) }) :
    wpAny (model prog w) A (call (.builtin "sorted") [.ref it] kw) Q E s := by
  refine call_function_entry_kw kind_sorted plain_sorted entry_sorted ha1 ?_
  unfold Builtin.«sorted»
  refine wpAny_bind (m := checkCount "sorted" 1 1 _) (wpAny_pure ?_)
  refine wpAny_bind (wpAny_collect_seq it hT ho hc hd (fun h' hk => ?_) (by rw [List.size_toArray]; exact hL))
  have e1 : its.toArray.toList = its := by simp
  rw [e1]
  refine wpAny_bind (wpAny_newList ?_ hL)
  refine wpAny_bind (wpAny_holding (wpAny_call_entry_kw slot_list_sort ⟨_, Heap.get?_push_size _ rfl, rfl⟩ entry_list_sort ?body (ha2 _)))
  case body =>
    show wpAny (model prog w) A.in1.in1 (Builtin.«list.sort» ⟨[.ref h'.objs.size], kw⟩) _ _ _
    refine wpAny_mono (body h' _ hk) (fun f s' hf => ?_) fun _ _ e => e
    obtain ⟨rfl, hq⟩ := hf
    exact ⟨_, rfl, wpAny_pure ⟨_, rfl, hq⟩⟩
end
section
variable {G : Gc} {X : Cx} {W : WX}
/-- a list or a tuple, its items -/
theorem seq_at {pins : List (Addr × Obj)} {σ : L2.St} {H : Hp} {s : Shared} (I : Inv X pins σ H s) {a : Addr} {us : List V} (h : SqL X.K H a us ∨ SqT X.K H a us) : ∃ (T : String) (o : Obj) (its : List Value) (n : Nat), (T = "list" ∨ T = "tuple") ∧ s.heap.get? a = some o ∧ o.cls = .type T ∧ o.data = .seq its.toArray n ∧ Vals us its ∧ us.length ≤ sizeLine := by
  rcases h with h | h
  · obtain ⟨its, rv, ⟨o, n, h1, h2, h3, h4⟩, hz⟩ := I.list h
    exact ⟨"list", o, its, n, .inl rfl, h1, h2, h4, rv, hz⟩
  · obtain ⟨its, rv, ⟨o, h1, h2, n, h4⟩, hz⟩ := I.tuple h
    exact ⟨"tuple", o, its, n, .inr rfl, h1, h2, h4, rv, hz⟩

def rSortD (K : PySem.W.Frag) (b : Bool) : List V → Hp → VK → Prop := fun vs H Q => ∃ (a : Addr) (zs : List (V × PyData)), vs = [.ref a] ∧ (SqL K H a (zs.map (·.1)) ∨ SqT K H a (zs.map (·.1))) ∧ (∀ z ∈ zs, Dp K H z.1 z.2) ∧
  AllAlike (zs.map (·.2)) ∧ Sortable2 (zs.map (·.2)) ∧ (∀ z ∈ zs, z.2.depth ≤ 60) ∧ ∀ p, H p = none → Q (.ref p) (upd H p (.lst ((zs.mergeSort (dataLe b (·.2))).map (·.1))))
theorem each_vals {R : Value → V × PyData → Prop} (hR : ∀ v z, RelV z.1 v → ∀ hz : True, R v z) : ∀ {zs : List (V × PyData)} {its : List Value}, Vals (zs.map (·.1)) its → EachIs R its zs := by
  intro zs
  induction zs with
  | nil => intro its r; rw [List.map_nil] at r; cases r; exact .nil
  | cons z zs ih =>
    intro its r
    rw [List.map_cons] at r
    cases r with
    | cons h t => exact .cons (hR _ _ h trivial) (ih t)
theorem each_valsM {P : V × PyData → Prop} {R : Value → V × PyData → Prop} (hR : ∀ v z, P z → RelV z.1 v → R v z) : ∀ {zs : List (V × PyData)} {its : List Value}, (∀ z ∈ zs, P z) → Vals (zs.map (·.1)) its → EachIs R its zs := by
  intro zs
  induction zs with
  | nil => intro its _ r; rw [List.map_nil] at r; cases r; exact .nil
  | cons z zs ih =>
    intro its hp r
    rw [List.map_cons] at r
    cases r with
    | cons h t => exact .cons (hR _ _ (hp z List.mem_cons_self) h) (ih (fun y hy => hp y (List.mem_cons_of_mem _ hy)) t)
theorem vals_each : ∀ {zs : List (V × PyData)} {its : List Value}, EachIs (fun v z => RelV z.1 v) its zs → Vals (zs.map (·.1)) its := by
  intro zs
  induction zs with
  | nil => intro its r; cases r; exact .nil
  | cons z zs ih =>
    intro its r
    cases r with
    | cons h t => exact .cons h (ih t)
theorem sorted_runD (hu : X.A.units + 64 < cLine) {b : Bool} {kw : List (Str × Value)} {pins : List (Addr × Obj)} {s : Shared} {σ : L2.St} {H : Hp} {a : Addr} {zs : List (V × PyData)} {Q : VK} (I : Inv X pins σ H s) (hs : SqL X.K H a (zs.map (·.1)) ∨ SqT X.K H a (zs.map (·.1))) (hd : ∀ z ∈ zs, Dp X.K H z.1 z.2)
    (hal : AllAlike (zs.map (·.2))) (hso : Sortable2 (zs.map (·.2))) (hdp : ∀ z ∈ zs, z.2.depth ≤ 60)
    (hk : ∀ a, Builtin.«list.sort» ⟨[.ref a], kw⟩ = Builtin.«list.sort» ⟨[.ref a], [(Str.ofString "reverse", .bool b)]⟩) (ha1 : argsOk "sorted" ⟨[.ref a], kw⟩) (ha2 : ∀ a, argsOk "list.sort" ⟨[.ref a], kw⟩)
    (q : ∀ p, H p = none → Q (.ref p) (upd H p (.lst ((zs.mergeSort (dataLe b (·.2))).map (·.1))))) : wpAny (model X.prog X.w) X.A (call (.builtin "sorted") [.ref a] kw) (EP X pins σ Q) X.xe s := by
  obtain ⟨T, o, its, n, hT, h1, h2, h3, rv, hz⟩ := seq_at I hs
  have hl : its.length = zs.length := by rw [← rv.length, List.length_map]
  have hz' : its.length ≤ sizeLine := by rw [← rv.length]; exact hz
  refine sorted_col hT h1 h2 h3 hz' ha1 ha2 fun h' E' hk' => ?_
  rw [hk]
  have I2 : Inv X pins σ H { s with heap := h' } := I.kept (t' := s.toks) hk'
  have ho : (h'.push (seqObj "list" its.toArray 0)).get? h'.objs.size = some (seqObj "list" its.toArray 0) := Heap.get?_push_size _ rfl
  have hfr : ∀ b o, h'.get? b = some o → (sortingHeap (h'.push (seqObj "list" its.toArray 0)) h'.objs.size its).get? b = some o := fun b o e => sortingHeap_old (Nat.ne_of_lt (Heap.lt_size e)) (Heap.get?_push_of_some _ e)
  have er : EachIs (fun v (z : V × PyData) => ∃ as, Reads (sortingHeap (h'.push (seqObj "list" its.toArray 0)) h'.objs.size its) v z.2 as) its zs := each_valsM (P := fun z => Dp X.K H z.1 z.2) (fun v z hp hr => by
    obtain ⟨as, r⟩ := Dp.reads I2 z.2 z.1 v hp hr
    exact ⟨as, PyProof.Rows.Reads.keeps hfr r⟩) hd rv
  have e : EachIs (fun v (z : V × PyData) => RelV z.1 v) its zs := each_valsM (P := fun _ => True) (fun v z _ hr => hr) (fun _ _ => trivial) rv
  have S : SortsAt X.prog X.w X.A.in1.in1 { s with heap := sortingHeap (h'.push (seqObj "list" its.toArray 0)) h'.objs.size its } (dataKind (sortingHeap (h'.push (seqObj "list" its.toArray 0)) h'.objs.size its) (zs.map (·.2))) its :=
    SortsAt.data2 (s := { s with heap := sortingHeap (h'.push (seqObj "list" its.toArray 0)) h'.objs.size its }) (each_map (R := fun v d => ∃ as, Reads (sortingHeap (h'.push (seqObj "list" its.toArray 0)) h'.objs.size its) v d as) (fun z : V × PyData => z.2) er) hal hso fun d hm => by
      obtain ⟨z, hz, rfl⟩ := List.mem_map.mp hm
      have := hdp z hz
      show X.A.units + 2 + z.2.depth < cLine
      omega
  refine list_sort_rev_vals (s := { s with heap := h'.push (seqObj "list" its.toArray 0) }) ho S hz' ⟨rfl, ?_⟩
  have ev := vals_each (sortVals_data b e er hal)
  obtain ⟨ep, he'⟩ := PyProof.Rows.sortedHeap_at (vs := its) (out := (sortVals (dataKind (sortingHeap (h'.push (seqObj "list" its.toArray 0)) h'.objs.size its) (zs.map (·.2))) b its its).toArray) ho
  refine ⟨.ref h'.objs.size, upd H h'.objs.size (.lst ((zs.mergeSort (dataLe b (·.2))).map (·.1))), I2.laid (t' := s.toks) (fun c u e => ?_) (Nat.le_refl _) ⟨?_, _, ep, ev, he'⟩, rfl, q _ (I2.hok.fresh (Nat.le_refl _))⟩
  · have hc : c < h'.objs.size := Heap.lt_size e
    rw [PyProof.Rows.sortedHeap_old (Nat.ne_of_lt hc) (by rw [size_push']; exact Nat.lt_succ_of_lt hc)]
    exact Heap.get?_push_of_some _ e
  · rw [List.length_map, List.length_mergeSort, ← hl]; exact hz'
theorem cr_sortD (hu : X.A.units + 64 < cLine) : CallR X (.builtin "sorted") (rSortD X.K false) := by
  intro pins s σ H vs us Q I r h
  obtain ⟨a, zs, rfl, hs, hd, hal, hso, hdp, q⟩ := h
  obtain ⟨u, rfl, ru⟩ := vals1 r
  obtain rfl : u = .ref a := ru
  exact sorted_runD hu I hs hd hal hso hdp plain_is_rev (args_sorted1 _) (fun _ => args_list_sort _) q
theorem cr_sortDR (hu : X.A.units + 64 < cLine) {b : Bool} : CallRK X (.builtin "sorted") [Str.ofString "reverse"] (fun vs zs H Q => zs = [.bl b] ∧ rSortD X.K b vs H Q) := by
  intro pins s σ H vs zs us ws Q I r rz h
  obtain ⟨rfl, a, zs, rfl, hs, hd, hal, hso, hdp, q⟩ := h
  obtain ⟨u, rfl, ru⟩ := vals1 r
  obtain rfl : u = .ref a := ru
  obtain ⟨w1, rfl, e1⟩ := vals1 rz
  obtain rfl : w1 = Value.bool b := e1
  exact sorted_runD hu I hs hd hal hso hdp (fun _ => rfl) (PyProof.Rows.args_sorted_rev _ _) (fun _ => PyProof.Rows.args_list_sort_rev _ _) q
/-! ### by pure values -/
def seqP (h : PH) (x : PV) : Option (List PV) := match rd h x with
  | .lst xs => some xs
  | .tup xs => some xs
  | _ => none
theorem seqP_rep {M : Gh} {H : Hp} {h : PH} (r : HRel G M H h) {u : V} {x : PV} {xs : List PV} (p : Rep G M H u x) (e : seqP h x = some xs) : ∃ a us, u = .ref a ∧ (SqL G.K H a us ∨ SqT G.K H a us) ∧ us.length ≤ sizeLine ∧ Reps G M H us xs := by
  unfold seqP at e
  split at e
  · rename_i ys hx
    cases e
    obtain ⟨a, vs, rfl, s, z, rs⟩ := Rep.list r p hx
    exact ⟨a, vs, rfl, .inl s, z, rs⟩
  · rename_i ys hx
    cases e
    cases x with
    | tup zs =>
      cases hx
      obtain ⟨a, vs, rfl, s, z, rs⟩ := p
      exact ⟨a, vs, rfl, .inr s.sq, z, rs⟩
    | loc n =>
      rcases rd_cases h n with ⟨xs, hn, e⟩ | e
      · rw [e] at hx; cases hx
      · rw [e] at hx; cases hx
    | _ => cases hx
  · cases e
theorem srt_map {α β : Type} {r : α → α → Bool} {s : β → β → Bool} (f : α → β) (h : ∀ a b, r a b = s (f a) (f b)) : ∀ l : List α, (srt r l).map f = srt s (l.map f)
  | [] => rfl
  | a :: l => by
    have ins : ∀ m : List α, (insP r a m).map f = insP s (f a) (m.map f) := fun m => by
      induction m with
      | nil => rfl
      | cons b m ih =>
        simp only [insP, List.map_cons, ← h a b]
        split
        · rfl
        · rw [List.map_cons, ih]
    show (insP r a (srt r l)).map f = insP s (f a) (srt s (l.map f))
    rw [ins, srt_map f h l]
theorem srt_mem {α : Type} {le : α → α → Bool} (h : TotalLe le) {l : List α} {a : α} : a ∈ srt le l ↔ a ∈ l := by
  rw [← srt_merge h]
  exact List.mem_mergeSort
theorem reps_map {M : Gh} {H : Hp} : ∀ {zs : List (V × PV)}, (∀ z ∈ zs, Rep G M H z.1 z.2) → Reps G M H (zs.map (·.1)) (zs.map (·.2))
  | [], _ => trivial
  | z :: zs, h => ⟨h z List.mem_cons_self, reps_map fun y hy => h y (List.mem_cons_of_mem _ hy)⟩
theorem reps_zip {M : Gh} {H : Hp} : ∀ {us : List V} {xs : List PV}, Reps G M H us xs → (us.zip xs).map (·.1) = us ∧ (us.zip xs).map (·.2) = xs ∧ ∀ z ∈ us.zip xs, Rep G M H z.1 z.2
  | [], [], _ => ⟨rfl, rfl, fun _ z => by cases z⟩
  | [], _ :: _, h => h.elim
  | _ :: _, [], h => h.elim
  | u :: us, x :: xs, h => by
    obtain ⟨h1, h2, h3⟩ := reps_zip h.2
    refine ⟨by simp [h1], by simp [h2], fun z hz => ?_⟩
    rw [List.zip_cons_cons] at hz
    rcases List.mem_cons.mp hz with rfl | hz
    · exact h.1
    · exact h3 z hz
def sortedD (rev : Bool) (xs : List PV) (h : PH) : Option PV := match xs with
  | [x] => (match seqP h x with
    | some ys => (sortP rev ys).map .lst
    | none => none)
  | _ => none
theorem cj_sortD {b : Bool} {M : Gh} {h : PH} {H : Hp} {us : List V} {xs : List PV} {z : PV} {Q : VK} (r : HRel G M H h) (p : Reps G M H us xs) (e : sortedD b xs h = some z) (k : ∀ w H', Ext M H M H' → HRel G M H' h → Rep G M H' w z → Q w H') : rSortD G.K b us H Q := by
  unfold sortedD at e
  split at e
  · rename_i x
    obtain ⟨u, rfl, pu⟩ := reps1 p
    split at e
    · rename_i ys hx
      unfold sortP at e
      split at e
      · rename_i hok
        cases e
        simp only [sortOk, Bool.and_eq_true] at hok
        obtain ⟨a, vs, rfl, s, z, rs⟩ := seqP_rep r pu hx
        obtain ⟨q1, q2, q3⟩ := reps_zip rs
        have hdl : ∀ y ∈ ys, dle DEPTH y = true := by
          have := hok.1.1
          rw [dles_all, List.all_eq_true] at this
          exact this
        have hin : ∀ z ∈ vs.zip ys, z.2 ∈ ys := fun z hz => (List.of_mem_zip hz).2
        have m2 : ((vs.zip ys).map fun z => (z.1, toD z.2)).map (·.2) = toDs ys := by
          rw [List.map_map, toDs_map]
          have : ((fun z : V × PyData => z.2) ∘ fun z : V × PV => (z.1, toD z.2)) = toD ∘ (·.2) := rfl
          rw [this, ← List.map_map, q2]
        have m1 : ((vs.zip ys).map fun z => (z.1, toD z.2)).map (·.1) = vs := by
          rw [List.map_map]
          have : ((fun z : V × PyData => z.1) ∘ fun z : V × PV => (z.1, toD z.2)) = (·.1) := rfl
          rw [this, q1]
        refine ⟨a, (vs.zip ys).map fun z => (z.1, toD z.2), rfl, ?_, fun z hz => ?_, ?_, ?_, fun z hz => ?_, fun p hp => ?_⟩
        · rw [m1]; exact s
        · obtain ⟨y, hy, rfl⟩ := List.mem_map.mp hz
          exact Rep.dp y.2 y.1 DEPTH (hdl _ (hin y hy)) (q3 y hy)
        · rw [m2]; exact alikeA_ok hok.1.2
        · rw [m2]; exact sortableB_ok hok.2
        · obtain ⟨y, hy, rfl⟩ := List.mem_map.mp hz
          exact (dle_ok _ _ (hdl _ (hin y hy))).2
        · have tot : TotalLe (dataLe b (fun z : V × PV => toD z.2)) := sortLe_total _ _ _
          have tot2 : TotalLe (dataLe b (fun z : V × PyData => z.2)) := sortLe_total _ _ _
          have e1 : (((vs.zip ys).map fun z => (z.1, toD z.2)).mergeSort (dataLe b (·.2))) = (srt (dataLe b (fun z : V × PV => toD z.2)) (vs.zip ys)).map fun z => (z.1, toD z.2) := by
            rw [srt_merge tot2]
            exact (srt_map (s := dataLe b (fun z : V × PyData => z.2)) _ (fun _ _ => rfl) _).symm
          have e2 : (srt (dataLe b (fun z : V × PV => toD z.2)) (vs.zip ys)).map (·.2) = srt (leP b) ys := by
            have := srt_map (r := dataLe b (fun z : V × PV => toD z.2)) (s := leP b) (·.2) (fun _ _ => rfl) (vs.zip ys)
            rw [q2] at this
            exact this
          have e3 : ((((vs.zip ys).map fun z => (z.1, toD z.2)).mergeSort (dataLe b (·.2))).map (·.1)) = (srt (dataLe b (fun z : V × PV => toD z.2)) (vs.zip ys)).map (·.1) := by
            rw [e1, List.map_map]; rfl
          rw [e3]
          have hr : Reps G M H ((srt (dataLe b (fun z : V × PV => toD z.2)) (vs.zip ys)).map (·.1)) (srt (leP b) ys) := by
            rw [← e2]
            exact reps_map fun z hz => q3 z ((srt_mem tot).mp hz)
          have hlen : ((srt (dataLe b (fun z : V × PV => toD z.2)) (vs.zip ys)).map (·.1)).length ≤ sizeLine := by
            rw [List.length_map, ← srt_merge tot, List.length_mergeSort, List.length_zip]
            omega
          exact k _ _ (Ext.new r hp) (r.new hp) (rep_lst_new r hp hlen hr)
      · cases e
    · cases e
  · cases e
theorem cj_sortD0 : CallJ G (rSortD G.K false) (sortedD false) := fun M h H us xs z Q r p e k => cj_sortD r p e k
/-- sorted(x, reverse=b), b written -/
def sortR (b : Bool) (g : SA) : SE := cal (sortedD b) g
theorem je_sortR {b : Bool} {e : Expr} {gA : SA} {p pos kp : Pos} {cp : Pos} {j : Nat} (hK : G.K = X.K) (hu : X.A.units + 64 < cLine) (hm : X.mg "sorted" = none) (ha : JAs G X W [e] gA) (hg : Gl X "sorted" := by rfl)
    (he : backTo pos (starEach [e] X.env) = (false, eval e X.env) :: backTo pos (starEach [] X.env) := by rfl) (hpl : (backTo pos (starEach [e] X.env)).any (·.1) = false := by rfl)
    (hall : (backToKw pos (keywordEach [⟨some "reverse", .Constant (.bool b) j cp, kp⟩] X.env)).all (·.1.isSome) = true := by rfl) (hnone : (backToKw pos (keywordEach [⟨some "reverse", .Constant (.bool b) j cp, kp⟩] X.env)).any (·.1.isNone) = false := by rfl) (hks : (backToKw pos (keywordEach [⟨some "reverse", .Constant (.bool b) j cp, kp⟩] X.env)).filterMap (·.1) = [Str.ofString "reverse"] := by rfl) :
    JE G X W (.Call (.Name "sorted" p) [e] [⟨some "reverse", .Constant (.bool b) j cp, kp⟩] pos) (sortR b gA) := by
  refine pe_imp (pe_callBK (cr_sortDR (b := b) hu) hg hm PyProof.Rows.boot_sorted ha (pk_cons pe_bl pk_nil) (he := he) (hpl := hpl) (hall := hall) (hnone := hnone) (hks := hks)) fun σ H Q t => ?_
  refine (TF.bind (Rp := fun M H (u : List V) (v : List PV) => Reps G M H u v) t).mono fun u H1 ⟨M1, ρ, h1, v, r1, e1, p, o⟩ => ?_
  cases hf : sortedD b v h1 with
  | none => rw [hf] at o; exact False.elim o
  | some z =>
    rw [hf] at o
    refine ⟨rfl, ?_⟩
    rw [← hK]
    exact cj_sortD r1 p hf fun w H' x' r' p' => o w M1 H' x' r' p'
end
end J

set_option maxHeartbeats 1000000
/-! J: tuple(reversed(x)). -/
namespace RT
open PySem PySem.Spec PyProof.Rows
open Sem (wp)
theorem nolen_rv : typeLookup (.type "reversed") "__len__" = pure none := by rw [typeLookup_type, builtinLookup_eq_fast]; kernel_rfl
theorem hint_rv : typeLookup (.type "reversed") "__length_hint__" = pure (some (.builtin "reversed.__length_hint__")) := by rw [typeLookup_type, builtinLookup_eq_fast]; kernel_rfl
theorem slot_rv_hint : Slot "reversed" "__length_hint__" "reversed.__length_hint__" :=
  .of (owner := "reversed") (n := "__length_hint__") (by rw [typeLookup_type, builtinLookup_eq_fast]; kernel_rfl) (by decide +kernel) (by decide +kernel) (by decide +kernel)
    (by first | exact .inl (by decide +kernel) | exact .inr (by decide +kernel)) (by rw [isSubtype_type]; kernel_rfl)
theorem entry_rv_hint : entryFor table "reversed.__length_hint__" = some Builtin.«reversed.__length_hint__» := entryFor_of_tree (by kernel_rfl)
theorem args_rv_hint (a : Value) : argsOk "reversed.__length_hint__" ⟨[a], []⟩ := by
  unfold argsOk; rw [signature?_of (id := "reversed.__length_hint__") (n := ['_', '_', 't', 'n', 'i', 'h', '_', 'h', 't', 'g', 'n', 'e', 'l', '_', '_']) (o := ['d', 'e', 's', 'r', 'e', 'v', 'e', 'r']) (by kernel_rfl) owner_rt]; kernel_rfl
section
variable {prog : Program} {w : World} {A : Around} {E : Value → Shared → Prop} {s : Shared}
theorem hint_call {it l : Addr} {items : Array Value} {Q : Value → Shared → Prop} (hit : IsRt s.heap it l ((items.size : Int) - 1)) (hl : IsTup s.heap l items) (hn : items.size ≤ sizeLine)
    (hQ : ∀ tk t, Q (.int (items.size : Int) t) { s with toks := tk }) : wpAny (model prog w) A (call (.builtin "reversed.__length_hint__") [.ref it]) Q E s := by
  obtain ⟨o, ho, hc, hd⟩ := id hit
  refine wpAny_call_entry slot_rv_hint hit.typeIs entry_rv_hint ?_ (args_rv_hint _)
  unfold Builtin.«reversed.__length_hint__»
  refine wpAny_bind (wpAny_of_eq (a := Value.ref it) rfl ?_)
  refine wpAny_bind (wpAny_field ho hd (x := .ref l) rfl ?_)
  have e0 : (Value.ref l == Value.none) = false := rfl
  rw [if_neg (by rw [e0]; decide)]
  refine wpAny_bind (len_tuple hl (by rw [sizeLine_eq] at hn; omega) ?_)
  refine wpAny_bind (wpAny_of_eq (a := some (items.size : Int)) rfl ?_)
  try dsimp only
  refine wpAny_bind (wpAny_field (s := { s with toks := s.toks + 1 + 1 }) ho hd (x := rawInt ((items.size : Int) - 1)) rfl ?_)
  show wpAny _ _ (if ((items.size : Nat) : Int) < (items.size : Int) - 1 + 1 then _ else _) _ _ _
  rw [if_neg (by omega)]
  have e1 : (items.size : Int) - 1 + 1 = (items.size : Int) := by omega
  rw [e1]
  refine wpAny_bind (wpAny_mkInt ?_)
  exact wpAny_pure ⟨_, rfl, hQ _ _⟩
theorem hint_rt {it l : Addr} {items : Array Value} {Q : Bool → Shared → Prop} (hit : IsRt s.heap it l ((items.size : Int) - 1)) (hl : IsTup s.heap l items) (hn : items.size ≤ sizeLine)
    (hQ : ∀ tk, Q ((items.size : Int) != 0) { s with toks := tk }) : wpAny (model prog w) A (Builtin.List.listLengthHint (.ref it)) Q E s := by
  have hT : s.TypeIs (.ref it) "reversed" := hit.typeIs
  unfold Builtin.List.listLengthHint
  refine wpAny_bind (wpAny_specialOf hT nolen_rv ?_)
  show wpAny _ A (specialOf (Value.ref it) (Str.ofString "__length_hint__") >>= _) _ _ _
  refine wpAny_bind (wpAny_specialOf hT hint_rv ?_)
  generalize hid : ("reversed.__length_hint__" : String) = id0
  wp_delta
  rw [show splitId id0 = some ("reversed", "__length_hint__") from by subst hid; decide +kernel]
  subst hid
  refine wpAny_bind (wpAny_isInstance (b := true) hT (by rw [isSubtype_type]; kernel_rfl) ?_)
  rw [if_neg (by decide)]
  dsimp only
  rw [if_neg (by decide +kernel)]
  refine wpAny_bind (wpAny_rule ?_)
  refine wpAny_bind (wpAny_of_eq (slot_rv_hint.bind _) ?_)
  dsimp only
  refine wpAny_bind (wpAny_attempt (hint_call hit hl hn fun tk t => ?_))
  have hz := hn
  rw [sizeLine_eq] at hz
  have f1 : Builtin.List.listFitsIndex (items.size : Int) = true := by unfold Builtin.List.listFitsIndex; simp; omega
  have f2 : ¬ (items.size : Int) < 0 := by omega
  have f3 : Builtin.List.listTooLong (Int.toNat (items.size : Int)) = false := L2.notLongL hn
  have f4 := hQ tk
  generalize (items.size : Int) = n at f1 f2 f3 f4
  simp only [asInt?, pure_bind, f1, f2, f3, Bool.not_true, Bool.false_eq_true, if_false]
  exact wpAny_pure f4
theorem IsTup.keep1 {h h' : Heap} {t : Addr} {items : Array Value} (x : IsTup h t items) (k : ∀ o, h.get? t = some o → h'.get? t = some o) : IsTup h' t items := let ⟨o, ho, r⟩ := x; ⟨o, k _ ho, r⟩
theorem walks_rt (hh : A.handled = none) (it t : Addr) (hne : t ≠ it) (items : Array Value) (hsz : items.size ≤ sizeLine) : Walks prog w A it [it, t] [it] items.size (fun i v => items[items.size - 1 - i]? = some v) (fun i h => i ≤ items.size ∧ IsRt h it t ((items.size : Int) - 1 - (i : Nat)) ∧ IsTup h t items) where
  sub := fun b hb => by rw [List.mem_singleton.mp hb]; simp
  frame := fun i h h' ⟨h1, h2, h3⟩ k => ⟨h1, h2.at fun o e => k it (by simp) o e, IsTup.keep1 h3 fun o e => k t (by simp) o e⟩
  item := fun i s Q E hi ⟨h1, h2, h3⟩ hQ => by
    have hj : items.size - 1 - i < items.size := by omega
    have ex : items[items.size - 1 - i]? = some items[items.size - 1 - i] := Array.getElem?_eq_getElem hj
    have e1 : (items.size : Int) - 1 - (i : Nat) = ((items.size - 1 - i : Nat) : Int) := by omega
    rw [e1] at h2
    refine next_rt_item h2 h3 ex hsz fun h' r sb => hQ _ h' _ ex ⟨hi, ?_, IsTup.keep1 h3 fun o e => (sb.2 t hne).trans e⟩ fun b o hb e => (sb.2 b (fun z => hb (by rw [z]; simp))).trans e
    have e2 : ((items.size - 1 - i : Nat) : Int) - 1 = (items.size : Int) - 1 - ((i + 1 : Nat) : Int) := by omega
    rw [← e2]
    exact r
  done := fun s Q E ⟨h1, h2, h3⟩ hQ => by
    have e1 : (items.size : Int) - 1 - (items.size : Nat) = -1 := by omega
    rw [e1] at h2
    exact next_rt_end hh h2 fun h' x => hQ h' s.toks fun b o hb e => x b o (fun z => hb (by rw [z]; simp)) e
  self := fun i s Q E ⟨_, h2, _⟩ h => iter_rt h2 h
theorem collect_rt {it l : Addr} {items : Array Value} {Q : List Value → Shared → Prop} (hh : A.handled = none) (hit : IsRt s.heap it l ((items.size : Int) - 1)) (hl : IsTup s.heap l items) (hne : l ≠ it) (hn : items.size ≤ sizeLine)
    (hQ : ∀ (h' : Heap) (tk : Nat) (acc : Array Value), (∀ b o, b ≠ it → s.heap.get? b = some o → h'.get? b = some o) → ItemsOf (fun i v => items[items.size - 1 - i]? = some v) acc items.size → Q acc.toList { s with heap := h', toks := tk }) :
    wpAny (model prog w) A (collect (.ref it)) Q E s := by
  have W := (walks_rt (prog := prog) (w := w) (A := A.in1) hh it l hne items hn).toS
  obtain ⟨oi, hoi, _⟩ := id hit
  obtain ⟨ol, hol, _⟩ := id hl
  have hSi : s.heap.objs.size ≠ it := Nat.ne_of_gt (Heap.lt_size hoi)
  have hSl : s.heap.objs.size ≠ l := Nat.ne_of_gt (Heap.lt_size hol)
  have hSf : s.heap.objs.size ∉ [it, l] := by simp only [List.mem_cons, List.not_mem_nil, or_false, not_or]; exact ⟨hSi, hSl⟩
  unfold collect
  refine wpAny_bind (wpAny_runValue (codeAny_builtin F.entry_proto_collect ?_))
  rw [Around.under_plainId F.plain_proto_collect _]
  show wpAny _ A.in1 (newList [] >>= fun l' => again (.builtin "list.__iadd__" ⟨[l', .ref it], []⟩)) _ _ s
  refine wpAny_bind (wpAny_newObj_type ?_)
  refine wpAny_pure ⟨plainId_quiet F.plain_list_iadd _, codeAny_builtin F.entry_list_iadd ?_⟩
  rw [Around.under_plainId F.plain_list_iadd _]
  have hS₁ : (s.heap.push { cls := .type "list", data := .seq ([] : List Value).toArray }).get? s.heap.objs.size = some { cls := .type "list", data := .seq ([] : List Value).toArray } := Heap.get?_push_size _ rfl
  have hit1 : IsRt (s.heap.push { cls := .type "list", data := .seq ([] : List Value).toArray }) it l ((items.size : Int) - 1) := hit.at fun o e => Heap.get?_push_of_some _ e
  have hl1 : IsTup (s.heap.push { cls := .type "list", data := .seq ([] : List Value).toArray }) l items := IsTup.keep1 hl fun o e => Heap.get?_push_of_some _ e
  have hT : ({ s with heap := s.heap.push { cls := .type "list", data := .seq ([] : List Value).toArray } } : Shared).TypeIs (.ref it) "reversed" := IsRt.typeIs (s := { s with heap := s.heap.push { cls := .type "list", data := .seq ([] : List Value).toArray } }) hit1
  have h1 : Builtin.List.listSameRef (.ref s.heap.objs.size) (.ref it) = false := by simp [Builtin.List.listSameRef, hSi]
  show wpAny _ A.in1 (Builtin.List.listExtendWith (.ref s.heap.objs.size) (.ref it) (.ref s.heap.objs.size)) _ _ _
  unfold Builtin.List.listExtendWith
  refine wpAny_bind (wpAny_typeOf hT ?_)
  rw [if_neg (by rw [h1]; decide)]
  refine wpAny_bind (iter_rt (s := { s with heap := s.heap.push { cls := .type "list", data := .seq ([] : List Value).toArray } }) hit1 ?_)
  refine wpAny_bind (wpAny_holding ?_)
  refine hint_rt hit1 hl1 hn fun tk => ?_
  have e0 : ((items.size : Nat) : Int) - 1 - ((0 : Nat) : Int) = (items.size : Int) - 1 := by omega
  have go : ∀ (h2 : Heap) (c2 : Nat), (∀ b o, b ≠ s.heap.objs.size → (s.heap.push { cls := .type "list", data := .seq ([] : List Value).toArray }).get? b = some o → h2.get? b = some o) → h2.get? s.heap.objs.size = some { cls := .type "list", data := .seq #[] c2 } →
      codeAny (model prog w) A (.builtin "list.extend.loop" ⟨[.ref s.heap.objs.size, .ref it, .ref s.heap.objs.size], []⟩) (fun r s' => match r with
        | .ok (.ret v) => wpAny (model prog w) A (match v with
          | .ref a => (do
            match (← load a).data with
            | .seq xs _ => pure xs.toList
            | _ => unsupported "internal:collect")
          | _ => unsupported "internal:collect") Q E s'
        | .ok _ => False
        | .error e => E e s') { s with heap := h2, toks := tk } := fun h2 c2 k2 hS2 => by
    refine codeAny_extend_loopS W hn _ hSf _ items.size 0 _ _ _ rfl (Nat.zero_le _) ⟨Nat.zero_le _, ?_, ?_⟩ hS2 (ItemsOf.nil _) fun s' acc' c' hm hS' hacc => ?_
    · rw [e0]
      exact hit1.at fun o e => k2 _ _ (Ne.symm hSi) e
    · exact IsTup.keep1 hl1 fun o e => k2 _ _ (Ne.symm hSl) e
    · show wpAny _ A (load s.heap.objs.size >>= _) _ _ s'
      refine wpAny_bind (wpAny_load hS' ?_)
      refine wpAny_pure ?_
      rw [Moved.eq_with hm]
      refine hQ s'.heap s'.toks acc' (fun b o hb e => hm.heap b o (fun hmem => ?_) (k2 b o (Nat.ne_of_lt (Heap.lt_size e)) (Heap.get?_push_of_some _ e))) hacc
      rcases List.mem_cons.mp hmem with e' | hmem
      · exact absurd (Heap.lt_size e) (by rw [e']; exact Nat.lt_irrefl _)
      · exact hb (List.mem_singleton.mp hmem)
  dsimp only
  split
  · refine wpAny_bind (wpAny_rule ?_)
    unfold Builtin.List.listTouch
    refine wpAny_bind (wpAny_bind (listUpdate_at (s := { s with heap := s.heap.push { cls := .type "list", data := .seq ([] : List Value).toArray }, toks := tk }) hS₁ rfl ?_ (by decide) (by decide)))
    have hS2 := get?_update_seq (h := s.heap.push { cls := .type "list", data := .seq ([] : List Value).toArray }) (a := s.heap.objs.size) hS₁ (fun x => x.push Value.none)
    refine listUpdate_at (s := { s with heap := (s.heap.push { cls := .type "list", data := .seq ([] : List Value).toArray }).update s.heap.objs.size (Obj.mapSeq fun x => x.push Value.none), toks := tk }) hS2 rfl ?_ (by decide) (by decide)
    have hS3 := get?_update_seq (a := s.heap.objs.size) hS2 (fun x => x.pop)
    refine wpAny_pure ⟨plainId_quiet F.plain_extend_loop _, go _ _ (fun b o hb e => ?_) hS3⟩
    exact (Heap.get?_update_other _ _ (Ne.symm hb)).trans ((Heap.get?_update_other _ _ (Ne.symm hb)).trans e)
  · exact wpAny_pure ⟨plainId_quiet F.plain_extend_loop _, go _ 0 (fun b o hb e => e) hS₁⟩
theorem code_tuple_new_rt {it l : Addr} {items : Array Value} {Q₁ : Value → Shared → Prop} (hh : A.handled = none) (hit : IsRt s.heap it l ((items.size : Int) - 1)) (hl : IsTup s.heap l items) (hne : l ≠ it) (hn : items.size ≤ sizeLine)
    (h : ∀ (h' : Heap) (tk : Nat) (acc : Array Value), (∀ b o, b ≠ it → s.heap.get? b = some o → h'.get? b = some o) → ItemsOf (fun i v => items[items.size - 1 - i]? = some v) acc items.size →
      Q₁ (.ref h'.objs.size) { s with heap := h'.push { cls := .type "tuple", data := .seq acc }, toks := tk }) :
    codeAny (model prog w) A (.call (.builtin "tuple.__new__") ⟨[.type "tuple", .ref it], []⟩) (wants Q₁ E) s := by
  refine codeAny_of_tree ?_
  show wpAny _ A.in1 (do checkBuiltinCall "tuple.__new__" ⟨[.type "tuple", .ref it], []⟩; again (.builtin "tuple.__new__" ⟨[.type "tuple", .ref it], []⟩)) _ _ s
  refine wpAny_bind (wpAny_of_eq (F.newCall_tuple_1 _) (wpAny_pure ⟨plainId_quiet F.plain_tuple_new _, codeAny_builtin F.entry_tuple_new ?_⟩))
  rw [Around.under_plainId F.plain_tuple_new _]
  have hsub := sub_tuple_self
  have hinit := init_tuple_lookup
  have hmh := madeHere_tuple
  have hTI : s.TypeIs (.ref it) "reversed" := hit.typeIs
  have hh1 : A.in1.handled = none := hh
  wp_walk using wpAny_typeOf hTI, collect_rt (A := A.in1) hh1 hit hl hne hn
  intro h' tk acc hk hacc
  show wpAny _ _ (Builtin.Tuple.tupleExact acc.toList.toArray >>= fun v => ret v) _ _ _
  unfold Builtin.Tuple.tupleExact
  refine wpAny_bind (wpAny_newObj_type ?_ (by show acc.toList.toArray.size ≤ sizeLine; simp only [Array.toArray_toList]; rw [hacc.1]; exact hn))
  refine wpAny_pure ?_
  have e : acc.toList.toArray = acc := by simp
  rw [e]
  exact h h' tk acc hk hacc
theorem call_tuple_rt {it l : Addr} {items : Array Value} {Q : Value → Shared → Prop} (hh : A.handled = none) (hit : IsRt s.heap it l ((items.size : Int) - 1)) (hl : IsTup s.heap l items) (hne : l ≠ it) (hn : items.size ≤ sizeLine)
    (hQ : ∀ (h' : Heap) (tk : Nat) (acc : Array Value), (∀ b o, b ≠ it → s.heap.get? b = some o → h'.get? b = some o) → ItemsOf (fun i v => items[items.size - 1 - i]? = some v) acc items.size →
      Q (.ref h'.objs.size) { s with heap := h'.push { cls := .type "tuple", data := .seq acc }, toks := tk }) :
    wpAny (model prog w) A (call (.type "tuple") [.ref it]) Q E s := by
  refine callType_codes (Q₁ := fun obj s₁ => s₁.TypeIs obj "tuple" ∧ Q obj s₁) F.called_tuple (F.typeCall_tuple_1 _) F.entry_object_init
    (code_tuple_new_rt (A := A.in1) hh hit hl hne hn fun h' tk acc hk hacc => ⟨⟨_, Heap.get?_push_size _ rfl, rfl⟩, hQ h' tk acc hk hacc⟩) fun obj s₁ h₁ => ?_
  exact ⟨h₁.1, F.args_object_init_2 obj _, object_init_meets F.called_tuple.init.lookup F.called_tuple.made (by decide) prog w A.in1 _ s₁ ⟨h₁.1, rfl, h₁.2⟩⟩
end
end RT
namespace J
open PySem PySem.Spec PyProof.Rows L2 RT
section
variable {G : Gc} {X : Cx} {W : WX}
def tTupRevA (K : PySem.W.Frag) (te : TE) : TE := fun σ H Q => te σ H fun v H1 => ∃ (a : Addr) (xs : List V), v = .ref a ∧ (SqL K H1 a xs ∨ SqT K H1 a xs) ∧ ∀ q o, H1 q = none → o.dict = none → Q (.ref q) (upd H1 q (.frz o (.tup xs.reverse)))
theorem pe_tupRevA {e : Expr} {te : TE} {p p2 pos pos2 : Pos} (hc : X.calm = true) (hg : Gl X "tuple") (hm : X.mg "tuple" = none) (hg2 : Gl X "reversed") (hm2 : X.mg "reversed" = none) (he : PE X e te)
    (hs : starEach [e] X.env = (false, eval e X.env) :: starEach [] X.env)
    (hs2 : starEach [.Call (.Name "reversed" p2) [e] [] pos2] X.env = (false, eval (.Call (.Name "reversed" p2) [e] [] pos2) X.env) :: starEach [] X.env) :
    PE X (.Call (.Name "tuple" p) [.Call (.Name "reversed" p2) [e] [] pos2] [] pos) (tTupRevA X.K te) := by
  refine ⟨fun pins s σ H Q I h => ?_⟩
  refine Call_ (ld_blt I hg hm boot_tuple (PyProof.Rows.callWith_type1 (args_cons (Call_ (ld_blt I hg2 hm2 PyProof.Rows.boot_reversed (PyProof.Rows.callWith_type1 (args_cons (thn (he.run pins s σ H _ I h) fun u s1 ⟨v, H1, I1, r1, q1⟩ => args_nil ?_) hs) hs rfl))) hs2) hs2 rfl))
  obtain ⟨a, xs, ev, hq, q⟩ := q1
  subst ev
  obtain rfl : u = Value.ref a := r1
  obtain ⟨f0, f1, f2, f3, f4, f5⟩ := I1.fpOk (H' := H1) (b := s1.heap.objs.size) (Nat.le_refl _) (I1.hok.fresh (Nat.le_refl _))
  rcases hq with hq | hq
  · obtain ⟨its, rv, p', hz⟩ := I1.list hq
    refine call_reversed_list p'.isList (args_nil ?_)
    have k0 : ∀ b o, s1.heap.get? b = some o → (s1.heap.push (revObj a ((its.toArray.size : Int) - 1))).get? b = some o := fun b o e => Heap.get?_push_of_some _ e
    have I2 : Inv X pins σ H1 { s1 with heap := s1.heap.push (revObj a ((its.toArray.size : Int) - 1)) } := I1.kept (t' := s1.toks) k0
    have hl := p'.isList
    obtain ⟨ol, hol, _⟩ := id hl
    have hne : a ≠ s1.heap.objs.size := Nat.ne_of_lt (Heap.lt_size hol)
    have hn : its.toArray.size ≤ sizeLine := by rw [List.size_toArray, ← rv.length]; exact hz
    refine call_tuple_rev (s := { s1 with heap := s1.heap.push (revObj a ((its.toArray.size : Int) - 1)) }) (I1.ok.hd hc) ⟨_, Heap.get?_push_size _ rfl, rfl, rfl⟩ (hl.push _) hne hn fun h' tk acc hk hi => ?_
    have I3 : Inv X pins σ H1 { s1 with heap := h', toks := tk } := I2.turned (t' := tk) (fun b o hb e => hk b o hb e) f0 f1 f3 f4 f5
    refine ⟨.ref h'.objs.size, upd H1 h'.objs.size (.frz { cls := .type "tuple", data := .seq acc } (.tup xs.reverse)), I3.laid (t' := tk) (fun c o e => Heap.get?_push_of_some _ e) (Nat.le_refl _) ⟨Heap.get?_push_size _ rfl, by rw [List.length_reverse]; exact hz, acc.toList, vals_rev rv hi, ?_⟩, rfl, q _ _ (I3.hok.fresh (Nat.le_refl _)) rfl⟩
    rw [Array.toArray_toList]
    exact IsTup.new _ _
  · obtain ⟨its, rv, p', hz⟩ := I1.tuple hq
    have hn63 := line63
    have hl' := rv.length
    have hn : its.toArray.size ≤ sizeLine := by rw [List.size_toArray, ← rv.length]; exact hz
    refine call_reversed_tup p' (fun A E Q k => len_tuple p' (by simp only [List.size_toArray] <;> omega) k) (args_nil ?_)
    have k0 : ∀ b o, s1.heap.get? b = some o → (s1.heap.push (rtObj a ((its.toArray.size : Int) - 1))).get? b = some o := fun b o e => Heap.get?_push_of_some _ e
    have I2 : Inv X pins σ H1 { s1 with heap := s1.heap.push (rtObj a ((its.toArray.size : Int) - 1)), toks := s1.toks + 1 + 1 } := I1.kept (t' := s1.toks + 1 + 1) k0
    obtain ⟨ol, hol, _⟩ := id p'
    have hne : a ≠ s1.heap.objs.size := Nat.ne_of_lt (Heap.lt_size hol)
    refine call_tuple_rt (s := { s1 with heap := s1.heap.push (rtObj a ((its.toArray.size : Int) - 1)), toks := s1.toks + 1 + 1 }) (I1.ok.hd hc) ⟨_, Heap.get?_push_size _ rfl, rfl, rfl⟩ (IsTup.keep1 p' fun o e => k0 _ _ e) hne hn fun h' tk acc hk hi => ?_
    have I3 : Inv X pins σ H1 { s1 with heap := h', toks := tk } := I2.turned (t' := tk) (fun b o hb e => hk b o hb e) f0 f1 f3 f4 f5
    refine ⟨.ref h'.objs.size, upd H1 h'.objs.size (.frz { cls := .type "tuple", data := .seq acc } (.tup xs.reverse)), I3.laid (t' := tk) (fun c o e => Heap.get?_push_of_some _ e) (Nat.le_refl _) ⟨Heap.get?_push_size _ rfl, by rw [List.length_reverse]; exact hz, acc.toList, vals_rev rv hi, ?_⟩, rfl, q _ _ (I3.hok.fresh (Nat.le_refl _)) rfl⟩
    rw [Array.toArray_toList]
    exact IsTup.new _ _
def tupRevO (v : PV) (h : PH) : Option PV := (seqP h v).map fun xs => .tup xs.reverse
theorem je_tupRev {e : Expr} {f : SE} {p p2 pos pos2 : Pos} (hK : G.K = X.K) (hm : X.mg "tuple" = none) (hm2 : X.mg "reversed" = none) (he : JE G X W e f) (hc : X.calm = true := by rfl) (hg : Gl X "tuple" := by rfl) (hg2 : Gl X "reversed" := by rfl)
    (hs : starEach [e] X.env = (false, eval e X.env) :: starEach [] X.env := by rfl)
    (hs2 : starEach [.Call (.Name "reversed" p2) [e] [] pos2] X.env = (false, eval (.Call (.Name "reversed" p2) [e] [] pos2) X.env) :: starEach [] X.env := by rfl) :
    JE G X W (.Call (.Name "tuple" p) [.Call (.Name "reversed" p2) [e] [] pos2] [] pos) (un1 tupRevO f) := by
  refine pe_imp (pe_tupRevA hc hg hm hg2 hm2 he hs hs2) fun σ H Q t => (TF.bind (Rp := fun M H (u : V) (v : PV) => Rep G M H u v) t).mono fun u H1 ⟨M1, ρ, h1, v, r1, e1, p, o⟩ => ?_
  cases hf : tupRevO v h1 with
  | none => rw [hf] at o; exact False.elim o
  | some z =>
    rw [hf] at o
    unfold tupRevO at hf
    cases hx : seqP h1 v with
    | none => rw [hx] at hf; cases hf
    | some xs =>
      rw [hx] at hf
      cases hf
      obtain ⟨a, us, rfl, s, z, rs⟩ := seqP_rep r1 p hx
      refine ⟨a, us, rfl, by rw [← hK]; exact s, fun q ob hq hd => ?_⟩
      exact o _ M1 _ (Ext.new r1 hq) (r1.new hq) (rep_tup_new r1 hq hd (by rw [List.length_reverse]; exact z) rs.reverse)
end
end J

/-! J: what is wanted behind a pure program, from the goal backwards. -/
namespace J
open PySem PySem.Spec PyProof.Rows L2
structure Ed where
  nx : En → PH → Prop
  rt : PV → PH → Prop := fun _ _ => False
  ex : Ex → PH → Prop := fun _ _ => False
  bk : En → PH → Prop := fun _ _ => False
  ct : En → PH → Prop := fun _ _ => False
def WP (r : RS) (D : Ed) : Prop := match r with
  | .nx ρ h => D.nx ρ h
  | .rt v h => D.rt v h
  | .ex e _ h => D.ex e h
  | .bk ρ h => D.bk ρ h
  | .ct ρ h => D.ct ρ h
  | .bad => False
/-- behind it comes g -/
def Ed.thn (D : Ed) (g : SS) : Ed := { D with nx := fun ρ h => WP (g ρ h) D }
/-- one turn of a loop: s is walked, I holds behind it -/
def Ed.lp (D : Ed) (s : Src) (I : En → PH → Prop) : Ed := { nx := fun ρ h => sameL s h = true ∧ I ρ h, ct := fun ρ h => sameL s h = true ∧ I ρ h, bk := D.nx, rt := D.rt, ex := D.ex }
def WR {α : Type} (r : R α) (Q : α → PH → Prop) (X : Ex → PH → Prop) : Prop := match r with
  | .ok a h => Q a h
  | .exc e h => X e h
  | .bad => False
def gW (o : Option En) (P : En → Prop) : Prop := match o with
  | some ρ => P ρ
  | none => False
section
variable {D : Ed} {r : RS} {g f : SS} {ρ : En} {h : PH} {v : PV}
@[simp] theorem wp_th : WP (r.th g) D = WP r (D.thn g) := by cases r <;> rfl
@[simp] theorem wp_nx : WP (.nx ρ h) D = D.nx ρ h := nrfl rfl
@[simp] theorem wp_rt : WP (.rt v h) D = D.rt v h := nrfl rfl
@[simp] theorem wp_ex (e : Ex) : WP (.ex e ρ h) D = D.ex e h := nrfl rfl
@[simp] theorem wp_bk : WP (.bk ρ h) D = D.bk ρ h := nrfl rfl
@[simp] theorem wp_ct : WP (.ct ρ h) D = D.ct ρ h := nrfl rfl
@[simp] theorem wp_bad : WP .bad D = False := nrfl rfl
@[simp] theorem thn_nx : (D.thn g).nx ρ h = WP (g ρ h) D := nrfl rfl
@[simp] theorem thn_rt : (D.thn g).rt = D.rt := nrfl rfl
@[simp] theorem thn_ex : (D.thn g).ex = D.ex := nrfl rfl
@[simp] theorem thn_bk : (D.thn g).bk = D.bk := nrfl rfl
@[simp] theorem thn_ct : (D.thn g).ct = D.ct := nrfl rfl
@[simp] theorem lp_nx (s : Src) (I : En → PH → Prop) : (D.lp s I).nx ρ h = (sameL s h = true ∧ I ρ h) := nrfl rfl
@[simp] theorem lp_ct (s : Src) (I : En → PH → Prop) : (D.lp s I).ct ρ h = (sameL s h = true ∧ I ρ h) := nrfl rfl
@[simp] theorem lp_rt (s : Src) (I : En → PH → Prop) : (D.lp s I).rt = D.rt := nrfl rfl
@[simp] theorem lp_ex (s : Src) (I : En → PH → Prop) : (D.lp s I).ex = D.ex := nrfl rfl
@[simp] theorem lp_bk (s : Src) (I : En → PH → Prop) : (D.lp s I).bk = D.nx := nrfl rfl
@[simp] theorem wp_sif (b : Bool) : WP (sifK (.ok b h) f g ρ) D = ((b = true → WP (f ρ h) D) ∧ (b = false → WP (g ρ h) D)) := by
  cases b <;> simp
@[simp] theorem gW_some (P : En → Prop) : gW (some ρ) P = P ρ := nrfl rfl
@[simp] theorem wr_ok {α : Type} (a : α) (Q : α → PH → Prop) (X : Ex → PH → Prop) : WR (.ok a h) Q X = Q a h := nrfl rfl
@[simp] theorem wr_exc {α : Type} (e : Ex) (Q : α → PH → Prop) (X : Ex → PH → Prop) : WR (.exc e h) Q X = X e h := nrfl rfl
@[simp] theorem wr_bad {α : Type} (Q : α → PH → Prop) (X : Ex → PH → Prop) : WR .bad Q X = False := nrfl rfl
theorem wr_bind {α β : Type} (x : R α) (k : α → PH → R β) (Q : β → PH → Prop) (X : Ex → PH → Prop) : WR (x.bind k) Q X = WR x (fun a h => WR (k a h) Q X) X := by cases x <;> rfl
theorem wp_toS {α : Type} (x : R α) (k : α → PH → RS) : WP (x.toS ρ k) D = WR x (fun a h => WP (k a h) D) D.ex := by cases x <;> rfl
theorem wp_sifB {α : Type} (x : R α) (k : α → PH → R Bool) : WP (sifK (x.bind k) f g ρ) D = WR x (fun a h => WP (sifK (k a h) f g ρ) D) D.ex := by cases x <;> rfl
theorem WR.mono {α : Type} {x : R α} {Q Q' : α → PH → Prop} {X : Ex → PH → Prop} (w : WR x Q X) (q : ∀ a h, Q a h → Q' a h) : WR x Q' X := by cases x <;> first | exact q _ _ w | exact w
/-- a loop by its invariant -/
theorem wp_for {α : Type} {emb : α → PV} {s : Src} {gf : GF} {body : SS} (I : List α → En → PH → Prop) {xs : List α} (h0 : I [] ρ h)
    (st : ∀ pre x post ρ h, xs = pre ++ x :: post → I pre ρ h → gW (gf (emb x) ρ) fun ρ1 => WP (body ρ1 h) (D.lp s (I (pre ++ [x])))) (en : ∀ ρ h, I xs ρ h → D.nx ρ h) : WP (forL s gf body (mp emb xs) ρ h) D := by
  have key : ∀ (post pre : List α) (ρ : En) (h : PH), xs = pre ++ post → I pre ρ h → WP (forL s gf body (mp emb post) ρ h) D := by
    intro post
    induction post with
    | nil =>
      intro pre ρ h e i
      rw [List.append_nil] at e
      subst e
      exact en ρ h i
    | cons x post ih =>
      intro pre ρ h e i
      have q := st pre x post ρ h e i
      rw [mp_cons]
      show WP (match gf (emb x) ρ with
        | none => RS.bad
        | some ρ1 => match body ρ1 h with
          | .nx ρ' h' => if sameL s h' then forL s gf body (mp emb post) ρ' h' else .bad
          | .ct ρ' h' => if sameL s h' then forL s gf body (mp emb post) ρ' h' else .bad
          | .bk ρ' h' => .nx ρ' h'
          | .rt v h' => .rt v h'
          | .ex e ρ' h' => .ex e ρ' h'
          | .bad => .bad) D
      cases hg : gf (emb x) ρ with
      | none => rw [hg] at q; exact q.elim
      | some ρ1 =>
        rw [hg] at q
        have q : WP (body ρ1 h) (D.lp s (I (pre ++ [x]))) := q
        show WP (match body ρ1 h with
          | .nx ρ' h' => if sameL s h' then forL s gf body (mp emb post) ρ' h' else .bad
          | .ct ρ' h' => if sameL s h' then forL s gf body (mp emb post) ρ' h' else .bad
          | .bk ρ' h' => .nx ρ' h'
          | .rt v h' => .rt v h'
          | .ex e ρ' h' => .ex e ρ' h'
          | .bad => .bad) D
        revert q
        generalize body ρ1 h = rb
        intro q
        cases rb with
        | nx ρ' h' =>
          obtain ⟨q1, q2⟩ := q
          simp only [q1, if_true]
          exact ih (pre ++ [x]) ρ' h' (by rw [e]; simp) q2
        | ct ρ' h' =>
          obtain ⟨q1, q2⟩ := q
          simp only [q1, if_true]
          exact ih (pre ++ [x]) ρ' h' (by rw [e]; simp) q2
        | bk ρ' h' => exact q
        | rt v h' => exact q
        | ex e ρ' h' => exact q
        | bad => exact q
  exact key xs [] ρ h rfl h0
/-- a loop whose turns leave the heap and all but some slots -/
theorem wp_pass {α J : Type} {emb : α → PV} {s : Src} {gf : GF} {body : SS} (E : J → En) (j : J) {xs : List α} (hs : sameL s h = true)
    (st : ∀ x ∈ xs, ∀ j, gW (gf (emb x) (E j)) fun ρ1 => WP (body ρ1 h) (D.lp s fun ρ' h' => h' = h ∧ ∃ j', ρ' = E j')) (en : ∀ j, D.nx (E j) h) : WP (forL s gf body (mp emb xs) (E j) h) D := by
  refine wp_for (fun _ ρ' h' => h' = h ∧ ∃ j', ρ' = E j') ⟨rfl, j, rfl⟩ (fun pre x post ρ' h' e i => ?_) fun ρ' h' i => ?_
  · obtain ⟨rfl, j', rfl⟩ := i
    exact st x (by rw [e]; simp) j'
  · obtain ⟨rfl, j', rfl⟩ := i
    exact en j'
/-- a comprehension -/
theorem wr_comp {α : Type} {emb : α → PV} {s : Src} {gf : GF} {ft : SB} {fe : SE} {ρ0 : En} {X : Ex → PH → Prop} {Q : List PV → PH → Prop} (p : α → Bool) (f : α → PV) (hs : sameL s h = true) {xs : List α}
    (st : ∀ x ∈ xs, gW (gf (emb x) ρ0) fun ρ1 => ft ρ1 h = .ok (p x) h ∧ (p x = true → fe ρ1 h = .ok (f x) h)) (en : Q (mp f (xs.filter p)) h) : WR (compL s gf ft fe ρ0 (mp emb xs) h) Q X := by
  have key : compL s gf ft fe ρ0 (mp emb xs) h = .ok (mp f (xs.filter p)) h := by
    refine compL_mem emb p f hs xs fun x hx => ?_
    have q := st x hx
    cases hg : gf (emb x) ρ0 with
    | none => rw [hg] at q; exact q.elim
    | some ρ1 => rw [hg] at q; exact ⟨ρ1, rfl, q.1, q.2⟩
  rw [key]
  exact en
/-- a comprehension whose test rolls: some of the items -/
theorem wr_sub {α : Type} {emb : α → PV} {s : Src} {gf : GF} {ft : SB} {fe : SE} {ρ0 : En} {X : Ex → PH → Prop} {Q : List PV → PH → Prop} (I : PH → Prop) (f : α → PV) (i0 : I h) {xs : List α}
    (st : ∀ x ∈ xs, ∀ h, I h → gW (gf (emb x) ρ0) fun ρ1 => WR (ft ρ1 h) (fun b h1 => sameL s h1 = true ∧ I h1 ∧ fe ρ1 h1 = .ok (f x) h1) fun _ _ => False) (en : ∀ ys h', ys.Sublist xs → I h' → Q (mp f ys) h') : WR (compL s gf ft fe ρ0 (mp emb xs) h) Q X := by
  obtain ⟨ys, h', y1, y2, y3⟩ := compL_sub emb f I (s := s) (g := gf) (ft := ft) (fe := fe) (ρ0 := ρ0) xs (fun x hx h i => by
    have q := st x hx h i
    cases hg : gf (emb x) ρ0 with
    | none => rw [hg] at q; exact q.elim
    | some ρ1 =>
      rw [hg] at q
      have q : WR (ft ρ1 h) (fun b h1 => sameL s h1 = true ∧ I h1 ∧ fe ρ1 h1 = .ok (f x) h1) fun _ _ => False := q
      cases hf : ft ρ1 h with
      | ok b h1 => rw [hf] at q; exact ⟨ρ1, b, h1, rfl, hf, q.1, q.2.1, q.2.2⟩
      | exc e h1 => rw [hf] at q; exact q.elim
      | bad => rw [hf] at q; exact q.elim) h i0
  rw [y3]
  exact en ys h' y1 y2
/-- a comprehension whose items are rolled -/
theorem wr_run {α β : Type} {emb : α → PV} {s : Src} {gf : GF} {fe : SE} {ρ0 : En} {X : Ex → PH → Prop} {Q : List PV → PH → Prop} (I : PH → Prop) (emb' : β → PV) (P : β → Prop) (i0 : I h) {xs : List α}
    (st : ∀ x ∈ xs, ∀ h, I h → gW (gf (emb x) ρ0) fun ρ1 => WR (fe ρ1 h) (fun v h1 => sameL s h1 = true ∧ I h1 ∧ ∃ y, v = emb' y ∧ P y) fun _ _ => False) (en : ∀ ys h', ys.length = xs.length → (∀ y ∈ ys, P y) → I h' → Q (mp emb' ys) h') : WR (compL s gf tyes fe ρ0 (mp emb xs) h) Q X := by
  obtain ⟨ys, h', y1, y2, y3, y4⟩ := compL_run emb emb' I P (s := s) (g := gf) (fe := fe) (ρ0 := ρ0) xs (fun x hx h i => by
    have q := st x hx h i
    cases hg : gf (emb x) ρ0 with
    | none => rw [hg] at q; exact q.elim
    | some ρ1 =>
      rw [hg] at q
      have q : WR (fe ρ1 h) (fun v h1 => sameL s h1 = true ∧ I h1 ∧ ∃ y, v = emb' y ∧ P y) fun _ _ => False := q
      cases hf : fe ρ1 h with
      | ok b h1 =>
        rw [hf] at q
        obtain ⟨q1, q2, y, rfl, q3⟩ := q
        exact ⟨ρ1, y, h1, rfl, hf, q1, q2, q3⟩
      | exc e h1 => rw [hf] at q; exact q.elim
      | bad => rw [hf] at q; exact q.elim) h i0
  rw [y4]
  exact en ys h' y1 y2 y3
theorem wr_roll {d : PO} (hd : die d = true) {n : Int} {k : Nat} (hk : n = (k : Int)) (h0 : 0 < k) (h1 : k < 1073741824) {Q : PV → PH → Prop} {X : Ex → PH → Prop} (q : ∀ (r : Nat) (d' : PO), r < k → die d' = true → Q (.int (r : Int)) (d' :: h)) : WR (m__law_roll [.loc 0, .int n] (d :: h)) Q X := by
  subst hk
  obtain ⟨r, d', hr, hd', e⟩ := roll1 hd k h h0 h1
  rw [e]
  exact q r d' hr hd'
theorem wr_use {α : Type} {x : R α} {a : α} {h' : PH} {Q : α → PH → Prop} {X : Ex → PH → Prop} (e : x = .ok a h') (q : Q a h') : WR x Q X := by rw [e]; exact q
theorem eq_wr {α : Type} {x : R α} {a : α} {h' : PH} (w : WR x (fun b k => b = a ∧ k = h') fun _ _ => False) : x = .ok a h' := by
  cases x with
  | ok b k => obtain ⟨rfl, rfl⟩ := w; rfl
  | exc e k => exact w.elim
  | bad => exact w.elim
/-- a def's end -/
theorem fin_wp {r : RS} {P : R PV → Prop} (w : WP r { nx := fun _ h => P (.ok .non h), rt := fun v h => P (.ok v h), ex := fun e h => P (.exc e h) }) : P (fin r) := by
  cases r <;> first | exact w | exact w.elim
theorem def_wp {r : RS} {md : Md} {n : Nat} {z : R PV} (w : WP r { nx := fun _ h => trimR md n (.ok .non h) = z, rt := fun v h => trimR md n (.ok v h) = z, ex := fun e h => trimR md n (.exc e h) = z }) : trimR md n (fin r) = z := fin_wp (P := fun x => trimR md n x = z) w
/-- the law's body -/
theorem chk_wp {N : Nat} {r : RS} (w : WP r { nx := fun ρ h => chk N (.nx ρ h) = true, ct := fun ρ h => chk N (.ct ρ h) = true }) : chk N r = true := by
  cases r <;> first | exact w | exact w.elim
end
end J

/-! Rankings: levels, turned, by scores; sorted texts; dicts changed. -/
namespace J
open PySem PySem.Spec PyProof.Rows L2
@[simp] theorem seqP_T {α : Type} (f : α → PV) (xs : List α) (h : PH) : seqP h (T f xs) = some (mp f xs) := nrfl rfl
@[simp] theorem seqP_L {α : Type} (f : α → PV) (xs : List α) (h : PH) : seqP h (Li f xs) = some (mp f xs) := nrfl rfl
@[simp] theorem tupRevO_T {α : Type} (f : α → PV) (xs : List α) (h : PH) : tupRevO (T f xs) h = some (T f xs.reverse) := by simp [tupRevO]
@[simp] theorem tupRevO_L {α : Type} (f : α → PV) (xs : List α) (h : PH) : tupRevO (Li f xs) h = some (T f xs.reverse) := by simp [tupRevO]
/-- the pairs of two rows -/
def zE {α β : Type} (f : α → PV) (g : β → PV) (p : α × β) : PV := .kt [f p.1, g p.2]
theorem zipL_mp {α β : Type} (f : α → PV) (g : β → PV) : ∀ (xs : List α) (ys : List β), zipL (mp f xs) (mp g ys) = mp (zE f g) (xs.zip ys)
  | [], ys => by simp [zipL]
  | x :: xs, [] => by simp [zipL, mp_cons]
  | x :: xs, y :: ys => by rw [mp_cons, mp_cons, List.zip_cons_cons, mp_cons, ← zipL_mp f g xs ys]; rfl
@[simp] theorem zipO_TT {α β : Type} (f : α → PV) (g : β → PV) (xs : List α) (ys : List β) : zipO (T f xs) (T g ys) = some ⟨mp (zE f g) (xs.zip ys), none⟩ := by
  show some (⟨zipL (mp f xs) (mp g ys), none⟩ : Src) = _
  rw [zipL_mp]
@[simp] theorem zipO_LL {α β : Type} (f : α → PV) (g : β → PV) (xs : List α) (ys : List β) : zipO (Li f xs) (Li g ys) = some ⟨mp (zE f g) (xs.zip ys), none⟩ := by
  show some (⟨zipL (mp f xs) (mp g ys), none⟩ : Src) = _
  rw [zipL_mp]
@[simp] theorem twoS_two (x y : PV) : twoS [x, y] = some (x, y) := nrfl rfl
@[simp] theorem izip_ev (g : SA) (ρ : En) (h : PH) : izip g ρ h = (g ρ h).bind fun vs h1 => R.of h1 ((twoS vs).bind fun p => zipO p.1 p.2) := nrfl rfl
theorem range_split {n : Nat} {pre post : List Nat} {k : Nat} (e : List.range n = pre ++ k :: post) : k = pre.length ∧ k < n := by
  have h1 := congrArg (fun l => l[pre.length]?) e
  have hl := congrArg List.length e
  simp at h1 hl
  rw [List.getElem?_range (by omega)] at h1
  simp at h1
  omega
theorem nodup_split {α : Type} {l pre post : List α} {x : α} (nd : l.Nodup) (e : l = pre ++ x :: post) : x ∉ pre ∧ x ∉ post := by
  rw [e, List.nodup_append, List.nodup_cons] at nd
  exact ⟨fun z => nd.2.2 x z x List.mem_cons_self rfl, nd.2.1.1⟩
/-! ### levels -/
theorem lvl_lt {x : Str} : ∀ {b : List (List Str)}, lvl b x < b.length ↔ x ∈ flat b
  | [] => by simp [lvl]
  | g :: b => by
    have ih := lvl_lt (x := x) (b := b)
    unfold lvl
    by_cases h : x ∈ g
    · simp [h]
    · simp only [h, if_false, List.length_cons, flat_cons, List.mem_append, false_or]
      rw [← ih]; omega
theorem lvl_out {x : Str} {b : List (List Str)} (h : x ∉ flat b) : lvl b x = b.length := by
  have h1 := lvl_le x b
  have h2 : ¬ lvl b x < b.length := fun z => h (lvl_lt.mp z)
  omega
theorem lvl_append {x : Str} : ∀ {a b : List (List Str)}, lvl (a ++ b) x = if x ∈ flat a then lvl a x else a.length + lvl b x
  | [], b => by simp
  | g :: a, b => by
    have ih := lvl_append (x := x) (a := a) (b := b)
    simp only [List.cons_append, lvl, flat_cons, List.mem_append, List.length_cons]
    by_cases h : x ∈ g
    · simp [h]
    · simp only [h, if_false, false_or, ih]
      split <;> omega
/-- the group at a name's level is the one that holds it -/
theorem lvl_of_mem {x : Str} : ∀ {b : List (List Str)} {k : Nat} {g : List Str}, (flat b).Nodup → b[k]? = some g → x ∈ g → lvl b x = k
  | [], k, g, _, e, _ => by simp at e
  | g0 :: b, 0, g, _, e, hx => by
    simp at e; subst e
    simp [lvl, hx]
  | g0 :: b, k + 1, g, nd, e, hx => by
    rw [flat_cons] at nd
    obtain ⟨_, h2, h3⟩ := List.nodup_append.mp nd
    have e' : b[k]? = some g := by simpa using e
    have hm : x ∈ flat b := (mem_flat b x).mpr ⟨g, List.mem_of_getElem? e', hx⟩
    have hn : x ∉ g0 := fun z => h3 x z x hm rfl
    simp only [lvl, hn, if_false]
    rw [lvl_of_mem h2 e' hx]; omega
theorem flat_reverse_mem {x : Str} {b : List (List Str)} : x ∈ flat b.reverse ↔ x ∈ flat b := by
  rw [mem_flat, mem_flat]; simp
theorem flat_nodup_reverse {b : List (List Str)} : (flat b).Nodup → (flat b.reverse).Nodup := by
  induction b with
  | nil => simp
  | cons g b ih =>
    intro h
    rw [flat_cons] at h
    obtain ⟨h1, h2, h3⟩ := List.nodup_append.mp h
    rw [List.reverse_cons, flat_append, List.nodup_append]
    refine ⟨ih h2, by simpa using h1, fun a ha c hc e => ?_⟩
    subst e
    have hc : a ∈ g := by simpa using hc
    exact h3 a hc a (flat_reverse_mem.mp ha) rfl
theorem lvl_reverse {x : Str} {b : List (List Str)} (nd : (flat b).Nodup) (hx : x ∈ flat b) : lvl b.reverse x = b.length - 1 - lvl b x := by
  have hl := lvl_lt.mpr hx
  obtain ⟨g, hg, hm⟩ := lvl_at x b hl
  refine lvl_of_mem (flat_nodup_reverse nd) (g := g) ?_ hm
  rw [List.getElem?_reverse (by omega)]
  rw [show b.length - 1 - (b.length - 1 - lvl b x) = lvl b x by omega]
  exact hg
/-! ### whole rankings -/
theorem mem_lfo {b : List (List Str)} {ns : List Str} {x : Str} : x ∈ lfo b ns ↔ x ∈ ns ∧ x ∉ flat b := by
  unfold lfo
  rw [List.mem_filter]; simp
theorem whole_mem {b : List (List Str)} {ns : List Str} (r : Rk b ns) {x : Str} : x ∈ flat (whole b ns) ↔ x ∈ ns := by
  unfold whole
  split
  · rename_i h
    refine ⟨r.mem, fun hx => ?_⟩
    by_cases q : x ∈ flat b
    · exact q
    · have : x ∈ lfo b ns := mem_lfo.mpr ⟨hx, q⟩
      rw [h] at this; cases this
  · rw [flat_append, List.mem_append]
    have : x ∈ flat [lfo b ns] ↔ x ∈ lfo b ns := by simp
    rw [this, mem_lfo]
    constructor
    · rintro (h | h)
      · exact r.mem h
      · exact h.1
    · intro h
      by_cases q : x ∈ flat b
      · exact .inl q
      · exact .inr ⟨h, q⟩
theorem whole_rk {b : List (List Str)} {ns : List Str} (hn : ns.Nodup) (r : Rk b ns) : Rk (whole b ns) ns := by
  unfold whole
  split
  · exact r
  · rename_i h
    refine ⟨fun g hg => ?_, ?_, fun g hg => ?_⟩
    · rcases List.mem_append.mp hg with hg | hg
      · exact r.ne g hg
      · rw [List.mem_singleton.mp hg]; exact h
    · rw [flat_append, List.nodup_append]
      refine ⟨r.nd, by rw [show flat [lfo b ns] = lfo b ns by simp]; exact hn.filter _, fun a ha c hc e => ?_⟩
      subst e
      have hc : a ∈ lfo b ns := by simpa using hc
      exact (mem_lfo.mp hc).2 ha
    · rcases List.mem_append.mp hg with hg | hg
      · exact r.sub g hg
      · rw [List.mem_singleton.mp hg]; exact List.filter_sublist
theorem whole_lvl {b : List (List Str)} {ns : List Str} (r : Rk b ns) {x : Str} (hx : x ∈ ns) : lvl (whole b ns) x = lvl b x := by
  unfold whole
  split
  · rfl
  · rw [lvl_append]
    split
    · rfl
    · rename_i h
      rw [lvl_out h]
      have : x ∈ lfo b ns := mem_lfo.mpr ⟨hx, h⟩
      simp [lvl, this]
/-- a group in the order of the names is what the names tell of it -/
theorem group_filter {ns : List Str} (hn : ns.Nodup) {g : List Str} (hs : g.Sublist ns) : ns.filter (fun x => decide (x ∈ g)) = g := by
  induction hs with
  | slnil => rfl
  | @cons l₁ l₂ a h ih =>
    rw [List.nodup_cons] at hn
    rw [List.filter_cons]
    have : a ∉ l₁ := fun z => hn.1 (h.subset z)
    simp only [this, decide_false, Bool.false_eq_true, if_false]
    exact ih hn.2
  | @cons_cons l₁ l₂ a h ih =>
    rw [List.nodup_cons] at hn
    rw [List.filter_cons]
    simp only [List.mem_cons, true_or, decide_true, if_true]
    congr 1
    rw [← ih hn.2]
    refine List.filter_congr fun x hx => ?_
    have : x ≠ a := fun z => hn.1 (z ▸ hx)
    have h2 := ih hn.2
    rw [h2]
    simp [this]
theorem group_lvl {b : List (List Str)} {ns : List Str} (hn : ns.Nodup) (r : Rk b ns) {k : Nat} {g : List Str} (e : b[k]? = some g) : ns.filter (fun x => decide (lvl b x = k)) = g := by
  rw [← group_filter hn (r.sub g (List.mem_of_getElem? e))]
  rw [← group_filter hn (r.sub g (List.mem_of_getElem? e))]
  refine List.filter_congr fun x hx => ?_
  rw [group_filter hn (r.sub g (List.mem_of_getElem? e)), decide_eq_decide]
  refine ⟨fun h => ?_, fun h => lvl_of_mem r.nd e h⟩
  have hl : lvl b x < b.length := by rw [h]; exact (List.getElem?_eq_some_iff.mp e).1
  obtain ⟨g', h1, h2⟩ := lvl_at x b hl
  rw [h, e] at h1
  cases h1
  exact h2
/-! ### dicts by texts, changed -/
theorem Di_congr {f g : Str → PV} {xs : List Str} (h : ∀ x ∈ xs, f x = g x) : Di f xs = Di g xs := by
  unfold Di
  rw [mp_congr h]
theorem dset_mp {f : Str → PV} {x : Str} {v : PV} : ∀ {xs : List Str}, xs.Nodup → dset (mp PV.str xs) (mp f xs) (.str x) v = mp (fun y => if y = x then v else f y) xs
  | [], _ => rfl
  | y :: xs, nd => by
    rw [List.nodup_cons] at nd
    rw [mp_cons, mp_cons, mp_cons]
    show (if beqP (.str y) (.str x) then v :: mp f xs else f y :: dset (mp PV.str xs) (mp f xs) (.str x) v) = _
    by_cases h : y = x
    · subst h
      rw [if_pos (beqP_refl _), if_pos rfl]
      congr 1
      refine mp_congr fun z hz => ?_
      rw [if_neg (fun e => nd.1 (by rw [← e]; exact hz))]
    · rw [if_neg (fun e => h (by cases beqP_eq _ _ e; rfl)), if_neg h, dset_mp nd.2]
theorem setD_old {f : Str → PV} {xs : List Str} {n : Nat} {x : Str} {v : PV} {h : PH} (e : h[n]? = some (Di f xs)) (nd : xs.Nodup) (hx : x ∈ xs) (hz : xs.length < sizeLine) : setD (.loc n) (.str x) v h = some (h.set n (Di (fun y => if y = x then v else f y) xs)) := by
  have d := dfind_yes (f := f) hx
  unfold setD
  simp only [e, Di, kOk, keyOf, Option.isSome_some, Bool.true_and, mp_length, decide_eq_true hz, if_true, dputK, dputV, d]
  rw [dset_mp nd]
/-! ### sorted texts -/
theorem leP_str (a b : Str) : leP false (.str a) (.str b) = decide (a.cps.toList ≤ b.cps.toList) := by
  have := congrFun (congrFun (PySem.W.dataLe_str (fun b : Str => b)) a) b
  exact this
theorem leP_int (rev : Bool) (a b : Int) : leP rev (.int a) (.int b) = if rev then decide (b ≤ a) else decide (a ≤ b) := by
  cases rev with
  | false => exact congrFun (congrFun (PySem.W.dataLe_int (fun b : Int => b)) a) b
  | true => exact congrFun (congrFun (PySem.W.dataGe_int (fun b : Int => b)) a) b
theorem alike_str (a b : Str) : PySem.W.alike (.str a) (.str b) = true := by simp [PySem.W.alike]
theorem alike_int (a b : Int) : PySem.W.alike (.int a) (.int b) = true := by simp [PySem.W.alike]

theorem sortOk_of {α : Type} {f : α → PV} {xs : List α} (hd : ∀ x, dle DEPTH (f x) = true) (ha : ∀ x y, PySem.W.alike (toD (f x)) (toD (f y)) = true) (hs : ∀ x, (match toD (f x) with | .none => false | .tuple _ => false | _ => true) = true) : sortOk (mp f xs) = true := by
  simp only [sortOk, Bool.and_eq_true]
  refine ⟨⟨?_, ?_⟩, ?_⟩
  · rw [dles_all, List.all_eq_true]
    intro y hy
    obtain ⟨x, _, rfl⟩ := (mem_mp f xs).mp hy
    exact hd x
  · simp only [alikeA, toDs_map, List.all_eq_true]
    intro y hy z hz
    obtain ⟨y', hy', rfl⟩ := List.mem_map.mp hy
    obtain ⟨z', hz', rfl⟩ := List.mem_map.mp hz
    obtain ⟨x, _, rfl⟩ := (mem_mp f xs).mp hy'
    obtain ⟨x', _, rfl⟩ := (mem_mp f xs).mp hz'
    exact ha x x'
  · simp only [sortableB, toDs_map, Bool.or_eq_true, List.all_eq_true]
    refine .inr fun y hy => ?_
    obtain ⟨y', hy', rfl⟩ := List.mem_map.mp hy
    obtain ⟨x, _, rfl⟩ := (mem_mp f xs).mp hy'
    exact hs x
theorem sortP_of {α : Type} {f : α → PV} {le : α → α → Bool} {rev : Bool} {xs : List α} (ok : sortOk (mp f xs) = true) (hle : ∀ x y, le x y = leP rev (f x) (f y)) : sortP rev (mp f xs) = some (mp f (srt le xs)) := by
  unfold sortP
  rw [if_pos ok, mp_eq, mp_eq, ← srt_map (r := le) (s := leP rev) f hle xs]
def ordI (rev : Bool) (a b : Int) : Bool := if rev then decide (b ≤ a) else decide (a ≤ b)
def ordS (a b : Str) : Bool := decide (a.cps.toList ≤ b.cps.toList)
@[simp] theorem sortP_int (rev : Bool) (ns : List Int) : sortP rev (mp PV.int ns) = some (mp PV.int (srt (ordI rev) ns)) :=
  sortP_of (sortOk_of (fun _ => rfl) (fun x y => alike_int x y) (fun _ => rfl)) fun x y => (leP_int rev x y).symm
@[simp] theorem sortP_str (ns : List Str) : sortP false (mp PV.str ns) = some (mp PV.str (srt ordS ns)) :=
  sortP_of (sortOk_of (fun _ => rfl) (fun x y => alike_str x y) (fun _ => rfl)) fun x y => (leP_str x y).symm
@[simp] theorem sortedD_of {rev : Bool} {x : PV} {h : PH} : sortedD rev [x] h = match seqP h x with | some ys => (sortP rev ys).map .lst | none => none := nrfl rfl
@[simp] theorem sortR_ev (b : Bool) (g : SA) (ρ : En) (h : PH) : sortR b g ρ h = cal (sortedD b) g ρ h := nrfl rfl
theorem seqP_loc {h : PH} {n : Nat} {xs : List PV} (e : h[n]? = some (.lst xs)) : seqP h (.loc n) = some xs := by
  unfold seqP
  rw [rd_locE e]
theorem ninJ_loc {h : PH} {n : Nat} {xs : List PV} (e : h[n]? = some (.lst xs)) (v : PV) : ninJ v (.loc n) h = ninJ v (.lst xs) h := by
  have h1 : itemsOf h (.loc n) = itemsOf h (.lst xs) := by rw [itemsOf_loc h xs n e]; rfl
  show ninO v (.loc n) h = ninO v (.lst xs) h
  unfold ninO
  rw [h1]
theorem insP_perm {α : Type} {le : α → α → Bool} (a : α) : ∀ l : List α, (insP le a l).Perm (a :: l)
  | [] => List.Perm.refl _
  | b :: l => by
    unfold insP
    split
    · exact List.Perm.refl _
    · exact ((insP_perm a l).cons b).trans (List.Perm.swap a b l)
theorem srt_perm {α : Type} {le : α → α → Bool} : ∀ l : List α, (srt le l).Perm l
  | [] => List.Perm.refl _
  | a :: l => (insP_perm a (srt le l)).trans ((srt_perm l).cons a)
theorem srt_pairwise {α : Type} {le : α → α → Bool} (tr : ∀ a b c, le a b = true → le b c = true → le a c = true) (tt : ∀ a b, le a b = true ∨ le b a = true) (l : List α) : (srt le l).Pairwise fun a b => le a b = true := by
  have T : PySem.W.TotalLe le := ⟨tr, tt⟩
  rw [← srt_merge T]
  exact PySem.W.sort_pairwise T l
/-- two sorted lists of the same things are one -/
theorem sorted_one {α : Type} {le : α → α → Bool} (anti : ∀ a b, le a b = true → le b a = true → a = b) : ∀ {l m : List α}, l.Pairwise (fun a b => le a b = true) → m.Pairwise (fun a b => le a b = true) → l.Perm m → l = m := by
  intro l m hl hm hp
  exact List.Perm.eq_of_pairwise (fun a b _ _ h1 h2 => anti a b h1 h2) hl hm hp
theorem ordI_tr (rev : Bool) : ∀ a b c, ordI rev a b = true → ordI rev b c = true → ordI rev a c = true := by
  intro a b c; cases rev <;> simp [ordI] <;> omega
theorem ordI_tt (rev : Bool) : ∀ a b, ordI rev a b = true ∨ ordI rev b a = true := by
  intro a b; cases rev <;> simp [ordI] <;> omega
theorem ordI_anti (rev : Bool) : ∀ a b, ordI rev a b = true → ordI rev b a = true → a = b := by
  intro a b; cases rev <;> simp [ordI] <;> omega
theorem ordS_tr : ∀ a b c, ordS a b = true → ordS b c = true → ordS a c = true := by
  intro a b c; simp only [ordS, decide_eq_true_eq]; exact List.le_trans
theorem ordS_tt : ∀ a b, ordS a b = true ∨ ordS b a = true := by
  intro a b; simp only [ordS, decide_eq_true_eq]; exact List.le_total _ _
theorem ordS_anti : ∀ a b, ordS a b = true → ordS b a = true → a = b := by
  intro a b; simp only [ordS, decide_eq_true_eq]
  intro h1 h2
  have := List.le_antisymm h1 h2
  cases a; cases b
  simp only [Str.mk.injEq]
  exact Array.toList_inj.mp this
theorem srtS_perm {l m : List Str} (h : l.Perm m) : srt ordS l = srt ordS m :=
  sorted_one ordS_anti (srt_pairwise ordS_tr ordS_tt l) (srt_pairwise ordS_tr ordS_tt m) ((srt_perm l).trans (h.trans (srt_perm m).symm))
theorem srtI_of {rev : Bool} {l m : List Int} (h : l.Perm m) (hm : m.Pairwise fun a b => ordI rev a b = true) : srt (ordI rev) l = m :=
  sorted_one (ordI_anti rev) (srt_pairwise (ordI_tr rev) (ordI_tt rev) l) hm ((srt_perm l).trans h)
end J

set_option maxHeartbeats 1000000
/-! J: objects learnt behind a call; tuple(zip(a, b)). -/
namespace J
open PySem PySem.Spec PyProof.Rows L2
theorem Inv.learn {X : Cx} {pins : List (Addr × Obj)} {σ : L2.St} {H : Hp} {s : Shared} {b : Addr} {o : HO} (I : L2.Inv X pins σ H s) (f : FpOk X pins H b) (ok : ObjOk X.prog X.w (upd H b o) s.heap b o) : L2.Inv X pins σ (upd H b o) s := by
  have ne : ∀ c u, H c = some u → c ≠ b := fun c u e => ne_of_none e f.1
  refine I.step (h' := s.heap) (g' := s.gens) (t' := s.toks) (d' := s.drawn) (ch := [b]) (fun c hc => ?_) (fun c u _ _ _ e _ => e) (fun c u _ _ _ e _ => ⟨u.slots, e⟩) (fun c u hc e n => by rw [upd_ne (fun z => hc (by simp [z]))]; exact n) (fun c u _ e => ⟨u, e⟩)
    (fun c xs e => by rw [upd_ne (ne c _ e)]; exact e) (fun c u v e => by rw [upd_ne (ne c _ e)]; exact e) (fun c ps e => ⟨#[], by rw [upd_ne (ne c _ e), e]; simp⟩) (fun m hm => hm) (fun c u e => ?_) I.bare
  · rw [List.mem_singleton.mp hc]
    exact ⟨f.2.2.2.1, f.2.1, f.2.2.2.2.1, f.2.2.2.2.2⟩
  · by_cases z : c = b
    · subst z
      rw [upd_same] at e
      cases e
      exact ok
    · rw [upd_ne z] at e
      exact (I.hok c u e).stay (fun _ _ _ q => q) (fun d q => by rw [upd_ne (ne d _ q)]; exact q) fun d xs q => by rw [upd_ne (ne d _ q)]; exact q
end J
namespace ZC
open PySem PySem.Spec PyProof.Rows
open Sem (wp)
theorem zip_nolen : typeLookup (.type "zip") "__len__" = pure none := by rw [typeLookup_type, builtinLookup_eq_fast]; kernel_rfl
theorem zip_nohint : typeLookup (.type "zip") "__length_hint__" = pure none := by rw [typeLookup_type, builtinLookup_eq_fast]; kernel_rfl
/-- what has been gathered in the list at S: new pairs -/
structure Out (B : Nat) (S : Addr) (xs ys : Array Value) (i : Nat) (acc : Array Value) (c : Nat) (h : Heap) : Prop where
  at_ : h.get? S = some { cls := .type "list", dict := none, data := .seq acc c, slots := #[] }
  sz : acc.size = i
  all : ∃ f : Nat → Addr, (∀ j k, j < k → k < i → f j < f k) ∧ ∀ j, j < i → ∃ x y, acc[j]? = some (.ref (f j)) ∧ xs[j]? = some x ∧ ys[j]? = some y ∧ IsPair h (f j) x y ∧ B ≤ f j
structure St (B : Nat) (z TI TO i1 i2 l1 l2 : Addr) (xs ys : Array Value) (i : Nat) (h0 h : Heap) (S : Addr) : Prop where
  p : IsPair h TI (.ref i1) (.ref i2)
  a1 : h.IsListIter i1 l1 i
  a2 : h.IsListIter i2 l2 i
  b1 : h.IsList l1 xs
  b2 : h.IsList l2 ys
  zz : (IsZip h z TI TO .none ∧ ∃ a b, IsPair h TO a b) ∨ ∃ T f oT, IsZipHeld h z TI TO T f ∧ h.get? T = some oT ∧ B ≤ T
  kp : ∀ b o, b ∉ [z, TO, i1, i2, S] → h0.get? b = some o → h.get? b = some o
  sz : B ≤ h.objs.size
section
variable {prog : Program} {w : World} {A : Around} {E : Value → Shared → Prop} {s : Shared} {R : Result → Shared → Prop}
theorem loop {B : Nat} {z TI TO i1 i2 l1 l2 S : Addr} {xs ys : Array Value} {h0 : Heap} {res : Value} (D : ZipApart z TI TO i1 i2 l1 l2) (hh : A.handled = none) (hn : min xs.size ys.size ≤ sizeLine) (lt : z < B ∧ TO < B ∧ i1 < B ∧ i2 < B ∧ S < B)
    (ne : S ≠ z ∧ S ≠ TI ∧ S ≠ TO ∧ S ≠ i1 ∧ S ≠ i2 ∧ S ≠ l1 ∧ S ≠ l2)
    (hR : ∀ h acc c, Out B S xs ys (min xs.size ys.size) acc c h → (∀ b o, b ∉ [z, TO, i1, i2, S] → h0.get? b = some o → h.get? b = some o) → R (.ok (.ret res)) { s with heap := h }) :
    ∀ (k i : Nat) (acc : Array Value) (c : Nat) (h : Heap), min xs.size ys.size - i = k → i ≤ min xs.size ys.size → Out B S xs ys i acc c h → St B z TI TO i1 i2 l1 l2 xs ys i h0 h S →
      codeAny (model prog w) A (.builtin "list.extend.loop" ⟨[.ref S, .ref z, res], []⟩) R { s with heap := h } := by
  obtain ⟨ltz, ltTO, lt1, lt2, ltS⟩ := lt
  obtain ⟨nz, nTI, nTO, n1, n2, nl1, nl2⟩ := ne
  have big : ∀ {T b : Nat}, B ≤ T → b < B → T ≠ b := fun {T b} h1 h2 => by omega
  intro k
  induction k with
  | zero =>
    intro i acc c h hk hi o st
    have hin : i = min xs.size ys.size := by omega
    refine codeAny_builtin F.entry_extend_loop ?_
    rw [Around.under_plainId F.plain_extend_loop _]
    show wpAny _ A.in1 (pyNext (.ref z) >>= _) _ _ _
    have hend : xs[i]? = none ∨ ys[i]? = none := by
      rcases Nat.le_total xs.size ys.size with q | q
      · exact .inl (Array.getElem?_eq_none (by omega))
      · exact .inr (Array.getElem?_eq_none (by omega))
    have fin : ∀ h' : Heap, (∀ b ob, b ≠ z → b ≠ TO → b ≠ i1 → b ≠ i2 → h.get? b = some ob → h'.get? b = some ob) → R (.ok (.ret res)) { s with heap := h' } := fun h' hk' => by
      refine hR h' acc c ⟨hk' _ _ nz nTO n1 n2 o.at_, by rw [o.sz, hin], ?_⟩ fun b ob hb e => ?_
      · obtain ⟨f, f1, f2⟩ := o.all
        refine ⟨f, fun j k h1 h2 => f1 j k h1 (by omega), fun j hj => ?_⟩
        obtain ⟨x, y, q1, q2, q3, q4, q5⟩ := f2 j (by omega)
        exact ⟨x, y, q1, q2, q3, hk' _ _ (big q5 ltz) (big q5 ltTO) (big q5 lt1) (big q5 lt2) q4, q5⟩
      · simp only [List.mem_cons, List.not_mem_nil, or_false, not_or] at hb
        exact hk' _ _ hb.1 hb.2.1 hb.2.2.1 hb.2.2.2.1 (st.kp b ob (by simp [hb]) e)
    rcases st.zz with ⟨hz, a, b, hTO⟩ | ⟨T, f, oT, hz, hT, r⟩
    · exact wpAny_bind (wpAny_pyNext_zip_end (s := { s with heap := h }) hh D hz st.p hTO st.a1 st.a2 st.b1 st.b2 hend fun h' hk' => wpAny_pure (fin h' hk'))
    · exact wpAny_bind (wpAny_pyNext_zip_end_held (s := { s with heap := h }) hh D hz hT st.p st.a1 st.a2 st.b1 st.b2 hend fun h' hk' => wpAny_pure (fin h' fun b ob q1 _ q3 q4 e => hk' b ob q1 q3 q4 e))
  | succ k ih =>
    intro i acc c h hk hi o st
    have hix : i < xs.size := by omega
    have hiy : i < ys.size := by omega
    have ex := Array.getElem?_eq_getElem hix
    have ey := Array.getElem?_eq_getElem hiy
    refine codeAny_builtin F.entry_extend_loop ?_
    rw [Around.under_plainId F.plain_extend_loop _]
    show wpAny _ A.in1 (pyNext (.ref z) >>= _) _ _ _
    have go : ∀ (T : Addr) (h' : Heap), T = h.objs.size → B ≤ T → T < h'.objs.size → (∀ b ob, b ≠ z → b ≠ TO → b ≠ i1 → b ≠ i2 → h.get? b = some ob → h'.get? b = some ob) → IsPair h' T xs[i] ys[i] → h'.IsListIter i1 l1 (i + 1) → h'.IsListIter i2 l2 (i + 1) →
        (∃ T f oT, IsZipHeld h' z TI TO T f ∧ h'.get? T = some oT ∧ B ≤ T) → wpAny (model prog w) A.in1 (updateSeq S (·.push (.ref T)) >>= fun _ => again (.builtin "list.extend.loop" ⟨[.ref S, .ref z, res], []⟩)) (fun fin s' => match fin with | .done fl => R (.ok fl) s' | .again code => code.quiet = true ∧ codeAny (model prog w) A code R s') (fun e s' => R (.error e) s') { s with heap := h' } := by
      intro T h' hTe hB hTs hk' hp g1 g2 ⟨T2, f, oT, z1, z2, z3⟩
      have hS' := hk' _ _ nz nTO n1 n2 o.at_
      refine wpAny_bind (wpAny_updateSeq hS' rfl (wpAny_pure ⟨plainId_quiet F.plain_extend_loop _, ?_⟩) (by rw [o.sz]; omega) (by show (acc.push _).size ≤ sizeLine + 1; rw [Array.size_push, o.sz]; omega))
      have up : ∀ b ob, b ≠ S → h'.get? b = some ob → (h'.update S (Obj.mapSeq (·.push (.ref T)))).get? b = some ob := fun b ob hb e => (Heap.get?_update_other _ _ (Ne.symm hb)).trans e
      refine ih (i + 1) (acc.push (.ref T)) _ _ (by omega) (by omega) ⟨Heap.get?_update_self _ hS' rfl, by rw [Array.size_push, o.sz], ?_⟩ ⟨up _ _ (Ne.symm nTI) (hk' _ _ D.TIz D.TITO D.TIi1 D.TIi2 st.p), g1.at fun ob e => up _ _ (Ne.symm n1) e, g2.at fun ob e => up _ _ (Ne.symm n2) e,
        st.b1.at fun ob e => up _ _ (Ne.symm nl1) (hk' _ _ D.l1z D.l1TO D.l1i1 D.l1i2 e), st.b2.at fun ob e => up _ _ (Ne.symm nl2) (hk' _ _ D.l2z D.l2TO D.l2i1 D.l2i2 e), .inr ⟨T2, f, oT, up _ _ (Ne.symm nz) z1, up _ _ (big z3 ltS) z2, z3⟩, fun b ob hb e => ?_, ?_⟩
      · obtain ⟨f, f1, f2⟩ := o.all
        have lo : ∀ j, j < i → f j < T := fun j hj => by
          obtain ⟨x, y, q1, q2, q3, q4, q5⟩ := f2 j hj
          rw [hTe]; exact Heap.lt_size q4
        obtain ⟨g, gT, gf⟩ : ∃ g : Nat → Addr, g i = T ∧ ∀ j, j ≠ i → g j = f j := ⟨fun j => if j = i then T else f j, if_pos rfl, fun j hj => if_neg hj⟩
        refine ⟨g, fun j k h1 h2 => ?_, fun j hj => ?_⟩
        · rw [gf j (by omega)]
          by_cases hki : k = i
          · rw [hki, gT]; exact lo j (by omega)
          · rw [gf k hki]; exact f1 j k h1 (by omega)
        · by_cases hji : j = i
          · subst hji
            rw [gT]
            exact ⟨xs[j], ys[j], by rw [← o.sz]; exact Array.getElem?_push_size .., ex, ey, up _ _ (big hB ltS) hp, hB⟩
          · obtain ⟨x, y, q1, q2, q3, q4, q5⟩ := f2 j (by omega)
            rw [gf j hji]
            refine ⟨x, y, ?_, q2, q3, up _ _ (big q5 ltS) (hk' _ _ (big q5 ltz) (big q5 ltTO) (big q5 lt1) (big q5 lt2) q4), q5⟩
            rw [Array.getElem?_push_lt (by rw [o.sz]; omega)]
            rw [Array.getElem?_eq_getElem (by rw [o.sz]; omega)] at q1
            exact q1
      · simp only [List.mem_cons, List.not_mem_nil, or_false, not_or] at hb
        exact up _ _ hb.2.2.2.2 (hk' _ _ hb.1 hb.2.1 hb.2.2.1 hb.2.2.2.1 (st.kp b ob (by simp [hb]) e))
      · rw [Heap.size_update]; exact Nat.le_trans hB (Nat.le_of_lt hTs)
    rcases st.zz with ⟨hz, a, b, hTO⟩ | ⟨T, f, oT, hz, hT, r⟩
    · refine wpAny_bind (wpAny_pyNext_zip_item (s := { s with heap := h }) D hz st.p hTO st.a1 st.a2 st.b1 st.b2 ex ey fun h' q1 q2 q3 q4 q5 q6 hk' => ?_)
      exact go h.objs.size h' rfl st.sz (Heap.lt_size q5) hk' q5 q3 q4 ⟨_, false, _, q1, q5, st.sz⟩
    · refine wpAny_bind (wpAny_pyNext_zip_item_held (s := { s with heap := h }) D hz hT st.p st.a1 st.a2 st.b1 st.b2 ex ey fun h' q1 q3 q4 q5 q6 hk' => ?_)
      exact go h.objs.size h' rfl st.sz (Heap.lt_size q5) (fun b ob w1 _ w3 w4 e => hk' b ob w1 w3 w4 e) q5 q3 q4 ⟨T, true, oT, q1, hk' _ _ (big r ltz) (big r lt1) (big r lt2) hT, r⟩
theorem collects {z TI TO i1 i2 l1 l2 : Addr} {xs ys : Array Value} {a b : Value} {Q : List Value → Shared → Prop} (D : ZipApart z TI TO i1 i2 l1 l2) (hh : A.handled = none) (hn : min xs.size ys.size ≤ sizeLine)
    (hz : IsZip s.heap z TI TO .none) (hp : IsPair s.heap TI (.ref i1) (.ref i2)) (hTO : IsPair s.heap TO a b) (a1 : s.heap.IsListIter i1 l1 0) (a2 : s.heap.IsListIter i2 l2 0) (b1 : s.heap.IsList l1 xs) (b2 : s.heap.IsList l2 ys)
    (hQ : ∀ (h : Heap) (acc : Array Value) (f : Nat → Addr), acc.size = min xs.size ys.size → (∀ j k, j < k → k < min xs.size ys.size → f j < f k) → (∀ j, j < min xs.size ys.size → ∃ x y, acc[j]? = some (.ref (f j)) ∧ xs[j]? = some x ∧ ys[j]? = some y ∧ IsPair h (f j) x y ∧ s.heap.objs.size < f j) →
      (∀ b o, b ∉ [z, TO, i1, i2] → s.heap.get? b = some o → h.get? b = some o) → Q acc.toList { s with heap := h }) : wpAny (model prog w) A (collect (.ref z)) Q E s := by
  have lz : z < s.heap.objs.size := Heap.lt_size hz
  have lT : TO < s.heap.objs.size := Heap.lt_size hTO
  have lI : TI < s.heap.objs.size := Heap.lt_size hp
  have l1' : i1 < s.heap.objs.size := let ⟨_, e, _⟩ := a1; Heap.lt_size e
  have l2' : i2 < s.heap.objs.size := let ⟨_, e, _⟩ := a2; Heap.lt_size e
  have m1' : l1 < s.heap.objs.size := let ⟨_, e, _⟩ := b1; Heap.lt_size e
  have m2' : l2 < s.heap.objs.size := let ⟨_, e, _⟩ := b2; Heap.lt_size e
  generalize hS : s.heap.objs.size = S at *
  have push : ∀ b o, s.heap.get? b = some o → (s.heap.push { cls := .type "list", data := .seq ([] : List Value).toArray }).get? b = some o := fun b o e => Heap.get?_push_of_some _ e
  have hS1 : (s.heap.push { cls := .type "list", data := .seq ([] : List Value).toArray }).get? S = some { cls := .type "list", data := .seq ([] : List Value).toArray } := by rw [← hS]; exact Heap.get?_push_size _ rfl
  unfold collect
  refine wpAny_bind (wpAny_runValue (codeAny_builtin F.entry_proto_collect ?_))
  rw [Around.under_plainId F.plain_proto_collect _]
  show wpAny _ A.in1 (newList [] >>= fun l' => again (.builtin "list.__iadd__" ⟨[l', .ref z], []⟩)) _ _ s
  refine wpAny_bind (wpAny_newObj_type ?_)
  rw [hS]
  refine wpAny_pure ⟨plainId_quiet F.plain_list_iadd _, codeAny_builtin F.entry_list_iadd ?_⟩
  rw [Around.under_plainId F.plain_list_iadd _]
  have hT : ({ s with heap := s.heap.push { cls := .type "list", data := .seq ([] : List Value).toArray } } : Shared).TypeIs (.ref z) "zip" := ⟨_, push _ _ hz, rfl⟩
  have nSz : S ≠ z := Nat.ne_of_gt lz
  have h1 : Builtin.List.listSameRef (.ref S) (.ref z) = false := by simp [Builtin.List.listSameRef, nSz]
  show wpAny _ A.in1 (Builtin.List.listExtendWith (.ref S) (.ref z) (.ref S)) _ _ _
  unfold Builtin.List.listExtendWith
  refine wpAny_bind (wpAny_typeOf hT ?_)
  have h2 : (Value.type "zip" == Value.type "list") = false := by decide
  have h3 : (Value.type "zip" == Value.type "tuple") = false := by decide
  simp only [h1, h2, h3, Bool.or_false, Bool.false_eq_true, if_false]
  refine wpAny_bind (wpAny_pyIter_zip (s := { s with heap := s.heap.push { cls := .type "list", data := .seq ([] : List Value).toArray } }) (push _ _ hz) ?_)
  refine wpAny_bind (wpAny_holding ?_)
  unfold Builtin.List.listLengthHint
  refine wpAny_bind (wpAny_specialOf hT zip_nolen ?_)
  show wpAny _ A.in1 (specialOf (Value.ref z) (Str.ofString "__length_hint__") >>= _) _ _ _
  refine wpAny_bind (wpAny_specialOf hT zip_nohint ?_)
  refine wpAny_pure ?_
  refine wpAny_bind (wpAny_rule ?_)
  unfold Builtin.List.listTouch
  refine wpAny_bind (wpAny_bind (listUpdate_at (s := { s with heap := s.heap.push { cls := .type "list", data := .seq ([] : List Value).toArray } }) hS1 rfl ?_ (by decide) (by decide)))
  have hS2 := get?_update_seq (h := s.heap.push { cls := .type "list", data := .seq ([] : List Value).toArray }) (a := S) hS1 (fun x => x.push Value.none)
  refine listUpdate_at (s := { s with heap := (s.heap.push { cls := .type "list", data := .seq ([] : List Value).toArray }).update S (Obj.mapSeq fun x => x.push Value.none) }) hS2 rfl ?_ (by decide) (by decide)
  have hS3 := get?_update_seq (a := S) hS2 (fun x => x.pop)
  have keep : ∀ b o, b ≠ S → s.heap.get? b = some o → (((s.heap.push { cls := .type "list", data := .seq ([] : List Value).toArray }).update S (Obj.mapSeq fun x => x.push Value.none)).update S (Obj.mapSeq fun x => x.pop)).get? b = some o := fun b o hb e =>
    (Heap.get?_update_other _ _ (Ne.symm hb)).trans ((Heap.get?_update_other _ _ (Ne.symm hb)).trans (push b o e))
  have ne' : ∀ {b : Nat}, b < S → b ≠ S := fun q => Nat.ne_of_lt q
  refine wpAny_pure ⟨plainId_quiet F.plain_extend_loop _, loop (B := S + 1) (h0 := s.heap) D hh hn ⟨Nat.lt_succ_of_lt lz, Nat.lt_succ_of_lt lT, Nat.lt_succ_of_lt l1', Nat.lt_succ_of_lt l2', Nat.lt_succ_self S⟩ ⟨nSz, Nat.ne_of_gt lI, Nat.ne_of_gt lT, Nat.ne_of_gt l1', Nat.ne_of_gt l2', Nat.ne_of_gt m1', Nat.ne_of_gt m2'⟩ ?_ (min xs.size ys.size) 0 #[] _ _ (by omega) (by omega) ⟨hS3, rfl, fun _ => 0, fun _ k _ hk => by omega, fun j hj => by omega⟩
    ⟨keep _ _ (ne' lI) hp, a1.at fun o e => keep _ _ (ne' l1') e, a2.at fun o e => keep _ _ (ne' l2') e, b1.at fun o e => keep _ _ (ne' m1') e, b2.at fun o e => keep _ _ (ne' m2') e, .inl ⟨keep _ _ (ne' lz) hz, a, b, keep _ _ (ne' lT) hTO⟩, fun b o hb e => keep b o (ne' (by rw [← hS]; exact Heap.lt_size e)) e, by rw [Heap.size_update, Heap.size_update, Heap.size_push, hS]; exact Nat.le_refl _⟩⟩
  intro h acc c o kp
  obtain ⟨f, f1, f2⟩ := o.all
  show wpAny _ A (load S >>= _) _ _ _
  refine wpAny_bind (wpAny_load o.at_ ?_)
  refine wpAny_pure (hQ h acc f o.sz f1 (fun j hj => f2 j hj) fun b ob hb e => kp b ob ?_ e)
  have : b ≠ S := ne' (by rw [← hS]; exact Heap.lt_size e)
  simp only [List.mem_cons, List.not_mem_nil, or_false, not_or] at hb ⊢
  exact ⟨hb.1, hb.2.1, hb.2.2.1, hb.2.2.2, this⟩
theorem new_tuple {z : Addr} {Q1 : Value → Shared → Prop} (hT : s.TypeIs (.ref z) "zip") (hc : ∀ Q : List Value → Shared → Prop, (∀ (h : Heap) (acc : Array Value), Q1 (.ref h.objs.size) { s with heap := h.push { cls := .type "tuple", data := .seq acc } } → acc.size ≤ sizeLine → Q acc.toList { s with heap := h }) → wpAny (model prog w) A.in1 (collect (.ref z)) Q E s) :
    codeAny (model prog w) A (.call (.builtin "tuple.__new__") ⟨[.type "tuple", .ref z], []⟩) (wants Q1 E) s := by
  refine codeAny_of_tree ?_
  show wpAny _ A.in1 (do checkBuiltinCall "tuple.__new__" ⟨[.type "tuple", .ref z], []⟩; again (.builtin "tuple.__new__" ⟨[.type "tuple", .ref z], []⟩)) _ _ s
  refine wpAny_bind (wpAny_of_eq (F.newCall_tuple_1 _) (wpAny_pure ⟨plainId_quiet F.plain_tuple_new _, codeAny_builtin F.entry_tuple_new ?_⟩))
  rw [Around.under_plainId F.plain_tuple_new _]
  have hsub := sub_tuple_self
  have hinit := init_tuple_lookup
  have hmh := madeHere_tuple
  wp_walk using wpAny_typeOf hT, hc
  intro h acc hq hz
  show wpAny _ _ (Builtin.Tuple.tupleExact acc.toList.toArray >>= fun v => ret v) _ _ _
  unfold Builtin.Tuple.tupleExact
  refine wpAny_bind (wpAny_newObj_type ?_ (by show acc.toList.toArray.size ≤ sizeLine; rw [Array.toArray_toList]; exact hz))
  refine wpAny_pure ?_
  rw [Array.toArray_toList]
  exact hq
theorem tuple_of {z : Addr} {Q : Value → Shared → Prop} (hT : s.TypeIs (.ref z) "zip") (hc : ∀ (E : Value → Shared → Prop) (Q' : List Value → Shared → Prop), (∀ (h : Heap) (acc : Array Value), Q (.ref h.objs.size) { s with heap := h.push { cls := .type "tuple", data := .seq acc } } → acc.size ≤ sizeLine → Q' acc.toList { s with heap := h }) → wpAny (model prog w) A.in1.in1 (collect (.ref z)) Q' E s) :
    wpAny (model prog w) A (call (.type "tuple") [.ref z]) Q E s := by
  refine callType_codes (Q₁ := fun obj s₁ => s₁.TypeIs obj "tuple" ∧ Q obj s₁) F.called_tuple (F.typeCall_tuple_1 _) F.entry_object_init (new_tuple (A := A.in1) hT fun Q' hq => hc _ Q' fun h acc q z => hq h acc ⟨⟨_, Heap.get?_push_size _ rfl, rfl⟩, q⟩ z) fun obj s₁ h₁ => ?_
  exact ⟨h₁.1, F.args_object_init_2 obj _, object_init_meets F.called_tuple.init.lookup F.called_tuple.made (by decide) prog w A.in1 _ s₁ ⟨h₁.1, rfl, h₁.2⟩⟩
end
end ZC
namespace J
open PySem PySem.Spec PyProof.Rows L2
/-- pairs laid one by one -/
inductive Lays (H : Hp) : List (V × V) → List Addr → Hp → Prop
  | nil : Lays H [] [] H
  | snoc {ps : List (V × V)} {ts : List Addr} {H2 : Hp} {t : Addr} {o : Obj} {x y : V} : Lays H ps ts H2 → H2 t = none → o.dict = none → Lays H (ps ++ [(x, y)]) (ts ++ [t]) (upd H2 t (.frz o (.tup [x, y])))
section
variable {G : Gc} {X : Cx} {W : WX}
theorem Lays.mem {H H2 : Hp} {ps : List (V × V)} {ts : List Addr} (l : Lays H ps ts H2) : ∀ b, b ∉ ts → H2 b = H b := by
  induction l with
  | nil => exact fun b _ => rfl
  | snoc l hn hd ih =>
    intro b hb
    rw [List.mem_append, not_or] at hb
    rw [upd_ne (fun z => hb.2 (by simp [z])), ih b hb.1]
theorem Lays.rel {H H2 : Hp} {ps : List (V × V)} {ts : List Addr} (l : Lays H ps ts H2) : ∀ {M : Gh} {h : PH}, HRel G M H h → ∀ {vs : List (PV × PV)}, Reps G M H (ps.map (·.1)) (vs.map (·.1)) → Reps G M H (ps.map (·.2)) (vs.map (·.2)) →
    HRel G M H2 h ∧ Ext M H M H2 ∧ Reps G M H2 (ts.map V.ref) (vs.map fun p => .tup [p.1, p.2]) := by
  induction l with
  | nil =>
    intro M h r vs r1 _
    cases vs with
    | nil => exact ⟨r, Ext.refl _ _, trivial⟩
    | cons _ _ => exact r1.elim
  | @snoc ps ts H2 t o x y l hn hd ih =>
    intro M h r vs r1 r2
    have hl := r1.length
    simp only [List.map_append, List.map_cons, List.map_nil, List.length_append, List.length_map, List.length_cons, List.length_nil] at hl
    obtain ⟨v0, v, rfl⟩ : ∃ v0 v, vs = v0 ++ [v] := by
      rcases List.eq_nil_or_concat vs with rfl | ⟨a, b, rfl⟩
      · simp at hl
      · exact ⟨a, b, by simp⟩
    simp only [List.map_append, List.map_cons, List.map_nil, List.length_append, List.length_cons, List.length_nil] at hl r1 r2 ⊢
    have split : ∀ {us : List V} {u : V} {qs : List PV} {q : PV}, us.length = qs.length → Reps G M H (us ++ [u]) (qs ++ [q]) → Reps G M H us qs ∧ Rep G M H u q := by
      intro us
      induction us with
      | nil =>
        intro u qs q e r
        cases qs with
        | nil => exact ⟨trivial, r.1⟩
        | cons _ _ => simp at e
      | cons u' us ih2 =>
        intro u qs q e r
        cases qs with
        | nil => simp at e
        | cons q' qs =>
          obtain ⟨a, b⟩ := ih2 (by simpa using e) r.2
          exact ⟨⟨r.1, a⟩, b⟩
    obtain ⟨s1, p1⟩ := split (by simp; omega) r1
    obtain ⟨s2, p2⟩ := split (by simp; omega) r2
    obtain ⟨rr, xx, tt⟩ := ih r s1 s2
    have x2 := Ext.new (o := HO.frz o (.tup [x, y])) rr hn
    refine ⟨rr.new hn, xx.trans x2, (Reps.ext x2 _ _ tt).snoc ?_⟩
    exact rep_tup_new rr hn hd (by rw [sizeLine_eq]; simp) ⟨Rep.ext xx _ _ p1, Rep.ext xx _ _ p2, trivial⟩
def tTupZip (K : PySem.W.Frag) (ta : TA) : TE := fun σ H Q => ta σ H fun vs H1 => ∃ a b xs ys, vs = [.ref a, .ref b] ∧ SqL K H1 a xs ∧ SqL K H1 b ys ∧ ∀ H2 ts q o, Lays H1 (xs.zip ys) ts H2 → H2 q = none → o.dict = none → Q (.ref q) (upd H2 q (.frz o (.tup (ts.map V.ref))))
theorem pe_tupZip {e e2 : Expr} {ta : TA} {p p2 pos pos2 : Pos} (hc : X.calm = true) (hg : Gl X "tuple") (hm : X.mg "tuple" = none) (hg2 : Gl X "zip") (hm2 : X.mg "zip" = none) (ha : PA X [e, e2] ta)
    (hs : starEach [e, e2] X.env = (false, eval e X.env) :: starEach [e2] X.env) (hpl : (backTo pos2 (starEach [e2] X.env)).any (·.1) = false)
    (hs2 : starEach [.Call (.Name "zip" p2) [e, e2] [] pos2] X.env = (false, eval (.Call (.Name "zip" p2) [e, e2] [] pos2) X.env) :: starEach [] X.env) :
    PE X (.Call (.Name "tuple" p) [.Call (.Name "zip" p2) [e, e2] [] pos2] [] pos) (tTupZip X.K ta) := by
  refine ⟨fun pins s σ H Q I h => ?_⟩
  refine Call_ (ld_blt I hg hm boot_tuple (PyProof.Rows.callWith_type1 (args_cons (Call_ (ld_blt I hg2 hm2 PyProof.Rows.boot_zip (PyProof.Rows.callWith_type1 (thn (ha.run pos2 pins s σ H _ I h) fun us s1 ⟨vs, H1, I1, r1, q1⟩ => ?_) hs hpl))) hs2) hs2 rfl))
  obtain ⟨a, b, xs, ys, rfl, hqx, hqy, q⟩ := q1
  obtain ⟨u1, u2, rfl, ra, rb⟩ := r1.two
  cases ra
  cases rb
  obtain ⟨its, rv, p1, z1⟩ := I1.list hqx
  obtain ⟨its2, rv2, p2', z2⟩ := I1.list hqy
  have le1 := rv.length
  have le2 := rv2.length
  refine call_zip_2 p1.isList p2'.isList fun h' hz hTI hTO h1 h2 hsz hk => args_nil ?_
  have I2 : L2.Inv X pins σ H1 { s1 with heap := h' } := I1.kept (t' := s1.toks) hk
  have hmin : min its.toArray.size its2.toArray.size ≤ sizeLine := by simp only [List.size_toArray]; omega
  refine ZC.tuple_of (s := { s1 with heap := h' }) ⟨_, hz, rfl⟩ fun E Q' hq => ?_
  refine ZC.collects (s := { s1 with heap := h' }) (PySem.W.ktu_apart s1.heap.objs.size a b p1.lt p2'.lt) (I1.ok.hd hc) hmin hz hTI hTO h1 h2 (p1.isList.at fun o e => hk _ _ e) (p2'.isList.at fun o e => hk _ _ e) fun h acc f hacc f1 f2 kp => hq h acc ?_ (by rw [hacc]; exact hmin)
  have hzl : (xs.zip ys).length = min its.toArray.size its2.toArray.size := by simp only [List.length_zip, List.size_toArray]; omega
  have hge : ∀ j, j < min its.toArray.size its2.toArray.size → s1.heap.objs.size ≤ f j := fun j hj => by
    obtain ⟨x, y, _, _, _, _, q5⟩ := f2 j hj
    have q5 : h'.objs.size < f j := q5
    rw [hsz] at q5
    exact Nat.le_of_lt (Nat.lt_of_le_of_lt (Nat.le_add_right _ _) q5)
  have I3 : L2.Inv X pins σ H1 { s1 with heap := h } := by
    refine Inv.turnedL (s := { s1 with heap := h' }) (h' := h) (t' := s1.toks) (I := I2) (ch := [s1.heap.objs.size + 4, s1.heap.objs.size + 3, s1.heap.objs.size, s1.heap.objs.size + 1]) (fun b o hb e => kp b o hb e) fun c hcm => ?_
    have hle : s1.heap.objs.size ≤ c := by
      simp only [List.mem_cons, List.not_mem_nil, or_false] at hcm
      rcases hcm with z | z | z | z <;> rw [z]
      · exact Nat.le_add_right _ _
      · exact Nat.le_add_right _ _
      · exact Nat.le_refl _
      · exact Nat.le_add_right _ _
    exact I1.fpOk hle (I1.hok.fresh hle)
  have key : ∀ n, n ≤ min its.toArray.size its2.toArray.size → ∃ H2, Lays H1 ((xs.zip ys).take n) ((List.range n).map f) H2 ∧ L2.Inv X pins σ H2 { s1 with heap := h } := by
    intro n
    induction n with
    | zero => intro _; exact ⟨H1, .nil, I3⟩
    | succ n ih =>
      intro hn
      obtain ⟨H2, l, J⟩ := ih (by omega)
      obtain ⟨x, y, _, q2, q3, q4, q5⟩ := f2 n (by omega)
      have hx : n < xs.length := by simp only [List.size_toArray] at hn; omega
      have hy : n < ys.length := by simp only [List.size_toArray] at hn; omega
      obtain ⟨x', g1, g2⟩ := rv.get (List.getElem?_eq_getElem hx)
      obtain ⟨y', g3, g4⟩ := rv2.get (List.getElem?_eq_getElem hy)
      have e1 : x' = x := by
        have : its[n]? = some x := by simpa using q2
        rw [g1] at this; exact Option.some.inj this
      have e2 : y' = y := by
        have : its2[n]? = some y := by simpa using q3
        rw [g3] at this; exact Option.some.inj this
      subst e1
      subst e2
      have nin : f n ∉ (List.range n).map f := fun z => by
        obtain ⟨j, hj, e⟩ := List.mem_map.mp z
        have := f1 j n (List.mem_range.mp hj) (by omega)
        rw [e] at this; exact Nat.lt_irrefl _ this
      have hnn : H2 (f n) = none := by rw [l.mem _ nin]; exact I1.hok.fresh (hge n (by omega))
      refine ⟨upd H2 (f n) (.frz { cls := .type "tuple", data := .seq #[x', y'] } (.tup [xs[n], ys[n]])), ?_, ?_⟩
      · have et : (xs.zip ys).take (n + 1) = (xs.zip ys).take n ++ [(xs[n], ys[n])] := by
          rw [List.take_succ, List.getElem?_eq_getElem (by rw [List.length_zip]; omega), List.getElem_zip]; rfl
        rw [et, List.range_succ, List.map_append]
        exact .snoc l hnn rfl
      · refine Inv.learn J (I1.fpOk (hge n (by omega)) hnn) ⟨q4, by rw [sizeLine_eq]; simp, [x', y'], .cons g2 (.cons g4 .nil), ⟨_, q4, rfl, _, rfl⟩⟩
  obtain ⟨H2, l, J⟩ := key _ (Nat.le_refl _)
  rw [List.take_of_length_le (by rw [hzl]; exact Nat.le_refl _)] at l
  refine ⟨.ref h.objs.size, upd H2 h.objs.size (.frz { cls := .type "tuple", data := .seq acc } (.tup (((List.range (min its.toArray.size its2.toArray.size)).map f).map V.ref))), J.laid (t' := s1.toks) (fun c o e => Heap.get?_push_of_some _ e) (Nat.le_refl _) ⟨Heap.get?_push_size _ rfl, by simp only [List.length_map, List.length_range]; exact hmin, acc.toList, ?_, ?_⟩, rfl, q H2 _ _ _ l (J.hok.fresh (Nat.le_refl _)) rfl⟩
  · refine vals_of_at (by simp [hacc]) fun j x u hx hu => ?_
    simp only [List.getElem?_map] at hx
    have hj : j < min its.toArray.size its2.toArray.size := by
      rw [← hacc, ← Array.length_toList]; exact (List.getElem?_eq_some_iff.mp hu).1
    rw [List.getElem?_range hj] at hx
    simp only [Option.map_some, Option.some.injEq] at hx
    obtain ⟨_, _, q1, _⟩ := f2 j hj
    rw [Array.getElem?_toList, q1] at hu
    cases hu
    rw [← hx]; rfl
  · rw [Array.toArray_toList]
    exact ⟨_, Heap.get?_push_size _ rfl, rfl, _, rfl⟩
def tupZipO (vs : List PV) (h : PH) : Option PV := match vs with
  | [x, y] => (match rd h x, rd h y with
    | .lst xs, .lst ys => some (.tup ((xs.zip ys).map fun p => .tup [p.1, p.2]))
    | _, _ => none)
  | _ => none
theorem je_tupZip {e e2 : Expr} {g : SA} {p p2 pos pos2 : Pos} (hK : G.K = X.K) (hm : X.mg "tuple" = none) (hm2 : X.mg "zip" = none) (ha : JAs G X W [e, e2] g) (hc : X.calm = true := by rfl) (hg : Gl X "tuple" := by rfl) (hg2 : Gl X "zip" := by rfl)
    (hs : starEach [e, e2] X.env = (false, eval e X.env) :: starEach [e2] X.env := by rfl) (hpl : (backTo pos2 (starEach [e2] X.env)).any (·.1) = false := by rfl)
    (hs2 : starEach [.Call (.Name "zip" p2) [e, e2] [] pos2] X.env = (false, eval (.Call (.Name "zip" p2) [e, e2] [] pos2) X.env) :: starEach [] X.env := by rfl) :
    JE G X W (.Call (.Name "tuple" p) [.Call (.Name "zip" p2) [e, e2] [] pos2] [] pos) (cal tupZipO g) := by
  refine pe_imp (pe_tupZip hc hg hm hg2 hm2 ha hs hpl hs2) fun σ H Q t => (TF.bind (Rp := fun M H (u : List V) (v : List PV) => Reps G M H u v) t).mono fun us H1 ⟨M1, ρ, h1, vs, r1, e1, p, o⟩ => ?_
  unfold tupZipO at o
  split at o
  · rename_i x y
    obtain ⟨u1, u2, rfl, p1, p2⟩ := reps2 p
    split at o
    · rename_i xs ys hx hy
      obtain ⟨a, vs, rfl, s, z, rs⟩ := Rep.list r1 p1 hx
      obtain ⟨b, ws, rfl, s', z', rs'⟩ := Rep.list r1 p2 hy
      rw [← hK]
      refine ⟨a, b, vs, ws, rfl, s, s', fun H2 ts q ob l hq hd => ?_⟩
      have hl1 := rs.length
      have hl2 := rs'.length
      have m1 : ∀ {α β : Type} (as : List α) (bs : List β), (as.zip bs).map (·.1) = as.take (min as.length bs.length) ∧ (as.zip bs).map (·.2) = bs.take (min as.length bs.length) := by
        intro α β as
        induction as with
        | nil => intro bs; simp
        | cons a as ih =>
          intro bs
          cases bs with
          | nil => simp
          | cons b bs =>
            obtain ⟨h1, h2⟩ := ih bs
            simp only [List.zip_cons_cons, List.map_cons, h1, h2, List.length_cons]
            rw [show min (as.length + 1) (bs.length + 1) = min as.length bs.length + 1 by omega]
            simp
      obtain ⟨rr, xx, tt⟩ := l.rel r1 (vs := xs.zip ys) (by rw [(m1 vs ws).1, (m1 xs ys).1, hl1, hl2]; exact rs.take _) (by rw [(m1 vs ws).2, (m1 xs ys).2, hl1, hl2]; exact rs'.take _)
      have hz : (ts.map V.ref).length ≤ sizeLine := by
        rw [tt.length, List.length_map, List.length_zip]; omega
      have x2 := Ext.new (o := HO.frz ob (.tup (ts.map V.ref))) rr hq
      exact o _ M1 _ (xx.trans x2) (rr.new hq) (rep_tup_new rr hq hd hz tt)
    · exact False.elim o
  · exact False.elim o
end
end J

set_option maxHeartbeats 1000000
/-! J: lambdas: the making, the call. -/
namespace J
open PySem PySem.Spec PyProof.Rows L2 GxR
section
variable {X : Cx} {pins : List (Addr × Obj)} {σ : L2.St} {H : Hp} {s : Shared}
abbrev lEnv (X : Cx) (scope : Scope) (L f c' : Addr) : Env := PySem.W.envX (X.env.qual ++ "<lambda>") scope L f (.ref c') (cloFrom X.env.cells scope.names [])
abbrev lObj (X : Cx) (params : Arguments) (body : Expr) (scope : Scope) (pm : Value) (c' : Addr) (ctv : Value) : Obj := PySem.W.kla_obj "<lambda>" (X.env.qual ++ "<lambda>") params body scope (cloFrom X.env.cells scope.names []) pm c' ctv
theorem lam_start {scope : Scope} {own : List (Str × Nat)} {B : Around} {f c' : Addr} {s5 : Shared} {m : Str → Option Value} {σ' : L2.St} (I : Inv X pins σ H s) (ok : BlkOk X.N X.env.scope scope own) (nocell : ∀ y ∈ scope.names, y.2 ≠ .cell) (hN : X.N.Nodup)
    (hBf : B.frames = some (lEnv X scope s.heap.objs.size f c' :: X.stack)) (hBh : B.handled = none) (hos : s5.os = s.os) (hb : AllBare s5.gens)
    (kp : ∀ b o, s.heap.get? b = some o → s5.heap.get? b = some o) (hns : s5.heap.Ns s.heap.objs.size m) (hl : σ'.length = σ.length)
    (hσ : ∀ (i : Nat) (v : V), σ'[i]? = some (some v) → (∃ x u, X.N[i]? = some x ∧ scope.names.lookup x = some .local ∧ m x = some u ∧ RelV v u) ∨ (wipe σ (own.map (·.2)))[i]? = some (some v)) :
    Inv (gx X B s H (lEnv X scope s.heap.objs.size f c') []) [] σ' H s5 := by
  have hfree : ∀ y ∈ scope.names, y.2 = .free → ∃ c, X.env.cells.lookup y.1 = some c := fun y hy e => (ok.free y hy e).elim (fun k => I.ok.has _ (.inl k)) fun k => I.ok.has _ (.inr k)
  generalize hcenv : lEnv X scope s.heap.objs.size f c' = cenv at hBf ⊢
  have hL : cenv.locals = s.heap.objs.size := by rw [← hcenv]
  have hcl : cenv.cells = cloFrom X.env.cells scope.names [] := by rw [← hcenv]
  have hsc : cenv.scope = scope := by rw [← hcenv]
  have cm : ∀ {y c}, cenv.cells.lookup y = some c → X.env.cells.lookup y = some c ∧ c < s.heap.objs.size := fun {y c} hm => by
    rw [hcl] at hm
    rcases cloFrom_mem (PySem.mem_of_lookup hm) with hm | ⟨h1, rfl⟩
    · cases hm
    · obtain ⟨c, hc⟩ := hfree _ h1 rfl
      rw [hc]
      obtain ⟨w, z⟩ := I.cell _ _ hc
      exact ⟨rfl, z.lt⟩
  have look : ∀ {y}, scope.names.lookup y = some .free → ∃ c, cenv.cells.lookup y = some c ∧ X.env.cells.lookup y = some c := fun {y} hq => by
    have hy : (y, NameKind.free) ∈ scope.names := PySem.mem_of_lookup hq
    obtain ⟨c', e'⟩ := mem_lookup (cloFrom_has (cells := X.env.cells) (acc := []) hy)
    rw [← hcl] at e'
    exact ⟨c', e', (cm e').1⟩
  have okB : (gx X B s H cenv []).Ok := by
    refine ⟨I.ok.mod, by show cenv.scope.kind = _; rw [hsc]; exact ok.kind, by show cenv.globals = _; rw [← hcenv], by show cenv.builtins = _; rw [← hcenv], by show s.heap.objs.size ≤ cenv.locals; rw [hL]; exact Nat.le_refl _,
      fun y z c e1 e2 => I.ok.inj y z c (cm e1).1 (cm e2).1, fun y hy => ?_, fun y c z e => absurd z Bool.false_ne_true, fun _ => hBh, hBf, .inr ⟨rfl, by show cenv.frame = some cenv.locals; rw [← hcenv]⟩, fun b z => absurd z (by simp), I.bs, Nat.le_trans I.ok.bsz I.sz, fun b o e => by simp, fun b z => absurd z (by simp), I.stack, I.stkFree⟩
    show ∃ c, cenv.cells.lookup y = some c
    have hk : scope.names.lookup y = some .cell ∨ scope.names.lookup y = some .free := by
      unfold Env.kindOf at hy
      rw [← hsc]; exact hy
    rcases hk with e | e
    · exact absurd rfl (nocell _ (PySem.mem_of_lookup e))
    · obtain ⟨c, h1, _⟩ := look e
      exact ⟨c, h1⟩
  refine ⟨okB, hos, hb, Un.kept kp, ⟨m, ?_, fun i y av e1 e2 e3 => ?_⟩, fun y c e => ?_, ?_, fun y c e => ?_, fun p hp => absurd (show p ∈ ([] : List (Addr × Obj)) from hp) (by simp), I.hok.kept kp, by rw [hl]; exact I.len⟩
  · show Heap.Ns _ cenv.locals _
    rw [hL]; exact hns
  · rcases hσ i av e2 with ⟨x, u, h1, h2, h3, h4⟩ | e2
    · have : x = y := Option.some.inj (h1.symm.trans e1)
      subst this
      refine ⟨u, h4, .inl ⟨?_, h3⟩⟩
      show cenv.kindOf x = _
      unfold Env.kindOf
      rw [hsc]; exact h2
    obtain ⟨e2, hne⟩ := wipe_some e2
    have no : ∀ k, scope.names.lookup y = some k → ¬ (k = .local ∨ k = .cell) := fun k e hh => by
      rcases ok.own _ (PySem.mem_of_lookup e) hh with e' | e'
      · obtain ⟨p, hp, hpy⟩ := List.mem_map.mp e'
        have e3 := ok.ix p hp
        have : p.1 = y := hpy
        rw [this] at e3
        exact hne (List.mem_map.mpr ⟨p, hp, nodup_ix hN e3 e1⟩)
      · exact e' (List.mem_of_getElem? e1)
    have e3 : Vis cenv.scope y := e3
    rw [hsc] at e3
    have hfr : scope.names.lookup y = some .free := by
      rcases e3 with e3 | e3 | e3
      · exact absurd (.inl rfl) (no _ e3)
      · exact absurd (.inr rfl) (no _ e3)
      · exact e3
    obtain ⟨m', hn, hl⟩ := I.loc
    have hvis : Vis X.env.scope y := (ok.free _ (PySem.mem_of_lookup hfr) rfl).elim (fun k => .inr (.inl k)) (fun k => .inr (.inr k))
    obtain ⟨w, r, q⟩ := hl i y av e1 e2 hvis
    refine ⟨w, r, .inr ⟨.inr ?_, ?_⟩⟩
    · show cenv.kindOf y = _
      unfold Env.kindOf
      rw [hsc]; exact hfr
    obtain ⟨c, h1, h2⟩ := look hfr
    rcases q with ⟨k, _⟩ | ⟨_, c', e', z⟩
    · have k : X.env.scope.names.lookup y = some .local := k
      rcases ok.free _ (PySem.mem_of_lookup hfr) rfl with k' | k' <;> rw [show X.env.scope.names.lookup y = _ from k'] at k <;> cases k
    · rw [h2] at e'; cases e'
      exact ⟨c, h1, z.keeps kp⟩
  · obtain ⟨v, z⟩ := I.cell y c (cm e).1
    exact ⟨v, z.keeps kp⟩
  · show H cenv.locals = none
    rw [hL]; exact I.hok.fresh (Nat.le_refl _)
  · exact I.freeC y c (cm e).1
/-- a call of the lambda at f, from the frames of X -/
theorem lam_call {A' : Around} {k : Nat} {f c' P1 : Addr} {pm ctv : Value} {params : Arguments} {body : Expr} {scope : Scope} {own : List (Str × Nat)} {us : List Value} {binds : List (Str × Value)} {σ' : L2.St} {tb : TE} {Q : VK} {E : Value → Shared → Prop}
    (I : Inv X pins σ H s) (hA : A'.frames = some X.stack) (hr : Room (k + 1) A') (hf : s.heap.get? f = some (lObj X params body scope pm c' ctv)) (hc : H c' = some (CodeN c' P1 (X.env.qual ++ "<lambda>")))
    (ok : BlkOk X.N X.env.scope scope own) (nocell : ∀ y ∈ scope.names, y.2 ≠ .cell) (hco : scope.isCoroutine = false) (hge : scope.isGenerator = false) (hN : X.N.Nodup)
    (hbind : bindArgs (PySem.W.kla_fn "<lambda>" (X.env.qual ++ "<lambda>") params body scope (cloFrom X.env.cells scope.names []) pm (.ref c') ctv) ⟨us, []⟩ = pure binds) (hloc : ∀ x ∈ binds, scope.names.lookup x.1 = some .local)
    (hl : σ'.length = σ.length) (hσ : ∀ (i : Nat) (v : V), σ'[i]? = some (some v) → (∃ x u, X.N[i]? = some x ∧ scope.names.lookup x = some .local ∧ binds.reverse.lookup x = some u ∧ RelV v u) ∨ (wipe σ (own.map (·.2)))[i]? = some (some v))
    (pb : ∀ (B : Around) (s : Shared) (H : Hp) (L : Addr), Room k B → PE (gx X B s H (lEnv X scope L f c') []) body tb) (ht : tb σ' H Q) : wpAny (model X.prog X.w) A' (call (.ref f) us) (EP X pins σ Q) E s := by
  have rc : codeAny (model X.prog X.w) A' (.call (.ref f) ⟨us, []⟩) (CR C8.CX0 X.stack X.prog X.w H s Q C8.E0) s := by
    refine PySem.W.kla_callFunE hr.depth hf rfl hco hge rfl (I.hok c' _ hc).1.2 ?_
    rw [hbind]
    refine wpAny_pure (wpAny_newFunctionEnv nocell hloc (fun h₁ hns hsb => ⟨I.nolimit.fresh _ hsb, ?_⟩) ok.kind)
    show codeAny _ _ (.expr body (lEnv X scope s.heap.objs.size f c')) _ _
    have kp : ∀ b o, s.heap.get? b = some o → h₁.get? b = some o := fun b o e => hsb.extBut b o (Nat.ne_of_lt (Heap.lt_size e)) (Heap.get?_push_of_some _ e)
    have J := lam_start (B := A'.deeper (lEnv X scope s.heap.objs.size f c')) (f := f) (c' := c') (s5 := { s with heap := h₁, toks := s.toks + binds.length }) I ok nocell hN (Around.frames_deeper hA) hr.hd rfl I.bare kp hns hl hσ
    refine PySem.W.kla_codeExpr (wpAny_mono ((pb _ s H s.heap.objs.size (hr.deeper _)).run [] _ σ' H Q J ht) (fun v s' hq => ?_) fun e s' hq => hq.elim)
    obtain ⟨w', H', J', rv, q⟩ := hq
    exact ⟨w', H', J'.os, J'.bare, J'.base, J'.hok, rv, q⟩
  refine wpAny_call (codeAny_mono rc fun r s' hq => ?_)
  cases r with
  | error e => exact (show False from hq).elim
  | ok fl =>
    cases fl with
    | ret u => exact I.after hq
    | next => exact False.elim hq
    | brk => exact False.elim hq
    | cont => exact False.elim hq
/-! ### the making -/
theorem lam_fun {A : Around} {E : Value → Shared → Prop} {c P : Addr} {params : Arguments} {body : Expr} {scope : Scope} {lpos : Pos} {ps : Array Value} {clos : List (Str × Addr)} {env : Env} {mg : Str → Option Value} {q : Str} {Q : Value → Shared → Prop} (hcl : closureFor scope env = pure clos) (hg0 : env.globals = mainGlobals)
    (hg : s.heap.Ns mainGlobals mg) (hcode : env.code = .ref c) (cd : PySem.W.CodeHd s.heap c P) (hP : s.heap.get? P = some { cls := .none, data := .fields ps }) (ht : TriplesOk ps.toList) (gP : mainGlobals ≠ P) (bP : s.heap.BuiltinsAt mg P)
    (hit : ∀ (cv ctv pm : Value) (h : Heap) (tk : Nat), codeAmong lpos ps.toList = some cv → (∀ b o, s.heap.get? b = some o → h.get? b = some o) → s.heap.objs.size ≤ h.objs.size → Q (.ref h.objs.size) { s with heap := h.push { cls := .type "function", data := .func (PySem.W.kla_fn "<lambda>" q params body scope clos pm cv ctv) }, toks := tk })
    (new : ∀ (c' P1 : Addr) (ctv pm : Value) (h : Heap) (tk : Nat), codeAmong lpos ps.toList = none → Heap.ExtBut P s.heap h → s.heap.objs.size ≤ c' → c' < h.objs.size → s.heap.objs.size ≤ P1 → h.CodeRec (.ref c') q → PySem.W.CodeHd h c' P1 → h.get? P1 = some { cls := .none, data := .fields #[] } →
      h.get? P = some { cls := .none, data := .fields (ps ++ #[rawInt lpos.line, rawInt lpos.col, .ref c']) } → Q (.ref h.objs.size) { s with heap := h.push { cls := .type "function", data := .func (PySem.W.kla_fn "<lambda>" q params body scope clos pm (.ref c') ctv) }, toks := tk }) :
    wpAny (model X.prog X.w) A (makeFunction "<lambda>" q params (.expr body) scope env [] [] [] lpos lpos.line) Q E s := by
  obtain ⟨bm, ob, e1, e2, _, e4, e5, e6, e7, e8⟩ := bP
  rw [makeFunction_eq]
  simp only [List.zip_nil_right, List.filterMap_nil, List.isEmpty_nil, if_true, pure_bind]
  unfold makeTail
  rw [hcl, hg0]
  refine wpAny_bind (wpAny_pure ?_)
  have core : ∀ (s0 : Shared) (ctv : Value), (∀ b o, s.heap.get? b = some o → s0.heap.get? b = some o) → s.heap.objs.size ≤ s0.heap.objs.size → s0.gens = s.gens → s0.drawn = s.drawn → s0.os = s.os →
      wpAny (model X.prog X.w) A (functionCode env lpos lpos.line "<lambda>" q params scope (.expr body)) (fun cv s1 => ∀ (ctv pm : Value), s1.heap.Ns mainGlobals mg ∧ s1.heap.get? bm = some ob ∧ Q (.ref s1.heap.objs.size) { s1 with heap := s1.heap.push { cls := .type "function", data := .func (PySem.W.kla_fn "<lambda>" q params body scope clos pm cv ctv) } }) E s0 := by
    intro s0 ctv k sz a1 a2 a3
    have cd0 := cd.keeps k
    have hP0 := k _ _ hP
    obtain ⟨h0, g0, d0, t0, o0⟩ := s0
    obtain rfl : g0 = s.gens := a1
    obtain rfl : d0 = s.drawn := a2
    obtain rfl : o0 = s.os := a3
    cases hf : codeAmong lpos ps.toList with
    | some cv => exact wpAny_functionCode_hit hcode (cd0.code hP0 ht) hf fun ctv pm => ⟨hg.keeps k, k _ _ e5, hit cv ctv pm h0 t0 hf k sz⟩
    | none =>
      refine wpAny_functionCodeX hcode (cd0.code hP0 ht) (cd0.tab hP0) hf fun c' h' tk hx hge hlt _ hrec htb hn ctv pm => ?_
      obtain ⟨P1, hp1, n1, n2⟩ := hn
      have hx' : Heap.ExtBut P s.heap h' := fun b o hb e => hx b o hb (k b o e)
      exact ⟨(hg.keeps k).extBut hx gP, hx' _ _ e4 e5, new c' P1 ctv pm h' tk hf hx' (Nat.le_trans sz hge) hlt (Nat.le_trans sz hp1) hrec (PySem.W.CodeHd.of n1 n2) n2.2 htb.2⟩
  cases clos with
  | nil =>
    simp only [List.isEmpty_nil, if_true]
    refine wpAny_bind (wpAny_pure (wpAny_bind (wpAny_mono (core s .none (fun _ _ e => e) (Nat.le_refl _) rfl rfl rfl) (fun cv s1 h1 => ?_) fun _ _ e => e)))
    obtain ⟨g1, g2, _⟩ := h1 .none ((mg "__name__").getD .none)
    refine wpAny_bind (wpAny_builtinsFor g1 e1 e2 g2 e6 e7 e8 ?_)
    refine wpAny_bind (wpAny_nsGet g1 ?_)
    exact wpAny_bind (wpAny_pure (wpAny_newObj_type (h1 .none ((mg "__name__").getD .none)).2.2 (by size_fits)))
  | cons a r =>
    simp only [List.isEmpty_cons, Bool.false_eq_true, if_false]
    refine wpAny_bind (wpAny_newTextTuple ?_)
    refine wpAny_bind (wpAny_mono (core _ .none (fun b o e => Heap.get?_push_of_some _ e) (by rw [Heap.size_push]; exact Nat.le_succ _) rfl rfl rfl) (fun cv s1 h1 => ?_) fun _ _ e => e)
    obtain ⟨g1, g2, _⟩ := h1 .none ((mg "__name__").getD .none)
    refine wpAny_bind (wpAny_builtinsFor g1 e1 e2 g2 e6 e7 e8 ?_)
    refine wpAny_bind (wpAny_nsGet g1 ?_)
    exact wpAny_bind (wpAny_pure (wpAny_newObj_type (h1 _ ((mg "__name__").getD .none)).2.2 (by size_fits)))
theorem lam_new {c : Addr} {HT : Hp → Prop} {PP : Addr → Hp → Prop} {params : Arguments} {body : Expr} {scope : Scope} {lpos : Pos} {own : List (Str × Nat)} {Q : Value → Shared → Prop} (I : Inv X pins σ H s) (cs : CodeSrc X c HT PP) (hH : HT H) (ok : BlkOk X.N X.env.scope scope own)
    (hdef : defaultsOf params X.env = ([], []))
    (hQ : ∀ (P f : Addr) (H2 : Hp) (code pm ctv : Value) (s' : Shared), PP P H → Grown P lpos (X.env.qual ++ "<lambda>") code H H2 → Inv X pins σ H2 s' → s'.heap.get? f = some { cls := .type "function", data := .func (PySem.W.kla_fn "<lambda>" (X.env.qual ++ "<lambda>") params body scope (cloFrom X.env.cells scope.names []) pm code ctv) } →
      FpOk X pins H2 f → Q (.ref f) s') : wpAny (model X.prog X.w) X.A (eval (.Lambda params body scope lpos) X.env) Q X.xe s := by
  have hfree : ∀ y ∈ scope.names, y.2 = .free → ∃ c, X.env.cells.lookup y.1 = some c := fun y hy e => (ok.free y hy e).elim (fun k => I.ok.has _ (.inl k)) fun k => I.ok.has _ (.inr k)
  obtain ⟨P, tc, ⟨ps, hP, ht⟩, hPP⟩ := cs.src _ _ _ _ I hH
  obtain ⟨cd, bP, gP⟩ := tc.facts I hP cs.bm
  have hPs : s.heap.get? P = some { cls := .none, data := .fields ps } := I.hok P _ hP
  refine PySem.W.kla_eval hdef ?_
  refine lam_fun (closure_ok hfree) I.ok.glob (I.mod.glob.keeps I.bk) cs.code cd hPs ht gP bP (fun cv ctv pm h tk hf k sz => ?_) fun c' P1 ctv pm h tk hf hx hge hlt hp1 hrec hd1 h1 hPn => ?_
  · have I2 : Inv X pins σ H { s with heap := h.push { cls := .type "function", data := .func (PySem.W.kla_fn "<lambda>" (X.env.qual ++ "<lambda>") params body scope (cloFrom X.env.cells scope.names []) pm cv ctv) }, toks := tk } := I.kept fun b o e => Heap.get?_push_of_some _ (k b o e)
    exact hQ P _ H cv pm ctv _ hPP (.inl ⟨rfl, ps, hP, hf⟩) I2 (Heap.get?_push_size _ rfl) (I.fpOk sz (I.hok.fresh sz))
  · have hne : c' ≠ P1 := by
      obtain ⟨_, _, _, _, _, _, _, _, _, _, _, _, _, _, _, _, _, _, z⟩ := hd1
      exact z
    have n0 : H c' = none := I.hok.fresh hge
    have n3 : H P1 = none := I.hok.fresh hp1
    have sz : s.heap.objs.size ≤ h.objs.size := Nat.le_trans hge (Nat.le_of_lt hlt)
    have up : ∀ b o, h.get? b = some o → (h.push { cls := .type "function", data := .func (PySem.W.kla_fn "<lambda>" (X.env.qual ++ "<lambda>") params body scope (cloFrom X.env.cells scope.names []) pm (.ref c') ctv) }).get? b = some o := fun b o e => Heap.get?_push_of_some _ e
    have hrec' : (h.push { cls := .type "function", data := .func (PySem.W.kla_fn "<lambda>" (X.env.qual ++ "<lambda>") params body scope (cloFrom X.env.cells scope.names []) pm (.ref c') ctv) }).CodeRec (.ref c') (X.env.qual ++ "<lambda>") := by
      obtain ⟨cc, oc, vs, t, d0, d1, dr⟩ := hrec
      exact ⟨cc, oc, vs, t, d0, up _ _ d1, dr⟩
    have I2 := inv_grow (t' := tk) I hP (fun b u hb e => up _ _ (hx b u hb e)) (up _ _ hPn) hge hp1 hne ⟨hd1.keeps up, hrec'⟩ (up _ _ h1)
    refine hQ P h.objs.size _ (.ref c') pm ctv _ hPP (.inr ⟨ps, c', P1, hP, ht, hf, n0, n3, hne, rfl, rfl⟩) I2 (Heap.get?_push_size _ rfl) (I.fpOk sz ?_)
    have l1 : P1 < h.objs.size := Heap.lt_size h1
    have l2 : P < h.objs.size := Heap.lt_size hPn
    rw [upd_ne (Nat.ne_of_gt l1), upd_ne (Nat.ne_of_gt hlt), upd_ne (Nat.ne_of_gt l2)]
    exact I.hok.fresh sz
end
end J

set_option maxHeartbeats 1000000
/-! J: sorted(x, key=lambda ..), the model's side. -/
namespace J
open PySem PySem.Spec PyProof.Rows L2 GxR PySem.W
/-- a call of f with x is tb at the slots σk x -/
def CallsAs (X : Cx) (A : Around) (f : Addr) (σ : L2.St) (tb : TE) (σk : V → L2.St) (FH : Hp → Prop) : Prop :=
  ∀ (pins : List (Addr × Obj)) (H : Hp) (s : Shared) (x : V) (v : Value) (Q : VK) (E : Value → Shared → Prop), L2.Inv X pins σ H s → FH H → RelV x v → tb (σk x) H Q → wpAny (model X.prog X.w) A (call (.ref f) [v]) (EP X pins σ Q) E s
/-- the keys of the first items, by the heap -/
def KeyWalk (tb : TE) (σk : V → L2.St) (FH : Hp → Prop) (IT : Nat → V → Hp → Prop) (KW : Nat → List V → List V → Hp → Prop) : Prop := ∀ (i : Nat) (ks is : List V) (H : Hp) (x : V), KW i ks is H → IT i x H → FH H ∧ tb (σk x) H fun k H' => KW (i + 1) (ks ++ [k]) (is ++ [x]) H'
section
variable {X : Cx} {pins : List (Addr × Obj)} {σ : L2.St} {H : Hp} {s : Shared} {tb : TE} {σk : V → L2.St} {FH : Hp → Prop} {us : List V} {KW : Nat → List V → List V → Hp → Prop}
theorem key_turn {A : Around} {f : Addr} {i : Nat} {ks is : List V} {x : V} {v : Value} {E : Value → Shared → Prop} {l : List Addr} (hc : CallsAs X A f σ tb σk FH) (I : L2.Inv X pins σ H s) (ht : FH H ∧ tb (σk x) H fun k H' => KW (i + 1) (ks ++ [k]) (is ++ [x]) H') (r : RelV x v) (fp : ∀ b ∈ l, FpOk X pins H b) (ho : ∀ b ∈ l, ∃ o, s.heap.get? b = some o ∧ ∀ v, o.data ≠ .cell v) {Q : Value → Shared → Prop}
    (hQ : ∀ u s' k H', L2.Inv X pins σ H' s' → RelV k u → KW (i + 1) (ks ++ [k]) (is ++ [x]) H' → (∀ b ∈ l, ∀ o, s.heap.get? b = some o → s'.heap.get? b = some o) → (∀ b ∈ l, FpOk X pins H' b) → Q u s') : wpAny (model X.prog X.w) A (call (.ref f) [v]) Q E s := by
  obtain ⟨fh, t⟩ := ht
  refine wpAny_mono (hc _ H s x v _ E (I.pinned fp ho) fh r t) (fun u s' hq => ?_) fun _ _ e => e
  obtain ⟨k, H', I', rk, q⟩ := hq
  have pin' : ∀ b ∈ l, ∀ o, s.heap.get? b = some o → s'.heap.get? b = some o ∧ H' b = none := fun b hb o e =>
    let z := I'.pin (b, o) (List.mem_append_right _ (List.mem_append_right _ (mem_pinsAt hb e)))
    ⟨z.1, z.2.1⟩
  refine hQ u s' k H' I'.unpinned rk q (fun b hb o e => (pin' b hb o e).1) fun b hb => ?_
  obtain ⟨o, e, _⟩ := ho b hb
  exact ⟨(pin' b hb o e).2, (fp b hb).2⟩
theorem sort_rest {A : Around} {f a kS : Addr} {b : Bool} {vs : List Value} {e1 : Nat} {P : PySem.Fin → Shared → Prop} {E : Value → Shared → Prop} (hc : CallsAs X A f σ tb σk FH) (kw : KeyWalk tb σk FH (fun i x _ => us[i]? = some x) KW) (hu : A.units + 62 < cLine) (I : L2.Inv X pins σ H s) (h0 : KW 0 [] [] H) (rv : Vals us vs) (hZ : us.length ≤ sizeLine)
    (fp : ∀ c ∈ [a, kS], FpOk X pins H c) (hka : kS ≠ a) (nk : s.heap.get? kS = some (seqObj "list" #[] 0)) (na : s.heap.get? a = some (seqObj "list" #[] e1))
    (fin : ∀ ks is H' s', KW us.length ks is H' → L2.Inv X pins σ H' s' → (∀ c ∈ [a, kS], FpOk X pins H' c) → ∃ zs : List (V × PyData), ks = zs.map (·.1) ∧ zs.length = us.length ∧ (∀ z ∈ zs, Dp X.K H' z.1 z.2) ∧ AllAlike (zs.map (·.2)) ∧ Sortable2 (zs.map (·.2)) ∧ (∀ z ∈ zs, z.2.depth ≤ 60) ∧
      ∀ (h' : Heap) (tk c : Nat) (out : List Value), Vals (((us.zip (zs.map (·.2))).mergeSort (dataLe b (·.2))).map (·.1)) out → (∀ d o, d ≠ a → d ≠ kS → s'.heap.get? d = some o → h'.get? d = some o) → h'.get? a = some (seqObj "list" out.toArray c) → P (.done (.ret .none)) { s' with heap := h', toks := tk }) :
    wpAny (model X.prog X.w) A (ksk_rest a (.ref f) b vs.toArray e1 (.ref kS)) P E s := by
  have hlen := rv.length
  unfold ksk_rest
  refine wpAny_bind (wpAny_rule ?_)
  first
    | rw [List.forIn_toArray]
    | (rw [← Array.forIn_toList]; simp only [List.toList_toArray])
  refine wpAny_bind (ksk_fold (fun i s' => ∃ H' ks is kA e, L2.Inv X pins σ H' s' ∧ KW i ks is H' ∧ Vals ks kA.toList ∧ kA.size = i ∧ (∀ c ∈ [a, kS], FpOk X pins H' c) ∧ s'.heap.get? kS = some (seqObj "list" kA e) ∧ s'.heap.get? a = some (seqObj "list" #[] e1)) vs 0 s ⟨H, [], [], #[], 0, I, h0, .nil, rfl, fp, nk, na⟩ ?step ?done)
  case step =>
    rintro j x s' hx ⟨H', ks, is, kA, e, I', w', rk, hs, fp', nk', na'⟩
    simp only [Nat.zero_add] at w' hs ⊢
    have hj : j < vs.length := (List.getElem?_eq_some_iff.mp hx).1
    have hxu : us[j]? = some (us[j]'(by omega)) := List.getElem?_eq_getElem (by omega)
    obtain ⟨u', q1, q2⟩ := rv.get hxu
    rw [hx] at q1
    cases q1
    refine wpAny_bind (wpAny_attempt (key_turn (l := [a, kS]) hc I' (kw _ _ _ _ _ w' hxu) q2 fp' (fun c hcm => ?_) fun u s2 k H2 I2 rk2 w2 keep fp2 => ?_))
    · simp only [List.mem_cons, List.not_mem_nil, or_false] at hcm
      rcases hcm with rfl | rfl
      · exact ⟨_, na', fun v z => by cases z⟩
      · exact ⟨_, nk', fun v z => by cases z⟩
    try dsimp only
    have nk2 := keep kS (by simp) _ nk'
    have na2 := keep a (by simp) _ na'
    have s1 := Heap.SameBut.update s2.heap kS (Obj.mapSeq (·.push u))
    obtain ⟨c2, hc2⟩ : ∃ c2, (s2.heap.update kS (Obj.mapSeq (·.push u))).get? kS = some (seqObj "list" (kA.push u) c2) := ⟨_, get?_update_seq nk2 (·.push u)⟩
    refine wpAny_bind (listUpdate_at nk2 rfl ?_ (by rw [hs]; omega) (by rw [Array.size_push, hs]; omega))
    obtain ⟨f0, f1, f2, f3, f4, f5⟩ := fp2 kS (by simp)
    refine wpAny_pure ⟨rfl, H2, ks ++ [k], _, kA.push u, c2, I2.turned (t' := s2.toks) (fun b o hb e => (s1.2 b hb).trans e) f0 f1 f3 f4 f5, w2, ?_, by rw [Array.size_push, hs], fp2, hc2, (s1.2 a (Ne.symm hka)).trans na2⟩
    rw [Array.toList_push]
    exact rk.append (.cons rk2 .nil)
  case done =>
    rintro s' ⟨H', ks, is, kA, e, I', w', rk, hs, fp', nk', na'⟩
    rw [Nat.zero_add] at w' hs
    rw [← hlen] at w'
    obtain ⟨zs, rfl, zl, dp, hal, hso, hdp, fin⟩ := fin ks is H' s' w' I' fp'
    have er : EachIs (fun v (z : V × PyData) => ∃ as, Reads s'.heap v z.2 as) kA.toList zs := each_valsM (P := fun z => Dp X.K H' z.1 z.2) (fun v z hp hr => Dp.reads I' z.2 z.1 v hp hr) dp rk
    have hk' : EachIs (fun v d => ∃ as, Reads s'.heap v d as) kA.toList (zs.map (·.2)) := each_map (R := fun v d => ∃ as, Reads s'.heap v d as) (fun z : V × PyData => z.2) er
    obtain ⟨G, g1, g2⟩ := L2.restrict s'.heap fun c => decide (c ≠ kS)
    try dsimp only
    refine wpAny_bind (listItems_at nk' rfl ?_)
    refine keyH_end (κ := dataKind s'.heap (zs.map (·.2))) (h₁ := G) (fun c o hc e => ?_) (g2 kS (by simp)) nk' na' hka (SortsAt.data2 (s := s') hk' hal hso fun d hm => ?_) (by rw [hs]) (by omega) fun h3 tk3 c k3 n3 => ?_
    · by_cases z : c = kS
      · subst z
        rw [g2 c (by simp)] at e; cases e
      · rw [g1 c (by simp [z])] at e; exact e
    · obtain ⟨z, hz, rfl⟩ := List.mem_map.mp hm
      have := hdp z hz
      omega
    · refine fin h3 tk3 c _ ?_ (fun d o h1 h2 e => k3 d o h1 (by rw [g1 d (by simp [h2])]; exact e)) n3
      have zm : (us.zip (zs.map (·.2))).map (·.2) = zs.map (·.2) := by
        rw [List.map_snd_zip]
        rw [List.length_map]; omega
      have zm1 : (us.zip (zs.map (·.2))).map (·.1) = us := by
        rw [List.map_fst_zip]
        rw [List.length_map]; omega
      have eR : EachIs (fun v (z : V × PyData) => RelV z.1 v) vs (us.zip (zs.map (·.2))) := each_valsM (P := fun _ => True) (fun v z _ hr => hr) (fun _ _ => trivial) (by rw [zm1]; exact rv)
      exact vals_each (keyedOut_each (rev := b) (fun z : V × PyData => z.2) ⟨s'.heap, kA.toList, by rw [zm]; exact hal, by rw [zm], by rw [zm]; exact hk'⟩ eR)
theorem sorted_keyed {f a : Addr} {Q : VK} (I : L2.Inv X pins σ H s) (hu : X.A.units + 64 < cLine) (hs : SqL X.K H a us ∨ SqT X.K H a us) (hc : CallsAs X X.A.in1.in1 f σ tb σk FH) (kw : KeyWalk tb σk FH (fun i x _ => us[i]? = some x) KW) (h0 : KW 0 [] [] H)
    (fin : ∀ ks is H', KW us.length ks is H' → ∃ zs : List (V × PyData), ks = zs.map (·.1) ∧ zs.length = us.length ∧ (∀ z ∈ zs, Dp X.K H' z.1 z.2) ∧ AllAlike (zs.map (·.2)) ∧ Sortable2 (zs.map (·.2)) ∧ (∀ z ∈ zs, z.2.depth ≤ 60) ∧
      ∀ p, H' p = none → Q (.ref p) (upd H' p (.lst (((us.zip (zs.map (·.2))).mergeSort (dataLe false (·.2))).map (·.1))))) :
    wpAny (model X.prog X.w) X.A (call (.builtin "sorted") [.ref a] [(Str.ofString "key", .ref f)]) (EP X pins σ Q) X.xe s := by
  obtain ⟨T, o, its, n, hT, h1, h2, h3, rv, hz⟩ := seq_at I hs
  have hlen := rv.length
  have hz' : its.length ≤ sizeLine := by rw [← hlen]; exact hz
  refine sorted_col hT h1 h2 h3 hz' (ksk_s1 _ _) (fun x => ksk_l1 _ _) fun h' E' hk' => ?_
  rw [ksk_t1]
  have I2 : L2.Inv X pins σ H { s with heap := h' } := I.kept (t' := s.toks) hk'
  have ho : (h'.push (seqObj "list" its.toArray 0)).get? h'.objs.size = some (seqObj "list" its.toArray 0) := Heap.get?_push_size _ rfl
  obtain ⟨e1, ho1⟩ : ∃ e1, ((h'.push (seqObj "list" its.toArray 0)).update h'.objs.size (Obj.mapSeq fun _ => (#[] : Array Value))).get? h'.objs.size = some (seqObj "list" #[] e1) := ⟨_, get?_update_seq ho fun _ => #[]⟩
  have hkS : (((h'.push (seqObj "list" its.toArray 0)).update h'.objs.size (Obj.mapSeq fun _ => (#[] : Array Value))).push (seqObj "tuple" its.toArray 0)).objs.size = h'.objs.size + 2 := by rw [size_push', Heap.size_update, size_push']
  unfold ksk_tree
  refine wpAny_bind (listItems_at ho rfl ?_)
  refine wpAny_bind (listUpdate_at ho rfl ?_ (by rw [List.size_toArray]; exact hz') (Nat.zero_le _))
  refine wpAny_bind (seqEpoch_at ho1 rfl ?_)
  refine wpAny_bind (wpAny_newTuple ?_ (by show its.length ≤ _; exact hz'))
  refine wpAny_bind (wpAny_newList ?_ (Nat.zero_le _))
  refine wpAny_holding ?_
  have old : ∀ b o, h'.get? b = some o → (sortingHeap (h'.push (seqObj "list" its.toArray 0)) h'.objs.size its).get? b = some o := fun b o e => sortingHeap_old (Nat.ne_of_lt (Heap.lt_size e)) (Heap.get?_push_of_some _ e)
  have I3 : L2.Inv X pins σ H { s with heap := sortingHeap (h'.push (seqObj "list" its.toArray 0)) h'.objs.size its } := Inv.kept (s := { s with heap := h' }) (t' := s.toks) I2 old
  have fresh : ∀ c, h'.objs.size ≤ c → FpOk X pins H c := fun c hcm => Inv.fpOk (s := { s with heap := h' }) I2 hcm (I2.hok.fresh hcm)
  refine sort_rest (b := false) (s := { s with heap := sortingHeap (h'.push (seqObj "list" its.toArray 0)) h'.objs.size its }) (kS := (((h'.push (seqObj "list" its.toArray 0)).update h'.objs.size (Obj.mapSeq fun _ => (#[] : Array Value))).push (seqObj "tuple" its.toArray 0)).objs.size) hc kw (by show X.A.units + 2 + 62 < _; omega) I3 h0 rv hz (fun c hcm => ?_) (by rw [hkS]; exact Nat.ne_of_gt (Nat.lt_add_of_pos_right (by decide))) (Heap.get?_push_size _ rfl) (Heap.get?_push_of_some _ (Heap.get?_push_of_some _ ho1)) fun ks is H' s' w' I' fa => ?_
  · simp only [List.mem_cons, List.not_mem_nil, or_false] at hcm
    rcases hcm with rfl | rfl
    · exact fresh _ (Nat.le_refl _)
    · exact fresh _ (by rw [hkS]; exact Nat.le_add_right _ _)
  · obtain ⟨zs, e1, e2, e3, e4, e5, e6, q⟩ := fin ks is H' w'
    refine ⟨zs, e1, e2, e3, e4, e5, e6, fun h2 tk c out rvo keep at_ => ⟨rfl, ?_⟩⟩
    have I4 : L2.Inv X pins σ H' { s' with heap := h2, toks := tk } := by
      refine Inv.turnedL (s := s') (h' := h2) (t' := tk) (I := I') (ch := [h'.objs.size, (((h'.push (seqObj "list" its.toArray 0)).update h'.objs.size (Obj.mapSeq fun _ => (#[] : Array Value))).push (seqObj "tuple" its.toArray 0)).objs.size]) (fun b o hb e => ?_) fun c hcm => ?_
      · simp only [List.mem_cons, List.not_mem_nil, or_false, not_or] at hb
        exact keep b o hb.1 hb.2 e
      · simp only [List.mem_cons, List.not_mem_nil, or_false] at hcm
        rcases hcm with rfl | rfl
        · exact fa _ (by simp)
        · exact fa _ (by simp)
    have hol := rvo.length
    have hol2 : (((us.zip (zs.map (·.2))).mergeSort (dataLe false (·.2))).map (·.1)).length ≤ sizeLine := by
      rw [List.length_map, List.length_mergeSort, List.length_zip]
      omega
    have I5 := Inv.learn (o := HO.lst (((us.zip (zs.map (·.2))).mergeSort (dataLe false (·.2))).map (·.1))) I4 (fa h'.objs.size (by simp)) ⟨hol2, out, c, rvo, at_⟩
    exact ⟨.ref h'.objs.size, _, I5, rfl, q _ (fa _ (by simp)).1⟩
end
end J

set_option maxHeartbeats 1000000
/-! J: max(x, key=lambda ..), min(x, key=lambda ..), the model's side (printed by mkJS16.py). -/
namespace J
open PySem PySem.Spec PyProof.Rows L2 GxR PySem.W PySem.SeqAt
/-- the list or tuple at a; an iterator over it -/
def SqX (kd : Bool) (K : PySem.W.Frag) (H : Hp) (a : Addr) (us : List V) : Prop := match kd with
  | true => SqL K H a us
  | false => SqT K H a us
def ItAt (kd : Bool) (h : Heap) (it a : Addr) (i : Nat) : Prop := match kd with
  | true => h.IsListIter it a i
  | false => h.IsTupleIter it a i
theorem ItAt.at {kd : Bool} {h h' : Heap} {it a : Addr} {i : Nat} (x : ItAt kd h it a i) (k : ∀ o, h.get? it = some o → h'.get? it = some o) : ItAt kd h' it a i := by
  cases kd
  · exact Heap.IsTupleIter.at x k
  · exact Heap.IsListIter.at x k
theorem ItAt.obj {kd : Bool} {h : Heap} {it a : Addr} {i : Nat} (x : ItAt kd h it a i) : ∃ o, h.get? it = some o ∧ ∀ v, o.data ≠ .cell v := by
  cases kd
  · obtain ⟨o, e, c, d⟩ := x
    exact ⟨o, e, fun v z => by rw [d] at z; cases z⟩
  · obtain ⟨o, e, c, d⟩ := x
    exact ⟨o, e, fun v z => by rw [d] at z; cases z⟩
section
variable {X : Cx} {pins : List (Addr × Obj)} {σ : L2.St} {H : Hp} {s : Shared} {tb : TE} {σk : V → L2.St} {FH : Hp → Prop} {us : List V} {KW : Nat → List V → List V → Hp → Prop} {n : Nat} {A : Around} {E : Value → Shared → Prop}
theorem seq_iter {kd : Bool} {a : Addr} {Q : Value → Shared → Prop} (I : L2.Inv X pins σ H s) (hs : SqX kd X.K H a us) (hQ : ∀ it s', L2.Inv X pins σ H s' → ItAt kd s'.heap it a 0 → FpOk X pins H it → it < s'.heap.objs.size → s'.gens = s.gens → Q (.ref it) s') : wpAny (model X.prog X.w) A (pyIter (.ref a)) Q E s := by
  have fr := I.fpOk (H' := H) (b := s.heap.objs.size) (Nat.le_refl _) (I.hok.fresh (Nat.le_refl _))
  cases kd with
  | true =>
    obtain ⟨its, rv, p, hz⟩ := I.list hs
    refine wpAny_pyIter_list p.isList ?_
    exact hQ _ _ (I.kept (t' := s.toks) fun b o e => Heap.get?_push_of_some _ e) ⟨_, Heap.get?_push_size _ rfl, rfl, rfl⟩ fr (by show _ < (Heap.push _ _).objs.size; rw [Heap.size_push]; exact Nat.lt_succ_self _) rfl
  | false =>
    obtain ⟨its, rv, p, hz⟩ := I.tuple hs
    refine wpAny_pyIter_tuple (show s.heap.IsTuple a its.toArray from p) ?_
    exact hQ _ _ (I.kept (t' := s.toks) fun b o e => Heap.get?_push_of_some _ e) ⟨_, Heap.get?_push_size _ rfl, rfl, rfl⟩ fr (by show _ < (Heap.push _ _).objs.size; rw [Heap.size_push]; exact Nat.lt_succ_self _) rfl
theorem seq_item {kd : Bool} {a it : Addr} {i : Nat} {x : V} {Q : Option Value → Shared → Prop} (I : L2.Inv X pins σ H s) (hs : SqX kd X.K H a us) (f : FpOk X pins H it) (st : ItAt kd s.heap it a i) (hx : us[i]? = some x)
    (hQ : ∀ u s', L2.Inv X pins σ H s' → ItAt kd s'.heap it a (i + 1) → RelV x u → (∀ b o, b ≠ it → s.heap.get? b = some o → s'.heap.get? b = some o) → Q (some u) s') : wpAny (model X.prog X.w) A (pyNext (.ref it)) Q E s := by
  obtain ⟨f0, f1, f2, f3, f4, f5⟩ := f
  cases kd with
  | true =>
    obtain ⟨its, rv, p, hz⟩ := I.list hs
    obtain ⟨u, hu, ru⟩ := rv.get hx
    refine wpAny_pyNext_list_item st p.isList (x := u) (by simpa using hu) fun h' st' sb => ?_
    exact hQ u _ (I.turned (t' := s.toks) (fun b o hb e => (sb.2 b hb).trans e) f0 f1 f3 f4 f5) st' ru fun b o hb e => (sb.2 b hb).trans e
  | false =>
    obtain ⟨its, rv, p, hz⟩ := I.tuple hs
    obtain ⟨u, hu, ru⟩ := rv.get hx
    refine wpAny_pyNext_tuple_item st (show s.heap.IsTuple a its.toArray from p) (x := u) (by simpa using hu) fun h' st' sb => ?_
    exact hQ u _ (I.turned (t' := s.toks) (fun b o hb e => (sb.2 b hb).trans e) f0 f1 f3 f4 f5) st' ru fun b o hb e => (sb.2 b hb).trans e
theorem seq_done {kd : Bool} {a it : Addr} {i : Nat} {Q : Option Value → Shared → Prop} (hh : A.handled = none) (I : L2.Inv X pins σ H s) (hs : SqX kd X.K H a us) (f : FpOk X pins H it) (st : ItAt kd s.heap it a i) (hx : us.length ≤ i)
    (hQ : ∀ s', L2.Inv X pins σ H s' → (∀ b o, b ≠ it → s.heap.get? b = some o → s'.heap.get? b = some o) → Q none s') : wpAny (model X.prog X.w) A (pyNext (.ref it)) Q E s := by
  obtain ⟨f0, f1, f2, f3, f4, f5⟩ := f
  cases kd with
  | true =>
    obtain ⟨its, rv, p, hz⟩ := I.list hs
    have hl := rv.length
    exact wpAny_pyNext_list_end hh st p.isList (by simp; omega) fun h' eb => hQ _ (I.turned (t' := s.toks) (fun b o hb e => eb b o hb e) f0 f1 f3 f4 f5) fun b o hb e => eb b o hb e
  | false =>
    obtain ⟨its, rv, p, hz⟩ := I.tuple hs
    have hl := rv.length
    exact wpAny_pyNext_tuple_end hh st (show s.heap.IsTuple a its.toArray from p) (by simp; omega) fun h' eb => hQ _ (I.turned (t' := s.toks) (fun b o hb e => eb b o hb e) f0 f1 f3 f4 f5) fun b o hb e => eb b o hb e
/-- what is known of the keys: ds, by their places -/
structure KeyDat (X : Cx) (tb : TE) (σk : V → L2.St) (FH : Hp → Prop) (a : Addr) (kd : Bool) (n : Nat) (ds : List PyData) (KW : Nat → List V → List V → Hp → Prop) : Prop where
  step : ∀ i ks is H, KW i ks is H → i < n → ∃ us x, SqX kd X.K H a us ∧ us[i]? = some x ∧ FH H ∧ tb (σk x) H fun k H' => KW (i + 1) (ks ++ [k]) (is ++ [x]) H'
  stop : ∀ ks is H, KW n ks is H → ∃ us, SqX kd X.K H a us ∧ us.length ≤ n
  at_ : ∀ i ks is H, KW i ks is H → ks.length = i ∧ is.length = i ∧ ∀ (j : Nat) (k : V), ks[j]? = some k → ∃ d, ds[j]? = some d ∧ Dp X.K H k d
  al : AllAlike ds
  non : ∀ d ∈ ds, d ≠ .none
  dep : ∀ d ∈ ds, d.depth ≤ 60

def bt_max (ds : List PyData) (i j : Nat) : Bool := dataLt (ds.getD j .none) (ds.getD i .none)
theorem max_cmp {i j : Nat} {d e : PyData} {ki kj : Value} {ds : List PyData} {Q : Value → Shared → Prop} {ku kv : V} (al : AllAlike ds) (non : ∀ d ∈ ds, d ≠ .none) (dep : ∀ d ∈ ds, d.depth ≤ 60) (hu : A.units + 60 < cLine) (I : L2.Inv X pins σ H s) (hi : ds[i]? = some d) (hj : ds[j]? = some e) (pi : Dp X.K H ku d) (pj : Dp X.K H kv e) (ri : RelV ku ki) (rj : RelV kv kj)
    (hQ : Q (.bool (bt_max ds i j)) s) : wpAny (model X.prog X.w) A (richCompare .Gt ki kj) Q E s := by
  obtain ⟨as, r1⟩ := Dp.reads I d ku ki pi ri
  obtain ⟨bs, r2⟩ := Dp.reads I e kv kj pj rj
  have m1 := List.mem_of_getElem? hi
  have m2 := List.mem_of_getElem? hj
  have e1 : ds.getD i .none = d := by rw [List.getD_eq_getElem?_getD, hi]; rfl
  have e2 : ds.getD j .none = e := by rw [List.getD_eq_getElem?_getD, hj]; rfl
  have hd := dep d m1
  refine gt_data r1 r2 (al d m1 e m2) (non d m1) (by omega) ?_
  unfold bt_max at hQ
  rw [e1, e2] at hQ
  exact hQ
theorem max_loop {kd : Bool} {f a it S : Addr} {ds : List PyData} {R : Result → Shared → Prop} (hc : CallsAs X A.in1 f σ tb σk FH) (D : KeyDat X tb σk FH a kd n ds KW) (hh : A.handled = none) (hu : A.units + 62 < cLine) (hSi : S ≠ it) (kws : List (Str × Value))
    (hR : ∀ v s' H' ks' is', L2.Inv X pins σ H' s' → KW n ks' is' H' → (∃ x, is'[argBest (bt_max ds) (n - 1)]? = some x ∧ RelV x v) → R (.ok (.ret v)) s') :
    ∀ (k j : Nat) (s : Shared) (H : Hp) (ks is : List V) (vb kb : Value) (c : Nat), n - (j + 1) = k → j + 1 ≤ n → L2.Inv X pins σ H s → KW (j + 1) ks is H → ItAt kd s.heap it a (j + 1) → (∀ b ∈ [it, S], FpOk X pins H b) → (∃ x, is[argBest (bt_max ds) j]? = some x ∧ RelV x vb) → argBest (bt_max ds) j ≤ j → (∃ q, ks[argBest (bt_max ds) j]? = some q ∧ RelV q kb) →
      s.heap.get? S = some { cls := .type "list", dict := none, data := .seq #[vb, kb] c, slots := #[] } → codeAny (model X.prog X.w) A (.builtin "max.loop" ⟨[.ref it, .ref f, .ref S], kws⟩) R s := by
  have hname : (toString "max" ++ toString ".loop" : String) = "max.loop" := by decide
  have hun : A.in1.units + 60 < cLine := by show A.units + 1 + 60 < _; omega
  intro k
  induction k with
  | zero =>
    intro j s H ks is vb kb c hk hj I w st fp hvb hbj hkb hS
    have hin : j + 1 = n := by omega
    obtain ⟨us, hsq, hul⟩ := D.stop _ _ _ (by rw [← hin]; exact w)
    refine codeAny_builtin F.entry_max_loop ?_
    rw [Around.under_plainId F.plain_max_loop _]
    show wpAny _ A.in1 (seqItems? (.ref S) >>= _) _ _ s
    refine wpAny_bind (wpAny_seqItems hS rfl ?_)
    show wpAny _ A.in1 (tryCatch (pyNext (.ref it)) _ >>= _) _ _ s
    refine wpAny_bind (wpAny_tryCatch (seq_done (A := A.in1) hh I hsq (fp it (by simp)) st (by omega) fun s' I' keep => ?_))
    have hS' := keep S _ hSi hS
    show wpAny _ A.in1 (updateSeq S (fun _ => #[]) >>= _) _ _ _
    refine wpAny_bind ?_
    obtain ⟨f0, f1, f2, f3, f4, f5⟩ := fp S (by simp)
    refine wpAny_updateSeq hS' rfl (wpAny_bind (wpAny_letGo (wpAny_pure ?_)))
    refine hR vb _ H ks is (I'.turned (t' := s'.toks) (fun b o hb e => (Heap.get?_update_other _ _ (Ne.symm hb)).trans e) f0 f1 f3 f4 f5) (by rw [← hin]; exact w) ?_
    rw [show n - 1 = j by omega]
    exact hvb
  | succ k ih =>
    intro j s H ks is vb kb c hk hj I w st fp hvb hbj hkb hS
    obtain ⟨us, xj, hsq, hx, ht⟩ := D.step _ _ _ _ w (by omega)
    refine codeAny_builtin F.entry_max_loop ?_
    rw [Around.under_plainId F.plain_max_loop _]
    show wpAny _ A.in1 (seqItems? (.ref S) >>= _) _ _ s
    refine wpAny_bind (wpAny_seqItems hS rfl ?_)
    show wpAny _ A.in1 (tryCatch (pyNext (.ref it)) _ >>= _) _ _ s
    refine wpAny_bind (wpAny_tryCatch (seq_item I hsq (fp it (by simp)) st hx fun v s' I' st' rv keep => ?_))
    have hS' := keep S _ hSi hS
    show wpAny _ A.in1 (tryCatch (holding [v] (call (.ref f) [v])) _ >>= _) _ _ _
    refine wpAny_bind (wpAny_tryCatch (wpAny_holding (key_turn (l := [it, S]) hc I' ht rv fp (fun b hb => ?_) fun kx s2 kk H2 I2 rk w2 keep2 fp2 => ?_)))
    · simp only [List.mem_cons, List.not_mem_nil, or_false] at hb
      rcases hb with rfl | rfl
      · exact st'.obj
      · exact ⟨_, hS', fun v z => by cases z⟩
    have hS2 := keep2 S (by simp) _ hS'
    have st2 : ItAt kd s2.heap it a (j + 1 + 1) := st'.at fun o e => keep2 it (by simp) o e
    obtain ⟨l2, m2, d2⟩ := D.at_ _ _ _ _ w2
    obtain ⟨l1, m1, d1⟩ := D.at_ _ _ _ _ w
    have hi3 : (is ++ [xj])[j + 1]? = some xj := by rw [List.getElem?_append_right (by omega), m1, Nat.sub_self]; rfl
    have hvb2 : ∃ x, (is ++ [xj])[argBest (bt_max ds) j]? = some x ∧ RelV x vb := by
      obtain ⟨x, e, r⟩ := hvb
      exact ⟨x, by rw [List.getElem?_append_left (by omega)]; exact e, r⟩
    obtain ⟨q, hq1, hq2⟩ := hkb
    have hq3 : (ks ++ [kk])[argBest (bt_max ds) j]? = some q := by rw [List.getElem?_append_left (by omega)]; exact hq1
    have hk3 : (ks ++ [kk])[j + 1]? = some kk := by rw [List.getElem?_append_right (by omega), l1, Nat.sub_self]; rfl
    obtain ⟨e1, g1, p1⟩ := d2 _ _ hk3
    obtain ⟨e2, g2, p2⟩ := d2 _ _ hq3
    show wpAny _ A.in1 (tryCatch (holding [v, kx] (richCompare .Gt kx kb >>= _)) _ >>= _) _ _ _
    refine wpAny_bind (wpAny_tryCatch (wpAny_holding (wpAny_bind (max_cmp D.al D.non D.dep hun I2 g1 g2 p1 p2 rk hq2 ?_))))
    refine wpAny_bind (wpAny_holding (wpAny_truthy_bool ?_))
    refine wpAny_bind (wpAny_letGo (wpAny_pure ?_))
    cases hb : bt_max ds (j + 1) (argBest (bt_max ds) j) with
    | true =>
      simp only [if_true]
      refine wpAny_bind ?_
      refine wpAny_updateSeq hS2 rfl (wpAny_bind (wpAny_letGo ?_))
      rw [hname]
      obtain ⟨f0, f1, f2, f3, f4, f5⟩ := fp2 S (by simp)
      have eb : argBest (bt_max ds) (j + 1) = j + 1 := by simp only [argBest, hb, if_true]
      refine wpAny_pure ⟨plainId_quiet F.plain_max_loop _, ih (j + 1) _ H2 (ks ++ [kk]) _ v kx _ (by omega) (by omega) (I2.turned (t' := s2.toks) (fun b o hb e => (Heap.get?_update_other _ _ (Ne.symm hb)).trans e) f0 f1 f3 f4 f5) w2 (st2.at fun o e => (Heap.get?_update_other _ _ hSi).trans e) fp2 ⟨_, by rw [eb]; exact hi3, rv⟩ (by rw [eb]; exact Nat.le_refl _) ⟨kk, by rw [eb]; exact hk3, rk⟩ (Heap.get?_update_self _ hS2 rfl)⟩
    | false =>
      simp only [Bool.false_eq_true, if_false]
      refine wpAny_bind (wpAny_letGo ?_)
      rw [hname]
      have eb : argBest (bt_max ds) (j + 1) = argBest (bt_max ds) j := by simp only [argBest, hb, Bool.false_eq_true, if_false]
      exact wpAny_pure ⟨plainId_quiet F.plain_max_loop _, ih (j + 1) _ H2 (ks ++ [kk]) _ vb kb c (by omega) (by omega) I2 w2 st2 fp2 (by rw [eb]; exact hvb2) (by rw [eb]; exact Nat.le_succ_of_le hbj) ⟨q, by rw [eb]; exact hq3, hq2⟩ hS2⟩
theorem max_keyed {kd : Bool} {f a : Addr} {ds : List PyData} {Q : VK} (I : L2.Inv X pins σ H s) (hu : X.A.units + 64 < cLine) (hcalm : X.calm = true) (hc : CallsAs X X.A.in1 f σ tb σk FH) (D : KeyDat X tb σk FH a kd n ds KW) (h0 : KW 0 [] [] H) (hn : 0 < n)
    (fin : ∀ ks is H' x, KW n ks is H' → is[argBest (bt_max ds) (n - 1)]? = some x → Q x H') : wpAny (model X.prog X.w) X.A (call (.builtin "max") [.ref a] [(Str.ofString "key", .ref f)]) (EP X pins σ Q) X.xe s := by
  have hname : (toString "max" ++ toString ".loop" : String) = "max.loop" := by decide
  have hh : X.A.handled = none := I.ok.hd hcalm
  obtain ⟨us, x0, hsq, hx, ht⟩ := D.step _ _ _ _ h0 hn
  refine PyProof.Rows.kmk_tree F.kind_max F.plain_max F.entry_max (PyProof.Rows.kmk_max_key _ _) ?_
  show wpAny _ X.A.in1 (Builtin.Builtins.bindParams "max" ["key", "default"] 0 ⟨[], [(Str.ofString "key", .ref f)]⟩ >>= _) _ _ s
  refine wpAny_bind (wpAny_of_eq (show Builtin.Builtins.bindParams "max" ["key", "default"] 0 ⟨[], [(Str.ofString "key", .ref f)]⟩ = pure [some (.ref f), none] from rfl) ?_)
  refine wpAny_bind (wpAny_pure ?_)
  refine wpAny_bind (seq_iter I hsq fun it s1 I1 st fit hlt hg => ?_)
  refine wpAny_bind (wpAny_newObj_type ?_)
  rw [hname]
  have I2 : L2.Inv X pins σ H { s1 with heap := s1.heap.push { cls := .type "list", data := .seq #[] 0 } } := I1.kept (t' := s1.toks) fun b o e => Heap.get?_push_of_some _ e
  have fS := I1.fpOk (H' := H) (b := s1.heap.objs.size) (Nat.le_refl _) (I1.hok.fresh (Nat.le_refl _))
  have hSi : s1.heap.objs.size ≠ it := Nat.ne_of_gt hlt
  have hS : (s1.heap.push { cls := .type "list", data := .seq #[] 0 }).get? s1.heap.objs.size = some { cls := .type "list", dict := none, data := .seq #[] 0, slots := #[] } := Heap.get?_push_size _ rfl
  have st1 : ItAt kd (s1.heap.push { cls := .type "list", data := .seq #[] 0 }) it a 0 := st.at fun o e => Heap.get?_push_of_some _ e
  refine wpAny_pure ⟨plainId_quiet F.plain_max_loop _, codeAny_builtin F.entry_max_loop ?_⟩
  rw [Around.under_plainId F.plain_max_loop _]
  show wpAny _ X.A.in1 (seqItems? (.ref s1.heap.objs.size) >>= _) _ _ _
  refine wpAny_bind (wpAny_seqItems hS rfl ?_)
  show wpAny _ X.A.in1 (tryCatch (pyNext (.ref it)) _ >>= _) _ _ _
  refine wpAny_bind (wpAny_tryCatch (seq_item (s := { s1 with heap := s1.heap.push { cls := .type "list", data := .seq #[] 0 } }) I2 hsq fit st1 hx fun v s2 I3 st3 rv keep => ?_))
  have hS' := keep _ _ hSi hS
  show wpAny _ X.A.in1 (tryCatch (holding [v] (call (.ref f) [v])) _ >>= _) _ _ _
  refine wpAny_bind (wpAny_tryCatch (wpAny_holding (key_turn (l := [it, s1.heap.objs.size]) hc I3 ht rv (fun b hb => ?_) (fun b hb => ?_) fun kx s4 kk H4 I4 rk w4 keep4 fp4 => ?_)))
  · simp only [List.mem_cons, List.not_mem_nil, or_false] at hb
    rcases hb with rfl | rfl
    · exact fit
    · exact fS
  · simp only [List.mem_cons, List.not_mem_nil, or_false] at hb
    rcases hb with rfl | rfl
    · exact st3.obj
    · exact ⟨_, hS', fun v z => by cases z⟩
  have hS4 := keep4 s1.heap.objs.size (by simp) _ hS'
  have st4 : ItAt kd s4.heap it a (0 + 1) := st3.at fun o e => keep4 it (by simp) o e
  show wpAny _ X.A.in1 (updateSeq s1.heap.objs.size (fun _ => #[v, kx]) >>= _) _ _ _
  refine wpAny_bind ?_
  refine wpAny_updateSeq hS4 rfl ?_
  rw [hname]
  obtain ⟨f0, f1, f2, f3, f4, f5⟩ := fp4 s1.heap.objs.size (by simp)
  refine wpAny_pure ⟨plainId_quiet F.plain_max_loop _, max_loop (pins := pins) (S := s1.heap.objs.size) hc D hh (by omega) hSi _ ?_ _ 0 _ H4 [kk] _ v kx _ rfl hn (I4.turned (t' := s4.toks) (fun b o hb e => (Heap.get?_update_other _ _ (Ne.symm hb)).trans e) f0 f1 f3 f4 f5) w4 (st4.at fun o e => (Heap.get?_update_other _ _ hSi).trans e) fp4 ⟨_, rfl, rv⟩ (Nat.le_refl _) ⟨kk, rfl, rk⟩ (Heap.get?_update_self _ hS4 rfl)⟩
  rintro u s5 H5 ks5 is5 I5 w5 ⟨x, hx5, rx⟩
  exact ⟨x, H5, I5, rx, fin ks5 is5 H5 x w5 hx5⟩

def bt_min (ds : List PyData) (i j : Nat) : Bool := dataLt (ds.getD i .none) (ds.getD j .none)
theorem min_cmp {i j : Nat} {d e : PyData} {ki kj : Value} {ds : List PyData} {Q : Value → Shared → Prop} {ku kv : V} (al : AllAlike ds) (non : ∀ d ∈ ds, d ≠ .none) (dep : ∀ d ∈ ds, d.depth ≤ 60) (hu : A.units + 60 < cLine) (I : L2.Inv X pins σ H s) (hi : ds[i]? = some d) (hj : ds[j]? = some e) (pi : Dp X.K H ku d) (pj : Dp X.K H kv e) (ri : RelV ku ki) (rj : RelV kv kj)
    (hQ : Q (.bool (bt_min ds i j)) s) : wpAny (model X.prog X.w) A (richCompare .Lt ki kj) Q E s := by
  obtain ⟨as, r1⟩ := Dp.reads I d ku ki pi ri
  obtain ⟨bs, r2⟩ := Dp.reads I e kv kj pj rj
  have m1 := List.mem_of_getElem? hi
  have m2 := List.mem_of_getElem? hj
  have e1 : ds.getD i .none = d := by rw [List.getD_eq_getElem?_getD, hi]; rfl
  have e2 : ds.getD j .none = e := by rw [List.getD_eq_getElem?_getD, hj]; rfl
  have hd := dep d m1
  refine lt_data r1 r2 (al d m1 e m2) (non d m1) (by omega) ?_
  unfold bt_min at hQ
  rw [e1, e2] at hQ
  exact hQ
theorem min_loop {kd : Bool} {f a it S : Addr} {ds : List PyData} {R : Result → Shared → Prop} (hc : CallsAs X A.in1 f σ tb σk FH) (D : KeyDat X tb σk FH a kd n ds KW) (hh : A.handled = none) (hu : A.units + 62 < cLine) (hSi : S ≠ it) (kws : List (Str × Value))
    (hR : ∀ v s' H' ks' is', L2.Inv X pins σ H' s' → KW n ks' is' H' → (∃ x, is'[argBest (bt_min ds) (n - 1)]? = some x ∧ RelV x v) → R (.ok (.ret v)) s') :
    ∀ (k j : Nat) (s : Shared) (H : Hp) (ks is : List V) (vb kb : Value) (c : Nat), n - (j + 1) = k → j + 1 ≤ n → L2.Inv X pins σ H s → KW (j + 1) ks is H → ItAt kd s.heap it a (j + 1) → (∀ b ∈ [it, S], FpOk X pins H b) → (∃ x, is[argBest (bt_min ds) j]? = some x ∧ RelV x vb) → argBest (bt_min ds) j ≤ j → (∃ q, ks[argBest (bt_min ds) j]? = some q ∧ RelV q kb) →
      s.heap.get? S = some { cls := .type "list", dict := none, data := .seq #[vb, kb] c, slots := #[] } → codeAny (model X.prog X.w) A (.builtin "min.loop" ⟨[.ref it, .ref f, .ref S], kws⟩) R s := by
  have hname : (toString "min" ++ toString ".loop" : String) = "min.loop" := by decide
  have hun : A.in1.units + 60 < cLine := by show A.units + 1 + 60 < _; omega
  intro k
  induction k with
  | zero =>
    intro j s H ks is vb kb c hk hj I w st fp hvb hbj hkb hS
    have hin : j + 1 = n := by omega
    obtain ⟨us, hsq, hul⟩ := D.stop _ _ _ (by rw [← hin]; exact w)
    refine codeAny_builtin F.entry_min_loop ?_
    rw [Around.under_plainId F.plain_min_loop _]
    show wpAny _ A.in1 (seqItems? (.ref S) >>= _) _ _ s
    refine wpAny_bind (wpAny_seqItems hS rfl ?_)
    show wpAny _ A.in1 (tryCatch (pyNext (.ref it)) _ >>= _) _ _ s
    refine wpAny_bind (wpAny_tryCatch (seq_done (A := A.in1) hh I hsq (fp it (by simp)) st (by omega) fun s' I' keep => ?_))
    have hS' := keep S _ hSi hS
    show wpAny _ A.in1 (updateSeq S (fun _ => #[]) >>= _) _ _ _
    refine wpAny_bind ?_
    obtain ⟨f0, f1, f2, f3, f4, f5⟩ := fp S (by simp)
    refine wpAny_updateSeq hS' rfl (wpAny_bind (wpAny_letGo (wpAny_pure ?_)))
    refine hR vb _ H ks is (I'.turned (t' := s'.toks) (fun b o hb e => (Heap.get?_update_other _ _ (Ne.symm hb)).trans e) f0 f1 f3 f4 f5) (by rw [← hin]; exact w) ?_
    rw [show n - 1 = j by omega]
    exact hvb
  | succ k ih =>
    intro j s H ks is vb kb c hk hj I w st fp hvb hbj hkb hS
    obtain ⟨us, xj, hsq, hx, ht⟩ := D.step _ _ _ _ w (by omega)
    refine codeAny_builtin F.entry_min_loop ?_
    rw [Around.under_plainId F.plain_min_loop _]
    show wpAny _ A.in1 (seqItems? (.ref S) >>= _) _ _ s
    refine wpAny_bind (wpAny_seqItems hS rfl ?_)
    show wpAny _ A.in1 (tryCatch (pyNext (.ref it)) _ >>= _) _ _ s
    refine wpAny_bind (wpAny_tryCatch (seq_item I hsq (fp it (by simp)) st hx fun v s' I' st' rv keep => ?_))
    have hS' := keep S _ hSi hS
    show wpAny _ A.in1 (tryCatch (holding [v] (call (.ref f) [v])) _ >>= _) _ _ _
    refine wpAny_bind (wpAny_tryCatch (wpAny_holding (key_turn (l := [it, S]) hc I' ht rv fp (fun b hb => ?_) fun kx s2 kk H2 I2 rk w2 keep2 fp2 => ?_)))
    · simp only [List.mem_cons, List.not_mem_nil, or_false] at hb
      rcases hb with rfl | rfl
      · exact st'.obj
      · exact ⟨_, hS', fun v z => by cases z⟩
    have hS2 := keep2 S (by simp) _ hS'
    have st2 : ItAt kd s2.heap it a (j + 1 + 1) := st'.at fun o e => keep2 it (by simp) o e
    obtain ⟨l2, m2, d2⟩ := D.at_ _ _ _ _ w2
    obtain ⟨l1, m1, d1⟩ := D.at_ _ _ _ _ w
    have hi3 : (is ++ [xj])[j + 1]? = some xj := by rw [List.getElem?_append_right (by omega), m1, Nat.sub_self]; rfl
    have hvb2 : ∃ x, (is ++ [xj])[argBest (bt_min ds) j]? = some x ∧ RelV x vb := by
      obtain ⟨x, e, r⟩ := hvb
      exact ⟨x, by rw [List.getElem?_append_left (by omega)]; exact e, r⟩
    obtain ⟨q, hq1, hq2⟩ := hkb
    have hq3 : (ks ++ [kk])[argBest (bt_min ds) j]? = some q := by rw [List.getElem?_append_left (by omega)]; exact hq1
    have hk3 : (ks ++ [kk])[j + 1]? = some kk := by rw [List.getElem?_append_right (by omega), l1, Nat.sub_self]; rfl
    obtain ⟨e1, g1, p1⟩ := d2 _ _ hk3
    obtain ⟨e2, g2, p2⟩ := d2 _ _ hq3
    show wpAny _ A.in1 (tryCatch (holding [v, kx] (richCompare .Lt kx kb >>= _)) _ >>= _) _ _ _
    refine wpAny_bind (wpAny_tryCatch (wpAny_holding (wpAny_bind (min_cmp D.al D.non D.dep hun I2 g1 g2 p1 p2 rk hq2 ?_))))
    refine wpAny_bind (wpAny_holding (wpAny_truthy_bool ?_))
    refine wpAny_bind (wpAny_letGo (wpAny_pure ?_))
    cases hb : bt_min ds (j + 1) (argBest (bt_min ds) j) with
    | true =>
      simp only [if_true]
      refine wpAny_bind ?_
      refine wpAny_updateSeq hS2 rfl (wpAny_bind (wpAny_letGo ?_))
      rw [hname]
      obtain ⟨f0, f1, f2, f3, f4, f5⟩ := fp2 S (by simp)
      have eb : argBest (bt_min ds) (j + 1) = j + 1 := by simp only [argBest, hb, if_true]
      refine wpAny_pure ⟨plainId_quiet F.plain_min_loop _, ih (j + 1) _ H2 (ks ++ [kk]) _ v kx _ (by omega) (by omega) (I2.turned (t' := s2.toks) (fun b o hb e => (Heap.get?_update_other _ _ (Ne.symm hb)).trans e) f0 f1 f3 f4 f5) w2 (st2.at fun o e => (Heap.get?_update_other _ _ hSi).trans e) fp2 ⟨_, by rw [eb]; exact hi3, rv⟩ (by rw [eb]; exact Nat.le_refl _) ⟨kk, by rw [eb]; exact hk3, rk⟩ (Heap.get?_update_self _ hS2 rfl)⟩
    | false =>
      simp only [Bool.false_eq_true, if_false]
      refine wpAny_bind (wpAny_letGo ?_)
      rw [hname]
      have eb : argBest (bt_min ds) (j + 1) = argBest (bt_min ds) j := by simp only [argBest, hb, Bool.false_eq_true, if_false]
      exact wpAny_pure ⟨plainId_quiet F.plain_min_loop _, ih (j + 1) _ H2 (ks ++ [kk]) _ vb kb c (by omega) (by omega) I2 w2 st2 fp2 (by rw [eb]; exact hvb2) (by rw [eb]; exact Nat.le_succ_of_le hbj) ⟨q, by rw [eb]; exact hq3, hq2⟩ hS2⟩
theorem min_keyed {kd : Bool} {f a : Addr} {ds : List PyData} {Q : VK} (I : L2.Inv X pins σ H s) (hu : X.A.units + 64 < cLine) (hcalm : X.calm = true) (hc : CallsAs X X.A.in1 f σ tb σk FH) (D : KeyDat X tb σk FH a kd n ds KW) (h0 : KW 0 [] [] H) (hn : 0 < n)
    (fin : ∀ ks is H' x, KW n ks is H' → is[argBest (bt_min ds) (n - 1)]? = some x → Q x H') : wpAny (model X.prog X.w) X.A (call (.builtin "min") [.ref a] [(Str.ofString "key", .ref f)]) (EP X pins σ Q) X.xe s := by
  have hname : (toString "min" ++ toString ".loop" : String) = "min.loop" := by decide
  have hh : X.A.handled = none := I.ok.hd hcalm
  obtain ⟨us, x0, hsq, hx, ht⟩ := D.step _ _ _ _ h0 hn
  refine PyProof.Rows.kmk_tree F.kind_min F.plain_min F.entry_min (PyProof.Rows.kmk_min_key _ _) ?_
  show wpAny _ X.A.in1 (Builtin.Builtins.bindParams "min" ["key", "default"] 0 ⟨[], [(Str.ofString "key", .ref f)]⟩ >>= _) _ _ s
  refine wpAny_bind (wpAny_of_eq (show Builtin.Builtins.bindParams "min" ["key", "default"] 0 ⟨[], [(Str.ofString "key", .ref f)]⟩ = pure [some (.ref f), none] from rfl) ?_)
  refine wpAny_bind (wpAny_pure ?_)
  refine wpAny_bind (seq_iter I hsq fun it s1 I1 st fit hlt hg => ?_)
  refine wpAny_bind (wpAny_newObj_type ?_)
  rw [hname]
  have I2 : L2.Inv X pins σ H { s1 with heap := s1.heap.push { cls := .type "list", data := .seq #[] 0 } } := I1.kept (t' := s1.toks) fun b o e => Heap.get?_push_of_some _ e
  have fS := I1.fpOk (H' := H) (b := s1.heap.objs.size) (Nat.le_refl _) (I1.hok.fresh (Nat.le_refl _))
  have hSi : s1.heap.objs.size ≠ it := Nat.ne_of_gt hlt
  have hS : (s1.heap.push { cls := .type "list", data := .seq #[] 0 }).get? s1.heap.objs.size = some { cls := .type "list", dict := none, data := .seq #[] 0, slots := #[] } := Heap.get?_push_size _ rfl
  have st1 : ItAt kd (s1.heap.push { cls := .type "list", data := .seq #[] 0 }) it a 0 := st.at fun o e => Heap.get?_push_of_some _ e
  refine wpAny_pure ⟨plainId_quiet F.plain_min_loop _, codeAny_builtin F.entry_min_loop ?_⟩
  rw [Around.under_plainId F.plain_min_loop _]
  show wpAny _ X.A.in1 (seqItems? (.ref s1.heap.objs.size) >>= _) _ _ _
  refine wpAny_bind (wpAny_seqItems hS rfl ?_)
  show wpAny _ X.A.in1 (tryCatch (pyNext (.ref it)) _ >>= _) _ _ _
  refine wpAny_bind (wpAny_tryCatch (seq_item (s := { s1 with heap := s1.heap.push { cls := .type "list", data := .seq #[] 0 } }) I2 hsq fit st1 hx fun v s2 I3 st3 rv keep => ?_))
  have hS' := keep _ _ hSi hS
  show wpAny _ X.A.in1 (tryCatch (holding [v] (call (.ref f) [v])) _ >>= _) _ _ _
  refine wpAny_bind (wpAny_tryCatch (wpAny_holding (key_turn (l := [it, s1.heap.objs.size]) hc I3 ht rv (fun b hb => ?_) (fun b hb => ?_) fun kx s4 kk H4 I4 rk w4 keep4 fp4 => ?_)))
  · simp only [List.mem_cons, List.not_mem_nil, or_false] at hb
    rcases hb with rfl | rfl
    · exact fit
    · exact fS
  · simp only [List.mem_cons, List.not_mem_nil, or_false] at hb
    rcases hb with rfl | rfl
    · exact st3.obj
    · exact ⟨_, hS', fun v z => by cases z⟩
  have hS4 := keep4 s1.heap.objs.size (by simp) _ hS'
  have st4 : ItAt kd s4.heap it a (0 + 1) := st3.at fun o e => keep4 it (by simp) o e
  show wpAny _ X.A.in1 (updateSeq s1.heap.objs.size (fun _ => #[v, kx]) >>= _) _ _ _
  refine wpAny_bind ?_
  refine wpAny_updateSeq hS4 rfl ?_
  rw [hname]
  obtain ⟨f0, f1, f2, f3, f4, f5⟩ := fp4 s1.heap.objs.size (by simp)
  refine wpAny_pure ⟨plainId_quiet F.plain_min_loop _, min_loop (pins := pins) (S := s1.heap.objs.size) hc D hh (by omega) hSi _ ?_ _ 0 _ H4 [kk] _ v kx _ rfl hn (I4.turned (t' := s4.toks) (fun b o hb e => (Heap.get?_update_other _ _ (Ne.symm hb)).trans e) f0 f1 f3 f4 f5) w4 (st4.at fun o e => (Heap.get?_update_other _ _ hSi).trans e) fp4 ⟨_, rfl, rv⟩ (Nat.le_refl _) ⟨kk, rfl, rk⟩ (Heap.get?_update_self _ hS4 rfl)⟩
  rintro u s5 H5 ks5 is5 I5 w5 ⟨x, hx5, rx⟩
  exact ⟨x, H5, I5, rx, fin ks5 is5 H5 x w5 hx5⟩
end
end J

set_option maxHeartbeats 1000000
/-! J: sorted, max, min with a lambda as key (printed by mkJS17.py). -/
namespace J
open PySem PySem.Spec PyProof.Rows L2 GxR PySem.W
/-- the lambda's function object -/
def LamF (X : Cx) (params : Arguments) (body : Expr) (scope : Scope) (code : Value) (f : Addr) : HO := .ext fun h => ∃ pm ctv, h.get? f = some { cls := .type "function", data := .func (PySem.W.kla_fn "<lambda>" (X.env.qual ++ "<lambda>") params body scope (cloFrom X.env.cells scope.names []) pm code ctv) }
def FHl (X : Cx) (params : Arguments) (body : Expr) (scope : Scope) (f c' P1 : Addr) (H : Hp) : Prop := H f = some (LamF X params body scope (.ref c') f) ∧ H c' = some (CodeN c' P1 (X.env.qual ++ "<lambda>"))
section
variable {X : Cx} {params : Arguments} {body : Expr} {scope : Scope} {lpos : Pos} {own : List (Str × Nat)} {c : Addr} {HT : Hp → Prop} {PP : Addr → Hp → Prop}
theorem pe_lam (cs : CodeSrc X c HT PP) (ok : BlkOk X.N X.env.scope scope own) (hdef : defaultsOf params X.env = ([], [])) :
    PE X (.Lambda params body scope lpos) (fun _ H Q => HT H ∧ ∀ P f H2 code, PP P H → Grown P lpos (X.env.qual ++ "<lambda>") code H H2 → H2 f = none → Q (.ref f) (upd H2 f (LamF X params body scope code f))) :=
  ⟨fun pins s σ H Q I ⟨hH, h⟩ => lam_new I cs hH ok hdef fun P f H2 code pm ctv s' hPP g I2 hf fp =>
    ⟨.ref f, _, Inv.learn (o := LamF X params body scope code f) I2 fp ⟨⟨pm, ctv, hf⟩, ⟨_, hf⟩, fun h1 h2 ⟨pm, ctv, e⟩ st => ⟨pm, ctv, st _ e⟩⟩, rfl, h P f H2 code hPP g fp.1⟩⟩
theorem calls_as {A : Around} {k slot : Nat} {x : Str} {f c' P1 : Addr} {σ : L2.St} {tb : TE} (hA : A.frames = some X.stack) (hr : Room (k + 1) A) (ok : BlkOk X.N X.env.scope scope [(x, slot)]) (nocell : ∀ y ∈ scope.names, y.2 ≠ .cell) (hco : scope.isCoroutine = false) (hge : scope.isGenerator = false) (hN : X.N.Nodup)
    (hbind : ∀ (q : Str) (cl : List (Str × Addr)) (pm cv ctv u : Value), bindArgs (PySem.W.kla_fn "<lambda>" q params body scope cl pm cv ctv) ⟨[u], []⟩ = pure [(x, u)]) (hloc : scope.names.lookup x = some .local)
    (pb : ∀ (B : Around) (s : Shared) (H : Hp) (L f c' : Addr), Room k B → PE (gx X B s H (lEnv X scope L f c') []) body tb) : CallsAs X A f σ tb (fun v => (wipe σ [slot]).set slot (some v)) (FHl X params body scope f c' P1) := by
  intro pins H s v u Q E I fh r t
  obtain ⟨pm, ctv, hf⟩ := (I.hok f _ fh.1).1
  refine lam_call (own := [(x, slot)]) (binds := [(x, u)]) I hA hr hf fh.2 ok nocell hco hge hN (hbind _ _ _ _ _ _) (fun y hy => ?_) ?_ (fun i w hw => ?_) (fun B s H L hB => pb B s H L f c' hB) t
  · rw [List.mem_singleton.mp hy]; exact hloc
  · rw [List.length_set, wipe_length]
  · by_cases hi : slot = i
    · subst hi
      have hl : slot < (wipe σ [slot]).length := by
        have := (List.getElem?_eq_some_iff.mp hw).1
        simpa using this
      rw [List.getElem?_set_self hl] at hw
      cases hw
      exact .inl ⟨x, u, ok.ix (x, slot) (by simp), hloc, by simp [List.lookup], r⟩
    · rw [List.getElem?_set_ne hi] at hw
      exact .inr hw
end
theorem room2 {k : Nat} {A : Around} (r : Room (k + 2) A) : Room (k + 1) A.in1.in1 := ⟨r.hd, by have := r.dp; show A.depth + 3 * (k + 1) + 5 < _; omega, by have := r.un; show A.units + 1 + 1 + 16 * (k + 1) + 200 < _; omega⟩
theorem room1 {k : Nat} {A : Around} (r : Room (k + 2) A) : Room (k + 1) A.in1 := ⟨r.hd, by have := r.dp; show A.depth + 3 * (k + 1) + 5 < _; omega, by have := r.un; show A.units + 1 + 16 * (k + 1) + 200 < _; omega⟩
/-! ### pure keys -/
def srcK (h : PH) : PV → Option Src
  | .str _ => none
  | v => srcOf h v
def keyG (slot : Nat) (fa fe : SE) (k : List PV → List PV → Option PV) : SE := fun ρ h => (fa ρ h).bind fun v h1 => match srcK h1 v with
  | some s => if sameL s h1 then (compL s (gnm slot) tyes fe (wipeE ρ [slot]) s.xs h1).bind fun ks h2 => R.of h2 (k ks s.xs) else .bad
  | none => .bad
def sortBy (ks xs : List PV) : Option PV := if sortOk ks then some (.lst ((srt (fun a b => leP false a.1 b.1) (ks.zip xs)).map (·.2))) else none
def keyOk (ks : List PV) : Bool := dles DEPTH ks && alikeA (toDs ks) && (toDs ks).all fun d => match d with | .none => false | _ => true
def maxBy (ks xs : List PV) : Option PV := if keyOk ks && !xs.isEmpty then xs[argBest (bt_max (toDs ks)) (xs.length - 1)]? else none
def minBy (ks xs : List PV) : Option PV := if keyOk ks && !xs.isEmpty then xs[argBest (bt_min (toDs ks)) (xs.length - 1)]? else none
section
variable {G : Gc} {X : Cx} {W : WX}
theorem srcK_rep {M : Gh} {H : Hp} {h : PH} {u : V} {v : PV} {s : Src} (r : HRel G M H h) (p : Rep G M H u v) (e : srcK h v = some s) : ∃ a kd, u = .ref a ∧ s.xs.length ≤ sizeLine ∧ ∀ M' H' h', Ext M H M' H' → HRel G M' H' h' → lvOk s h' → ∃ us, SqX kd G.K H' a us ∧ us.length = s.xs.length ∧ Reps G M' H' us s.xs := by
  cases v with
  | tup xs =>
    cases e
    obtain ⟨a, us, rfl, q, z, rs⟩ := p
    exact ⟨a, false, rfl, by rw [← rs.length]; exact z, fun M' H' h' x _ _ => ⟨us, (x.sqT q).sq, rs.length, Reps.ext x _ _ rs⟩⟩
  | lst xs =>
    cases e
    obtain ⟨a, us, rfl, q, z, rs⟩ := p
    exact ⟨a, true, rfl, by rw [← rs.length]; exact z, fun M' H' h' x _ _ => ⟨us, (x.sqL q).sq, rs.length, Reps.ext x _ _ rs⟩⟩
  | kt xs =>
    cases e
    obtain ⟨a, us, rfl, n, q, z, rs⟩ := p
    exact ⟨a, false, rfl, by rw [← rs.length]; exact z, fun M' H' h' x _ _ => ⟨us, .inl (.inl (x.kp q n fun ps z => by cases z)), rs.length, Reps.ext x _ _ rs⟩⟩
  | loc n =>
    have e : srcOf h (.loc n) = some s := e
    rcases rd_cases h n with ⟨xs, hn, e2⟩ | e2
    · simp only [srcOf, e2] at e
      cases e
      obtain ⟨a, rfl, hb⟩ := p
      obtain ⟨a2, us, h1, h2, z, rs⟩ := r.lstAt hn
      rw [hb] at h1
      cases h1
      refine ⟨a, true, rfl, by rw [← rs.length]; exact z, fun M' H' h' x r' l => ?_⟩
      obtain ⟨a3, us', g1, g2, z', rs'⟩ := r'.lstAt (l n rfl)
      obtain ⟨L, E, hM, _⟩ := x.pre
      have : a3 = a := by
        rw [hM] at g1
        have g1 : (M.L ++ L)[n]? = some a3 := g1
        rw [List.getElem?_append_left (List.getElem?_eq_some_iff.mp hb).1, hb] at g1
        exact (Option.some.inj g1).symm
      subst this
      exact ⟨us', .inl (.inl g2), rs'.length, rs'⟩
    · simp only [srcOf, e2] at e
      cases e
  | _ => cases e
theorem HRel.extKeep {M M' : Gh} {H H' : Hp} {h : PH} (r : HRel G M H h) (x : Ext M H M' H') {a : Addr} {φ : Heap → Prop} (e : H a = some (.ext φ)) : H' a = some (.ext φ) := by
  refine x.keep a _ e (fun ha => ?_) fun ps z => by cases z
  obtain ⟨n, hn⟩ := List.getElem?_of_mem ha
  have hl : n < h.length := by rw [← r.len]; exact (List.getElem?_eq_some_iff.mp hn).1
  obtain ⟨a2, h1, hd, h2⟩ := r.obj n h[n] (List.getElem?_eq_getElem hl)
  rw [hn] at h1
  cases h1
  cases ho : h[n] with
  | dead => rw [ho] at h2; exact h2
  | lst xs => rw [ho] at h2; obtain ⟨us, h3, _⟩ := h2; rw [e] at h3; cases h3
  | dic t ks vs =>
    rw [ho] at h2
    obtain ⟨us, d, h3, dd, _⟩ := h2
    rw [e] at h3; cases h3
    cases t <;> (obtain ⟨_, z, _⟩ := dd; cases z)
  | ins cc fs => rw [ho] at h2; obtain ⟨C, dx, ufs, h3, _⟩ := h2; rw [e] at h3; cases h3
theorem lam_code {top : Bool} {P : Addr} {lpos : Pos} {q : Str} {code : Value} {H H' : Hp} (hq : q = G.nm lpos.line lpos.col) (p : PPt G top P H) (g : Grown P lpos q code H H') : ∃ c' P1, code = .ref c' ∧ H' c' = some (CodeN c' P1 q) := by
  rcases g with ⟨rfl, ps, e, hc⟩ | ⟨_, c, P1, _, _, _, _, _, ne, e, rfl⟩
  · obtain ⟨ps', e', _, r⟩ := p.1
    rw [e] at e'; cases e'
    obtain ⟨c, P1, e1, e2, _⟩ := r _ _ hc
    exact ⟨c, P1, e1, by rw [hq]; exact e2⟩
  · exact ⟨c, P1, e, by rw [upd_ne ne, upd_same]⟩
/-- the walk over the keys, by the pure one -/
def KWj (G : Gc) (slot : Nat) (fe : SE) (s : Src) (ρ0 : En) (M1 : Gh) (H1 : Hp) (KP : List PV) (hE : PH) (i : Nat) (ks is : List V) (H : Hp) : Prop :=
  ∃ M h, HRel G M H h ∧ Ext M1 H1 M H ∧ lvOk s h ∧ i ≤ s.xs.length ∧ Reps G M H ks (KP.take i) ∧ Reps G M H is (s.xs.take i) ∧ compL s (gnm slot) tyes fe ρ0 (s.xs.drop i) h = .ok (KP.drop i) hE ∧ KP.length = s.xs.length
theorem compL_len {s : Src} {g : GF} {fe : SE} {ρ0 : En} : ∀ {xs : List PV} {h h' : PH} {ks : List PV}, compL s g tyes fe ρ0 xs h = .ok ks h' → ks.length = xs.length
  | [], h, h', ks, e => by cases e; rfl
  | x :: xs, h, h', ks, e => by
    unfold compL at e
    cases hg : g x ρ0 with
    | none => simp only [hg] at e; cases e
    | some ρ1 =>
      have ht : tyes ρ1 h = .ok true h := rfl
      simp only [hg, ht] at e
      cases hf : fe ρ1 h with
      | bad => simp only [hf] at e; cases e
      | exc _ _ => simp only [hf] at e; cases e
      | ok v h2 =>
        simp only [hf] at e
        split at e
        · cases hr : compL s g tyes fe ρ0 xs h2 with
          | bad => simp only [hr] at e; cases e
          | exc _ _ => simp only [hr] at e; cases e
          | ok vs h3 =>
            simp only [hr, R.bind_ok] at e
            cases e
            rw [List.length_cons, compL_len hr, List.length_cons]
        · cases e
theorem compL_cons (s : Src) (slot : Nat) (fe : SE) (ρ0 : En) (a : PV) (l : List PV) (h : PH) : compL s (gnm slot) tyes fe ρ0 (a :: l) h = (match fe (ρ0.set slot (some a)) h with
    | .ok v h2 => if sameL s h2 then (compL s (gnm slot) tyes fe ρ0 l h2).bind fun vs h3 => .ok (v :: vs) h3 else .bad
    | _ => .bad) := rfl
theorem kwj_step {slot : Nat} {fe : SE} {s : Src} {ρ : En} {σ : L2.St} {M1 M : Gh} {H1 : Hp} {KP : List PV} {hE h : PH} {i : Nat} {ks is : List V} {H : Hp} (e1 : ERel G M1 H1 ρ σ) (r : HRel G M H h) (xt : Ext M1 H1 M H) (rk : Reps G M H ks (KP.take i)) (ri : Reps G M H is (s.xs.take i))
    (ec : compL s (gnm slot) tyes fe (wipeE ρ [slot]) (s.xs.drop i) h = .ok (KP.drop i) hE) (hl : KP.length = s.xs.length) (hi : i < s.xs.length) {x : V} (px : Rep G M H x s.xs[i]) :
    TFE G W0 fe ((wipe σ [slot]).set slot (some x)) H fun k H' => KWj G slot fe s (wipeE ρ [slot]) M1 H1 KP hE (i + 1) (ks ++ [k]) (is ++ [x]) H' := by
  have hi' : i < KP.length := by omega
  rw [List.drop_eq_getElem_cons hi, List.drop_eq_getElem_cons hi', compL_cons] at ec
  refine ⟨M, (wipeE ρ [slot]).set slot (some s.xs[i]), h, r, ((e1.ext xt).wipe [slot]).set px, ?_⟩
  cases hf : fe ((wipeE ρ [slot]).set slot (some s.xs[i])) h with
  | bad => rw [hf] at ec; cases ec
  | exc _ _ => rw [hf] at ec; cases ec
  | ok v h2 =>
    rw [hf] at ec
    simp only at ec
    intro b M' H' xt' r' pb
    split at ec
    · rename_i hsl
      cases hr : compL s (gnm slot) tyes fe (wipeE ρ [slot]) (s.xs.drop (i + 1)) h2 with
      | bad => rw [hr] at ec; cases ec
      | exc _ _ => rw [hr] at ec; cases ec
      | ok vs h3 =>
        rw [hr] at ec
        simp only [R.bind_ok, R.ok.injEq, List.cons.injEq] at ec
        obtain ⟨⟨rfl, rfl⟩, rfl⟩ := ec
        refine ⟨M', h2, r', xt.trans xt', sameL_ok hsl, hi, ?_, ?_, hr, hl⟩
        · rw [List.take_succ_eq_append_getElem hi']
          exact (Reps.ext xt' _ _ rk).snoc pb
        · rw [List.take_succ_eq_append_getElem hi]
          exact (Reps.ext xt' _ _ ri).snoc (Rep.ext xt' _ _ px)
    · cases ec
variable {params : Arguments} {body : Expr} {scope : Scope} {lpos p pos kp : Pos} {x : Str} {slot k : Nat} {top : Bool} {e : Expr} {fa fe : SE}
/-- the lambda's scope: one name of its own, the rest captured or global -/
def lamC (scope : Scope) (x : Str) : Bool := (scope.names.all fun y => match y.2 with | .cell => false | _ => true) && decide (scope.names.lookup x = some NameKind.local) && !scope.isCoroutine && !scope.isGenerator
theorem lamC_ok {scope : Scope} {x : Str} (h : lamC scope x = true) : (∀ y ∈ scope.names, y.2 ≠ .cell) ∧ scope.names.lookup x = some NameKind.local ∧ scope.isCoroutine = false ∧ scope.isGenerator = false := by
  unfold lamC at h
  simp only [Bool.and_eq_true, List.all_eq_true, decide_eq_true_eq, Bool.not_eq_true'] at h
  refine ⟨fun y hy e => ?_, h.1.1.2, h.1.2, h.2⟩
  have := h.1.1.1 y hy
  rw [e] at this
  cases this
theorem compL_noexc {s : Src} {g : GF} {fe : SE} {ρ0 : En} : ∀ (xs : List PV) (h : PH) {h' : PH} (ee : Ex), compL s g tyes fe ρ0 xs h ≠ .exc ee h'
  | [], h, h', ee => fun e => by cases e
  | x :: xs, h, h', ee => fun e => by
    unfold compL at e
    cases hg : g x ρ0 with
    | none => simp only [hg] at e; cases e
    | some ρ1 =>
      have ht : tyes ρ1 h = .ok true h := rfl
      simp only [hg, ht] at e
      cases hf : fe ρ1 h with
      | bad => simp only [hf] at e; cases e
      | exc _ _ => simp only [hf] at e; cases e
      | ok v h2 =>
        simp only [hf] at e
        split at e
        · cases hr : compL s g tyes fe ρ0 xs h2 with
          | bad => simp only [hr] at e; cases e
          | exc e2 h3 => exact absurd hr (compL_noexc xs h2 e2)
          | ok vs h3 => simp only [hr, R.bind_ok] at e; cases e
        · cases e

theorem je_sortedK (slot : Nat) (x : Str) (hK : G.K = X.K) (hr : Room (k + 2) X.A) (hm : X.mg "sorted" = none) (src : JSrc G X top) (hN : X.N.Nodup) (he : JE G X W e fa) (ok : blkC X.N X.env.scope scope [(x, slot)] = true) (lc : lamC scope x = true)
    (pb : ∀ B s H L f c', Room k B → JE G (gx X B s H (lEnv X scope L f c') []) W0 body fe)
    (hbind : ∀ (q : Str) (cl : List (Str × Addr)) (pm cv ctv u : Value), bindArgs (PySem.W.kla_fn "<lambda>" q params body scope cl pm cv ctv) ⟨[u], []⟩ = pure [(x, u)] := by intro _ _ _ _ _ _; rfl)
    (hq : X.env.qual ++ "<lambda>" = G.nm lpos.line lpos.col := by kernel_rfl) (hdef : defaultsOf params X.env = ([], []) := by rfl) (hg : Gl X "sorted" := by rfl) (hcalm : X.calm = true := by rfl)
    (hst : backTo pos (starEach [e] X.env) = (false, eval e X.env) :: backTo pos (starEach [] X.env) := by rfl) (hpl : (backTo pos (starEach [e] X.env)).any (·.1) = false := by rfl) (hst2 : starEach [e] X.env = (false, eval e X.env) :: starEach [] X.env := by rfl)
    (hall : (backToKw pos (keywordEach [⟨some "key", .Lambda params body scope lpos, kp⟩] X.env)).all (·.1.isSome) = true := by rfl) (hnone : (backToKw pos (keywordEach [⟨some "key", .Lambda params body scope lpos, kp⟩] X.env)).any (·.1.isNone) = false := by rfl) (hks : (backToKw pos (keywordEach [⟨some "key", .Lambda params body scope lpos, kp⟩] X.env)).filterMap (·.1) = [Str.ofString "key"] := by rfl) :
    JE G X W (.Call (.Name "sorted" p) [e] [⟨some "key", .Lambda params body scope lpos, kp⟩] pos) (keyG slot fa fe sortBy) := by
  obtain ⟨nc, hloc, hco, hge⟩ := lamC_ok lc
  obtain ⟨cc, cs⟩ := src
  refine ⟨fun pins s0 σ H Q I t => ?_⟩
  refine wpAny_Call_Name_kw (ld_blt I hg hm (show bootBuiltins "sorted" = some (.builtin "sorted") by decide +kernel) ?_)
  obtain ⟨QK, hQK, t1⟩ : ∃ QK : V → Hp → Prop, (∀ u H1, QK u H1 → ∃ M1 ρ h1 v, HRel G M1 H1 h1 ∧ ERel G M1 H1 ρ σ ∧ Rep G M1 H1 u v ∧ Out G W σ (fun M H (u : V) (v : PV) => Rep G M H u v) M1 H1 (match srcK h1 v with
    | some s => if sameL s h1 then (compL s (gnm slot) tyes fe (wipeE ρ [slot]) s.xs h1).bind fun ks h2 => R.of h2 (sortBy ks s.xs) else .bad
    | none => .bad) Q) ∧ TFE G W fa σ H QK := ⟨_, fun _ _ q => q, TF.bind (Rp := fun M H (u : V) (v : PV) => Rep G M H u v) t⟩
  refine PyProof.Rows.callWith_kw (thn ((pa_cons he pa_nil hst2).run pos pins s0 σ H (fun vs H1 => ∃ v, vs = [v] ∧ QK v H1) I (t1.mono fun u H1 q => ⟨u, rfl, q⟩)) fun us s1 ⟨vs, H1, I1, r1, q1⟩ => ?_) hst hpl hall hnone
  obtain ⟨uv, rfl, q1⟩ := q1
  obtain ⟨M1, ρ, h1, v, r, e1, p, o⟩ := hQK _ _ q1
  obtain ⟨u1, rfl, ru⟩ := r1.one
  cases hs : srcK h1 v with
  | none => simp only [hs] at o; exact False.elim o
  | some s =>
    simp only [hs] at o
    cases hsl : sameL s h1 with
    | false => simp only [hsl] at o; exact False.elim o
    | true =>
    simp only [hsl, if_true] at o
    have hl0 := sameL_ok hsl
    obtain ⟨a, kd, rfl, hz, hsrc⟩ := srcK_rep r p hs
    obtain rfl : u1 = Value.ref a := ru
    refine thn ((pk_cons (pe_lam (lpos := lpos) cs (blkOk_by ok) hdef) pk_nil).run pos pins s1 σ H1 (fun zs H3 => ∃ P f H2 code, zs = [.ref f] ∧ PPt G top P H1 ∧ Grown P lpos (X.env.qual ++ "<lambda>") code H1 H2 ∧ H2 f = none ∧ H3 = upd H2 f (LamF X params body scope code f)) I1 ⟨⟨M1, h1, r⟩, fun P f H2 code hp g hf => ⟨P, f, H2, code, rfl, hp, g, hf, rfl⟩⟩) fun ws s2 ⟨zs, H3, I3, r2, q2⟩ => ?_
    rw [hks]
    obtain ⟨P, f, H2, code, rfl, hpp, g, hf, hH3⟩ := q2
    obtain ⟨u2, rfl, ru2⟩ := r2.one
    obtain rfl : u2 = Value.ref f := ru2
    obtain ⟨x2, r2'⟩ := r.grown g hq
    obtain ⟨c', P1, rfl, hc'⟩ := lam_code hq hpp g
    have x3 : Ext M1 H1 M1 H3 := by rw [hH3]; exact x2.trans (Ext.new r2' hf)
    have r3 : HRel G M1 H3 h1 := by rw [hH3]; exact r2'.new hf
    have fh : FHl X params body scope f c' P1 H3 := ⟨by rw [hH3, upd_same], by rw [hH3, upd_ne (ne_of_none hc' hf)]; exact hc'⟩
    clear hH3
    cases hc : compL s (gnm slot) tyes fe (wipeE ρ [slot]) s.xs h1 with
    | bad => simp only [hc] at o; exact False.elim o
    | exc _ _ => exact absurd hc (compL_noexc _ _ _)
    | ok KP hE =>
      simp only [hc, R.bind_ok] at o
      have o1 := o
      have w0 : KWj G slot fe s (wipeE ρ [slot]) M1 H3 KP hE 0 [] [] H3 := ⟨M1, h1, r3, Ext.refl _ _, hl0, Nat.zero_le _, trivial, trivial, hc, compL_len hc⟩
      cases hk : sortBy KP s.xs with
      | none => rw [hk] at o1; exact False.elim o1
      | some z =>
        rw [hk] at o1
        unfold sortBy at hk
        split at hk
        · rename_i hok
          cases hk
          simp only [sortOk, Bool.and_eq_true] at hok
          obtain ⟨us, hsq, hul, hrs⟩ := hsrc M1 H3 h1 x3 r3 hl0
          refine sorted_keyed (us := us) (KW := KWj G slot fe s (wipeE ρ [slot]) M1 H3 KP hE) (FH := FHl X params body scope f c' P1) I3 (by have := hr.un; omega) (by rw [← hK]; cases kd <;> first | exact .inr hsq | exact .inl hsq) (calls_as (by exact I3.ok.frames) (room2 hr) (blkOk_by ok) nc hco hge hN hbind hloc pb) (fun i ks is H' x w hx => ?_) w0 fun ks is H' w => ?_
          · obtain ⟨M, h, r, xt, l, _, rk, ri, ec, hkl⟩ := w
            obtain ⟨v', g1, g2⟩ := (Reps.ext xt _ _ hrs).get' hx
            have hi : i < s.xs.length := by rw [← hul]; exact (List.getElem?_eq_some_iff.mp hx).1
            rw [List.getElem?_eq_getElem hi] at g1
            cases g1
            exact ⟨⟨r3.extKeep xt fh.1, r3.extKeep xt fh.2⟩, kwj_step (e1.ext x3) r xt rk ri ec hkl hi g2⟩
          · obtain ⟨M, h, r, xt, l, _, rk, _, ec, hkl⟩ := w
            rw [hul, ← hkl, List.take_length] at rk
            rw [hul, ← hkl, List.drop_length, hkl, List.drop_length] at ec
            cases ec
            obtain ⟨q1, q2, q3⟩ := reps_zip rk
            have hdl : ∀ y ∈ KP, dle DEPTH y = true := by
              have := hok.1.1
              rw [dles_all, List.all_eq_true] at this
              exact this
            have hin : ∀ z ∈ ks.zip KP, z.2 ∈ KP := fun z hz => (List.of_mem_zip hz).2
            have m2 : ((ks.zip KP).map fun z => (z.1, toD z.2)).map (·.2) = toDs KP := by
              rw [List.map_map, toDs_map]
              have : ((fun z : V × PyData => z.2) ∘ fun z : V × PV => (z.1, toD z.2)) = toD ∘ (·.2) := rfl
              rw [this, ← List.map_map, q2]
            have m1 : ((ks.zip KP).map fun z => (z.1, toD z.2)).map (·.1) = ks := by
              rw [List.map_map]
              have : ((fun z : V × PyData => z.1) ∘ fun z : V × PV => (z.1, toD z.2)) = (·.1) := rfl
              rw [this, q1]
            refine ⟨(ks.zip KP).map fun z => (z.1, toD z.2), m1.symm, ?_, fun z hz => ?_, ?_, ?_, fun z hz => ?_, fun p hp => ?_⟩
            · rw [List.length_map, List.length_zip, rk.length, hul, hkl]; exact Nat.min_self _
            · obtain ⟨y, hy, rfl⟩ := List.mem_map.mp hz
              rw [← hK]
              exact Rep.dp y.2 y.1 DEPTH (hdl _ (hin y hy)) (q3 y hy)
            · rw [m2]; exact alikeA_ok hok.1.2
            · rw [m2]; exact sortableB_ok hok.2
            · obtain ⟨y, hy, rfl⟩ := List.mem_map.mp hz
              exact (dle_ok _ _ (hdl _ (hin y hy))).2
            · rw [m2]
              have hrs' := Reps.ext xt _ _ hrs
              have tot : TotalLe (dataLe false (fun z : V × PyData => z.2)) := sortLe_total _ _ _
              -- the three lists side by side
              obtain ⟨t1, t2, t3⟩ := reps_zip hrs'
              have hz3 : us.zip (toDs KP) = ((us.zip s.xs).zip KP).map fun z => (z.1.1, toD z.2) := by
                rw [toDs_map]
                refine List.ext_getElem (by simp [List.length_zip, hkl, hul]) fun j h1 h2 => ?_
                simp only [List.getElem_zip, List.getElem_map]
              have e4 : ((us.zip (toDs KP)).mergeSort (dataLe false (·.2))).map (·.1) = (srt (fun a b : (V × PV) × PV => leP false a.2 b.2) ((us.zip s.xs).zip KP)).map fun z => z.1.1 := by
                rw [srt_merge tot, hz3, ← srt_map (r := fun a b : (V × PV) × PV => leP false a.2 b.2) (s := dataLe false (fun z : V × PyData => z.2)) (fun z : (V × PV) × PV => (z.1.1, toD z.2)) (fun _ _ => rfl), List.map_map]
                rfl
              have hz4 : KP.zip s.xs = ((us.zip s.xs).zip KP).map fun z => (z.2, z.1.2) := by
                refine List.ext_getElem (by simp [List.length_zip, hkl, hul]) fun j h1 h2 => ?_
                simp only [List.getElem_zip, List.getElem_map]
              have e5 : (srt (fun a b : PV × PV => leP false a.1 b.1) (KP.zip s.xs)).map (·.2) = (srt (fun a b : (V × PV) × PV => leP false a.2 b.2) ((us.zip s.xs).zip KP)).map fun z => z.1.2 := by
                rw [hz4, ← srt_map (r := fun a b : (V × PV) × PV => leP false a.2 b.2) (s := fun a b : PV × PV => leP false a.1 b.1) (fun z : (V × PV) × PV => (z.2, z.1.2)) (fun _ _ => rfl), List.map_map]
                rfl
              rw [e4]
              have tot2 : TotalLe (fun a b : (V × PV) × PV => leP false a.2 b.2) := ⟨fun a b c => (leP_total false).trans a.2 b.2 c.2, fun a b => (leP_total false).total a.2 b.2⟩
              have hr5 : Reps G M H' ((srt (fun a b : (V × PV) × PV => leP false a.2 b.2) ((us.zip s.xs).zip KP)).map fun z => z.1.1) ((srt (fun a b : PV × PV => leP false a.1 b.1) (KP.zip s.xs)).map (·.2)) := by
                rw [e5]
                have := reps_map (G := G) (M := M) (H := H') (zs := (srt (fun a b : (V × PV) × PV => leP false a.2 b.2) ((us.zip s.xs).zip KP)).map (·.1)) fun z hz => by
                  obtain ⟨w, hw, rfl⟩ := List.mem_map.mp hz
                  exact t3 _ (List.of_mem_zip ((srt_mem tot2).mp hw)).1
                rw [List.map_map, List.map_map] at this
                exact this
              have hlen : ((srt (fun a b : (V × PV) × PV => leP false a.2 b.2) ((us.zip s.xs).zip KP)).map fun z => z.1.1).length ≤ sizeLine := by
                rw [List.length_map, ← srt_merge tot2, List.length_mergeSort, List.length_zip, List.length_zip]
                omega
              exact o1 _ M _ ((x3.trans xt).trans (Ext.new r hp)) (r.new hp) (rep_lst_new r hp hlen hr5)
        · cases hk

theorem je_maxK (slot : Nat) (x : Str) (hK : G.K = X.K) (hr : Room (k + 2) X.A) (hm : X.mg "max" = none) (src : JSrc G X top) (hN : X.N.Nodup) (he : JE G X W e fa) (ok : blkC X.N X.env.scope scope [(x, slot)] = true) (lc : lamC scope x = true)
    (pb : ∀ B s H L f c', Room k B → JE G (gx X B s H (lEnv X scope L f c') []) W0 body fe)
    (hbind : ∀ (q : Str) (cl : List (Str × Addr)) (pm cv ctv u : Value), bindArgs (PySem.W.kla_fn "<lambda>" q params body scope cl pm cv ctv) ⟨[u], []⟩ = pure [(x, u)] := by intro _ _ _ _ _ _; rfl)
    (hq : X.env.qual ++ "<lambda>" = G.nm lpos.line lpos.col := by kernel_rfl) (hdef : defaultsOf params X.env = ([], []) := by rfl) (hg : Gl X "max" := by rfl) (hcalm : X.calm = true := by rfl)
    (hst : backTo pos (starEach [e] X.env) = (false, eval e X.env) :: backTo pos (starEach [] X.env) := by rfl) (hpl : (backTo pos (starEach [e] X.env)).any (·.1) = false := by rfl) (hst2 : starEach [e] X.env = (false, eval e X.env) :: starEach [] X.env := by rfl)
    (hall : (backToKw pos (keywordEach [⟨some "key", .Lambda params body scope lpos, kp⟩] X.env)).all (·.1.isSome) = true := by rfl) (hnone : (backToKw pos (keywordEach [⟨some "key", .Lambda params body scope lpos, kp⟩] X.env)).any (·.1.isNone) = false := by rfl) (hks : (backToKw pos (keywordEach [⟨some "key", .Lambda params body scope lpos, kp⟩] X.env)).filterMap (·.1) = [Str.ofString "key"] := by rfl) :
    JE G X W (.Call (.Name "max" p) [e] [⟨some "key", .Lambda params body scope lpos, kp⟩] pos) (keyG slot fa fe maxBy) := by
  obtain ⟨nc, hloc, hco, hge⟩ := lamC_ok lc
  obtain ⟨cc, cs⟩ := src
  refine ⟨fun pins s0 σ H Q I t => ?_⟩
  refine wpAny_Call_Name_kw (ld_blt I hg hm (show bootBuiltins "max" = some (.builtin "max") by decide +kernel) ?_)
  obtain ⟨QK, hQK, t1⟩ : ∃ QK : V → Hp → Prop, (∀ u H1, QK u H1 → ∃ M1 ρ h1 v, HRel G M1 H1 h1 ∧ ERel G M1 H1 ρ σ ∧ Rep G M1 H1 u v ∧ Out G W σ (fun M H (u : V) (v : PV) => Rep G M H u v) M1 H1 (match srcK h1 v with
    | some s => if sameL s h1 then (compL s (gnm slot) tyes fe (wipeE ρ [slot]) s.xs h1).bind fun ks h2 => R.of h2 (maxBy ks s.xs) else .bad
    | none => .bad) Q) ∧ TFE G W fa σ H QK := ⟨_, fun _ _ q => q, TF.bind (Rp := fun M H (u : V) (v : PV) => Rep G M H u v) t⟩
  refine PyProof.Rows.callWith_kw (thn ((pa_cons he pa_nil hst2).run pos pins s0 σ H (fun vs H1 => ∃ v, vs = [v] ∧ QK v H1) I (t1.mono fun u H1 q => ⟨u, rfl, q⟩)) fun us s1 ⟨vs, H1, I1, r1, q1⟩ => ?_) hst hpl hall hnone
  obtain ⟨uv, rfl, q1⟩ := q1
  obtain ⟨M1, ρ, h1, v, r, e1, p, o⟩ := hQK _ _ q1
  obtain ⟨u1, rfl, ru⟩ := r1.one
  cases hs : srcK h1 v with
  | none => simp only [hs] at o; exact False.elim o
  | some s =>
    simp only [hs] at o
    cases hsl : sameL s h1 with
    | false => simp only [hsl] at o; exact False.elim o
    | true =>
    simp only [hsl, if_true] at o
    have hl0 := sameL_ok hsl
    obtain ⟨a, kd, rfl, hz, hsrc⟩ := srcK_rep r p hs
    obtain rfl : u1 = Value.ref a := ru
    refine thn ((pk_cons (pe_lam (lpos := lpos) cs (blkOk_by ok) hdef) pk_nil).run pos pins s1 σ H1 (fun zs H3 => ∃ P f H2 code, zs = [.ref f] ∧ PPt G top P H1 ∧ Grown P lpos (X.env.qual ++ "<lambda>") code H1 H2 ∧ H2 f = none ∧ H3 = upd H2 f (LamF X params body scope code f)) I1 ⟨⟨M1, h1, r⟩, fun P f H2 code hp g hf => ⟨P, f, H2, code, rfl, hp, g, hf, rfl⟩⟩) fun ws s2 ⟨zs, H3, I3, r2, q2⟩ => ?_
    rw [hks]
    obtain ⟨P, f, H2, code, rfl, hpp, g, hf, hH3⟩ := q2
    obtain ⟨u2, rfl, ru2⟩ := r2.one
    obtain rfl : u2 = Value.ref f := ru2
    obtain ⟨x2, r2'⟩ := r.grown g hq
    obtain ⟨c', P1, rfl, hc'⟩ := lam_code hq hpp g
    have x3 : Ext M1 H1 M1 H3 := by rw [hH3]; exact x2.trans (Ext.new r2' hf)
    have r3 : HRel G M1 H3 h1 := by rw [hH3]; exact r2'.new hf
    have fh : FHl X params body scope f c' P1 H3 := ⟨by rw [hH3, upd_same], by rw [hH3, upd_ne (ne_of_none hc' hf)]; exact hc'⟩
    clear hH3
    cases hc : compL s (gnm slot) tyes fe (wipeE ρ [slot]) s.xs h1 with
    | bad => simp only [hc] at o; exact False.elim o
    | exc _ _ => exact absurd hc (compL_noexc _ _ _)
    | ok KP hE =>
      simp only [hc, R.bind_ok] at o
      have o1 := o
      have w0 : KWj G slot fe s (wipeE ρ [slot]) M1 H3 KP hE 0 [] [] H3 := ⟨M1, h1, r3, Ext.refl _ _, hl0, Nat.zero_le _, trivial, trivial, hc, compL_len hc⟩
      cases hk : maxBy KP s.xs with
      | none => rw [hk] at o1; exact False.elim o1
      | some z =>
        rw [hk] at o1
        unfold maxBy at hk
        split at hk
        · rename_i hok
          simp only [keyOk, Bool.and_eq_true] at hok
          obtain ⟨hok, hne⟩ := hok
          have hn : 0 < s.xs.length := by
            cases hxs : s.xs with
            | nil => rw [hxs] at hne; cases hne
            | cons a l => simp
          have hdl : ∀ y ∈ KP, dle DEPTH y = true := by
            have := hok.1.1
            rw [dles_all, List.all_eq_true] at this
            exact this
          have D : KeyDat X (TFE G W0 fe) (fun v => (wipe σ [slot]).set slot (some v)) (FHl X params body scope f c' P1) a kd s.xs.length (toDs KP) (KWj G slot fe s (wipeE ρ [slot]) M1 H3 KP hE) := by
            refine ⟨fun i ks is H' w hi => ?_, fun ks is H' w => ?_, fun i ks is H' w => ?_, alikeA_ok hok.1.2, fun d hd => ?_, fun d hd => ?_⟩
            · obtain ⟨M, h, r, xt, l, _, rk, ri, ec, hkl⟩ := w
              obtain ⟨us, hsq, hul, hrs⟩ := hsrc M H' h (x3.trans xt) r l
              have hx : us[i]? = some (us[i]'(by omega)) := List.getElem?_eq_getElem (by omega)
              refine ⟨us, _, by rw [← hK]; exact hsq, hx, ⟨r3.extKeep xt fh.1, r3.extKeep xt fh.2⟩, ?_⟩
              obtain ⟨v', g1, g2⟩ := hrs.get' hx
              rw [List.getElem?_eq_getElem hi] at g1
              cases g1
              exact kwj_step (e1.ext x3) r xt rk ri ec hkl hi g2
            · obtain ⟨M, h, r, xt, l, _⟩ := w
              obtain ⟨us, hsq, hul, hrs⟩ := hsrc M H' h (x3.trans xt) r l
              exact ⟨us, by rw [← hK]; exact hsq, by omega⟩
            · obtain ⟨M, h, r, xt, l, hi, rk, ri, ec, hkl⟩ := w
              have l1 := rk.length
              have l2 := ri.length
              rw [List.length_take] at l1 l2
              refine ⟨by omega, by omega, fun j kk hj => ?_⟩
              obtain ⟨v', g1, g2⟩ := rk.get' hj
              have hj2 : j < i := by
                have := (List.getElem?_eq_some_iff.mp hj).1; omega
              rw [List.getElem?_take_of_lt hj2] at g1
              refine ⟨toD v', by rw [toDs_map, List.getElem?_map, g1]; rfl, ?_⟩
              rw [← hK]
              exact Rep.dp v' kk DEPTH (hdl _ (List.mem_of_getElem? g1)) g2
            · have := hok.2
              rw [List.all_eq_true] at this
              have := this d hd
              rintro rfl
              cases this
            · rw [toDs_map] at hd
              obtain ⟨y, hy, rfl⟩ := List.mem_map.mp hd
              exact (dle_ok _ _ (hdl _ hy)).2
          refine max_keyed I3 (by have := hr.un; omega) hcalm (calls_as (by exact I3.ok.frames) (room1 hr) (blkOk_by ok) nc hco hge hN hbind hloc pb) D w0 hn fun ks is H' y w hy => ?_
          obtain ⟨M, h, r, xt, l, _, rk, ri, ec, hkl⟩ := w
          rw [List.take_length] at ri
          rw [List.drop_length] at ec
          have : compL s (gnm slot) tyes fe (wipeE ρ [slot]) [] h = .ok [] h := rfl
          rw [this, ← hkl, List.drop_length] at ec
          cases ec
          obtain ⟨v', g1, g2⟩ := ri.get' hy
          rw [hk] at g1
          cases g1
          exact o1 _ M H' (x3.trans xt) r g2
        · cases hk

theorem je_minK (slot : Nat) (x : Str) (hK : G.K = X.K) (hr : Room (k + 2) X.A) (hm : X.mg "min" = none) (src : JSrc G X top) (hN : X.N.Nodup) (he : JE G X W e fa) (ok : blkC X.N X.env.scope scope [(x, slot)] = true) (lc : lamC scope x = true)
    (pb : ∀ B s H L f c', Room k B → JE G (gx X B s H (lEnv X scope L f c') []) W0 body fe)
    (hbind : ∀ (q : Str) (cl : List (Str × Addr)) (pm cv ctv u : Value), bindArgs (PySem.W.kla_fn "<lambda>" q params body scope cl pm cv ctv) ⟨[u], []⟩ = pure [(x, u)] := by intro _ _ _ _ _ _; rfl)
    (hq : X.env.qual ++ "<lambda>" = G.nm lpos.line lpos.col := by kernel_rfl) (hdef : defaultsOf params X.env = ([], []) := by rfl) (hg : Gl X "min" := by rfl) (hcalm : X.calm = true := by rfl)
    (hst : backTo pos (starEach [e] X.env) = (false, eval e X.env) :: backTo pos (starEach [] X.env) := by rfl) (hpl : (backTo pos (starEach [e] X.env)).any (·.1) = false := by rfl) (hst2 : starEach [e] X.env = (false, eval e X.env) :: starEach [] X.env := by rfl)
    (hall : (backToKw pos (keywordEach [⟨some "key", .Lambda params body scope lpos, kp⟩] X.env)).all (·.1.isSome) = true := by rfl) (hnone : (backToKw pos (keywordEach [⟨some "key", .Lambda params body scope lpos, kp⟩] X.env)).any (·.1.isNone) = false := by rfl) (hks : (backToKw pos (keywordEach [⟨some "key", .Lambda params body scope lpos, kp⟩] X.env)).filterMap (·.1) = [Str.ofString "key"] := by rfl) :
    JE G X W (.Call (.Name "min" p) [e] [⟨some "key", .Lambda params body scope lpos, kp⟩] pos) (keyG slot fa fe minBy) := by
  obtain ⟨nc, hloc, hco, hge⟩ := lamC_ok lc
  obtain ⟨cc, cs⟩ := src
  refine ⟨fun pins s0 σ H Q I t => ?_⟩
  refine wpAny_Call_Name_kw (ld_blt I hg hm (show bootBuiltins "min" = some (.builtin "min") by decide +kernel) ?_)
  obtain ⟨QK, hQK, t1⟩ : ∃ QK : V → Hp → Prop, (∀ u H1, QK u H1 → ∃ M1 ρ h1 v, HRel G M1 H1 h1 ∧ ERel G M1 H1 ρ σ ∧ Rep G M1 H1 u v ∧ Out G W σ (fun M H (u : V) (v : PV) => Rep G M H u v) M1 H1 (match srcK h1 v with
    | some s => if sameL s h1 then (compL s (gnm slot) tyes fe (wipeE ρ [slot]) s.xs h1).bind fun ks h2 => R.of h2 (minBy ks s.xs) else .bad
    | none => .bad) Q) ∧ TFE G W fa σ H QK := ⟨_, fun _ _ q => q, TF.bind (Rp := fun M H (u : V) (v : PV) => Rep G M H u v) t⟩
  refine PyProof.Rows.callWith_kw (thn ((pa_cons he pa_nil hst2).run pos pins s0 σ H (fun vs H1 => ∃ v, vs = [v] ∧ QK v H1) I (t1.mono fun u H1 q => ⟨u, rfl, q⟩)) fun us s1 ⟨vs, H1, I1, r1, q1⟩ => ?_) hst hpl hall hnone
  obtain ⟨uv, rfl, q1⟩ := q1
  obtain ⟨M1, ρ, h1, v, r, e1, p, o⟩ := hQK _ _ q1
  obtain ⟨u1, rfl, ru⟩ := r1.one
  cases hs : srcK h1 v with
  | none => simp only [hs] at o; exact False.elim o
  | some s =>
    simp only [hs] at o
    cases hsl : sameL s h1 with
    | false => simp only [hsl] at o; exact False.elim o
    | true =>
    simp only [hsl, if_true] at o
    have hl0 := sameL_ok hsl
    obtain ⟨a, kd, rfl, hz, hsrc⟩ := srcK_rep r p hs
    obtain rfl : u1 = Value.ref a := ru
    refine thn ((pk_cons (pe_lam (lpos := lpos) cs (blkOk_by ok) hdef) pk_nil).run pos pins s1 σ H1 (fun zs H3 => ∃ P f H2 code, zs = [.ref f] ∧ PPt G top P H1 ∧ Grown P lpos (X.env.qual ++ "<lambda>") code H1 H2 ∧ H2 f = none ∧ H3 = upd H2 f (LamF X params body scope code f)) I1 ⟨⟨M1, h1, r⟩, fun P f H2 code hp g hf => ⟨P, f, H2, code, rfl, hp, g, hf, rfl⟩⟩) fun ws s2 ⟨zs, H3, I3, r2, q2⟩ => ?_
    rw [hks]
    obtain ⟨P, f, H2, code, rfl, hpp, g, hf, hH3⟩ := q2
    obtain ⟨u2, rfl, ru2⟩ := r2.one
    obtain rfl : u2 = Value.ref f := ru2
    obtain ⟨x2, r2'⟩ := r.grown g hq
    obtain ⟨c', P1, rfl, hc'⟩ := lam_code hq hpp g
    have x3 : Ext M1 H1 M1 H3 := by rw [hH3]; exact x2.trans (Ext.new r2' hf)
    have r3 : HRel G M1 H3 h1 := by rw [hH3]; exact r2'.new hf
    have fh : FHl X params body scope f c' P1 H3 := ⟨by rw [hH3, upd_same], by rw [hH3, upd_ne (ne_of_none hc' hf)]; exact hc'⟩
    clear hH3
    cases hc : compL s (gnm slot) tyes fe (wipeE ρ [slot]) s.xs h1 with
    | bad => simp only [hc] at o; exact False.elim o
    | exc _ _ => exact absurd hc (compL_noexc _ _ _)
    | ok KP hE =>
      simp only [hc, R.bind_ok] at o
      have o1 := o
      have w0 : KWj G slot fe s (wipeE ρ [slot]) M1 H3 KP hE 0 [] [] H3 := ⟨M1, h1, r3, Ext.refl _ _, hl0, Nat.zero_le _, trivial, trivial, hc, compL_len hc⟩
      cases hk : minBy KP s.xs with
      | none => rw [hk] at o1; exact False.elim o1
      | some z =>
        rw [hk] at o1
        unfold minBy at hk
        split at hk
        · rename_i hok
          simp only [keyOk, Bool.and_eq_true] at hok
          obtain ⟨hok, hne⟩ := hok
          have hn : 0 < s.xs.length := by
            cases hxs : s.xs with
            | nil => rw [hxs] at hne; cases hne
            | cons a l => simp
          have hdl : ∀ y ∈ KP, dle DEPTH y = true := by
            have := hok.1.1
            rw [dles_all, List.all_eq_true] at this
            exact this
          have D : KeyDat X (TFE G W0 fe) (fun v => (wipe σ [slot]).set slot (some v)) (FHl X params body scope f c' P1) a kd s.xs.length (toDs KP) (KWj G slot fe s (wipeE ρ [slot]) M1 H3 KP hE) := by
            refine ⟨fun i ks is H' w hi => ?_, fun ks is H' w => ?_, fun i ks is H' w => ?_, alikeA_ok hok.1.2, fun d hd => ?_, fun d hd => ?_⟩
            · obtain ⟨M, h, r, xt, l, _, rk, ri, ec, hkl⟩ := w
              obtain ⟨us, hsq, hul, hrs⟩ := hsrc M H' h (x3.trans xt) r l
              have hx : us[i]? = some (us[i]'(by omega)) := List.getElem?_eq_getElem (by omega)
              refine ⟨us, _, by rw [← hK]; exact hsq, hx, ⟨r3.extKeep xt fh.1, r3.extKeep xt fh.2⟩, ?_⟩
              obtain ⟨v', g1, g2⟩ := hrs.get' hx
              rw [List.getElem?_eq_getElem hi] at g1
              cases g1
              exact kwj_step (e1.ext x3) r xt rk ri ec hkl hi g2
            · obtain ⟨M, h, r, xt, l, _⟩ := w
              obtain ⟨us, hsq, hul, hrs⟩ := hsrc M H' h (x3.trans xt) r l
              exact ⟨us, by rw [← hK]; exact hsq, by omega⟩
            · obtain ⟨M, h, r, xt, l, hi, rk, ri, ec, hkl⟩ := w
              have l1 := rk.length
              have l2 := ri.length
              rw [List.length_take] at l1 l2
              refine ⟨by omega, by omega, fun j kk hj => ?_⟩
              obtain ⟨v', g1, g2⟩ := rk.get' hj
              have hj2 : j < i := by
                have := (List.getElem?_eq_some_iff.mp hj).1; omega
              rw [List.getElem?_take_of_lt hj2] at g1
              refine ⟨toD v', by rw [toDs_map, List.getElem?_map, g1]; rfl, ?_⟩
              rw [← hK]
              exact Rep.dp v' kk DEPTH (hdl _ (List.mem_of_getElem? g1)) g2
            · have := hok.2
              rw [List.all_eq_true] at this
              have := this d hd
              rintro rfl
              cases this
            · rw [toDs_map] at hd
              obtain ⟨y, hy, rfl⟩ := List.mem_map.mp hd
              exact (dle_ok _ _ (hdl _ hy)).2
          refine min_keyed I3 (by have := hr.un; omega) hcalm (calls_as (by exact I3.ok.frames) (room1 hr) (blkOk_by ok) nc hco hge hN hbind hloc pb) D w0 hn fun ks is H' y w hy => ?_
          obtain ⟨M, h, r, xt, l, _, rk, ri, ec, hkl⟩ := w
          rw [List.take_length] at ri
          rw [List.drop_length] at ec
          have : compL s (gnm slot) tyes fe (wipeE ρ [slot]) [] h = .ok [] h := rfl
          rw [this, ← hkl, List.drop_length] at ec
          cases ec
          obtain ⟨v', g1, g2⟩ := ri.get' hy
          rw [hk] at g1
          cases g1
          exact o1 _ M H' (x3.trans xt) r g2
        · cases hk
end
end J

/-! J: more rewriting: o[i] += e, lists that are locs, keys. -/
namespace J
open PySem PySem.Spec PyProof.Rows L2
def augC (ρ : En) : Option PH → RS
  | some h => .nx ρ h
  | none => .bad
def augB (st : PV → PV → PV → PH → Option PH) (o i : PV) (ρ : En) (h : PH) : Option PV → RS
  | some z => augC ρ (st o i z h)
  | none => .bad
def augA (f : PV → PV → PH → Option PV) (st : PV → PV → PV → PH → Option PH) (o i : PV) (fe : SE) (ρ : En) (h : PH) : Option PV → RS
  | some x => (fe ρ h).toS ρ fun y h3 => augB st o i ρ h3 (f x y h3)
  | none => .bad
@[simp] theorem augC_s (ρ : En) (h : PH) : augC ρ (some h) = .nx ρ h := nrfl rfl
@[simp] theorem augB_s (st : PV → PV → PV → PH → Option PH) (o i z : PV) (ρ : En) (h : PH) : augB st o i ρ h (some z) = augC ρ (st o i z h) := nrfl rfl
@[simp] theorem augA_s (f : PV → PV → PH → Option PV) (st : PV → PV → PV → PH → Option PH) (o i x : PV) (fe : SE) (ρ : En) (h : PH) : augA f st o i fe ρ h (some x) = (fe ρ h).toS ρ fun y h3 => augB st o i ρ h3 (f x y h3) := nrfl rfl
@[simp] theorem saugS_ev (g f : PV → PV → PH → Option PV) (st : PV → PV → PV → PH → Option PH) (fo fi fe : SE) (ρ : En) (h : PH) : saugS g f st fo fi fe ρ h = (fo ρ h).toS ρ fun o h1 => (fi ρ h1).toS ρ fun i h2 => augA f st o i fe ρ h2 (g o i h2) := nrfl rfl
@[simp] theorem intO0_i (f : Int → Int → PV) (i j : Int) (h : PH) : intO0 f (.int i) (.int j) h = some (f i j) := nrfl rfl
section
variable {α : Type} {f : α → PV} {h : PH} {n : Nat} {xs : List α}
theorem ixA_loc (e : h[n]? = some (.lst (mp f xs))) (k : Nat) (hk : k < xs.length) : ixA (.loc n) (.int (k : Int)) h = some (f xs[k]) := by
  have h1 : rdD h (.loc n) = none := by show dicO h[n]? = none; rw [e]; rfl
  unfold ixA
  rw [h1, rd_locE e]
  exact atI_mp f xs k hk
theorem setLO_locN {ys : List PV} (e : h[n]? = some (.lst ys)) (k : Nat) (hk : k < ys.length) (v : PV) : setLO (.loc n) (.int (k : Int)) v h = some (h.set n (.lst (ys.set k v))) := by
  unfold setLO
  simp only [e]
  have : ixN ys.length (k : Int) = some k := by
    unfold ixN
    rw [if_pos (by omega), if_pos (by omega)]
    simp
  rw [this]; rfl
theorem setD_loc {ys : List PV} (e : h[n]? = some (.lst ys)) (k : Nat) (hk : k < ys.length) (v : PV) : setD (.loc n) (.int (k : Int)) v h = some (h.set n (.lst (ys.set k v))) := by
  unfold setD
  simp only [e]
  exact setLO_locN e k hk v
theorem indexO_loc [EmbF f] [BEq α] [LawfulBEq α] (e : h[n]? = some (.lst (mp f xs))) (a : α) (ha : a ∈ xs) (hd : EmbF.dep f ≤ DEPTH := by decide) : indexO (.loc n) [f a] h = some (.int (xs.idxOf a : Nat), h) := by
  have := indexO_L (f := f) a xs h ha hd
  unfold indexO at this ⊢
  simp only [itemsOf_L] at this
  simp only [itemsOf_loc h _ n e]
  exact this
@[simp] theorem srcK_T (xs : List α) : srcK h (T f xs) = some ⟨mp f xs, none⟩ := nrfl rfl
@[simp] theorem srcK_L (xs : List α) : srcK h (Li f xs) = some ⟨mp f xs, none⟩ := nrfl rfl
theorem srcK_loc {ys : List PV} (e : h[n]? = some (.lst ys)) : srcK h (.loc n) = some ⟨ys, some n⟩ := srcOf_loc' e
end
def keyK (slot : Nat) (fe : SE) (k : List PV → List PV → Option PV) (ρ : En) (h : PH) : Option Src → R PV
  | some s => if sameL s h then (compL s (gnm slot) tyes fe (wipeE ρ [slot]) s.xs h).bind fun ks h2 => R.of h2 (k ks s.xs) else .bad
  | none => .bad
@[simp] theorem keyK_s (slot : Nat) (fe : SE) (k : List PV → List PV → Option PV) (ρ : En) (h : PH) (s : Src) : keyK slot fe k ρ h (some s) = if sameL s h = true then (compL s (gnm slot) tyes fe (wipeE ρ [slot]) s.xs h).bind fun ks h2 => R.of h2 (k ks s.xs) else .bad := nrfl rfl
@[simp] theorem keyG_ev (slot : Nat) (fa fe : SE) (k : List PV → List PV → Option PV) (ρ : En) (h : PH) : keyG slot fa fe k ρ h = (fa ρ h).bind fun v h1 => keyK slot fe k ρ h1 (srcK h1 v) := nrfl rfl
end J

/-! J: sorted data of any kind. -/
namespace J
open PySem PySem.Spec PyProof.Rows L2 PySem.W PySem.SeqAt
theorem toks_inj {a b : PyData} (h : alike a b = true) (e : keyToks a = keyToks b) : PyData.eqv a b = true := by
  cases q : PyData.eqv a b with
  | true => rfl
  | false =>
    have := (toks_eqv a b h).2 q [] [Sum.inl 0]
    rw [e, lex_pre, lex_irrefl] at this
    have h2 : PyProof.Rows.lexLt itemOrd [] [Sum.inl 0] = true := rfl
    rw [h2] at this
    cases this
/-- data of one kind, that can be sorted -/
class EmbS {α : Type} (f : α → PV) where
  al : ∀ x y, alike (toD (f x)) (toD (f y)) = true
  kd : (∀ x, ∃ ys, toD (f x) = .tuple ys) ∨ ∀ x, (match toD (f x) with | .none => false | .tuple _ => false | _ => true) = true
instance : EmbS PV.str := ⟨fun x y => alike_str x y, .inr fun _ => rfl⟩
instance : EmbS PV.int := ⟨fun x y => alike_int x y, .inr fun _ => rfl⟩
theorem alikeAll_of {α : Type} {f : α → PV} [S : EmbS f] : ∀ xs ys : List α, alikeAll (toDs (mp f xs)) (toDs (mp f ys)) = true
  | [], ys => by cases ys <;> simp [toDs, alikeAll]
  | x :: xs, [] => by simp [mp_cons, toDs, alikeAll]
  | x :: xs, y :: ys => by
    rw [mp_cons, mp_cons, toDs, toDs, alikeAll, S.al x y, alikeAll_of xs ys]; rfl
instance {α : Type} {f : α → PV} [S : EmbS f] : EmbS (T f) where
  al := fun x y => by
    show alike (.tuple (toDs (mp f x))) (.tuple (toDs (mp f y))) = true
    rw [alike]; exact alikeAll_of x y
  kd := .inl fun x => ⟨_, rfl⟩
instance {α β : Type} {f : α → PV} {g : β → PV} [S : EmbS f] [R : EmbS g] : EmbS (P2 f g) where
  al := fun x y => by
    show alike (.tuple [toD (f x.1), toD (g x.2)]) (.tuple [toD (f y.1), toD (g y.2)]) = true
    simp [alike, alikeAll, S.al, R.al]
  kd := .inl fun x => ⟨_, rfl⟩
instance : EmbF rowV := inferInstanceAs (EmbF (P2 PV.int (T tS)))
instance : EmbS rowV := inferInstanceAs (EmbS (P2 PV.int (T tS)))
def leE {α : Type} (f : α → PV) (rev : Bool) (x y : α) : Bool := leP rev (f x) (f y)
section
variable {α : Type} {f : α → PV} [E : EmbF f] [S : EmbS f]
theorem sortOk_emb (xs : List α) (hd : EmbF.dep f ≤ DEPTH) : sortOk (mp f xs) = true := by
  simp only [sortOk, Bool.and_eq_true]
  refine ⟨⟨dles_emb hd xs, ?_⟩, ?_⟩
  · simp only [alikeA, toDs_map, List.all_eq_true]
    intro y hy z hz
    obtain ⟨y', hy', rfl⟩ := List.mem_map.mp hy
    obtain ⟨z', hz', rfl⟩ := List.mem_map.mp hz
    obtain ⟨x, _, rfl⟩ := (mem_mp f xs).mp hy'
    obtain ⟨x', _, rfl⟩ := (mem_mp f xs).mp hz'
    exact S.al x x'
  · simp only [sortableB, toDs_map, Bool.or_eq_true, List.all_eq_true]
    rcases S.kd with k | k
    · refine .inl fun y hy => ?_
      obtain ⟨y', hy', rfl⟩ := List.mem_map.mp hy
      obtain ⟨x, _, rfl⟩ := (mem_mp f xs).mp hy'
      obtain ⟨ys, e⟩ := k x
      rw [e]
    · refine .inr fun y hy => ?_
      obtain ⟨y', hy', rfl⟩ := List.mem_map.mp hy
      obtain ⟨x, _, rfl⟩ := (mem_mp f xs).mp hy'
      exact k x
theorem sortP_emb (rev : Bool) (xs : List α) (hd : EmbF.dep f ≤ DEPTH) : sortP rev (mp f xs) = some (mp f (srt (leE f rev) xs)) := sortP_of (sortOk_emb xs hd) fun _ _ => rfl
theorem leE_tr (rev : Bool) (a b c : α) (h1 : leE f rev a b = true) (h2 : leE f rev b c = true) : leE f rev a c = true := (leP_total rev).trans _ _ _ h1 h2
theorem leE_tt (rev : Bool) (a b : α) : leE f rev a b = true ∨ leE f rev b a = true := (leP_total rev).total _ _
theorem leE_anti (a b : α) (h1 : leE f false a b = true) (h2 : leE f false b a = true) : a = b := by
  refine (E.heq a b).mp ?_
  refine toks_inj (S.al a b) (lex_total (O := itemOrd) _ _ ?_ ?_)
  · have : (!PyProof.Rows.lexLt itemOrd (keyToks (toD (f a))) (keyToks (toD (f b)))) = true := h2
    simpa using this
  · have : (!PyProof.Rows.lexLt itemOrd (keyToks (toD (f b))) (keyToks (toD (f a)))) = true := h1
    simpa using this
theorem srtE_perm {l m : List α} (h : l.Perm m) : srt (leE f false) l = srt (leE f false) m :=
  sorted_one leE_anti (srt_pairwise (leE_tr false) (leE_tt false) l) (srt_pairwise (leE_tr false) (leE_tt false) m) ((srt_perm l).trans (h.trans (srt_perm m).symm))
end
@[simp] theorem sortP_T {α : Type} {f : α → PV} [EmbF f] [EmbS f] (rev : Bool) (xs : List (List α)) (hd : EmbF.dep (T f) ≤ DEPTH) : sortP rev (mp (T f) xs) = some (mp (T f) (srt (leE (T f) rev) xs)) := sortP_emb rev xs hd
theorem countO_L {α : Type} {f : α → PV} [E : EmbF f] [BEq α] [LawfulBEq α] (a : α) (xs : List α) (h : PH) (hd : EmbF.dep f ≤ DEPTH := by decide) : countO (Li f xs) [f a] h = some (.int (xs.count a : Nat), h) := by
  have e : (mp f xs).countP (fun z => eqv z (f a)) = xs.count a := by
    rw [mp_eq, List.countP_map, List.count_eq_countP]
    refine List.countP_congr fun x _ => ?_
    simp only [Function.comp]
    rw [E.heq x a]
    simp
  unfold countO
  simp only [itemsOf_L]
  rw [dles_emb (f := f) hd xs, E.hrd, dle_mono _ _ _ hd (E.hdep a), e]
  rfl
theorem comp2L_mem {α β : Type} (emb : α → PV) (emb1 : β → PV) (p : α → Bool) (ys : α → List β) (q : α → β → Bool) (f : α → β → PV) {s : Src} {g g1 : GF} {ft ft1 : SB} {fi1 : SI} {fe : SE} {vs1 : List Nat} {ρ0 : En} {h : PH} (hs : sameL s h = true) : ∀ xs : List α,
    (∀ x ∈ xs, ∃ ρ1, g (emb x) ρ0 = some ρ1 ∧ ft ρ1 h = .ok (p x) h ∧ (p x = true → fi1 ρ1 h = .ok ⟨mp emb1 (ys x), none⟩ h ∧ ∀ y ∈ ys x, ∃ ρ2, g1 (emb1 y) (wipeE ρ1 vs1) = some ρ2 ∧ ft1 ρ2 h = .ok (q x y) h ∧ (q x y = true → fe ρ2 h = .ok (f x y) h))) →
    comp2L s g ft fi1 g1 ft1 fe vs1 ρ0 (mp emb xs) h = .ok ((xs.filter p).flatMap fun x => mp (f x) ((ys x).filter (q x))) h
  | [], _ => rfl
  | x :: xs, H => by
    have ih := comp2L_mem emb emb1 p ys q f (s := s) (g := g) (g1 := g1) (ft := ft) (ft1 := ft1) (fi1 := fi1) (fe := fe) (vs1 := vs1) (ρ0 := ρ0) hs xs fun y hy => H y (List.mem_cons_of_mem _ hy)
    obtain ⟨ρ1, h1, h2, h3⟩ := H x List.mem_cons_self
    rw [mp_cons, List.filter_cons]
    unfold comp2L
    cases hp : p x with
    | false =>
      rw [hp] at h2
      simp only [h1, h2, hs, if_true, ih]
      rfl
    | true =>
      rw [hp] at h2
      obtain ⟨h4, h5⟩ := h3 hp
      have z : sameL ⟨mp emb1 (ys x), none⟩ h = true := rfl
      have hc := compL_mem emb1 (q x) (f x) (s := ⟨mp emb1 (ys x), none⟩) (g := g1) (ft := ft1) (fe := fe) (ρ0 := wipeE ρ1 vs1) z (ys x) h5
      simp only [h1, h2, h4, z, if_true, hc, hs, ih, R.bind_ok, List.flatMap_cons]
end J

/-! J: sorted by a key. -/
namespace J
open PySem PySem.Spec PyProof.Rows L2 PySem.W PySem.SeqAt
theorem zip_mp {α : Type} (f g : α → PV) : ∀ xs : List α, (mp f xs).zip (mp g xs) = xs.map fun x => (f x, g x)
  | [] => rfl
  | x :: xs => by rw [mp_cons, mp_cons, List.zip_cons_cons, zip_mp f g xs, List.map_cons]
/-- sorted by a key of a kind -/
theorem sortBy_emb {α β : Type} {kf : β → PV} [EmbF kf] [EmbS kf] (f : α → PV) (key : α → β) (xs : List α) (hd : EmbF.dep kf ≤ DEPTH := by decide) : sortBy (mp (fun x => kf (key x)) xs) (mp f xs) = some (Li f (srt (fun a b => leE kf false (key a) (key b)) xs)) := by
  have ok : sortOk (mp (fun x => kf (key x)) xs) = true := by
    have := sortOk_emb (f := kf) (xs.map key) hd
    rw [mp_eq, List.map_map] at this
    exact this
  unfold sortBy
  rw [if_pos ok, zip_mp, ← srt_map (r := fun a b => leE kf false (key a) (key b)) (s := fun a b : PV × PV => leP false a.1 b.1) (fun x => (kf (key x), f x)) (fun _ _ => rfl), List.map_map]
  rfl
theorem sortBy_int {α : Type} (f : α → PV) (key : α → Int) (xs : List α) : sortBy (mp (fun x => PV.int (key x)) xs) (mp f xs) = some (Li f (srt (fun a b => decide (key a ≤ key b)) xs)) := by
  rw [sortBy_emb f key xs]
  congr 3
  funext a b
  exact leP_int false _ _
@[simp] theorem sortBy_intN {α : Type} (f : α → PV) (key : α → Int) (xs : List α) : sortBy (mp PV.int (xs.map key)) (mp f xs) = some (Li f (srt (fun a b => decide (key a ≤ key b)) xs)) := by
  rw [← sortBy_int f key xs]
  congr 1
  rw [mp_eq, mp_eq, List.map_map]; rfl
/-- names sorted by their places -/
theorem srt_idx {ns g : List Str} (hn : ns.Nodup) (hg : g.Nodup) (hs : ∀ x ∈ g, x ∈ ns) : srt (fun a b => decide (ns.idxOf a ≤ ns.idxOf b)) g = ns.filter fun x => decide (x ∈ g) := by
  have hp : g.Perm (ns.filter fun x => decide (x ∈ g)) := by
    rw [List.perm_iff_count]
    intro a
    have h2 : (ns.filter fun x => decide (x ∈ g)).Nodup := hn.filter _
    rw [hg.count, h2.count]
    by_cases q : a ∈ g
    · rw [if_pos q, if_pos (List.mem_filter.mpr ⟨hs a q, by simpa using q⟩)]
    · rw [if_neg q, if_neg fun z => q (by simpa using (List.mem_filter.mp z).2)]
  have sp : (srt (fun a b => decide (ns.idxOf a ≤ ns.idxOf b)) g).Pairwise fun a b => decide (ns.idxOf a ≤ ns.idxOf b) = true :=
    srt_pairwise (fun a b c => by simp only [decide_eq_true_eq]; omega) (fun a b => by simp only [decide_eq_true_eq]; omega) g
  have sq : (ns.filter fun x => decide (x ∈ g)).Pairwise fun a b => decide (ns.idxOf a ≤ ns.idxOf b) = true := by
    have := idx_sorted hn (List.filter_sublist (l := ns) (p := fun x => decide (x ∈ g)))
    rw [List.pairwise_map] at this
    exact this.imp fun h => by simp only [decide_eq_true_eq]; omega
  refine List.Perm.eq_of_pairwise (fun a b ha hb h1 h2 => ?_) sp sq ((srt_perm g).trans hp)
  simp only [decide_eq_true_eq] at h1 h2
  have ma : a ∈ ns := hs a ((srt_perm g).mem_iff.mp ha)
  have mb : b ∈ ns := (List.mem_filter.mp hb).1
  have e : ns.idxOf a = ns.idxOf b := by omega
  rw [← List.getElem_idxOf (List.idxOf_lt_length_iff.mpr ma), ← List.getElem_idxOf (List.idxOf_lt_length_iff.mpr mb)]
  simp only [e]
end J

namespace K05
open PySem PySem.Spec PyProof.Rows L2 J
/-! ### the text -/
def topS (i : Nat) : Stmt := PySem.Challenge.pw_choicehall_k05_names_raised_and_renamed.main.body.getD i (.Pass ⟨0, 0, 0, 0⟩)
abbrev s__law_roll : Stmt := topS 16
theorem sc__law_roll : FnScope ["dice", "many", "found"] ["dice", "many"] (defScope s__law_roll) := ⟨rfl, rfl, rfl, by decide +kernel, rfl, by decide +kernel, by decide +kernel⟩
abbrev s__law_mixed : Stmt := topS 19
theorem sc__law_mixed : FnScope ["dice", "row", "left", "found", "k", "one"] ["dice", "row"] (defScope s__law_mixed) := ⟨rfl, rfl, rfl, by decide +kernel, rfl, by decide +kernel, by decide +kernel⟩
abbrev s__law_ballot : Stmt := topS 20
theorem sc__law_ballot : FnScope ["dice", "names", "ties", "row", "groups", "name", "group"] ["dice", "names", "ties"] (defScope s__law_ballot) := ⟨rfl, rfl, rfl, by decide +kernel, rfl, by decide +kernel, by decide +kernel⟩
abbrev s__law_names : Stmt := topS 18
theorem sc__law_names : FnScope ["many"] ["many"] (defScope s__law_names) := ⟨rfl, rfl, rfl, by decide +kernel, rfl, by decide +kernel, by decide +kernel⟩
abbrev s__law_dice : Stmt := topS 15
theorem sc__law_dice : FnScope ["cell"] ["cell"] (defScope s__law_dice) := ⟨rfl, rfl, rfl, by decide +kernel, rfl, by decide +kernel, by decide +kernel⟩
abbrev s__law_rounds : Stmt := topS 17
theorem sc__law_rounds : FnScope ["script", "most", "cells", "cell"] ["script", "most"] (defScope s__law_rounds) := ⟨rfl, rfl, rfl, by decide +kernel, rfl, by decide +kernel, by decide +kernel⟩
abbrev s_level_of : Stmt := topS 10
theorem sc_level_of : FnScope ["ballot", "name", "k", "group"] ["ballot", "name"] (defScope s_level_of) := ⟨rfl, rfl, rfl, by decide +kernel, rfl, by decide +kernel, by decide +kernel⟩
abbrev s_prefers : Stmt := topS 11
theorem sc_prefers : FnScope ["ballot", "one", "other"] ["ballot", "one", "other"] (defScope s_prefers) := ⟨rfl, rfl, rfl, by decide +kernel, rfl, by decide +kernel, by decide +kernel⟩
abbrev s__law_sign : Stmt := topS 23
theorem sc__law_sign : FnScope ["ballot", "one", "other"] ["ballot", "one", "other"] (defScope s__law_sign) := ⟨rfl, rfl, rfl, by decide +kernel, rfl, by decide +kernel, by decide +kernel⟩
abbrev s_is_name : Stmt := topS 2
theorem sc_is_name : FnScope ["thing", "sign"] ["thing"] (defScope s_is_name) := ⟨rfl, rfl, rfl, by decide +kernel, rfl, by decide +kernel, by decide +kernel⟩
abbrev s_are_names : Stmt := topS 3
theorem sc_are_names : FnScope ["thing", "one", "k"] ["thing"] (defScope s_are_names) := ⟨rfl, rfl, rfl, by decide +kernel, rfl, by decide +kernel, by decide +kernel⟩
abbrev s_in_turn : Stmt := topS 6
theorem sc_in_turn : FnScope ["group", "names", "name", "places"] ["group", "names"] (defScope s_in_turn) := ⟨rfl, rfl, rfl, by decide +kernel, rfl, by decide +kernel, by decide +kernel⟩
abbrev s_is_ranking : Stmt := topS 5
theorem sc_is_ranking : FnScope ["thing", "names", "group", "name", "flat"] ["thing", "names"] (defScope s_is_ranking) := ⟨rfl, rfl, rfl, by decide +kernel, rfl, by decide +kernel, by decide +kernel⟩
abbrev s_ranked : Stmt := topS 7
theorem sc_ranked : FnScope ["ballot", "group", "name"] ["ballot"] (defScope s_ranked) := ⟨rfl, rfl, rfl, by decide +kernel, rfl, by decide +kernel, by decide +kernel⟩
abbrev s_left_out : Stmt := topS 8
theorem sc_left_out : FnScope ["ballot", "names", "told", "name"] ["ballot", "names"] (defScope s_left_out) := ⟨rfl, rfl, rfl, by decide +kernel, rfl, by decide +kernel, by decide +kernel⟩
abbrev s_whole_ranking : Stmt := topS 9
theorem sc_whole_ranking : FnScope ["ballot", "names", "rest"] ["ballot", "names"] (defScope s_whole_ranking) := ⟨rfl, rfl, rfl, by decide +kernel, rfl, by decide +kernel, by decide +kernel⟩
abbrev s_raised : Stmt := topS 13
theorem sc_raised : FnScope ["ballot", "name", "names", "whole", "k", "one", "rest", "joined"] ["ballot", "name", "names"] (defScope s_raised) := ⟨rfl, rfl, rfl, by decide +kernel, rfl, by decide +kernel, by decide +kernel⟩
abbrev s_renamed : Stmt := topS 12
theorem sc_renamed : FnScope ["ballot", "table", "names", "group", "name", "groups"] ["ballot", "table", "names"] (defScope s_renamed) := ⟨rfl, rfl, rfl, by decide +kernel, rfl, by decide +kernel, by decide +kernel⟩
abbrev s_law : Stmt := topS 24
theorem sc_law : FnScope ["script", "dice", "names", "ballot", "name", "new", "better", "one", "other", "first", "table", "row", "k"] ["script"] (defScope s_law) := ⟨rfl, rfl, rfl, by decide +kernel, rfl, by decide +kernel, by decide +kernel⟩
/-! ### the pure functions -/
def fb__law_sign : SS := (seq (sret (bin2 subO (cal intO1 (acons (calld 3 m_prefers (acons (vr 0) (acons (vr 1) (acons (vr 2) anil)))) anil)) (cal intO1 (acons (calld 3 m_prefers (acons (vr 0) (acons (vr 2) (acons (vr 1) anil)))) anil)))) snil)
def m__law_sign : List PV → PH → R PV := fun args h => trimR .keep h.length (fin (fb__law_sign (startE 3 args) h))
def fb_raised : SS := (seq (sset 3 (calld 2 m_whole_ranking (acons (vr 0) (acons (vr 2) anil))))
  (seq (sset 4 (calld 2 m_level_of (acons (vr 3) (acons (vr 1) anil))))
  (seq (sset 6 (cal tupleO (acons (lcG [5] (isrc (bin2 ixO (vr 3) (vr 4))) (gnm 5) (tst (bin2 neO (vr 5) (vr 1))) (vr 5) (fun xs h => .ok (.lst xs) h)) anil)))
  (seq (sif (tst (bin2 neO (vr 6) (mkTup anil))) (seq (sret (bin2 addO (bin2 addO (slc (vr 3) onone (osome (vr 4))) (mkTup (acons (mkTup (acons (vr 1) anil)) (acons (vr 6) anil)))) (slc (vr 3) (osome (bin2 addO (vr 4) (cst (.int 1)))) onone))) snil) snil)
  (seq (sif (tst (bin2 eqO (vr 4) (cst (.int 0)))) (seq (sret (vr 3)) snil) snil)
  (seq (sset 7 (cal tupleO (acons (keyG 5 (bin2 addO (bin2 ixO (vr 3) (bin2 subO (vr 4) (cst (.int 1)))) (mkTup (acons (vr 1) anil))) (met .tuple (fun x xs h => if isT .tuple h x then indexO x xs h else none) (vr 2) (acons (vr 5) anil)) sortBy) anil)))
  (seq (sret (bin2 addO (bin2 addO (slc (vr 3) onone (osome (bin2 subO (vr 4) (cst (.int 1))))) (mkTup (acons (vr 7) anil))) (slc (vr 3) (osome (bin2 addO (vr 4) (cst (.int 1)))) onone))) snil)))))))
def m_raised : List PV → PH → R PV := fun args h => trimR .keep h.length (fin (fb_raised (startE 8 args) h))
def fb_renamed : SS := (seq (sset 5 (lcG [3] (isrc (vr 0)) (gnm 3) tyes (lcG [4] (isrc (vr 3)) (gnm 4) tyes (bin2 ixJ (vr 1) (vr 4)) (fun xs h => .ok (.lst xs) h)) (fun xs h => .ok (.lst xs) h)))
  (seq (sret (cal tupleO (acons (lcG [3] (isrc (vr 5)) (gnm 3) tyes (cal tupleO (acons (keyG 4 (vr 3) (met .tuple (fun x xs h => if isT .tuple h x then indexO x xs h else none) (vr 2) (acons (vr 4) anil)) sortBy) anil)) (fun xs h => .ok (.lst xs) h)) anil))) snil))
def m_renamed : List PV → PH → R PV := fun args h => trimR .keep h.length (fin (fb_renamed (startE 6 args) h))
def fb_body : SS := (seq (sset 2 (calld 1 m__law_names (acons (bin2 addO (cst (.int 1)) (calld 2 m__law_roll (acons (vr 1) (acons (cst (.int 5)) anil)))) anil)))
  (seq (sset 3 (calld 3 m__law_ballot (acons (vr 1) (acons (vr 2) (acons (cst (.bl true)) anil)))))
  (seq (sset 4 (bin2 ixO (vr 2) (calld 2 m__law_roll (acons (vr 1) (acons (cal lenO (acons (vr 2) anil)) anil)))))
  (seq (sset 5 (calld 3 m_raised (acons (vr 3) (acons (vr 4) (acons (vr 2) anil)))))
  (seq (sif (fnot (tru (calld 2 m_is_ranking (acons (vr 5) (acons (vr 2) anil))))) (seq (sret (cst (.bl false))) snil) snil)
  (seq (sset 6 (cst (.int 0)))
  (seq (sfor (isrc (vr 2)) (gnm 7) (seq (sfor (isrc (vr 2)) (gnm 8) (seq (sif (fand (tst (bin2 neO (vr 7) (vr 4))) (fand (tst (bin2 neO (vr 8) (vr 4))) (tst (bin2 neO (calld 3 m__law_sign (acons (vr 5) (acons (vr 7) (acons (vr 8) anil)))) (calld 3 m__law_sign (acons (vr 3) (acons (vr 7) (acons (vr 8) anil)))))))) (seq (sret (cst (.bl false))) snil) snil) snil))
  (seq (sif (tst (bin2 neO (vr 7) (vr 4))) (seq (sif (tst (bin2 ltJ (calld 3 m__law_sign (acons (vr 5) (acons (vr 4) (acons (vr 7) anil)))) (calld 3 m__law_sign (acons (vr 3) (acons (vr 4) (acons (vr 7) anil)))))) (seq (sret (cst (.bl false))) snil) snil)
  (seq (sset 6 (bin2 subO (bin2 addO (vr 6) (calld 3 m__law_sign (acons (vr 5) (acons (vr 4) (acons (vr 7) anil))))) (calld 3 m__law_sign (acons (vr 3) (acons (vr 4) (acons (vr 7) anil)))))) snil)) snil) snil)))
  (seq (sset 9 (bin2 eqO (bin2 ixO (calld 2 m_whole_ranking (acons (vr 3) (acons (vr 2) anil))) (cst (.int 0))) (mkTup (acons (vr 4) anil))))
  (seq (sif (tst (bin2 eqO (bin2 gtJ (vr 6) (cst (.int 0))) (vr 9))) (seq (sret (cst (.bl false))) snil) snil)
  (seq (spar 10 11 (acons (mkDic false) (acons (calld 2 m__law_mixed (acons (vr 1) (acons (vr 2) anil))) anil)))
  (seq (sfor (irng1 (acons (cal lenO (acons (vr 2) anil)) anil)) (gnm 12) (seq (ssub setD (bin2 ixO (vr 11) (vr 12)) (vr 10) (bin2 ixO (vr 2) (vr 12))) snil))
  (seq (sset 8 (calld 3 m_renamed (acons (vr 3) (acons (vr 10) (acons (vr 2) anil)))))
  (seq (sif (fnot (tru (calld 2 m_is_ranking (acons (vr 8) (acons (vr 2) anil))))) (seq (sret (cst (.bl false))) snil) snil)
  (seq (sfor (isrc (vr 2)) (gnm 7) (seq (sif (tst (bin2 neO (calld 2 m_level_of (acons (vr 8) (acons (bin2 ixJ (vr 10) (vr 7)) anil))) (calld 2 m_level_of (acons (vr 3) (acons (vr 7) anil))))) (seq (sret (cst (.bl false))) snil) snil) snil)) snil))))))))))))))
def fb_law : SS := (seq (sfor (isrc (calld 2 m__law_rounds (acons (vr 0) (acons (cst (.int 5)) anil)))) (gnm 1) (foc 1 [] fb_body))
  (seq (sret (cst (.bl true))) snil))
def m_law : List PV → PH → R PV := fun args h => trimR .keep h.length (fin (fb_law (startE 13 args) h))
/-! ### the derivations -/
def nm : Nat → Nat → Str := fun l c => if l = 4 ∧ c = 67 then "is_name.<locals>.<genexpr>" else if l = 6 ∧ c = 47 then "are_names.<locals>.<genexpr>" else if l = 8 ∧ c = 15 then "are_names.<locals>.<genexpr>" else if l = 11 ∧ c = 47 then "is_ranking.<locals>.<genexpr>" else if l = 14 ∧ c = 35 then "is_ranking.<locals>.<genexpr>" else if l = 14 ∧ c = 77 then "is_ranking.<locals>.<genexpr>" else if l = 44 ∧ c = 54 then "raised.<locals>.<lambda>" else if l = 35 ∧ c = 42 then "renamed.<locals>.<lambda>" else ""
def tf : List He.Defn := [("is_name", none), ("are_names", none), ("is_ranking", none), ("raised", none), ("renamed", none)]
abbrev xP0 : List Str := []
abbrev xP : List Str := []
def exF : PySem.W.Frag → Bool := fun _ => true
section
variable {P : Program} {w : World} {K : PySem.W.Frag} {mg : Str → Option Value} {base : Heap}
theorem ok__law_roll {fd : FuncData} (F : FnP K "_law_roll" s__law_roll (He.fAd K ("_law_roll", none)) fd) (z_int : mg "int" = none) (tb : ∀ p ∈ tf, GxR.TabB base mg (He.cT K p).1 (He.cT K p).2) : FnOk P w K mg base (L2.CX P w) 1 (He.fAd K ("_law_roll", none)) fd ["dice", "many"] (spJ (GX K tf nm mg) 2 m__law_roll) := by
  refine def_okD (k := 0) .keep m__law_roll F sc__law_roll (fb := fb__law_roll) (fun cdv A outer s H E hcd hr => ?_) fun args h _ => .inr rfl
  have hu := hr.units
  have tk : Takes (cxOf (L2.CX P w) P w K mg base ["dice", "many", "found"] "_law_roll" (defScope s__law_roll) (He.fAd K ("_law_roll", none)) cdv A outer s H E) (fun cls d _ H => E cls d H) := takes_of rfl rfl rfl rfl
  have po : PassesOwn (model P w) (cxOf (L2.CX P w) P w K mg base ["dice", "many", "found"] "_law_roll" (defScope s__law_roll) (He.fAd K ("_law_roll", none)) cdv A outer s H E).A (cxOf (L2.CX P w) P w K mg base ["dice", "many", "found"] "_law_roll" (defScope s__law_roll) (He.fAd K ("_law_roll", none)) cdv A outer s H E).env (cxOf (L2.CX P w) P w K mg base ["dice", "many", "found"] "_law_roll" (defScope s__law_roll) (He.fAd K ("_law_roll", none)) cdv A outer s H E).xe := passes_of rfl
  exact (jss_cons (js_if (PW.pt (jw_or (jt_cmp (op_eqP hu) oj_eq (je_ix ix_seq oj_ix (je_var 0) je_int) je_int (nomark _)) (jw_or1 (PW.pt (jw_and (jt_cmp (op_eqP hu) oj_eq (je_ix ix_seq oj_ix (je_var 0) je_int) je_int (nomark _)) (jw_and1 (jt_cmp (op_gtJ hu) oj_gt (je_ix ix_seq oj_ix (je_var 0) je_int) je_int (nomark _)))))))) (jss_cons (js_set 2 sc__law_roll.nd (je_op op_mod oj_mod (je_callTy call_int1 cj_int z_int (ja_cons (je_ix ix_seq oj_ix (je_var 0) je_int) ja_nil)) (je_var 1)))
  (jss_cons (js_sub (je_op op_fdiv oj_fdiv (je_ix ix_seq oj_ix (je_var 0) je_int) (je_var 1)) (je_var 0) je_int set_list sj_list)
  (jss_cons (js_ret (je_var 2)) jss_nil))) jss_nil)
  (jss_cons (js_sub je_int (je_var 0) je_int set_list sj_list)
  (jss_cons (js_sub (je_op op_mod oj_mod (je_callTy call_int1 cj_int z_int (ja_cons (je_op op_addJ oj_add (je_op op_addJ oj_add (je_op op_mul oj_mul (je_ix ix_seq oj_ix (je_var 0) je_int) je_int) (je_op op_mul oj_mul (je_ix ix_seq oj_ix (je_var 0) je_int) je_int)) je_int) ja_nil)) je_int) (je_var 0) je_int set_list sj_list)
  (jss_cons (js_sub (je_op op_addJ oj_add (je_ix ix_seq oj_ix (je_var 0) je_int) je_int) (je_var 0) je_int set_list sj_list)
  (jss_cons (js_ret (je_op op_mod oj_mod (je_callTy call_int1 cj_int z_int (ja_cons (je_op op_addJ oj_add (je_op op_fdiv oj_fdiv (je_ix ix_seq oj_ix (je_var 0) je_int) je_int) (je_ix ix_seq oj_ix (je_var 0) je_int)) ja_nil)) (je_var 1))) jss_nil)))))
theorem ok__law_mixed {fd : FuncData} (F : FnP K "_law_mixed" s__law_mixed (He.fAd K ("_law_mixed", none)) fd) (z_len : mg "len" = none) (z_list : mg "list" = none) (z_range : mg "range" = none) (k__law_roll : Known P w K mg base (GX K tf nm mg) "_law_roll" 1 2 m__law_roll) (tb : ∀ p ∈ tf, GxR.TabB base mg (He.cT K p).1 (He.cT K p).2) : FnOk P w K mg base (L2.CX P w) 2 (He.fAd K ("_law_mixed", none)) fd ["dice", "row"] (spJ (GX K tf nm mg) 2 m__law_mixed) := by
  refine def_okD (k := 1) .frz m__law_mixed F sc__law_mixed (fb := fb__law_mixed) (fun cdv A outer s H E hcd hr => ?_) fun args h _ => .inr rfl
  have hu := hr.units
  have tk : Takes (cxOf (L2.CX P w) P w K mg base ["dice", "row", "left", "found", "k", "one"] "_law_mixed" (defScope s__law_mixed) (He.fAd K ("_law_mixed", none)) cdv A outer s H E) (fun cls d _ H => E cls d H) := takes_of rfl rfl rfl rfl
  have po : PassesOwn (model P w) (cxOf (L2.CX P w) P w K mg base ["dice", "row", "left", "found", "k", "one"] "_law_mixed" (defScope s__law_mixed) (He.fAd K ("_law_mixed", none)) cdv A outer s H E).A (cxOf (L2.CX P w) P w K mg base ["dice", "row", "left", "found", "k", "one"] "_law_mixed" (defScope s__law_mixed) (He.fAd K ("_law_mixed", none)) cdv A outer s H E).env (cxOf (L2.CX P w) P w K mg base ["dice", "row", "left", "found", "k", "one"] "_law_mixed" (defScope s__law_mixed) (He.fAd K ("_law_mixed", none)) cdv A outer s H E).xe := passes_of rfl
  exact (jss_cons (js_par 2 3 sc__law_mixed.nd (ja_cons (je_listM rfl z_list (ja_cons (je_var 1) ja_nil)) (ja_cons (je_lstM ja_nil) ja_nil)) (by rfl))
  (jss_cons (js_for po (ji_range1 z_range (ja_cons (je_callB cr_lenJ cj_len z_len (ja_cons (je_var 1) ja_nil)) ja_nil)) (jg_name 4 sc__law_mixed.nd) (jss_cons (js_set 5 sc__law_mixed.nd (je_ix ix_seq oj_ix (je_var 2) (je_call k__law_roll (hr.mono (by decide)) tk (ja_cons (je_var 0) (ja_cons (je_callB cr_lenJ cj_len z_len (ja_cons (je_var 2) ja_nil)) ja_nil)))))
  (jss_cons (js_expr (je_met (T := .list) rfl PySem.F.plainAttrs_list PySem.F.slot_list_append PySem.F.type_list_append mt_append mj_append (je_var 3) (ja_cons (je_var 5) ja_nil)))
  (jss_cons (js_expr (je_met (T := .list) rfl PySem.F.plainAttrs_list PySem.F.slot_list_remove PySem.F.type_list_remove (mt_removeP hu) mj_remove (je_var 2) (ja_cons (je_var 5) ja_nil))) jss_nil))))
  (jss_cons (js_ret (je_var 3)) jss_nil)))
theorem ok__law_ballot {fd : FuncData} (F : FnP K "_law_ballot" s__law_ballot (He.fAd K ("_law_ballot", none)) fd) (z_len : mg "len" = none) (z_tuple : mg "tuple" = none) (k__law_mixed : Known P w K mg base (GX K tf nm mg) "_law_mixed" 2 2 m__law_mixed) (k__law_roll : Known P w K mg base (GX K tf nm mg) "_law_roll" 1 2 m__law_roll) (tb : ∀ p ∈ tf, GxR.TabB base mg (He.cT K p).1 (He.cT K p).2) : FnOk P w K mg base (L2.CX P w) 3 (He.fAd K ("_law_ballot", none)) fd ["dice", "names", "ties"] (spJ (GX K tf nm mg) 3 m__law_ballot) := by
  refine def_okD (k := 2) .keep m__law_ballot F sc__law_ballot (fb := fb__law_ballot) (fun cdv A outer s H E hcd hr => ?_) fun args h _ => .inr rfl
  have hu := hr.units
  have tk : Takes (cxOf (L2.CX P w) P w K mg base ["dice", "names", "ties", "row", "groups", "name", "group"] "_law_ballot" (defScope s__law_ballot) (He.fAd K ("_law_ballot", none)) cdv A outer s H E) (fun cls d _ H => E cls d H) := takes_of rfl rfl rfl rfl
  have po : PassesOwn (model P w) (cxOf (L2.CX P w) P w K mg base ["dice", "names", "ties", "row", "groups", "name", "group"] "_law_ballot" (defScope s__law_ballot) (He.fAd K ("_law_ballot", none)) cdv A outer s H E).A (cxOf (L2.CX P w) P w K mg base ["dice", "names", "ties", "row", "groups", "name", "group"] "_law_ballot" (defScope s__law_ballot) (He.fAd K ("_law_ballot", none)) cdv A outer s H E).env (cxOf (L2.CX P w) P w K mg base ["dice", "names", "ties", "row", "groups", "name", "group"] "_law_ballot" (defScope s__law_ballot) (He.fAd K ("_law_ballot", none)) cdv A outer s H E).xe := passes_of rfl
  exact (jss_cons (js_set 3 sc__law_ballot.nd (je_call k__law_mixed (hr.mono (by decide)) tk (ja_cons (je_var 0) (ja_cons (je_var 1) ja_nil))))
  (jss_cons (js_if (jt_cmp (op_eqP hu) oj_eq (je_call k__law_roll (hr.mono (by decide)) tk (ja_cons (je_var 0) (ja_cons je_int ja_nil))) je_int (nomark _)) (jss_cons (js_set 3 sc__law_ballot.nd (je_slice rfl (je_var 3) jo_none (jo_some (je_call k__law_roll (hr.mono (by decide)) tk (ja_cons (je_var 0) (ja_cons (je_op op_addJ oj_add (je_callB cr_lenJ cj_len z_len (ja_cons (je_var 3) ja_nil)) je_int) ja_nil)))))) jss_nil) jss_nil)
  (jss_cons (js_set 4 sc__law_ballot.nd (je_lstM ja_nil))
  (jss_cons (js_for po (ji_seq rfl (je_var 3)) (jg_name 5 sc__law_ballot.nd) (jss_cons (js_if (PW.pt (jw_and (jt_truth rfl (je_var 2)) (jw_and (jt_cmp (op_neP hu) oj_ne (je_var 4) (je_lst ja_nil) (nomark _)) (jw_and1 (jt_cmp (op_eqP hu) oj_eq (je_call k__law_roll (hr.mono (by decide)) tk (ja_cons (je_var 0) (ja_cons je_int ja_nil))) je_int (nomark _)))))) (jss_cons (js_sub (je_op op_addJ oj_add (je_ix ix_seq oj_ix (je_var 4) (je_un un_neg uj_neg je_int)) (je_lst (ja_cons (je_var 5) ja_nil))) (je_var 4) (je_un un_neg uj_neg je_int) set_list sj_list) jss_nil) (jss_cons (js_expr (je_met (T := .list) rfl PySem.F.plainAttrs_list PySem.F.slot_list_append PySem.F.type_list_append mt_append mj_append (je_var 4) (ja_cons (je_lst (ja_cons (je_var 5) ja_nil)) ja_nil))) jss_nil)) jss_nil))
  (jss_cons (js_ret (je_callTy cr_tupF cj_tuple z_tuple (ja_cons (je_lcG [("group", 6)] lcEnd_frozen sc__law_ballot.nd (ji_seq rfl (je_var 4)) (by kernel_rfl) (fun _ _ _ _ _ => (jg_name 6 sc__law_ballot.nd)) (fun _ _ _ _ _ => jts_nil) (fun _ _ _ _ _ => (je_callTy cr_tupF cj_tuple z_tuple (ja_cons (je_lcG [("name", 5)] lcEnd_frozen sc__law_ballot.nd (ji_seq rfl (je_var 1)) (by kernel_rfl) (fun _ _ _ _ _ => (jg_name 5 sc__law_ballot.nd)) (fun _ _ _ _ _ => (jts_one (jt_cmp (op_inJ hu) oj_inJ (je_var 5) (je_var 6) (rfl)))) (fun _ _ _ _ _ => (je_var 5))) ja_nil)))) ja_nil))) jss_nil)))))
theorem ok__law_names {fd : FuncData} (F : FnP K "_law_names" s__law_names (He.fAd K ("_law_names", none)) fd) (z_tuple : mg "tuple" = none) (tb : ∀ p ∈ tf, GxR.TabB base mg (He.cT K p).1 (He.cT K p).2) : FnOk P w K mg base (L2.CX P w) 1 (He.fAd K ("_law_names", none)) fd ["many"] (spJ (GX K tf nm mg) 1 m__law_names) := by
  refine def_okD (k := 0) .keep m__law_names F sc__law_names (fb := fb__law_names) (fun cdv A outer s H E hcd hr => ?_) fun args h _ => .inr rfl
  have hu := hr.units
  have tk : Takes (cxOf (L2.CX P w) P w K mg base ["many"] "_law_names" (defScope s__law_names) (He.fAd K ("_law_names", none)) cdv A outer s H E) (fun cls d _ H => E cls d H) := takes_of rfl rfl rfl rfl
  have po : PassesOwn (model P w) (cxOf (L2.CX P w) P w K mg base ["many"] "_law_names" (defScope s__law_names) (He.fAd K ("_law_names", none)) cdv A outer s H E).A (cxOf (L2.CX P w) P w K mg base ["many"] "_law_names" (defScope s__law_names) (He.fAd K ("_law_names", none)) cdv A outer s H E).env (cxOf (L2.CX P w) P w K mg base ["many"] "_law_names" (defScope s__law_names) (He.fAd K ("_law_names", none)) cdv A outer s H E).xe := passes_of rfl
  exact (jss_cons (js_ret (je_callTy cr_tupF cj_tuple z_tuple (ja_cons (je_slice rfl (je_lst (ja_cons je_str (ja_cons je_str (ja_cons je_str (ja_cons je_str (ja_cons je_str (ja_cons je_str ja_nil))))))) jo_none (jo_some (je_var 0))) ja_nil))) jss_nil)
theorem ok__law_dice {fd : FuncData} (F : FnP K "_law_dice" s__law_dice (He.fAd K ("_law_dice", none)) fd) (z_abs : mg "abs" = none) (z_int : mg "int" = none) (tb : ∀ p ∈ tf, GxR.TabB base mg (He.cT K p).1 (He.cT K p).2) : FnOk P w K mg base (L2.CX P w) 1 (He.fAd K ("_law_dice", none)) fd ["cell"] (spJ (GX K tf nm mg) 1 m__law_dice) := by
  refine def_okD (k := 0) .keep m__law_dice F sc__law_dice (fb := fb__law_dice) (fun cdv A outer s H E hcd hr => ?_) fun args h _ => .inr rfl
  have hu := hr.units
  have tk : Takes (cxOf (L2.CX P w) P w K mg base ["cell"] "_law_dice" (defScope s__law_dice) (He.fAd K ("_law_dice", none)) cdv A outer s H E) (fun cls d _ H => E cls d H) := takes_of rfl rfl rfl rfl
  have po : PassesOwn (model P w) (cxOf (L2.CX P w) P w K mg base ["cell"] "_law_dice" (defScope s__law_dice) (He.fAd K ("_law_dice", none)) cdv A outer s H E).A (cxOf (L2.CX P w) P w K mg base ["cell"] "_law_dice" (defScope s__law_dice) (He.fAd K ("_law_dice", none)) cdv A outer s H E).env (cxOf (L2.CX P w) P w K mg base ["cell"] "_law_dice" (defScope s__law_dice) (He.fAd K ("_law_dice", none)) cdv A outer s H E).xe := passes_of rfl
  exact (jss_cons (js_if (jt_chain (op_ltJ hu) (op_ltJ hu) oj_lt oj_lt (je_op op_sub oj_sub je_int je_int) (je_var 0) je_int) (jss_cons (js_ret (je_lstM (ja_cons (je_callB call_abs cj_abs z_abs (ja_cons (je_var 0) ja_nil)) (ja_cons je_int (ja_cons je_int ja_nil))))) jss_nil) jss_nil)
  (jss_cons (js_ret (je_lstM (ja_cons (je_var 0) (ja_cons (je_op op_addJ oj_add je_int (je_op op_mod oj_mod (je_callTy call_int1 cj_int z_int (ja_cons (je_var 0) ja_nil)) je_int)) (ja_cons (je_callTy call_int1 cj_int z_int (ja_cons (je_cmp (op_geJ hu) oj_ge (je_var 0) (je_op op_pow oj_pow je_int je_int) (nomark _)) ja_nil)) ja_nil))))) jss_nil))
theorem ok__law_rounds {fd : FuncData} (F : FnP K "_law_rounds" s__law_rounds (He.fAd K ("_law_rounds", none)) fd) (k__law_dice : Known P w K mg base (GX K tf nm mg) "_law_dice" 1 1 m__law_dice) (tb : ∀ p ∈ tf, GxR.TabB base mg (He.cT K p).1 (He.cT K p).2) : FnOk P w K mg base (L2.CX P w) 2 (He.fAd K ("_law_rounds", none)) fd ["script", "most"] (spJ (GX K tf nm mg) 2 m__law_rounds) := by
  refine def_okD (k := 1) .keep m__law_rounds F sc__law_rounds (fb := fb__law_rounds) (fun cdv A outer s H E hcd hr => ?_) fun args h _ => .inr rfl
  have hu := hr.units
  have tk : Takes (cxOf (L2.CX P w) P w K mg base ["script", "most", "cells", "cell"] "_law_rounds" (defScope s__law_rounds) (He.fAd K ("_law_rounds", none)) cdv A outer s H E) (fun cls d _ H => E cls d H) := takes_of rfl rfl rfl rfl
  have po : PassesOwn (model P w) (cxOf (L2.CX P w) P w K mg base ["script", "most", "cells", "cell"] "_law_rounds" (defScope s__law_rounds) (He.fAd K ("_law_rounds", none)) cdv A outer s H E).A (cxOf (L2.CX P w) P w K mg base ["script", "most", "cells", "cell"] "_law_rounds" (defScope s__law_rounds) (He.fAd K ("_law_rounds", none)) cdv A outer s H E).env (cxOf (L2.CX P w) P w K mg base ["script", "most", "cells", "cell"] "_law_rounds" (defScope s__law_rounds) (He.fAd K ("_law_rounds", none)) cdv A outer s H E).xe := passes_of rfl
  exact (jss_cons (js_set 2 sc__law_rounds.nd (je_slice rfl (je_var 0) jo_none (jo_some (je_var 1))))
  (jss_cons (js_if (jt_cmp (op_eqP hu) oj_eq (je_var 2) (je_lst ja_nil) (nomark _)) (jss_cons (js_set 2 sc__law_rounds.nd (je_lst (ja_cons je_int ja_nil))) jss_nil) jss_nil)
  (jss_cons (js_ret (je_lcG [("cell", 3)] lcEnd_frozen sc__law_rounds.nd (ji_seq rfl (je_var 2)) (by kernel_rfl) (fun _ _ _ _ _ => (jg_name 3 sc__law_rounds.nd)) (fun _ _ _ _ _ => jts_nil) (fun _ _ _ _ _ => (je_call k__law_dice (hr.mono (by decide)) takes0 (ja_cons (je_var 3) ja_nil))))) jss_nil)))
theorem ok_level_of {fd : FuncData} (F : FnP K "level_of" s_level_of (He.fAd K ("level_of", none)) fd) (z_enumerate : mg "enumerate" = none) (z_len : mg "len" = none) (tb : ∀ p ∈ tf, GxR.TabB base mg (He.cT K p).1 (He.cT K p).2) : FnOk P w K mg base (L2.CX P w) 1 (He.fAd K ("level_of", none)) fd ["ballot", "name"] (spJ (GX K tf nm mg) 2 m_level_of) := by
  refine def_okD (k := 0) .keep m_level_of F sc_level_of (fb := fb_level_of) (fun cdv A outer s H E hcd hr => ?_) fun args h _ => .inr rfl
  have hu := hr.units
  have tk : Takes (cxOf (L2.CX P w) P w K mg base ["ballot", "name", "k", "group"] "level_of" (defScope s_level_of) (He.fAd K ("level_of", none)) cdv A outer s H E) (fun cls d _ H => E cls d H) := takes_of rfl rfl rfl rfl
  have po : PassesOwn (model P w) (cxOf (L2.CX P w) P w K mg base ["ballot", "name", "k", "group"] "level_of" (defScope s_level_of) (He.fAd K ("level_of", none)) cdv A outer s H E).A (cxOf (L2.CX P w) P w K mg base ["ballot", "name", "k", "group"] "level_of" (defScope s_level_of) (He.fAd K ("level_of", none)) cdv A outer s H E).env (cxOf (L2.CX P w) P w K mg base ["ballot", "name", "k", "group"] "level_of" (defScope s_level_of) (He.fAd K ("level_of", none)) cdv A outer s H E).xe := passes_of rfl
  exact (jss_cons (js_for po (ji_enum rfl z_enumerate (ja_cons (je_var 0) ja_nil)) (jg_tup rfl (jgs_cons (jg_name 2 sc_level_of.nd) (jgs_cons (jg_name 3 sc_level_of.nd) jgs_nil))) (jss_cons (js_if (jt_cmp (op_inJ hu) oj_inJ (je_var 1) (je_var 3) (rfl)) (jss_cons (js_ret (je_var 2)) jss_nil) jss_nil) jss_nil))
  (jss_cons (js_ret (je_callB cr_lenJ cj_len z_len (ja_cons (je_var 0) ja_nil))) jss_nil))
theorem ok_prefers {fd : FuncData} (F : FnP K "prefers" s_prefers (He.fAd K ("prefers", none)) fd) (k_level_of : Known P w K mg base (GX K tf nm mg) "level_of" 1 2 m_level_of) (tb : ∀ p ∈ tf, GxR.TabB base mg (He.cT K p).1 (He.cT K p).2) : FnOk P w K mg base (L2.CX P w) 2 (He.fAd K ("prefers", none)) fd ["ballot", "one", "other"] (spJ (GX K tf nm mg) 3 m_prefers) := by
  refine def_okD (k := 1) .keep m_prefers F sc_prefers (fb := fb_prefers) (fun cdv A outer s H E hcd hr => ?_) fun args h _ => .inr rfl
  have hu := hr.units
  have tk : Takes (cxOf (L2.CX P w) P w K mg base ["ballot", "one", "other"] "prefers" (defScope s_prefers) (He.fAd K ("prefers", none)) cdv A outer s H E) (fun cls d _ H => E cls d H) := takes_of rfl rfl rfl rfl
  have po : PassesOwn (model P w) (cxOf (L2.CX P w) P w K mg base ["ballot", "one", "other"] "prefers" (defScope s_prefers) (He.fAd K ("prefers", none)) cdv A outer s H E).A (cxOf (L2.CX P w) P w K mg base ["ballot", "one", "other"] "prefers" (defScope s_prefers) (He.fAd K ("prefers", none)) cdv A outer s H E).env (cxOf (L2.CX P w) P w K mg base ["ballot", "one", "other"] "prefers" (defScope s_prefers) (He.fAd K ("prefers", none)) cdv A outer s H E).xe := passes_of rfl
  exact (jss_cons (js_ret (je_cmp (op_ltJ hu) oj_lt (je_call k_level_of (hr.mono (by decide)) tk (ja_cons (je_var 0) (ja_cons (je_var 1) ja_nil))) (je_call k_level_of (hr.mono (by decide)) tk (ja_cons (je_var 0) (ja_cons (je_var 2) ja_nil))) (nomark _))) jss_nil)
theorem ok__law_sign {fd : FuncData} (F : FnP K "_law_sign" s__law_sign (He.fAd K ("_law_sign", none)) fd) (z_int : mg "int" = none) (k_prefers : Known P w K mg base (GX K tf nm mg) "prefers" 2 3 m_prefers) (tb : ∀ p ∈ tf, GxR.TabB base mg (He.cT K p).1 (He.cT K p).2) : FnOk P w K mg base (L2.CX P w) 3 (He.fAd K ("_law_sign", none)) fd ["ballot", "one", "other"] (spJ (GX K tf nm mg) 3 m__law_sign) := by
  refine def_okD (k := 2) .keep m__law_sign F sc__law_sign (fb := fb__law_sign) (fun cdv A outer s H E hcd hr => ?_) fun args h _ => .inr rfl
  have hu := hr.units
  have tk : Takes (cxOf (L2.CX P w) P w K mg base ["ballot", "one", "other"] "_law_sign" (defScope s__law_sign) (He.fAd K ("_law_sign", none)) cdv A outer s H E) (fun cls d _ H => E cls d H) := takes_of rfl rfl rfl rfl
  have po : PassesOwn (model P w) (cxOf (L2.CX P w) P w K mg base ["ballot", "one", "other"] "_law_sign" (defScope s__law_sign) (He.fAd K ("_law_sign", none)) cdv A outer s H E).A (cxOf (L2.CX P w) P w K mg base ["ballot", "one", "other"] "_law_sign" (defScope s__law_sign) (He.fAd K ("_law_sign", none)) cdv A outer s H E).env (cxOf (L2.CX P w) P w K mg base ["ballot", "one", "other"] "_law_sign" (defScope s__law_sign) (He.fAd K ("_law_sign", none)) cdv A outer s H E).xe := passes_of rfl
  exact (jss_cons (js_ret (je_op op_sub oj_sub (je_callTy call_int1 cj_int z_int (ja_cons (je_call k_prefers (hr.mono (by decide)) tk (ja_cons (je_var 0) (ja_cons (je_var 1) (ja_cons (je_var 2) ja_nil)))) ja_nil)) (je_callTy call_int1 cj_int z_int (ja_cons (je_call k_prefers (hr.mono (by decide)) tk (ja_cons (je_var 0) (ja_cons (je_var 2) (ja_cons (je_var 1) ja_nil)))) ja_nil)))) jss_nil)
theorem ok_is_name {fd : FuncData} {t_SIGNS : Tok} (F : FnP K "is_name" s_is_name (He.fAd K ("is_name", none)) fd) (z_all : mg "all" = none) (z_isinstance : mg "isinstance" = none) (z_len : mg "len" = none) (z_str : mg "str" = none) (g_SIGNS : mg "SIGNS" = some (.str "abcdefghijklmnopqrstuvwxyz" t_SIGNS)) (tb : ∀ p ∈ tf, GxR.TabB base mg (He.cT K p).1 (He.cT K p).2) : FnOk P w K mg base (L2.CX P w) 2 (He.fAd K ("is_name", none)) fd ["thing"] (spJ (GX K tf nm mg) 1 m_is_name) := by
  refine def_okD (k := 1) .keep m_is_name F sc_is_name (fb := fb_is_name) (fun cdv A outer s H E hcd hr => ?_) fun args h _ => .inr rfl
  have hu := hr.units
  have tk : Takes (cxOf (L2.CX P w) P w K mg base ["thing", "sign"] "is_name" (defScope s_is_name) (He.fAd K ("is_name", none)) cdv A outer s H E) (fun cls d _ H => E cls d H) := takes_of rfl rfl rfl rfl
  have po : PassesOwn (model P w) (cxOf (L2.CX P w) P w K mg base ["thing", "sign"] "is_name" (defScope s_is_name) (He.fAd K ("is_name", none)) cdv A outer s H E).A (cxOf (L2.CX P w) P w K mg base ["thing", "sign"] "is_name" (defScope s_is_name) (He.fAd K ("is_name", none)) cdv A outer s H E).env (cxOf (L2.CX P w) P w K mg base ["thing", "sign"] "is_name" (defScope s_is_name) (He.fAd K ("is_name", none)) cdv A outer s H E).xe := passes_of rfl
  exact (jss_cons (js_ret (je_and (je_isi "str" rfl z_isinstance z_str (je_var 0)) (je_and (je_chain (op_leJ hu) (op_leJ hu) oj_le oj_le je_int (je_callB cr_lenJ cj_len z_len (ja_cons (je_var 0) ja_nil)) je_int) (je_one (je_all (k := 0) [("sign", 1)] (hr.mono (by decide)) z_all (src_top (tb ("is_name", none) (by simp [tf])) (List.mem_map.mpr ⟨("is_name", none), by simp [tf], rfl⟩) hcd) sc_is_name.nd (ji_seq rfl (je_var 0)) (by kernel_rfl) (by kernel_rfl) (fun B s H C code fp hr cd => have hu := hr.units; (jg_name 1 sc_is_name.nd)) (fun B s H C code fp hr cd => have hu := hr.units; jts_nil) (fun B s H C code fp hr cd => have hu := hr.units; (je_cmp (op_inJ hu) oj_inJ (je_var 1) (je_gstr g_SIGNS) (rfl)))))))) jss_nil)
theorem ok_are_names {fd : FuncData} (F : FnP K "are_names" s_are_names (He.fAd K ("are_names", none)) fd) (z_all : mg "all" = none) (z_isinstance : mg "isinstance" = none) (z_len : mg "len" = none) (z_range : mg "range" = none) (z_tuple : mg "tuple" = none) (k_is_name : Known P w K mg base (GX K tf nm mg) "is_name" 2 1 m_is_name) (tb : ∀ p ∈ tf, GxR.TabB base mg (He.cT K p).1 (He.cT K p).2) : FnOk P w K mg base (L2.CX P w) 4 (He.fAd K ("are_names", none)) fd ["thing"] (spJ (GX K tf nm mg) 1 m_are_names) := by
  refine def_okD (k := 3) .keep m_are_names F sc_are_names (fb := fb_are_names) (fun cdv A outer s H E hcd hr => ?_) fun args h _ => .inr rfl
  have hu := hr.units
  have tk : Takes (cxOf (L2.CX P w) P w K mg base ["thing", "one", "k"] "are_names" (defScope s_are_names) (He.fAd K ("are_names", none)) cdv A outer s H E) (fun cls d _ H => E cls d H) := takes_of rfl rfl rfl rfl
  have po : PassesOwn (model P w) (cxOf (L2.CX P w) P w K mg base ["thing", "one", "k"] "are_names" (defScope s_are_names) (He.fAd K ("are_names", none)) cdv A outer s H E).A (cxOf (L2.CX P w) P w K mg base ["thing", "one", "k"] "are_names" (defScope s_are_names) (He.fAd K ("are_names", none)) cdv A outer s H E).env (cxOf (L2.CX P w) P w K mg base ["thing", "one", "k"] "are_names" (defScope s_are_names) (He.fAd K ("are_names", none)) cdv A outer s H E).xe := passes_of rfl
  exact (jss_cons (js_if (PW.pt (jw_or (jt_not (jt_truth rfl (je_isi "tuple" rfl z_isinstance z_tuple (je_var 0)))) (jw_or1 (jt_not (jt_truth rfl (je_all (k := 2) [("one", 1)] (hr.mono (by decide)) z_all (src_top (tb ("are_names", none) (by simp [tf])) (List.mem_map.mpr ⟨("are_names", none), by simp [tf], rfl⟩) hcd) sc_are_names.nd (ji_seq rfl (je_var 0)) (by kernel_rfl) (by kernel_rfl) (fun B s H C code fp hr cd => have hu := hr.units; (jg_name 1 sc_are_names.nd)) (fun B s H C code fp hr cd => have hu := hr.units; jts_nil) (fun B s H C code fp hr cd => have hu := hr.units; (je_call k_is_name (hr.mono (by decide)) takes0 (ja_cons (je_var 1) ja_nil))))))))) (jss_cons (js_ret je_bl) jss_nil) jss_nil)
  (jss_cons (js_ret (je_all (k := 2) [("k", 2)] (hr.mono (by decide)) z_all (src_top (tb ("are_names", none) (by simp [tf])) (List.mem_map.mpr ⟨("are_names", none), by simp [tf], rfl⟩) hcd) sc_are_names.nd (ji_range1 z_range (ja_cons (je_callB cr_lenJ cj_len z_len (ja_cons (je_var 0) ja_nil)) ja_nil)) (by kernel_rfl) (by kernel_rfl) (fun B s H C code fp hr cd => have hu := hr.units; (jg_name 2 sc_are_names.nd)) (fun B s H C code fp hr cd => have hu := hr.units; jts_nil) (fun B s H C code fp hr cd => have hu := hr.units; (je_cmp (op_ninJ hu) oj_ninJ (je_ix ix_seq oj_ix (je_var 0) (je_var 2)) (je_slice rfl (je_var 0) jo_none (jo_some (je_var 2))) (rfl))))) jss_nil))
theorem ok_in_turn {fd : FuncData} (F : FnP K "in_turn" s_in_turn (He.fAd K ("in_turn", none)) fd) (z_sorted : mg "sorted" = none) (tb : ∀ p ∈ tf, GxR.TabB base mg (He.cT K p).1 (He.cT K p).2) : FnOk P w K mg base (L2.CX P w) 1 (He.fAd K ("in_turn", none)) fd ["group", "names"] (spJ (GX K tf nm mg) 2 m_in_turn) := by
  refine def_okD (k := 0) .keep m_in_turn F sc_in_turn (fb := fb_in_turn) (fun cdv A outer s H E hcd hr => ?_) fun args h _ => .inr rfl
  have hu := hr.units
  have tk : Takes (cxOf (L2.CX P w) P w K mg base ["group", "names", "name", "places"] "in_turn" (defScope s_in_turn) (He.fAd K ("in_turn", none)) cdv A outer s H E) (fun cls d _ H => E cls d H) := takes_of rfl rfl rfl rfl
  have po : PassesOwn (model P w) (cxOf (L2.CX P w) P w K mg base ["group", "names", "name", "places"] "in_turn" (defScope s_in_turn) (He.fAd K ("in_turn", none)) cdv A outer s H E).A (cxOf (L2.CX P w) P w K mg base ["group", "names", "name", "places"] "in_turn" (defScope s_in_turn) (He.fAd K ("in_turn", none)) cdv A outer s H E).env (cxOf (L2.CX P w) P w K mg base ["group", "names", "name", "places"] "in_turn" (defScope s_in_turn) (He.fAd K ("in_turn", none)) cdv A outer s H E).xe := passes_of rfl
  exact (jss_cons (js_setLcG 3 [("name", 2)] lcEnd_frozen sc_in_turn.nd (ji_seq rfl (je_var 0)) (by kernel_rfl) (fun _ _ _ _ _ => (jg_name 2 sc_in_turn.nd)) (fun _ _ _ _ _ => jts_nil) (fun _ _ _ _ _ => (je_met (T := .tuple) rfl PySem.F.plainAttrs_tuple PySem.F.slot_tuple_index PySem.F.type_tuple_index (mt_indexT hu) mj_indexT (je_var 1) (ja_cons (je_var 2) ja_nil))) (sw_true rfl rfl rfl (by kernel_rfl)))
  (jss_cons (js_ret (je_cmp (op_eqP hu) oj_eq (je_var 3) (je_callB cr_sortedI cj_sorted z_sorted (ja_cons (je_var 3) ja_nil)) (nomark _))) jss_nil))
theorem ok_is_ranking {fd : FuncData} (F : FnP K "is_ranking" s_is_ranking (He.fAd K ("is_ranking", none)) fd) (z_all : mg "all" = none) (z_isinstance : mg "isinstance" = none) (z_len : mg "len" = none) (z_tuple : mg "tuple" = none) (k_are_names : Known P w K mg base (GX K tf nm mg) "are_names" 4 1 m_are_names) (k_in_turn : Known P w K mg base (GX K tf nm mg) "in_turn" 1 2 m_in_turn) (tb : ∀ p ∈ tf, GxR.TabB base mg (He.cT K p).1 (He.cT K p).2) : FnOk P w K mg base (L2.CX P w) 5 (He.fAd K ("is_ranking", none)) fd ["thing", "names"] (spJ (GX K tf nm mg) 2 m_is_ranking) := by
  refine def_okD (k := 4) .keep m_is_ranking F sc_is_ranking (fb := fb_is_ranking) (fun cdv A outer s H E hcd hr => ?_) fun args h _ => .inr rfl
  have hu := hr.units
  have tk : Takes (cxOf (L2.CX P w) P w K mg base ["thing", "names", "group", "name", "flat"] "is_ranking" (defScope s_is_ranking) (He.fAd K ("is_ranking", none)) cdv A outer s H E) (fun cls d _ H => E cls d H) := takes_of rfl rfl rfl rfl
  have po : PassesOwn (model P w) (cxOf (L2.CX P w) P w K mg base ["thing", "names", "group", "name", "flat"] "is_ranking" (defScope s_is_ranking) (He.fAd K ("is_ranking", none)) cdv A outer s H E).A (cxOf (L2.CX P w) P w K mg base ["thing", "names", "group", "name", "flat"] "is_ranking" (defScope s_is_ranking) (He.fAd K ("is_ranking", none)) cdv A outer s H E).env (cxOf (L2.CX P w) P w K mg base ["thing", "names", "group", "name", "flat"] "is_ranking" (defScope s_is_ranking) (He.fAd K ("is_ranking", none)) cdv A outer s H E).xe := passes_of rfl
  exact (jss_cons (js_if (PW.pt (jw_or (jt_not (jt_truth rfl (je_isi "tuple" rfl z_isinstance z_tuple (je_var 0)))) (jw_or1 (jt_not (jt_truth rfl (je_all (k := 3) [("group", 2)] (hr.mono (by decide)) z_all (src_top (tb ("is_ranking", none) (by simp [tf])) (List.mem_map.mpr ⟨("is_ranking", none), by simp [tf], rfl⟩) hcd) sc_is_ranking.nd (ji_seq rfl (je_var 0)) (by kernel_rfl) (by kernel_rfl) (fun B s H C code fp hr cd => have hu := hr.units; (jg_name 2 sc_is_ranking.nd)) (fun B s H C code fp hr cd => have hu := hr.units; jts_nil) (fun B s H C code fp hr cd => have hu := hr.units; (je_and (je_isi "tuple" rfl z_isinstance z_tuple (je_var 2)) (je_one (je_cmp (op_gtJ hu) oj_gt (je_callB cr_lenJ cj_len z_len (ja_cons (je_var 2) ja_nil)) je_int (nomark _))))))))))) (jss_cons (js_ret je_bl) jss_nil) jss_nil)
  (jss_cons (js_set 4 sc_is_ranking.nd (je_callTy cr_tupF cj_tuple z_tuple (ja_cons (je_lc2G [("group", 2), ("name", 3)] [3] lcEnd_frozen sc_is_ranking.nd (ji_seq rfl (je_var 0)) (by kernel_rfl) (fun _ _ _ _ _ => (jg_name 2 sc_is_ranking.nd)) (fun _ _ _ _ _ => jts_nil) (fun _ _ _ _ _ => (ji_seq rfl (je_var 2))) (fun _ _ _ _ _ => (jg_name 3 sc_is_ranking.nd)) (fun _ _ _ _ _ => jts_nil) (fun _ _ _ _ _ => (je_var 3))) ja_nil)))
  (jss_cons (js_ret (je_and (je_call k_are_names (hr.mono (by decide)) tk (ja_cons (je_var 4) ja_nil)) (je_and (je_all (k := 3) [("name", 3)] (hr.mono (by decide)) z_all (src_top (tb ("is_ranking", none) (by simp [tf])) (List.mem_map.mpr ⟨("is_ranking", none), by simp [tf], rfl⟩) hcd) sc_is_ranking.nd (ji_seq rfl (je_var 4)) (by kernel_rfl) (by kernel_rfl) (fun B s H C code fp hr cd => have hu := hr.units; (jg_name 3 sc_is_ranking.nd)) (fun B s H C code fp hr cd => have hu := hr.units; jts_nil) (fun B s H C code fp hr cd => have hu := hr.units; (je_cmp (op_inJ hu) oj_inJ (je_var 3) (je_var 1) (rfl)))) (je_one (je_all (k := 3) [("group", 2)] (hr.mono (by decide)) z_all (src_top (tb ("is_ranking", none) (by simp [tf])) (List.mem_map.mpr ⟨("is_ranking", none), by simp [tf], rfl⟩) hcd) sc_is_ranking.nd (ji_seq rfl (je_var 0)) (by kernel_rfl) (by kernel_rfl) (fun B s H C code fp hr cd => have hu := hr.units; (jg_name 2 sc_is_ranking.nd)) (fun B s H C code fp hr cd => have hu := hr.units; jts_nil) (fun B s H C code fp hr cd => have hu := hr.units; (je_call k_in_turn (hr.mono (by decide)) takes0 (ja_cons (je_var 2) (ja_cons (je_var 1) ja_nil))))))))) jss_nil)))
theorem ok_ranked {fd : FuncData} (F : FnP K "ranked" s_ranked (He.fAd K ("ranked", none)) fd) (z_tuple : mg "tuple" = none) (tb : ∀ p ∈ tf, GxR.TabB base mg (He.cT K p).1 (He.cT K p).2) : FnOk P w K mg base (L2.CX P w) 1 (He.fAd K ("ranked", none)) fd ["ballot"] (spJ (GX K tf nm mg) 1 m_ranked) := by
  refine def_okD (k := 0) .keep m_ranked F sc_ranked (fb := fb_ranked) (fun cdv A outer s H E hcd hr => ?_) fun args h _ => .inr rfl
  have hu := hr.units
  have tk : Takes (cxOf (L2.CX P w) P w K mg base ["ballot", "group", "name"] "ranked" (defScope s_ranked) (He.fAd K ("ranked", none)) cdv A outer s H E) (fun cls d _ H => E cls d H) := takes_of rfl rfl rfl rfl
  have po : PassesOwn (model P w) (cxOf (L2.CX P w) P w K mg base ["ballot", "group", "name"] "ranked" (defScope s_ranked) (He.fAd K ("ranked", none)) cdv A outer s H E).A (cxOf (L2.CX P w) P w K mg base ["ballot", "group", "name"] "ranked" (defScope s_ranked) (He.fAd K ("ranked", none)) cdv A outer s H E).env (cxOf (L2.CX P w) P w K mg base ["ballot", "group", "name"] "ranked" (defScope s_ranked) (He.fAd K ("ranked", none)) cdv A outer s H E).xe := passes_of rfl
  exact (jss_cons (js_ret (je_callTy cr_tupF cj_tuple z_tuple (ja_cons (je_lc2G [("group", 1), ("name", 2)] [2] lcEnd_frozen sc_ranked.nd (ji_seq rfl (je_var 0)) (by kernel_rfl) (fun _ _ _ _ _ => (jg_name 1 sc_ranked.nd)) (fun _ _ _ _ _ => jts_nil) (fun _ _ _ _ _ => (ji_seq rfl (je_var 1))) (fun _ _ _ _ _ => (jg_name 2 sc_ranked.nd)) (fun _ _ _ _ _ => jts_nil) (fun _ _ _ _ _ => (je_var 2))) ja_nil))) jss_nil)
theorem ok_left_out {fd : FuncData} (F : FnP K "left_out" s_left_out (He.fAd K ("left_out", none)) fd) (z_tuple : mg "tuple" = none) (k_ranked : Known P w K mg base (GX K tf nm mg) "ranked" 1 1 m_ranked) (tb : ∀ p ∈ tf, GxR.TabB base mg (He.cT K p).1 (He.cT K p).2) : FnOk P w K mg base (L2.CX P w) 2 (He.fAd K ("left_out", none)) fd ["ballot", "names"] (spJ (GX K tf nm mg) 2 m_left_out) := by
  refine def_okD (k := 1) .keep m_left_out F sc_left_out (fb := fb_left_out) (fun cdv A outer s H E hcd hr => ?_) fun args h _ => .inr rfl
  have hu := hr.units
  have tk : Takes (cxOf (L2.CX P w) P w K mg base ["ballot", "names", "told", "name"] "left_out" (defScope s_left_out) (He.fAd K ("left_out", none)) cdv A outer s H E) (fun cls d _ H => E cls d H) := takes_of rfl rfl rfl rfl
  have po : PassesOwn (model P w) (cxOf (L2.CX P w) P w K mg base ["ballot", "names", "told", "name"] "left_out" (defScope s_left_out) (He.fAd K ("left_out", none)) cdv A outer s H E).A (cxOf (L2.CX P w) P w K mg base ["ballot", "names", "told", "name"] "left_out" (defScope s_left_out) (He.fAd K ("left_out", none)) cdv A outer s H E).env (cxOf (L2.CX P w) P w K mg base ["ballot", "names", "told", "name"] "left_out" (defScope s_left_out) (He.fAd K ("left_out", none)) cdv A outer s H E).xe := passes_of rfl
  exact (jss_cons (js_set 2 sc_left_out.nd (je_call k_ranked (hr.mono (by decide)) tk (ja_cons (je_var 0) ja_nil)))
  (jss_cons (js_ret (je_callTy cr_tupF cj_tuple z_tuple (ja_cons (je_lcG [("name", 3)] lcEnd_frozen sc_left_out.nd (ji_seq rfl (je_var 1)) (by kernel_rfl) (fun _ _ _ _ _ => (jg_name 3 sc_left_out.nd)) (fun _ _ _ _ _ => (jts_one (jt_cmp (op_ninJ hu) oj_ninJ (je_var 3) (je_var 2) (rfl)))) (fun _ _ _ _ _ => (je_var 3))) ja_nil))) jss_nil))
theorem ok_whole_ranking {fd : FuncData} (F : FnP K "whole_ranking" s_whole_ranking (He.fAd K ("whole_ranking", none)) fd) (k_left_out : Known P w K mg base (GX K tf nm mg) "left_out" 2 2 m_left_out) (tb : ∀ p ∈ tf, GxR.TabB base mg (He.cT K p).1 (He.cT K p).2) : FnOk P w K mg base (L2.CX P w) 3 (He.fAd K ("whole_ranking", none)) fd ["ballot", "names"] (spJ (GX K tf nm mg) 2 m_whole_ranking) := by
  refine def_okD (k := 2) .keep m_whole_ranking F sc_whole_ranking (fb := fb_whole_ranking) (fun cdv A outer s H E hcd hr => ?_) fun args h _ => .inr rfl
  have hu := hr.units
  have tk : Takes (cxOf (L2.CX P w) P w K mg base ["ballot", "names", "rest"] "whole_ranking" (defScope s_whole_ranking) (He.fAd K ("whole_ranking", none)) cdv A outer s H E) (fun cls d _ H => E cls d H) := takes_of rfl rfl rfl rfl
  have po : PassesOwn (model P w) (cxOf (L2.CX P w) P w K mg base ["ballot", "names", "rest"] "whole_ranking" (defScope s_whole_ranking) (He.fAd K ("whole_ranking", none)) cdv A outer s H E).A (cxOf (L2.CX P w) P w K mg base ["ballot", "names", "rest"] "whole_ranking" (defScope s_whole_ranking) (He.fAd K ("whole_ranking", none)) cdv A outer s H E).env (cxOf (L2.CX P w) P w K mg base ["ballot", "names", "rest"] "whole_ranking" (defScope s_whole_ranking) (He.fAd K ("whole_ranking", none)) cdv A outer s H E).xe := passes_of rfl
  exact (jss_cons (js_set 2 sc_whole_ranking.nd (je_call k_left_out (hr.mono (by decide)) tk (ja_cons (je_var 0) (ja_cons (je_var 1) ja_nil))))
  (jss_cons (js_ret (je_ifExp (jt_cmp (op_eqP hu) oj_eq (je_var 2) (je_tup ja_nil) (nomark _)) (je_var 0) (je_op op_addJ oj_add (je_var 0) (je_tup (ja_cons (je_var 2) ja_nil))))) jss_nil))
theorem ok_raised {fd : FuncData} (F : FnP K "raised" s_raised (He.fAd K ("raised", none)) fd) (z_sorted : mg "sorted" = none) (z_tuple : mg "tuple" = none) (k_level_of : Known P w K mg base (GX K tf nm mg) "level_of" 1 2 m_level_of) (k_whole_ranking : Known P w K mg base (GX K tf nm mg) "whole_ranking" 3 2 m_whole_ranking) (tb : ∀ p ∈ tf, GxR.TabB base mg (He.cT K p).1 (He.cT K p).2) : FnOk P w K mg base (L2.CX P w) 4 (He.fAd K ("raised", none)) fd ["ballot", "name", "names"] (spJ (GX K tf nm mg) 3 m_raised) := by
  refine def_okD (k := 3) .keep m_raised F sc_raised (fb := fb_raised) (fun cdv A outer s H E hcd hr => ?_) fun args h _ => .inr rfl
  have hu := hr.units
  have tk : Takes (cxOf (L2.CX P w) P w K mg base ["ballot", "name", "names", "whole", "k", "one", "rest", "joined"] "raised" (defScope s_raised) (He.fAd K ("raised", none)) cdv A outer s H E) (fun cls d _ H => E cls d H) := takes_of rfl rfl rfl rfl
  have po : PassesOwn (model P w) (cxOf (L2.CX P w) P w K mg base ["ballot", "name", "names", "whole", "k", "one", "rest", "joined"] "raised" (defScope s_raised) (He.fAd K ("raised", none)) cdv A outer s H E).A (cxOf (L2.CX P w) P w K mg base ["ballot", "name", "names", "whole", "k", "one", "rest", "joined"] "raised" (defScope s_raised) (He.fAd K ("raised", none)) cdv A outer s H E).env (cxOf (L2.CX P w) P w K mg base ["ballot", "name", "names", "whole", "k", "one", "rest", "joined"] "raised" (defScope s_raised) (He.fAd K ("raised", none)) cdv A outer s H E).xe := passes_of rfl
  exact (jss_cons (js_set 3 sc_raised.nd (je_call k_whole_ranking (hr.mono (by decide)) tk (ja_cons (je_var 0) (ja_cons (je_var 2) ja_nil))))
  (jss_cons (js_set 4 sc_raised.nd (je_call k_level_of (hr.mono (by decide)) tk (ja_cons (je_var 3) (ja_cons (je_var 1) ja_nil))))
  (jss_cons (js_set 6 sc_raised.nd (je_callTy cr_tupF cj_tuple z_tuple (ja_cons (je_lcG [("one", 5)] lcEnd_frozen sc_raised.nd (ji_seq rfl (je_ix ix_seq oj_ix (je_var 3) (je_var 4))) (by kernel_rfl) (fun _ _ _ _ _ => (jg_name 5 sc_raised.nd)) (fun _ _ _ _ _ => (jts_one (jt_cmp (op_neP hu) oj_ne (je_var 5) (je_var 1) (nomark _)))) (fun _ _ _ _ _ => (je_var 5))) ja_nil)))
  (jss_cons (js_if (jt_cmp (op_neP hu) oj_ne (je_var 6) (je_tup ja_nil) (nomark _)) (jss_cons (js_ret (je_op op_addJ oj_add (je_op op_addJ oj_add (je_slice rfl (je_var 3) jo_none (jo_some (je_var 4))) (je_tup (ja_cons (je_tup (ja_cons (je_var 1) ja_nil)) (ja_cons (je_var 6) ja_nil)))) (je_slice rfl (je_var 3) (jo_some (je_op op_addJ oj_add (je_var 4) je_int)) jo_none))) jss_nil) jss_nil)
  (jss_cons (js_if (jt_cmp (op_eqP hu) oj_eq (je_var 4) je_int (nomark _)) (jss_cons (js_ret (je_var 3)) jss_nil) jss_nil)
  (jss_cons (js_set 7 sc_raised.nd (je_callTy cr_tupF cj_tuple z_tuple (ja_cons (je_sortedK (k := 1) 5 "one" rfl (hr.mono (by decide)) z_sorted (src_top (tb ("raised", none) (by simp [tf])) (List.mem_map.mpr ⟨("raised", none), by simp [tf], rfl⟩) hcd) sc_raised.nd (je_op op_addJ oj_add (je_ix ix_seq oj_ix (je_var 3) (je_op op_sub oj_sub (je_var 4) je_int)) (je_tup (ja_cons (je_var 1) ja_nil))) (by kernel_rfl) (by kernel_rfl) (fun B s H L f c1 hr => have hu := hr.units; (je_met (T := .tuple) rfl PySem.F.plainAttrs_tuple PySem.F.slot_tuple_index PySem.F.type_tuple_index (mt_indexT hu) mj_indexT (je_var 2) (ja_cons (je_var 5) ja_nil)))) ja_nil)))
  (jss_cons (js_ret (je_op op_addJ oj_add (je_op op_addJ oj_add (je_slice rfl (je_var 3) jo_none (jo_some (je_op op_sub oj_sub (je_var 4) je_int))) (je_tup (ja_cons (je_var 7) ja_nil))) (je_slice rfl (je_var 3) (jo_some (je_op op_addJ oj_add (je_var 4) je_int)) jo_none))) jss_nil)))))))
theorem ok_renamed {fd : FuncData} (F : FnP K "renamed" s_renamed (He.fAd K ("renamed", none)) fd) (z_sorted : mg "sorted" = none) (z_tuple : mg "tuple" = none) (tb : ∀ p ∈ tf, GxR.TabB base mg (He.cT K p).1 (He.cT K p).2) : FnOk P w K mg base (L2.CX P w) 3 (He.fAd K ("renamed", none)) fd ["ballot", "table", "names"] (spJ (GX K tf nm mg) 3 m_renamed) := by
  refine def_okD (k := 2) .keep m_renamed F sc_renamed (fb := fb_renamed) (fun cdv A outer s H E hcd hr => ?_) fun args h _ => .inr rfl
  have hu := hr.units
  have tk : Takes (cxOf (L2.CX P w) P w K mg base ["ballot", "table", "names", "group", "name", "groups"] "renamed" (defScope s_renamed) (He.fAd K ("renamed", none)) cdv A outer s H E) (fun cls d _ H => E cls d H) := takes_of rfl rfl rfl rfl
  have po : PassesOwn (model P w) (cxOf (L2.CX P w) P w K mg base ["ballot", "table", "names", "group", "name", "groups"] "renamed" (defScope s_renamed) (He.fAd K ("renamed", none)) cdv A outer s H E).A (cxOf (L2.CX P w) P w K mg base ["ballot", "table", "names", "group", "name", "groups"] "renamed" (defScope s_renamed) (He.fAd K ("renamed", none)) cdv A outer s H E).env (cxOf (L2.CX P w) P w K mg base ["ballot", "table", "names", "group", "name", "groups"] "renamed" (defScope s_renamed) (He.fAd K ("renamed", none)) cdv A outer s H E).xe := passes_of rfl
  exact (jss_cons (js_setLcG 5 [("group", 3)] lcEnd_frozen sc_renamed.nd (ji_seq rfl (je_var 0)) (by kernel_rfl) (fun _ _ _ _ _ => (jg_name 3 sc_renamed.nd)) (fun _ _ _ _ _ => jts_nil) (fun _ _ _ _ _ => (je_lcG [("name", 4)] lcEnd_frozen sc_renamed.nd (ji_seq rfl (je_var 3)) (by kernel_rfl) (fun _ _ _ _ _ => (jg_name 4 sc_renamed.nd)) (fun _ _ _ _ _ => jts_nil) (fun _ _ _ _ _ => (je_ix (ix_J hu) oj_ixJ (je_var 1) (je_var 4))))) (sw_true rfl rfl rfl (by kernel_rfl)))
  (jss_cons (js_ret (je_callTy cr_tupF cj_tuple z_tuple (ja_cons (je_lcG [("group", 3)] lcEnd_frozen sc_renamed.nd (ji_seq rfl (je_var 5)) (by kernel_rfl) (fun _ _ _ _ _ => (jg_name 3 sc_renamed.nd)) (fun _ _ _ _ _ => jts_nil) (fun _ _ _ _ _ => (je_callTy cr_tupF cj_tuple z_tuple (ja_cons (je_sortedK (k := 0) 4 "name" rfl (hr.mono (by decide)) z_sorted (src_top (tb ("renamed", none) (by simp [tf])) (List.mem_map.mpr ⟨("renamed", none), by simp [tf], rfl⟩) hcd) sc_renamed.nd (je_var 3) (by kernel_rfl) (by kernel_rfl) (fun B s H L f c1 hr => have hu := hr.units; (je_met (T := .tuple) rfl PySem.F.plainAttrs_tuple PySem.F.slot_tuple_index PySem.F.type_tuple_index (mt_indexT hu) mj_indexT (je_var 2) (ja_cons (je_var 4) ja_nil)))) ja_nil)))) ja_nil))) jss_nil))
theorem ok_law {fd : FuncData} (F : FnP K "law" s_law (He.fAd K ("law", none)) fd) (z_len : mg "len" = none) (z_range : mg "range" = none) (k__law_ballot : Known P w K mg base (GX K tf nm mg) "_law_ballot" 3 3 m__law_ballot) (k__law_mixed : Known P w K mg base (GX K tf nm mg) "_law_mixed" 2 2 m__law_mixed) (k__law_names : Known P w K mg base (GX K tf nm mg) "_law_names" 1 1 m__law_names) (k__law_roll : Known P w K mg base (GX K tf nm mg) "_law_roll" 1 2 m__law_roll) (k__law_rounds : Known P w K mg base (GX K tf nm mg) "_law_rounds" 2 2 m__law_rounds) (k__law_sign : Known P w K mg base (GX K tf nm mg) "_law_sign" 3 3 m__law_sign) (k_is_ranking : Known P w K mg base (GX K tf nm mg) "is_ranking" 5 2 m_is_ranking) (k_level_of : Known P w K mg base (GX K tf nm mg) "level_of" 1 2 m_level_of) (k_raised : Known P w K mg base (GX K tf nm mg) "raised" 4 3 m_raised) (k_renamed : Known P w K mg base (GX K tf nm mg) "renamed" 3 3 m_renamed) (k_whole_ranking : Known P w K mg base (GX K tf nm mg) "whole_ranking" 3 2 m_whole_ranking) (tb : ∀ p ∈ tf, GxR.TabB base mg (He.cT K p).1 (He.cT K p).2) : FnOk P w K mg base (L2.CX P w) 6 (He.fAd K ("law", none)) fd ["script"] (spJ (GX K tf nm mg) 1 m_law) := by
  refine def_okD (k := 5) .keep m_law F sc_law (fb := fb_law) (fun cdv A outer s H E hcd hr => ?_) fun args h _ => .inr rfl
  have hu := hr.units
  have tk : Takes (cxOf (L2.CX P w) P w K mg base ["script", "dice", "names", "ballot", "name", "new", "better", "one", "other", "first", "table", "row", "k"] "law" (defScope s_law) (He.fAd K ("law", none)) cdv A outer s H E) (fun cls d _ H => E cls d H) := takes_of rfl rfl rfl rfl
  have po : PassesOwn (model P w) (cxOf (L2.CX P w) P w K mg base ["script", "dice", "names", "ballot", "name", "new", "better", "one", "other", "first", "table", "row", "k"] "law" (defScope s_law) (He.fAd K ("law", none)) cdv A outer s H E).A (cxOf (L2.CX P w) P w K mg base ["script", "dice", "names", "ballot", "name", "new", "better", "one", "other", "first", "table", "row", "k"] "law" (defScope s_law) (He.fAd K ("law", none)) cdv A outer s H E).env (cxOf (L2.CX P w) P w K mg base ["script", "dice", "names", "ballot", "name", "new", "better", "one", "other", "first", "table", "row", "k"] "law" (defScope s_law) (He.fAd K ("law", none)) cdv A outer s H E).xe := passes_of rfl
  exact (jss_cons (js_for po (ji_seq rfl (je_call k__law_rounds (hr.mono (by decide)) tk (ja_cons (je_var 0) (ja_cons je_int ja_nil)))) (jg_name 1 sc_law.nd) (jss_foc 1 [] (show JSs _ _ _ _ fb_body from (jss_cons (js_set 2 sc_law.nd (je_call k__law_names (hr.mono (by decide)) tk (ja_cons (je_op op_addJ oj_add je_int (je_call k__law_roll (hr.mono (by decide)) tk (ja_cons (je_var 1) (ja_cons je_int ja_nil)))) ja_nil)))
  (jss_cons (js_set 3 sc_law.nd (je_call k__law_ballot (hr.mono (by decide)) tk (ja_cons (je_var 1) (ja_cons (je_var 2) (ja_cons je_bl ja_nil)))))
  (jss_cons (js_set 4 sc_law.nd (je_ix ix_seq oj_ix (je_var 2) (je_call k__law_roll (hr.mono (by decide)) tk (ja_cons (je_var 1) (ja_cons (je_callB cr_lenJ cj_len z_len (ja_cons (je_var 2) ja_nil)) ja_nil)))))
  (jss_cons (js_set 5 sc_law.nd (je_call k_raised (hr.mono (by decide)) tk (ja_cons (je_var 3) (ja_cons (je_var 4) (ja_cons (je_var 2) ja_nil)))))
  (jss_cons (js_if (jt_not (jt_truth rfl (je_call k_is_ranking (hr.mono (by decide)) tk (ja_cons (je_var 5) (ja_cons (je_var 2) ja_nil))))) (jss_cons (js_ret je_bl) jss_nil) jss_nil)
  (jss_cons (js_set 6 sc_law.nd je_int)
  (jss_cons (js_for po (ji_seq rfl (je_var 2)) (jg_name 7 sc_law.nd) (jss_cons (js_for po (ji_seq rfl (je_var 2)) (jg_name 8 sc_law.nd) (jss_cons (js_if (PW.pt (jw_and (jt_cmp (op_neP hu) oj_ne (je_var 7) (je_var 4) (nomark _)) (jw_and (jt_cmp (op_neP hu) oj_ne (je_var 8) (je_var 4) (nomark _)) (jw_and1 (jt_cmp (op_neP hu) oj_ne (je_call k__law_sign (hr.mono (by decide)) tk (ja_cons (je_var 5) (ja_cons (je_var 7) (ja_cons (je_var 8) ja_nil)))) (je_call k__law_sign (hr.mono (by decide)) tk (ja_cons (je_var 3) (ja_cons (je_var 7) (ja_cons (je_var 8) ja_nil)))) (nomark _)))))) (jss_cons (js_ret je_bl) jss_nil) jss_nil) jss_nil))
  (jss_cons (js_if (jt_cmp (op_neP hu) oj_ne (je_var 7) (je_var 4) (nomark _)) (jss_cons (js_if (jt_cmp (op_ltJ hu) oj_lt (je_call k__law_sign (hr.mono (by decide)) tk (ja_cons (je_var 5) (ja_cons (je_var 4) (ja_cons (je_var 7) ja_nil)))) (je_call k__law_sign (hr.mono (by decide)) tk (ja_cons (je_var 3) (ja_cons (je_var 4) (ja_cons (je_var 7) ja_nil)))) (nomark _)) (jss_cons (js_ret je_bl) jss_nil) jss_nil)
  (jss_cons (js_set 6 sc_law.nd (je_op op_sub oj_sub (je_op op_addJ oj_add (je_var 6) (je_call k__law_sign (hr.mono (by decide)) tk (ja_cons (je_var 5) (ja_cons (je_var 4) (ja_cons (je_var 7) ja_nil))))) (je_call k__law_sign (hr.mono (by decide)) tk (ja_cons (je_var 3) (ja_cons (je_var 4) (ja_cons (je_var 7) ja_nil)))))) jss_nil)) jss_nil) jss_nil)))
  (jss_cons (js_set 9 sc_law.nd (je_cmp (op_eqP hu) oj_eq (je_ix ix_seq oj_ix (je_call k_whole_ranking (hr.mono (by decide)) tk (ja_cons (je_var 3) (ja_cons (je_var 2) ja_nil))) je_int) (je_tup (ja_cons (je_var 4) ja_nil)) (nomark _)))
  (jss_cons (js_if (jt_cmp (op_eqP hu) oj_eq (je_cmp (op_gtJ hu) oj_gt (je_var 6) je_int (nomark _)) (je_var 9) (nomark _)) (jss_cons (js_ret je_bl) jss_nil) jss_nil)
  (jss_cons (js_par 10 11 sc_law.nd (ja_cons (je_dic false) (ja_cons (je_call k__law_mixed (hr.mono (by decide)) tk (ja_cons (je_var 1) (ja_cons (je_var 2) ja_nil))) ja_nil)) (by rfl))
  (jss_cons (js_for po (ji_range1 z_range (ja_cons (je_callB cr_lenJ cj_len z_len (ja_cons (je_var 2) ja_nil)) ja_nil)) (jg_name 12 sc_law.nd) (jss_cons (js_sub (je_ix ix_seq oj_ix (je_var 11) (je_var 12)) (je_var 10) (je_ix ix_seq oj_ix (je_var 2) (je_var 12)) (PSet.orJ (set_dict hu) set_list) sj_D) jss_nil))
  (jss_cons (js_set 8 sc_law.nd (je_call k_renamed (hr.mono (by decide)) tk (ja_cons (je_var 3) (ja_cons (je_var 10) (ja_cons (je_var 2) ja_nil)))))
  (jss_cons (js_if (jt_not (jt_truth rfl (je_call k_is_ranking (hr.mono (by decide)) tk (ja_cons (je_var 8) (ja_cons (je_var 2) ja_nil))))) (jss_cons (js_ret je_bl) jss_nil) jss_nil)
  (jss_cons (js_for po (ji_seq rfl (je_var 2)) (jg_name 7 sc_law.nd) (jss_cons (js_if (jt_cmp (op_neP hu) oj_ne (je_call k_level_of (hr.mono (by decide)) tk (ja_cons (je_var 8) (ja_cons (je_ix (ix_J hu) oj_ixJ (je_var 10) (je_var 7)) ja_nil))) (je_call k_level_of (hr.mono (by decide)) tk (ja_cons (je_var 3) (ja_cons (je_var 7) ja_nil))) (nomark _)) (jss_cons (js_ret je_bl) jss_nil) jss_nil) jss_nil)) jss_nil)))))))))))))))))
  (jss_cons (js_ret je_bl) jss_nil))
end
/-! ### what the top has written -/
def d__law_roll : He.DefD := ⟨("_law_roll", none), "_law_roll", "_law_roll", defArgs s__law_roll, defBody s__law_roll, defScope s__law_roll, [], []⟩
def d__law_mixed : He.DefD := ⟨("_law_mixed", none), "_law_mixed", "_law_mixed", defArgs s__law_mixed, defBody s__law_mixed, defScope s__law_mixed, [], []⟩
def d__law_ballot : He.DefD := ⟨("_law_ballot", none), "_law_ballot", "_law_ballot", defArgs s__law_ballot, defBody s__law_ballot, defScope s__law_ballot, [], []⟩
def d__law_names : He.DefD := ⟨("_law_names", none), "_law_names", "_law_names", defArgs s__law_names, defBody s__law_names, defScope s__law_names, [], []⟩
def d__law_dice : He.DefD := ⟨("_law_dice", none), "_law_dice", "_law_dice", defArgs s__law_dice, defBody s__law_dice, defScope s__law_dice, [], []⟩
def d__law_rounds : He.DefD := ⟨("_law_rounds", none), "_law_rounds", "_law_rounds", defArgs s__law_rounds, defBody s__law_rounds, defScope s__law_rounds, [], []⟩
def d_level_of : He.DefD := ⟨("level_of", none), "level_of", "level_of", defArgs s_level_of, defBody s_level_of, defScope s_level_of, [], []⟩
def d_prefers : He.DefD := ⟨("prefers", none), "prefers", "prefers", defArgs s_prefers, defBody s_prefers, defScope s_prefers, [], []⟩
def d__law_sign : He.DefD := ⟨("_law_sign", none), "_law_sign", "_law_sign", defArgs s__law_sign, defBody s__law_sign, defScope s__law_sign, [], []⟩
def d_is_name : He.DefD := ⟨("is_name", none), "is_name", "is_name", defArgs s_is_name, defBody s_is_name, defScope s_is_name, [], []⟩
def d_are_names : He.DefD := ⟨("are_names", none), "are_names", "are_names", defArgs s_are_names, defBody s_are_names, defScope s_are_names, [], []⟩
def d_in_turn : He.DefD := ⟨("in_turn", none), "in_turn", "in_turn", defArgs s_in_turn, defBody s_in_turn, defScope s_in_turn, [], []⟩
def d_is_ranking : He.DefD := ⟨("is_ranking", none), "is_ranking", "is_ranking", defArgs s_is_ranking, defBody s_is_ranking, defScope s_is_ranking, [], []⟩
def d_ranked : He.DefD := ⟨("ranked", none), "ranked", "ranked", defArgs s_ranked, defBody s_ranked, defScope s_ranked, [], []⟩
def d_left_out : He.DefD := ⟨("left_out", none), "left_out", "left_out", defArgs s_left_out, defBody s_left_out, defScope s_left_out, [], []⟩
def d_whole_ranking : He.DefD := ⟨("whole_ranking", none), "whole_ranking", "whole_ranking", defArgs s_whole_ranking, defBody s_whole_ranking, defScope s_whole_ranking, [], []⟩
def d_raised : He.DefD := ⟨("raised", none), "raised", "raised", defArgs s_raised, defBody s_raised, defScope s_raised, [], []⟩
def d_renamed : He.DefD := ⟨("renamed", none), "renamed", "renamed", defArgs s_renamed, defBody s_renamed, defScope s_renamed, [], []⟩
def d_law : He.DefD := ⟨("law", none), "law", "law", defArgs s_law, defBody s_law, defScope s_law, [], []⟩
def fn : List He.DefD := [d__law_roll, d__law_mixed, d__law_ballot, d__law_names, d__law_dice, d__law_rounds, d_level_of, d_prefers, d__law_sign, d_is_name, d_are_names, d_in_turn, d_is_ranking, d_ranked, d_left_out, d_whole_ranking, d_raised, d_renamed, d_law]
def fa : List He.Fa := [.glo "_law_roll", .glo "_law_mixed", .glo "_law_ballot", .glo "_law_names", .glo "_law_dice", .glo "_law_rounds", .glo "level_of", .glo "prefers", .glo "_law_sign", .glo "is_name", .glo "are_names", .glo "in_turn", .glo "is_ranking", .glo "ranked", .glo "left_out", .glo "whole_ranking", .glo "raised", .glo "renamed", .glo "law", .free "abs", .free "all", .free "enumerate", .free "int", .free "isinstance", .free "len", .free "list", .free "range", .free "sorted", .free "str", .free "tuple", .str "SIGNS" "abcdefghijklmnopqrstuvwxyz"]
theorem facts {l : PySem.W.OpenLaw} {w : World} {K : PySem.W.Frag} {h : Heap} {mg : Str → Option Value} {f : Addr} (X : K.In h) (G : h.Ns mainGlobals mg) (hfa : mg "law" = some (.ref f)) (c : He.SaysX fa fn [] tf exF w h K) (hm : LawTrue m_law) : LamX.LawAtS l w K (L2.CX l.prog w) 6 63 "script" mg f h := by
  have cd := c.t.d
  obtain ⟨fd0, F0⟩ := cd.def_ 0 (d := d__law_roll) rfl
  have F0 : FnP K "_law_roll" s__law_roll (He.fAd K ("_law_roll", none)) fd0 := F0
  have a0 : mg "_law_roll" = some (.ref (He.fAd K ("_law_roll", none))) := He.glo_ok X G (cd.fact 0 (f := .glo "_law_roll") rfl)
  obtain ⟨fd1, F1⟩ := cd.def_ 1 (d := d__law_mixed) rfl
  have F1 : FnP K "_law_mixed" s__law_mixed (He.fAd K ("_law_mixed", none)) fd1 := F1
  have a1 : mg "_law_mixed" = some (.ref (He.fAd K ("_law_mixed", none))) := He.glo_ok X G (cd.fact 1 (f := .glo "_law_mixed") rfl)
  obtain ⟨fd2, F2⟩ := cd.def_ 2 (d := d__law_ballot) rfl
  have F2 : FnP K "_law_ballot" s__law_ballot (He.fAd K ("_law_ballot", none)) fd2 := F2
  have a2 : mg "_law_ballot" = some (.ref (He.fAd K ("_law_ballot", none))) := He.glo_ok X G (cd.fact 2 (f := .glo "_law_ballot") rfl)
  obtain ⟨fd3, F3⟩ := cd.def_ 3 (d := d__law_names) rfl
  have F3 : FnP K "_law_names" s__law_names (He.fAd K ("_law_names", none)) fd3 := F3
  have a3 : mg "_law_names" = some (.ref (He.fAd K ("_law_names", none))) := He.glo_ok X G (cd.fact 3 (f := .glo "_law_names") rfl)
  obtain ⟨fd4, F4⟩ := cd.def_ 4 (d := d__law_dice) rfl
  have F4 : FnP K "_law_dice" s__law_dice (He.fAd K ("_law_dice", none)) fd4 := F4
  have a4 : mg "_law_dice" = some (.ref (He.fAd K ("_law_dice", none))) := He.glo_ok X G (cd.fact 4 (f := .glo "_law_dice") rfl)
  obtain ⟨fd5, F5⟩ := cd.def_ 5 (d := d__law_rounds) rfl
  have F5 : FnP K "_law_rounds" s__law_rounds (He.fAd K ("_law_rounds", none)) fd5 := F5
  have a5 : mg "_law_rounds" = some (.ref (He.fAd K ("_law_rounds", none))) := He.glo_ok X G (cd.fact 5 (f := .glo "_law_rounds") rfl)
  obtain ⟨fd6, F6⟩ := cd.def_ 6 (d := d_level_of) rfl
  have F6 : FnP K "level_of" s_level_of (He.fAd K ("level_of", none)) fd6 := F6
  have a6 : mg "level_of" = some (.ref (He.fAd K ("level_of", none))) := He.glo_ok X G (cd.fact 6 (f := .glo "level_of") rfl)
  obtain ⟨fd7, F7⟩ := cd.def_ 7 (d := d_prefers) rfl
  have F7 : FnP K "prefers" s_prefers (He.fAd K ("prefers", none)) fd7 := F7
  have a7 : mg "prefers" = some (.ref (He.fAd K ("prefers", none))) := He.glo_ok X G (cd.fact 7 (f := .glo "prefers") rfl)
  obtain ⟨fd8, F8⟩ := cd.def_ 8 (d := d__law_sign) rfl
  have F8 : FnP K "_law_sign" s__law_sign (He.fAd K ("_law_sign", none)) fd8 := F8
  have a8 : mg "_law_sign" = some (.ref (He.fAd K ("_law_sign", none))) := He.glo_ok X G (cd.fact 8 (f := .glo "_law_sign") rfl)
  obtain ⟨fd9, F9⟩ := cd.def_ 9 (d := d_is_name) rfl
  have F9 : FnP K "is_name" s_is_name (He.fAd K ("is_name", none)) fd9 := F9
  have a9 : mg "is_name" = some (.ref (He.fAd K ("is_name", none))) := He.glo_ok X G (cd.fact 9 (f := .glo "is_name") rfl)
  obtain ⟨fd10, F10⟩ := cd.def_ 10 (d := d_are_names) rfl
  have F10 : FnP K "are_names" s_are_names (He.fAd K ("are_names", none)) fd10 := F10
  have a10 : mg "are_names" = some (.ref (He.fAd K ("are_names", none))) := He.glo_ok X G (cd.fact 10 (f := .glo "are_names") rfl)
  obtain ⟨fd11, F11⟩ := cd.def_ 11 (d := d_in_turn) rfl
  have F11 : FnP K "in_turn" s_in_turn (He.fAd K ("in_turn", none)) fd11 := F11
  have a11 : mg "in_turn" = some (.ref (He.fAd K ("in_turn", none))) := He.glo_ok X G (cd.fact 11 (f := .glo "in_turn") rfl)
  obtain ⟨fd12, F12⟩ := cd.def_ 12 (d := d_is_ranking) rfl
  have F12 : FnP K "is_ranking" s_is_ranking (He.fAd K ("is_ranking", none)) fd12 := F12
  have a12 : mg "is_ranking" = some (.ref (He.fAd K ("is_ranking", none))) := He.glo_ok X G (cd.fact 12 (f := .glo "is_ranking") rfl)
  obtain ⟨fd13, F13⟩ := cd.def_ 13 (d := d_ranked) rfl
  have F13 : FnP K "ranked" s_ranked (He.fAd K ("ranked", none)) fd13 := F13
  have a13 : mg "ranked" = some (.ref (He.fAd K ("ranked", none))) := He.glo_ok X G (cd.fact 13 (f := .glo "ranked") rfl)
  obtain ⟨fd14, F14⟩ := cd.def_ 14 (d := d_left_out) rfl
  have F14 : FnP K "left_out" s_left_out (He.fAd K ("left_out", none)) fd14 := F14
  have a14 : mg "left_out" = some (.ref (He.fAd K ("left_out", none))) := He.glo_ok X G (cd.fact 14 (f := .glo "left_out") rfl)
  obtain ⟨fd15, F15⟩ := cd.def_ 15 (d := d_whole_ranking) rfl
  have F15 : FnP K "whole_ranking" s_whole_ranking (He.fAd K ("whole_ranking", none)) fd15 := F15
  have a15 : mg "whole_ranking" = some (.ref (He.fAd K ("whole_ranking", none))) := He.glo_ok X G (cd.fact 15 (f := .glo "whole_ranking") rfl)
  obtain ⟨fd16, F16⟩ := cd.def_ 16 (d := d_raised) rfl
  have F16 : FnP K "raised" s_raised (He.fAd K ("raised", none)) fd16 := F16
  have a16 : mg "raised" = some (.ref (He.fAd K ("raised", none))) := He.glo_ok X G (cd.fact 16 (f := .glo "raised") rfl)
  obtain ⟨fd17, F17⟩ := cd.def_ 17 (d := d_renamed) rfl
  have F17 : FnP K "renamed" s_renamed (He.fAd K ("renamed", none)) fd17 := F17
  have a17 : mg "renamed" = some (.ref (He.fAd K ("renamed", none))) := He.glo_ok X G (cd.fact 17 (f := .glo "renamed") rfl)
  obtain ⟨fd18, F18⟩ := cd.def_ 18 (d := d_law) rfl
  have F18 : FnP K "law" s_law (He.fAd K ("law", none)) fd18 := F18
  have a18 : mg "law" = some (.ref (He.fAd K ("law", none))) := He.glo_ok X G (cd.fact 18 (f := .glo "law") rfl)
  have y_abs := He.free_ok X G (cd.fact 19 (f := .free "abs") rfl)
  have y_all := He.free_ok X G (cd.fact 20 (f := .free "all") rfl)
  have y_enumerate := He.free_ok X G (cd.fact 21 (f := .free "enumerate") rfl)
  have y_int := He.free_ok X G (cd.fact 22 (f := .free "int") rfl)
  have y_isinstance := He.free_ok X G (cd.fact 23 (f := .free "isinstance") rfl)
  have y_len := He.free_ok X G (cd.fact 24 (f := .free "len") rfl)
  have y_list := He.free_ok X G (cd.fact 25 (f := .free "list") rfl)
  have y_range := He.free_ok X G (cd.fact 26 (f := .free "range") rfl)
  have y_sorted := He.free_ok X G (cd.fact 27 (f := .free "sorted") rfl)
  have y_str := He.free_ok X G (cd.fact 28 (f := .free "str") rfl)
  have y_tuple := He.free_ok X G (cd.fact 29 (f := .free "tuple") rfl)
  obtain ⟨t_SIGNS, y_SIGNS⟩ := He.str_ok X G (cd.fact 30 (f := .str "SIGNS" "abcdefghijklmnopqrstuvwxyz") rfl)
  have e := hfa.symm.trans a18
  cases e
  refine lawAt (fd := fd18) (nm := nm) (m := m_law) X c (fun s v => FunD.bindsA (ps := ["script"]) F18 (fun _ _ _ _ _ _ us hl => match us, hl with | [_], _ => rfl) s [v] rfl) hm fun base _ _ tb => ?_
  have q__law_roll : Known l.prog w K mg base (GX K tf nm mg) "_law_roll" 1 2 m__law_roll := knownD (ok__law_roll F0 y_int tb) F0 a0 (FunD.bindsN F0 (ps := ["dice", "many"]) fun _ _ _ _ _ _ us hl => match us, hl with | [_, _], _ => rfl) rfl
  have q__law_mixed : Known l.prog w K mg base (GX K tf nm mg) "_law_mixed" 2 2 m__law_mixed := knownD (ok__law_mixed F1 y_len y_list y_range q__law_roll tb) F1 a1 (FunD.bindsN F1 (ps := ["dice", "row"]) fun _ _ _ _ _ _ us hl => match us, hl with | [_, _], _ => rfl) rfl
  have q__law_ballot : Known l.prog w K mg base (GX K tf nm mg) "_law_ballot" 3 3 m__law_ballot := knownD (ok__law_ballot F2 y_len y_tuple q__law_mixed q__law_roll tb) F2 a2 (FunD.bindsN F2 (ps := ["dice", "names", "ties"]) fun _ _ _ _ _ _ us hl => match us, hl with | [_, _, _], _ => rfl) rfl
  have q__law_names : Known l.prog w K mg base (GX K tf nm mg) "_law_names" 1 1 m__law_names := knownD (ok__law_names F3 y_tuple tb) F3 a3 (FunD.bindsN F3 (ps := ["many"]) fun _ _ _ _ _ _ us hl => match us, hl with | [_], _ => rfl) rfl
  have q__law_dice : Known l.prog w K mg base (GX K tf nm mg) "_law_dice" 1 1 m__law_dice := knownD (ok__law_dice F4 y_abs y_int tb) F4 a4 (FunD.bindsN F4 (ps := ["cell"]) fun _ _ _ _ _ _ us hl => match us, hl with | [_], _ => rfl) rfl
  have q__law_rounds : Known l.prog w K mg base (GX K tf nm mg) "_law_rounds" 2 2 m__law_rounds := knownD (ok__law_rounds F5 q__law_dice tb) F5 a5 (FunD.bindsN F5 (ps := ["script", "most"]) fun _ _ _ _ _ _ us hl => match us, hl with | [_, _], _ => rfl) rfl
  have q_level_of : Known l.prog w K mg base (GX K tf nm mg) "level_of" 1 2 m_level_of := knownD (ok_level_of F6 y_enumerate y_len tb) F6 a6 (FunD.bindsN F6 (ps := ["ballot", "name"]) fun _ _ _ _ _ _ us hl => match us, hl with | [_, _], _ => rfl) rfl
  have q_prefers : Known l.prog w K mg base (GX K tf nm mg) "prefers" 2 3 m_prefers := knownD (ok_prefers F7 q_level_of tb) F7 a7 (FunD.bindsN F7 (ps := ["ballot", "one", "other"]) fun _ _ _ _ _ _ us hl => match us, hl with | [_, _, _], _ => rfl) rfl
  have q__law_sign : Known l.prog w K mg base (GX K tf nm mg) "_law_sign" 3 3 m__law_sign := knownD (ok__law_sign F8 y_int q_prefers tb) F8 a8 (FunD.bindsN F8 (ps := ["ballot", "one", "other"]) fun _ _ _ _ _ _ us hl => match us, hl with | [_, _, _], _ => rfl) rfl
  have q_is_name : Known l.prog w K mg base (GX K tf nm mg) "is_name" 2 1 m_is_name := knownD (ok_is_name F9 y_all y_isinstance y_len y_str y_SIGNS tb) F9 a9 (FunD.bindsN F9 (ps := ["thing"]) fun _ _ _ _ _ _ us hl => match us, hl with | [_], _ => rfl) rfl
  have q_are_names : Known l.prog w K mg base (GX K tf nm mg) "are_names" 4 1 m_are_names := knownD (ok_are_names F10 y_all y_isinstance y_len y_range y_tuple q_is_name tb) F10 a10 (FunD.bindsN F10 (ps := ["thing"]) fun _ _ _ _ _ _ us hl => match us, hl with | [_], _ => rfl) rfl
  have q_in_turn : Known l.prog w K mg base (GX K tf nm mg) "in_turn" 1 2 m_in_turn := knownD (ok_in_turn F11 y_sorted tb) F11 a11 (FunD.bindsN F11 (ps := ["group", "names"]) fun _ _ _ _ _ _ us hl => match us, hl with | [_, _], _ => rfl) rfl
  have q_is_ranking : Known l.prog w K mg base (GX K tf nm mg) "is_ranking" 5 2 m_is_ranking := knownD (ok_is_ranking F12 y_all y_isinstance y_len y_tuple q_are_names q_in_turn tb) F12 a12 (FunD.bindsN F12 (ps := ["thing", "names"]) fun _ _ _ _ _ _ us hl => match us, hl with | [_, _], _ => rfl) rfl
  have q_ranked : Known l.prog w K mg base (GX K tf nm mg) "ranked" 1 1 m_ranked := knownD (ok_ranked F13 y_tuple tb) F13 a13 (FunD.bindsN F13 (ps := ["ballot"]) fun _ _ _ _ _ _ us hl => match us, hl with | [_], _ => rfl) rfl
  have q_left_out : Known l.prog w K mg base (GX K tf nm mg) "left_out" 2 2 m_left_out := knownD (ok_left_out F14 y_tuple q_ranked tb) F14 a14 (FunD.bindsN F14 (ps := ["ballot", "names"]) fun _ _ _ _ _ _ us hl => match us, hl with | [_, _], _ => rfl) rfl
  have q_whole_ranking : Known l.prog w K mg base (GX K tf nm mg) "whole_ranking" 3 2 m_whole_ranking := knownD (ok_whole_ranking F15 q_left_out tb) F15 a15 (FunD.bindsN F15 (ps := ["ballot", "names"]) fun _ _ _ _ _ _ us hl => match us, hl with | [_, _], _ => rfl) rfl
  have q_raised : Known l.prog w K mg base (GX K tf nm mg) "raised" 4 3 m_raised := knownD (ok_raised F16 y_sorted y_tuple q_level_of q_whole_ranking tb) F16 a16 (FunD.bindsN F16 (ps := ["ballot", "name", "names"]) fun _ _ _ _ _ _ us hl => match us, hl with | [_, _, _], _ => rfl) rfl
  have q_renamed : Known l.prog w K mg base (GX K tf nm mg) "renamed" 3 3 m_renamed := knownD (ok_renamed F17 y_sorted y_tuple tb) F17 a17 (FunD.bindsN F17 (ps := ["ballot", "table", "names"]) fun _ _ _ _ _ _ us hl => match us, hl with | [_, _, _], _ => rfl) rfl
  exact ok_law F18 y_len y_range q__law_ballot q__law_mixed q__law_names q__law_roll q__law_rounds q__law_sign q_is_ranking q_level_of q_raised q_renamed q_whole_ranking tb
end K05

namespace K05
open PySem PySem.Spec PyProof.Rows L2 J
abbrev Bl := List (List Str)
theorem cut_from {α : Type} (xs : List α) (k : Nat) (hk : k ≤ xs.length) : cut xs (some (k : Int)) none = xs.drop k := by
  unfold cut HT.sIx
  have : ¬ ((k : Int) < 0) := by omega
  simp only [this, if_false, Int.toNat_natCast]
  rw [Nat.min_eq_left hk]
  exact List.take_of_length_le (by simp)
def rai (w : Bl) (ns : List Str) (x : Str) : Bl :=
  if ((w.getD (lvl w x) []).filter fun y => !decide (y = x)) = [] then
    if lvl w x = 0 then w else w.take (lvl w x - 1) ++ (ns.filter fun y => decide (y ∈ w.getD (lvl w x - 1) [] ++ [x])) :: w.drop (lvl w x + 1)
  else w.take (lvl w x) ++ [x] :: ((w.getD (lvl w x) []).filter fun y => !decide (y = x)) :: w.drop (lvl w x + 1)
theorem raised_ok {b : Bl} {ns : List Str} {x : Str} (hn : ns.Nodup) (r : Rk b ns) (hx : x ∈ ns) (hl : ns.length ≤ 100) (h : PH) : m_raised [T tS b, .str x, T PV.str ns] h = .ok (T tS (rai (whole b ns) ns x)) h := by
  have rl := rk_len r
  have rl2 := rk_len2 r
  have wo := whole_ok b ns h (small (by omega)) (small (by omega))
  have rw' := whole_rk hn r
  have wl := rk_len2 rw'
  have hk : lvl (whole b ns) x < (whole b ns).length := lvl_lt.mpr ((whole_mem r).mpr hx)
  generalize hw : whole b ns = w at wo rw' wl hk ⊢
  generalize hkk : lvl w x = k at hk
  have gk : w[k]? = some w[k] := List.getElem?_eq_getElem hk
  have gd : w.getD k [] = w[k] := by rw [List.getD_eq_getElem?_getD, gk]; rfl
  have ix := atI_mp tS w k hk
  have c1 := cut_to w k
  have c2 : cut (mp tS w) (some ((k : Int) + 1)) none = mp tS (w.drop (k + 1)) := by
    have := cut_from (mp tS w) (k + 1) (by simp; omega)
    rw [mp_drop] at this
    rw [← this]; congr 1
  have z2 : (2 : Nat) ≤ sizeLine := sl2
  unfold m_raised fb_raised
  refine def_wp ?_
  have p2 : ∀ a b : List Str, PV.tup [T PV.str a, T PV.str b] = T tS [a, b] := fun _ _ => rfl
  have p1 : ∀ a : List Str, PV.tup [T PV.str a] = T tS [a] := fun _ => rfl
  have s1 : (w.take k).length + 2 ≤ sizeLine := small (by simp; omega)
  have s2 : ∀ a b : List Str, (w.take k ++ [a, b]).length + (w.drop (k + 1)).length ≤ sizeLine := fun a b => small (by simp; omega)
  have t2 : PV.tup (mp tS (w.drop (k + 1))) = T tS (w.drop (k + 1)) := rfl
  have tr : ∀ v : Bl, trimR Md.keep h.length (R.ok (T tS v) h) = R.ok (T tS v) h := fun v => trim_emb (f := T tS) .keep v h
  simp [wo, level_of_ok, hkk, ix]
  refine ⟨fun y hy hyx => ?_, fun hall => ⟨fun k0 => ?_, fun k0 => ?_⟩⟩
  · have hne : ¬ ((w[k].filter fun y => !decide (y = x)) = []) := fun z => by
      have := List.filter_eq_nil_iff.mp z y hy
      simp [hyx] at this
    have a1 : ∀ a b, addO (T tS (w.take k)) (T tS [a, b]) h = some (T tS (w.take k ++ [a, b])) := fun a b => addO_T tS _ _ h s1
    have a2 : ∀ a b, addO (T tS (w.take k ++ [a, b])) (T tS (w.drop (k + 1))) h = some (T tS (w.take k ++ [a, b] ++ w.drop (k + 1))) := fun a b => addO_T tS _ _ h (s2 a b)
    rw [c2, t2]
    simp [sl1, sl2, p2, a1, a2]
    unfold rai
    rw [hkk, gd, if_neg hne]
  · have he : ((w[k].filter fun y => !decide (y = x)) = []) := by
      rw [List.filter_eq_nil_iff]
      intro a ha
      simp [hall a ha]
    unfold rai
    rw [hkk, gd, if_pos he, if_pos k0]
  · have he : ((w[k].filter fun y => !decide (y = x)) = []) := by
      rw [List.filter_eq_nil_iff]
      intro a ha
      simp [hall a ha]
    have k1 : k - 1 < w.length := by omega
    have ix1 : atI (mp tS w) ((k : Int) - 1) = some (tS w[k - 1]) := by
      have := atI_mp tS w (k - 1) k1
      rw [show ((k - 1 : Nat) : Int) = (k : Int) - 1 by omega] at this
      exact this
    have gd1 : w.getD (k - 1) [] = w[k - 1] := by rw [List.getD_eq_getElem?_getD, List.getElem?_eq_getElem k1]; rfl
    have gs := rw'.sub _ (List.getElem_mem k1)
    have gl : w[k - 1].length ≤ ns.length := gs.length_le
    have a1 : addO (tS w[k - 1]) (T PV.str [x]) h = some (T PV.str (w[k - 1] ++ [x])) := addO_T PV.str _ _ h (small (by simp; omega))
    have xw : x ∉ w[k - 1] := fun z => by
      have := lvl_of_mem rw'.nd (List.getElem?_eq_getElem k1) z
      omega
    have gnd : (w[k - 1] ++ [x]).Nodup := by
      rw [List.nodup_append]
      exact ⟨gs.nodup hn, by simp, fun a ha b hb e => xw (by rw [List.mem_singleton.mp hb] at e; exact e ▸ ha)⟩
    have gin : ∀ y ∈ w[k - 1] ++ [x], y ∈ ns := fun y hy => by
      rcases List.mem_append.mp hy with q | q
      · exact gs.subset q
      · rw [List.mem_singleton.mp q]; exact hx
    have io : ∀ y ∈ w[k - 1] ++ [x], indexO (T PV.str ns) [.str y] h = some (.int (ns.idxOf y : Nat), h) := fun y hy => indexO_T (f := PV.str) y ns h (gin y hy) (by decide)
    have so := srt_idx hn gnd gin
    have c3 : cut (mp tS w) none (some ((k : Int) - 1)) = mp tS (w.take (k - 1)) := by
      have := cut_toM tS w (k - 1)
      rw [show ((k - 1 : Nat) : Int) = (k : Int) - 1 by omega] at this
      exact this
    have t3 : PV.tup (mp tS (w.take (k - 1))) = T tS (w.take (k - 1)) := rfl
    have a3 : ∀ a, addO (T tS (w.take (k - 1))) (T tS [a]) h = some (T tS (w.take (k - 1) ++ [a])) := fun a => addO_T tS _ _ h (small (by simp; omega))
    have a4 : ∀ a, addO (T tS (w.take (k - 1) ++ [a])) (T tS (w.drop (k + 1))) h = some (T tS (w.take (k - 1) ++ [a] ++ w.drop (k + 1))) := fun a => addO_T tS _ _ h (small (by simp; omega))
    generalize hgg : w[k - 1] ++ [x] = gg at *
    simp [ix1, sl1, a1, wp_toS, wr_bind]
    refine wr_comp (emb := PV.str) (fun _ => true) (fun y => PV.int (ns.idxOf y : Int)) rfl (fun y hy => by simp [io y hy]) ?_
    simp [so]
    rw [c3, c2, t2, t3]
    simp [sl1, p1, a3, a4]
    unfold rai
    rw [hkk, gd, if_pos he, if_neg k0, gd1, hgg]
/-! ### what raising does -/
structure RaiFacts (w nb : Bl) (ns : List Str) (x : Str) : Prop where
  rk : Rk nb ns
  oth : ∀ y ∈ ns, ∀ z ∈ ns, y ≠ x → z ≠ x → (lvl nb y < lvl nb z ↔ lvl w y < lvl w z)
  up : ∀ y ∈ ns, y ≠ x → (lvl w x < lvl w y → lvl nb x < lvl nb y) ∧ (lvl nb y < lvl nb x → lvl w y < lvl w x)
  sm : w[0]? ≠ some [x] → ∃ y ∈ ns, y ≠ x ∧ ((lvl nb x < lvl nb y ∧ lvl w x = lvl w y) ∨ (lvl nb x = lvl nb y ∧ lvl w y < lvl w x))
  nn : w[0]? = some [x] → nb = w
theorem erase_filter {g : List Str} (hg : g.Nodup) (x : Str) : (g.filter fun y => !decide (y = x)) = g.erase x := by
  rw [hg.erase_eq_filter]
  refine List.filter_congr fun y _ => ?_
  by_cases h : y = x <;> simp [h]
theorem rai_facts {w : Bl} {ns : List Str} {x : Str} (hn : ns.Nodup) (r : Rk w ns) (hall : ∀ y ∈ ns, y ∈ flat w) (hx : x ∈ ns) : RaiFacts w (rai w ns x) ns x := by
  have hk : lvl w x < w.length := lvl_lt.mpr (hall x hx)
  obtain ⟨g, hg, hxg⟩ := lvl_at x w hk
  generalize hkk : lvl w x = k at hk hg
  have ew : w = w.take k ++ g :: w.drop (k + 1) := by
    have : w[k] = g := (List.getElem?_eq_some_iff.mp hg).2
    rw [← this, List.getElem_cons_drop, List.take_append_drop]
  have gd : w.getD k [] = g := by rw [List.getD_eq_getElem?_getD, hg]; rfl
  have gs := r.sub g (List.mem_of_getElem? hg)
  have gnd := gs.nodup hn
  have fw : flat w = flat (w.take k) ++ (g ++ flat (w.drop (k + 1))) := by
    conv => lhs; rw [ew]
    simp
  have at_ : ∀ y ∈ ns, ∃ g', w[lvl w y]? = some g' ∧ y ∈ g' := fun y hy => lvl_at y w (lvl_lt.mpr (hall y hy))
  unfold rai
  rw [hkk, gd, erase_filter gnd]
  by_cases he : g.erase x = []
  · rw [if_pos he]
    have g1 : g = [x] := by
      have p := List.perm_cons_erase hxg
      rw [he] at p
      exact List.perm_singleton.mp p
    by_cases k0 : k = 0
    · rw [if_pos k0]
      refine ⟨r, fun _ _ _ _ _ _ => Iff.rfl, fun y _ _ => ⟨id, id⟩, fun h => absurd ?_ h, fun _ => rfl⟩
      rw [← k0, hg, g1]
    · rw [if_neg k0]
      have k1 : k - 1 < w.length := by omega
      obtain ⟨f, hf⟩ : ∃ f, w[k - 1]? = some f := ⟨_, List.getElem?_eq_getElem k1⟩
      have gd1 : w.getD (k - 1) [] = f := by rw [List.getD_eq_getElem?_getD, hf]; rfl
      rw [gd1]
      have fs := r.sub f (List.mem_of_getElem? hf)
      have fnd := fs.nodup hn
      have et : w.take k = w.take (k - 1) ++ [f] := by
        have : w.take (k - 1 + 1) = w.take (k - 1) ++ [w[k - 1]] := List.take_succ_eq_append_getElem k1
        rw [show k - 1 + 1 = k by omega] at this
        rw [this, (List.getElem?_eq_some_iff.mp hf).2]
      have xf : x ∉ f := fun z => by
        have := lvl_of_mem r.nd hf z
        omega
      have jn : (f ++ [x]).Nodup := by
        rw [List.nodup_append]
        exact ⟨fnd, by simp, fun a ha b hb e => xf (by rw [List.mem_singleton.mp hb] at e; exact e ▸ ha)⟩
      have jin : ∀ y ∈ f ++ [x], y ∈ ns := fun y hy => by
        rcases List.mem_append.mp hy with q | q
        · exact fs.subset q
        · rw [List.mem_singleton.mp q]; exact hx
      generalize hj : ns.filter (fun y => decide (y ∈ f ++ [x])) = j
      have jm : ∀ y, y ∈ j ↔ y ∈ f ∨ y = x := fun y => by
        rw [← hj, List.mem_filter]
        simp only [decide_eq_true_eq, List.mem_append, List.mem_singleton]
        exact ⟨fun q => q.2, fun q => ⟨jin y (by simpa using q), q⟩⟩
      have jp : j.Perm (f ++ [x]) := by
        rw [← hj, ← srt_idx hn jn jin]
        exact srt_perm _
      have fl : (flat (w.take (k - 1) ++ j :: w.drop (k + 1))).Perm (flat w) := by
        rw [fw, et, g1]
        simp only [flat_append, flat_cons, flat_nil, List.append_nil, List.append_assoc]
        refine List.Perm.append_left _ ?_
        have := jp.append_right (flat (w.drop (k + 1)))
        simpa using this
      have nd : (flat (w.take (k - 1) ++ j :: w.drop (k + 1))).Nodup := fl.nodup_iff.mpr r.nd
      have tl : (w.take (k - 1)).length = k - 1 := by rw [List.length_take]; omega
      have lx : lvl (w.take (k - 1) ++ j :: w.drop (k + 1)) x = k - 1 := lvl_of_mem nd (g := j) (by rw [List.getElem?_append_right (by omega), tl, Nat.sub_self]; rfl) ((jm x).mpr (.inr rfl))
      have lv : ∀ y ∈ ns, y ≠ x → lvl (w.take (k - 1) ++ j :: w.drop (k + 1)) y = (if lvl w y < k then lvl w y else lvl w y - 1) ∧ lvl w y ≠ k := fun y hy hyx => by
        obtain ⟨g', h1, h2⟩ := at_ y hy
        have hnk : lvl w y ≠ k := fun z => by
          rw [z, hg] at h1
          cases h1
          rw [g1] at h2
          exact hyx (List.mem_singleton.mp h2)
        refine ⟨?_, hnk⟩
        by_cases c1 : lvl w y < k - 1
        · rw [if_pos (by omega)]
          exact lvl_of_mem nd (g := g') (by rw [List.getElem?_append_left (by omega), List.getElem?_take_of_lt c1]; exact h1) h2
        · by_cases c2 : lvl w y = k - 1
          · rw [if_pos (by omega), c2]
            refine lvl_of_mem nd (g := j) (by rw [List.getElem?_append_right (by omega), tl, Nat.sub_self]; rfl) ((jm y).mpr (.inl ?_))
            rw [c2, hf] at h1
            cases h1
            exact h2
          · rw [if_neg (by omega)]
            refine lvl_of_mem nd (g := g') ?_ h2
            rw [List.getElem?_append_right (by omega), tl]
            rw [show lvl w y - 1 - (k - 1) = (lvl w y - k - 1) + 1 by omega, List.getElem?_cons_succ, List.getElem?_drop, show k + 1 + (lvl w y - k - 1) = lvl w y by omega]
            exact h1
      refine ⟨⟨fun g' hg' => ?_, nd, fun g' hg' => ?_⟩, fun y hy z hz hyx hzx => ?_, fun y hy hyx => ?_, fun h => ?_, fun h => ?_⟩
      · rcases List.mem_append.mp hg' with q | q
        · exact r.ne g' (List.mem_of_mem_take q)
        · rcases List.mem_cons.mp q with q | q
          · subst q
            exact fun z => by
              have := (jm x).mpr (.inr rfl)
              rw [z] at this; cases this
          · exact r.ne g' (List.mem_of_mem_drop q)
      · rcases List.mem_append.mp hg' with q | q
        · exact r.sub g' (List.mem_of_mem_take q)
        · rcases List.mem_cons.mp q with q | q
          · rw [q, ← hj]; exact List.filter_sublist
          · exact r.sub g' (List.mem_of_mem_drop q)
      · obtain ⟨a1, a2⟩ := lv y hy hyx
        obtain ⟨b1, b2⟩ := lv z hz hzx
        rw [a1, b1]
        split <;> split <;> omega
      · obtain ⟨a1, a2⟩ := lv y hy hyx
        rw [a1, lx, hkk]
        split <;> omega
      · obtain ⟨y, l, hy⟩ : ∃ y l, f = y :: l := by
          cases hq : f with
          | nil => exact absurd hq (r.ne f (List.mem_of_getElem? hf))
          | cons y l => exact ⟨y, l, rfl⟩
        have hyf : y ∈ f := by rw [hy]; simp
        have hyx : y ≠ x := fun z => xf (z ▸ hyf)
        have ly := lvl_of_mem r.nd hf hyf
        obtain ⟨a1, _⟩ := lv y (fs.subset hyf) hyx
        refine ⟨y, fs.subset hyf, hyx, .inr ?_⟩
        rw [a1, lx, hkk, ly, if_pos (by omega)]
        exact ⟨rfl, by omega⟩
      · have : lvl w x = 0 := lvl_of_mem r.nd h (by simp)
        omega
  · rw [if_neg he]
    generalize hrest : g.erase x = rest at he ⊢
    have xr : x ∉ rest := by rw [← hrest]; exact fun z => (gnd.mem_erase_iff.mp z).1 rfl
    have rm : ∀ y, y ≠ x → (y ∈ rest ↔ y ∈ g) := fun y hy => by rw [← hrest, gnd.mem_erase_iff]; exact ⟨fun z => z.2, fun z => ⟨hy, z⟩⟩
    have fl : (flat (w.take k ++ [x] :: rest :: w.drop (k + 1))).Perm (flat w) := by
      rw [fw]
      simp only [flat_append, flat_cons]
      refine List.Perm.append_left _ ?_
      have := (List.perm_cons_erase hxg).symm.append_right (flat (w.drop (k + 1)))
      rw [hrest] at this
      simpa using this
    have nd : (flat (w.take k ++ [x] :: rest :: w.drop (k + 1))).Nodup := fl.nodup_iff.mpr r.nd
    have tl : (w.take k).length = k := by rw [List.length_take]; omega
    have lx : lvl (w.take k ++ [x] :: rest :: w.drop (k + 1)) x = k := lvl_of_mem nd (g := [x]) (by rw [List.getElem?_append_right (by omega), tl, Nat.sub_self]; rfl) (by simp)
    have lv : ∀ y ∈ ns, y ≠ x → lvl (w.take k ++ [x] :: rest :: w.drop (k + 1)) y = if lvl w y < k then lvl w y else lvl w y + 1 := fun y hy hyx => by
      obtain ⟨g', h1, h2⟩ := at_ y hy
      by_cases c1 : lvl w y < k
      · rw [if_pos c1]
        exact lvl_of_mem nd (g := g') (by rw [List.getElem?_append_left (by omega), List.getElem?_take_of_lt c1]; exact h1) h2
      · rw [if_neg c1]
        by_cases c2 : lvl w y = k
        · rw [c2]
          refine lvl_of_mem nd (g := rest) (by rw [List.getElem?_append_right (by omega), tl, show k + 1 - k = 1 by omega]; rfl) ((rm y hyx).mpr ?_)
          rw [c2, hg] at h1
          cases h1
          exact h2
        · refine lvl_of_mem nd (g := g') ?_ h2
          rw [List.getElem?_append_right (by omega), tl, show lvl w y + 1 - k = (lvl w y - k - 1) + 1 + 1 by omega, List.getElem?_cons_succ, List.getElem?_cons_succ, List.getElem?_drop, show k + 1 + (lvl w y - k - 1) = lvl w y by omega]
          exact h1
    refine ⟨⟨fun g' hg' => ?_, nd, fun g' hg' => ?_⟩, fun y hy z hz hyx hzx => ?_, fun y hy hyx => ?_, fun h => ?_, fun h => ?_⟩
    · rcases List.mem_append.mp hg' with q | q
      · exact r.ne g' (List.mem_of_mem_take q)
      · rcases List.mem_cons.mp q with q | q
        · rw [q]; simp
        · rcases List.mem_cons.mp q with q | q
          · rw [q]; exact he
          · exact r.ne g' (List.mem_of_mem_drop q)
    · rcases List.mem_append.mp hg' with q | q
      · exact r.sub g' (List.mem_of_mem_take q)
      · rcases List.mem_cons.mp q with q | q
        · rw [q]; exact List.singleton_sublist.mpr hx
        · rcases List.mem_cons.mp q with q | q
          · rw [q, ← hrest]; exact (List.erase_sublist).trans gs
          · exact r.sub g' (List.mem_of_mem_drop q)
    · rw [lv y hy hyx, lv z hz hzx]
      split <;> split <;> omega
    · rw [lv y hy hyx, lx, hkk]
      split <;> omega
    · obtain ⟨y, l, hy⟩ : ∃ y l, rest = y :: l := by
        cases hq : rest with
        | nil => exact absurd hq he
        | cons y l => exact ⟨y, l, rfl⟩
      have hyr : y ∈ rest := by rw [hy]; simp
      have hyx : y ≠ x := fun z => xr (z ▸ hyr)
      have hyg := (rm y hyx).mp hyr
      have ly := lvl_of_mem r.nd hg hyg
      refine ⟨y, gs.subset hyg, hyx, .inl ?_⟩
      rw [lv y (gs.subset hyg) hyx, lx, hkk, ly, if_neg (by omega)]
      exact ⟨by omega, rfl⟩
    · have l0 : lvl w x = 0 := lvl_of_mem r.nd h (by simp)
      rw [hkk] at l0
      rw [l0, h] at hg
      cases hg
      exact absurd (by rw [← hrest]; simp) he
end K05

namespace K05
open PySem PySem.Spec PyProof.Rows L2 J
def sgn (b : Bl) (x y : Str) : Int := (if lvl b x < lvl b y then 1 else 0) - (if lvl b y < lvl b x then 1 else 0)
theorem sign_ok (b : Bl) (x y : Str) (h : PH) : m__law_sign [T tS b, .str x, .str y] h = .ok (.int (sgn b x y)) h := by
  unfold m__law_sign fb__law_sign
  have i1 : ∀ c : Bool, intO1 [.bl c] h = some (.int (if c = true then 1 else 0)) := fun c => by cases c <;> rfl
  simp [prefers_ok, i1, sgn]
def rnm (π : Str → Str) (ns : List Str) (b : Bl) : Bl := b.map fun g => ns.filter fun y => decide (y ∈ g.map π)
theorem renamed_ok {b : Bl} {ns : List Str} (π : Str → Str) (hn : ns.Nodup) (r : Rk b ns) (hp : ∀ x ∈ ns, π x ∈ ns) (hi : ∀ x ∈ ns, ∀ y ∈ ns, π x = π y → x = y) (hl : ns.length ≤ 100) {n : Nat} (h : PH) (ht : h[n]? = some (Di (fun x => .str (π x)) ns)) :
    m_renamed [T tS b, .loc n, T PV.str ns] h = .ok (T tS (rnm π ns b)) h := by
  have ix : ∀ x ∈ ns, ixJ (.loc n) (.str x) h = some (.str (π x)) := fun x hx => ixJ_Di (f := fun x => .str (π x)) ht hx
  have sub : ∀ g ∈ b, ∀ x ∈ g, x ∈ ns := fun g hg x hx => (r.sub g hg).subset hx
  have bl := rk_len2 r
  have bz : b.length ≤ sizeLine := small (by omega)
  unfold m_renamed fb_renamed
  refine def_wp ?_
  simp [wp_toS, wr_bind]
  refine wr_comp (emb := tS) (fun _ => true) (fun g => Li PV.str (g.map π)) rfl (fun g hg => ?_) ?_
  · have gl : g.length ≤ ns.length := (r.sub g hg).length_le
    have gz : g.length ≤ sizeLine := small (by omega)
    simp
    refine eq_wr ?_
    simp [wr_bind]
    refine wr_comp (emb := PV.str) (fun _ => true) (fun x => PV.str (π x)) rfl (fun x hx => by simp [ix x (sub g hg x hx)]) ?_
    simp [gz]
  · simp [bz, wp_toS, wr_bind]
    refine wr_comp (emb := Li PV.str) (fun _ => true) (fun g => tS (ns.filter fun y => decide (y ∈ g))) rfl (fun g' hg' => ?_) ?_
    · obtain ⟨g, hg, rfl⟩ := List.mem_map.mp hg'
      have gn : (g.map π).Nodup := by
        rw [List.Nodup, List.pairwise_map]
        have := (r.sub g hg).nodup hn
        exact List.Pairwise.imp_of_mem (fun {a b} ha hb hab e => hab (hi a (sub g hg a ha) b (sub g hg b hb) e)) this
      have gi : ∀ y ∈ g.map π, y ∈ ns := fun y hy => by
        obtain ⟨x, hx, rfl⟩ := List.mem_map.mp hy
        exact hp x (sub g hg x hx)
      have so := srt_idx hn gn gi
      generalize g.map π = gg at *
      have io : ∀ y ∈ gg, indexO (T PV.str ns) [.str y] h = some (.int (ns.idxOf y : Nat), h) := fun y hy => indexO_T (f := PV.str) y ns h (gi y hy) (by decide)
      simp
      refine eq_wr ?_
      simp [wr_bind]
      refine wr_comp (emb := PV.str) (fun _ => true) (fun y => PV.int (ns.idxOf y : Int)) rfl (fun y hy => by simp [io y hy]) ?_
      simp [so]
    · simp
      unfold rnm
      simp
/-- the exchange as it is drawn -/
def pi (ns row : List Str) (x : Str) : Str := row.getD (ns.idxOf x) ""
theorem pi_at {ns row : List Str} (hn : ns.Nodup) {k : Nat} (hk : k < ns.length) (hr : k < row.length) : pi ns row ns[k] = row[k] := by
  unfold pi
  rw [hn.idxOf_getElem k hk, List.getD_eq_getElem?_getD, List.getElem?_eq_getElem hr]
  rfl
theorem pi_in {ns row : List Str} (hp : row.Perm ns) {x : Str} (hx : x ∈ ns) : pi ns row x ∈ ns := by
  have h1 := List.idxOf_lt_length_iff.mpr hx
  have h2 : ns.idxOf x < row.length := by rw [hp.length_eq]; exact h1
  unfold pi
  rw [List.getD_eq_getElem?_getD, List.getElem?_eq_getElem h2]
  exact hp.mem_iff.mp (List.getElem_mem h2)
theorem pi_inj {ns row : List Str} (hn : ns.Nodup) (hp : row.Perm ns) {x y : Str} (hx : x ∈ ns) (hy : y ∈ ns) (e : pi ns row x = pi ns row y) : x = y := by
  have h1 := List.idxOf_lt_length_iff.mpr hx
  have h2 := List.idxOf_lt_length_iff.mpr hy
  have h3 : ns.idxOf x < row.length := by rw [hp.length_eq]; exact h1
  have h4 : ns.idxOf y < row.length := by rw [hp.length_eq]; exact h2
  unfold pi at e
  rw [List.getD_eq_getElem?_getD, List.getElem?_eq_getElem h3, List.getD_eq_getElem?_getD, List.getElem?_eq_getElem h4] at e
  have := (List.getElem_inj (hp.nodup_iff.mpr hn)).mp e
  rw [← List.getElem_idxOf h1, ← List.getElem_idxOf h2]
  simp only [this]
theorem rnm_facts {b : Bl} {ns : List Str} {π : Str → Str} (hn : ns.Nodup) (r : Rk b ns) (hp : ∀ x ∈ ns, π x ∈ ns) (hi : ∀ x ∈ ns, ∀ y ∈ ns, π x = π y → x = y) : Rk (rnm π ns b) ns ∧ ∀ x ∈ ns, lvl (rnm π ns b) (π x) = lvl b x := by
  have sub : ∀ g ∈ b, ∀ x ∈ g, x ∈ ns := fun g hg x hx => (r.sub g hg).subset hx
  have mem : ∀ g ∈ b, ∀ x ∈ ns, π x ∈ (ns.filter fun y => decide (y ∈ g.map π)) ↔ x ∈ g := fun g hg x hx => by
    rw [List.mem_filter, decide_eq_true_eq, List.mem_map]
    constructor
    · rintro ⟨_, z, hz, e⟩
      exact hi z (sub g hg z hz) x hx e ▸ hz
    · exact fun h => ⟨hp x hx, x, h, rfl⟩
  refine ⟨⟨fun g' hg' => ?_, ?_, fun g' hg' => ?_⟩, fun x hx => ?_⟩
  · obtain ⟨g, hg, rfl⟩ := List.mem_map.mp hg'
    obtain ⟨y, l, hy⟩ : ∃ y l, g = y :: l := by
      cases hq : g with
      | nil => exact absurd hq (r.ne g hg)
      | cons y l => exact ⟨y, l, rfl⟩
    have hyg : y ∈ g := by rw [hy]; simp
    exact fun z => by
      have := (mem g hg y (sub g hg y hyg)).mpr hyg
      rw [z] at this; cases this
  · have e : rnm π ns b = (b.map fun g => g.map π).map fun g => ns.filter fun y => decide (y ∈ g) := by unfold rnm; rw [List.map_map]; rfl
    rw [e]
    refine flat_filter_nodup hn _ ?_
    have : flat (b.map fun g => g.map π) = (flat b).map π := by
      unfold flat
      rw [List.map_flatten]
    rw [this, List.Nodup, List.pairwise_map]
    exact List.Pairwise.imp_of_mem (fun {a b} ha hb hab e => hab (hi a (r.mem ha) b (r.mem hb) e)) r.nd
  · obtain ⟨g, hg, rfl⟩ := List.mem_map.mp hg'
    exact List.filter_sublist
  · have key : ∀ c : Bl, (∀ g ∈ c, g ∈ b) → lvl (rnm π ns c) (π x) = lvl c x := by
      intro c
      induction c with
      | nil => intro _; rfl
      | cons g c ih =>
        intro hc
        have h1 := mem g (hc g List.mem_cons_self) x hx
        have h2 := ih fun g' hg' => hc g' (List.mem_cons_of_mem _ hg')
        show (if π x ∈ (ns.filter fun y => decide (y ∈ g.map π)) then 0 else 1 + lvl (rnm π ns c) (π x)) = if x ∈ g then 0 else 1 + lvl c x
        rw [h2]
        by_cases q : x ∈ g
        · rw [if_pos (h1.mpr q), if_pos q]
        · rw [if_neg (fun z => q (h1.mp z)), if_neg q]
    exact key b fun _ z => z
/-! ### the sum of the steps up -/
def acc (nb b : Bl) (x : Str) (l : List Str) : Int := ((l.filter fun y => !decide (y = x)).map fun y => sgn nb x y - sgn b x y).sum
theorem acc_snoc (nb b : Bl) (x : Str) (l : List Str) (y : Str) : acc nb b x (l ++ [y]) = if y = x then acc nb b x l else acc nb b x l + sgn nb x y - sgn b x y := by
  unfold acc
  rw [List.filter_append, List.map_append, List.sum_append]
  by_cases h : y = x
  · simp [h]
  · simp [h]; omega
theorem acc_nn {nb b : Bl} {x : Str} : ∀ {l : List Str}, (∀ y ∈ l, y ≠ x → sgn b x y ≤ sgn nb x y) → 0 ≤ acc nb b x l
  | [], _ => by simp [acc]
  | y :: l, h => by
    have ih := acc_nn (l := l) fun z hz => h z (List.mem_cons_of_mem _ hz)
    unfold acc at ih ⊢
    rw [List.filter_cons]
    split
    · rename_i q
      have := h y List.mem_cons_self (by simpa using q)
      rw [List.map_cons, List.sum_cons]; omega
    · exact ih
theorem acc_pos {nb b : Bl} {x : Str} : ∀ {l : List Str}, (∀ y ∈ l, y ≠ x → sgn b x y ≤ sgn nb x y) → (∃ y ∈ l, y ≠ x ∧ sgn b x y < sgn nb x y) → 0 < acc nb b x l
  | [], _, h => by obtain ⟨y, hy, _⟩ := h; cases hy
  | y :: l, h, ⟨z, hz, hzx, hlt⟩ => by
    have nn := acc_nn (l := l) fun z hz => h z (List.mem_cons_of_mem _ hz)
    have ih : z ∈ l → 0 < acc nb b x l := fun q => acc_pos (l := l) (fun z hz => h z (List.mem_cons_of_mem _ hz)) ⟨z, q, hzx, hlt⟩
    unfold acc at ih nn ⊢
    rw [List.filter_cons]
    rcases List.mem_cons.mp hz with q | q
    · subst q
      rw [if_pos (by simpa using hzx), List.map_cons, List.sum_cons]; omega
    · split
      · rename_i q2
        have := h y List.mem_cons_self (by simpa using q2)
        have := ih q
        rw [List.map_cons, List.sum_cons]; omega
      · exact ih q
theorem acc_zero {b : Bl} {x : Str} {nb : Bl} : ∀ {l : List Str}, (∀ y ∈ l, sgn nb x y = sgn b x y) → acc nb b x l = 0
  | [], _ => by simp [acc]
  | y :: l, h => by
    have ih := acc_zero (l := l) fun z hz => h z (List.mem_cons_of_mem _ hz)
    unfold acc at ih ⊢
    rw [List.filter_cons]
    split
    · rw [List.map_cons, List.sum_cons, ih, h y List.mem_cons_self]; omega
    · exact ih
end K05

namespace K05
open PySem PySem.Spec PyProof.Rows L2 J
theorem body_ok : BodyOk 11 fb_body := by
  refine bodyOk_of fun a b c => ?_
  obtain ⟨r, d1, hr, hd1, e1⟩ := roll1 (d := di a b c) rfl 5 [] (by decide) (by decide)
  have e1 : m__law_roll [.loc 0, .int 5] [di a b c] = .ok (.int r) [d1] := e1
  generalize hns : NM.take (1 + r) = ns
  have nd : ns.Nodup := hns ▸ names_nd _
  have nl : ns.length ≤ 6 := hns ▸ names_len _
  have nl1 : 1 ≤ ns.length := by
    rw [← hns, List.length_take]
    have : NM.length = 6 := rfl
    omega
  have ni : ∀ x ∈ ns, isNm x = true ∧ x.length ≤ 2 := fun x hx => names_in (n := 1 + r) (hns ▸ hx)
  have en : ∀ h, m__law_names [.int (1 + (r : Int))] h = .ok (T PV.str ns) h := fun h => by
    have := namesT (1 + r) h
    rw [hns] at this
    simpa using this
  have nz : ns.length ≤ sizeLine := small (by omega)
  have nz2 : ns.length < sizeLine := Nat.lt_of_lt_of_le (show ns.length < 7 by omega) (small (by decide))
  have rkT : ∀ b, Rk b ns → ∀ h, m_is_ranking [T tS b, T PV.str ns] h = .ok (.bl true) h := fun b rk h => by
    rw [is_ranking_ok b ns h (small (by have := rk_len rk; omega)) fun x hx => small (by have := (ni x (rk.mem hx)).2; omega), isRk_of nd (fun x hx => (ni x hx).1) rk]
  obtain ⟨bl, d2, rk, _, hd2, e2⟩ := ballot_ok hd1 true ns [] (by simp) nd (by omega)
  have e2 : m__law_ballot [.loc 0, T PV.str ns, .bl true] [d1] = .ok (T tS bl) [d2] := e2
  have wr' := whole_rk nd rk
  have wall : ∀ y ∈ ns, y ∈ flat (whole bl ns) := fun y hy => (whole_mem rk).mpr hy
  have z1 : (flat bl).length ≤ sizeLine := small (by have := rk_len rk; omega)
  have z2 : bl.length + 1 ≤ sizeLine := small (by have := rk_len2 rk; omega)
  unfold fb_body
  refine chk_wp ?_
  simp [e1, en, e2, wp_toS, wr_bind]
  refine wr_roll hd2 (k := ns.length) rfl (by omega) (by omega) fun i d3 hi hd3 => ?_
  have ix := atI_mp PV.str ns i hi
  have hx : ns[i] ∈ ns := List.getElem_mem hi
  generalize ns[i] = x at ix hx
  have ra := raised_ok nd rk hx (by omega)
  have F := rai_facts nd wr' wall hx
  have lw : ∀ y ∈ ns, lvl (whole bl ns) y = lvl bl y := fun y hy => whole_lvl rk hy
  generalize rai (whole bl ns) ns x = nb at ra F
  have s2 : ∀ y ∈ ns, ∀ z ∈ ns, y ≠ x → z ≠ x → sgn nb y z = sgn bl y z := fun y hy z hz hyx hzx => by
    have a1 := F.oth y hy z hz hyx hzx
    have a2 := F.oth z hz y hy hzx hyx
    rw [lw y hy, lw z hz] at a1 a2
    unfold sgn
    simp only [a1, a2]
  have s3 : ∀ y ∈ ns, y ≠ x → sgn bl x y ≤ sgn nb x y := fun y hy hyx => by
    obtain ⟨a1, a2⟩ := F.up y hy hyx
    rw [lw y hy, lw x hx] at a1 a2
    unfold sgn
    by_cases c1 : lvl bl x < lvl bl y
    · have := a1 c1
      simp only [c1, this, if_true]
      rw [if_neg (by omega), if_neg (by omega)]
      omega
    · simp only [c1, if_false]
      by_cases c2 : lvl nb y < lvl nb x
      · have := a2 c2
        simp only [c2, this, if_true]
        rw [if_neg (by omega)]
        omega
      · simp only [c2, if_false]
        split <;> split <;> omega
  simp [ix, ra, rkT nb F.rk]
  refine wp_for (emb := PV.str) (fun pre ρ h => ∃ j7 j8, h = [d3] ∧ ρ = [none, some (.loc 0), some (T PV.str ns), some (T tS bl), some (.str x), some (T tS nb), some (.int (acc nb bl x pre)), j7, j8, none, none, none, none]) ⟨none, none, rfl, by simp [acc]⟩ ?_ ?_
  · rintro pre y post ρ h e ⟨j7, j8, rfl, rfl⟩
    have hy : y ∈ ns := by rw [e]; simp
    simp
    refine wp_pass (emb := PV.str) (fun j : Option PV => [none, some (.loc 0), some (T PV.str ns), some (T tS bl), some (.str x), some (T tS nb), some (.int (acc nb bl x pre)), some (.str y), j, none, none, none, none]) j8 rfl ?_ ?_
    · intro z hz p
      simp [sign_ok]
      intro hyx hzx
      exact s2 y hy z hz hyx hzx
    · intro p
      simp [sign_ok, acc_snoc]
      refine ⟨fun hyx => ⟨s3 y hy hyx, by simp [hyx]⟩, fun hyx => by simp [hyx]⟩
  rintro ρ h ⟨j7, j8, rfl, rfl⟩
  obtain ⟨w0, wl, hw0⟩ : ∃ w0 wl, whole bl ns = w0 :: wl := by
    cases q : whole bl ns with
    | nil =>
      have := wall x hx
      rw [q] at this; cases this
    | cons a l => exact ⟨a, l, rfl⟩
  have ix0 : atI (mp tS (whole bl ns)) 0 = some (tS w0) := by
    have := atI_mp tS (whole bl ns) 0 (by rw [hw0]; simp)
    simpa [hw0] using this
  have hfirst : (decide (0 < acc nb bl x ns) = decide (w0 = [x])) = False := by
    refine eq_false fun z => ?_
    by_cases q : w0 = [x]
    · have e := F.nn (by rw [hw0, q]; rfl)
      have : acc nb bl x ns = 0 := acc_zero fun y hy => by
        unfold sgn
        rw [e, lw y hy, lw x hx]
      simp [q, this] at z
    · obtain ⟨y, hy, hyx, hh⟩ := F.sm (by rw [hw0]; simpa using q)
      have : 0 < acc nb bl x ns := acc_pos s3 ⟨y, hy, hyx, by
        rw [lw y hy, lw x hx] at hh
        unfold sgn
        rcases hh with ⟨h1, h2⟩ | ⟨h1, h2⟩
        · rw [if_neg (by omega), if_neg (by omega), if_pos (by omega), if_neg (by omega)]; omega
        · rw [if_neg (by omega), if_pos (by omega), if_neg (by omega), if_neg (by omega)]; omega⟩
      simp [q, this] at z
  have tx : PV.tup [PV.str x] = tS [x] := rfl
  simp [whole_ok bl ns _ z1 z2, ix0, sl1, tx, hfirst]
  obtain ⟨row, d4, rp, hd4, e4⟩ := mixed_ok (f := PV.str) hd3 (T PV.str ns) ns [.dic false [] []] (fun o ho => by rw [List.mem_singleton.mp ho]; rfl) rfl (fun _ => rfl) (by omega) (by decide)
  have e4 : m__law_mixed [.loc 0, T PV.str ns] [d3, .dic false [] []] = .ok (Li PV.str row) [d4, .dic false [] []] := e4
  have rl := rp.length_eq
  simp [e4, nz]
  refine wp_for (emb := nI) (fun pre ρ h => ∃ jk, h = [d4, Di (fun y => .str (pi ns row y)) (ns.take pre.length)] ∧ ρ = [none, some (.loc 0), some (T PV.str ns), some (T tS bl), some (.str x), some (T tS nb), some (.int (acc nb bl x ns)), j7, j8, some (.bl (decide (w0 = [x]))), some (.loc 1), some (Li PV.str row), jk]) ⟨none, rfl, rfl⟩ ?_ ?_
  · rintro pre k post ρ h e ⟨jk, rfl, rfl⟩
    obtain ⟨hk, hk2⟩ := range_split e
    have i1 := atI_mp PV.str ns k hk2
    have i2 := atI_mp PV.str row k (by omega)
    have sd := setD_new (f := fun y => PV.str (pi ns row y)) (xs := ns.take pre.length) (n := 1) (x := ns[k]) (v := PV.str row[k]) (h := [d4, Di (fun y => .str (pi ns row y)) (ns.take pre.length)]) rfl (by
      intro z
      obtain ⟨j, hj, hj2⟩ := List.mem_take_iff_getElem.mp z
      have := (List.getElem_inj nd).mp hj2
      omega) (by rw [List.length_take]; omega) (by rw [pi_at nd hk2])
    simp [i1, i2, sd]
    subst hk
    rw [List.take_succ_eq_append_getElem hk2]
  rintro ρ h ⟨jk, rfl, rfl⟩
  have pin : ∀ x ∈ ns, pi ns row x ∈ ns := fun x hx => pi_in rp hx
  have pij : ∀ x ∈ ns, ∀ y ∈ ns, pi ns row x = pi ns row y → x = y := fun x hx y hy => pi_inj nd rp hx hy
  obtain ⟨rk2, l2⟩ := rnm_facts nd rk pin pij
  have ht : ∀ d, [d, Di (fun y => .str (pi ns row y)) ns][1]? = some (Di (fun y => .str (pi ns row y)) ns) := fun _ => rfl
  have re := renamed_ok (pi ns row) nd rk pin pij (by omega) (n := 1) _ (ht d4)
  simp [re, rkT _ rk2]
  refine wp_pass (emb := PV.str) (fun j : Option PV => [none, some (.loc 0), some (T PV.str ns), some (T tS bl), some (.str x), some (T tS nb), some (.int (acc nb bl x ns)), j, some (T tS (rnm (pi ns row) ns bl)), some (.bl (decide (w0 = [x]))), some (.loc 1), some (Li PV.str row), jk]) j7 rfl ?_ ?_
  · intro y hy p
    have iy := ixJ_Di (f := fun y => PV.str (pi ns row y)) (ht d4) hy
    simp [iy, level_of_ok, l2 y hy]
  · intro p
    simp [chk, hd4]
theorem law_true : LawTrue m_law := law_of (N := 11) (by decide) body_ok (fun ρ h => ⟨h, rfl⟩)
end K05

open PySem PySem.W PySem.Calls PyProof.Rows
namespace K05
abbrev hk : PySem.W.Hook := He.hookX 4 fa fn [] tf exF
def ob (s : PySem.W.SharedT) : He.AlX := He.obsX 4 fa fn [] tf exF (HandSHeadRun.getT s)
theorem ob_eq (s : PySem.W.SharedT) : ob s = hk.obs s.abs := He.obsX_eq (HandSHeadRun.getT_eq s)
def loose : List PySem.Str := (["SIGNS", "is_name", "are_names", "is_ranking", "in_turn", "ranked", "left_out", "whole_ranking", "level_of", "prefers", "renamed", "raised", "_law_dice", "_law_roll", "_law_rounds", "_law_names", "_law_mixed", "_law_ballot", "_law_strict", "_law_profile", "_law_sign"] : List PySem.Str)
set_option maxHeartbeats 0 in
theorem run (w : World) : HandSHeadRun.RunEq (PySem.W.OpenLaw.row PySem.Challenge.rw_choicehall_k05_names_raised_and_renamed) (PySem.W.view (PySem.W.OpenLaw.row PySem.Challenge.rw_choicehall_k05_names_raised_and_renamed).prog [24]) hk ob 4000 loose w := by
  intro os
  kernel_rfl
end K05
set_option maxHeartbeats 0 in
theorem PySem.Challenge.cw_choicehall_k05_names_raised_and_renamed_holds : PySem.Challenge.rw_choicehall_k05_names_raised_and_renamed.Holds := by
  w_on; o_law
  refine HandSHeadRun.head_any (r := (PySem.W.OpenLaw.row PySem.Challenge.rw_choicehall_k05_names_raised_and_renamed)) (q := view (PySem.W.OpenLaw.row PySem.Challenge.rw_choicehall_k05_names_raised_and_renamed).prog [24]) (H := K05.hk) (ob := K05.ob) (M := 4000) (loose := K05.loose) (d := HandSHeadRun.topDef (PySem.W.OpenLaw.row PySem.Challenge.rw_choicehall_k05_names_raised_and_renamed).prog 24) (kwd := []) K05.ob_eq
    (by kernel_rfl) (fun s => by kernel_rfl) K05.run (by kernel_rfl) (by kernel_rfl) (by kernel_rfl) (by rfl) (by first | assumption | decide +kernel) (by decide +kernel) ⟨rfl, rfl, rfl, rfl, rfl, by decide +kernel⟩ ?hw ?hc
  case hw => w_witness2
  case hc =>
    refine LamX.walk_ofTsE (l := PySem.Challenge.rw_choicehall_k05_names_raised_and_renamed) (n := 63) (k := 6) (x := "script") (CX := fun w => L2.CX (PySem.Challenge.rw_choicehall_k05_names_raised_and_renamed).prog w) rfl (by decide) (by kernel_rfl) ⟨rfl, by decide, by decide⟩ ?F (fun _ _ _ _ _ h => J.cx_never h)
    intro w mg fa h Y G hmg0
    obtain ⟨K, KX, c⟩ := Y
    have hmg : mg ("law" : PySem.Str) = some (.ref fa) := by
      have e : (HandSHeadRun.topDef (PySem.W.OpenLaw.row PySem.Challenge.rw_choicehall_k05_names_raised_and_renamed).prog 24).name = ("law" : PySem.Str) := by kernel_rfl
      rw [← e]
      exact hmg0
    exact ⟨K, KX, K05.facts KX G hmg c K05.law_true⟩
