import PyProof.Rows.All
import Wide.All
import OpenK.AllK
import Wide.FinOn
import HandS.ForExc
import HandS.ForMost
import HandS.Zip
import HandS.Star
import HandS.Wide
import HandS.TupMul
import HandS.TupAny
import HandS.ClsMeth
import HandS.Property
import HandS.Defaults
import HandS.IsInst
import HandS.Style
import HandS.TupLen
import HandS.WordsDict
import HandS.Small
import KE.GoesEnumKw
import HandS.Conv
import KE.SortData
import KE.KDictSum
import HandS.Rev
import HandS.RaiseMore
import PyProof.ReprRoads
import HandS.EndBits
import HandS.WideMore
import PyProof.ListIndex
import PyProof.ListIndexNeg
import HandS.TupLe
import PySem.Challenge.RW_crossnought_k07_ledgers_of_patterns
set_option Elab.async false
set_option linter.all false
set_option maxRecDepth 100000
set_option maxHeartbeats 4000000
/-! DL0: data trees, the store of mutable cells, what a heap bears of them -/
namespace DL
open PySem PySem.Spec PyProof.Rows L2

/-- a value as plain data; ref: a cell of the store -/
inductive D where
  | non | bl (b : Bool) | int (i : Int) | str (x : Str)
  | tup (ds : List D) | lst (ds : List D)
  | dK (kvs : List (Key × D)) | dT (kvs : List (List Key × D))
  | obj (c : Nat) (fs : List D)
  | ref (n : Nat)
  /-- a list that stood before (the script, a list of the module): read alone -/
  | scr (ds : List D)
  /-- a tuple of the module -/
  | wtp (ds : List D)
  /-- a class or a def of the written part; a built-in type -/
  | con (a : Addr) | ty (n : String)
  /-- an error that is being handled, of class c; its field -/
  | err (c : Nat) (d : D)

inductive Cell where
  | lst (ds : List D) | dK (kvs : List (Key × D)) | dT (kvs : List (List Key × D)) | ins (c : Nat) (fs : List D)

abbrev Sto := List (Option Cell)
abbrev Env := List (Option D)

/-- an outcome -/
inductive Res (α : Type) where
  | ok (a : α) (S : Sto)
  | ex (c : Nat) (d : D) (S : Sto)
  | stuck
def Res.bind {α β : Type} (r : Res α) (k : α → Sto → Res β) : Res β :=
  match r with
  | .ok a S => k a S
  | .ex c d S => .ex c d S
  | .stuck => .stuck
@[simp] theorem Res.bind_ok {α β : Type} (a : α) (S : Sto) (k : α → Sto → Res β) : (Res.ok a S).bind k = k a S := rfl
@[simp] theorem Res.bind_ex {α β : Type} (c : Nat) (d : D) (S : Sto) (k : α → Sto → Res β) : (Res.ex c d S).bind k = .ex c d S := rfl
@[simp] theorem Res.bind_stuck {α β : Type} (k : α → Sto → Res β) : (Res.stuck : Res α).bind k = .stuck := rfl

/-- what is fixed for a whole law: the written part, the classes and their fields, the exceptions and their field -/
structure Gx where
  P : Program
  w : World
  K : PySem.W.Frag
  mg : Str → Option Value
  base : Heap
  cls : Nat → Addr
  fns : Nat → List Str
  exc : Nat → Addr
  exf : Nat → Str
  /-- the error that is being handled, and its dict -/
  cur : Option (Addr × Addr)

def WrL (K : PySem.W.Frag) (a : Addr) (xs : List V) : Prop :=
  ∃ (o : Obj) (its : Array Value) (n : Nat), K.lookup a = some o ∧ o.cls = .type "list" ∧ o.dict = none ∧ o.data = .seq its n ∧ its.size ≤ sizeLine ∧ Vals xs its.toList
def WrT (K : PySem.W.Frag) (a : Addr) (xs : List V) : Prop :=
  ∃ (o : Obj) (its : Array Value) (n : Nat), K.lookup a = some o ∧ o.cls = .type "tuple" ∧ o.data = .seq its n ∧ its.size ≤ sizeLine ∧ Vals xs its.toList

/-- where the cells of the store stand; z: what is being built and belongs to no one yet -/
structure Ix where
  l : List Addr
  z : Addr → Prop

section
variable (G : Gx) (ι : Ix) (L : Addr → Prop) (H : Hp)
mutual
inductive Rep : V → D → Prop
  | non : Rep .non .non
  | bl (b : Bool) : Rep (.bl b) (.bl b)
  | int (i : Int) : Rep (.int i) (.int i)
  | str (x : Str) : Rep (.str x) (.str x)
  | tup {a : Addr} {vs : List V} {ds : List D} : H a = some (.tup vs) → ¬ L a → Reps vs ds → Rep (.ref a) (.tup ds)
  | wtp {a : Addr} {vs : List V} {ds : List D} : WrT G.K a vs → Reps vs ds → Rep (.ref a) (.wtp ds)
  | lst {a : Addr} {vs : List V} {ds : List D} : H a = some (.lst vs) → ¬ L a → Reps vs ds → Rep (.ref a) (.lst ds)
  | scr {a : Addr} {vs : List V} {ds : List D} : (Rd H a (.lst vs) ∧ ¬ L a) ∨ WrL G.K a vs → Reps vs ds → Rep (.ref a) (.scr ds)
  | dK {a : Addr} {kvs : List (Key × V)} {kds : List (Key × D)} : H a = some (.dK kvs) → ¬ L a → kvs.map (·.1) = kds.map (·.1) → Reps (kvs.map (·.2)) (kds.map (·.2)) → Rep (.ref a) (.dK kds)
  | dT {a : Addr} {kvs : List (List Key × V)} {kds : List (List Key × D)} : H a = some (.dT kvs) → ¬ L a → kvs.map (·.1) = kds.map (·.1) → Reps (kvs.map (·.2)) (kds.map (·.2)) → Rep (.ref a) (.dT kds)
  | obj {a dx : Addr} {c : Nat} {nfs : List (Str × V)} {fs : List D} : H a = some (.ins (G.cls c) dx nfs) → ¬ L a → nfs.map (·.1) = (G.fns c).take fs.length → Reps (nfs.map (·.2)) fs → Rep (.ref a) (.obj c fs)
  | ref {a : Addr} {n : Nat} : ι.l[n]? = some a → Rep (.ref a) (.ref n)
  | con (a : Addr) : Rep (.ref a) (.con a)
  | ty (n : String) : Rep (.ty n) (.ty n)
  | err {a dx : Addr} {c : Nat} {v : V} {d : D} : G.cur = some (a, dx) → H dx = some (.xd [(G.exf c, v)]) → ¬ L dx → Rep v d → Rep (.ref a) (.err c d)
inductive Reps : List V → List D → Prop
  | nil : Reps [] []
  | cons {v : V} {d : D} {vs : List V} {ds : List D} : Rep v d → Reps vs ds → Reps (v :: vs) (d :: ds)
end
end

/-- the address of a live cell -/
def Liv (ι : Ix) (S : Sto) (a : Addr) : Prop := ∃ (n : Nat) (c : Cell), ι.l[n]? = some a ∧ S[n]? = some (some c)

/-- what a frozen thing is not -/
def Lv (ι : Ix) (S : Sto) (a : Addr) : Prop := Liv ι S a ∨ ι.z a

def CellIs (G : Gx) (ι : Ix) (L : Addr → Prop) (H : Hp) (a : Addr) : Cell → Prop
  | .lst ds => ∃ vs, H a = some (.lst vs) ∧ Reps G ι L H vs ds
  | .dK kds => ∃ kvs, H a = some (.dK kvs) ∧ kvs.map (·.1) = kds.map (·.1) ∧ Reps G ι L H (kvs.map (·.2)) (kds.map (·.2))
  | .dT kds => ∃ kvs, H a = some (.dT kvs) ∧ kvs.map (·.1) = kds.map (·.1) ∧ Reps G ι L H (kvs.map (·.2)) (kds.map (·.2))
  | .ins c fs => ∃ dx nfs, H a = some (.ins (G.cls c) dx nfs) ∧ nfs.map (·.1) = (G.fns c).take fs.length ∧ Reps G ι L H (nfs.map (·.2)) fs

/-- the heap bears the store -/
structure Rel (G : Gx) (ι : Ix) (S : Sto) (H : Hp) : Prop where
  len : ι.l.length = S.length
  nd : ι.l.Nodup
  cell : ∀ (n : Nat) (c : Cell), S[n]? = some (some c) → ∃ a, ι.l[n]? = some a ∧ CellIs G ι (Lv ι S) H a c
  trk : ∀ a ∈ ι.l, ∃ o, H a = some o
  ztr : ∀ a, ι.z a → (∃ o, H a = some o ∧ ∀ xs, o ≠ .tup xs) ∧ a ∉ ι.l

/-- from one state to a later one -/
structure Ext (ι : Ix) (S : Sto) (H : Hp) (ι' : Ix) (S' : Sto) (H' : Hp) : Prop where
  pre : ∃ t, ι'.l = ι.l ++ t
  zs : ∀ a, ι.z a → ι'.z a
  zn : ∀ a, ι'.z a → ι.z a ∨ H a = none
  trk : ∀ a o, H a = some o → ∃ o', H' a = some o'
  liv : ∀ a, Liv ι' S' a → Liv ι S a ∨ H a = none
  keep : ∀ a o, H a = some o → ¬ Liv ι S a → H' a = some o

theorem Ext.refl {ι : Ix} {S : Sto} {H : Hp} : Ext ι S H ι S H := ⟨⟨[], by simp⟩, fun _ h => h, fun _ h => .inl h, fun _ o h => ⟨o, h⟩, fun _ h => .inl h, fun _ _ h _ => h⟩
theorem Ext.trans {ι ι1 ι2 : Ix} {S S1 S2 : Sto} {H H1 H2 : Hp} (a : Ext ι S H ι1 S1 H1) (b : Ext ι1 S1 H1 ι2 S2 H2) : Ext ι S H ι2 S2 H2 := by
  have back : ∀ x, H1 x = none → H x = none := fun x h => by
    cases e : H x with
    | none => rfl
    | some o =>
      obtain ⟨o', q⟩ := a.trk x o e
      rw [h] at q
      cases q
  refine ⟨?_, fun x h => b.zs x (a.zs x h), fun x h => ?_, fun x o h => ?_, fun x h => ?_, fun x o h hl => ?_⟩
  · obtain ⟨t, e⟩ := a.pre
    obtain ⟨u, e2⟩ := b.pre
    exact ⟨t ++ u, by rw [e2, e]; simp⟩
  · rcases b.zn x h with h | h
    · exact a.zn x h
    · exact .inr (back x h)
  · obtain ⟨o1, h1⟩ := a.trk x o h
    exact b.trk x o1 h1
  · rcases b.liv x h with h | h
    · exact a.liv x h
    · exact .inr (back x h)
  · refine b.keep x o (a.keep x o h hl) fun z => ?_
    rcases a.liv x z with z | z
    · exact hl z
    · rw [z] at h
      cases h

section
variable {G : Gx} {ι ι' : Ix} {S S' : Sto} {H H' : Hp}
theorem Ext.idx (e : Ext ι S H ι' S' H') {n : Nat} {a : Addr} (h : ι.l[n]? = some a) : ι'.l[n]? = some a := by
  obtain ⟨t, q⟩ := e.pre
  rw [q, List.getElem?_append_left]
  · exact h
  · exact (List.getElem?_eq_some_iff.mp h).1
theorem Ext.notLv (e : Ext ι S H ι' S' H') {a : Addr} {o : HO} (h : H a = some o) (hl : ¬ Lv ι S a) : ¬ Lv ι' S' a := fun z => by
  rcases z with z | z
  · rcases e.liv a z with z | z
    · exact hl (.inl z)
    · rw [z] at h
      cases h
  · rcases e.zn a z with z | z
    · exact hl (.inr z)
    · rw [z] at h
      cases h
theorem Ext.kp (e : Ext ι S H ι' S' H') {a : Addr} {o : HO} (h : H a = some o) (hl : ¬ Lv ι S a) : H' a = some o := e.keep a o h fun z => hl (.inl z)
theorem Ext.rd (e : Ext ι S H ι' S' H') {a : Addr} {u : HO} (h : Rd H a u) (hl : ¬ Lv ι S a) : Rd H' a u ∧ ¬ Lv ι' S' a := by
  rcases h with h | ⟨o, h⟩
  · exact ⟨.inl (e.kp h hl), e.notLv h hl⟩
  · exact ⟨.inr ⟨o, e.kp h hl⟩, e.notLv h hl⟩
mutual
theorem Rep.mono (e : Ext ι S H ι' S' H') : ∀ {v : V} {d : D}, Rep G ι (Lv ι S) H v d → Rep G ι' (Lv ι' S') H' v d
  | _, _, .non => .non
  | _, _, .bl b => .bl b
  | _, _, .int i => .int i
  | _, _, .str x => .str x
  | _, _, .con a => .con a
  | _, _, .ty n => .ty n
  | _, _, .tup h hl r => .tup (e.kp h hl) (e.notLv h hl) (r.mono e)
  | _, _, .wtp h r => .wtp h (r.mono e)
  | _, _, .lst h hl r => .lst (e.kp h hl) (e.notLv h hl) (r.mono e)
  | _, _, .scr (.inl h) r => .scr (.inl (e.rd h.1 h.2)) (r.mono e)
  | _, _, .scr (.inr h) r => .scr (.inr h) (r.mono e)
  | _, _, .dK h hl k r => .dK (e.kp h hl) (e.notLv h hl) k (r.mono e)
  | _, _, .dT h hl k r => .dT (e.kp h hl) (e.notLv h hl) k (r.mono e)
  | _, _, .obj h hl k r => .obj (e.kp h hl) (e.notLv h hl) k (r.mono e)
  | _, _, .ref h => .ref (e.idx h)
  | _, _, .err h1 h2 hl r => .err h1 (e.kp h2 hl) (e.notLv h2 hl) (r.mono e)
theorem Reps.mono (e : Ext ι S H ι' S' H') : ∀ {vs : List V} {ds : List D}, Reps G ι (Lv ι S) H vs ds → Reps G ι' (Lv ι' S') H' vs ds
  | _, _, .nil => .nil
  | _, _, .cons h r => .cons (h.mono e) (r.mono e)
end
theorem Reps.length {L : Addr → Prop} : ∀ {vs : List V} {ds : List D}, Reps G ι L H vs ds → vs.length = ds.length
  | _, _, .nil => rfl
  | _, _, .cons _ r => congrArg Nat.succ r.length
theorem Reps.get {L : Addr → Prop} : ∀ {vs : List V} {ds : List D} {i : Nat} {d : D}, Reps G ι L H vs ds → ds[i]? = some d → ∃ v, vs[i]? = some v ∧ Rep G ι L H v d
  | _, _, _, _, .nil, e => by simp at e
  | _, _, 0, _, .cons h _, e => by
    simp at e
    subst e
    exact ⟨_, rfl, h⟩
  | _, _, i + 1, _, .cons _ r, e => by
    obtain ⟨v, h1, h2⟩ := Reps.get (i := i) r (by simpa using e)
    exact ⟨v, by simpa using h1, h2⟩
theorem Reps.getV {L : Addr → Prop} : ∀ {vs : List V} {ds : List D} {i : Nat} {v : V}, Reps G ι L H vs ds → vs[i]? = some v → ∃ d, ds[i]? = some d ∧ Rep G ι L H v d
  | _, _, _, _, .nil, e => by simp at e
  | _, _, 0, _, .cons h _, e => by
    simp at e
    subst e
    exact ⟨_, rfl, h⟩
  | _, _, i + 1, _, .cons _ r, e => by
    obtain ⟨v, h1, h2⟩ := Reps.getV (i := i) r (by simpa using e)
    exact ⟨v, by simpa using h1, h2⟩
theorem Reps.app {L : Addr → Prop} : ∀ {vs ws : List V} {ds es : List D}, Reps G ι L H vs ds → Reps G ι L H ws es → Reps G ι L H (vs ++ ws) (ds ++ es)
  | _, _, _, _, .nil, s => s
  | _, _, _, _, .cons h r, s => .cons h (r.app s)
theorem Reps.split {L : Addr → Prop} : ∀ {vs : List V} {ds es : List D}, Reps G ι L H vs (ds ++ es) → ∃ v1 v2, vs = v1 ++ v2 ∧ Reps G ι L H v1 ds ∧ Reps G ι L H v2 es
  | vs, [], _, r => ⟨[], vs, rfl, .nil, r⟩
  | _, _ :: ds, es, .cons h r => by
    obtain ⟨v1, v2, e, r1, r2⟩ := Reps.split (ds := ds) (es := es) r
    exact ⟨_ :: v1, v2, by rw [e]; rfl, .cons h r1, r2⟩
theorem Reps.take {L : Addr → Prop} : ∀ {vs : List V} {ds : List D} (n : Nat), Reps G ι L H vs ds → Reps G ι L H (vs.take n) (ds.take n)
  | _, _, 0, _ => by simp; exact .nil
  | _, _, _ + 1, .nil => by simp; exact .nil
  | _, _, n + 1, .cons h r => .cons h (r.take n)
theorem Reps.drop {L : Addr → Prop} : ∀ {vs : List V} {ds : List D} (n : Nat), Reps G ι L H vs ds → Reps G ι L H (vs.drop n) (ds.drop n)
  | _, _, 0, r => r
  | _, _, _ + 1, .nil => by simp; exact .nil
  | _, _, n + 1, .cons _ r => r.drop n
theorem Reps.set {L : Addr → Prop} {v : V} {d : D} (h : Rep G ι L H v d) : ∀ {vs : List V} {ds : List D} (n : Nat), Reps G ι L H vs ds → Reps G ι L H (vs.set n v) (ds.set n d)
  | _, _, _, .nil => .nil
  | _, _, 0, .cons _ r => .cons h r
  | _, _, n + 1, .cons q r => .cons q (Reps.set h n r)
theorem Reps.rev {L : Addr → Prop} : ∀ {vs : List V} {ds : List D}, Reps G ι L H vs ds → Reps G ι L H vs.reverse ds.reverse
  | _, _, .nil => .nil
  | _, _, .cons h r => by
    rw [List.reverse_cons, List.reverse_cons]
    exact r.rev.app (.cons h .nil)
theorem Reps.repl {L : Addr → Prop} {vs : List V} {ds : List D} (r : Reps G ι L H vs ds) : ∀ n : Nat, Reps G ι L H (List.replicate n vs).flatten (List.replicate n ds).flatten
  | 0 => .nil
  | n + 1 => by
    rw [List.replicate_succ, List.replicate_succ, List.flatten_cons, List.flatten_cons]
    exact r.app (r.repl n)
theorem Reps.len_le {L : Addr → Prop} {vs : List V} {ds : List D} (r : Reps G ι L H vs ds) {n : Nat} (h : ds.length ≤ n) : vs.length ≤ n := by
  rw [r.length]
  exact h
theorem Rel.live_trk (R : Rel G ι S H) {a : Addr} (h : Liv ι S a) : ∃ o, H a = some o := by
  obtain ⟨n, c, h1, _⟩ := h
  exact R.trk a (List.mem_of_getElem? h1)
theorem Rel.freshL (R : Rel G ι S H) {a : Addr} (h : H a = none) : ¬ Lv ι S a := fun z => by
  rcases z with z | z
  · obtain ⟨o, e⟩ := R.live_trk z
    rw [h] at e
    cases e
  · obtain ⟨⟨o, e, _⟩, _⟩ := R.ztr a z
    rw [h] at e
    cases e
theorem CellIs.mono (e : Ext ι S H ι' S' H') {a : Addr} {c : Cell} (h : CellIs G ι (Lv ι S) H a c) (k : H' a = H a) : CellIs G ι' (Lv ι' S') H' a c := by
  cases c with
  | lst ds =>
    obtain ⟨vs, h1, h2⟩ := h
    exact ⟨vs, k.trans h1, h2.mono e⟩
  | dK ds =>
    obtain ⟨vs, h1, h3, h2⟩ := h
    exact ⟨vs, k.trans h1, h3, h2.mono e⟩
  | dT ds =>
    obtain ⟨vs, h1, h3, h2⟩ := h
    exact ⟨vs, k.trans h1, h3, h2.mono e⟩
  | ins c fs =>
    obtain ⟨dx, nfs, h1, h3, h2⟩ := h
    exact ⟨dx, nfs, k.trans h1, h3, h2.mono e⟩

/-! ### the steps of a state -/
/-- objects are laid that the store does not know -/
theorem Ext.same (k : ∀ a o, H a = some o → H' a = some o) : Ext ι S H ι S H' := ⟨⟨[], by simp⟩, fun _ h => h, fun _ h => .inl h, fun a o h => ⟨o, k a o h⟩, fun _ h => .inl h, fun a o h _ => k a o h⟩
theorem Rel.same (R : Rel G ι S H) (k : ∀ a o, H a = some o → H' a = some o) : Rel G ι S H' := by
  refine ⟨R.len, R.nd, fun n c h => ?_, fun a h => ?_, fun a h => ?_⟩
  · obtain ⟨a, h1, h2⟩ := R.cell n c h
    refine ⟨a, h1, h2.mono (Ext.same k) ?_⟩
    obtain ⟨o, e⟩ := R.trk a (List.mem_of_getElem? h1)
    rw [e, k a o e]
  · obtain ⟨o, e⟩ := R.trk a h
    exact ⟨o, k a o e⟩
  · obtain ⟨⟨o, e, n⟩, q⟩ := R.ztr a h
    exact ⟨⟨o, k a _ e, n⟩, q⟩
theorem keepNew {p : Addr} {o : HO} (h : H p = none) : ∀ a u, H a = some u → upd H p o a = some u := fun a u e => by
  rw [upd_ne (ne_of_none e h)]
  exact e
/-- a new live cell -/
abbrev Ix.snoc (ι : Ix) (p : Addr) : Ix := ⟨ι.l ++ [p], ι.z⟩
theorem Ext.new (R : Rel G ι S H) {p : Addr} {o : HO} {c : Cell} (hp : H p = none) : Ext ι S H (ι.snoc p) (S ++ [some c]) (upd H p o) := by
  refine ⟨⟨[p], rfl⟩, fun _ h => h, fun _ h => .inl h, fun a u e => ⟨u, keepNew hp a u e⟩, fun a z => ?_, fun a u e _ => keepNew hp a u e⟩
  obtain ⟨n, c', h1, h2⟩ := z
  have h1 : (ι.l ++ [p])[n]? = some a := h1
  by_cases hlt : n < S.length
  · rw [List.getElem?_append_left hlt] at h2
    rw [List.getElem?_append_left (by rw [R.len]; exact hlt)] at h1
    exact .inl ⟨n, c', h1, h2⟩
  · have hn : n < (S ++ [some c]).length := (List.getElem?_eq_some_iff.mp h2).1
    have e : n = ι.l.length := by
      rw [R.len]
      simp at hn
      omega
    subst e
    simp at h1
    exact .inr (h1 ▸ hp)
theorem Rel.new (R : Rel G ι S H) {p : Addr} {o : HO} {c : Cell} (hp : H p = none) (hc : CellIs G (ι.snoc p) (Lv (ι.snoc p) (S ++ [some c])) (upd H p o) p c) : Rel G (ι.snoc p) (S ++ [some c]) (upd H p o) := by
  have x : Ext ι S H (ι.snoc p) (S ++ [some c]) (upd H p o) := Ext.new R hp
  have hn : p ∉ ι.l := fun z => by
    obtain ⟨o, e⟩ := R.trk p z
    rw [hp] at e
    cases e
  refine ⟨by simp [R.len], ?_, fun n c' h => ?_, fun a ha => ?_, fun a z => ?_⟩
  · show (ι.l ++ [p]).Nodup
    rw [List.nodup_append]
    refine ⟨R.nd, by simp, ?_⟩
    intro a ha b hb z
    simp at hb
    exact hn (by rw [← hb, ← z]; exact ha)
  · by_cases hlt : n < S.length
    · rw [List.getElem?_append_left hlt] at h
      obtain ⟨a, h1, h2⟩ := R.cell n c' h
      refine ⟨a, x.idx h1, h2.mono x ?_⟩
      exact upd_ne fun e => hn (e ▸ List.mem_of_getElem? h1)
    · have hl : n < (S ++ [some c]).length := (List.getElem?_eq_some_iff.mp h).1
      have e : n = S.length := by
        simp at hl
        omega
      subst e
      simp at h
      subst h
      refine ⟨p, ?_, hc⟩
      show (ι.l ++ [p])[S.length]? = some p
      rw [← R.len]
      simp
  · rcases List.mem_append.mp ha with ha | ha
    · obtain ⟨u, e⟩ := R.trk a ha
      exact ⟨u, keepNew hp a u e⟩
    · simp at ha
      rw [ha]
      exact ⟨o, upd_same⟩
  · obtain ⟨⟨u, e, n⟩, q⟩ := R.ztr a z
    refine ⟨⟨u, keepNew hp a _ e, n⟩, fun hm => ?_⟩
    rcases List.mem_append.mp hm with hm | hm
    · exact q hm
    · simp at hm
      rw [hm, hp] at e
      cases e
theorem nodup_eq {α : Type} : ∀ {l : List α} {i j : Nat} {a : α}, l.Nodup → l[i]? = some a → l[j]? = some a → i = j
  | [], _, _, _, _, h, _ => by simp at h
  | x :: l, 0, 0, _, _, _, _ => rfl
  | x :: l, 0, j + 1, a, nd, h, h' => by
    simp at h h'
    exact absurd (h ▸ List.mem_of_getElem? h') (List.nodup_cons.mp nd).1
  | x :: l, i + 1, 0, a, nd, h, h' => by
    simp at h h'
    exact absurd (h' ▸ List.mem_of_getElem? h) (List.nodup_cons.mp nd).1
  | x :: l, i + 1, j + 1, a, nd, h, h' => congrArg Nat.succ (nodup_eq (List.nodup_cons.mp nd).2 (by simpa using h) (by simpa using h'))
/-- a live cell is written -/
theorem liv_set {n : Nat} {c0 c : Cell} (hs : S[n]? = some (some c0)) (a : Addr) : Liv ι (S.set n (some c)) a ↔ Liv ι S a := by
  constructor
  · rintro ⟨m, c', h1, h2⟩
    by_cases e : n = m
    · subst e
      exact ⟨n, c0, h1, hs⟩
    · rw [List.getElem?_set_ne e] at h2
      exact ⟨m, c', h1, h2⟩
  · rintro ⟨m, c', h1, h2⟩
    by_cases e : n = m
    · subst e
      exact ⟨n, c, h1, by rw [List.getElem?_set_self (List.getElem?_eq_some_iff.mp hs).1]⟩
    · exact ⟨m, c', h1, by rw [List.getElem?_set_ne e]; exact h2⟩
theorem Ext.write {n : Nat} {a : Addr} {c0 c : Cell} {o : HO} (hn : ι.l[n]? = some a) (hs : S[n]? = some (some c0)) : Ext ι S H ι (S.set n (some c)) (upd H a o) := by
  refine ⟨⟨[], by simp⟩, fun _ h => h, fun _ h => .inl h, fun b u e => ?_, fun b z => .inl ((liv_set hs b).mp z), fun b u e hl => ?_⟩
  · by_cases q : b = a
    · exact ⟨o, by rw [q]; exact upd_same⟩
    · exact ⟨u, by rw [upd_ne q]; exact e⟩
  rw [upd_ne]
  · exact e
  · rintro rfl
    exact hl ⟨n, c0, hn, hs⟩
theorem Rel.write (R : Rel G ι S H) {n : Nat} {a : Addr} {c0 c : Cell} {o : HO} (hn : ι.l[n]? = some a) (hs : S[n]? = some (some c0)) (hc : CellIs G ι (Lv ι (S.set n (some c))) (upd H a o) a c) : Rel G ι (S.set n (some c)) (upd H a o) := by
  have x : Ext ι S H ι (S.set n (some c)) (upd H a o) := Ext.write hn hs
  refine ⟨by simp [R.len], R.nd, fun m c' h => ?_, fun b hb => ?_, fun b z => ?_⟩
  · by_cases e : n = m
    · subst e
      rw [List.getElem?_set_self (List.getElem?_eq_some_iff.mp hs).1] at h
      cases h
      exact ⟨a, hn, hc⟩
    · rw [List.getElem?_set_ne e] at h
      obtain ⟨b, h1, h2⟩ := R.cell m c' h
      refine ⟨b, h1, h2.mono x (upd_ne fun z => e ?_)⟩
      subst z
      exact nodup_eq R.nd hn h1
  · by_cases e : b = a
    · subst e
      exact ⟨o, upd_same⟩
    · obtain ⟨u, q⟩ := R.trk b hb
      exact ⟨u, by rw [upd_ne e]; exact q⟩
  · obtain ⟨⟨u, q, n⟩, r⟩ := R.ztr b z
    refine ⟨⟨u, ?_, n⟩, r⟩
    rw [upd_ne]
    · exact q
    · rintro rfl
      exact r (List.mem_of_getElem? hn)
/-- a live cell is frozen: it will not change any more -/
theorem liv_kill {n : Nat} {a : Addr} (h : Liv ι (S.set n none) a) : Liv ι S a := by
  obtain ⟨m, c', h1, h2⟩ := h
  by_cases e : n = m
  · subst e
    rw [List.getElem?_set] at h2
    simp at h2
  · rw [List.getElem?_set_ne e] at h2
    exact ⟨m, c', h1, h2⟩
theorem Ext.kill {n : Nat} : Ext ι S H ι (S.set n none) H := ⟨⟨[], by simp⟩, fun _ h => h, fun _ h => .inl h, fun _ o h => ⟨o, h⟩, fun _ z => .inl (liv_kill z), fun _ _ e _ => e⟩
theorem Rel.kill (R : Rel G ι S H) {n : Nat} : Rel G ι (S.set n none) H := by
  have x : Ext ι S H ι (S.set n none) H := Ext.kill
  refine ⟨by simp [R.len], R.nd, fun m c' h => ?_, R.trk, R.ztr⟩
  by_cases e : n = m
  · subst e
    rw [List.getElem?_set] at h
    simp at h
  · rw [List.getElem?_set_ne e] at h
    obtain ⟨b, h1, h2⟩ := R.cell m c' h
    exact ⟨b, h1, h2.mono x rfl⟩
theorem Rel.killed (R : Rel G ι S H) {n : Nat} {a : Addr} (hn : ι.l[n]? = some a) : ¬ Lv ι (S.set n none) a := by
  rintro (z | z)
  · obtain ⟨m, c', h1, h2⟩ := z
    have e : n = m := nodup_eq R.nd hn h1
    subst e
    rw [List.getElem?_set] at h2
    simp at h2
  · exact (R.ztr a z).2 (List.mem_of_getElem? hn)
/-- something is being built at p -/
abbrev Ix.hide (ι : Ix) (p : Addr) : Ix := ⟨ι.l, fun a => ι.z a ∨ a = p⟩
mutual
theorem Rep.weak {L L' : Addr → Prop} (h : ∀ a, L' a → L a) (hl : ι'.l = ι.l) : ∀ {v : V} {d : D}, Rep G ι L H v d → Rep G ι' L' H v d
  | _, _, .non => .non
  | _, _, .bl b => .bl b
  | _, _, .int i => .int i
  | _, _, .str x => .str x
  | _, _, .con a => .con a
  | _, _, .ty n => .ty n
  | _, _, .tup q k r => .tup q (fun z => k (h _ z)) (r.weak h hl)
  | _, _, .wtp q r => .wtp q (r.weak h hl)
  | _, _, .lst q k r => .lst q (fun z => k (h _ z)) (r.weak h hl)
  | _, _, .scr (.inl q) r => .scr (.inl ⟨q.1, fun z => q.2 (h _ z)⟩) (r.weak h hl)
  | _, _, .scr (.inr q) r => .scr (.inr q) (r.weak h hl)
  | _, _, .dK q k e r => .dK q (fun z => k (h _ z)) e (r.weak h hl)
  | _, _, .dT q k e r => .dT q (fun z => k (h _ z)) e (r.weak h hl)
  | _, _, .obj q k e r => .obj q (fun z => k (h _ z)) e (r.weak h hl)
  | _, _, .ref q => .ref (by rw [hl]; exact q)
  | _, _, .err q1 q2 k r => .err q1 q2 (fun z => k (h _ z)) (r.weak h hl)
theorem Reps.weak {L L' : Addr → Prop} (h : ∀ a, L' a → L a) (hl : ι'.l = ι.l) : ∀ {vs : List V} {ds : List D}, Reps G ι L H vs ds → Reps G ι' L' H vs ds
  | _, _, .nil => .nil
  | _, _, .cons q r => .cons (q.weak h hl) (r.weak h hl)
end
end
end DL

set_option Elab.async false
set_option linter.all false
set_option maxRecDepth 100000
set_option maxHeartbeats 4000000
/-! DL1: what a reading computes, as a function of slots and store; the judgements and the plain rules -/
namespace DL
open PySem PySem.Spec PyProof.Rows L2

abbrev ECode := Env → Sto → Res D
abbrev TCode := Env → Sto → Res Bool
abbrev ACode := Env → Sto → Res (List D)
inductive Flo where
  | nx (ρ : Env) | rt (d : D) | bk (ρ : Env) | ct (ρ : Env)
abbrev SCode := Env → Sto → Res Flo

section
variable (G : Gx) (E : XK) (ι : Ix) (S : Sto) (H : Hp)
/-- what is wanted behind -/
def Post {α : Type} (P : α → Ix → Sto → Hp → Prop) : Res α → Prop
  | .ok a S' => ∀ ι' H', Ext ι S H ι' S' H' → Rel G ι' S' H' → P a ι' S' H'
  | .ex c d S' => ∀ ι' H' dd v, Ext ι S H ι' S' H' → Rel G ι' S' H' → H' dd = some (.xd [(G.exf c, v)]) → Rep G ι' (Lv ι' S') H' v d → E (.ref (G.exc c)) (some dd) H'
  | .stuck => False
/-- the slots bear the environment -/
structure REnv (σ : L2.St) (ρ : Env) : Prop where
  len : σ.length = ρ.length
  at_ : ∀ (i : Nat) (d : D), ρ[i]? = some (some d) → ∃ v, σ[i]? = some (some v) ∧ Rep G ι (Lv ι S) H v d
end
def PV (G : Gx) (Q : VK) : D → Ix → Sto → Hp → Prop := fun d ι S H => ∀ v, Rep G ι (Lv ι S) H v d → Q v H
def PVs (G : Gx) (Q : List V → Hp → Prop) : List D → Ix → Sto → Hp → Prop := fun ds ι S H => ∀ vs, Reps G ι (Lv ι S) H vs ds → Q vs H
def PB (Q : Bool → Hp → Prop) : Bool → Ix → Sto → Hp → Prop := fun b _ _ H => Q b H
def PF (G : Gx) (Dn : Ends) : Flo → Ix → Sto → Hp → Prop
  | .nx ρ, ι, S, H => ∀ σ, REnv G ι S H σ ρ → Dn.nx σ H
  | .rt d, ι, S, H => ∀ v, Rep G ι (Lv ι S) H v d → Dn.rt v H
  | .bk ρ, ι, S, H => ∀ σ, REnv G ι S H σ ρ → Dn.bk σ H
  | .ct ρ, ι, S, H => ∀ σ, REnv G ι S H σ ρ → Dn.ct σ H

section
variable {G : Gx} {E : XK} {ι ι' ι1 : Ix} {S S' S1 : Sto} {H H' H1 : Hp} {σ : L2.St} {ρ : Env}
theorem REnv.mono (e : Ext ι S H ι' S' H') (h : REnv G ι S H σ ρ) : REnv G ι' S' H' σ ρ := ⟨h.len, fun i d q => by
  obtain ⟨v, h1, h2⟩ := h.at_ i d q
  exact ⟨v, h1, h2.mono e⟩⟩
theorem REnv.set {v : V} {d : D} (h : REnv G ι S H σ ρ) (r : Rep G ι (Lv ι S) H v d) (i : Nat) : REnv G ι S H (σ.set i (some v)) (ρ.set i (some d)) := by
  refine ⟨by simp [h.len], fun j e q => ?_⟩
  rw [List.getElem?_set] at q ⊢
  by_cases hi : i = j
  · subst hi
    rw [if_pos rfl] at q ⊢
    by_cases hl : i < ρ.length
    · rw [if_pos hl] at q
      cases q
      rw [if_pos (by rw [h.len]; exact hl)]
      exact ⟨v, rfl, r⟩
    · rw [if_neg hl] at q
      cases q
  · rw [if_neg hi] at q ⊢
    exact h.at_ j e q
theorem Post.back {α : Type} {P : α → Ix → Sto → Hp → Prop} (x : Ext ι S H ι1 S1 H1) {r : Res α} (p : Post G E ι S H P r) : Post G E ι1 S1 H1 P r := by
  cases r with
  | ok a S2 => exact fun ι2 H2 y R => p ι2 H2 (x.trans y) R
  | ex c d S2 => exact fun ι2 H2 dd v y R => p ι2 H2 dd v (x.trans y) R
  | stuck => exact p
theorem Post.imp {α : Type} {P P' : α → Ix → Sto → Hp → Prop} {r : Res α} (p : Post G E ι S H P r) (h : ∀ a S' ι' H', Ext ι S H ι' S' H' → Rel G ι' S' H' → P a ι' S' H' → P' a ι' S' H') : Post G E ι S H P' r := by
  cases r with
  | ok a S2 => exact fun ι2 H2 y R => h a S2 ι2 H2 y R (p ι2 H2 y R)
  | ex c d S2 => exact p
  | stuck => exact p
/-- one thing behind another -/
theorem Post.bind {α β : Type} {P : α → Ix → Sto → Hp → Prop} {P' : β → Ix → Sto → Hp → Prop} {r : Res α} {k : α → Sto → Res β} (p : Post G E ι S H P' (r.bind k))
    (hk : ∀ a S1 ι1 H1, Ext ι S H ι1 S1 H1 → Rel G ι1 S1 H1 → Post G E ι1 S1 H1 P' (k a S1) → P a ι1 S1 H1) : Post G E ι S H P r := by
  cases r with
  | ok a S2 => exact fun ι2 H2 y R => hk a S2 ι2 H2 y R (Post.back y p)
  | ex c d S2 => exact p
  | stuck => exact p
theorem Post.here {α : Type} {P : α → Ix → Sto → Hp → Prop} {a : α} (R : Rel G ι S H) (p : Post G E ι S H P (.ok a S)) : P a ι S H := p ι H Ext.refl R
end

/-! ### what a reading computes -/
abbrev WK := L2.St → XK
def Snd (G : Gx) (E : WK) (t : TE) (c : ECode) : Prop := ∀ ι S H σ ρ Q, Rel G ι S H → REnv G ι S H σ ρ → Post G (E σ) ι S H (PV G Q) (c ρ S) → t σ H Q
def SndT (G : Gx) (E : WK) (t : TT) (c : TCode) : Prop := ∀ ι S H σ ρ Q, Rel G ι S H → REnv G ι S H σ ρ → Post G (E σ) ι S H (PB Q) (c ρ S) → t σ H Q
def SndA (G : Gx) (E : WK) (t : TA) (c : ACode) : Prop := ∀ ι S H σ ρ Q, Rel G ι S H → REnv G ι S H σ ρ → Post G (E σ) ι S H (PVs G Q) (c ρ S) → t σ H Q
def SndS (G : Gx) (E : WK) (t : TS) (c : SCode) : Prop := ∀ ι S H σ ρ Dn, Rel G ι S H → REnv G ι S H σ ρ → Post G (E σ) ι S H (PF G Dn) (c ρ S) → t Dn σ H
section
variable {G : Gx} {E : WK} {ι : Ix} {S : Sto} {H : Hp} {σ : L2.St} {ρ : Env}
theorem Snd.go {t : TE} {c : ECode} (h : Snd G E t c) (R : Rel G ι S H) (e : REnv G ι S H σ ρ) {β : Type} {k : D → Sto → Res β} {P : β → Ix → Sto → Hp → Prop} {Q : VK} (p : Post G (E σ) ι S H P ((c ρ S).bind k))
    (hk : ∀ d S1 ι1 H1 v, Ext ι S H ι1 S1 H1 → Rel G ι1 S1 H1 → REnv G ι1 S1 H1 σ ρ → Rep G ι1 (Lv ι1 S1) H1 v d → Post G (E σ) ι1 S1 H1 P (k d S1) → Q v H1) : t σ H Q :=
  h ι S H σ ρ Q R e (Post.bind p fun d S1 ι1 H1 x R1 q v r => hk d S1 ι1 H1 v x R1 (e.mono x) r q)
theorem SndT.go {t : TT} {c : TCode} (h : SndT G E t c) (R : Rel G ι S H) (e : REnv G ι S H σ ρ) {β : Type} {k : Bool → Sto → Res β} {P : β → Ix → Sto → Hp → Prop} {Q : Bool → Hp → Prop} (p : Post G (E σ) ι S H P ((c ρ S).bind k))
    (hk : ∀ b S1 ι1 H1, Ext ι S H ι1 S1 H1 → Rel G ι1 S1 H1 → REnv G ι1 S1 H1 σ ρ → Post G (E σ) ι1 S1 H1 P (k b S1) → Q b H1) : t σ H Q :=
  h ι S H σ ρ Q R e (Post.bind p fun b S1 ι1 H1 x R1 q => hk b S1 ι1 H1 x R1 (e.mono x) q)
theorem SndA.go {t : TA} {c : ACode} (h : SndA G E t c) (R : Rel G ι S H) (e : REnv G ι S H σ ρ) {β : Type} {k : List D → Sto → Res β} {P : β → Ix → Sto → Hp → Prop} {Q : List V → Hp → Prop} (p : Post G (E σ) ι S H P ((c ρ S).bind k))
    (hk : ∀ ds S1 ι1 H1 vs, Ext ι S H ι1 S1 H1 → Rel G ι1 S1 H1 → REnv G ι1 S1 H1 σ ρ → Reps G ι1 (Lv ι1 S1) H1 vs ds → Post G (E σ) ι1 S1 H1 P (k ds S1) → Q vs H1) : t σ H Q :=
  h ι S H σ ρ Q R e (Post.bind p fun ds S1 ι1 H1 x R1 q vs r => hk ds S1 ι1 H1 vs x R1 (e.mono x) r q)
end

/-! ### the judgements, over a family of contexts -/
structure FamH {I : Type} (Xs : I → Cx) (G : Gx) (E : WK) : Prop where
  P : ∀ i, (Xs i).prog = G.P
  w : ∀ i, (Xs i).w = G.w
  K : ∀ i, (Xs i).K = G.K
  mg : ∀ i, (Xs i).mg = G.mg
  base : ∀ i, (Xs i).base = G.base
  nd : ∀ i, (Xs i).N.Nodup
  gd : ∀ i, (Xs i).A.guards = some []
  u64 : ∀ i, (Xs i).A.units + 64 < cLine
  take : ∀ i, Takes (Xs i) fun cls d σ H => E σ cls d H
structure Fam {I : Type} (Xs : I → Cx) (G : Gx) (E : WK) (kk : Nat) : Prop extends FamH Xs G E where
  calm : ∀ i, (Xs i).calm = true
  room : ∀ i, Room kk (Xs i).A
instance {I : Type} {Xs : I → Cx} {G : Gx} {E : WK} {kk : Nat} : CoeOut (Fam Xs G E kk) (FamH Xs G E) := ⟨Fam.toFamH⟩
theorem FamH.hu {I : Type} {Xs : I → Cx} {G : Gx} {E : WK} (F : FamH Xs G E) (j : I) : (Xs j).A.units + 1 < cLine := by have := F.u64 j; omega
theorem FamH.hu64 {I : Type} {Xs : I → Cx} {G : Gx} {E : WK} (F : FamH Xs G E) (j : I) : (Xs j).A.units + 64 < cLine := F.u64 j
theorem Fam.pass {I : Type} {Xs : I → Cx} {G : Gx} {E : WK} {kk : Nat} (F : Fam Xs G E kk) : ∀ i pins σ H s e s', Inv (Xs i) pins σ H s → L2.CX (Xs i).prog (Xs i).w (Xs i).stack H s (E σ) e s' → (Xs i).xe e s' :=
  fun i pins σ H s e s' I c => F.take i e s' (XE.of_call I (fun cls d H' h => h) c)
section
variable {I : Type} (Xs : I → Cx) (G : Gx) (E : WK)
def DE (e : Expr) (c : ECode) : Prop := ∃ t, (∀ i, PE (Xs i) e t) ∧ Snd G E t c
def DT (e : Expr) (c : TCode) : Prop := ∃ t, (∀ i, PT (Xs i) e t) ∧ SndT G E t c
def DW (e : Expr) (c : TCode) : Prop := ∃ t, (∀ i, PW (Xs i) e t) ∧ SndT G E t c
def DA (es : List Expr) (c : ACode) : Prop := ∃ t, (∀ i, PA (Xs i) es t) ∧ SndA G E t c
def DKw (ks : List Keyword) (c : ACode) : Prop := ∃ t, (∀ i, PK (Xs i) ks t) ∧ SndA G E t c
def DS (st : Stmt) (c : SCode) : Prop := ∃ t, (∀ i, PS (Xs i) st t) ∧ SndS G E t c
def DSs (st : List Stmt) (c : SCode) : Prop := ∃ t, (∀ i, PSs (Xs i) st t) ∧ SndS G E t c
end

/-! ### names and constants -/
def c_var (i : Nat) : ECode := fun ρ S => match ρ[i]? with
  | some (some d) => .ok d S
  | _ => .stuck
def c_d (d : D) : ECode := fun _ S => .ok d S
section
variable {I : Type} {Xs : I → Cx} {G : Gx} {E : WK}
theorem de_var {i : Nat} {x : Str} {pos : Pos} (hN : ∀ j, (Xs j).N[i]? = some x) (hv : ∀ j, Vis (Xs j).env.scope x) (hd : (x == ("__debug__" : Str)) = false) (hcd : (x == ("__classdict__" : Str)) = false) : DE Xs G E (.Name x pos) (c_var i) := by
  refine ⟨tVar i, fun j => pe_var (hN j) (hv j) hd hcd, fun ι S H σ ρ Q R e p => ?_⟩
  unfold c_var at p
  split at p
  · rename_i d hd
    obtain ⟨v, h1, h2⟩ := e.at_ i d hd
    exact ⟨v, h1, Post.here R p v h2⟩
  · exact p.elim
theorem snd_c {v : V} {d : D} (h : ∀ ι L H, Rep G ι L H v d) : Snd G E (tC v) (c_d d) := fun ι S H σ ρ Q R e p => Post.here R p v (h _ _ _)
theorem de_int {i j pos} : DE Xs G E (.Constant (.int i) j pos) (c_d (.int i)) := ⟨_, fun _ => pe_int, snd_c fun _ _ _ => .int i⟩
theorem de_bl {b j pos} : DE Xs G E (.Constant (.bool b) j pos) (c_d (.bl b)) := ⟨_, fun _ => pe_bl, snd_c fun _ _ _ => .bl b⟩
theorem de_non {j pos} : DE Xs G E (.Constant .none j pos) (c_d .non) := ⟨_, fun _ => pe_non, snd_c fun _ _ _ => .non⟩
theorem de_str {x j pos} : DE Xs G E (.Constant (.str x) j pos) (c_d (.str x)) := ⟨_, fun _ => pe_str, snd_c fun _ _ _ => .str x⟩
/-- a constant of the module -/
theorem de_glob (F : FamH Xs G E) {x : Str} {v : V} {u : Value} {d : D} {pos : Pos} (hg : ∀ j, Gl (Xs j) x) (hm : G.mg x = some u) (r : RelV v u) (h : ∀ ι L H, Rep G ι L H v d) (hd : (x == ("__debug__" : Str)) = false) : DE Xs G E (.Name x pos) (c_d d) :=
  ⟨_, fun j => pe_glob (hg j) (by rw [F.mg j]; exact hm) r hd, snd_c h⟩

/-! ### operators by values -/
/-- a two-place operation on values computes p -/
def SndR (G : Gx) (r : R2) (p : D → D → Sto → Res D) : Prop := ∀ E ι S H x y dx dy Q, Rel G ι S H → Rep G ι (Lv ι S) H x dx → Rep G ι (Lv ι S) H y dy → Post G E ι S H (PV G Q) (p dx dy S) → r x y H Q
def SndU (G : Gx) (r : V → Hp → VK → Prop) (p : D → Sto → Res D) : Prop := ∀ E ι S H x dx Q, Rel G ι S H → Rep G ι (Lv ι S) H x dx → Post G E ι S H (PV G Q) (p dx S) → r x H Q
/-- a call on values -/
def SndC (G : Gx) (r : List V → Hp → VK → Prop) (p : List D → Sto → Res D) : Prop := ∀ E ι S H xs ds Q, Rel G ι S H → Reps G ι (Lv ι S) H xs ds → Post G E ι S H (PV G Q) (p ds S) → r xs H Q
/-- a method of a built-in type -/
def SndM (G : Gx) (r : V → List V → Hp → VK → Prop) (p : D → List D → Sto → Res D) : Prop := ∀ E ι S H x xs dx ds Q, Rel G ι S H → Rep G ι (Lv ι S) H x dx → Reps G ι (Lv ι S) H xs ds → Post G E ι S H (PV G Q) (p dx ds S) → r x xs H Q
def c_op (p : D → D → Sto → Res D) (a b : ECode) : ECode := fun ρ S => (a ρ S).bind fun x S1 => (b ρ S1).bind fun y S2 => p x y S2
def c_un (p : D → Sto → Res D) (a : ECode) : ECode := fun ρ S => (a ρ S).bind fun x S1 => p x S1
theorem snd_op {r : R2} {p : D → D → Sto → Res D} {ta tb : TE} {a b : ECode} (hr : SndR G r p) (ha : Snd G E ta a) (hb : Snd G E tb b) : Snd G E (tOp r ta tb) (c_op p a b) := fun ι S H σ ρ Q R e q => by
  refine ha.go R e q fun d S1 ι1 H1 v x1 R1 e1 r1 q1 => ?_
  refine hb.go R1 e1 q1 fun d2 S2 ι2 H2 v2 x2 R2 e2 r2 q2 => ?_
  exact hr (E σ) ι2 S2 H2 v v2 d d2 Q R2 (r1.mono x2) r2 q2
theorem snd_un {r : V → Hp → VK → Prop} {p : D → Sto → Res D} {ta : TE} {a : ECode} (hr : SndU G r p) (ha : Snd G E ta a) : Snd G E (tUn r ta) (c_un p a) := fun ι S H σ ρ Q R e q => by
  refine ha.go R e q fun d S1 ι1 H1 v x1 R1 e1 r1 q1 => ?_
  exact hr (E σ) ι1 S1 H1 v d Q R1 r1 q1
theorem de_op {op : Operator} {r : R2} {p : D → D → Sto → Res D} {x y : Expr} {pos : Pos} {a b : ECode} (ho : ∀ j, OpR (Xs j) (binaryOp op) r) (hr : SndR G r p) (ha : DE Xs G E x a) (hb : DE Xs G E y b) : DE Xs G E (.BinOp x op y pos) (c_op p a b) := by
  obtain ⟨ta, pa, sa⟩ := ha
  obtain ⟨tb, pb, sb⟩ := hb
  exact ⟨_, fun j => pe_op (ho j) (pa j) (pb j), snd_op hr sa sb⟩
theorem de_un {op : UnaryOp} {r : V → Hp → VK → Prop} {p : D → Sto → Res D} {x : Expr} {pos : Pos} {a : ECode} (ho : ∀ j, UnR (Xs j) (unaryOp op) r) (hr : SndU G r p) (ha : DE Xs G E x a) : DE Xs G E (.UnaryOp op x pos) (c_un p a) := by
  obtain ⟨ta, pa, sa⟩ := ha
  exact ⟨_, fun j => pe_un (ho j) (pa j), snd_un hr sa⟩
theorem de_cmp {op : CmpOp} {r : R2} {p : D → D → Sto → Res D} {x y : Expr} {pos : Pos} {a b : ECode} (ho : ∀ j, OpR (Xs j) (compareOp op) r) (hr : SndR G r p) (ha : DE Xs G E x a) (hb : DE Xs G E y b) (hm : behindInMarks op y = false) :
    DE Xs G E (.Compare x [op] [y] pos) (c_op p a b) := by
  obtain ⟨ta, pa, sa⟩ := ha
  obtain ⟨tb, pb, sb⟩ := hb
  exact ⟨_, fun j => pe_cmpR (ho j) (pa j) (pb j) hm, snd_op hr sa sb⟩
/-- the truth of a bool -/
def asB : D → Sto → Res Bool
  | .bl b, S => .ok b S
  | _, _ => .stuck
def c_test (a : ECode) : TCode := fun ρ S => (a ρ S).bind asB
theorem Rep.bl_of {ι : Ix} {L : Addr → Prop} {H : Hp} {v : V} {b : Bool} (r : Rep G ι L H v (.bl b)) : v = .bl b := by
  cases r
  rfl
theorem Rep.int_of {ι : Ix} {L : Addr → Prop} {H : Hp} {v : V} {b : Int} (r : Rep G ι L H v (.int b)) : v = .int b := by
  cases r
  rfl
theorem Rep.str_of {ι : Ix} {L : Addr → Prop} {H : Hp} {v : V} {b : Str} (r : Rep G ι L H v (.str b)) : v = .str b := by
  cases r
  rfl
theorem Rep.non_of {ι : Ix} {L : Addr → Prop} {H : Hp} {v : V} (r : Rep G ι L H v .non) : v = .non := by
  cases r
  rfl
theorem snd_test {t : TE} {a : ECode} (ha : Snd G E t a) : SndT G E (fun σ H Q => t σ H fun x H1 => ∃ k, x = .bl k ∧ Q k H1) (c_test a) := fun ι S H σ ρ Q R e q => by
  refine ha.go R e q fun d S1 ι1 H1 v x1 R1 e1 r1 q1 => ?_
  cases d with
  | bl b => exact ⟨b, r1.bl_of, Post.here R1 q1⟩
  | _ => exact q1.elim
theorem dt_cmp {op : CmpOp} {r : R2} {p : D → D → Sto → Res D} {x y : Expr} {pos : Pos} {a b : ECode} (ho : ∀ j, OpR (Xs j) (compareOp op) r) (hr : SndR G r p) (ha : DE Xs G E x a) (hb : DE Xs G E y b) (hm : behindInMarks op y = false) :
    DT Xs G E (.Compare x [op] [y] pos) (c_test (c_op p a b)) := by
  obtain ⟨ta, pa, sa⟩ := ha
  obtain ⟨tb, pb, sb⟩ := hb
  exact ⟨_, fun j => pt_cmpR (ho j) (pa j) (pb j) hm, snd_test (snd_op hr sa sb)⟩
/-- an expression that gives a bool -/
theorem dt_val {x : Expr} {a : ECode} (ha : DE Xs G E x a) (he : ∀ j whole, isTrue x (Xs j).env whole = (do let v ← whole; standAt x.pos; holding [v] (truthy v))) : DT Xs G E x (c_test a) := by
  obtain ⟨ta, pa, sa⟩ := ha
  exact ⟨_, fun j => pt_val (pa j) (he j), snd_test sa⟩
/-! ### and, or, not, if -/
def c_and (a b : TCode) : TCode := fun ρ S => (a ρ S).bind fun c S1 => if c = true then b ρ S1 else .ok false S1
def c_or (a b : TCode) : TCode := fun ρ S => (a ρ S).bind fun c S1 => if c = true then .ok true S1 else b ρ S1
def c_not (a : TCode) : TCode := fun ρ S => (a ρ S).bind fun c S1 => .ok (!c) S1
def c_if (c : TCode) (a b : ECode) : ECode := fun ρ S => (c ρ S).bind fun k S1 => if k = true then a ρ S1 else b ρ S1
def c_andV (a b : ECode) : ECode := fun ρ S => (a ρ S).bind fun x S1 => (asB x S1).bind fun c S2 => if c = true then b ρ S2 else .ok (.bl false) S2
def c_orV (a b : ECode) : ECode := fun ρ S => (a ρ S).bind fun x S1 => (asB x S1).bind fun c S2 => if c = true then .ok (.bl true) S2 else b ρ S2
def c_notV (a : ECode) : ECode := fun ρ S => (a ρ S).bind fun x S1 => (asB x S1).bind fun c S2 => .ok (.bl (!c)) S2
theorem dw_and1 {op} {x : Expr} {pos : Pos} {a : TCode} (ha : DT Xs G E x a) (ho : op = BoolOp.And) : DW Xs G E (.BoolOp op [x] pos) a := by
  subst ho
  obtain ⟨ta, pa, sa⟩ := ha
  exact ⟨_, fun j => pw_and1 (pa j), sa⟩
theorem dw_or1 {op} {x : Expr} {pos : Pos} {a : TCode} (ha : DT Xs G E x a) (ho : op = BoolOp.Or) : DW Xs G E (.BoolOp op [x] pos) a := by
  subst ho
  obtain ⟨ta, pa, sa⟩ := ha
  exact ⟨_, fun j => pw_or1 (pa j), sa⟩
theorem dw_and {x y : Expr} {rest : List Expr} {pos : Pos} {a b : TCode} (ha : DT Xs G E x a) (hb : DW Xs G E (.BoolOp .And (y :: rest) pos) b) : DW Xs G E (.BoolOp .And (x :: y :: rest) pos) (c_and a b) := by
  obtain ⟨ta, pa, sa⟩ := ha
  obtain ⟨tb, pb, sb⟩ := hb
  refine ⟨_, fun j => pw_and (pa j) (pb j), fun ι S H σ ρ Q R e q => ?_⟩
  refine sa.go R e q fun c S1 ι1 H1 x1 R1 e1 q1 => ?_
  cases c with
  | true =>
    rw [if_pos rfl] at q1 ⊢
    exact sb ι1 S1 H1 σ ρ Q R1 e1 q1
  | false =>
    rw [if_neg Bool.false_ne_true] at q1 ⊢
    exact Post.here R1 q1
theorem dw_or {x y : Expr} {rest : List Expr} {pos : Pos} {a b : TCode} (ha : DT Xs G E x a) (hb : DW Xs G E (.BoolOp .Or (y :: rest) pos) b) : DW Xs G E (.BoolOp .Or (x :: y :: rest) pos) (c_or a b) := by
  obtain ⟨ta, pa, sa⟩ := ha
  obtain ⟨tb, pb, sb⟩ := hb
  refine ⟨_, fun j => pw_or (pa j) (pb j), fun ι S H σ ρ Q R e q => ?_⟩
  refine sa.go R e q fun c S1 ι1 H1 x1 R1 e1 q1 => ?_
  cases c with
  | true =>
    rw [if_pos rfl] at q1 ⊢
    exact Post.here R1 q1
  | false =>
    rw [if_neg Bool.false_ne_true] at q1 ⊢
    exact sb ι1 S1 H1 σ ρ Q R1 e1 q1
theorem dt_w {x : Expr} {a : TCode} (h : DW Xs G E x a) : DT Xs G E x a := by
  obtain ⟨t, p, s⟩ := h
  exact ⟨t, fun j => (p j).pt, s⟩
theorem dt_not {x : Expr} {pos : Pos} {a : TCode} (ha : DT Xs G E x a) : DT Xs G E (.UnaryOp .Not x pos) (c_not a) := by
  obtain ⟨ta, pa, sa⟩ := ha
  refine ⟨_, fun j => pt_not (pa j), fun ι S H σ ρ Q R e q => ?_⟩
  exact sa.go R e q fun c S1 ι1 H1 x1 R1 e1 q1 => Post.here R1 q1
theorem de_if {c x y : Expr} {pos : Pos} {k : TCode} {a b : ECode} (hc : DT Xs G E c k) (ha : DE Xs G E x a) (hb : DE Xs G E y b) : DE Xs G E (.IfExp c x y pos) (c_if k a b) := by
  obtain ⟨tc, pc, sc⟩ := hc
  obtain ⟨ta, pa, sa⟩ := ha
  obtain ⟨tb, pb, sb⟩ := hb
  refine ⟨_, fun j => pe_ifExp (pc j) (pa j) (pb j), fun ι S H σ ρ Q R e q => ?_⟩
  refine sc.go R e q fun c S1 ι1 H1 x1 R1 e1 q1 => ?_
  cases c with
  | true =>
    rw [if_pos rfl] at q1 ⊢
    exact sa ι1 S1 H1 σ ρ Q R1 e1 q1
  | false =>
    rw [if_neg Bool.false_ne_true] at q1 ⊢
    exact sb ι1 S1 H1 σ ρ Q R1 e1 q1
theorem de_one {op} {x : Expr} {pos : Pos} {a : ECode} (ha : DE Xs G E x a) : DE Xs G E (.BoolOp op [x] pos) a := by
  obtain ⟨ta, pa, sa⟩ := ha
  exact ⟨_, fun j => pe_one (pa j), sa⟩
theorem de_and {x y : Expr} {rest : List Expr} {pos : Pos} {a b : ECode} (ha : DE Xs G E x a) (hb : DE Xs G E (.BoolOp .And (y :: rest) pos) b) : DE Xs G E (.BoolOp .And (x :: y :: rest) pos) (c_andV a b) := by
  obtain ⟨ta, pa, sa⟩ := ha
  obtain ⟨tb, pb, sb⟩ := hb
  refine ⟨_, fun j => pe_and (pa j) (pb j), fun ι S H σ ρ Q R e q => ?_⟩
  refine sa.go R e q fun d S1 ι1 H1 v x1 R1 e1 r1 q1 => ?_
  cases d with
  | bl c =>
    refine ⟨c, r1.bl_of, ?_⟩
    have q2 : Post G (E σ) ι1 S1 H1 (PV G Q) (if c = true then b ρ S1 else .ok (.bl false) S1) := q1
    cases c with
    | true =>
      rw [if_pos rfl] at q2 ⊢
      exact sb ι1 S1 H1 σ ρ Q R1 e1 q2
    | false =>
      rw [if_neg Bool.false_ne_true] at q2 ⊢
      exact Post.here R1 q2 _ (.bl false)
  | _ => exact q1.elim
theorem de_or {x y : Expr} {rest : List Expr} {pos : Pos} {a b : ECode} (ha : DE Xs G E x a) (hb : DE Xs G E (.BoolOp .Or (y :: rest) pos) b) : DE Xs G E (.BoolOp .Or (x :: y :: rest) pos) (c_orV a b) := by
  obtain ⟨ta, pa, sa⟩ := ha
  obtain ⟨tb, pb, sb⟩ := hb
  refine ⟨_, fun j => pe_or (pa j) (pb j), fun ι S H σ ρ Q R e q => ?_⟩
  refine sa.go R e q fun d S1 ι1 H1 v x1 R1 e1 r1 q1 => ?_
  cases d with
  | bl c =>
    refine ⟨c, r1.bl_of, ?_⟩
    have q2 : Post G (E σ) ι1 S1 H1 (PV G Q) (if c = true then .ok (.bl true) S1 else b ρ S1) := q1
    cases c with
    | true =>
      rw [if_pos rfl] at q2 ⊢
      exact Post.here R1 q2 _ (.bl true)
    | false =>
      rw [if_neg Bool.false_ne_true] at q2 ⊢
      exact sb ι1 S1 H1 σ ρ Q R1 e1 q2
  | _ => exact q1.elim
theorem de_not {x : Expr} {pos : Pos} {a : ECode} (ha : DE Xs G E x a) : DE Xs G E (.UnaryOp .Not x pos) (c_notV a) := by
  obtain ⟨ta, pa, sa⟩ := ha
  refine ⟨_, fun j => pe_not (pa j), fun ι S H σ ρ Q R e q => ?_⟩
  refine sa.go R e q fun d S1 ι1 H1 v x1 R1 e1 r1 q1 => ?_
  cases d with
  | bl c => exact ⟨c, r1.bl_of, Post.here R1 q1 _ (.bl _)⟩
  | _ => exact q1.elim
/-! ### chains -/
def c_chain (p p' : D → D → Sto → Res D) (a b c : ECode) : ECode := fun ρ S => (a ρ S).bind fun x S1 => (b ρ S1).bind fun y S2 => (p x y S2).bind fun z S3 => (asB z S3).bind fun k S4 =>
  if k = true then (c ρ S4).bind fun w S5 => p' y w S5 else .ok (.bl false) S4
theorem SndR.go {r : R2} {p : D → D → Sto → Res D} (h : SndR G r p) {E : XK} {ι : Ix} {S : Sto} {H : Hp} {x y : V} {dx dy : D} (R : Rel G ι S H) (rx : Rep G ι (Lv ι S) H x dx) (ry : Rep G ι (Lv ι S) H y dy)
    {β : Type} {k : D → Sto → Res β} {P : β → Ix → Sto → Hp → Prop} {Q : VK} (q : Post G E ι S H P ((p dx dy S).bind k))
    (hk : ∀ d S1 ι1 H1 v, Ext ι S H ι1 S1 H1 → Rel G ι1 S1 H1 → Rep G ι1 (Lv ι1 S1) H1 v d → Post G E ι1 S1 H1 P (k d S1) → Q v H1) : r x y H Q :=
  h E ι S H x y dx dy Q R rx ry (Post.bind q fun d S1 ι1 H1 x R1 q v r => hk d S1 ι1 H1 v x R1 r q)
theorem de_chain {op op' : CmpOp} {r r' : R2} {p p' : D → D → Sto → Res D} {x y z : Expr} {pos : Pos} {a b c : ECode} (ho : ∀ j, OpR (Xs j) (compareOp op) r) (hr : SndR G r p) (ho' : ∀ j, OpR (Xs j) (compareOp op') r') (hr' : SndR G r' p')
    (ha : DE Xs G E x a) (hb : DE Xs G E y b) (hc : DE Xs G E z c) (hm : lastMarks [op, op'] [y, z] = false) : DE Xs G E (.Compare x [op, op'] [y, z] pos) (c_chain p p' a b c) := by
  obtain ⟨ta, pa, sa⟩ := ha
  obtain ⟨tb, pb, sb⟩ := hb
  obtain ⟨tc, pc, sc⟩ := hc
  refine ⟨tChain r r' ta tb tc, fun j => pe_chain (ho j) (ho' j) (pa j) (pb j) (pc j) hm, fun ι S H σ ρ Q R e q => ?_⟩
  refine sa.go R e q fun d S1 ι1 H1 v x1 R1 e1 r1 q1 => ?_
  refine sb.go R1 e1 q1 fun d2 S2 ι2 H2 v2 x2 R2 e2 r2 q2 => ?_
  refine hr.go R2 (r1.mono x2) r2 q2 fun d3 S3 ι3 H3 v3 x3 R3 r3 q3 => ?_
  cases d3 with
  | bl k =>
    refine ⟨k, r3.bl_of, ?_⟩
    have q4 : Post G (E σ) ι3 S3 H3 (PV G Q) (if k = true then (c ρ S3).bind fun w S5 => p' d2 w S5 else .ok (.bl false) S3) := q3
    cases k with
    | true =>
      rw [if_pos rfl] at q4 ⊢
      refine sc.go R3 (e2.mono x3) q4 fun d5 S5 ι5 H5 v5 x5 R5 e5 r5 q5 => ?_
      exact hr' (E σ) ι5 S5 H5 v2 v5 d2 d5 Q R5 ((r2.mono x3).mono x5) r5 q5
    | false =>
      rw [if_neg Bool.false_ne_true] at q4 ⊢
      exact Post.here R3 q4 _ (.bl false)
  | _ => exact q3.elim
/-! ### arguments, displays -/
def c_nil : ACode := fun _ S => .ok [] S
def c_cons (a : ECode) (r : ACode) : ACode := fun ρ S => (a ρ S).bind fun x S1 => (r ρ S1).bind fun xs S2 => .ok (x :: xs) S2
theorem snd_nil : SndA G E tNil c_nil := fun ι S H σ ρ Q R e q => Post.here R q _ .nil
theorem snd_cons {te : TE} {t : TA} {a : ECode} {r : ACode} (ha : Snd G E te a) (hr : SndA G E t r) : SndA G E (tCons te t) (c_cons a r) := fun ι S H σ ρ Q R e q => by
  refine ha.go R e q fun d S1 ι1 H1 v x1 R1 e1 r1 q1 => ?_
  refine hr.go R1 e1 q1 fun ds S2 ι2 H2 vs x2 R2 e2 r2 q2 => ?_
  exact Post.here R2 q2 _ (.cons (r1.mono x2) r2)
theorem da_nil : DA Xs G E [] c_nil := ⟨_, fun _ => pa_nil, snd_nil⟩
theorem da_cons {e : Expr} {es : List Expr} {a : ECode} {r : ACode} (ha : DE Xs G E e a) (hr : DA Xs G E es r) (hs : ∀ j, starEach (e :: es) (Xs j).env = (false, eval e (Xs j).env) :: starEach es (Xs j).env) : DA Xs G E (e :: es) (c_cons a r) := by
  obtain ⟨ta, pa, sa⟩ := ha
  obtain ⟨tr, pr, sr⟩ := hr
  exact ⟨_, fun j => pa_cons (pa j) (pr j) (hs j), snd_cons sa sr⟩
theorem dk_nil : DKw Xs G E [] c_nil := ⟨_, fun _ => pk_nil, snd_nil⟩
theorem dk_cons {e : Expr} {nm : Option Str} {kpos : Pos} {ks : List Keyword} {a : ECode} {r : ACode} (ha : DE Xs G E e a) (hr : DKw Xs G E ks r) : DKw Xs G E (⟨nm, e, kpos⟩ :: ks) (c_cons a r) := by
  obtain ⟨ta, pa, sa⟩ := ha
  obtain ⟨tr, pr, sr⟩ := hr
  exact ⟨_, fun j => pk_cons (pa j) (pr j), snd_cons sa sr⟩
/-- the items of a tuple, a list -/
def itemsOf : D → Sto → Option (List D)
  | .tup ds, _ => some ds
  | .lst ds, _ => some ds
  | .scr ds, _ => some ds
  | .wtp ds, _ => some ds
  | .ref n, S => match S[n]? with
    | some (some (.lst ds)) => some ds
    | _ => none
  | _, _ => none
/-- the largest number of items -/
def fits (n : Nat) : Bool := decide (n ≤ 1000000)
theorem fits_le {n : Nat} (h : fits n = true) : n ≤ sizeLine := by
  have h := of_decide_eq_true h
  rw [sizeLine_eq]
  omega
theorem fits_lt {n : Nat} (h : fits n = true) : n < sizeLine := by
  have h := of_decide_eq_true h
  rw [sizeLine_eq]
  omega
def p_tup (ds : List D) (S : Sto) : Res D := if fits ds.length = true then .ok (.tup ds) S else .stuck
/-- a new list; b: it will be changed (a cell of the store) -/
def p_lst (b : Bool) (ds : List D) (S : Sto) : Res D := if fits ds.length = true then (match b with
  | false => .ok (.lst ds) S
  | true => .ok (.ref S.length) (S ++ [some (.lst ds)])) else .stuck
/-- a new tuple, a new list that no one will change -/
theorem new_tup {ι : Ix} {S : Sto} {H : Hp} {vs : List V} {ds : List D} {p : Addr} (R : Rel G ι S H) (hp : H p = none) (r : Reps G ι (Lv ι S) H vs ds) :
    Ext ι S H ι S (upd H p (.tup vs)) ∧ Rel G ι S (upd H p (.tup vs)) ∧ Rep G ι (Lv ι S) (upd H p (.tup vs)) (.ref p) (.tup ds) := by
  have x : Ext ι S H ι S (upd H p (.tup vs)) := Ext.same (keepNew hp)
  exact ⟨x, R.same (keepNew hp), .tup upd_same (R.freshL hp) (r.mono x)⟩
theorem new_lst {ι : Ix} {S : Sto} {H : Hp} {vs : List V} {ds : List D} {p : Addr} (R : Rel G ι S H) (hp : H p = none) (r : Reps G ι (Lv ι S) H vs ds) :
    Ext ι S H ι S (upd H p (.lst vs)) ∧ Rel G ι S (upd H p (.lst vs)) ∧ Rep G ι (Lv ι S) (upd H p (.lst vs)) (.ref p) (.lst ds) := by
  have x : Ext ι S H ι S (upd H p (.lst vs)) := Ext.same (keepNew hp)
  exact ⟨x, R.same (keepNew hp), .lst upd_same (R.freshL hp) (r.mono x)⟩
theorem p_tup_ok {E0 : XK} {ι : Ix} {S : Sto} {H : Hp} {vs : List V} {ds : List D} {Q : VK} (R : Rel G ι S H) (r : Reps G ι (Lv ι S) H vs ds) (q : Post G E0 ι S H (PV G Q) (p_tup ds S)) :
    vs.length ≤ sizeLine ∧ ∀ p, H p = none → Q (.ref p) (upd H p (.tup vs)) := by
  unfold p_tup at q
  split at q
  · rename_i hf
    refine ⟨r.len_le (fits_le hf), fun p hp => ?_⟩
    obtain ⟨x, R', r'⟩ := new_tup R hp r
    exact q _ _ x R' _ r'
  · exact q.elim
theorem p_lst_ok {E0 : XK} {b : Bool} {ι : Ix} {S : Sto} {H : Hp} {vs : List V} {ds : List D} {Q : VK} (R : Rel G ι S H) (r : Reps G ι (Lv ι S) H vs ds) (q : Post G E0 ι S H (PV G Q) (p_lst b ds S)) :
    vs.length ≤ sizeLine ∧ ∀ p, H p = none → Q (.ref p) (upd H p (.lst vs)) := by
  unfold p_lst at q
  split at q
  · rename_i hf
    refine ⟨r.len_le (fits_le hf), fun p hp => ?_⟩
    cases b with
    | false =>
      obtain ⟨x, R', r'⟩ := new_lst R hp r
      exact q _ _ x R' _ r'
    | true =>
      have x : Ext ι S H (ι.snoc p) (S ++ [some (.lst ds)]) (upd H p (.lst vs)) := Ext.new R hp
      refine q _ _ x (R.new hp ⟨vs, upd_same, r.mono x⟩) _ (.ref ?_)
      show (ι.l ++ [p])[S.length]? = some p
      rw [← R.len]
      simp
  · exact q.elim
def c_tup (a : ACode) : ECode := fun ρ S => (a ρ S).bind p_tup
def c_lst (b : Bool) (a : ACode) : ECode := fun ρ S => (a ρ S).bind (p_lst b)
theorem de_tup {es : List Expr} {x1} {pos : Pos} {a : ACode} (ha : DA Xs G E es a) : DE Xs G E (.Tuple es x1 pos) (c_tup a) := by
  obtain ⟨ta, pa, sa⟩ := ha
  refine ⟨_, fun j => pe_tup (pa j), fun ι S H σ ρ Q R e q => ?_⟩
  exact sa.go R e q fun ds S1 ι1 H1 vs x1 R1 e1 r1 q1 => p_tup_ok R1 r1 q1
theorem de_lst {es : List Expr} {pos : Pos} {a : ACode} (b : Bool) (ha : DA Xs G E es a) : DE Xs G E (.List es pos) (c_lst b a) := by
  obtain ⟨ta, pa, sa⟩ := ha
  refine ⟨_, fun j => pe_lst (pa j), fun ι S H σ ρ Q R e q => ?_⟩
  exact sa.go R e q fun ds S1 ι1 H1 vs x1 R1 e1 r1 q1 => p_lst_ok R1 r1 q1
end
end DL

set_option Elab.async false
set_option linter.all false
set_option maxRecDepth 100000
set_option maxHeartbeats 4000000
/-! DL2: statements, targets, loops, comprehensions -/
namespace DL
open PySem PySem.Spec PyProof.Rows L2

/-! ### targets -/
def SndG (G : Gx) (sl : List Nat) (g : TG) (c : D → Env → Sto → Res Env) : Prop := ∀ E ι S H σ ρ v d Q, Rel G ι S H → REnv G ι S H σ ρ → Rep G ι (Lv ι S) H v d →
  Post G E ι S H (fun ρ' ι' S' H' => ∀ σ', REnv G ι' S' H' σ' ρ' → (∀ vs, (∀ i ∈ sl, i ∈ vs) → wipe σ' vs = wipe σ vs) → Q σ' H') (c d ρ S) → g v σ H Q
def SndGs (G : Gx) (sl : List Nat) (g : TGs) (c : List D → Env → Sto → Res Env) : Prop := ∀ E ι S H σ ρ v d Q, Rel G ι S H → REnv G ι S H σ ρ → Reps G ι (Lv ι S) H v d →
  Post G E ι S H (fun ρ' ι' S' H' => ∀ σ', REnv G ι' S' H' σ' ρ' → (∀ vs, (∀ i ∈ sl, i ∈ vs) → wipe σ' vs = wipe σ vs) → Q σ' H') (c d ρ S) → g v σ H Q
section
variable {I : Type} (Xs : I → Cx) (G : Gx)
def DG (tg : Expr) (sl : List Nat) (c : D → Env → Sto → Res Env) : Prop := ∃ g, (∀ i, PG (Xs i) tg g) ∧ SndG G sl g c
def DGs (tg : List Expr) (sl : List Nat) (c : List D → Env → Sto → Res Env) : Prop := ∃ g, (∀ i, PGs (Xs i) tg g) ∧ SndGs G sl g c
end
theorem wipe_set {σ : L2.St} {x : Option V} : ∀ {vs : List Nat} {i : Nat}, i ∈ vs → wipe (σ.set i x) vs = wipe σ vs
  | v :: vs, i, h => by
    unfold wipe
    by_cases e : i = v
    · subst e
      by_cases hm : i ∈ vs
      · rw [wipe_set hm]
      · have : ∀ (us : List Nat), i ∉ us → (wipe (σ.set i x) us).set i none = (wipe σ us).set i none := by
          intro us
          induction us with
          | nil => intro _; unfold wipe; simp
          | cons u us ih =>
            intro hu
            unfold wipe
            have hne : u ≠ i := fun e => hu (by simp [e])
            rw [List.set_comm _ _ hne, ih fun z => hu (by simp [z]), List.set_comm _ _ hne]
        exact this vs hm
    · rw [wipe_set (List.mem_of_ne_of_mem e h)]
def g_name (i : Nat) : D → Env → Sto → Res Env := fun d ρ S => .ok (ρ.set i (some d)) S
def g_nil : List D → Env → Sto → Res Env := fun ds ρ S => match ds with
  | [] => .ok ρ S
  | _ => .stuck
def g_cons (a : D → Env → Sto → Res Env) (r : List D → Env → Sto → Res Env) : List D → Env → Sto → Res Env := fun ds ρ S => match ds with
  | d :: ds => (a d ρ S).bind fun ρ1 S1 => r ds ρ1 S1
  | [] => .stuck
def g_tup (n : Nat) (r : List D → Env → Sto → Res Env) : D → Env → Sto → Res Env := fun d ρ S => match d with
  | .tup ds => if ds.length = n then r ds ρ S else .stuck
  | _ => .stuck
section
variable {I : Type} {Xs : I → Cx} {G : Gx} {E : WK} {kk : Nat}
theorem snd_name {i : Nat} : SndG G [i] (gName i) (g_name i) := fun E ι S H σ ρ v d Q R e r q =>
  Post.here R q _ (e.set r i) fun vs h => wipe_set (h i (by simp))
theorem dg_name (F : FamH Xs G E) {i : Nat} {x : Str} {pos : Pos} (hi : ∀ j, (Xs j).N[i]? = some x) (hx : ∀ j, Loc (Xs j).env.scope x) (hf : ∀ j, (Xs j).fn x = true ∨ (Xs j).env.scope.names.lookup x = some .local) : DG Xs G (.Name x pos) [i] (g_name i) :=
  ⟨_, fun j => pg_name (F.nd j) (hi j) (hx j) (hf j), snd_name⟩
theorem dgs_nil : DGs Xs G [] [] g_nil := ⟨_, fun _ => pgs_nil, fun E ι S H σ ρ v d Q R e r q => by
  cases r with
  | nil => exact ⟨rfl, Post.here R q _ e fun _ _ => rfl⟩
  | cons _ _ => exact q.elim⟩
theorem dgs_cons {t : Expr} {ts : List Expr} {s1 s2 : List Nat} {a : D → Env → Sto → Res Env} {r : List D → Env → Sto → Res Env} (ha : DG Xs G t s1 a) (hr : DGs Xs G ts s2 r) (hs : ∀ j, List.map (fun x => x.snd) (assignEach (t :: ts) (Xs j).env) = assign t (Xs j).env :: List.map (fun x => x.snd) (assignEach ts (Xs j).env)) : DGs Xs G (t :: ts) (s1 ++ s2) (g_cons a r) := by
  obtain ⟨ga, pa, sa⟩ := ha
  obtain ⟨gr, pr, sr⟩ := hr
  refine ⟨_, fun j => pgs_cons (pa j) (pr j) (hs j), fun E ι S H σ ρ v d Q R e r q => ?_⟩
  cases r with
  | nil => exact q.elim
  | cons r0 rs =>
    refine ⟨_, _, rfl, sa E ι S H σ ρ _ _ _ R e r0 (Post.bind q fun ρ1 S1 ι1 H1 x1 R1 q1 σ1 e1 w1 => ?_)⟩
    refine sr E ι1 S1 H1 σ1 ρ1 _ _ Q R1 e1 (rs.mono x1) (q1.imp fun ρ2 S2 ι2 H2 x2 R2 q2 σ2 e2 w2 => q2 σ2 e2 fun vs hv => ?_)
    rw [w2 vs fun i hi => hv i (by simp [hi]), w1 vs fun i hi => hv i (by simp [hi])]
theorem dg_tup (F : FamH Xs G E) {es : List Expr} {k : Nat} {pos : Pos} {n : Nat} {sl : List Nat} {r : List D → Env → Sto → Res Env} (hr : DGs Xs G es sl r) (hn : es.length = n) (hp : ∀ j (t : TGs), PGs (Xs j) es t → PG (Xs j) (.Tuple es k pos) (gTup (Xs j).K n t)) :
    DG Xs G (.Tuple es k pos) sl (g_tup n r) := by
  obtain ⟨gr, pr, sr⟩ := hr
  refine ⟨gTup G.K n gr, fun j => by have z := hp j gr (pr j); rw [F.K j] at z; exact z, fun E ι S H σ ρ v d Q R e r q => ?_⟩
  cases r with
  | tup h hl0 rs =>
    rename_i a0 vs0 ds0
    have q : Post G E ι S H (fun ρ' ι' S' H' => ∀ σ', REnv G ι' S' H' σ' ρ' → (∀ vs, (∀ i ∈ sl, i ∈ vs) → wipe σ' vs = wipe σ vs) → Q σ' H') (if ds0.length = n then r ds0 ρ S else .stuck) := q
    by_cases hl : ds0.length = n
    · rw [if_pos hl] at q
      refine ⟨_, _, rfl, ?_, rs.length.trans hl, sr E ι S H σ ρ _ _ Q R e rs q⟩
      exact SqT.of h
    · rw [if_neg hl] at q
      exact q.elim
  | _ => exact q.elim

/-! ### statements -/
def c_set (i : Nat) (a : ECode) : SCode := fun ρ S => (a ρ S).bind fun d S1 => .ok (.nx (ρ.set i (some d))) S1
def c_asg (g : D → Env → Sto → Res Env) (a : ECode) : SCode := fun ρ S => (a ρ S).bind fun d S1 => (g d ρ S1).bind fun ρ1 S2 => .ok (.nx ρ1) S2
def c_nx : SCode := fun ρ S => .ok (.nx ρ) S
def c_seq (a b : SCode) : SCode := fun ρ S => (a ρ S).bind fun f S1 => match f with
  | .nx ρ1 => b ρ1 S1
  | o => .ok o S1
def c_expr (a : ECode) : SCode := fun ρ S => (a ρ S).bind fun _ S1 => .ok (.nx ρ) S1
def c_ret (a : ECode) : SCode := fun ρ S => (a ρ S).bind fun d S1 => .ok (.rt d) S1
def c_retN : SCode := fun _ S => .ok (.rt .non) S
def c_brk : SCode := fun ρ S => .ok (.bk ρ) S
def c_cont : SCode := fun ρ S => .ok (.ct ρ) S
def c_ifS (c : TCode) (a b : SCode) : SCode := fun ρ S => (c ρ S).bind fun k S1 => if k = true then a ρ S1 else b ρ S1
def c_stuck : SCode := fun _ _ => .stuck
theorem snd_asg {te : TE} {g : TG} {sl : List Nat} {a : ECode} {c : D → Env → Sto → Res Env} (ha : Snd G E te a) (hg : SndG G sl g c) : SndS G E (tAsg te g) (c_asg c a) := fun ι S H σ ρ Dn R e q => by
  refine ha.go R e q fun d S1 ι1 H1 v x1 R1 e1 r1 q1 => ?_
  refine hg (E σ) ι1 S1 H1 σ ρ v d _ R1 e1 r1 (Post.bind q1 fun ρ2 S2 ι2 H2 x2 R2 q2 σ2 e2 w2 => ?_)
  exact Post.here R2 q2 σ2 e2
theorem ds_asg {tg e : Expr} {pos : Pos} {sl : List Nat} {a : ECode} {c : D → Env → Sto → Res Env} (ha : DE Xs G E e a) (hg : DG Xs G tg sl c) (hs : ∀ j, swapsWithSole [tg] e pos.line (Xs j).env = pure false) (hw : ∀ j, swappedStores [tg] e (Xs j).env = pure none) (h1 : ∀ j, List.map (fun x => x.snd) (assignEach [tg] (Xs j).env) = [assign tg (Xs j).env]) :
    DS Xs G E (.Assign [tg] e pos) (c_asg c a) := by
  obtain ⟨ta, pa, sa⟩ := ha
  obtain ⟨g, pg, sg⟩ := hg
  exact ⟨_, fun j => ps_asg (pa j) (pg j) (hs j) (hw j) (h1 j), snd_asg sa sg⟩
theorem ds_set (F : FamH Xs G E) {i : Nat} {x : Str} {e : Expr} {pos pos' : Pos} {a : ECode} (hi : ∀ j, (Xs j).N[i]? = some x) (hx : ∀ j, Loc (Xs j).env.scope x) (hf : ∀ j, (Xs j).fn x = true ∨ (Xs j).env.scope.names.lookup x = some .local) (ha : DE Xs G E e a)
    (hs : ∀ j, swapsWith e (some (.Name x pos')) pos.line (Xs j).env = pure false) : DS Xs G E (.Assign [.Name x pos'] e pos) (c_set i a) := by
  obtain ⟨ta, pa, sa⟩ := ha
  refine ⟨tAsg ta (gName i), fun j => ps_set (F.nd j) (hi j) (hx j) (pa j) (hs j) (hf j), fun ι S H σ ρ Dn R e q => ?_⟩
  refine sa.go R e q fun d S1 ι1 H1 v x1 R1 e1 r1 q1 => ?_
  exact Post.here R1 q1 _ (e1.set r1 i)
theorem dss_nil : DSs Xs G E [] c_nx := ⟨_, fun _ => pss_nil, fun ι S H σ ρ Dn R e q => Post.here R q σ e⟩
theorem snd_seq {E : XK} {t u : TS} {a b : SCode} (ha : SndS G (fun _ => E) t a) (hb : SndS G (fun _ => E) u b) : SndS G (fun _ => E) (tSeq t u) (c_seq a b) := fun ι S H σ ρ Dn R e q => by
  refine ha ι S H σ ρ _ R e (Post.bind q fun f S1 ι1 H1 x1 R1 q1 => ?_)
  cases f with
  | nx ρ1 => exact fun σ1 e1 => hb ι1 S1 H1 σ1 ρ1 Dn R1 e1 q1
  | rt d => exact fun v r => Post.here R1 q1 v r
  | bk ρ1 => exact fun σ1 e1 => Post.here R1 q1 σ1 e1
  | ct ρ1 => exact fun σ1 e1 => Post.here R1 q1 σ1 e1
theorem dss_cons {st : Stmt} {sts : List Stmt} {a b : SCode} (ha : DS Xs G E st a) (hb : DSs Xs G E sts b) (hE : ∀ σ σ', E σ = E σ' := by exact fun _ _ => rfl) : DSs Xs G E (st :: sts) (c_seq a b) := by
  obtain ⟨E0, rfl⟩ : ∃ E0, E = fun _ => E0 := ⟨E [], funext fun σ => hE σ []⟩
  obtain ⟨ta, pa, sa⟩ := ha
  obtain ⟨tb, pb, sb⟩ := hb
  exact ⟨_, fun j => pss_cons (pa j) (pb j), snd_seq sa sb⟩
theorem dss_one {st : Stmt} {a : SCode} (ha : DS Xs G E st a) : DSs Xs G E [st] a := by
  obtain ⟨ta, pa, sa⟩ := ha
  exact ⟨_, fun j => pss_one (pa j), sa⟩
theorem ds_pass {pos : Pos} : DS Xs G E (.Pass pos) c_nx := ⟨_, fun _ => ps_pass, fun ι S H σ ρ Dn R e q => Post.here R q σ e⟩
theorem ds_break {pos : Pos} : DS Xs G E (.Break pos) c_brk := ⟨_, fun _ => ps_break, fun ι S H σ ρ Dn R e q => Post.here R q σ e⟩
theorem ds_cont {pos : Pos} : DS Xs G E (.Continue pos) c_cont := ⟨_, fun _ => ps_continue, fun ι S H σ ρ Dn R e q => Post.here R q σ e⟩
theorem ds_never {st : Stmt} : DS Xs G E st c_stuck := ⟨_, fun _ => ps_never, fun ι S H σ ρ Dn R e q => q.elim⟩
theorem ds_expr {e : Expr} {pos : Pos} {a : ECode} (ha : DE Xs G E e a) (hs : ∀ j, swapsWith e none pos.line (Xs j).env = pure false) : DS Xs G E (.Expr e pos) (c_expr a) := by
  obtain ⟨ta, pa, sa⟩ := ha
  refine ⟨_, fun j => ps_expr (pa j) (hs j), fun ι S H σ ρ Dn R e q => ?_⟩
  exact sa.go R e q fun d S1 ι1 H1 v x1 R1 e1 r1 q1 => Post.here R1 q1 σ e1
theorem ds_ret {e : Expr} {pos : Pos} {a : ECode} (ha : DE Xs G E e a) : DS Xs G E (.Return (some e) pos) (c_ret a) := by
  obtain ⟨ta, pa, sa⟩ := ha
  refine ⟨_, fun j => ps_ret (pa j), fun ι S H σ ρ Dn R e q => ?_⟩
  exact sa.go R e q fun d S1 ι1 H1 v x1 R1 e1 r1 q1 => Post.here R1 q1 v r1
theorem ds_retN {pos : Pos} : DS Xs G E (.Return none pos) c_retN := ⟨_, fun _ => ps_retN, fun ι S H σ ρ Dn R e q => Post.here R q .non .non⟩
theorem ds_if {c : Expr} {x y : List Stmt} {pos : Pos} {k : TCode} {a b : SCode} (hc : DT Xs G E c k) (ha : DSs Xs G E x a) (hb : DSs Xs G E y b) : DS Xs G E (.If c x y pos) (c_ifS k a b) := by
  obtain ⟨tc, pc, sc⟩ := hc
  obtain ⟨ta, pa, sa⟩ := ha
  obtain ⟨tb, pb, sb⟩ := hb
  refine ⟨_, fun j => ps_if (pc j) (pa j) (pb j), fun ι S H σ ρ Dn R e q => ?_⟩
  refine sc.go R e q fun c S1 ι1 H1 x1 R1 e1 q1 => ?_
  cases c with
  | true =>
    rw [if_pos rfl] at q1 ⊢
    exact sa ι1 S1 H1 σ ρ Dn R1 e1 q1
  | false =>
    rw [if_neg Bool.false_ne_true] at q1 ⊢
    exact sb ι1 S1 H1 σ ρ Dn R1 e1 q1
/-- x op= e, x a name of the def -/
def SndI2 (G : Gx) (r : TIp) (p : D → D → Sto → Res D) : Prop := ∀ E ι S H x y dx dy Q, Rel G ι S H → Rep G ι (Lv ι S) H x dx → Rep G ι (Lv ι S) H y dy → Post G E ι S H (PV G Q) (p dx dy S) → r x y H Q
def c_aug (i : Nat) (p : D → D → Sto → Res D) (a : ECode) : SCode := fun ρ S => (c_var i ρ S).bind fun x S0 => (a ρ S0).bind fun y S1 => (p x y S1).bind fun z S2 => .ok (.nx (ρ.set i (some z))) S2
theorem ds_aug (F : FamH Xs G E) {i : Nat} {x : Str} {e : Expr} {op : Operator} {pos pos' : Pos} {a : ECode} {ti : TIp} {p : D → D → Sto → Res D} (hi : ∀ j, (Xs j).N[i]? = some x) (hx : ∀ j, Loc (Xs j).env.scope x) (hf : ∀ j, (Xs j).fn x = true ∨ (Xs j).env.scope.names.lookup x = some .local)
    (ho : ∀ j, PIp (Xs j) op ti) (hr : SndI2 G ti p) (ha : DE Xs G E e a)
    (hw : ∀ j (te : TE), PE (Xs j) e te → PS (Xs j) (.AugAssign (.Name x pos') op e pos) (tAug i te ti)) : DS Xs G E (.AugAssign (.Name x pos') op e pos) (c_aug i p a) := by
  obtain ⟨ta, pa, sa⟩ := ha
  refine ⟨_, fun j => hw j ta (pa j), fun ι S H σ ρ Dn R e q => ?_⟩
  unfold c_aug c_var at q
  split at q
  · rename_i d hd
    obtain ⟨v, h1, h2⟩ := e.at_ i d hd
    refine ⟨v, h1, ?_⟩
    have q : Post G (E σ) ι S H (PF G Dn) ((a ρ S).bind fun y S1 => (p d y S1).bind fun z S2 => .ok (.nx (ρ.set i (some z))) S2) := q
    refine sa.go R e q fun y S1 ι1 H1 w x1 R1 e1 r1 q1 => ?_
    refine hr (E σ) ι1 S1 H1 v w d y _ R1 (h2.mono x1) r1 (Post.bind q1 fun z S2 ι2 H2 x2 R2 q2 u r2 => ?_)
    exact Post.here R2 q2 _ ((e1.mono x2).set r2 i)
  · exact q.elim

/-! ### what is walked -/
structure Wk where
  items : List D
  src : List (D × List D)
def Wk.ok (w : Wk) (S : Sto) : Prop := ∀ p ∈ w.src, itemsOf p.1 S = some p.2
def Walks (G : Gx) (wk : Wk) (ι1 : Ix) (S1 : Sto) (H1 : Hp) (J : It) : Prop := ∀ ι2 S2 H2, Ext ι1 S1 H1 ι2 S2 H2 → Rel G ι2 S2 H2 → wk.ok S2 →
  J.stop wk.items.length H2 ∧ ∀ i d, wk.items[i]? = some d → J.go i H2 ∧ ∀ x H3, J.yld i H2 x H3 → Ext ι2 S2 H2 ι2 S2 H3 ∧ Rel G ι2 S2 H3 ∧ Rep G ι2 (Lv ι2 S2) H3 x d ∧ ∀ a o, H2 a = some o → H3 a = some o
def SndIt (G : Gx) (E : WK) (wi : TI) (c : Env → Sto → Res Wk) : Prop := ∀ ι S H σ ρ Q, Rel G ι S H → REnv G ι S H σ ρ → Post G (E σ) ι S H (fun wk ι1 S1 H1 => ∀ J, Walks G wk ι1 S1 H1 J → Q J H1) (c ρ S) → wi σ H Q
def DI {I : Type} (Xs : I → Cx) (G : Gx) (E : WK) (tg iter : Expr) (c : Env → Sto → Res Wk) : Prop := ∃ wi, (∀ i, PI (Xs i) tg iter wi) ∧ SndIt G E wi c

open Classical in
noncomputable def forL (ok : Sto → Prop) (body : D → SCode) : List D → SCode
  | [], ρ, S => if ok S then .ok (.nx ρ) S else .stuck
  | d :: ds, ρ, S => if ok S then (body d ρ S).bind fun f S1 => match f with
      | .nx ρ1 => forL ok body ds ρ1 S1
      | .ct ρ1 => forL ok body ds ρ1 S1
      | .bk ρ1 => .ok (.nx ρ1) S1
      | .rt d => .ok (.rt d) S1 else .stuck
noncomputable def c_for (ci : Env → Sto → Res Wk) (g : D → Env → Sto → Res Env) (body : SCode) : SCode := fun ρ S => (ci ρ S).bind fun wk S1 => forL wk.ok (fun d ρ S => (g d ρ S).bind fun ρ1 S1 => body ρ1 S1) wk.items ρ S1
theorem ds_for (F : Fam Xs G E kk) {tg iter : Expr} {body : List Stmt} {pos : Pos} {sl : List Nat} {ci : Env → Sto → Res Wk} {g : D → Env → Sto → Res Env} {b : SCode} (hi : DI Xs G E tg iter ci) (hg : DG Xs G tg sl g) (hb : DSs Xs G E body b)
    (hp : ∀ j, PassesOwn (model (Xs j).prog (Xs j).w) (Xs j).A (Xs j).env (Xs j).xe) (hs : ∀ j x, foldedSetIterable iter (Xs j).env x = pure x) (hE : ∀ σ σ', E σ = E σ' := by exact fun _ _ => rfl) : DS Xs G E (.For tg iter body [] pos) (c_for ci g b) := by
  obtain ⟨E0, rfl⟩ : ∃ E0, E = fun _ => E0 := ⟨E [], funext fun σ => hE σ []⟩
  obtain ⟨wi, pi, si⟩ := hi
  obtain ⟨gg, pg, sg⟩ := hg
  obtain ⟨tb, pb, sb⟩ := hb
  refine ⟨tFor wi gg tb, fun j => ps_for (hp j) (F.calm j) (pi j) (pg j) (pb j) (hs j), fun ι S H σ ρ Dn R e q => ?_⟩
  refine si ι S H σ ρ _ R e (Post.bind q fun wk S1 ι1 H1 x1 R1 q1 J hJ => ?_)
  refine ⟨fun i m σ H => m = wk.items.length - i ∧ i ≤ wk.items.length ∧ ∃ ι2 S2 ρ2, Ext ι1 S1 H1 ι2 S2 H ∧ Rel G ι2 S2 H ∧ REnv G ι2 S2 H σ ρ2 ∧ Post G E0 ι2 S2 H (PF G Dn) (forL wk.ok (fun d ρ S => (g d ρ S).bind fun ρ1 S1 => b ρ1 S1) (wk.items.drop i) ρ2 S2),
    ⟨_, rfl, Nat.zero_le _, ι1, S1, ρ, Ext.refl, R1, e.mono x1, q1⟩, ?_⟩
  rintro i m σ2 H2 ⟨rfl, hi, ι2, S2, ρ2, x2, R2, e2, q2⟩
  by_cases hlt : i < wk.items.length
  · rw [List.drop_eq_getElem_cons hlt] at q2
    unfold forL at q2
    split at q2
    · rename_i hok
      obtain ⟨_, hw⟩ := hJ ι2 S2 H2 x2 R2 hok
      obtain ⟨hgo, hy⟩ := hw i wk.items[i] (by simp [hlt])
      refine .inr ⟨hgo, fun σ' H' => i + 1 ≤ wk.items.length ∧ ∃ ι3 S3 ρ3, Ext ι1 S1 H1 ι3 S3 H' ∧ Rel G ι3 S3 H' ∧ REnv G ι3 S3 H' σ' ρ3 ∧ Post G E0 ι3 S3 H' (PF G Dn) (forL wk.ok (fun d ρ S => (g d ρ S).bind fun ρ1 S1 => b ρ1 S1) (wk.items.drop (i + 1)) ρ3 S3),
        fun σ' H' h => ⟨wk.items.length - (i + 1), by omega, rfl, h.1, h.2⟩, fun x H3 hx => ?_⟩
      obtain ⟨x3, R3, r3, _⟩ := hy x H3 hx
      have q3 := Post.back x3 q2
      have q4 : Post G E0 ι2 S2 H3 (PF G Dn) ((g wk.items[i] ρ2 S2).bind fun ρ1 S1 => (b ρ1 S1).bind fun f S1 => match f with
        | .nx ρ1 => forL wk.ok (fun d ρ S => (g d ρ S).bind fun ρ1 S1 => b ρ1 S1) (wk.items.drop (i + 1)) ρ1 S1
        | .ct ρ1 => forL wk.ok (fun d ρ S => (g d ρ S).bind fun ρ1 S1 => b ρ1 S1) (wk.items.drop (i + 1)) ρ1 S1
        | .bk ρ1 => .ok (.nx ρ1) S1
        | .rt d => .ok (.rt d) S1) := by
        cases hgc : g wk.items[i] ρ2 S2 with
        | ok a S => rw [hgc] at q3; exact q3
        | ex c d S => rw [hgc] at q3; exact q3
        | stuck => rw [hgc] at q3; exact q3
      refine sg E0 ι2 S2 H3 σ2 ρ2 x _ _ R3 (e2.mono x3) r3 (Post.bind q4 fun ρ4 S4 ι4 H4 x4 R4 q5 σ4 e4 _ => ?_)
      refine sb ι4 S4 H4 σ4 ρ4 _ R4 e4 (Post.bind q5 fun f S5 ι5 H5 x5 R5 q6 => ?_)
      have xx : Ext ι1 S1 H1 ι5 S5 H5 := ((x2.trans x3).trans x4).trans x5
      cases f with
      | nx ρ5 => exact fun σ5 e5 => ⟨hlt, ι5, S5, ρ5, xx, R5, e5, q6⟩
      | ct ρ5 => exact fun σ5 e5 => ⟨hlt, ι5, S5, ρ5, xx, R5, e5, q6⟩
      | bk ρ5 => exact fun σ5 e5 => Post.here R5 q6 σ5 e5
      | rt d => exact fun v r => Post.here R5 q6 v r
    · exact q2.elim
  · have ei : i = wk.items.length := by omega
    subst ei
    rw [List.drop_length] at q2
    unfold forL at q2
    split at q2
    · rename_i hok
      exact .inl ⟨(hJ ι2 S2 H2 x2 R2 hok).1, Post.here R2 q2 σ2 e2⟩
    · exact q2.elim

/-! ### while: n turns at most -/
def whileL (c : TCode) (b : SCode) : Nat → SCode
  | 0, _, _ => .stuck
  | n + 1, ρ, S => (c ρ S).bind fun k S1 => if k = true then (b ρ S1).bind fun f S2 => match f with
      | .nx ρ1 => whileL c b n ρ1 S2
      | .ct ρ1 => whileL c b n ρ1 S2
      | .bk ρ1 => .ok (.nx ρ1) S2
      | .rt d => .ok (.rt d) S2 else .ok (.nx ρ) S1
def FUEL : Nat := 1000000000000
def c_while (c : TCode) (b : SCode) : SCode := fun ρ S => whileL c b FUEL ρ S
theorem ds_while {c : Expr} {body : List Stmt} {pos : Pos} {k : TCode} {b : SCode} (hc : DT Xs G E c k) (hb : DSs Xs G E body b)
    (hp : ∀ j, PassesOwn (model (Xs j).prog (Xs j).w) (Xs j).A (Xs j).env (Xs j).xe) (hE : ∀ σ σ', E σ = E σ' := by exact fun _ _ => rfl) : DS Xs G E (.While c body [] pos) (c_while k b) := by
  obtain ⟨E0, rfl⟩ : ∃ E0, E = fun _ => E0 := ⟨E [], funext fun σ => hE σ []⟩
  obtain ⟨tc, pc, sc⟩ := hc
  obtain ⟨tb, pb, sb⟩ := hb
  refine ⟨tWhile tc tb, fun j => ps_while (hp j) (pc j) (pb j), fun ι S H σ ρ Dn R e q => ?_⟩
  refine ⟨fun m σ H => ∃ ι2 S2 ρ2, Rel G ι2 S2 H ∧ REnv G ι2 S2 H σ ρ2 ∧ Post G E0 ι2 S2 H (PF G Dn) (whileL k b m ρ2 S2), ⟨FUEL, ι, S, ρ, R, e, q⟩, ?_⟩
  rintro m σ2 H2 ⟨ι2, S2, ρ2, R2, e2, q2⟩
  cases m with
  | zero => exact q2.elim
  | succ m =>
    have q2 : Post G E0 ι2 S2 H2 (PF G Dn) ((k ρ2 S2).bind fun c S1 => if c = true then (b ρ2 S1).bind fun f S2 => match f with
      | .nx ρ1 => whileL k b m ρ1 S2
      | .ct ρ1 => whileL k b m ρ1 S2
      | .bk ρ1 => .ok (.nx ρ1) S2
      | .rt d => .ok (.rt d) S2 else .ok (.nx ρ2) S1) := q2
    refine sc.go R2 e2 q2 fun t S3 ι3 H3 x3 R3 e3 q3 => ?_
    cases t with
    | true =>
      rw [if_pos rfl] at q3 ⊢
      refine ⟨fun σ' H' => ∃ ι2 S2 ρ2, Rel G ι2 S2 H' ∧ REnv G ι2 S2 H' σ' ρ2 ∧ Post G E0 ι2 S2 H' (PF G Dn) (whileL k b m ρ2 S2), fun σ' H' h => ⟨m, Nat.lt_succ_self _, h⟩, ?_⟩
      refine sb ι3 S3 H3 σ2 ρ2 _ R3 e3 (Post.bind q3 fun f S4 ι4 H4 x4 R4 q4 => ?_)
      cases f with
      | nx ρ5 => exact fun σ5 e5 => ⟨ι4, S4, ρ5, R4, e5, q4⟩
      | ct ρ5 => exact fun σ5 e5 => ⟨ι4, S4, ρ5, R4, e5, q4⟩
      | bk ρ5 => exact fun σ5 e5 => Post.here R4 q4 σ5 e5
      | rt d => exact fun v r => Post.here R4 q4 v r
    | false =>
      rw [if_neg Bool.false_ne_true] at q3 ⊢
      exact Post.here R3 q3 σ2 e3
end
end DL

set_option Elab.async false
set_option linter.all false
set_option maxRecDepth 100000
set_option maxHeartbeats 4000000
/-! DL3: comprehensions, defs and their calls -/
namespace DL
open PySem PySem.Spec PyProof.Rows L2

/-! ### comprehensions: nothing may be raised within -/
def Res.bindN {α β : Type} (r : Res α) (k : α → Sto → Res β) : Res β :=
  match r with
  | .ok a S => k a S
  | _ => .stuck
@[simp] theorem Res.bindN_ok {α β : Type} (a : α) (S : Sto) (k : α → Sto → Res β) : (Res.ok a S).bindN k = k a S := rfl
theorem Post.bindN {G : Gx} {E E' : XK} {ι : Ix} {S : Sto} {H : Hp} {α β : Type} {P : α → Ix → Sto → Hp → Prop} {P' : β → Ix → Sto → Hp → Prop} {r : Res α} {k : α → Sto → Res β} (p : Post G E ι S H P' (r.bindN k))
    (hk : ∀ a S1 ι1 H1, Ext ι S H ι1 S1 H1 → Rel G ι1 S1 H1 → Post G E ι1 S1 H1 P' (k a S1) → P a ι1 S1 H1) : Post G E' ι S H P r := by
  cases r with
  | ok a S2 => exact fun ι2 H2 y R => hk a S2 ι2 H2 y R (Post.back y p)
  | ex c d S2 => exact p.elim
  | stuck => exact p
def wipeE (ρ : Env) : List Nat → Env
  | [] => ρ
  | v :: vs => (wipeE ρ vs).set v none
theorem REnv.wipe {G : Gx} {ι : Ix} {S : Sto} {H : Hp} {σ : L2.St} {ρ : Env} (e : REnv G ι S H σ ρ) : ∀ vs : List Nat, REnv G ι S H (L2.wipe σ vs) (wipeE ρ vs)
  | [] => e
  | v :: vs => by
    have ih := e.wipe vs
    unfold L2.wipe wipeE
    refine ⟨by simp [ih.len], fun j d q => ?_⟩
    rw [List.getElem?_set] at q ⊢
    by_cases hi : v = j
    · subst hi
      rw [if_pos rfl] at q
      split at q <;> cases q
    · rw [if_neg hi] at q ⊢
      exact ih.at_ j d q
open Classical in
noncomputable def lcL (ok : Sto → Prop) (g : D → Env → Sto → Res Env) (t : TCode) (a : ECode) (ρ : Env) : List D → Sto → Res (List D)
  | [], S => if ok S then .ok [] S else .stuck
  | d :: ds, S => if ok S then (g d ρ S).bindN fun ρ1 S1 => (t ρ1 S1).bindN fun b S2 => if b = true then (a ρ1 S2).bindN fun y S3 => (lcL ok g t a ρ ds S3).bind fun ys S4 => .ok (y :: ys) S4 else lcL ok g t a ρ ds S2 else .stuck
noncomputable def c_lc (ci : Env → Sto → Res Wk) (g : D → Env → Sto → Res Env) (t : TCode) (a : ECode) (own : List Nat) : ECode := fun ρ S => (ci ρ S).bind fun wk S1 =>
  if fits wk.items.length = true then (lcL wk.ok g t a (wipeE ρ own) wk.items S1).bind fun ds S2 => .ok (.lst ds) S2 else .stuck
def c_yes : TCode := fun _ S => .ok true S
def DTs {I : Type} (Xs : I → Cx) (G : Gx) (E : WK) (ifs : List Expr) (c : TCode) : Prop := ∃ t, (∀ i, PTs (Xs i) ifs t) ∧ SndT G E t c
section
variable {I : Type} {Xs : I → Cx} {G : Gx} {E : WK} {kk : Nat}
theorem dts_nil : DTs Xs G E [] c_yes := ⟨_, fun _ => pts_nil, fun ι S H σ ρ Q R e q => Post.here R q⟩
theorem dts_one {c : Expr} {t : TCode} (h : DT Xs G E c t) : DTs Xs G E [c] t := by
  obtain ⟨tt, p, s⟩ := h
  exact ⟨tt, fun j => pts_one (p j), s⟩
/-- the list that a comprehension has built is a frozen list -/
theorem Rel.unhide {ι : Ix} {S : Sto} {H : Hp} {p : Addr} (R : Rel G ι S H) : Rel G ⟨ι.l, fun a => ι.z a ∧ a ≠ p⟩ S H := by
  have hw : ∀ a, Lv ⟨ι.l, fun a => ι.z a ∧ a ≠ p⟩ S a → Lv ι S a := fun a z => by
    rcases z with z | z
    · exact .inl z
    · exact .inr z.1
  refine ⟨R.len, R.nd, fun n c h => ?_, R.trk, fun a z => R.ztr a z.1⟩
  obtain ⟨a, h1, h2⟩ := R.cell n c h
  refine ⟨a, h1, ?_⟩
  cases c with
  | lst ds =>
    obtain ⟨vs, a1, a2⟩ := h2
    exact ⟨vs, a1, a2.weak (ι := ι) (ι' := ⟨ι.l, fun a => ι.z a ∧ a ≠ p⟩) hw rfl⟩
  | dK ds =>
    obtain ⟨vs, a1, a3, a2⟩ := h2
    exact ⟨vs, a1, a3, a2.weak (ι := ι) (ι' := ⟨ι.l, fun a => ι.z a ∧ a ≠ p⟩) hw rfl⟩
  | dT ds =>
    obtain ⟨vs, a1, a3, a2⟩ := h2
    exact ⟨vs, a1, a3, a2.weak (ι := ι) (ι' := ⟨ι.l, fun a => ι.z a ∧ a ≠ p⟩) hw rfl⟩
  | ins c fs =>
    obtain ⟨dx, vs, a1, a3, a2⟩ := h2
    exact ⟨dx, vs, a1, a3, a2.weak (ι := ι) (ι' := ⟨ι.l, fun a => ι.z a ∧ a ≠ p⟩) hw rfl⟩
/-- writing what is hidden changes nothing that is known -/
theorem Ext.hid {ι : Ix} {S : Sto} {H H0 : Hp} {ι0 : Ix} {S0 : Sto} {p : Addr} {o : HO} (x : Ext ι0 S0 H0 ι S H) (hp : H0 p = none) : Ext ι0 S0 H0 ι S (upd H p o) := by
  refine ⟨x.pre, x.zs, x.zn, fun a u e => ?_, x.liv, fun a u e hl => ?_⟩
  · rw [upd_ne (ne_of_none e hp)]
    exact x.trk a u e
  · rw [upd_ne (ne_of_none e hp)]
    exact x.keep a u e hl
theorem Rel.hid {ι : Ix} {S : Sto} {H : Hp} {p : Addr} {o : HO} (R : Rel G ι S H) (hz : ι.z p) (hnt : ∀ xs, o ≠ .tup xs) : (∀ v d, Rep G ι (Lv ι S) H v d → Rep G ι (Lv ι S) (upd H p o) v d) ∧ (∀ vs ds, Reps G ι (Lv ι S) H vs ds → Reps G ι (Lv ι S) (upd H p o) vs ds) ∧ Rel G ι S (upd H p o) := by
  have ne : ∀ a, ¬ Lv ι S a → a ≠ p := fun a h e => h (e ▸ .inr hz)
  have go : ∀ a u, H a = some u → ¬ Lv ι S a → upd H p o a = some u := fun a u e h => by
    rw [upd_ne (ne a h)]
    exact e
  have rdgo : ∀ a u, Rd H a u → ¬ Lv ι S a → Rd (upd H p o) a u := fun a u e h => by
    rcases e with e | ⟨w, e⟩
    · exact .inl (go a _ e h)
    · exact .inr ⟨w, go a _ e h⟩
  have both : ∀ (n : Nat), (∀ v d, sizeOf d ≤ n → Rep G ι (Lv ι S) H v d → Rep G ι (Lv ι S) (upd H p o) v d) ∧ ∀ vs ds, sizeOf ds ≤ n → Reps G ι (Lv ι S) H vs ds → Reps G ι (Lv ι S) (upd H p o) vs ds := by
    intro n
    induction n with
    | zero =>
      refine ⟨fun v d h r => ?_, fun vs ds h r => ?_⟩
      · cases d <;> simp at h
      · cases ds with
        | nil => cases r; exact .nil
        | cons d ds => simp at h
    | succ n ih =>
      obtain ⟨i1, i2⟩ := ih
      have hK : ∀ {κ : Type} [SizeOf κ] (kds : List (κ × D)), sizeOf (kds.map (·.2)) ≤ sizeOf kds := fun kds => by
        induction kds with
        | nil => simp
        | cons k ks ih =>
          obtain ⟨k1, k2⟩ := k
          simp only [List.map_cons, List.cons.sizeOf_spec, Prod.mk.sizeOf_spec]
          omega
      refine ⟨fun v d h r => ?_, fun vs ds h r => ?_⟩
      · cases r with
        | non => exact .non
        | bl b => exact .bl b
        | int i => exact .int i
        | str s => exact .str s
        | con a => exact .con a
        | ty n => exact .ty n
        | tup q k r => exact .tup (go _ _ q k) k (i2 _ _ (by simp at h; omega) r)
        | wtp q r => exact .wtp q (i2 _ _ (by simp at h; omega) r)
        | lst q k r => exact .lst (go _ _ q k) k (i2 _ _ (by simp at h; omega) r)
        | scr q r =>
          refine .scr ?_ (i2 _ _ (by simp at h; omega) r)
          rcases q with q | q
          · exact .inl ⟨rdgo _ _ q.1 q.2, q.2⟩
          · exact .inr q
        | @dK _ _ kds q k e r => exact .dK (go _ _ q k) k e (i2 _ _ (by simp only [D.dK.sizeOf_spec] at h; exact Nat.le_trans (hK kds) (by omega)) r)
        | @dT _ _ kds q k e r => exact .dT (go _ _ q k) k e (i2 _ _ (by simp only [D.dT.sizeOf_spec] at h; exact Nat.le_trans (hK kds) (by omega)) r)
        | obj q k e r => exact .obj (go _ _ q k) k e (i2 _ _ (by simp at h; omega) r)
        | ref q => exact .ref q
        | err q1 q2 k r => exact .err q1 (go _ _ q2 k) k (i1 _ _ (by simp at h; omega) r)
      · cases r with
        | nil => exact .nil
        | cons r0 rs => exact .cons (i1 _ _ (by simp at h; omega) r0) (i2 _ _ (by simp at h; omega) rs)
  have b1 : ∀ v d, Rep G ι (Lv ι S) H v d → Rep G ι (Lv ι S) (upd H p o) v d := fun v d r => (both (sizeOf d)).1 v d (Nat.le_refl _) r
  have b2 : ∀ vs ds, Reps G ι (Lv ι S) H vs ds → Reps G ι (Lv ι S) (upd H p o) vs ds := fun vs ds r => (both (sizeOf ds)).2 vs ds (Nat.le_refl _) r
  have np : p ∉ ι.l := (R.ztr p hz).2
  refine ⟨b1, b2, R.len, R.nd, fun n c h => ?_, fun a h => ?_, fun a h => ?_⟩
  · obtain ⟨a, h1, h2⟩ := R.cell n c h
    have na : a ≠ p := fun e => np (e ▸ List.mem_of_getElem? h1)
    refine ⟨a, h1, ?_⟩
    cases c with
    | lst ds =>
      obtain ⟨vs, a1, a2⟩ := h2
      exact ⟨vs, (upd_ne na).trans a1, b2 _ _ a2⟩
    | dK ds =>
      obtain ⟨vs, a1, a3, a2⟩ := h2
      exact ⟨vs, (upd_ne na).trans a1, a3, b2 _ _ a2⟩
    | dT ds =>
      obtain ⟨vs, a1, a3, a2⟩ := h2
      exact ⟨vs, (upd_ne na).trans a1, a3, b2 _ _ a2⟩
    | ins c fs =>
      obtain ⟨dx, vs, a1, a3, a2⟩ := h2
      exact ⟨dx, vs, (upd_ne na).trans a1, a3, b2 _ _ a2⟩
  · obtain ⟨u, e⟩ := R.trk a h
    have na : a ≠ p := fun z => np (z ▸ h)
    exact ⟨u, by rw [upd_ne na]; exact e⟩
  · obtain ⟨⟨u, e, n⟩, q⟩ := R.ztr a h
    refine ⟨?_, q⟩
    by_cases z : a = p
    · exact ⟨o, by rw [z]; exact upd_same, hnt⟩
    · exact ⟨u, by rw [upd_ne z]; exact e, n⟩
theorem Post.stepN {Ea : XK} {E' : XK} {ιb ι : Ix} {Sb S : Sto} {Hb H : Hp} {α β : Type} {P : α → Ix → Sto → Hp → Prop} {P' : β → Ix → Sto → Hp → Prop} {r : Res α} {k : α → Sto → Res β} (p : Post G Ea ιb Sb Hb P' (r.bindN k))
    (hk : ∀ a S1 ι1 H1, Ext ι S H ι1 S1 H1 → Rel G ι1 S1 H1 → Post G Ea ιb Sb Hb P' (k a S1) → P a ι1 S1 H1) : Post G E' ι S H P r := by
  cases r with
  | ok a S2 => exact fun ι2 H2 y R => hk a S2 ι2 H2 y R p
  | ex c d S2 => exact p.elim
  | stuck => exact p
theorem wipe_wipe {own : List Nat} : ∀ (us : List Nat) (τ : L2.St), (∀ u ∈ us, u ∈ own) → wipe (wipe τ us) own = wipe τ own
  | [], τ, _ => rfl
  | u :: us, τ, hu => by
    show wipe ((wipe τ us).set u none) own = _
    rw [wipe_set (hu u (by simp)), wipe_wipe us τ fun w hw => hu w (by simp [hw])]
theorem snd_lc {wi : TI} {g : TG} {tt : TT} {te : TE} {sl own : List Nat} {ci : Env → Sto → Res Wk} {cg : D → Env → Sto → Res Env} {ct : TCode} {ca : ECode} (si : SndIt G E wi ci) (sg : SndG G sl g cg) (st : SndT G (fun _ => E0) tt ct) (sa : Snd G (fun _ => E0) te ca) (hsl : ∀ i ∈ sl, i ∈ own) :
    Snd G E (tLc wi g tt te own) (c_lc ci cg ct ca own) := fun ι S H σ ρ Q R e q => by
  refine si ι S H σ ρ _ R e (Post.bind q fun wk S1 ι1 H1 x1 R1 q1 J hJ => ?_)
  intro Dl hD
  by_cases hf : fits wk.items.length = true
  · rw [if_pos hf] at q1
    have hfl := fits_lt hf
    have np : Dl ∉ ι1.l := fun z => by
      obtain ⟨u, h⟩ := R1.trk Dl z
      rw [hD] at h
      cases h
    have w1 : REnv G ι1 S1 H1 (wipe σ own) (wipeE ρ own) := (e.mono x1).wipe own
    -- the state while the list is built
    refine ⟨fun i m H' => m = wk.items.length - i ∧ i ≤ wk.items.length ∧ ∃ (ι2 : Ix) (S2 : Sto) (av : List V) (ad : List D), Ext ι1 S1 H1 ι2 S2 H' ∧ Rel G ι2 S2 H' ∧ ι2.z Dl ∧ H' Dl = some (.lst av) ∧ Reps G ι2 (Lv ι2 S2) H' av ad ∧ ad.length ≤ i ∧
      Post G (E σ) ι1 S1 H1 (fun ys ι' S' H'' => ∀ v, Rep G ι' (Lv ι' S') H'' v (.lst (ad ++ ys)) → Q v H'') (lcL wk.ok cg ct ca (wipeE ρ own) (wk.items.drop i) S2), ⟨_, rfl, Nat.zero_le _, ?_⟩, ?_⟩
    · have R2 : Rel G ι1 S1 (upd H1 Dl (.lst [])) := R1.same (keepNew hD)
      have x0 : Ext ι1 S1 H1 ι1 S1 (upd H1 Dl (.lst [])) := Ext.same (keepNew hD)
      have xh : Ext ι1 S1 H1 (ι1.hide Dl) S1 (upd H1 Dl (.lst [])) := by
        refine ⟨⟨[], by simp⟩, fun a z => .inl z, fun a z => ?_, x0.trk, x0.liv, x0.keep⟩
        rcases z with z | z
        · exact .inl z
        · exact .inr (by rw [z]; exact hD)
      refine ⟨ι1.hide Dl, S1, [], [], xh, ⟨R2.len, R2.nd, fun n c h => ?_, R2.trk, fun a z => ?_⟩, .inr rfl, upd_same, .nil, Nat.zero_le _, ?_⟩
      · obtain ⟨a, h1, h2⟩ := R1.cell n c h
        exact ⟨a, h1, h2.mono xh (upd_ne fun z => np (z ▸ List.mem_of_getElem? h1))⟩
      · rcases z with z | z
        · exact R2.ztr a z
        · rw [z]
          exact ⟨⟨_, upd_same, fun _ h => nomatch h⟩, np⟩
      · rw [List.drop_zero]
        exact Post.bind q1 fun ys S3 ι3 H3 x3 R3 q3 v r => Post.here R3 q3 v r
    · rintro i m H2 ⟨rfl, hi, ι2, S2, av, ad, x2, R2, z2, d2, r2, l2, q2⟩
      by_cases hlt : i < wk.items.length
      · rw [List.drop_eq_getElem_cons hlt] at q2
        unfold lcL at q2
        split at q2
        · rename_i hok
          obtain ⟨_, hw⟩ := hJ ι2 S2 H2 x2 R2 hok
          obtain ⟨hgo, hy⟩ := hw i wk.items[i] (by simp [hlt])
          refine .inr ⟨hgo, fun H' => i + 1 ≤ wk.items.length ∧ ∃ (ι2 : Ix) (S2 : Sto) (av : List V) (ad : List D), Ext ι1 S1 H1 ι2 S2 H' ∧ Rel G ι2 S2 H' ∧ ι2.z Dl ∧ H' Dl = some (.lst av) ∧ Reps G ι2 (Lv ι2 S2) H' av ad ∧ ad.length ≤ i + 1 ∧
            Post G (E σ) ι1 S1 H1 (fun ys ι' S' H'' => ∀ v, Rep G ι' (Lv ι' S') H'' v (.lst (ad ++ ys)) → Q v H'') (lcL wk.ok cg ct ca (wipeE ρ own) (wk.items.drop (i + 1)) S2), fun H' h => ⟨wk.items.length - (i + 1), by omega, rfl, h.1, h.2⟩, fun x H3 hx => ?_⟩
          obtain ⟨x3, R3, r3, k3⟩ := hy x H3 hx
          have e3 : REnv G ι2 S2 H3 (wipe σ own) (wipeE ρ own) := w1.mono (x2.trans x3)
          refine sg E0 ι2 S2 H3 (wipe σ own) (wipeE ρ own) x _ _ R3 e3 r3 (Post.stepN q2 fun ρ4 S4 ι4 H4 x4 R4 q4 σ4 e4 hw4 => ⟨?_, ?_⟩)
          · rw [hw4 own hsl]
            exact wipe_wipe own σ fun _ h => h
          · refine st ι4 S4 H4 σ4 ρ4 _ R4 e4 (Post.stepN q4 fun b S5 ι5 H5 x5 R5 q5 => ?_)
            have x35 : Ext ι2 S2 H3 ι5 S5 H5 := x4.trans x5
            have nl : ∀ {ι' : Ix} {S' : Sto} {H' : Hp}, Rel G ι' S' H' → ι'.z Dl → ¬ Liv ι' S' Dl := fun R' z' h => by
              obtain ⟨n, c, h1, _⟩ := h
              exact (R'.ztr Dl z').2 (List.mem_of_getElem? h1)
            have d3 : H3 Dl = some (.lst av) := k3 Dl _ d2
            have d5 : H5 Dl = some (.lst av) := x35.keep Dl _ d3 (nl R3 z2)
            have z5 : ι5.z Dl := x35.zs Dl z2
            have r5 : Reps G ι5 (Lv ι5 S5) H5 av ad := (r2.mono x3).mono x35
            show (if b = true then _ else _)
            cases b with
            | true =>
              rw [if_pos rfl] at q5 ⊢
              refine sa ι5 S5 H5 σ4 ρ4 _ R5 (e4.mono x5) (Post.stepN q5 fun y S6 ι6 H6 x6 R6 q6 v r6 => ?_)
              have d6 : H6 Dl = some (.lst av) := x6.keep Dl _ d5 (nl R5 z5)
              have z6 : ι6.z Dl := x6.zs Dl z5
              obtain ⟨hr1, hr2, R7⟩ := R6.hid (o := .lst (av ++ [v])) z6 (fun _ h => nomatch h)
              have xx : Ext ι1 S1 H1 ι6 S6 H6 := (((x2.trans x3).trans x35).trans x6)
              refine ⟨av, d6, ?_, hlt, ι6, S6, av ++ [v], ad ++ [y], xx.hid hD, R7, z6, upd_same, hr2 _ _ ((r5.mono x6).app (.cons r6 .nil)), ?_, ?_⟩
              · rw [r5.length]
                omega
              · simp
                omega
              · cases hc : lcL wk.ok cg ct ca (wipeE ρ own) (wk.items.drop (i + 1)) S6 with
                | ok ys S8 =>
                  rw [hc] at q6
                  intro ι8 H8 x8 R8 v rv
                  rw [List.append_assoc, List.singleton_append] at rv
                  exact q6 ι8 H8 x8 R8 v rv
                | ex c d S8 =>
                  rw [hc] at q6
                  exact q6
                | stuck =>
                  rw [hc] at q6
                  exact q6
            | false =>
              rw [if_neg Bool.false_ne_true] at q5 ⊢
              exact ⟨hlt, ι5, S5, av, ad, (x2.trans x3).trans x35, R5, z5, d5, r5, by omega, q5⟩
        · exact q2.elim
      · have ei : i = wk.items.length := by omega
        subst ei
        rw [List.drop_length] at q2
        unfold lcL at q2
        split at q2
        · rename_i hok
          refine .inl ⟨(hJ ι2 S2 H2 x2 R2 hok).1, ?_⟩
          have nz : ∀ a, ι1.z a → a ≠ Dl := fun a z e' => by
            obtain ⟨⟨u, h, _⟩, _⟩ := R1.ztr a z
            rw [e', hD] at h
            cases h
          have hw : ∀ a, Lv ⟨ι2.l, fun a => ι2.z a ∧ a ≠ Dl⟩ S2 a → Lv ι2 S2 a := fun a z => by
            rcases z with z | z
            · exact .inl z
            · exact .inr z.1
          have xu : Ext ι1 S1 H1 ⟨ι2.l, fun a => ι2.z a ∧ a ≠ Dl⟩ S2 H2 := ⟨x2.pre, fun a z => ⟨x2.zs a z, nz a z⟩, fun a z => x2.zn a z.1, x2.trk, x2.liv, x2.keep⟩
          have fin := q2 _ H2 xu R2.unhide (.ref Dl) (.lst d2 (fun z => ?_) (by rw [List.append_nil]; exact r2.weak (ι := ι2) (ι' := ⟨ι2.l, fun a => ι2.z a ∧ a ≠ Dl⟩) hw rfl))
          · exact fin
          · rcases z with ⟨n, c, h1, _⟩ | z
            · exact (R2.ztr Dl z2).2 (List.mem_of_getElem? h1)
            · exact z.2 rfl
        · exact q2.elim
  · rw [if_neg hf] at q1
    exact q1.elim
/-- the contexts of a comprehension's block -/
abbrev Blk {I : Type} (Xs : I → Cx) (scope : Scope) : I × Shared × Hp × Addr × List (Str × Addr) × List Addr → Cx :=
  fun p => (Xs p.1).blk p.2.1 p.2.2.1 scope (compEnvC scope p.2.2.2.2.1 p.2.2.2.1 (Xs p.1).env) p.2.2.2.2.2
theorem Fam.blk (F : Fam Xs G E kk) (scope : Scope) : Fam (Blk Xs scope) G (fun _ => E0) kk := ⟨⟨fun p => F.P p.1, fun p => F.w p.1, fun p => F.K p.1, fun p => F.mg p.1, fun p => F.base p.1, fun p => F.nd p.1, fun p => F.gd p.1, fun p => F.u64 p.1, fun p => takes0⟩, fun p => F.calm p.1, fun p => F.room p.1⟩
theorem de_lc (F : Fam Xs G E kk) {elt tg iter : Expr} {ifs : List Expr} {scope : Scope} {own : List (Str × Nat)} {pos : Pos} {sl : List Nat} {ci : Env → Sto → Res Wk} {cg : D → Env → Sto → Res Env} {ct : TCode} {ca : ECode} (hi : DI Xs G E tg iter ci)
    (ok : ∀ j, BlkOk (Xs j).N (Xs j).env.scope scope own) (hg : DG (Blk Xs scope) G tg sl cg) (ht : DTs (Blk Xs scope) G (fun _ => E0) ifs ct) (he : DE (Blk Xs scope) G (fun _ => E0) elt ca) (hsl : ∀ i ∈ sl, i ∈ own.map (·.2)) (hs : ∀ j x, foldedSetIterable iter (Xs j).env x = pure x) :
    DE Xs G E (.ListComp elt [⟨tg, iter, ifs, 0⟩] scope pos) (c_lc ci cg ct ca (own.map (·.2))) := by
  obtain ⟨wi, pi, si⟩ := hi
  obtain ⟨gg, pg, sg⟩ := hg
  obtain ⟨tt, pt, st⟩ := ht
  obtain ⟨te, pe, se⟩ := he
  exact ⟨_, fun j => pe_lc (F.calm j) (F.nd j) (pi j) (ok j) (fun s H C cl fp => pg (j, s, H, C, cl, fp)) (fun s H C cl fp => pt (j, s, H, C, cl, fp)) (fun s H C cl fp => pe (j, s, H, C, cl, fp)) (hs j), snd_lc si sg st se hsl⟩
theorem ds_setLc (F : Fam Xs G E kk) {i : Nat} {y : Str} {py : Pos} {elt tg iter : Expr} {ifs : List Expr} {scope : Scope} {own : List (Str × Nat)} {pos spos : Pos} {sl : List Nat} {ci : Env → Sto → Res Wk} {cg : D → Env → Sto → Res Env} {ct : TCode} {ca : ECode}
    (hy : ∀ j, (Xs j).N[i]? = some y) (hyl : ∀ j, (Xs j).env.scope.names.lookup y = some .local) (hsw : ∀ j, swapsWith (.ListComp elt [⟨tg, iter, ifs, 0⟩] scope pos) (some (.Name y py)) spos.line (Xs j).env = pure true) (hi : DI Xs G E tg iter ci)
    (ok : ∀ j, BlkOk (Xs j).N (Xs j).env.scope scope own) (hg : DG (Blk Xs scope) G tg sl cg) (ht : DTs (Blk Xs scope) G (fun _ => E0) ifs ct) (he : DE (Blk Xs scope) G (fun _ => E0) elt ca) (hsl : ∀ i ∈ sl, i ∈ own.map (·.2)) (hs : ∀ j x, foldedSetIterable iter (Xs j).env x = pure x) :
    DS Xs G E (.Assign [.Name y py] (.ListComp elt [⟨tg, iter, ifs, 0⟩] scope pos) spos) (c_set i (c_lc ci cg ct ca (own.map (·.2)))) := by
  obtain ⟨wi, pi, si⟩ := hi
  obtain ⟨gg, pg, sg⟩ := hg
  obtain ⟨tt, pt, st⟩ := ht
  obtain ⟨te, pe, se⟩ := he
  refine ⟨_, fun j => ps_setLc (F.calm j) (F.nd j) (hy j) (hyl j) (hsw j) (pi j) (ok j) (fun s H C cl fp => pg (j, s, H, C, cl, fp)) (fun s H C cl fp => pt (j, s, H, C, cl, fp)) (fun s H C cl fp => pe (j, s, H, C, cl, fp)) (hs j), fun ι S H σ ρ Dn R e q => ?_⟩
  exact (snd_lc si sg st se hsl).go R e q fun d S1 ι1 H1 v x1 R1 e1 r1 q1 => Post.here R1 q1 _ (e1.set r1 i)
end
end DL

set_option Elab.async false
set_option linter.all false
set_option maxRecDepth 100000
set_option maxHeartbeats 4000000
/-! DL4: defs, their mirrors, their calls -/
namespace DL
open PySem PySem.Spec PyProof.Rows L2

/-! ### behind a call the cells that are the call's own are forgotten -/
mutual
def refsLt (n : Nat) : D → Bool
  | .tup ds => refsLtL n ds
  | .lst ds => refsLtL n ds
  | .scr ds => refsLtL n ds
  | .wtp ds => refsLtL n ds
  | .dK kvs => refsLtK n kvs
  | .dT kvs => refsLtT n kvs
  | .obj _ fs => refsLtL n fs
  | .ref m => decide (m < n)
  | .non => true
  | .bl _ => true
  | .int _ => true
  | .str _ => true
  | .con _ => true
  | .err _ d => refsLt n d
  | .ty _ => true
def refsLtL (n : Nat) : List D → Bool
  | [] => true
  | d :: ds => refsLt n d && refsLtL n ds
def refsLtK (n : Nat) : List (Key × D) → Bool
  | [] => true
  | (_, d) :: ds => refsLt n d && refsLtK n ds
def refsLtT (n : Nat) : List (List Key × D) → Bool
  | [] => true
  | (_, d) :: ds => refsLt n d && refsLtT n ds
end
def cellLt (n : Nat) : Option Cell → Bool
  | none => true
  | some (.lst ds) => refsLtL n ds
  | some (.dK kvs) => refsLtK n kvs
  | some (.dT kvs) => refsLtT n kvs
  | some (.ins _ fs) => refsLtL n fs
theorem refsLtK_map {n : Nat} : ∀ {kvs : List (Key × D)}, refsLtK n kvs = true → refsLtL n (kvs.map (·.2)) = true
  | [], _ => rfl
  | (k, d) :: r, h => by
    simp only [refsLtK, Bool.and_eq_true] at h
    simp only [List.map_cons, refsLtL, Bool.and_eq_true]
    exact ⟨h.1, refsLtK_map h.2⟩
theorem refsLtT_map {n : Nat} : ∀ {kvs : List (List Key × D)}, refsLtT n kvs = true → refsLtL n (kvs.map (·.2)) = true
  | [], _ => rfl
  | (k, d) :: r, h => by
    simp only [refsLtT, Bool.and_eq_true] at h
    simp only [List.map_cons, refsLtL, Bool.and_eq_true]
    exact ⟨h.1, refsLtT_map h.2⟩
theorem refsLtK_of {n : Nat} : ∀ {kvs : List (Key × D)}, refsLtL n (kvs.map (·.2)) = true → refsLtK n kvs = true
  | [], _ => rfl
  | (k, d) :: r, h => by
    simp only [List.map_cons, refsLtL, Bool.and_eq_true] at h
    simp only [refsLtK, Bool.and_eq_true]
    exact ⟨h.1, refsLtK_of h.2⟩
theorem refsLtT_of {n : Nat} : ∀ {kvs : List (List Key × D)}, refsLtL n (kvs.map (·.2)) = true → refsLtT n kvs = true
  | [], _ => rfl
  | (k, d) :: r, h => by
    simp only [List.map_cons, refsLtL, Bool.and_eq_true] at h
    simp only [refsLtT, Bool.and_eq_true]
    exact ⟨h.1, refsLtT_of h.2⟩
section
variable {G : Gx} {E : XK} {ι ι' : Ix} {S S' : Sto} {H H' : Hp}
mutual
theorem Rep.cut {L L' : Addr → Prop} {n : Nat} (h : ∀ a, L' a → L a) (hl : ∀ m, m < n → ι'.l[m]? = ι.l[m]?) : ∀ {v : V} {d : D}, refsLt n d = true → Rep G ι L H v d → Rep G ι' L' H v d
  | _, _, _, .non => .non
  | _, _, _, .bl b => .bl b
  | _, _, _, .int i => .int i
  | _, _, _, .str x => .str x
  | _, _, _, .con a => .con a
  | _, _, _, .ty n => .ty n
  | _, _, c, .tup q k r => .tup q (fun z => k (h _ z)) (Reps.cut h hl c r)
  | _, _, c, .wtp q r => .wtp q (Reps.cut h hl c r)
  | _, _, c, .lst q k r => .lst q (fun z => k (h _ z)) (Reps.cut h hl c r)
  | _, _, c, .scr (.inl q) r => .scr (.inl ⟨q.1, fun z => q.2 (h _ z)⟩) (Reps.cut h hl c r)
  | _, _, c, .scr (.inr q) r => .scr (.inr q) (Reps.cut h hl c r)
  | _, _, c, .dK q k e r => .dK q (fun z => k (h _ z)) e (Reps.cut h hl (refsLtK_map c) r)
  | _, _, c, .dT q k e r => .dT q (fun z => k (h _ z)) e (Reps.cut h hl (refsLtT_map c) r)
  | _, _, c, .obj q k e r => .obj q (fun z => k (h _ z)) e (Reps.cut h hl c r)
  | _, _, c, .ref q => .ref (by rw [hl _ (of_decide_eq_true c)]; exact q)
  | _, _, c, .err q1 q2 k r => .err q1 q2 (fun z => k (h _ z)) (Rep.cut h hl c r)
theorem Reps.cut {L L' : Addr → Prop} {n : Nat} (h : ∀ a, L' a → L a) (hl : ∀ m, m < n → ι'.l[m]? = ι.l[m]?) : ∀ {vs : List V} {ds : List D}, refsLtL n ds = true → Reps G ι L H vs ds → Reps G ι' L' H vs ds
  | _, _, _, .nil => .nil
  | _, _, c, .cons q r => by
    simp only [refsLtL, Bool.and_eq_true] at c
    exact .cons (Rep.cut h hl c.1 q) (Reps.cut h hl c.2 r)
end
mutual
theorem Rep.lt {L : Addr → Prop} : ∀ {v : V} {d : D}, Rep G ι L H v d → refsLt ι.l.length d = true
  | _, _, .non => rfl
  | _, _, .bl b => rfl
  | _, _, .int i => rfl
  | _, _, .str x => rfl
  | _, _, .con a => rfl
  | _, _, .ty n => rfl
  | _, _, .tup _ _ r => r.lt
  | _, _, .wtp _ r => r.lt
  | _, _, .lst _ _ r => r.lt
  | _, _, .scr _ r => r.lt
  | _, _, .dK _ _ _ r => refsLtK_of r.lt
  | _, _, .dT _ _ _ r => refsLtT_of r.lt
  | _, _, .obj _ _ _ r => r.lt
  | _, _, .ref q => decide_eq_true (List.getElem?_eq_some_iff.mp q).1
  | _, _, .err _ _ _ r => r.lt
theorem Reps.lt {L : Addr → Prop} : ∀ {vs : List V} {ds : List D}, Reps G ι L H vs ds → refsLtL ι.l.length ds = true
  | _, _, .nil => rfl
  | _, _, .cons q r => by
    simp only [refsLtL, Bool.and_eq_true]
    exact ⟨q.lt, r.lt⟩
end
theorem Rel.cellLt (R : Rel G ι S H) {n : Nat} {c : Option Cell} (h : S[n]? = some c) : DL.cellLt S.length c = true := by
  cases c with
  | none => rfl
  | some c =>
    obtain ⟨a, h1, h2⟩ := R.cell n c h
    rw [← R.len]
    cases c with
    | lst ds =>
      obtain ⟨vs, _, r⟩ := h2
      exact r.lt
    | dK ds =>
      obtain ⟨vs, _, _, r⟩ := h2
      exact refsLtK_of r.lt
    | dT ds =>
      obtain ⟨vs, _, _, r⟩ := h2
      exact refsLtT_of r.lt
    | ins c fs =>
      obtain ⟨dx, vs, _, _, r⟩ := h2
      exact r.lt
/-- may the cells from n on be forgotten? -/
def cutOk (S S' : Sto) : Prop := ∀ (n : Nat) (c : Option Cell), n < S.length → S'[n]? = some c → S[n]? = some c ∨ cellLt S.length c = true
theorem cut_ok (x : Ext ι S H ι' S' H') (R : Rel G ι S H) (R' : Rel G ι' S' H') (hc : cutOk S S') :
    Ext ι S H ⟨ι.l, ι'.z⟩ (S'.take S.length) H' ∧ Rel G ⟨ι.l, ι'.z⟩ (S'.take S.length) H' ∧ ∀ v d, refsLt S.length d = true → Rep G ι' (Lv ι' S') H' v d → Rep G ⟨ι.l, ι'.z⟩ (Lv ⟨ι.l, ι'.z⟩ (S'.take S.length)) H' v d := by
  obtain ⟨t, ht⟩ := x.pre
  have hlen : S.length ≤ S'.length := by
    rw [← R.len, ← R'.len, ht]
    simp
  have hix : ∀ m, m < S.length → ι.l[m]? = ι'.l[m]? := fun m hm => by
    rw [ht, List.getElem?_append_left (by rw [R.len]; exact hm)]
  have hst : ∀ m c, (S'.take S.length)[m]? = some c → m < S.length ∧ S'[m]? = some c := fun m c h => by
    rw [List.getElem?_take] at h
    split at h
    · rename_i hm
      exact ⟨hm, h⟩
    · cases h
  have hw : ∀ a, Lv ⟨ι.l, ι'.z⟩ (S'.take S.length) a → Lv ι' S' a := fun a z => by
    rcases z with ⟨m, c, h1, h2⟩ | z
    · obtain ⟨hm, h2⟩ := hst m _ h2
      have h1 : ι.l[m]? = some a := h1
      rw [hix m hm] at h1
      exact .inl ⟨m, c, h1, h2⟩
    · exact .inr z
  refine ⟨⟨⟨[], by simp⟩, x.zs, x.zn, x.trk, fun a z => ?_, x.keep⟩, ⟨?_, R.nd, fun m c h => ?_, fun a h => ?_, fun a z => ?_⟩, fun v d hd r => ?_⟩
  · obtain ⟨m, c, h1, h2⟩ := z
    obtain ⟨hm, h2⟩ := hst m _ h2
    have h1 : ι.l[m]? = some a := h1
    rw [hix m hm] at h1
    exact x.liv a ⟨m, c, h1, h2⟩
  · show ι.l.length = _
    rw [List.length_take, Nat.min_eq_left hlen]
    exact R.len
  · obtain ⟨hm, h2⟩ := hst m _ h
    obtain ⟨a, h1, h3⟩ := R'.cell m c h2
    have hlt : cellLt S.length (some c) = true := by
      rcases hc m (some c) hm h2 with q | q
      · exact R.cellLt q
      · exact q
    refine ⟨a, by rw [← hix m hm] at h1; exact h1, ?_⟩
    have hl : ∀ k, k < S.length → (⟨ι.l, ι'.z⟩ : Ix).l[k]? = ι'.l[k]? := hix
    cases c with
    | lst ds =>
      obtain ⟨vs, a1, a2⟩ := h3
      exact ⟨vs, a1, Reps.cut hw hl hlt a2⟩
    | dK ds =>
      obtain ⟨vs, a1, a3, a2⟩ := h3
      exact ⟨vs, a1, a3, Reps.cut hw hl (refsLtK_map hlt) a2⟩
    | dT ds =>
      obtain ⟨vs, a1, a3, a2⟩ := h3
      exact ⟨vs, a1, a3, Reps.cut hw hl (refsLtT_map hlt) a2⟩
    | ins c fs =>
      obtain ⟨dx, vs, a1, a3, a2⟩ := h3
      exact ⟨dx, vs, a1, a3, Reps.cut hw hl hlt a2⟩
  · obtain ⟨o, e⟩ := R.trk a h
    exact x.trk a o e
  · obtain ⟨q1, q2⟩ := R'.ztr a z
    exact ⟨q1, fun hm => q2 (by rw [ht]; exact List.mem_append_left _ hm)⟩
  · exact Rep.cut (ι := ι') (ι' := ⟨ι.l, ι'.z⟩) hw hix hd r
end
open Classical in
/-- a call's end: its own cells are forgotten where no one can reach them -/
noncomputable def fin (S : Sto) (d : D) (S' : Sto) : Res D := if S'.length = S.length then .ok d S' else if cutOk S S' ∧ refsLt S.length d = true then .ok d (S'.take S.length) else .ok d S'
open Classical in
noncomputable def finX (S : Sto) (c : Nat) (d : D) (S' : Sto) : Res D := if S'.length = S.length then .ex c d S' else if cutOk S S' ∧ refsLt S.length d = true then .ex c d (S'.take S.length) else .ex c d S'
/-- the mirror of a def: n slots, its body -/
noncomputable def fnR (n : Nat) (c : SCode) (ds : List D) (S : Sto) : Res D := match c (ds.map some ++ List.replicate (n - ds.length) none) S with
  | .ok (.rt d) S' => fin S d S'
  | .ok (.nx _) S' => fin S .non S'
  | .ex k d S' => finX S k d S'
  | _ => .stuck
section
variable {G : Gx} {E : XK} {ι : Ix} {S S' : Sto} {H : Hp}
theorem fin_ok {d : D} {Q : VK} (R : Rel G ι S H) (p : Post G E ι S H (PV G Q) (fin S d S')) : ∀ ι' H', Ext ι S H ι' S' H' → Rel G ι' S' H' → ∀ v, Rep G ι' (Lv ι' S') H' v d → Q v H' := fun ι' H' x R' v r => by
  unfold fin at p
  split at p
  · exact p ι' H' x R' v r
  · split at p
    · rename_i h
      obtain ⟨x2, R2, k⟩ := cut_ok x R R' h.1
      exact p _ H' x2 R2 v (k v d h.2 r)
    · exact p ι' H' x R' v r
theorem finX_ok {c : Nat} {d : D} {Q : VK} (R : Rel G ι S H) (p : Post G E ι S H (PV G Q) (finX S c d S')) : ∀ ι' H' dd v, Ext ι S H ι' S' H' → Rel G ι' S' H' → H' dd = some (.xd [(G.exf c, v)]) → Rep G ι' (Lv ι' S') H' v d → E (.ref (G.exc c)) (some dd) H' := fun ι' H' dd v x R' hd r => by
  unfold finX at p
  split at p
  · exact p ι' H' dd v x R' hd r
  · split at p
    · rename_i h
      obtain ⟨x2, R2, k⟩ := cut_ok x R R' h.1
      exact p _ H' dd v x2 R2 hd (k v d h.2 r)
    · exact p ι' H' dd v x R' hd r
end

/-! ### a def keeps its mirror -/
def FnB (G : Gx) (k : Nat) (f : Addr) (fd : FuncData) (ps : List Str) (m : List D → Sto → Res D) : Prop :=
  ∀ (A : Around) (outer : List PySem.Env) (s : Shared) (H : Hp) (args : Args) (us : List Value) (vs : List V) (Q : VK) (E : XK) (ι : Ix) (S : Sto) (ds : List D), A.guards = some [] → Room k A → Env0 G.P G.w G.K G.mg G.base A outer s H →
    BindsTo s fd args (ps.zip us) → Vals vs us → Rel G ι S H → Reps G ι (Lv ι S) H vs ds → ds.length = ps.length → Post G E ι S H (PV G Q) (m ds S) → codeAny (model G.P G.w) A (.call (.ref f) args) (CR (L2.CX G.P G.w) outer G.P G.w H s Q E) s
theorem FnB.mono {G : Gx} {j k : Nat} {f : Addr} {fd : FuncData} {ps : List Str} {m : List D → Sto → Res D} (h : FnB G j f fd ps m) (hk : j ≤ k) : FnB G k f fd ps m :=
  fun A outer s H args us vs Q E ι S ds hg hr => h A outer s H args us vs Q E ι S ds hg (hr.mono hk)
/-- the entries of a def -/
structure FIdx (k : Nat) (qual : Str) (scope : Scope) (f : Addr) where
  cdv : Value
  A : Around
  outer : List PySem.Env
  s : Shared
  H : Hp
  room : Room k (A.deeper (envOfC qual scope s.heap.objs.size f cdv))
  gd : A.guards = some []
abbrev FnX (G : Gx) (k : Nat) (N : List Str) (qual : Str) (scope : Scope) (f : Addr) (E : XK) : FIdx k qual scope f → Cx :=
  fun i => cxOf (L2.CX G.P G.w) G.P G.w G.K G.mg G.base N qual scope f i.cdv i.A i.outer i.s i.H E
theorem fnX_fam {G : Gx} {k : Nat} {N ps : List Str} {qual : Str} {scope : Scope} {f : Addr} (S : FnScope N ps scope) (E : XK) : Fam (FnX G k N qual scope f E) G (fun _ => E) k :=
  ⟨⟨fun _ => rfl, fun _ => rfl, fun _ => rfl, fun _ => rfl, fun _ => rfl, fun _ => S.nd, fun i => i.gd, fun i => i.room.units, fun i => takes_of rfl rfl rfl rfl⟩, fun _ => rfl, fun i => i.room⟩
theorem start_env {G : Gx} {ι : Ix} {S : Sto} {H : Hp} {vs : List V} {ds : List D} (r : Reps G ι (Lv ι S) H vs ds) (N : List Str) : REnv G ι S H (L2.start N vs) (ds.map some ++ List.replicate (N.length - ds.length) none) := by
  unfold L2.start
  rw [r.length]
  refine ⟨by simp [r.length], fun i d h => ?_⟩
  by_cases hi : i < ds.length
  · rw [List.getElem?_append_left (by simpa using hi), List.getElem?_map] at h
    cases e : ds[i]? with
    | none =>
      rw [e] at h
      cases h
    | some d' =>
      rw [e] at h
      cases h
      obtain ⟨v, h1, h2⟩ := r.get e
      refine ⟨v, ?_, h2⟩
      rw [List.getElem?_append_left (by rw [List.length_map, r.length]; exact hi), List.getElem?_map, h1]
      rfl
  · rw [List.getElem?_append_right (by simpa using hi), List.getElem?_replicate] at h
    split at h <;> cases h
theorem FnB.of {G : Gx} {x qual : Str} {st : Stmt} {f : Addr} {fd : FuncData} {N ps : List Str} {k : Nat} {c : SCode} (F : Fun G.K x qual st f fd) (Sc : FnScope N ps (defScope st))
    (hb : ∀ E, DSs (FnX G k N qual (defScope st) f E) G (fun _ => E) (defBody st) c) : FnB G (k + 1) f fd ps (fnR N.length c) := by
  obtain ⟨oc, od, kV, doc, pm, an, cdv, ct, osl, rfl, lk, hcd⟩ := F.ex
  intro A outer s H args us vs Q E ι S ds hgd hr e0 hbi hv R r hl hp
  have hlv : vs.length = ps.length := r.length.trans hl
  -- the promise of the body, at this entry alone
  have KX : G.K.In s.heap := e0.mod.kin.keeps fun b o e => (e0.bs b o e).1
  have lim : s.heap.NoLimit := e0.mod.nolimit.keeps fun b o e => (e0.bs b o e).1
  have hkind : ∀ y ∈ ps.zip us, (defScope st).names.lookup y.1 = some .local ∨ ((defScope st).names.lookup y.1 = some .cell ∧ ((cellsFrom (s.heap.objs.size + 1) (defScope st).names []).lookup y.1).isSome = true) := by
    rintro ⟨n, v⟩ hy
    rcases Sc.par n (List.of_mem_zip hy).1 with q | q
    · exact .inl q
    · exact .inr ⟨q, PySem.W.cellsFrom_some _ _ _ (.inl q)⟩
  refine codeAny_call_function hr.depth (KX _ _ lk) rfl Sc.co Sc.gen rfl (PySem.W.codeRec_of KX hcd) (hbi _ _ _ _ ?_)
  refine wpAny_newFunctionEnv_cells Sc.kind hkind fun env he s1 z => ?_
  subst he
  refine ⟨lim.keeps z.toInCall.keep, codeAny_func ?_⟩
  obtain ⟨t, ht, sd⟩ := hb E
  have ht := ht ⟨cdv, A, outer, s, H, hr.deeper _, hgd⟩
  have I0 := inv_start (CX := L2.CX G.P G.w) (E := E) Sc hr.hd e0 hlv hv z
  have hq : t { nx := fun _ H' => Q .non H', rt := Q } (L2.start N vs) H := by
    refine sd ι S H _ _ _ R (start_env r N) ?_
    have hlN : N.length - ds.length = N.length - ds.length := rfl
    unfold fnR at hp
    cases hc : c (ds.map some ++ List.replicate (N.length - ds.length) none) S with
    | ok fl S' =>
      rw [hc] at hp
      cases fl with
      | nx ρ' => exact fun ι' H' y R' σ' _ => fin_ok R hp ι' H' y R' .non .non
      | rt d => exact fun ι' H' y R' v rv => fin_ok R hp ι' H' y R' v rv
      | bk ρ' => exact hp.elim
      | ct ρ' => exact hp.elim
    | ex k d S' =>
      rw [hc] at hp
      exact fun ι' H' dd v y R' hd rv => finX_ok R hp ι' H' dd v y R' hd rv
    | stuck =>
      rw [hc] at hp
      exact hp
  refine wpAny_mono (ht.run [] s1 (L2.start N vs) H _ I0 hq) (fun fl s' hs => ?_) fun e s' hs => hs
  cases fl with
  | ret u =>
    obtain ⟨v, σ', H', J, rv, q⟩ := hs
    exact ⟨v, H', J.os, J.bare, J.base, J.hok, rv, q⟩
  | next =>
    obtain ⟨σ', H', J, q⟩ := hs
    exact ⟨.non, H', J.os, J.bare, J.base, J.hok, rfl, q⟩
  | brk => exact hs.elim fun _ h => h.elim fun _ h => h.2.elim
  | cont => exact hs.elim fun _ h => h.elim fun _ h => h.2.elim
end DL

set_option Elab.async false
set_option linter.all false
set_option maxRecDepth 100000
set_option maxHeartbeats 4000000
/-! DL5: calls of defs, attributes, instances -/
namespace DL
open PySem PySem.Spec PyProof.Rows L2

/-- the promise that a mirror makes -/
def spM (G : Gx) (n : Nat) (m : List D → Sto → Res D) (vs : List V) (H : Hp) (Q : VK) (E : XK) : Prop :=
  ∃ (ι : Ix) (S : Sto) (ds : List D), Rel G ι S H ∧ Reps G ι (Lv ι S) H vs ds ∧ ds.length = n ∧ Post G E ι S H (PV G Q) (m ds S)
section
variable {I : Type} {Xs : I → Cx} {G : Gx} {E : WK} {kk k : Nat} {f : Addr} {fd : FuncData} {ps : List Str} {m : List D → Sto → Res D}
/-- the callee at an around that the caller gives -/
theorem run_at (F : Fam Xs G E kk) (j : I) (Fn : FnB G k f fd ps m) {A : Around} {E : XK} {H : Hp} {s : Shared} {Q : VK} {args : Args} {us : List Value} {vs : List V} (hg : A.guards = some []) (hr : Room k A)
    (e0 : Env0 (Xs j).prog (Xs j).w (Xs j).K (Xs j).mg (Xs j).base A (Xs j).stack s H) (hb : BindsTo s fd args (ps.zip us)) (r : Vals vs us) (h : spM G ps.length m vs H Q E) :
    codeAny (model (Xs j).prog (Xs j).w) A (.call (.ref f) args) (CR (L2.CX (Xs j).prog (Xs j).w) (Xs j).stack (Xs j).prog (Xs j).w H s Q E) s := by
  obtain ⟨ι, S, ds, R, rs, hl, q⟩ := h
  rw [F.P j, F.w j] at e0 ⊢
  rw [F.K j, F.mg j, F.base j] at e0
  exact Fn A _ s H args us vs Q E ι S ds hg hr e0 hb r R rs hl q
theorem run_B (F : Fam Xs G E kk) (j : I) (Fn : FnB G k f fd ps m) (hk : k ≤ kk) {pins : List (Addr × Obj)} {σ : L2.St} {H : Hp} {s : Shared} {Q : VK} {us : List Value} {kw : List (Str × Value)} {ws : List Value} {vs : List V} (Iv : Inv (Xs j) pins σ H s)
    (hb : BindsTo s fd ⟨us, kw⟩ (ps.zip ws)) (r : Vals vs ws) (h : spM G ps.length m vs H Q (E σ)) : wpAny (model (Xs j).prog (Xs j).w) (Xs j).A (call (.ref f) us kw) (EP (Xs j) pins σ Q) (Xs j).xe s := by
  refine wpAny_call (codeAny_mono (run_at F j Fn (F.gd j) ((F.room j).mono hk) Iv.env0 hb r h) fun r s' hq => ?_)
  cases r with
  | error e => exact F.pass j pins σ H s e s' Iv hq
  | ok fl =>
    cases fl with
    | ret u => exact Iv.after hq
    | next => exact hq.elim
    | brk => exact hq.elim
    | cont => exact hq.elim
def c_call (n : Nat) (m : List D → Sto → Res D) (a : ACode) : ECode := fun ρ S => (a ρ S).bind fun ds S1 => if ds.length = n then m ds S1 else .stuck
theorem snd_call {n : Nat} {t : TA} {a : ACode} (sa : SndA G E t a) : Snd G E (fun σ H Q => t σ H fun vs H1 => spM G n m vs H1 Q (E σ)) (c_call n m a) := fun ι S H σ ρ Q R e q => by
  refine sa.go R e q fun ds S1 ι1 H1 vs x1 R1 e1 r1 q1 => ?_
  by_cases h : ds.length = n
  · rw [if_pos h] at q1
    exact ⟨ι1, S1, ds, R1, r1, h, q1⟩
  · rw [if_neg h] at q1
    exact q1.elim
/-- x(e, ..), x a def of the module -/
theorem de_call (F : Fam Xs G E kk) (Fn : FnB G k f fd ps m) (hk : k ≤ kk) {x : Str} {p pos : Pos} {e : Expr} {es : List Expr} {a : ACode} (hg : ∀ j, Gl (Xs j) x) (hm : G.mg x = some (.ref f)) (hkp : PySem.W.keepIn G.K (.ref f) = true) (hb : Binds G.K fd ps []) (ha : DA Xs G E (e :: es) a)
    (hdb : (x == ("__debug__" : Str)) = false) (he : ∀ j, starEach (e :: es) (Xs j).env = (false, eval e (Xs j).env) :: starEach es (Xs j).env) (hpl : ∀ j, (backTo pos (starEach es (Xs j).env)).any (·.1) = false) :
    DE Xs G E (.Call (.Name x p) (e :: es) [] pos) (c_call ps.length m a) := by
  obtain ⟨t, pa, sa⟩ := ha
  refine ⟨_, fun j => ⟨fun pins s σ H Q Iv h => ?_⟩, snd_call sa⟩
  refine wpAny_Call_Name_kw (ld_glob Iv (hg j) (by rw [F.mg j]; exact hm) ?_ hdb)
  refine PySem.W.callWith_K (h₀ := (Xs j).base) Iv.ok.mod.kin (by rw [F.K j]; exact hkp) (thn ((pa j).run pos pins s σ H _ Iv h) fun us s1 ⟨vs, H1, I1, r, q⟩ => ⟨I1.kIn, ?_⟩) (he j) (hpl j)
  have hl : us.length = ps.length := by
    obtain ⟨_, _, ds, _, rs, hl, _⟩ := q
    rw [← r.length, rs.length]
    exact hl
  have hbi := hb s1 us (by rw [← F.K j]; exact I1.kIn) (by rw [List.append_nil]; exact hl)
  rw [List.append_nil] at hbi
  exact run_B F j Fn hk I1 hbi r q
theorem de_call0 (F : Fam Xs G E kk) (Fn : FnB G k f fd ps m) (hk : k ≤ kk) {x : Str} {p pos : Pos} (hg : ∀ j, Gl (Xs j) x) (hm : G.mg x = some (.ref f)) (hkp : PySem.W.keepIn G.K (.ref f) = true) (hb : Binds G.K fd ps []) (hps : ps = [])
    (hdb : (x == ("__debug__" : Str)) = false) : DE Xs G E (.Call (.Name x p) [] [] pos) (c_call 0 m c_nil) := by
  subst hps
  refine ⟨_, fun j => ⟨fun pins s σ H Q Iv h => ?_⟩, snd_call snd_nil⟩
  refine wpAny_Call_Name_kw (ld_glob Iv (hg j) (by rw [F.mg j]; exact hm) ?_ hdb)
  refine PySem.W.callWith_K0 Iv.kIn (by rw [F.K j]; exact hkp) ?_
  exact run_B (us := []) (ws := []) F j Fn hk Iv (hb s [] (by rw [← F.K j]; exact Iv.kIn) rfl) .nil h
/-- x(e, .., n = v, ..) -/
def c_callK (n m' : Nat) (g : List D → List D → List D) (m : List D → Sto → Res D) (a b : ACode) : ECode := fun ρ S => (a ρ S).bind fun ds S1 => (b ρ S1).bind fun es S2 => if ds.length = n ∧ es.length = m' then m (g ds es) S2 else .stuck
theorem de_callK (F : Fam Xs G E kk) (Fn : FnB G k f fd ps m) (hk : k ≤ kk) {x : Str} {p pos : Pos} {e : Expr} {es : List Expr} {kws : List Keyword} {ks : List Str} {n : Nat} {g : List Value → List Value → List Value} {gV : List V → List V → List V} {gD : List D → List D → List D} {a b : ACode}
    (hg : ∀ j, Gl (Xs j) x) (hm : G.mg x = some (.ref f)) (hkp : PySem.W.keepIn G.K (.ref f) = true) (hb : KBn G.K fd ps n ks g gV) (hgD : ∀ (L : Addr → Prop) ι H vs ds zs es, Reps G ι L H vs ds → Reps G ι L H zs es → ds.length = n → es.length = ks.length → Reps G ι L H (gV vs zs) (gD ds es) ∧ (gD ds es).length = ps.length)
    (ha : DA Xs G E (e :: es) a) (hkw : DKw Xs G E kws b) (hall : ∀ j, (backToKw pos (keywordEach kws (Xs j).env)).all (·.1.isSome) = true) (hks : ∀ j, (backToKw pos (keywordEach kws (Xs j).env)).filterMap (·.1) = ks)
    (hdb : (x == ("__debug__" : Str)) = false) (he : ∀ j, starEach (e :: es) (Xs j).env = (false, eval e (Xs j).env) :: starEach es (Xs j).env)
    (hpl : ∀ j, ((backTo pos (starEach (e :: es) (Xs j).env)).any (·.1) || (backToKw pos (keywordEach kws (Xs j).env)).any (·.1.isNone)) = false) :
    DE Xs G E (.Call (.Name x p) (e :: es) kws pos) (c_callK n ks.length gD m a b) := by
  obtain ⟨t, pa, sa⟩ := ha
  obtain ⟨tk, pk, sk⟩ := hkw
  refine ⟨fun σ H Q => t σ H fun vs H1 => tk σ H1 fun zs H2 => vs.length = n ∧ zs.length = ks.length ∧ spM G ps.length m (gV vs zs) H2 Q (E σ), fun j => ⟨fun pins s σ H Q Iv h => ?_⟩, fun ι S H σ ρ Q R e q => ?_⟩
  · refine wpAny_Call_Name_kw (ld_glob Iv (hg j) (by rw [F.mg j]; exact hm) ?_ hdb)
    refine PySem.W.callWith_KW (h₀ := (Xs j).base) Iv.ok.mod.kin (by rw [F.K j]; exact hkp) (hall j) (thn ((pa j).run pos pins s σ H _ Iv h) fun us s1 ⟨vs, H1, I1, r, q⟩ => ?_) (hpl j) (he j)
    refine thn ((pk j).run pos pins s1 σ H1 _ I1 q) fun ws s2 ⟨zs, H2, I2, rz, l1, l2, q2⟩ => ⟨I2.kIn, ?_⟩
    rw [hks j]
    exact run_B F j Fn hk I2 (hb.to s2 us ws (by rw [← F.K j]; exact I2.kIn) (r.length.symm.trans l1) (rz.length.symm.trans l2)) (hb.rel r rz) q2
  · refine sa.go R e q fun ds S1 ι1 H1 vs x1 R1 e1 r1 q1 => ?_
    refine sk.go R1 e1 q1 fun es S2 ι2 H2 zs x2 R2 e2 r2 q2 => ?_
    by_cases h : ds.length = n ∧ es.length = ks.length
    · rw [if_pos h] at q2
      obtain ⟨a1, a2⟩ := hgD _ _ _ _ _ _ _ (r1.mono x2) r2 h.1 h.2
      exact ⟨r1.length.trans h.1, r2.length.trans h.2, ι2, S2, _, R2, a1, a2, q2⟩
    · rw [if_neg h] at q2
      exact q2.elim
theorem de_callK0 (F : Fam Xs G E kk) (Fn : FnB G k f fd ps m) (hk : k ≤ kk) {x : Str} {p pos : Pos} {kws : List Keyword} {ks : List Str} {g : List Value → List Value → List Value} {gV : List V → List V → List V} {gD : List D → List D → List D} {b : ACode}
    (hg : ∀ j, Gl (Xs j) x) (hm : G.mg x = some (.ref f)) (hkp : PySem.W.keepIn G.K (.ref f) = true) (hb : KBn G.K fd ps 0 ks g gV) (hgD : ∀ (L : Addr → Prop) ι H vs ds zs es, Reps G ι L H vs ds → Reps G ι L H zs es → ds.length = 0 → es.length = ks.length → Reps G ι L H (gV vs zs) (gD ds es) ∧ (gD ds es).length = ps.length)
    (hkw : DKw Xs G E kws b) (hall : ∀ j, (backToKw pos (keywordEach kws (Xs j).env)).all (·.1.isSome) = true) (hks : ∀ j, (backToKw pos (keywordEach kws (Xs j).env)).filterMap (·.1) = ks)
    (hdb : (x == ("__debug__" : Str)) = false)
    (hpl : ∀ j, ((backTo pos (starEach [] (Xs j).env)).any (·.1) || (backToKw pos (keywordEach kws (Xs j).env)).any (·.1.isNone)) = false) :
    DE Xs G E (.Call (.Name x p) [] kws pos) (c_callK 0 ks.length gD m c_nil b) := by
  obtain ⟨tk, pk, sk⟩ := hkw
  refine ⟨fun σ H Q => tk σ H fun zs H2 => zs.length = ks.length ∧ spM G ps.length m (gV [] zs) H2 Q (E σ), fun j => ⟨fun pins s σ H Q Iv h => ?_⟩, fun ι S H σ ρ Q R e q => ?_⟩
  · refine wpAny_Call_Name_kw (ld_glob Iv (hg j) (by rw [F.mg j]; exact hm) ?_ hdb)
    refine PySem.W.callWith_KW0 (h₀ := (Xs j).base) Iv.ok.mod.kin (by rw [F.K j]; exact hkp) (hall j) ?_ (hpl j)
    refine thn ((pk j).run pos pins s σ H _ Iv h) fun ws s2 ⟨zs, H2, I2, rz, l2, q2⟩ => ⟨I2.kIn, ?_⟩
    rw [hks j]
    exact run_B F j Fn hk I2 (hb.to s2 [] ws (by rw [← F.K j]; exact I2.kIn) rfl (rz.length.symm.trans l2)) (hb.rel .nil rz) q2
  · have q : Post G (E σ) ι S H (PV G Q) ((b ρ S).bind fun es S2 => if ([] : List D).length = 0 ∧ es.length = ks.length then m (gD [] es) S2 else .stuck) := q
    refine sk.go R e q fun es S2 ι2 H2 zs x2 R2 e2 r2 q2 => ?_
    by_cases h : ([] : List D).length = 0 ∧ es.length = ks.length
    · rw [if_pos h] at q2
      obtain ⟨a1, a2⟩ := hgD _ _ _ _ _ _ _ .nil r2 h.1 h.2
      exact ⟨r2.length.trans h.2, ι2, S2, _, R2, a1, a2, q2⟩
    · rw [if_neg h] at q2
      exact q2.elim
/-- the class of an instance -/
def clsOf : D → Sto → Option Nat
  | .obj c _, _ => some c
  | .ref n, S => match S[n]? with
    | some (some (.ins c _)) => some c
    | _ => none
  | _, _ => none
def fldsOf : D → Sto → Option (List D)
  | .obj _ fs, _ => some fs
  | .ref n, S => match S[n]? with
    | some (some (.ins _ fs)) => some fs
    | _ => none
  | _, _ => none
theorem cls_at {ι : Ix} {S : Sto} {H : Hp} {v : V} {d : D} {c : Nat} (R : Rel G ι S H) (r : Rep G ι (Lv ι S) H v d) (h : clsOf d S = some c) :
    ∃ a dx nfs fs, v = .ref a ∧ H a = some (.ins (G.cls c) dx nfs) ∧ nfs.map (·.1) = (G.fns c).take fs.length ∧ Reps G ι (Lv ι S) H (nfs.map (·.2)) fs ∧ fldsOf d S = some fs := by
  cases r with
  | obj q k e r =>
    cases h
    exact ⟨_, _, _, _, rfl, q, e, r, rfl⟩
  | ref q =>
    rename_i a n
    unfold clsOf at h
    cases hs : S[n]? with
    | none =>
      simp only [hs] at h
      cases h
    | some o =>
      simp only [hs] at h
      cases o with
      | none => cases h
      | some cl =>
        cases cl with
        | ins c' fs =>
          cases h
          obtain ⟨a', h1, dx, nfs, h2, h3, h4⟩ := R.cell n _ hs
          rw [q] at h1
          cases h1
          refine ⟨a, dx, nfs, fs, rfl, h2, h3, h4, ?_⟩
          unfold fldsOf
          simp only [hs]
        | _ => cases h
  | _ => cases h
/-- o.f, a property whose getter is a def -/
def c_prop (c : Nat) (m : List D → Sto → Res D) (a : ECode) : ECode := fun ρ S => (a ρ S).bind fun d S1 => if clsOf d S1 = some c then (m [d] S1).bindN .ok else .stuck
theorem de_prop (F : Fam Xs G E kk) (Fn : FnB G k f fd ps m) (hk : k + 1 ≤ kk) {c : Nat} {pr : Addr} {nm : Str} {o : Expr} {pos : Pos} {a : ECode} (hc : Cls G.K (G.cls c)) (hp : PropOf G.K (G.cls c) nm pr f) (hb : Binds G.K fd ps []) (hps : ps.length = 1)
    (hab : ∀ j, attributeBase o nm (Xs j).env (eval o (Xs j).env) = eval o (Xs j).env) (ho : DE Xs G E o a) : DE Xs G E (.Attribute o nm pos) (c_prop c m a) := by
  obtain ⟨t, pa, sa⟩ := ho
  refine ⟨fun σ H Q => t σ H fun x H1 => ∃ a dx fs, x = .ref a ∧ H1 a = some (.ins (G.cls c) dx fs) ∧ spM G ps.length m [.ref a] H1 Q E0, fun j => ⟨fun pins s σ H Q Iv h => ?_⟩, fun ι S H σ ρ Q R e q => ?_⟩
  · refine attr_of (hab j) (thn ((pa j).run pins s σ H _ Iv h) fun u s1 ⟨x, H1, I1, rx, a, dx, fs, ex, ea, q⟩ => ?_)
    subst ex
    obtain rfl : u = Value.ref a := rx
    have hc' : Cls (Xs j).K (G.cls c) := by rw [F.K j]; exact hc
    have hp' : PropOf (Xs j).K (G.cls c) nm pr f := by rw [F.K j]; exact hp
    obtain ⟨mA, O, _, _, _, _⟩ := ins_get I1.hok ea
    obtain ⟨od, J, _⟩ := O.look
    obtain ⟨rest, hrec⟩ := hp'.rec_
    have I2 := I1.tok (s1.toks + 1)
    have hcl : (PySem.W.clsIn (Xs j).K (G.cls c)).isSome = true := by
      obtain ⟨cd, h1, _⟩ := PySem.W.any_some hc'.hd
      rw [h1]
      rfl
    refine PySem.W.get_bind I1.kIn J (PySem.W.plainGet_of (hc'.get nm)).1 (PySem.W.findObj_data hcl hp'.at_ hp'.get hp'.tak) (PySem.W.plainGet_of (hc'.get nm)).2 (wpAny_call (PySem.W.prop_get (s := { s1 with toks := s1.toks + 1 }) I1.kIn hrec ?_))
    have hbi := hb { s1 with toks := s1.toks + 1 } [.ref a] (by rw [← F.K j]; exact I2.kIn) (by rw [hps]; rfl)
    refine codeAny_mono (run_at F j Fn (F.gd j) (((F.room j).mono hk).in1) I2.env0.in1 hbi (vs := [.ref a]) (.cons (show L2.RelV (.ref a) (Value.ref a) from rfl) .nil) q) fun r s' hq => ?_
    cases r with
    | error er =>
      obtain ⟨_, _, _, _, _, _, _, _, _, _, _, _, z⟩ := hq
      exact z.elim
    | ok fl =>
      cases fl with
      | ret u =>
        obtain ⟨v, H', I3, rv, q3⟩ := I2.after hq
        show wpAny _ _ (handedOut u) _ _ _
        rw [PySem.W.handedOut_of (handed_of rv)]
        exact wpAny_pure ⟨v, H', I3, rv, q3⟩
      | next => exact hq.elim
      | brk => exact hq.elim
      | cont => exact hq.elim
  · refine sa.go R e q fun d S1 ι1 H1 v x1 R1 e1 r1 q1 => ?_
    by_cases h : clsOf d S1 = some c
    · rw [if_pos h] at q1
      obtain ⟨a, dx, nfs, fs, rfl, h2, _⟩ := cls_at R1 r1 h
      exact ⟨a, dx, nfs, rfl, h2, ι1, S1, [d], R1, .cons r1 .nil, hps.symm, Post.bindN q1 fun y S2 ι2 H2 x2 R2 q2 => Post.here R2 q2⟩
    · rw [if_neg h] at q1
      exact q1.elim
theorem lookup_ix : ∀ {nfs : List (Str × V)} {ns : List Str} {i : Nat} {nm : Str} {v : V}, nfs.map (·.1) = ns → ns.Nodup → ns[i]? = some nm → (nfs.map (·.2))[i]? = some v → nfs.lookup nm = some v
  | [], _, _, _, _, _, _, _, h => by simp at h
  | (n, w) :: r, ns, 0, nm, v, e, nd, h1, h2 => by
    subst e
    simp at h1 h2
    subst h1
    subst h2
    simp
  | (n, w) :: r, ns, i + 1, nm, v, e, nd, h1, h2 => by
    subst e
    simp only [List.map_cons, List.getElem?_cons_succ] at h1 h2
    rw [List.map_cons, List.nodup_cons] at nd
    have hne : (nm == n) = false := by
      have : nm ∈ r.map (·.1) := List.mem_of_getElem? h1
      rw [beq_eq_false_iff_ne]
      rintro rfl
      exact nd.1 this
    rw [List.lookup_cons, hne]
    exact lookup_ix rfl nd.2 h1 h2
/-- o.f, an attribute -/
def c_fld (c i : Nat) (a : ECode) : ECode := fun ρ S => (a ρ S).bind fun d S1 => if clsOf d S1 = some c then match fldsOf d S1 with
  | some fs => match fs[i]? with
    | some x => .ok x S1
    | none => .stuck
  | none => .stuck else .stuck
theorem de_fld (F : FamH Xs G E) {c i : Nat} {nm : Str} {o : Expr} {pos : Pos} {a : ECode} (hc : Cls G.K (G.cls c)) (hn : NoAttr G.K (G.cls c) nm) (hi : (G.fns c)[i]? = some nm) (hnd : (G.fns c).Nodup)
    (hab : ∀ j, attributeBase o nm (Xs j).env (eval o (Xs j).env) = eval o (Xs j).env) (ho : DE Xs G E o a) : DE Xs G E (.Attribute o nm pos) (c_fld c i a) := by
  obtain ⟨t, pa, sa⟩ := ho
  refine ⟨tFld G.K t nm, fun j => by have z := pe_fld (pos := pos) (pa j) (hab j); rw [F.K j] at z; exact z, fun ι S H σ ρ Q R e q => ?_⟩
  refine sa.go R e q fun d S1 ι1 H1 v x1 R1 e1 r1 q1 => ?_
  by_cases h : clsOf d S1 = some c
  · rw [if_pos h] at q1
    obtain ⟨a, dx, nfs, fs, rfl, h2, h3, h4, h5⟩ := cls_at R1 r1 h
    rw [h5] at q1
    cases hx : fs[i]? with
    | none =>
      simp only [hx] at q1
      exact q1.elim
    | some y =>
      simp only [hx] at q1
      obtain ⟨w, hw, rw'⟩ := h4.get hx
      have hlt : i < fs.length := (List.getElem?_eq_some_iff.mp hx).1
      refine ⟨a, _, dx, nfs, w, rfl, h2, hc, hn, ?_, Post.here R1 q1 w rw'⟩
      refine lookup_ix h3 (hnd.sublist (List.take_sublist _ _)) (i := i) ?_ hw
      rw [List.getElem?_take_of_lt hlt]
      exact hi
  · rw [if_neg h] at q1
    exact q1.elim
end
end DL

set_option Elab.async false
set_option linter.all false
set_option maxRecDepth 100000
set_option maxHeartbeats 4000000
/-! DL5T: tuple * 1 -/
namespace DL
open PySem PySem.Spec PyProof.Rows L2
theorem tuple_mul1 (l : Addr) (items : Array Value) (n : Nat) (dd : Option Addr) (sl : Array (Option Value)) (u : Tok) :
    Meets (Builtin.«tuple.__mul__» ⟨[.ref l, .int 1 u], []⟩) (fun _ R s => s.heap.get? l = some { cls := .type "tuple", dict := dd, data := .seq items n, slots := sl } ∧
      R (.ok (.ret (Value.ref l))) s) :=
  .of_wp fun prog w A R s h => by
    obtain ⟨hp, g, d, tk, os⟩ := s
    obtain ⟨hl, h⟩ := h
    have f1 := AutoSeq1.idx_int
    wp_walk using wpAny_loadPart' hl
    repeat (first
      | (refine wpAny_ite_false (decide_eq_false (by simp)) ?_; wp_walk using wpAny_loadPart' hl)
      | (refine wpAny_ite_true (decide_eq_true (by simp)) ?_; wp_walk using wpAny_loadPart' hl))
    all_goals first | exact ⟨_, rfl, h⟩ | skip
def rRepT1 (K : PySem.W.Frag) : R2 := fun x y H Q => ∃ l xs, x = .ref l ∧ y = .int 1 ∧ SqT K H l xs ∧ xs ≠ [] ∧ Q (.ref l) H
theorem op_repT1 {X : Cx} : OpR X (binaryOp .Mult) (rRepT1 X.K) := by
  intro pins s σ H x y v u Q I rx ry h
  obtain ⟨l, xs, rfl, rfl, hT, hne, q⟩ := h
  cases rx
  obtain ⟨t, rfl⟩ := ry
  obtain ⟨its, r, ⟨⟨cls, dd, data, sl⟩, ho, hc, n, hd⟩, hs⟩ := I.tuple hT
  simp only at hc hd
  subst hc hd
  refine wpAny_binaryOp_repeat_ref (T := "tuple") (U := "int") (by decide) ⟨_, ho, rfl⟩ (fun s' => typeIs_int s' 1 t) noFill_tuple_mul F.fills_int_mul F.slot_int_rmul repeat_tuple F.slot_int_index.lookup
    (call_meets F.slot_int_rmul (typeIs_int s 1 t) F.entry_int_rmul (F.args_int_rmul_2 _ _) (int_rmul_tuple 1 t l its.toArray n dd sl)
      ⟨ho, rfl, ⟨_, ho, rfl⟩, call_meets F.slot_tuple_mul ⟨_, ho, rfl⟩ F.entry_tuple_mul (F.args_tuple_mul_2 _ _) (tuple_mul1 l its.toArray n dd sl t) ⟨ho, ?_⟩⟩)
  exact ⟨.ref l, H, I, rfl, q⟩
end DL

set_option Elab.async false
set_option linter.all false
set_option maxRecDepth 100000
set_option maxHeartbeats 4000000
/-! DL6: operators, subscripts, built-in functions on data -/
namespace DL
open PySem PySem.Spec PyProof.Rows L2

section
variable {G : Gx}
/-! ### unions of rules -/
theorem SndR.orr {r r' : R2} {p : D → D → Sto → Res D} (h : ∀ E ι S H x y dx dy Q, Rel G ι S H → Rep G ι (Lv ι S) H x dx → Rep G ι (Lv ι S) H y dy → Post G E ι S H (PV G Q) (p dx dy S) → r x y H Q ∨ r' x y H Q) : SndR G (fun x y H Q => r x y H Q ∨ r' x y H Q) p := h
theorem Rep.sqT {ι : Ix} {S : Sto} {H : Hp} {v : V} {ds : List D} (r : Rep G ι (Lv ι S) H v (.tup ds)) : ∃ a vs, v = .ref a ∧ SqT G.K H a vs ∧ Reps G ι (Lv ι S) H vs ds := by
  cases r with
  | tup h _ r => exact ⟨_, _, rfl, SqT.of h, r⟩
/-- a list that may be read -/
theorem items_at {ι : Ix} {S : Sto} {H : Hp} {v : V} {d : D} {ds : List D} (R : Rel G ι S H) (r : Rep G ι (Lv ι S) H v d) (h : itemsOf d S = some ds) :
    ∃ a vs, v = .ref a ∧ (SqL G.K H a vs ∨ SqT G.K H a vs) ∧ Reps G ι (Lv ι S) H vs ds := by
  cases r with
  | tup q _ r =>
    cases h
    exact ⟨_, _, rfl, .inr (SqT.of q), r⟩
  | wtp q r =>
    cases h
    exact ⟨_, _, rfl, .inr (.inr q), r⟩
  | lst q k r =>
    cases h
    exact ⟨_, _, rfl, .inl (SqL.of q), r⟩
  | scr q r =>
    cases h
    rename_i a vs
    have hs : SqL G.K H a vs := by
      rcases q with q | q
      · exact .inl q.1
      · exact .inr q
    exact ⟨a, vs, rfl, .inl hs, r⟩
  | ref q =>
    rename_i a n
    unfold itemsOf at h
    cases hs : S[n]? with
    | none =>
      simp only [hs] at h
      cases h
    | some o =>
      simp only [hs] at h
      cases o with
      | none => cases h
      | some cl =>
        cases cl with
        | lst es =>
          cases h
          obtain ⟨a', h1, vs, h2, h3⟩ := R.cell n _ hs
          rw [q] at h1
          cases h1
          exact ⟨a, vs, rfl, .inl (SqL.of h2), h3⟩
        | _ => cases h
  | _ => cases h
/-- a list that was made here -/
def lstOf : D → Sto → Option (List D)
  | .lst ds, _ => some ds
  | .ref n, S => match S[n]? with
    | some (some (.lst ds)) => some ds
    | _ => none
  | _, _ => none
theorem lst_at {ι : Ix} {S : Sto} {H : Hp} {v : V} {d : D} {ds : List D} (R : Rel G ι S H) (r : Rep G ι (Lv ι S) H v d) (h : lstOf d S = some ds) :
    ∃ a vs, v = .ref a ∧ H a = some (.lst vs) ∧ Reps G ι (Lv ι S) H vs ds := by
  cases r with
  | lst q k r =>
    cases h
    exact ⟨_, _, rfl, q, r⟩
  | ref q =>
    rename_i a n
    unfold lstOf at h
    cases hs : S[n]? with
    | none =>
      simp only [hs] at h
      cases h
    | some o =>
      simp only [hs] at h
      cases o with
      | none => cases h
      | some cl =>
        cases cl with
        | lst es =>
          cases h
          obtain ⟨a', h1, vs, h2, h3⟩ := R.cell n _ hs
          rw [q] at h1
          cases h1
          exact ⟨a, vs, rfl, h2, h3⟩
        | _ => cases h
  | _ => cases h
/-! ### + - * // % ** -/
instance {i j : Int} : Decidable (CMulW i j) := by unfold CMulW; infer_instance
instance {i j : Int} : Decidable (CDivW i j) := by unfold CDivW; infer_instance
instance {i j : Int} : Decidable (CPow i j) := by unfold CPow; infer_instance
def p_addL (b : Bool) (x y : D) (S : Sto) : Res D := match lstOf x S, lstOf y S with
  | some xs, some ys => p_lst b (xs ++ ys) S
  | _, _ => .stuck
def p_add (b : Bool) (x y : D) (S : Sto) : Res D := match x, y with
  | .int i, .int j => .ok (.int (i + j)) S
  | .str x, .str y => if x.length + y.length ≤ 1000000 then .ok (.str (x ++ y)) S else .stuck
  | .tup xs, .tup ys => p_tup (xs ++ ys) S
  | x, y => p_addL b x y S
theorem Reps.ne {ι : Ix} {S : Sto} {H : Hp} {vs : List V} {ds : List D} (r : Reps G ι (Lv ι S) H vs ds) (h : ds ≠ []) : vs ≠ [] := by
  rintro rfl
  cases r
  exact h rfl
def rAddU (K : PySem.W.Frag) : R2 := fun x y H Q => (∃ i j, x = .int i ∧ y = .int j ∧ Q (.int (i + j)) H) ∨ (∃ i j, x = .str i ∧ y = .str j ∧ i.length + j.length ≤ sizeLine ∧ Q (.str (i ++ j)) H) ∨ rCatA K x y H Q ∨ rCat x y H Q
theorem op_addU {X : Cx} : OpR X (binaryOp .Add) (rAddU X.K) := op_add.or (op_add_str.or (op_catA.or op_cat))
theorem snd_add (b : Bool) : SndR G (rAddU G.K) (p_add b) := fun E ι S H x y dx dy Q R rx ry q => by
  have lists : Post G E ι S H (PV G Q) (p_addL b dx dy S) → rAddU G.K x y H Q := fun q => by
    unfold p_addL at q
    cases h1 : lstOf dx S with
    | none => simp only [h1] at q; exact q.elim
    | some xs =>
      cases h2 : lstOf dy S with
      | none => simp only [h1, h2] at q; exact q.elim
      | some ys =>
        simp only [h1, h2] at q
        obtain ⟨a, vs, rfl, ha, ra⟩ := lst_at R rx h1
        obtain ⟨b, ws, rfl, hb, rb⟩ := lst_at R ry h2
        obtain ⟨hl, hq⟩ := p_lst_ok R (ra.app rb) q
        exact .inr (.inr (.inr ⟨a, b, vs, ws, rfl, rfl, ha, hb, by rw [List.length_append] at hl; exact hl, hq⟩))
  cases dx with
  | int i =>
    cases dy with
    | int j => exact .inl ⟨i, j, rx.int_of, ry.int_of, Post.here R q _ (.int _)⟩
    | _ => exact lists q
  | str i =>
    cases dy with
    | str j =>
      have q : Post G E ι S H (PV G Q) (if i.length + j.length ≤ 1000000 then .ok (.str (i ++ j)) S else .stuck) := q
      split at q
      · rename_i h
        exact .inr (.inl ⟨i, j, rx.str_of, ry.str_of, Nat.le_trans h (by rw [sizeLine_eq]; decide), Post.here R q _ (.str _)⟩)
      · exact q.elim
    | _ => exact lists q
  | tup xs =>
    cases dy with
    | tup ys =>
      have q : Post G E ι S H (PV G Q) (p_tup (xs ++ ys) S) := q
      obtain ⟨a, vs, rfl, ha, ra⟩ := rx.sqT
      obtain ⟨b, ws, rfl, hb, rb⟩ := ry.sqT
      obtain ⟨hl, hq⟩ := p_tup_ok R (ra.app rb) q
      have hok : Post G E ι S H (PV G Q) (.ok (.tup (xs ++ ys)) S) := by
        unfold p_tup at q
        split at q
        · exact q
        · exact q.elim
      refine .inr (.inr (.inl ⟨a, b, vs, ws, rfl, rfl, ha, hb, by rw [List.length_append] at hl; exact hl, fun e => ?_, fun _ e => ?_, fun _ _ => hq⟩))
      · subst e
        cases ra
        exact Post.here R hok _ ry
      · subst e
        cases rb
        rw [List.append_nil] at hok
        exact Post.here R hok _ rx
    | _ => exact lists q
  | _ => exact lists q
def p_sub : D → D → Sto → Res D
  | .int i, .int j, S => .ok (.int (i - j)) S
  | _, _, _ => .stuck
theorem snd_sub : SndR G (rI0 fun i j => .int (i - j)) p_sub := fun E ι S H x y dx dy Q R rx ry q => by
  cases dx with
  | int i =>
    cases dy with
    | int j => exact ⟨i, j, rx.int_of, ry.int_of, Post.here R q _ (.int _)⟩
    | _ => exact q.elim
  | _ => exact q.elim
def p_fdiv : D → D → Sto → Res D
  | .int i, .int j, S => if CDivW i j then .ok (.int (i / j)) S else .stuck
  | _, _, _ => .stuck
theorem snd_fdiv : SndR G (rI CDivW fun i j => .int (i / j)) p_fdiv := fun E ι S H x y dx dy Q R rx ry q => by
  cases dx with
  | int i =>
    cases dy with
    | int j =>
      have q : Post G E ι S H (PV G Q) (if CDivW i j then .ok (.int (i / j)) S else .stuck) := q
      split at q
      · rename_i h
        exact ⟨i, j, rx.int_of, ry.int_of, h, Post.here R q _ (.int _)⟩
      · exact q.elim
    | _ => exact q.elim
  | _ => exact q.elim
def p_mod : D → D → Sto → Res D
  | .int i, .int j, S => if 0 < j then .ok (.int (i % j)) S else .stuck
  | _, _, _ => .stuck
theorem snd_mod : SndR G (rI (fun _ j => 0 < j) fun i j => .int (i % j)) p_mod := fun E ι S H x y dx dy Q R rx ry q => by
  cases dx with
  | int i =>
    cases dy with
    | int j =>
      have q : Post G E ι S H (PV G Q) (if 0 < j then .ok (.int (i % j)) S else .stuck) := q
      split at q
      · rename_i h
        exact ⟨i, j, rx.int_of, ry.int_of, h, Post.here R q _ (.int _)⟩
      · exact q.elim
    | _ => exact q.elim
  | _ => exact q.elim
def p_pow : D → D → Sto → Res D
  | .int i, .int j, S => if CPow i j then .ok (.int (i ^ j.toNat)) S else .stuck
  | _, _, _ => .stuck
theorem snd_pow : SndR G (rI CPow fun i j => .int (i ^ j.toNat)) p_pow := fun E ι S H x y dx dy Q R rx ry q => by
  cases dx with
  | int i =>
    cases dy with
    | int j =>
      have q : Post G E ι S H (PV G Q) (if CPow i j then .ok (.int (i ^ j.toNat)) S else .stuck) := q
      split at q
      · rename_i h
        exact ⟨i, j, rx.int_of, ry.int_of, h, Post.here R q _ (.int _)⟩
      · exact q.elim
    | _ => exact q.elim
  | _ => exact q.elim
def p_mulL (b : Bool) (x : D) (k : Int) (S : Sto) : Res D := match lstOf x S with
  | some xs => if -1000 ≤ k ∧ k ≤ 1000 ∧ xs.length ≤ 1000 then p_lst b (List.replicate k.toNat xs).flatten S else .stuck
  | none => .stuck
def p_mul (b : Bool) (x y : D) (S : Sto) : Res D := match y with
  | .int k => match x with
    | .int i => if CMulW i k then .ok (.int (i * k)) S else .stuck
    | .tup xs => if xs ≠ [] ∧ 1 ≤ k ∧ k ≤ 1000 ∧ xs.length ≤ 1000 then .ok (.tup (List.replicate k.toNat xs).flatten) S else .stuck
    | x => p_mulL b x k S
  | _ => .stuck
def rMulU (K : PySem.W.Frag) : R2 := fun x y H Q => (rI CMulW fun i j => .int (i * j)) x y H Q ∨ rRepT K x y H Q ∨ rRepT1 K x y H Q ∨ rRep x y H Q
theorem op_mulU {X : Cx} : OpR X (binaryOp .Mult) (rMulU X.K) := op_mulW.or (op_repT.or (op_repT1.or op_rep))
theorem snd_mul (b : Bool) : SndR G (rMulU G.K) (p_mul b) := fun E ι S H x y dx dy Q R rx ry q => by
  cases dy with
  | int k =>
    have lists : Post G E ι S H (PV G Q) (p_mulL b dx k S) → rMulU G.K x y H Q := fun q => by
      unfold p_mulL at q
      cases h1 : lstOf dx S with
      | none =>
        rw [h1] at q
        exact q.elim
      | some xs =>
        rw [h1] at q
        have q : Post G E ι S H (PV G Q) (if -1000 ≤ k ∧ k ≤ 1000 ∧ xs.length ≤ 1000 then p_lst b (List.replicate k.toNat xs).flatten S else .stuck) := q
        obtain ⟨a, vs, rfl, ha, ra⟩ := lst_at R rx h1
        by_cases hf : -1000 ≤ k ∧ k ≤ 1000 ∧ xs.length ≤ 1000
        · rw [if_pos hf] at q
          obtain ⟨hl, hq⟩ := p_lst_ok R (ra.repl k.toNat) q
          refine .inr (.inr (.inr ⟨a, k, vs, rfl, ry.int_of, ha, by omega, by omega, ?_, hq⟩))
          rw [ra.length, sizeLine_eq]
          have h1 : k.toNat ≤ 1000 := by omega
          exact Nat.le_trans (Nat.mul_le_mul hf.2.2 h1) (by decide)
        · rw [if_neg hf] at q
          exact q.elim
    cases dx with
    | int i =>
      have q : Post G E ι S H (PV G Q) (if CMulW i k then .ok (.int (i * k)) S else .stuck) := q
      split at q
      · rename_i h
        exact .inl ⟨i, k, rx.int_of, ry.int_of, h, Post.here R q _ (.int _)⟩
      · exact q.elim
    | tup xs =>
      have q : Post G E ι S H (PV G Q) (if xs ≠ [] ∧ 1 ≤ k ∧ k ≤ 1000 ∧ xs.length ≤ 1000 then .ok (.tup (List.replicate k.toNat xs).flatten) S else .stuck) := q
      by_cases hf : xs ≠ [] ∧ 1 ≤ k ∧ k ≤ 1000 ∧ xs.length ≤ 1000
      · rw [if_pos hf] at q
        obtain ⟨a, vs, rfl, ha, ra⟩ := rx.sqT
        by_cases h1 : k = 1
        · subst h1
          refine .inr (.inr (.inl ⟨a, vs, rfl, ry.int_of, ha, ra.ne hf.1, ?_⟩))
          have e : (List.replicate (1 : Int).toNat xs).flatten = xs := by simp
          rw [e] at q
          exact Post.here R q _ rx
        · refine .inr (.inl ⟨a, k, vs, rfl, ry.int_of, ha, ra.ne hf.1, by omega, hf.2.2.1, by rw [ra.length]; exact hf.2.2.2, fun p hp => ?_⟩)
          obtain ⟨x', R', r'⟩ := new_tup R hp (ra.repl k.toNat)
          exact q _ _ x' R' _ r'
      · rw [if_neg hf] at q
        exact q.elim
    | _ => exact lists q
  | _ => exact q.elim
def p_neg : D → Sto → Res D
  | .int i, S => .ok (.int (-i)) S
  | _, _ => .stuck
theorem snd_neg : SndU G (rU fun i => .int (-i)) p_neg := fun E ι S H x dx Q R rx q => by
  cases dx with
  | int i => exact ⟨i, rx.int_of, Post.here R q _ (.int _)⟩
  | _ => exact q.elim
/-! ### comparisons -/
def p_cmp (c : Int → Int → Bool) : D → D → Sto → Res D
  | .int i, .int j, S => .ok (.bl (c i j)) S
  | _, _, _ => .stuck
theorem snd_cmp (c : Int → Int → Bool) : SndR G (rI0 fun i j => .bl (c i j)) (p_cmp c) := fun E ι S H x y dx dy Q R rx ry q => by
  cases dx with
  | int i =>
    cases dy with
    | int j => exact ⟨i, j, rx.int_of, ry.int_of, Post.here R q _ (.bl _)⟩
    | _ => exact q.elim
  | _ => exact q.elim
def p_lt := p_cmp fun i j => decide (i < j)
def p_le := p_cmp fun i j => decide (i ≤ j)
def p_gt := p_cmp fun i j => decide (j < i)
def p_ge := p_cmp fun i j => decide (j ≤ i)
-- data for == and repr: no dicts, no instances
mutual
def pyOf (S : Sto) : D → Option PyData
  | .non => some .none
  | .bl b => some (.bool b)
  | .int i => some (.int i)
  | .str x => some (.str x)
  | .tup ds => (pyOfL S ds).map .tuple
  | .lst ds => (pyOfL S ds).map .list
  | .scr ds => (pyOfL S ds).map .list
  | .wtp ds => (pyOfL S ds).map .tuple
  | .ref n => match S[n]? with
    | some (some (.lst ds)) => (flatL ds).map .list
    | _ => none
  | _ => none
def pyOfL (S : Sto) : List D → Option (List PyData)
  | [] => some []
  | d :: ds => (pyOf S d).bind fun p => (pyOfL S ds).map fun ps => p :: ps
/-- within a cell: no further cells -/
def flat : D → Option PyData
  | .non => some .none
  | .bl b => some (.bool b)
  | .int i => some (.int i)
  | .str x => some (.str x)
  | .tup ds => (flatL ds).map .tuple
  | .lst ds => (flatL ds).map .list
  | _ => none
def flatL : List D → Option (List PyData)
  | [] => some []
  | d :: ds => (flat d).bind fun p => (flatL ds).map fun ps => p :: ps
end
theorem pair_flat {ι : Ix} {S : Sto} {H : Hp} : ∀ n : Nat, (∀ (v : V) (d : D) (p : PyData), sizeOf d ≤ n → DL.flat d = some p → Rep G ι (Lv ι S) H v d → Dp G.K H v p) ∧
    (∀ (vs : List V) (ds : List D) (ps : List PyData), sizeOf ds ≤ n → flatL ds = some ps → Reps G ι (Lv ι S) H vs ds → DpAll G.K H vs ps)
  | 0 => by
    refine ⟨fun v d p h => ?_, fun vs ds ps h => ?_⟩
    · cases d <;> simp at h
    · cases ds <;> simp at h
  | n + 1 => by
    obtain ⟨i1, i2⟩ := pair_flat (ι := ι) (S := S) (H := H) n
    refine ⟨fun v d p h e r => ?_, fun vs ds ps h e r => ?_⟩
    · cases d with
      | non => cases r; cases e; exact .non
      | bl b => cases r; cases e; exact .bl b
      | int i => cases r; cases e; exact .int i
      | str x => cases r; cases e; exact .str x
      | tup ds =>
        simp only [DL.flat] at e
        obtain ⟨a, vs, rfl, hs, r⟩ := r.sqT
        cases e2 : flatL ds with
        | none => rw [e2] at e; cases e
        | some ps =>
          rw [e2] at e
          cases e
          exact .tup hs (i2 vs ds ps (by simp at h; omega) e2 r)
      | lst ds =>
        simp only [DL.flat] at e
        cases r with
        | lst q k r =>
          cases e2 : flatL ds with
          | none => rw [e2] at e; cases e
          | some ps =>
            rw [e2] at e
            cases e
            exact .lst (SqL.of q) (i2 _ ds ps (by simp at h; omega) e2 r)
      | scr ds => cases e
      | wtp ds => cases e
      | dK _ => cases e
      | dT _ => cases e
      | obj _ _ => cases e
      | ref _ => cases e
      | con _ => cases e
      | ty _ => cases e
      | err _ _ => cases e
    · cases ds with
      | nil =>
        cases r
        cases e
        exact .nil
      | cons d ds =>
        cases r with
        | cons q r =>
          simp only [flatL] at e
          cases e1 : DL.flat d with
          | none => rw [e1] at e; cases e
          | some p =>
            rw [e1] at e
            cases e2 : flatL ds with
            | none => rw [e2] at e; cases e
            | some ps =>
              rw [e2] at e
              cases e
              exact .cons (i1 _ d p (by simp at h; omega) e1 q) (i2 _ ds ps (by simp at h; omega) e2 r)
theorem pair_py {ι : Ix} {S : Sto} {H : Hp} (R : Rel G ι S H) : ∀ n : Nat, (∀ (v : V) (d : D) (p : PyData), sizeOf d ≤ n → pyOf S d = some p → Rep G ι (Lv ι S) H v d → Dp G.K H v p) ∧
    (∀ (vs : List V) (ds : List D) (ps : List PyData), sizeOf ds ≤ n → pyOfL S ds = some ps → Reps G ι (Lv ι S) H vs ds → DpAll G.K H vs ps)
  | 0 => by
    refine ⟨fun v d p h => ?_, fun vs ds ps h => ?_⟩
    · cases d <;> simp at h
    · cases ds <;> simp at h
  | n + 1 => by
    obtain ⟨i1, i2⟩ := pair_py R n
    refine ⟨fun v d p h e r => ?_, fun vs ds ps h e r => ?_⟩
    · cases d with
      | non => cases r; cases e; exact .non
      | bl b => cases r; cases e; exact .bl b
      | int i => cases r; cases e; exact .int i
      | str x => cases r; cases e; exact .str x
      | tup ds =>
        simp only [pyOf] at e
        obtain ⟨a, vs, rfl, hs, r⟩ := r.sqT
        cases e2 : pyOfL S ds with
        | none => rw [e2] at e; cases e
        | some ps =>
          rw [e2] at e
          cases e
          exact .tup hs (i2 vs ds ps (by simp at h; omega) e2 r)
      | lst ds =>
        simp only [pyOf] at e
        cases r with
        | lst q k r =>
          cases e2 : pyOfL S ds with
          | none => rw [e2] at e; cases e
          | some ps =>
            rw [e2] at e
            cases e
            exact .lst (SqL.of q) (i2 _ ds ps (by simp at h; omega) e2 r)
      | scr ds =>
        simp only [pyOf] at e
        cases r with
        | scr q r =>
          cases e2 : pyOfL S ds with
          | none => rw [e2] at e; cases e
          | some ps =>
            rw [e2] at e
            cases e
            refine .lst ?_ (i2 _ ds ps (by simp at h; omega) e2 r)
            rcases q with q | q
            · exact .inl q.1
            · exact .inr q
      | wtp ds =>
        simp only [pyOf] at e
        cases r with
        | wtp q r =>
          cases e2 : pyOfL S ds with
          | none => rw [e2] at e; cases e
          | some ps =>
            rw [e2] at e
            cases e
            exact .tup (.inr q) (i2 _ ds ps (by simp at h; omega) e2 r)
      | dK _ => cases e
      | dT _ => cases e
      | obj _ _ => cases e
      | con _ => cases e
      | ty _ => cases e
      | err _ _ => cases e
      | ref m =>
        simp only [pyOf] at e
        cases hs : S[m]? with
        | none => rw [hs] at e; cases e
        | some o =>
          rw [hs] at e
          cases o with
          | none => cases e
          | some cl =>
            cases cl with
            | lst es =>
              have e : (flatL es).map PyData.list = some p := e
              cases e2 : flatL es with
              | none => rw [e2] at e; cases e
              | some ps =>
                rw [e2] at e
                cases e
                obtain ⟨a', h1, vs, h2, h3⟩ := R.cell m _ hs
                cases r with
                | ref q =>
                  rw [q] at h1
                  cases h1
                  exact .lst (SqL.of h2) ((pair_flat (sizeOf es)).2 _ es ps (Nat.le_refl _) e2 h3)
            | _ => cases e
    · cases ds with
      | nil =>
        cases r
        cases e
        exact .nil
      | cons d ds =>
        cases r with
        | cons q r =>
          simp only [pyOfL] at e
          cases e1 : pyOf S d with
          | none => rw [e1] at e; cases e
          | some p =>
            rw [e1] at e
            cases e2 : pyOfL S ds with
            | none => rw [e2] at e; cases e
            | some ps =>
              rw [e2] at e
              cases e
              exact .cons (i1 _ d p (by simp at h; omega) e1 q) (i2 _ ds ps (by simp at h; omega) e2 r)
theorem Rep.py {ι : Ix} {S : Sto} {H : Hp} (R : Rel G ι S H) {v : V} {d : D} {p : PyData} (e : pyOf S d = some p) (r : Rep G ι (Lv ι S) H v d) : Dp G.K H v p := (pair_py R (sizeOf d)).1 v d p (Nat.le_refl _) e r
def p_eq (neg : Bool) : D → D → Sto → Res D := fun x y S => match pyOf S x, pyOf S y with
  | some d, some e => if SeqAt.shaped d = true ∧ SeqAt.shaped e = true then .ok (.bl (if neg = true then !PyData.eqv d e else PyData.eqv d e)) S else .stuck
  | _, _ => .stuck
theorem snd_eq : SndR G (rEqD G.K) (p_eq false) := fun E ι S H x y dx dy Q R rx ry q => by
  unfold p_eq at q
  cases h1 : pyOf S dx with
  | none => simp only [h1] at q; exact q.elim
  | some d =>
    cases h2 : pyOf S dy with
    | none => simp only [h1, h2] at q; exact q.elim
    | some e =>
      simp only [h1, h2] at q
      by_cases h : SeqAt.shaped d = true ∧ SeqAt.shaped e = true
      · rw [if_pos h] at q
        exact ⟨d, e, rx.py R h1, ry.py R h2, h.1, h.2, Post.here R q _ (.bl _)⟩
      · rw [if_neg h] at q
        exact q.elim
theorem snd_ne : SndR G (rNeD G.K) (p_eq true) := fun E ι S H x y dx dy Q R rx ry q => by
  unfold p_eq at q
  cases h1 : pyOf S dx with
  | none => simp only [h1] at q; exact q.elim
  | some d =>
    cases h2 : pyOf S dy with
    | none => simp only [h1, h2] at q; exact q.elim
    | some e =>
      simp only [h1, h2] at q
      by_cases h : SeqAt.shaped d = true ∧ SeqAt.shaped e = true
      · rw [if_pos h] at q
        exact ⟨d, e, rx.py R h1, ry.py R h2, h.1, h.2, Post.here R q _ (.bl _)⟩
      · rw [if_neg h] at q
        exact q.elim
def isNon : D → Bool
  | .non => true
  | _ => false
def p_isN (neg : Bool) : D → D → Sto → Res D
  | x, .non, S => .ok (.bl (if neg = true then !isNon x else isNon x)) S
  | _, _, _ => .stuck
theorem Rep.isNon {ι : Ix} {L : Addr → Prop} {H : Hp} {v : V} {d : D} (r : Rep G ι L H v d) : decide (v = .non) = isNon d := by
  cases r <;> first | rfl | exact decide_eq_false (fun h => nomatch h)
theorem snd_isN : SndR G (fun x y H Q => y = .non ∧ Q (.bl (decide (x = .non))) H) (p_isN false) := fun E ι S H x y dx dy Q R rx ry q => by
  cases dy with
  | non => exact ⟨ry.non_of, by rw [rx.isNon]; exact Post.here R q _ (.bl _)⟩
  | _ => exact q.elim
theorem snd_notN : SndR G (fun x y H Q => y = .non ∧ Q (.bl (!decide (x = .non))) H) (p_isN true) := fun E ι S H x y dx dy Q R rx ry q => by
  cases dy with
  | non => exact ⟨ry.non_of, by rw [rx.isNon]; exact Post.here R q _ (.bl _)⟩
  | _ => exact q.elim
/-! ### in, of flat items -/
def flatD : D → Bool
  | .non => true
  | .bl _ => true
  | .int _ => true
  | .str _ => true
  | _ => false
def eqD : D → D → Bool
  | .non, .non => true
  | .bl a, .bl b => a == b
  | .bl a, .int b => (if a then 1 else 0) == b
  | .int a, .bl b => a == (if b then 1 else 0)
  | .int a, .int b => a == b
  | .str a, .str b => a == b
  | _, _ => false
theorem Rep.flatV {ι : Ix} {L : Addr → Prop} {H : Hp} {v : V} {d : D} (r : Rep G ι L H v d) (h : flatD d = true) : L2.flatV v = true := by
  cases r <;> first | rfl | cases h
theorem Rep.eqV {ι : Ix} {L : Addr → Prop} {H : Hp} {v w : V} {d e : D} (r : Rep G ι L H v d) (s : Rep G ι L H w e) (h : flatD d = true) (h' : flatD e = true) : L2.eqV v w = eqD d e := by
  cases r <;> cases h <;> cases s <;> first | rfl | cases h'
theorem Reps.flatV {ι : Ix} {L : Addr → Prop} {H : Hp} : ∀ {vs : List V} {ds : List D}, Reps G ι L H vs ds → ds.all flatD = true → vs.all L2.flatV = true
  | _, _, .nil, _ => rfl
  | _, _, .cons q r, h => by
    simp only [List.all_cons, Bool.and_eq_true] at h ⊢
    exact ⟨q.flatV h.1, r.flatV h.2⟩
theorem Reps.inV {ι : Ix} {L : Addr → Prop} {H : Hp} {x : V} {d : D} (r : Rep G ι L H x d) (h : flatD d = true) : ∀ {vs : List V} {ds : List D}, Reps G ι L H vs ds → ds.all flatD = true → L2.inV x vs = ds.any fun y => eqD y d
  | _, _, .nil, _ => rfl
  | _, _, .cons q rs, hh => by
    simp only [List.all_cons, Bool.and_eq_true] at hh
    have ih := Reps.inV r h rs hh.2
    unfold L2.inV at ih ⊢
    rw [List.any_cons, List.any_cons, ih, q.eqV r hh.1 h]
def p_in (neg : Bool) : D → D → Sto → Res D := fun x y S => match itemsOf y S with
  | some ds => if flatD x = true ∧ ds.all flatD = true then .ok (.bl (if neg = true then !ds.any (fun y => eqD y x) else ds.any fun y => eqD y x)) S else .stuck
  | none => .stuck
theorem snd_in (neg : Bool) : SndR G (rIn G.K neg) (p_in neg) := fun E ι S H x y dx dy Q R rx ry q => by
  unfold p_in at q
  cases h1 : itemsOf dy S with
  | none => simp only [h1] at q; exact q.elim
  | some ds =>
    simp only [h1] at q
    by_cases h : flatD dx = true ∧ ds.all flatD = true
    · rw [if_pos h] at q
      obtain ⟨a, vs, rfl, ha, ra⟩ := items_at R ry h1
      refine ⟨a, vs, rfl, ha, rx.flatV h.1, ra.flatV h.2, ?_⟩
      rw [Reps.inV rx h.1 ra h.2]
      exact Post.here R q _ (.bl _)
    · rw [if_neg h] at q
      exact q.elim
end
end DL

set_option Elab.async false
set_option linter.all false
set_option maxRecDepth 100000
set_option maxHeartbeats 4000000
/-! DLV: t[::-1] of a tuple -/
namespace DL
open PySem PySem.Spec PyProof.Rows L2
section
variable {prog : Program} {w : World} {A : Around} {E : Value → Shared → Prop} {s : Shared}
theorem sliceApplied_rv {sl : Addr} {vl vu vs : Value} {n : Nat} {Q : Int × Int × Nat → Shared → Prop} (hs : s.heap.IsSliceOf sl vl vu vs) (pl : IsPart vl none) (pu : IsPart vu none) (ps : IsPart vs (some (-1)))
    (h : Q ((n : Int) - 1, -1, n) s) : wpAny (model prog w) A (Builtin.Slice.sliceApplied (.ref sl) (pure (n : Int))) Q E s := by
  obtain ⟨os, hos, hcs, hds⟩ := id hs
  unfold Builtin.Slice.sliceApplied Builtin.Slice.sliceFields
  refine wpAny_bind (wpAny_bind (wpAny_field hos hds (x := vl) rfl (wpAny_bind (wpAny_field hos hds (x := vu) rfl (wpAny_bind (wpAny_field hos hds (x := vs) rfl (wpAny_pure ?_)))))))
  refine wpAny_bind (HT.slicePart_ ps ?_)
  show wpAny _ _ (if ((-1 : Int) == 0) = true then _ else _) _ _ s
  rw [if_neg (by decide)]
  refine wpAny_bind (HT.slicePart_ pl (wpAny_bind (HT.slicePart_ pu (wpAny_bind (wpAny_pure ?_)))))
  show wpAny _ _ (pure ((n : Int) - 1, (-1 : Int), Builtin.Slice.slicePlaces ((n : Int) - 1) (-1) (-1))) _ _ s
  have e : Builtin.Slice.slicePlaces ((n : Int) - 1) (-1) (-1) = n := by
    unfold Builtin.Slice.slicePlaces
    have h1 : ¬ ((-1 : Int) > 0) := by decide
    simp only [h1, if_false]
    by_cases hn : (n : Int) - 1 > -1
    · rw [if_pos hn, show (-(-1 : Int)) = 1 from rfl, Int.ediv_one]
      omega
    · rw [if_neg hn]
      omega
  rw [e]
  exact wpAny_pure h
theorem pick_rv (xs : Array Value) : ((List.range xs.size).filterMap fun (m : Nat) => xs[(((xs.size : Int) - 1) + (m : Int) * (-1)).toNat]?).toArray = xs.toList.reverse.toArray := by
  congr 1
  have fc : ∀ {f g : Nat → Option Value} (l : List Nat), (∀ x ∈ l, f x = g x) → l.filterMap f = l.filterMap g := by
    intro f g l
    induction l with
    | nil => intro _; rfl
    | cons x l ih =>
      intro h
      rw [List.filterMap_cons, List.filterMap_cons, h x (List.mem_cons_self ..), ih fun y hy => h y (List.mem_cons_of_mem _ hy)]
  have e : (List.range xs.size).filterMap (fun (m : Nat) => xs[(((xs.size : Int) - 1) + (m : Int) * (-1)).toNat]?) = (List.range xs.size).filterMap fun m => xs.toList.reverse[m]? := by
    refine fc _ fun m hm => ?_
    have hm := List.mem_range.mp hm
    rw [List.getElem?_reverse (by rw [Array.length_toList]; exact hm), Array.length_toList, Array.getElem?_toList]
    congr 1
    omega
  rw [e]
  have key : ∀ l : List Value, (List.range l.length).filterMap (fun m => l[m]?) = l := by
    intro l
    induction l with
    | nil => rfl
    | cons x l ih =>
      rw [List.length_cons, List.range_succ_eq_map, List.filterMap_cons]
      show x :: _ = _
      rw [List.filterMap_map]
      congr 1
  have := key xs.toList.reverse
  rw [List.length_reverse, Array.length_toList] at this
  exact this
theorem getItem_tuple_rv {t sl : Addr} {items : Array Value} {vl vu vs : Value} {Q : Value → Shared → Prop} (ht : IsTup s.heap t items) (hs : s.heap.IsSliceOf sl vl vu vs) (pl : IsPart vl none) (pu : IsPart vu none) (ps : IsPart vs (some (-1)))
    (h : Q (.ref s.heap.objs.size) { s with heap := s.heap.push { cls := .type "tuple", data := .seq items.toList.reverse.toArray } }) (hsz : items.size ≤ sizeLine) : wpAny (model prog w) A (getItem (.ref t) (.ref sl)) Q E s := by
  have htake : sizeOk (.seq items.toList.reverse.toArray) := by
    show items.toList.reverse.toArray.size ≤ sizeLine
    rw [List.size_toArray, List.length_reverse, Array.length_toList]
    exact hsz
  obtain ⟨os, hos, hcs, hds⟩ := id hs
  have hTs : s.TypeIs (.ref sl) "slice" := ⟨os, hos, hcs⟩
  unfold getItem
  try with_reducible refine wpAny_holding ?_
  first | refine wpAny_bind (wpAny_pure ?_) | skip
  refine wpAny_bind (wpAny_sequenceKey ht.typeIs (by decide) ?_)
  refine wpAny_bind (wpAny_callSpecial?_slot (name := Str.ofString "__getitem__") ht.typeIs PyProof.Rows.slot_tuple_getitem
    (wpAny_call_entry PyProof.Rows.slot_tuple_getitem ht.typeIs entry_tuple_getitem ?_ (args_tuple_getitem _ _)))
  show wpAny _ _ (Builtin.Tuple.tupleItemsOf (.ref t) >>= _) _ _ s
  refine wpAny_bind (tupleItemsOf_ ht ?_)
  refine wpAny_bind (wpAny_typeOf hTs ?_)
  rw [if_pos (by decide)]
  refine wpAny_bind (sliceApplied_rv hs pl pu ps ?_)
  have hno : ¬ ((((items.size : Int) - 1) == 0 && (-1 : Int) == 1 && items.size == items.size) = true) := by
    intro q
    rw [Bool.and_eq_true, Bool.and_eq_true] at q
    exact absurd q.1.2 (by decide)
  show wpAny _ _ (if (((items.size : Int) - 1) == 0 && (-1 : Int) == 1 && items.size == items.size) = true then _ else _) _ _ s
  rw [if_neg hno, pick_rv]
  first
    | exact wpAny_bind (m := Builtin.Tuple.tupleExact _) (wpAny_newObj_type (wpAny_pure ⟨_, rfl, wpAny_pure h⟩) htake)
    | exact wpAny_bind (m := Builtin.Tuple.tupleExact _) (wpAny_newObj_type (wpAny_bind (wpAny_pure (wpAny_pure ⟨_, rfl, wpAny_pure h⟩))) htake)
    | exact wpAny_bind (wpAny_bind (m := Builtin.Tuple.tupleExact _) (wpAny_newObj_type (wpAny_pure (wpAny_pure ⟨_, rfl, wpAny_pure h⟩)) htake))
    | exact wpAny_bind (wpAny_bind (m := Builtin.Tuple.tupleExact _) (wpAny_newObj_type (wpAny_pure ⟨_, rfl, wpAny_pure h⟩) htake))
end
section
variable {X : Cx}
def tRevU (K : PySem.W.Frag) (te : TE) : TE := fun σ H Q => te σ H fun x H1 => (∃ a xs, x = .ref a ∧ SqL K H1 a xs ∧ ∀ p, H1 p = none → Q (.ref p) (upd H1 p (.lst xs.reverse))) ∨ (∃ a xs, x = .ref a ∧ SqT K H1 a xs ∧ ∀ p, H1 p = none → Q (.ref p) (upd H1 p (.tup xs.reverse)))
theorem pe_revU {e : Expr} {te : TE} {k : Nat} {p1 p2 p3 pos : Pos} (he : PE X e te) : PE X (.Subscript e (.Slice none none (some (.UnaryOp .USub (.Constant (.int 1) k p1) p2)) p3) pos) (tRevU X.K te) := by
  refine ⟨fun pins s σ H Q I h => ?_⟩
  refine Subscript_ (thn (he.run pins s σ H _ I h) fun v s1 ⟨x, H1, I1, r1, q1⟩ => ?_)
  have hst : PO X (some (.UnaryOp .USub (.Constant (.int 1) k p1) p2)) (tPart (tUn (rU fun i => .int (-i)) (tC (.int 1)))) := po_some (pe_un un_neg pe_int)
  refine wpAny_Slice (thn (po_none.run pins s1 σ H1 (fun o H2 => o = none ∧ H2 = H1) I1 ⟨rfl, rfl⟩) fun vl s2 ⟨l, H2, I2, pl, el, e2⟩ => ?_)
  subst el e2
  refine thn (po_none.run pins s2 σ H2 (fun o H3 => o = none ∧ H3 = H2) I2 ⟨rfl, rfl⟩) fun vu s3 ⟨u, H3, I3, pu, eu, e3⟩ => ?_
  subst eu e3
  refine thn (hst.run pins s3 σ H3 (fun o H4 => o = some (-1) ∧ H4 = H3) I3 ⟨1, rfl, -1, rfl, rfl, rfl⟩) fun vs s4 ⟨o, H4, I4, ps, eo, e4⟩ => ?_
  subst eo e4
  have I5 : Inv X pins σ H4 { s4 with heap := s4.heap.push { cls := .type "slice", data := .fields #[vl, vu, vs] } } := I4.kept (t' := s4.toks) fun b ob q => Heap.get?_push_of_some _ q
  rcases q1 with ⟨a, xs, ex, hx, q⟩ | ⟨a, xs, ex, hx, q⟩
  · subst ex
    cases r1
    obtain ⟨its, r, ht, hz⟩ := I5.list hx
    have hlen := r.length
    show wpAny (model X.prog X.w) X.A (subscriptTail e (.Slice none none (some (.UnaryOp .USub (.Constant (.int 1) k p1) p2)) p3) (.ref a) (.ref s4.heap.objs.size)) (EP X pins σ Q) X.xe { s4 with heap := s4.heap.push { cls := .type "slice", data := .fields #[vl, vu, vs] } }
    refine tail_any (ops := [.ref a, .ref s4.heap.objs.size]) ht.isList.typeIs (PySem.slot_list_getitem.lookup) ?_ (by with_unfolding_all rfl)
    refine wpAny_getItem_list_slice ht.isList (Heap.IsSliceOf.new _ vl vu vs) pl pu ps (by decide) ?_ (by rw [List.size_toArray]; omega)
    rw [PySem.W.krv_pick]
    refine ⟨.ref _, _, I5.laid (t' := s4.toks) (o := .lst xs.reverse) (fun b ob q => Heap.get?_push_of_some _ q) (Nat.le_refl _) ?_, rfl, q _ (I5.hok.fresh (Nat.le_refl _))⟩
    exact ⟨by rw [List.length_reverse]; exact hz, _, 0, r.reverse, Heap.get?_push_size _ rfl⟩
  · subst ex
    cases r1
    obtain ⟨its, r, ht, hz⟩ := I5.tuple hx
    have hlen := r.length
    show wpAny (model X.prog X.w) X.A (subscriptTail e (.Slice none none (some (.UnaryOp .USub (.Constant (.int 1) k p1) p2)) p3) (.ref a) (.ref s4.heap.objs.size)) (EP X pins σ Q) X.xe { s4 with heap := s4.heap.push { cls := .type "slice", data := .fields #[vl, vu, vs] } }
    refine tail_any (ops := [.ref a, .ref s4.heap.objs.size]) ht.typeIs (PyProof.Rows.slot_tuple_getitem.lookup) ?_ (by with_unfolding_all rfl)
    refine getItem_tuple_rv ht (Heap.IsSliceOf.new _ vl vu vs) pl pu ps ?_ (by rw [List.size_toArray]; omega)
    refine ⟨.ref _, _, I5.laid (t' := s4.toks) (o := .tup xs.reverse) (fun b ob q => Heap.get?_push_of_some _ q) (Nat.le_refl _) ?_, rfl, q _ (I5.hok.fresh (Nat.le_refl _))⟩
    refine ⟨by rw [List.length_reverse]; exact hz, _, r.reverse, ?_⟩
    exact IsTup.new _ _
end
end DL

set_option Elab.async false
set_option linter.all false
set_option maxRecDepth 100000
set_option maxHeartbeats 4000000
/-! DL7: subscripts, slices, built-in functions, methods of lists, what is walked -/
namespace DL
open PySem PySem.Spec PyProof.Rows L2

section
variable {I : Type} {Xs : I → Cx} {G : Gx} {E : WK} {kk : Nat}
/-! ### dicts -/
def keyOf : D → Option Key
  | .int i => some (.inl i)
  | .str x => some (.inr x)
  | _ => none
def keysOf : D → Option (List Key)
  | .tup ds => ds.mapM keyOf
  | _ => none
section
variable {κ : Type} [DecidableEq κ]
def valD (kvs : List (κ × D)) (k : κ) : Option D := (kvs.find? fun kv => decide (kv.1 = k)).map (·.2)
def putD (kvs : List (κ × D)) (k : κ) (v : D) : List (κ × D) :=
  if (kvs.any fun kv => decide (kv.1 = k)) = true then kvs.map (fun kv => if kv.1 = k then (kv.1, v) else kv) else kvs ++ [(k, v)]
theorem valD_rep {ι : Ix} {L : Addr → Prop} {H : Hp} : ∀ {kvs : List (κ × V)} {kds : List (κ × D)} (k : κ), kvs.map (·.1) = kds.map (·.1) → Reps G ι L H (kvs.map (·.2)) (kds.map (·.2)) →
    (valD kds k = none → valV kvs k = none) ∧ ∀ d, valD kds k = some d → ∃ v, valV kvs k = some v ∧ Rep G ι L H v d
  | [], [], k, _, _ => ⟨fun _ => rfl, fun d h => by cases h⟩
  | [], _ :: _, _, e, _ => by cases e
  | _ :: _, [], _, e, _ => by cases e
  | (k1, v) :: kvs, (k2, d) :: kds, k, e, r => by
    simp only [List.map_cons, List.cons.injEq] at e
    obtain ⟨e1, e2⟩ := e
    subst e1
    cases r with
    | cons q r =>
      have ih := valD_rep k e2 r
      by_cases h : k1 = k
      · subst h
        unfold valD
        simp only [List.find?_cons, decide_true, Option.map_some]
        exact ⟨fun z => (nomatch z), fun d' z => ⟨v, valV_pos rfl, by cases z; exact q⟩⟩
      · have e3 : valD ((k1, d) :: kds) k = valD kds k := by
          unfold valD
          simp [List.find?_cons, h]
        have e4 : valV ((k1, v) :: kvs) k = valV kvs k := valV_neg h
        rw [e3, e4]
        exact ih
theorem any_fst : ∀ {kvs : List (κ × V)} {kds : List (κ × D)} (k : κ), kvs.map (·.1) = kds.map (·.1) → (kvs.any fun kv => decide (kv.1 = k)) = (kds.any fun kv => decide (kv.1 = k))
  | [], [], k, _ => rfl
  | [], _ :: _, _, e => by cases e
  | _ :: _, [], _, e => by cases e
  | (k1, v) :: kvs, (k2, d) :: kds, k, e => by
    simp only [List.map_cons, List.cons.injEq] at e
    obtain ⟨e1, e2⟩ := e
    subst e1
    simp only [List.any_cons]
    rw [any_fst k e2]
theorem putD_rep {ι : Ix} {L : Addr → Prop} {H : Hp} {kvs : List (κ × V)} {kds : List (κ × D)} (k : κ) {v : V} {d : D} (e : kvs.map (·.1) = kds.map (·.1)) (r : Reps G ι L H (kvs.map (·.2)) (kds.map (·.2))) (q : Rep G ι L H v d) :
    (putK kvs k v).map (·.1) = (putD kds k d).map (·.1) ∧ Reps G ι L H ((putK kvs k v).map (·.2)) ((putD kds k d).map (·.2)) := by
  unfold putK putD
  rw [any_fst k e]
  split
  · have go : ∀ {kvs : List (κ × V)} {kds : List (κ × D)}, kvs.map (·.1) = kds.map (·.1) → Reps G ι L H (kvs.map (·.2)) (kds.map (·.2)) →
        (kvs.map (fun kv => if kv.1 = k then (kv.1, v) else kv)).map (·.1) = (kds.map (fun kv => if kv.1 = k then (kv.1, d) else kv)).map (·.1) ∧
        Reps G ι L H ((kvs.map (fun kv => if kv.1 = k then (kv.1, v) else kv)).map (·.2)) ((kds.map (fun kv => if kv.1 = k then (kv.1, d) else kv)).map (·.2)) := by
      intro kvs
      induction kvs with
      | nil =>
        intro kds e r
        cases kds with
        | nil => exact ⟨rfl, .nil⟩
        | cons _ _ => cases e
      | cons p kvs ih =>
        intro kds e r
        cases kds with
        | nil => cases e
        | cons p2 kds =>
          obtain ⟨k1, v1⟩ := p
          obtain ⟨k2, d2⟩ := p2
          simp only [List.map_cons, List.cons.injEq] at e
          obtain ⟨e1, e2⟩ := e
          subst e1
          cases r with
          | cons q0 r =>
            obtain ⟨a1, a2⟩ := ih e2 r
            by_cases h : k1 = k
            · simp only [List.map_cons, if_pos h]
              exact ⟨by rw [a1], .cons q a2⟩
            · simp only [List.map_cons, if_neg h]
              exact ⟨by rw [a1], .cons q0 a2⟩
    exact go e r
  · rw [List.map_append, List.map_append, List.map_append, List.map_append, e]
    exact ⟨rfl, r.app (.cons q .nil)⟩
theorem len_fst {kvs : List (κ × V)} {kds : List (κ × D)} (e : kvs.map (·.1) = kds.map (·.1)) : kvs.length = kds.length := by
  have := congrArg List.length e
  simpa using this
end
theorem keyOf_rep {ι : Ix} {L : Addr → Prop} {H : Hp} {v : V} {d : D} {k : Key} (r : Rep G ι L H v d) (h : keyOf d = some k) : v = kV k := by
  cases r <;> cases h <;> rfl
theorem keysOf_rep {ι : Ix} {L : Addr → Prop} {H : Hp} : ∀ {vs : List V} {ds : List D} {ks : List Key}, Reps G ι L H vs ds → ds.mapM keyOf = some ks → vs = ks.map kV
  | _, _, ks, .nil, h => by
    simp at h
    subst h
    rfl
  | _, d :: ds, ks, .cons q r, h => by
    rw [List.mapM_cons] at h
    cases e1 : keyOf d with
    | none => rw [e1] at h; cases h
    | some k =>
      rw [e1] at h
      cases e2 : ds.mapM keyOf with
      | none => rw [e2] at h; cases h
      | some ks' =>
        rw [e2] at h
        cases h
        rw [List.map_cons, keyOf_rep q e1, keysOf_rep r e2]
def dKOf : D → Sto → Option (List (Key × D))
  | .dK kvs, _ => some kvs
  | .ref n, S => match S[n]? with
    | some (some (.dK kvs)) => some kvs
    | _ => none
  | _, _ => none
def dTOf : D → Sto → Option (List (List Key × D))
  | .dT kvs, _ => some kvs
  | .ref n, S => match S[n]? with
    | some (some (.dT kvs)) => some kvs
    | _ => none
  | _, _ => none
theorem dK_at {ι : Ix} {S : Sto} {H : Hp} {v : V} {d : D} {kds : List (Key × D)} (R : Rel G ι S H) (r : Rep G ι (Lv ι S) H v d) (h : dKOf d S = some kds) :
    ∃ a kvs, v = .ref a ∧ H a = some (.dK kvs) ∧ kvs.map (·.1) = kds.map (·.1) ∧ Reps G ι (Lv ι S) H (kvs.map (·.2)) (kds.map (·.2)) := by
  cases r with
  | dK q k e r =>
    cases h
    exact ⟨_, _, rfl, q, e, r⟩
  | ref q =>
    rename_i a n
    unfold dKOf at h
    cases hs : S[n]? with
    | none =>
      simp only [hs] at h
      cases h
    | some o =>
      simp only [hs] at h
      cases o with
      | none => cases h
      | some cl =>
        cases cl with
        | dK es =>
          cases h
          obtain ⟨a', h1, vs, h2, h3⟩ := R.cell n _ hs
          rw [q] at h1
          cases h1
          exact ⟨a, vs, rfl, h2, h3⟩
        | _ => cases h
  | _ => cases h
theorem dT_at {ι : Ix} {S : Sto} {H : Hp} {v : V} {d : D} {kds : List (List Key × D)} (R : Rel G ι S H) (r : Rep G ι (Lv ι S) H v d) (h : dTOf d S = some kds) :
    ∃ a kvs, v = .ref a ∧ H a = some (.dT kvs) ∧ kvs.map (·.1) = kds.map (·.1) ∧ Reps G ι (Lv ι S) H (kvs.map (·.2)) (kds.map (·.2)) := by
  cases r with
  | dT q k e r =>
    cases h
    exact ⟨_, _, rfl, q, e, r⟩
  | ref q =>
    rename_i a n
    unfold dTOf at h
    cases hs : S[n]? with
    | none =>
      simp only [hs] at h
      cases h
    | some o =>
      simp only [hs] at h
      cases o with
      | none => cases h
      | some cl =>
        cases cl with
        | dT es =>
          cases h
          obtain ⟨a', h1, vs, h2, h3⟩ := R.cell n _ hs
          rw [q] at h1
          cases h1
          exact ⟨a, vs, rfl, h2, h3⟩
        | _ => cases h
  | _ => cases h
/-- what a dict holds at a key: none where it is no dict or no key; some none where the key is not there -/
def dGet (x y : D) (S : Sto) : Option (Option D) := match dKOf x S with
  | some kds => (keyOf y).map (valD kds)
  | none => match dTOf x S with
    | some kds => (keysOf y).map (valD kds)
    | none => none
theorem dGet_at {ι : Ix} {S : Sto} {H : Hp} {v w : V} {d e : D} {o : Option D} (R : Rel G ι S H) (r : Rep G ι (Lv ι S) H v d) (s : Rep G ι (Lv ι S) H w e) (h : dGet d e S = some o) :
    ∃ a u, v = .ref a ∧ DGet H a w u ∧ (o = none → u = none) ∧ ∀ d', o = some d' → ∃ v', u = some v' ∧ Rep G ι (Lv ι S) H v' d' := by
  unfold dGet at h
  cases h1 : dKOf d S with
  | some kds =>
    simp only [h1] at h
    cases h2 : keyOf e with
    | none => rw [h2] at h; cases h
    | some k =>
      rw [h2] at h
      cases h
      obtain ⟨a, kvs, rfl, ha, he, hr⟩ := dK_at R r h1
      obtain ⟨a1, a2⟩ := valD_rep k he hr
      refine ⟨a, valV kvs k, rfl, ?_, a1, a2⟩
      rw [keyOf_rep s h2]
      exact DGet.k ha
  | none =>
    simp only [h1] at h
    cases h3 : dTOf d S with
    | none => simp only [h3] at h; cases h
    | some kds =>
      simp only [h3] at h
      cases h2 : keysOf e with
      | none => rw [h2] at h; cases h
      | some k =>
        rw [h2] at h
        cases h
        obtain ⟨a, kvs, rfl, ha, he, hr⟩ := dT_at R r h3
        obtain ⟨a1, a2⟩ := valD_rep k he hr
        cases e with
        | tup ds =>
          cases s with
          | tup q hl rs =>
            rw [keysOf_rep rs h2] at q
            exact ⟨a, valV kvs k, rfl, DGet.t ha q, a1, a2⟩
        | _ => cases h2

/-! ### subscripts -/
theorem ix_dict {X : Cx} (hu : X.A.units + 1 < cLine) : IxR X (fun x y H Q => ∃ a v, x = .ref a ∧ DGet H a y (some v) ∧ Q v H) := by
  intro value slice pins s σ H x y v u Q Iv rx ry h hs
  obtain ⟨a, z, rfl, g, q⟩ := h
  obtain rfl : v = Value.ref a := rx
  exact tail_any (dict_typeIs Iv g) PySem.F.slot_dict_getitem.lookup (d_getItem hu Iv g ry fun w' s3 I3 rw' => ⟨z, H, I3, rw', q⟩) hs
def rIxU (K : PySem.W.Frag) : R2 := fun x y H Q => rIx K x y H Q ∨ ∃ a v, x = .ref a ∧ DGet H a y (some v) ∧ Q v H
theorem ix_any (F : FamH Xs G E) (j : I) : IxR (Xs j) (rIxU G.K) := by
  have z := (ix_seq (X := Xs j)).or (ix_dict (F.hu j))
  rw [F.K j] at z
  exact z
def atD (ds : List D) (i : Int) : Option D := (ixN ds.length i).bind fun j => ds[j]?
theorem atD_rep {ι : Ix} {L : Addr → Prop} {H : Hp} {vs : List V} {ds : List D} {i : Int} {d : D} (r : Reps G ι L H vs ds) (h : atD ds i = some d) : ∃ v, atI vs i = some v ∧ Rep G ι L H v d := by
  unfold atD at h
  unfold atI
  rw [r.length]
  cases e : ixN ds.length i with
  | none => rw [e] at h; cases h
  | some j =>
    rw [e] at h
    exact r.get h
def p_ixD (x y : D) (S : Sto) : Res D := match dGet x y S with
  | some (some d) => .ok d S
  | _ => .stuck
def p_ixS (x y : D) (S : Sto) : Res D := match x, y with
  | .str z, .int i => if z.length ≤ 1000000 then match atI z.cps.toList i with
      | some c => .ok (.str ⟨#[c]⟩) S
      | none => .stuck else .stuck
  | x, y => p_ixD x y S
def p_ixL (ds : List D) (i : Int) (S : Sto) : Res D := match atD ds i with
  | some d => .ok d S
  | none => .stuck
def p_ix (x y : D) (S : Sto) : Res D := match y with
  | .int i => match itemsOf x S with
    | some ds => p_ixL ds i S
    | none => p_ixS x (.int i) S
  | y => p_ixD x y S
theorem snd_ix : SndR G (rIxU G.K) p_ix := fun E ι S H x y dx dy Q R rx ry q => by
  have dicts : Post G E ι S H (PV G Q) (p_ixD dx dy S) → rIxU G.K x y H Q := fun q0 => by
    unfold p_ixD at q0
    cases h1 : dGet dx dy S with
    | none => rw [h1] at q0; exact q0.elim
    | some o =>
      rw [h1] at q0
      cases o with
      | none => exact q0.elim
      | some d =>
        have q0 : Post G E ι S H (PV G Q) (.ok d S) := q0
        obtain ⟨a, u, rfl, g, _, hs⟩ := dGet_at R rx ry h1
        obtain ⟨v', rfl, rv⟩ := hs d rfl
        exact .inr ⟨a, v', rfl, g, Post.here R q0 v' rv⟩
  cases dy with
  | int i =>
    have q : Post G E ι S H (PV G Q) (match itemsOf dx S with
      | some ds => p_ixL ds i S
      | none => p_ixS dx (.int i) S) := q
    cases h1 : itemsOf dx S with
    | none =>
      rw [h1] at q
      have q : Post G E ι S H (PV G Q) (p_ixS dx (.int i) S) := q
      cases dx with
      | str z =>
        have q0 : Post G E ι S H (PV G Q) (if z.length ≤ 1000000 then match atI z.cps.toList i with
          | some c => .ok (.str ⟨#[c]⟩) S
          | none => .stuck else .stuck) := q
        split at q0
        · rename_i hz
          cases h1 : atI z.cps.toList i with
          | none => rw [h1] at q0; exact q0.elim
          | some c =>
            rw [h1] at q0
            have q0 : Post G E ι S H (PV G Q) (.ok (.str ⟨#[c]⟩) S) := q0
            exact .inl (.inr (.inr ⟨z, i, c, rx.str_of, ry.int_of, Nat.le_trans hz (by rw [sizeLine_eq]; decide), h1, Post.here R q0 _ (.str _)⟩))
        · exact q0.elim
      | _ => exact dicts q
    | some ds =>
      rw [h1] at q
      have q : Post G E ι S H (PV G Q) (match atD ds i with
        | some d => .ok d S
        | none => .stuck) := q
      cases h2 : atD ds i with
      | none => rw [h2] at q; exact q.elim
      | some d =>
        rw [h2] at q
        have q : Post G E ι S H (PV G Q) (.ok d S) := q
        obtain ⟨a, vs, rfl, ha, ra⟩ := items_at R rx h1
        obtain ⟨v, hv, rv⟩ := atD_rep ra h2
        have q1 := Post.here R q v rv
        rcases ha with ha | ha
        · exact .inl (.inl ⟨a, vs, i, v, rfl, ry.int_of, ha, hv, q1⟩)
        · exact .inl (.inr (.inl ⟨a, vs, i, v, rfl, ry.int_of, ha, hv, q1⟩))
  | _ => exact dicts q
theorem de_ix (F : FamH Xs G E) {x y : Expr} {pos : Pos} {a b : ECode} (ha : DE Xs G E x a) (hb : DE Xs G E y b) (hs : PlainIx y) : DE Xs G E (.Subscript x y pos) (c_op p_ix a b) := by
  obtain ⟨ta, pa, sa⟩ := ha
  obtain ⟨tb, pb, sb⟩ := hb
  exact ⟨_, fun j => pe_ix (ix_any F j) (pa j) (pb j) hs, snd_op snd_ix sa sb⟩
/-- in, not in: a sequence of flat items, a dict, a text -/
def p_inD (neg : Bool) (x y : D) (S : Sto) : Res D := match dGet y x S with
  | some o => .ok (.bl (if neg = true then !o.isSome else o.isSome)) S
  | none => .stuck

/-! ### slices -/
def DP (Xs : I → Cx) (G : Gx) (E : WK) (e : Option Expr) (c : Env → Sto → Res (Option Int)) : Prop := ∃ t : TO, (∀ j, PO (Xs j) e t) ∧ ∀ ι S H σ ρ Q, Rel G ι S H → REnv G ι S H σ ρ → Post G (E σ) ι S H (fun o _ _ H' => Q o H') (c ρ S) → t σ H Q
def c_no : Env → Sto → Res (Option Int) := fun _ S => .ok none S
def c_part (a : ECode) : Env → Sto → Res (Option Int) := fun ρ S => (a ρ S).bind fun d S1 => match d with
  | .int i => .ok (some i) S1
  | _ => .stuck
theorem dp_none : DP Xs G E none c_no := ⟨_, fun _ => po_none, fun ι S H σ ρ Q R e q => Post.here R q⟩
theorem dp_some {e : Expr} {a : ECode} (ha : DE Xs G E e a) : DP Xs G E (some e) (c_part a) := by
  obtain ⟨ta, pa, sa⟩ := ha
  refine ⟨_, fun j => po_some (pa j), fun ι S H σ ρ Q R e q => ?_⟩
  refine sa.go R e q fun d S1 ι1 H1 v x1 R1 e1 r1 q1 => ?_
  cases d with
  | int i => exact ⟨i, r1.int_of, Post.here R1 q1⟩
  | _ => exact q1.elim
def cutD (ds : List D) (lo hi : Option Int) : List D := (ds.drop (HT.sIx ds.length 0 lo)).take (HT.sIx ds.length ds.length hi - HT.sIx ds.length 0 lo)
theorem cutD_rep {ι : Ix} {L : Addr → Prop} {H : Hp} {vs : List V} {ds : List D} (r : Reps G ι L H vs ds) (lo hi : Option Int) : Reps G ι L H (cutV vs lo hi) (cutD ds lo hi) := by
  unfold cutV cutD
  rw [r.length]
  exact (r.drop _).take _
def whole (ds : List D) (lo hi : Option Int) : Bool := decide (HT.sIx ds.length 0 lo = 0 ∧ HT.sIx ds.length ds.length hi = ds.length)
theorem cutD_whole {ds : List D} {lo hi : Option Int} (h : whole ds lo hi = true) : cutD ds lo hi = ds := by
  obtain ⟨h1, h2⟩ := of_decide_eq_true h
  unfold cutD
  rw [h1, h2]
  simp
def p_slL (b : Bool) (x : D) (lo hi : Option Int) (S : Sto) : Res D := match x with
  | .lst ds => p_lst b (cutD ds lo hi) S
  | .scr ds => p_lst b (cutD ds lo hi) S
  | x => match lstOf x S with
    | some ds => p_lst b (cutD ds lo hi) S
    | none => .stuck
def p_sl (b : Bool) (x : D) (lo hi : Option Int) (S : Sto) : Res D := match x with
  | .tup ds => .ok (.tup (cutD ds lo hi)) S
  | .wtp ds => if whole ds lo hi = true then .ok (.wtp ds) S else .ok (.tup (cutD ds lo hi)) S
  | .str z => if z.length ≤ 1000000 then .ok (.str (cutS z lo hi)) S else .stuck
  | x => p_slL b x lo hi S
def rSlU (K : PySem.W.Frag) : V → Option Int → Option Int → Hp → VK → Prop := fun x lo hi H Q => rSlL K x lo hi H Q ∨ rSlA K x lo hi H Q ∨ rSlS x lo hi H Q
theorem sl_any {X : Cx} : SlR X (rSlU X.K) := sl_list.or (sl_tupA.or sl_str)
theorem snd_sl {E0 : XK} (b : Bool) {ι : Ix} {S : Sto} {H : Hp} {x : V} {dx : D} {lo hi : Option Int} {Q : VK} (R : Rel G ι S H) (rx : Rep G ι (Lv ι S) H x dx) (q : Post G E0 ι S H (PV G Q) (p_sl b dx lo hi S)) : rSlU G.K x lo hi H Q := by
  have lists : ∀ ds, (lstOf dx S = some ds ∨ dx = .scr ds) → Post G E0 ι S H (PV G Q) (p_lst b (cutD ds lo hi) S) → rSlU G.K x lo hi H Q := fun ds hd q => by
    have hi' : itemsOf dx S = some ds ∧ ∀ e, dx ≠ .tup e := by
      rcases hd with hd | hd
      · cases dx <;> first | (cases hd; exact ⟨rfl, fun _ h => nomatch h⟩) | exact ⟨hd, fun _ h => nomatch h⟩ | cases hd
      · subst hd
        exact ⟨rfl, fun _ h => nomatch h⟩
    obtain ⟨hi', ht⟩ := hi'
    have hl : ∃ a vs, x = .ref a ∧ SqL G.K H a vs ∧ Reps G ι (Lv ι S) H vs ds := by
      rcases hd with hd | hd
      · obtain ⟨a, vs, h1, h2, h3⟩ := lst_at R rx hd
        exact ⟨a, vs, h1, SqL.of h2, h3⟩
      · subst hd
        cases rx with
        | scr q r =>
          rename_i a vs
          refine ⟨a, vs, rfl, ?_, r⟩
          rcases q with q | q
          · exact .inl q.1
          · exact .inr q
    obtain ⟨a, vs, rfl, ha, ra⟩ := hl
    exact .inl ⟨a, vs, rfl, ha, (p_lst_ok R (cutD_rep ra lo hi) q).2⟩
  have tups : ∀ a vs ds, x = .ref a → SqT G.K H a vs → Reps G ι (Lv ι S) H vs ds → (whole ds lo hi = true → Q (.ref a) H) → (¬ whole ds lo hi = true → Post G E0 ι S H (PV G Q) (.ok (.tup (cutD ds lo hi)) S)) → rSlU G.K x lo hi H Q := fun a vs ds ex hs rs q1 q2 => by
    refine .inr (.inl ⟨a, vs, ex, hs, fun h => q1 ?_, fun h p hp => ?_⟩)
    · rw [rs.length] at h
      exact decide_eq_true h
    · rw [rs.length] at h
      have q3 := q2 fun z => h (of_decide_eq_true z)
      obtain ⟨x', R', r'⟩ := new_tup R hp (cutD_rep rs lo hi)
      exact q3 _ _ x' R' _ r'
  cases dx with
  | tup ds =>
    have q : Post G E0 ι S H (PV G Q) (.ok (.tup (cutD ds lo hi)) S) := q
    obtain ⟨a, vs, rfl, hs, rs⟩ := rx.sqT
    refine tups a vs ds rfl hs rs (fun h => ?_) fun _ => q
    rw [cutD_whole h] at q
    exact Post.here R q _ rx
  | wtp ds =>
    have q : Post G E0 ι S H (PV G Q) (if whole ds lo hi = true then .ok (.wtp ds) S else .ok (.tup (cutD ds lo hi)) S) := q
    cases rx with
    | wtp hw r =>
      rename_i a vs
      refine tups a vs ds rfl (.inr hw) r (fun h => ?_) fun h => ?_
      · rw [if_pos h] at q
        exact Post.here R q _ (.wtp hw r)
      · rw [if_neg h] at q
        exact q
  | str z =>
    have q : Post G E0 ι S H (PV G Q) (if z.length ≤ 1000000 then .ok (.str (cutS z lo hi)) S else .stuck) := q
    split at q
    · rename_i hz
      exact .inr (.inr ⟨z, rx.str_of, Nat.le_trans hz (by rw [sizeLine_eq]; decide), Post.here R q _ (.str _)⟩)
    · exact q.elim
  | lst ds => exact lists ds (.inl rfl) q
  | scr ds => exact lists ds (.inr rfl) q
  | ref n =>
    have q : Post G E0 ι S H (PV G Q) (match lstOf (.ref n) S with
      | some ds => p_lst b (cutD ds lo hi) S
      | none => .stuck) := q
    cases h1 : lstOf (.ref n) S with
    | none => rw [h1] at q; exact q.elim
    | some ds =>
      rw [h1] at q
      exact lists ds (.inl h1) q
  | _ => exact q.elim
def c_sl (b : Bool) (a : ECode) (l h : Env → Sto → Res (Option Int)) : ECode := fun ρ S => (a ρ S).bind fun x S1 => (l ρ S1).bind fun lo S2 => (h ρ S2).bind fun hi S3 => p_sl b x lo hi S3
theorem de_sl (b : Bool) {e : Expr} {lo hi : Option Expr} {p2 pos : Pos} {a : ECode} {l h : Env → Sto → Res (Option Int)} (ha : DE Xs G E e a) (hl : DP Xs G E lo l) (hh : DP Xs G E hi h) (F : Fam Xs G E kk) : DE Xs G E (.Subscript e (.Slice lo hi none p2) pos) (c_sl b a l h) := by
  obtain ⟨ta, pa, sa⟩ := ha
  obtain ⟨tl, pl, sl⟩ := hl
  obtain ⟨th, ph, sh⟩ := hh
  refine ⟨tSl (rSlU G.K) ta tl th, fun j => by have z := pe_slice (X := Xs j) (p2 := p2) (pos := pos) sl_any (pa j) (pl j) (ph j); rw [F.K j] at z; exact z, fun ι S H σ ρ Q R e q => ?_⟩
  refine sa.go R e q fun d S1 ι1 H1 v x1 R1 e1 r1 q1 => ?_
  refine sl ι1 S1 H1 σ ρ _ R1 e1 (Post.bind q1 fun lo S2 ι2 H2 x2 R2 q2 => ?_)
  refine sh ι2 S2 H2 σ ρ _ R2 (e1.mono x2) (Post.bind q2 fun hi S3 ι3 H3 x3 R3 q3 => ?_)
  exact snd_sl b R3 ((r1.mono x2).mono x3) q3
/-- xs[::-1] -/
def c_rev (b : Bool) (a : ECode) : ECode := fun ρ S => (a ρ S).bind fun x S1 => match x with
  | .tup ds => p_tup ds.reverse S1
  | .wtp ds => p_tup ds.reverse S1
  | x => match itemsOf x S1 with
    | some ds => p_lst b ds.reverse S1
    | none => .stuck
theorem lists_at {ι : Ix} {S : Sto} {H : Hp} {v : V} {d : D} {ds : List D} (R : Rel G ι S H) (r : Rep G ι (Lv ι S) H v d) (h : itemsOf d S = some ds) (h1 : ∀ e, d ≠ .tup e) (h2 : ∀ e, d ≠ .wtp e) : ∃ a vs, v = .ref a ∧ SqL G.K H a vs ∧ Reps G ι (Lv ι S) H vs ds := by
  cases d with
  | tup _ => exact absurd rfl (h1 _)
  | wtp _ => exact absurd rfl (h2 _)
  | scr es =>
    cases h
    cases r with
    | scr q r =>
      rename_i a vs
      refine ⟨a, vs, rfl, ?_, r⟩
      rcases q with q | q
      · exact .inl q.1
      · exact .inr q
  | lst es =>
    obtain ⟨a, vs, h1, h2, h3⟩ := lst_at R r (show lstOf (.lst es) S = some ds from h)
    exact ⟨a, vs, h1, SqL.of h2, h3⟩
  | ref n =>
    obtain ⟨a, vs, h1, h2, h3⟩ := lst_at R r (show lstOf (.ref n) S = some ds from h)
    exact ⟨a, vs, h1, SqL.of h2, h3⟩
  | _ => cases h
theorem de_rev (b : Bool) (F : Fam Xs G E kk) {e : Expr} {k : Nat} {p1 p2 p3 pos : Pos} {a : ECode} (ha : DE Xs G E e a) : DE Xs G E (.Subscript e (.Slice none none (some (.UnaryOp .USub (.Constant (.int 1) k p1) p2)) p3) pos) (c_rev b a) := by
  obtain ⟨ta, pa, sa⟩ := ha
  refine ⟨tRevU G.K ta, fun j => by have z := pe_revU (X := Xs j) (k := k) (p1 := p1) (p2 := p2) (p3 := p3) (pos := pos) (pa j); rw [F.K j] at z; exact z, fun ι S H σ ρ Q R e q => ?_⟩
  refine sa.go R e q fun d S1 ι1 H1 v x1 R1 e1 r1 q1 => ?_
  have main : ∀ ds, itemsOf d S1 = some ds → (∀ e, d ≠ .tup e) → (∀ e, d ≠ .wtp e) → Post G (E σ) ι1 S1 H1 (PV G Q) (p_lst b ds.reverse S1) → (∃ a xs, v = .ref a ∧ SqL G.K H1 a xs ∧ ∀ p, H1 p = none → Q (.ref p) (upd H1 p (.lst xs.reverse))) ∨ (∃ a xs, v = .ref a ∧ SqT G.K H1 a xs ∧ ∀ p, H1 p = none → Q (.ref p) (upd H1 p (.tup xs.reverse))) := fun ds h h1 h2 q => by
    obtain ⟨a, vs, rfl, hs, rs⟩ := lists_at R1 r1 h h1 h2
    exact .inl ⟨a, vs, rfl, hs, (p_lst_ok R1 rs.rev q).2⟩
  have gen : (∀ e, d ≠ .tup e) → (∀ e, d ≠ .wtp e) → Post G (E σ) ι1 S1 H1 (PV G Q) (match itemsOf d S1 with
    | some ds => p_lst b ds.reverse S1
    | none => .stuck) → (∃ a xs, v = .ref a ∧ SqL G.K H1 a xs ∧ ∀ p, H1 p = none → Q (.ref p) (upd H1 p (.lst xs.reverse))) ∨ (∃ a xs, v = .ref a ∧ SqT G.K H1 a xs ∧ ∀ p, H1 p = none → Q (.ref p) (upd H1 p (.tup xs.reverse))) := fun h1 h2 q => by
    cases h : itemsOf d S1 with
    | none => rw [h] at q; exact q.elim
    | some ds =>
      rw [h] at q
      exact main ds h h1 h2 q
  cases d with
  | tup ds =>
    cases r1 with
    | tup h hl rs => exact .inr ⟨_, _, rfl, SqT.of h, (p_tup_ok R1 rs.rev q1).2⟩
  | wtp ds =>
    cases r1 with
    | wtp h rs => exact .inr ⟨_, _, rfl, .inr h, (p_tup_ok R1 rs.rev q1).2⟩
  | _ => exact gen (fun _ h => nomatch h) (fun _ h => nomatch h) q1
end
end DL

set_option Elab.async false
set_option linter.all false
set_option maxRecDepth 100000
set_option maxHeartbeats 4000000
/-! DL8: built-in functions, methods of lists, stores -/
namespace DL
open PySem PySem.Spec PyProof.Rows L2

section
variable {I : Type} {Xs : I → Cx} {G : Gx} {E : WK} {kk : Nat}
/-! ### calls of built-in functions -/
def c_cb (p : List D → Sto → Res D) (a : ACode) : ECode := fun ρ S => (a ρ S).bind p
theorem snd_cb {r : List V → Hp → VK → Prop} {p : List D → Sto → Res D} {t : TA} {a : ACode} (hr : SndC G r p) (sa : SndA G E t a) : Snd G E (tCB r t) (c_cb p a) := fun ι S H σ ρ Q R e q =>
  sa.go R e q fun ds S1 ι1 H1 vs x1 R1 e1 r1 q1 => hr (E σ) ι1 S1 H1 vs ds Q R1 r1 q1
theorem de_callB (F : FamH Xs G E) {id : String} {x : Str} {p pos : Pos} {e : Expr} {es : List Expr} {r : List V → Hp → VK → Prop} {m : List D → Sto → Res D} {a : ACode} (hc : ∀ j, CallR (Xs j) (.builtin id) r) (hr : SndC G r m) (ha : DA Xs G E (e :: es) a)
    (hg : ∀ j, Gl (Xs j) x) (hm : G.mg x = none) (hv : bootBuiltins x = some (.builtin id)) (hn : x ≠ "__name__") (hdb : (x == ("__debug__" : Str)) = false)
    (he : ∀ j, starEach (e :: es) (Xs j).env = (false, eval e (Xs j).env) :: starEach es (Xs j).env) (hpl : ∀ j, (backTo pos (starEach es (Xs j).env)).any (·.1) = false) : DE Xs G E (.Call (.Name x p) (e :: es) [] pos) (c_cb m a) := by
  obtain ⟨t, pa, sa⟩ := ha
  exact ⟨_, fun j => pe_callB (hc j) (hg j) (by rw [F.mg j]; exact hm) hv (pa j) hn hdb (he j) (hpl j), snd_cb hr sa⟩
theorem de_callTy (F : FamH Xs G E) {T : String} {x : Str} {p pos : Pos} {e : Expr} {es : List Expr} {r : List V → Hp → VK → Prop} {m : List D → Sto → Res D} {a : ACode} (hc : ∀ j, CallR (Xs j) (.type T) r) (hr : SndC G r m) (ha : DA Xs G E (e :: es) a)
    (hg : ∀ j, Gl (Xs j) x) (hm : G.mg x = none) (hv : bootBuiltins x = some (.type T)) (hn : x ≠ "__name__") (hdb : (x == ("__debug__" : Str)) = false)
    (he : ∀ j, starEach (e :: es) (Xs j).env = (false, eval e (Xs j).env) :: starEach es (Xs j).env) (hpl : ∀ j, (backTo pos (starEach es (Xs j).env)).any (·.1) = false) : DE Xs G E (.Call (.Name x p) (e :: es) [] pos) (c_cb m a) := by
  obtain ⟨t, pa, sa⟩ := ha
  exact ⟨_, fun j => pe_callTy (hc j) (hg j) (by rw [F.mg j]; exact hm) hv (pa j) hn hdb (he j) (hpl j), snd_cb hr sa⟩
/-! len -/
def lenOf (d : D) (S : Sto) : Option Nat := match itemsOf d S with
  | some ds => some ds.length
  | none => match dKOf d S with
    | some kds => some kds.length
    | none => match dTOf d S with
      | some kds => some kds.length
      | none => none
def p_len (ds : List D) (S : Sto) : Res D := match ds with
  | [.str z] => if z.length ≤ 1000000 then .ok (.int z.length) S else .stuck
  | [d] => match lenOf d S with
    | some n => .ok (.int n) S
    | none => .stuck
  | _ => .stuck
def rLenU (K : PySem.W.Frag) : List V → Hp → VK → Prop := fun xs H Q => (∃ p ys, xs = [.ref p] ∧ (SqL K H p ys ∨ SqT K H p ys) ∧ Q (.int ys.length) H) ∨ (∃ z, xs = [.str z] ∧ z.length ≤ sizeLine ∧ Q (.int z.length) H) ∨ (∃ a kvs, xs = [V.ref a] ∧ H a = some (.dK kvs) ∧ Q (.int kvs.length) H) ∨ rLenT xs H Q
theorem call_lenU {X : Cx} : CallR X (.builtin "len") (rLenU X.K) := call_len_seq.or (call_len_str.or (call_lenD.or call_len_dT))
theorem Reps.one {ι : Ix} {L : Addr → Prop} {H : Hp} {vs : List V} {d : D} (r : Reps G ι L H vs [d]) : ∃ v, vs = [v] ∧ Rep G ι L H v d := by
  cases r with
  | cons q r =>
    cases r
    exact ⟨_, rfl, q⟩
theorem Reps.two {ι : Ix} {L : Addr → Prop} {H : Hp} {vs : List V} {d e : D} (r : Reps G ι L H vs [d, e]) : ∃ v w, vs = [v, w] ∧ Rep G ι L H v d ∧ Rep G ι L H w e := by
  cases r with
  | cons q r =>
    obtain ⟨w, rfl, s⟩ := r.one
    exact ⟨_, _, rfl, q, s⟩
theorem Reps.zero {ι : Ix} {L : Addr → Prop} {H : Hp} {vs : List V} (r : Reps G ι L H vs []) : vs = [] := by
  cases r
  rfl
theorem snd_len : SndC G (rLenU G.K) p_len := fun E ι S H xs ds Q R r q => by
  have main : ∀ d, ds = [d] → Post G E ι S H (PV G Q) (match lenOf d S with
    | some n => .ok (.int n) S
    | none => .stuck) → rLenU G.K xs H Q := fun d e q0 => by
    clear q
    have q := q0
    clear q0
    subst e
    obtain ⟨v, rfl, rv⟩ := r.one
    unfold lenOf at q
    cases h1 : itemsOf d S with
    | some es =>
      rw [h1] at q
      have q : Post G E ι S H (PV G Q) (.ok (.int es.length) S) := q
      obtain ⟨a, vs, rfl, ha, ra⟩ := items_at R rv h1
      refine .inl ⟨a, vs, rfl, ha, ?_⟩
      rw [ra.length]
      exact Post.here R q _ (.int _)
    | none =>
      rw [h1] at q
      cases h2 : dKOf d S with
      | some kds =>
        rw [h2] at q
        have q : Post G E ι S H (PV G Q) (.ok (.int kds.length) S) := q
        obtain ⟨a, kvs, rfl, ha, he, _⟩ := dK_at R rv h2
        refine .inr (.inr (.inl ⟨a, kvs, rfl, ha, ?_⟩))
        rw [len_fst he]
        exact Post.here R q _ (.int _)
      | none =>
        rw [h2] at q
        cases h3 : dTOf d S with
        | some kds =>
          rw [h3] at q
          have q : Post G E ι S H (PV G Q) (.ok (.int kds.length) S) := q
          obtain ⟨a, kvs, rfl, ha, he, _⟩ := dT_at R rv h3
          refine .inr (.inr (.inr ⟨a, kvs, rfl, ha, ?_⟩))
          rw [len_fst he]
          exact Post.here R q _ (.int _)
        | none =>
          rw [h3] at q
          exact q.elim
  cases ds with
  | nil => exact q.elim
  | cons d es =>
    cases es with
    | nil =>
      cases d with
      | str z =>
        have q : Post G E ι S H (PV G Q) (if z.length ≤ 1000000 then .ok (.int z.length) S else .stuck) := q
        split at q
        · rename_i hz
          obtain ⟨v, rfl, rv⟩ := r.one
          refine .inr (.inl ⟨z, by rw [rv.str_of], Nat.le_trans hz (by rw [sizeLine_eq]; decide), Post.here R q _ (.int _)⟩)
        · exact q.elim
      | _ => exact main _ rfl q
    | cons e es => cases d <;> exact q.elim
/-! list, tuple -/
def p_list (b : Bool) (ds : List D) (S : Sto) : Res D := match ds with
  | [d] => match itemsOf d S with
    | some es => p_lst b es S
    | none => .stuck
  | _ => .stuck
def rListU (K : PySem.W.Frag) : List V → Hp → VK → Prop := fun xs H Q => ∃ p ys, xs = [.ref p] ∧ (SqL K H p ys ∨ SqT K H p ys) ∧ ∀ l, H l = none → Q (.ref l) (upd H l (.lst ys))
theorem snd_list (b : Bool) : SndC G (rListU G.K) (p_list b) := fun E ι S H xs ds Q R r q => by
  cases ds with
  | nil => exact q.elim
  | cons d es =>
    cases es with
    | nil =>
      obtain ⟨v, rfl, rv⟩ := r.one
      have q : Post G E ι S H (PV G Q) (match itemsOf d S with
        | some es => p_lst b es S
        | none => .stuck) := q
      cases h1 : itemsOf d S with
      | none => rw [h1] at q; exact q.elim
      | some es =>
        rw [h1] at q
        obtain ⟨a, vs, rfl, ha, ra⟩ := items_at R rv h1
        exact ⟨a, vs, rfl, ha, (p_lst_ok R ra q).2⟩
    | cons e es => exact q.elim
def p_tuple (ds : List D) (S : Sto) : Res D := match ds with
  | [.tup es] => .ok (.tup es) S
  | [.wtp es] => .ok (.wtp es) S
  | [d] => match itemsOf d S with
    | some es => p_tup es S
    | none => .stuck
  | _ => .stuck
def rTupleU (K : PySem.W.Frag) : List V → Hp → VK → Prop := fun xs H Q => ∃ p ys, xs = [.ref p] ∧ ((SqL K H p ys ∧ ∀ l, H l = none → Q (.ref l) (upd H l (.tup ys))) ∨ (SqT K H p ys ∧ Q (.ref p) H))
theorem snd_tuple : SndC G (rTupleU G.K) p_tuple := fun E ι S H xs ds Q R r q => by
  have main : ∀ d, ds = [d] → (∀ e, d ≠ .tup e) → (∀ e, d ≠ .wtp e) → Post G E ι S H (PV G Q) (match itemsOf d S with
    | some es => p_tup es S
    | none => .stuck) → rTupleU G.K xs H Q := fun d e n1 n2 q0 => by
    clear q
    have q := q0
    clear q0
    subst e
    obtain ⟨v, rfl, rv⟩ := r.one
    cases h1 : itemsOf d S with
    | none => rw [h1] at q; exact q.elim
    | some es =>
      rw [h1] at q
      obtain ⟨a, vs, rfl, ha, ra⟩ := lists_at R rv h1 n1 n2
      exact ⟨a, vs, rfl, .inl ⟨ha, (p_tup_ok R ra q).2⟩⟩
  cases ds with
  | nil => exact q.elim
  | cons d es =>
    cases es with
    | nil =>
      cases d with
      | tup es =>
        obtain ⟨v, rfl, rv⟩ := r.one
        have q : Post G E ι S H (PV G Q) (.ok (.tup es) S) := q
        obtain ⟨a, vs, rfl, hs, _⟩ := rv.sqT
        exact ⟨a, vs, rfl, .inr ⟨hs, Post.here R q _ rv⟩⟩
      | wtp es =>
        obtain ⟨v, rfl, rv⟩ := r.one
        have q : Post G E ι S H (PV G Q) (.ok (.wtp es) S) := q
        cases rv with
        | wtp hw rs => exact ⟨_, _, rfl, .inr ⟨.inr hw, Post.here R q _ (.wtp hw rs)⟩⟩
      | _ => exact main _ rfl (fun _ h => nomatch h) (fun _ h => nomatch h) q
    | cons e es => cases d <;> exact q.elim
/-! ints -/
def p_i1 (f : Int → D) (ds : List D) (S : Sto) : Res D := match ds with
  | [.int i] => .ok (f i) S
  | _ => .stuck
def p_i2 (f : Int → Int → D) (ds : List D) (S : Sto) : Res D := match ds with
  | [.int i, .int j] => .ok (f i j) S
  | _ => .stuck
def p_min2 := p_i2 fun i j => .int (if j < i then j else i)
def p_max2 := p_i2 fun i j => .int (if j > i then j else i)
def p_abs := p_i1 fun i => .int (if i < 0 then -i else i)
theorem snd_i2 {f : Int → Int → V} {g : Int → Int → D} (h : ∀ i j ι L H, Rep G ι L H (f i j) (g i j)) : SndC G (fun xs H Q => ∃ i j, xs = [.int i, .int j] ∧ Q (f i j) H) (p_i2 g) := fun E ι S H xs ds Q R r q => by
  unfold p_i2 at q
  split at q
  · obtain ⟨v, w, rfl, rv, rw'⟩ := r.two
    exact ⟨_, _, by rw [rv.int_of, rw'.int_of], Post.here R q _ (h _ _ _ _ _)⟩
  · exact q.elim
theorem snd_i1 {f : Int → V} {g : Int → D} (h : ∀ i ι L H, Rep G ι L H (f i) (g i)) : SndC G (fun xs H Q => ∃ i, xs = [.int i] ∧ Q (f i) H) (p_i1 g) := fun E ι S H xs ds Q R r q => by
  unfold p_i1 at q
  split at q
  · obtain ⟨v, rfl, rv⟩ := r.one
    exact ⟨_, by rw [rv.int_of], Post.here R q _ (h _ _ _ _)⟩
  · exact q.elim
theorem snd_min2 : SndC G (fun xs H Q => ∃ i j, xs = [.int i, .int j] ∧ Q (.int (if j < i then j else i)) H) p_min2 := snd_i2 fun _ _ _ _ _ => .int _
theorem snd_max2 : SndC G (fun xs H Q => ∃ i j, xs = [.int i, .int j] ∧ Q (.int (if j > i then j else i)) H) p_max2 := snd_i2 fun _ _ _ _ _ => .int _
theorem snd_abs : SndC G (fun xs H Q => ∃ i, xs = [.int i] ∧ Q (.int (if i < 0 then -i else i)) H) p_abs := snd_i1 fun _ _ _ _ => .int _
/-! sum, any, all of a list -/
def intOf : D → Option Int
  | .int i => some i
  | _ => none
def blOf : D → Option Bool
  | .bl b => some b
  | _ => none
theorem Reps.ints {ι : Ix} {L : Addr → Prop} {H : Hp} : ∀ {vs : List V} {ds : List D} {ns : List Int}, Reps G ι L H vs ds → ds.mapM intOf = some ns → vs = ns.map V.int
  | _, _, ns, .nil, h => by
    simp at h
    subst h
    rfl
  | _, d :: ds, ns, .cons q r, h => by
    rw [List.mapM_cons] at h
    cases d with
    | int i =>
      cases e2 : ds.mapM intOf with
      | none => rw [e2] at h; cases h
      | some ks' =>
        rw [e2] at h
        cases h
        rw [List.map_cons, q.int_of, Reps.ints r e2]
    | _ => cases h
theorem Reps.bls {ι : Ix} {L : Addr → Prop} {H : Hp} : ∀ {vs : List V} {ds : List D} {ns : List Bool}, Reps G ι L H vs ds → ds.mapM blOf = some ns → vs = ns.map V.bl
  | _, _, ns, .nil, h => by
    simp at h
    subst h
    rfl
  | _, d :: ds, ns, .cons q r, h => by
    rw [List.mapM_cons] at h
    cases d with
    | bl i =>
      cases e2 : ds.mapM blOf with
      | none => rw [e2] at h; cases h
      | some ks' =>
        rw [e2] at h
        cases h
        rw [List.map_cons, q.bl_of, Reps.bls r e2]
    | _ => cases h
/-- the items of a list -/
def listOf : D → Sto → Option (List D)
  | .tup _, _ => none
  | .wtp _, _ => none
  | d, S => itemsOf d S
theorem list_at {ι : Ix} {S : Sto} {H : Hp} {v : V} {d : D} {ds : List D} (R : Rel G ι S H) (r : Rep G ι (Lv ι S) H v d) (h : listOf d S = some ds) : ∃ a vs, v = .ref a ∧ SqL G.K H a vs ∧ Reps G ι (Lv ι S) H vs ds := by
  cases d with
  | tup _ => cases h
  | wtp _ => cases h
  | _ => exact lists_at R r h (fun _ h => nomatch h) (fun _ h => nomatch h)
def p_ints (f : List Int → D) (ds : List D) (S : Sto) : Res D := match ds with
  | [d] => match (listOf d S).bind (·.mapM intOf) with
    | some ns => .ok (f ns) S
    | none => .stuck
  | _ => .stuck
def p_bls (f : List Bool → D) (ds : List D) (S : Sto) : Res D := match ds with
  | [d] => match (listOf d S).bind (·.mapM blOf) with
    | some ns => .ok (f ns) S
    | none => .stuck
  | _ => .stuck
theorem snd_ints {f : List Int → V} {g : List Int → D} (h : ∀ i ι L H, Rep G ι L H (f i) (g i)) : SndC G (fun vs H Q => ∃ (a : Addr) (ns : List Int), vs = [V.ref a] ∧ SqL G.K H a (ns.map V.int) ∧ Q (f ns) H) (p_ints g) := fun E ι S H xs ds Q R r q => by
  unfold p_ints at q
  split at q
  · rename_i d
    obtain ⟨v, rfl, rv⟩ := r.one
    cases h1 : listOf d S with
    | none => rw [h1] at q; exact q.elim
    | some es =>
      rw [h1] at q
      cases h2 : es.mapM intOf with
      | none => simp only [Option.bind_some, h2] at q; exact q.elim
      | some ns =>
        simp only [Option.bind_some, h2] at q
        obtain ⟨a, vs, rfl, ha, ra⟩ := list_at R rv h1
        rw [ra.ints h2] at ha
        exact ⟨a, ns, rfl, ha, Post.here R q _ (h _ _ _ _)⟩
  · exact q.elim
theorem snd_bls {f : List Bool → V} {g : List Bool → D} (h : ∀ i ι L H, Rep G ι L H (f i) (g i)) : SndC G (fun vs H Q => ∃ (a : Addr) (ns : List Bool), vs = [V.ref a] ∧ SqL G.K H a (ns.map V.bl) ∧ Q (f ns) H) (p_bls g) := fun E ι S H xs ds Q R r q => by
  unfold p_bls at q
  split at q
  · rename_i d
    obtain ⟨v, rfl, rv⟩ := r.one
    cases h1 : listOf d S with
    | none => rw [h1] at q; exact q.elim
    | some es =>
      rw [h1] at q
      cases h2 : es.mapM blOf with
      | none => simp only [Option.bind_some, h2] at q; exact q.elim
      | some ns =>
        simp only [Option.bind_some, h2] at q
        obtain ⟨a, vs, rfl, ha, ra⟩ := list_at R rv h1
        rw [ra.bls h2] at ha
        exact ⟨a, ns, rfl, ha, Post.here R q _ (h _ _ _ _)⟩
  · exact q.elim
def p_sum := p_ints fun ns => .int ns.sum
def p_any := p_bls fun ns => .bl (ns.any id)
def p_all := p_bls fun ns => .bl (ns.all id)
theorem snd_sum : SndC G (rSum G.K) p_sum := snd_ints fun _ _ _ _ => .int _
theorem snd_any : SndC G (rAny G.K) p_any := snd_bls fun _ _ _ _ => .bl _
theorem snd_all : SndC G (rAll G.K) p_all := snd_bls fun _ _ _ _ => .bl _

/-! ### methods of lists -/
def c_meth (g : D → Sto → Bool) (p : D → List D → Sto → Res D) (o : ECode) (a : ACode) : ECode := fun ρ S => (o ρ S).bind fun x S1 => if g x S1 = true then (a ρ S1).bind fun ds S2 => p x ds S2 else .stuck
theorem snd_meth {T : String} {r : V → List V → Hp → VK → Prop} {g : D → Sto → Bool} {p : D → List D → Sto → Res D} {to : TE} {t : TA} {o : ECode} {a : ACode} (hr : SndM G r p) (hg : ∀ ι S H x d, Rel G ι S H → Rep G ι (Lv ι S) H x d → g d S = true → tyV G.K T x H)
    (so : Snd G E to o) (sa : SndA G E t a) : Snd G E (tBM G.K T r to t) (c_meth g p o a) := fun ι S H σ ρ Q R e q => by
  refine so.go R e q fun d S1 ι1 H1 v x1 R1 e1 r1 q1 => ?_
  by_cases hd : g d S1 = true
  · rw [if_pos hd] at q1
    refine ⟨hg ι1 S1 H1 v d R1 r1 hd, ?_⟩
    refine sa.go R1 e1 q1 fun ds S2 ι2 H2 vs x2 R2 e2 r2 q2 => ?_
    exact hr (E σ) ι2 S2 H2 v vs d ds Q R2 (r1.mono x2) r2 q2
  · rw [if_neg hd] at q1
    exact q1.elim
theorem de_meth (F : FamH Xs G E) {T id : String} {name : Str} {apos cpos : Pos} {o e : Expr} {es : List Expr} {r : V → List V → Hp → VK → Prop} {g : D → Sto → Bool} {p : D → List D → Sto → Res D} {co : ECode} {a : ACode} (pa : PlainAttrs T) (slot : Slot T name id) (hty : typeOf (.builtin id) = pure (.type "method_descriptor"))
    (hm : ∀ j, MtR (Xs j) id r) (hr : SndM G r p) (hg : ∀ ι S H x d, Rel G ι S H → Rep G ι (Lv ι S) H x d → g d S = true → tyV G.K T x H) (ho : DE Xs G E o co) (ha : DA Xs G E (e :: es) a)
    (hbase : ∀ j, attributeBase o name (Xs j).env (eval o (Xs j).env) = eval o (Xs j).env)
    (hfew : ∀ j, ((backTo cpos (starEach (e :: es) (Xs j).env)).all (fun x => !x.1) && (backToKw cpos (keywordEach [] (Xs j).env)).all (fun x => x.1.isSome)
      && decide ((e :: es).length + ([] : List Keyword).length + (if ([] : List Keyword).isEmpty then 0 else 1) < 30)) = true)
    (hline : (apos.endLine == cpos.line) = true) (hs : ∀ j, starEach (e :: es) (Xs j).env = (false, eval e (Xs j).env) :: starEach es (Xs j).env) (hplain : ∀ j, (backTo cpos (starEach es (Xs j).env)).any (·.1) = false) :
    DE Xs G E (.Call (.Attribute o name apos) (e :: es) [] cpos) (c_meth g p co a) := by
  obtain ⟨to, po, so⟩ := ho
  obtain ⟨t, pa', sa⟩ := ha
  exact ⟨tBM G.K T r to t, fun j => by have z := pe_bm (X := Xs j) pa slot hty (hm j) (po j) (pa' j) (hbase j) (hfew j) hline (hs j) (hplain j); rw [F.K j] at z; exact z, snd_meth hr hg so sa⟩
theorem de_meth0 (F : FamH Xs G E) {T id : String} {name : Str} {apos cpos : Pos} {o : Expr} {r : V → List V → Hp → VK → Prop} {g : D → Sto → Bool} {p : D → List D → Sto → Res D} {co : ECode} (pa : PlainAttrs T) (slot : Slot T name id) (hty : typeOf (.builtin id) = pure (.type "method_descriptor"))
    (hm : ∀ j, MtR (Xs j) id r) (hr : SndM G r p) (hg : ∀ ι S H x d, Rel G ι S H → Rep G ι (Lv ι S) H x d → g d S = true → tyV G.K T x H) (ho : DE Xs G E o co)
    (hbase : ∀ j, attributeBase o name (Xs j).env (eval o (Xs j).env) = eval o (Xs j).env) (hline : (apos.endLine == cpos.line) = true) :
    DE Xs G E (.Call (.Attribute o name apos) [] [] cpos) (c_meth g p co c_nil) := by
  obtain ⟨to, po, so⟩ := ho
  refine ⟨tBM0 G.K T r to, fun j => by have z := pe_bm0 (X := Xs j) pa slot hty (hm j) (po j) (hbase j) hline; rw [F.K j] at z; exact z, fun ι S H σ ρ Q R e q => ?_⟩
  refine so.go R e q fun d S1 ι1 H1 v x1 R1 e1 r1 q1 => ?_
  by_cases hd : g d S1 = true
  · rw [if_pos hd] at q1
    exact ⟨hg ι1 S1 H1 v d R1 r1 hd, hr (E σ) ι1 S1 H1 v [] d [] Q R1 r1 .nil q1⟩
  · rw [if_neg hd] at q1
    exact q1.elim
/-- a list cell that is written -/
def isL (d : D) (S : Sto) : Bool := (lstOf d S).isSome
theorem isL_ty {ι : Ix} {S : Sto} {H : Hp} {x : V} {d : D} (R : Rel G ι S H) (r : Rep G ι (Lv ι S) H x d) (h : isL d S = true) : tyV G.K "list" x H := by
  unfold isL at h
  cases e : lstOf d S with
  | none => rw [e] at h; cases h
  | some ds =>
    obtain ⟨a, vs, rfl, ha, _⟩ := lst_at R r e
    exact .inl ⟨rfl, vs, SqL.of ha⟩
end
end DL

set_option Elab.async false
set_option linter.all false
set_option maxRecDepth 100000
set_option maxHeartbeats 4000000
/-! DL9: cells that are written -/
namespace DL
open PySem PySem.Spec PyProof.Rows L2

section
variable {I : Type} {Xs : I → Cx} {G : Gx} {E : WK} {kk : Nat}
def cellOf (S : Sto) (n : Nat) : Option Cell := match S[n]? with
  | some (some c) => some c
  | _ => none
theorem cellOf_eq {S : Sto} {n : Nat} {c : Cell} (h : cellOf S n = some c) : S[n]? = some (some c) := by
  unfold cellOf at h
  split at h
  · rename_i e
    rw [e]
    cases h
    rfl
  · cases h
theorem wr_cell {ι : Ix} {S : Sto} {H : Hp} {a : Addr} {n : Nat} {c0 c : Cell} {o : HO} (R : Rel G ι S H) (hn : ι.l[n]? = some a) (hs : cellOf S n = some c0)
    (hc : Ext ι S H ι (S.set n (some c)) (upd H a o) → CellIs G ι (Lv ι (S.set n (some c))) (upd H a o) a c) : Ext ι S H ι (S.set n (some c)) (upd H a o) ∧ Rel G ι (S.set n (some c)) (upd H a o) := by
  have x : Ext ι S H ι (S.set n (some c)) (upd H a o) := Ext.write hn (cellOf_eq hs)
  exact ⟨x, R.write hn (cellOf_eq hs) (hc x)⟩
theorem wr_lst {ι : Ix} {S : Sto} {H : Hp} {a : Addr} {n : Nat} {c0 : Cell} {vs : List V} {ds : List D} (R : Rel G ι S H) (hn : ι.l[n]? = some a) (hs : cellOf S n = some c0) (r : Reps G ι (Lv ι S) H vs ds) :
    Ext ι S H ι (S.set n (some (.lst ds))) (upd H a (.lst vs)) ∧ Rel G ι (S.set n (some (.lst ds))) (upd H a (.lst vs)) := wr_cell R hn hs fun x => ⟨vs, upd_same, r.mono x⟩
theorem ref_cell {ι : Ix} {S : Sto} {H : Hp} {v : V} {n : Nat} {c : Cell} (R : Rel G ι S H) (r : Rep G ι (Lv ι S) H v (.ref n)) (hs : cellOf S n = some c) : ∃ a, v = .ref a ∧ ι.l[n]? = some a ∧ CellIs G ι (Lv ι S) H a c := by
  cases r with
  | ref q =>
    obtain ⟨a, h1, h2⟩ := R.cell n c (cellOf_eq hs)
    rw [q] at h1
    cases h1
    exact ⟨_, rfl, q, h2⟩
/-! ### methods of lists -/
def p_append (x : D) (ds : List D) (S : Sto) : Res D := match x, ds with
  | .ref n, [d] => match cellOf S n with
    | some (.lst es) => if fits (es.length + 1) = true then .ok .non (S.set n (some (.lst (es ++ [d])))) else .stuck
    | _ => .stuck
  | _, _ => .stuck
theorem snd_append : SndM G rAppend p_append := fun E ι S H x xs dx ds Q R rx rs q => by
  unfold p_append at q
  split at q
  · rename_i n d
    split at q
    · rename_i es hs
      split at q
      · rename_i hf
        obtain ⟨a, rfl, hn, vs, ha, ra⟩ := ref_cell R rx hs
        obtain ⟨w, rfl, rw'⟩ := rs.one
        obtain ⟨x1, R1⟩ := wr_lst R hn hs (ra.app (.cons rw' .nil))
        refine ⟨a, vs, w, rfl, rfl, ha, ?_, q _ _ x1 R1 _ .non⟩
        rw [ra.length]
        have := fits_le hf
        omega
      · exact q.elim
    · exact q.elim
  · exact q.elim
def p_pop (x : D) (ds : List D) (S : Sto) : Res D := match x, ds with
  | .ref n, [] => match cellOf S n with
    | some (.lst es) => match es[es.length - 1]? with
      | some y => .ok y (S.set n (some (.lst es.dropLast)))
      | none => .stuck
    | _ => .stuck
  | _, _ => .stuck
theorem Reps.dropLast {ι : Ix} {L : Addr → Prop} {H : Hp} {vs : List V} {ds : List D} (r : Reps G ι L H vs ds) : Reps G ι L H vs.dropLast ds.dropLast := by
  rw [List.dropLast_eq_take, List.dropLast_eq_take, r.length]
  exact r.take _
theorem snd_pop : SndM G rPop p_pop := fun E ι S H x xs dx ds Q R rx rs q => by
  unfold p_pop at q
  split at q
  · rename_i n
    split at q
    · rename_i es hs
      split at q
      · rename_i y hy
        obtain ⟨a, rfl, hn, vs, ha, ra⟩ := ref_cell R rx hs
        cases rs
        obtain ⟨w, hw, rw'⟩ := ra.get hy
        obtain ⟨x1, R1⟩ := wr_lst R hn hs ra.dropLast
        exact ⟨a, vs, w, rfl, rfl, ha, by rw [ra.length]; exact hw, q _ _ x1 R1 _ (rw'.mono x1)⟩
      · exact q.elim
    · exact q.elim
  · exact q.elim
theorem Reps.eraseIdx {ι : Ix} {L : Addr → Prop} {H : Hp} : ∀ {vs : List V} {ds : List D} (n : Nat), Reps G ι L H vs ds → Reps G ι L H (vs.eraseIdx n) (ds.eraseIdx n)
  | _, _, _, .nil => .nil
  | _, _, 0, .cons _ r => r
  | _, _, n + 1, .cons q r => .cons q (Reps.eraseIdx n r)
def p_popAt (x : D) (ds : List D) (S : Sto) : Res D := match x, ds with
  | .ref n, [.int i] => match cellOf S n with
    | some (.lst es) => if 0 ≤ i ∧ i < 1000000 then match es[i.toNat]? with
      | some y => .ok y (S.set n (some (.lst (es.eraseIdx i.toNat))))
      | none => .stuck else .stuck
    | _ => .stuck
  | _, _ => .stuck
theorem snd_popAt : SndM G rPopAt p_popAt := fun E ι S H x xs dx ds Q R rx rs q => by
  unfold p_popAt at q
  split at q
  · rename_i n i
    split at q
    · rename_i es hs
      split at q
      · rename_i hi
        split at q
        · rename_i y hy
          obtain ⟨a, rfl, hn, vs, ha, ra⟩ := ref_cell R rx hs
          obtain ⟨u, rfl, ru⟩ := rs.one
          obtain ⟨w, hw, rw'⟩ := ra.get hy
          obtain ⟨x1, R1⟩ := wr_lst R hn hs (ra.eraseIdx i.toNat)
          refine ⟨a, vs, i, i.toNat, w, rfl, by rw [ru.int_of], ha, by omega, by omega, ?_, hw, q _ _ x1 R1 _ (rw'.mono x1)⟩
          exact seqIndex_of hi.1 (by
            have := (List.getElem?_eq_some_iff.mp hw).1
            omega)
        · exact q.elim
      · exact q.elim
    · exact q.elim
  · exact q.elim
/-- pop, with or without a place -/
def p_insert (x : D) (ds : List D) (S : Sto) : Res D := match x, ds with
  | .ref n, [.int i, d] => match cellOf S n with
    | some (.lst es) => if fits (es.length + 1) = true ∧ 0 ≤ i ∧ i < 1000000 then .ok .non (S.set n (some (.lst (es.take i.toNat ++ [d] ++ es.drop i.toNat)))) else .stuck
    | _ => .stuck
  | _, _ => .stuck
def rInsert : V → List V → Hp → VK → Prop := fun x vs H Q => ∃ (l : Addr) (xs : List V) (i : Int) (y : V), x = .ref l ∧ vs = [.int i, y] ∧ H l = some (.lst xs) ∧ xs.length < sizeLine ∧ 0 ≤ i ∧ i < 2 ^ 63 ∧
    Q .non (upd H l (.lst (xs.take i.toNat ++ [y] ++ xs.drop i.toNat)))
theorem snd_insert : SndM G rInsert p_insert := fun E ι S H x xs dx ds Q R rx rs q => by
  unfold p_insert at q
  split at q
  · rename_i n i d
    split at q
    · rename_i es hs
      split at q
      · rename_i hf
        obtain ⟨a, rfl, hn, vs, ha, ra⟩ := ref_cell R rx hs
        obtain ⟨u, w, rfl, ru, rw'⟩ := rs.two
        obtain ⟨x1, R1⟩ := wr_lst R hn hs (((ra.take i.toNat).app (.cons rw' .nil)).app (ra.drop i.toNat))
        refine ⟨a, vs, i, w, rfl, by rw [ru.int_of], ha, ?_, hf.2.1, by omega, q _ _ x1 R1 _ .non⟩
        rw [ra.length]
        have := fits_le hf.1
        omega
      · exact q.elim
    · exact q.elim
  · exact q.elim
def p_extend (x : D) (ds : List D) (S : Sto) : Res D := match x, ds with
  | .ref n, [d] => match cellOf S n, lstOf d S with
    | some (.lst es), some fs => if fits (es.length + fs.length) = true then .ok .non (S.set n (some (.lst (es ++ fs)))) else .stuck
    | _, _ => .stuck
  | _, _ => .stuck
theorem snd_extend : SndM G rExtend p_extend := fun E ι S H x xs dx ds Q R rx rs q => by
  unfold p_extend at q
  split at q
  · rename_i n d
    split at q
    · rename_i es fs hs hl
      split at q
      · rename_i hf
        obtain ⟨a, rfl, hn, vs, ha, ra⟩ := ref_cell R rx hs
        obtain ⟨w, rfl, rw'⟩ := rs.one
        obtain ⟨b, ws, rfl, hb, rb⟩ := lst_at R rw' hl
        obtain ⟨x1, R1⟩ := wr_lst R hn hs (ra.app rb)
        refine ⟨a, b, vs, ws, rfl, rfl, ha, hb, ?_, q _ _ x1 R1 _ .non⟩
        rw [ra.length, rb.length]
        exact fits_le hf
      · exact q.elim
    · exact q.elim
  · exact q.elim
/-! ### o[i] = v -/
def p_setI (x y v : D) (S : Sto) : Res Unit := match x with
  | .ref n => match cellOf S n with
    | some (.lst es) => match y with
      | .int i => match ixN es.length i with
        | some j => .ok () (S.set n (some (.lst (es.set j v))))
        | none => .stuck
      | _ => .stuck
    | some (.dK kds) => match keyOf y with
      | some k => if fits kds.length = true then .ok () (S.set n (some (.dK (putD kds k v)))) else .stuck
      | none => .stuck
    | some (.dT kds) => match keysOf y with
      | some k => if fits kds.length = true then .ok () (S.set n (some (.dT (putD kds k v)))) else .stuck
      | none => .stuck
    | _ => .stuck
  | _ => .stuck
def rSetU : TSet := fun o i v H Q => rSetL o i v H Q ∨ rSetD o i v H Q
theorem set_any {X : Cx} (hu : X.A.units + 1 < cLine) : PSet X rSetU := by
  intro pins s σ H o i v ov iv u Q I ro ri rv h
  rcases h with h | h
  · exact set_list pins s σ H o i v ov iv u Q I ro ri rv h
  · exact set_dict hu pins s σ H o i v ov iv u Q I ro ri rv h
theorem keysOf_tup {d : D} {ks : List Key} (h : keysOf d = some ks) : ∃ ds, d = .tup ds ∧ ds.mapM keyOf = some ks := by
  cases d with
  | tup ds => exact ⟨ds, rfl, h⟩
  | _ => cases h
theorem keysOf_at {ι : Ix} {L : Addr → Prop} {H : Hp} {v : V} {d : D} {ks : List Key} (r : Rep G ι L H v d) (h : keysOf d = some ks) : ∃ b, v = .ref b ∧ H b = some (.tup (ks.map kV)) := by
  obtain ⟨ds, rfl, h⟩ := keysOf_tup h
  cases r with
  | tup q hl rs =>
    rw [keysOf_rep rs h] at q
    exact ⟨_, rfl, q⟩
theorem snd_setI {E : XK} {ι : Ix} {S : Sto} {H : Hp} {x y v : V} {dx dy dv : D} {Q : Hp → Prop} (R : Rel G ι S H) (rx : Rep G ι (Lv ι S) H x dx) (ry : Rep G ι (Lv ι S) H y dy) (rv : Rep G ι (Lv ι S) H v dv)
    (q : Post G E ι S H (fun _ ι' S' H' => Q H') (p_setI dx dy dv S)) : rSetU x y v H Q := by
  unfold p_setI at q
  split at q
  · rename_i n
    split at q
    · rename_i es hs
      obtain ⟨a, rfl, hn, vs, ha, ra⟩ := ref_cell R rx hs
      split at q
      · rename_i i
        split at q
        · rename_i j hj
          obtain ⟨x1, R1⟩ := wr_lst R hn hs (Reps.set rv j ra)
          exact .inl ⟨a, vs, i, j, rfl, ry.int_of, ha, by rw [ra.length]; exact hj, q _ _ x1 R1⟩
        · exact q.elim
      · exact q.elim
    · rename_i kds hs
      obtain ⟨a, rfl, hn, kvs, ha, he, ra⟩ := ref_cell R rx hs
      split at q
      · rename_i k hk
        split at q
        · rename_i hf
          obtain ⟨e1, e2⟩ := putD_rep k he ra rv
          obtain ⟨x1, R1⟩ := wr_cell (c := .dK (putD kds k dv)) (o := .dK (putK kvs k v)) R hn hs fun x => ⟨_, upd_same, e1, e2.mono x⟩
          refine .inr ⟨a, _, rfl, ?_, q _ _ x1 R1⟩
          rw [keyOf_rep ry hk]
          exact DPut.k ha (by rw [len_fst he]; exact fits_lt hf)
        · exact q.elim
      · exact q.elim
    · rename_i kds hs
      obtain ⟨a, rfl, hn, kvs, ha, he, ra⟩ := ref_cell R rx hs
      split at q
      · rename_i k hk
        split at q
        · rename_i hf
          obtain ⟨e1, e2⟩ := putD_rep k he ra rv
          obtain ⟨b, rfl, hb⟩ := keysOf_at ry hk
          obtain ⟨x1, R1⟩ := wr_cell (c := .dT (putD kds k dv)) (o := .dT (putK kvs k v)) R hn hs fun x => ⟨_, upd_same, e1, e2.mono x⟩
          exact .inr ⟨a, _, rfl, DPut.t ha hb (by rw [len_fst he]; exact fits_lt hf), q _ _ x1 R1⟩
        · exact q.elim
      · exact q.elim
    · exact q.elim
  · exact q.elim
def g_sub (o i : ECode) : D → Env → Sto → Res Env := fun v ρ S => (o ρ S).bind fun x S1 => (i ρ S1).bind fun y S2 => (p_setI x y v S2).bind fun _ S3 => .ok ρ S3
def c_setI (o i v : ECode) : SCode := fun ρ S => (v ρ S).bind fun z S0 => (o ρ S0).bind fun x S1 => (i ρ S1).bind fun y S2 => (p_setI x y z S2).bind fun _ S3 => .ok (.nx ρ) S3
theorem ds_setI (F : FamH Xs G E) {o i e : Expr} {pos pos' : Pos} {co ci cv : ECode} (hv : DE Xs G E e cv) (ho : DE Xs G E o co) (hi : DE Xs G E i ci) (hs : ∀ j, swapsWithSole [.Subscript o i pos'] e pos.line (Xs j).env = pure false)
    (hw : ∀ j, swappedStores [.Subscript o i pos'] e (Xs j).env = pure none) (h1 : ∀ j, List.map (fun x => x.snd) (assignEach [.Subscript o i pos'] (Xs j).env) = [assign (.Subscript o i pos') (Xs j).env])
    (ha : ∀ j v, assign (.Subscript o i pos') (Xs j).env v = (do
      let ov ← holding [v] (eval o (Xs j).env)
      let iv ← holding [v, ov] (eval i (Xs j).env)
      standAt pos'
      holding [v, ov, iv] (setItem ov iv v)
      release [v, ov, iv] [])) : DS Xs G E (.Assign [.Subscript o i pos'] e pos) (c_setI co ci cv) := by
  obtain ⟨tv, pv, sv⟩ := hv
  obtain ⟨to, po, so⟩ := ho
  obtain ⟨ti, pi, si⟩ := hi
  refine ⟨_, fun j => ps_asg (pv j) (pg_sub (po j) (pi j) (set_any (F.hu j)) (ha j)) (hs j) (hw j) (h1 j), fun ι S H σ ρ Dn R e q => ?_⟩
  refine sv.go R e q fun dv S1 ι1 H1 v x1 R1 e1 r1 q1 => ?_
  refine so.go R1 e1 q1 fun dx S2 ι2 H2 x x2 R2 e2 r2 q2 => ?_
  refine si.go R2 e2 q2 fun dy S3 ι3 H3 y x3 R3 e3 r3 q3 => ?_
  refine snd_setI (Q := fun H' => Dn.nx σ H') R3 (r2.mono x3) r3 ((r1.mono x2).mono x3) (Post.bind q3 fun _ S4 ι4 H4 x4 R4 q4 => ?_)
  exact Post.here R4 q4 σ (e3.mono x4)
/-! ### o.f = v -/
def p_setF (c i : Nat) (x v : D) (S : Sto) : Res Unit := match x with
  | .ref n => match cellOf S n with
    | some (.ins c' fs) => if c' = c ∧ i ≤ fs.length ∧ fs.length < 1000 then .ok () (S.set n (some (.ins c (if i < fs.length then fs.set i v else fs ++ [v])))) else .stuck
    | _ => .stuck
  | _ => .stuck
theorem putF_ix : ∀ {nfs : List (Str × V)} {ns : List Str} {i : Nat} {nm : Str} {v : V}, nfs.map (·.1) = ns.take nfs.length → ns.Nodup → ns[i]? = some nm → i ≤ nfs.length →
    (putF nm v nfs).map (·.1) = ns.take (putF nm v nfs).length ∧ (putF nm v nfs).map (·.2) = if i < nfs.length then (nfs.map (·.2)).set i v else nfs.map (·.2) ++ [v]
  | [], ns, i, nm, v, e, nd, h1, hi => by
    have hi : i = 0 := by simpa using hi
    subst hi
    cases ns with
    | nil => simp at h1
    | cons a ns =>
      simp at h1
      subst h1
      simp [putF]
  | (g, x) :: r, ns, i, nm, v, e, nd, h1, hi => by
    cases ns with
    | nil => simp at h1
    | cons a ns =>
      simp only [List.map_cons, List.length_cons, List.take_succ_cons, List.cons.injEq] at e
      obtain ⟨e1, e2⟩ := e
      subst e1
      rw [List.nodup_cons] at nd
      cases i with
      | zero =>
        simp at h1
        subst h1
        rw [show putF g v ((g, x) :: r) = (g, v) :: r from by simp [putF]]
        simp [e2]
      | succ i =>
        simp only [List.getElem?_cons_succ] at h1
        have hne : g ≠ nm := fun z => nd.1 (z ▸ List.mem_of_getElem? h1)
        rw [show putF nm v ((g, x) :: r) = (g, x) :: putF nm v r from by simp [putF, hne]]
        obtain ⟨a1, a2⟩ := putF_ix (v := v) e2 nd.2 h1 (by simpa using hi)
        refine ⟨by simp [a1], ?_⟩
        rw [List.map_cons, a2]
        by_cases hl : i < r.length
        · simp [hl]
        · simp [hl]
theorem ds_fld (F : FamH Xs G E) {c i : Nat} {nm : Str} {o e : Expr} {pos pos' : Pos} {co cv : ECode} (hc : Cls G.K (G.cls c)) (hn : NoAttr G.K (G.cls c) nm) (hi : (G.fns c)[i]? = some nm) (hnd : (G.fns c).Nodup)
    (hv : DE Xs G E e cv) (ho : DE Xs G E o co) (hs : ∀ j, swapsWith e (some (.Attribute o nm pos')) pos.line (Xs j).env = pure false) :
    DS Xs G E (.Assign [.Attribute o nm pos'] e pos) (fun ρ S => (cv ρ S).bind fun z S0 => (co ρ S0).bind fun x S1 => (p_setF c i x z S1).bind fun _ S2 => .ok (.nx ρ) S2) := by
  obtain ⟨tv, pv, sv⟩ := hv
  obtain ⟨to, po, so⟩ := ho
  refine ⟨sFld G.K to tv nm, fun j => by have z := ps_fld (X := Xs j) (po j) (pv j) (hs j); rw [F.K j] at z; exact z, fun ι S H σ ρ Dn R e q => ?_⟩
  refine sv.go R e q fun dv S1 ι1 H1 v x1 R1 e1 r1 q1 => ?_
  refine so.go R1 e1 q1 fun dx S2 ι2 H2 x x2 R2 e2 r2 q2 => ?_
  unfold p_setF at q2
  split at q2
  · rename_i n
    split at q2
    · rename_i c' fs hs
      split at q2
      · rename_i h
        obtain ⟨rfl, hle, hlt⟩ := h
        obtain ⟨a, rfl, hn', dx, nfs, ha, hnm, ra⟩ := ref_cell R2 r2 hs
        have hl : nfs.length = fs.length := by
          have := ra.length
          simpa using this
        rw [← hl] at hnm hle
        obtain ⟨p1, p2⟩ := putF_ix (v := v) hnm hnd hi hle
        have rr : Reps G ι2 (Lv ι2 S2) H2 ((putF nm v nfs).map (·.2)) (if i < fs.length then fs.set i dv else fs ++ [dv]) := by
          rw [p2, hl]
          by_cases hlt : i < fs.length
          · rw [if_pos hlt, if_pos hlt]
            exact Reps.set (r1.mono x2) i ra
          · rw [if_neg hlt, if_neg hlt]
            exact ra.app (.cons (r1.mono x2) .nil)
        obtain ⟨x3, R3⟩ := wr_cell (c := .ins c' (if i < fs.length then fs.set i dv else fs ++ [dv])) (o := .ins (G.cls c') dx (putF nm v nfs)) R2 hn' hs fun x => ⟨dx, _, upd_same, by
          have hle := rr.length
          rw [List.length_map] at hle
          rw [← hle]
          exact p1, rr.mono x⟩
        have q3 : Post G (E σ) ι2 S2 H2 (PF G Dn) (.ok (.nx ρ) (S2.set n (some (.ins c' (if i < fs.length then fs.set i dv else fs ++ [dv]))))) := q2
        exact ⟨a, _, dx, nfs, rfl, ha, hc, hn, by omega, q3 _ _ x3 R3 σ (e2.mono x3)⟩
      · exact q2.elim
    · exact q2.elim
  · exact q2.elim
/-! ### a, b = x, y -/
def c_par (i j : Nat) (a b : ECode) : SCode := fun ρ S => (a ρ S).bind fun x S1 => (b ρ S1).bind fun y S2 => .ok (.nx ((ρ.set i (some x)).set j (some y))) S2
theorem ds_par (F : Fam Xs G E kk) {i j : Nat} {x y : Str} {a b : Expr} {px py pt pos : Pos} {kt k2 pt2} {ca cb : ECode} (hi : ∀ q, (Xs q).N[i]? = some x) (hj : ∀ q, (Xs q).N[j]? = some y) (hij : i ≠ j)
    (hx : ∀ q, (Xs q).env.scope.names.lookup x = some .local) (hy : ∀ q, (Xs q).env.scope.names.lookup y = some .local) (ha : DE Xs G E a ca) (hb : DE Xs G E b cb)
    (hst : ∀ q, starEach [a, b] (Xs q).env = (false, eval a (Xs q).env) :: starEach [b] (Xs q).env) (hst2 : ∀ q, starEach [b] (Xs q).env = (false, eval b (Xs q).env) :: starEach [] (Xs q).env)
    (hw : ∀ q, swappedStores [.Tuple [.Name x px, .Name y py] kt pt] (.Tuple [a, b] k2 pt2) (Xs q).env = pure (some [x, y]))
    (hs : ∀ q, swapsWithSole [.Tuple [.Name x px, .Name y py] kt pt] (.Tuple [a, b] k2 pt2) pos.line (Xs q).env = pure false) :
    DS Xs G E (.Assign [.Tuple [.Name x px, .Name y py] kt pt] (.Tuple [a, b] k2 pt2) pos) (c_par i j ca cb) := by
  obtain ⟨ta, pa, sa⟩ := ha
  obtain ⟨tb, pb, sb⟩ := hb
  refine ⟨_, fun q => ps_par (F.calm q) (F.nd q) (hi q) (hj q) hij (hx q) (hy q) (pa_cons (pa q) (pa_cons (pb q) pa_nil (hst2 q)) (hst q)) (hw q) (hs q), fun ι S H σ ρ Dn R e q => ?_⟩
  refine sa.go R e q fun d S1 ι1 H1 v x1 R1 e1 r1 q1 => ?_
  refine sb.go R1 e1 q1 fun d2 S2 ι2 H2 w x2 R2 e2 r2 q2 => ?_
  exact ⟨v, w, rfl, Post.here R2 q2 _ ((e2.set (r1.mono x2) i).set r2 j)⟩
end
end DL

set_option Elab.async false
set_option linter.all false
set_option maxRecDepth 100000
set_option maxHeartbeats 4000000
/-! DL10: positional calls, methods, class attributes, instances -/
namespace DL
open PySem PySem.Spec PyProof.Rows L2

/-- a def called with positional arguments -/
def FnP (G : Gx) (k : Nat) (f : Addr) (m : List D → Sto → Res D) : Prop :=
  ∀ (A : Around) (outer : List PySem.Env) (s : Shared) (H : Hp) (us : List Value) (vs : List V) (Q : VK) (E : XK) (ι : Ix) (S : Sto) (ds : List D), A.guards = some [] → Room k A → Env0 G.P G.w G.K G.mg G.base A outer s H →
    Vals vs us → Rel G ι S H → Reps G ι (Lv ι S) H vs ds → Post G E ι S H (PV G Q) (m ds S) → codeAny (model G.P G.w) A (.call (.ref f) ⟨us, []⟩) (CR (L2.CX G.P G.w) outer G.P G.w H s Q E) s
def argsN (n : Nat) (m : List D → Sto → Res D) : List D → Sto → Res D := fun ds S => if ds.length = n then m ds S else .stuck
section
variable {G : Gx} {k : Nat} {f : Addr} {fd : FuncData} {ps : List Str} {m : List D → Sto → Res D}
theorem FnP.mono {j : Nat} (h : FnP G j f m) (hk : j ≤ k) : FnP G k f m := fun A outer s H us vs Q E ι S ds hg hr => h A outer s H us vs Q E ι S ds hg (hr.mono hk)
theorem FnB.pos (Fn : FnB G k f fd ps m) (hb : Binds G.K fd ps []) : FnP G k f (argsN ps.length m) := fun A outer s H us vs Q E ι S ds hg hr e0 rv R rs p => by
  unfold argsN at p
  split at p
  · rename_i hl
    have KX : G.K.In s.heap := e0.mod.kin.keeps fun b o e => (e0.bs b o e).1
    have hlu : us.length = ps.length := by rw [← rv.length, rs.length, hl]
    have hbi := hb s us KX (by rw [List.append_nil]; exact hlu)
    rw [List.append_nil] at hbi
    exact Fn A outer s H _ us vs Q E ι S ds hg hr e0 hbi rv R rs hl p
  · exact p.elim
theorem FnB.dfl (Fn : FnB G k f fd ps m) {dv : List Value} {dvs : List V} {dds : List D} (hb : Binds G.K fd ps dv) (hv : Vals dvs dv) (hD : ∀ ι L H, Reps G ι L H dvs dds) : FnP G k f (fun ds S => argsN ps.length m (ds ++ dds) S) := fun A outer s H us vs Q E ι S ds hg hr e0 rv R rs p => by
  have p : Post G E ι S H (PV G Q) (if (ds ++ dds).length = ps.length then m (ds ++ dds) S else .stuck) := p
  split at p
  · rename_i hl
    have KX : G.K.In s.heap := e0.mod.kin.keeps fun b o e => (e0.bs b o e).1
    have r2 := rs.app (hD ι (Lv ι S) H)
    have hlu : (us ++ dv).length = ps.length := by rw [← (rv.append hv).length, r2.length, hl]
    exact Fn A outer s H _ (us ++ dv) (vs ++ dvs) Q E ι S (ds ++ dds) hg hr e0 (hb s us KX hlu) (rv.append hv) R r2 hl p
  · exact p.elim
/-- def f(a, .., *v) -/
noncomputable def starR (n N : Nat) (c : SCode) : List D → Sto → Res D := fun ds S => if n ≤ ds.length ∧ fits ds.length = true then fnR N c (ds.take n ++ [.tup (ds.drop n)]) S else .stuck
theorem FnP.star {x qual : Str} {st : Stmt} {N : List Str} {pv : Str} {c : SCode} (F : Fun G.K x qual st f fd) (Sc : FnScope N (ps ++ [pv]) (defScope st))
    (hb : ∀ (cdv doc pm ct kV : Value) (an : Option Addr) (us rest : List Value), us.length = ps.length → bindArgs (PySem.W.fnOf x qual (defArgs st) (defBody st) (defScope st) .none kV doc pm an cdv ct) ⟨us ++ rest, []⟩ = (newTuple rest >>= fun t => pure (ps.zip us ++ [(pv, t)])))
    (hd : ∀ E, DSs (FnX G k N qual (defScope st) f E) G (fun _ => E) (defBody st) c) : FnP G (k + 1) f (starR ps.length N.length c) := by
  obtain ⟨oc, od, kV, doc, pm, an, cdv, ct, osl, rfl, lk, hcd⟩ := F.ex
  intro A outer s H us vs Q E ι S ds hgd hr e0 rv R rs p
  unfold starR at p
  split at p
  · rename_i hl
    obtain ⟨hl, hf⟩ := hl
    have hlv : vs.length = ds.length := rs.length
    obtain ⟨u1, u2, eu, r1, r2⟩ : ∃ u1 u2, us = u1 ++ u2 ∧ Vals (vs.take ps.length) u1 ∧ Vals (vs.drop ps.length) u2 := by
      have z := rv
      rw [← List.take_append_drop ps.length vs] at z
      exact StX.vals_split z
    subst eu
    have hl1 : u1.length = ps.length := by rw [← r1.length, List.length_take, hlv]; omega
    have hz : (vs.drop ps.length).length ≤ sizeLine := by
      have := fits_le hf
      rw [List.length_drop, hlv]
      omega
    have hz2 : u2.length ≤ sizeLine := by rw [← r2.length]; exact hz
    have hn : H s.heap.objs.size = Option.none := e0.hok.fresh (Nat.le_refl _)
    refine StX.run_bnd lk hcd Sc hr e0 (Q := Q) (G := fun xs H2 => H2 = upd H s.heap.objs.size (.tup (vs.drop ps.length)) ∧ xs = vs.take ps.length ++ [V.ref s.heap.objs.size]) (fun A' Ex Q' h => ?_) fun s2 H2 xs ⟨eH, ex⟩ hr' => ?_
    · rw [hb _ _ _ _ _ _ u1 u2 hl1]
      refine wpAny_bind (wpAny_newTuple (wpAny_pure ?_) hz2)
      have new : ObjOk G.P G.w (upd H s.heap.objs.size (.tup (vs.drop ps.length))) (s.heap.push ({ cls := .type "tuple", data := .seq u2.toArray } : Obj)) s.heap.objs.size (.tup (vs.drop ps.length)) := ⟨hz, u2, r2, ⟨_, Heap.get?_push_size _ rfl, rfl, _, rfl⟩⟩
      have un := StX.un_laid (fs := frs outer) (s := s) (o := ({ cls := .type "tuple", data := .seq u2.toArray } : Obj)) (u := .tup (vs.drop ps.length)) hn
      have z := h _ _ (vs.take ps.length ++ [V.ref s.heap.objs.size]) (u1 ++ [Value.ref s.heap.objs.size]) (StX.env0_laid e0 new) un rfl (fun e s' => StX.cxUp outer s H _ _ E e s' un (fun b o q => Heap.get?_push_of_some _ q) rfl) (r1.append (.cons rfl .nil))
        (by rw [List.length_append, List.length_append, List.length_take, hlv]; simp; omega) ⟨rfl, rfl⟩
      rw [List.zip_append hl1.symm] at z
      exact z
    · subst ex eH
      obtain ⟨t, ht, sd⟩ := hd E
      refine ⟨t, ht ⟨cdv, A, outer, s2, _, hr', hgd⟩, ?_⟩
      obtain ⟨x1, R1, rp⟩ := new_tup R hn (rs.drop ps.length)
      have rs1 : Reps G ι (Lv ι S) (upd H s.heap.objs.size (.tup (vs.drop ps.length))) (vs.take ps.length ++ [V.ref s.heap.objs.size]) (ds.take ps.length ++ [.tup (ds.drop ps.length)]) := ((rs.take ps.length).mono x1).app (.cons rp .nil)
      refine sd ι S _ _ _ _ R1 (start_env rs1 N) ?_
      have p1 := Post.back x1 p
      unfold fnR at p1
      generalize hcc : c (List.map some (ds.take ps.length ++ [D.tup (ds.drop ps.length)]) ++ List.replicate (N.length - (ds.take ps.length ++ [D.tup (ds.drop ps.length)]).length) none) S = r at p1 ⊢
      cases r with
      | ok fl S' =>
        cases fl with
        | nx ρ' => exact fun ι' H' y R' σ' _ => fin_ok R1 p1 ι' H' y R' .non .non
        | rt d => exact fun ι' H' y R' v rv => fin_ok R1 p1 ι' H' y R' v rv
        | bk ρ' => exact p1.elim
        | ct ρ' => exact p1.elim
      | ex k d S' => exact fun ι' H' dd v y R' hd rv => finX_ok R1 p1 ι' H' dd v y R' hd rv
      | stuck => exact p1.elim
  · exact p.elim
end

/-- the promise of a mirror -/
def spP (G : Gx) (m : List D → Sto → Res D) (vs : List V) (H : Hp) (Q : VK) (E : XK) : Prop := ∃ (ι : Ix) (S : Sto) (ds : List D), Rel G ι S H ∧ Reps G ι (Lv ι S) H vs ds ∧ Post G E ι S H (PV G Q) (m ds S)
section
variable {I : Type} {Xs : I → Cx} {G : Gx} {E : WK} {kk k : Nat} {f : Addr} {m : List D → Sto → Res D}
theorem runP_at (F : Fam Xs G E kk) (j : I) (Fn : FnP G k f m) {A : Around} {E : XK} {H : Hp} {s : Shared} {Q : VK} {us : List Value} {vs : List V} (hg : A.guards = some []) (hr : Room k A)
    (e0 : Env0 (Xs j).prog (Xs j).w (Xs j).K (Xs j).mg (Xs j).base A (Xs j).stack s H) (r : Vals vs us) (h : spP G m vs H Q E) :
    codeAny (model (Xs j).prog (Xs j).w) A (.call (.ref f) ⟨us, []⟩) (CR (L2.CX (Xs j).prog (Xs j).w) (Xs j).stack (Xs j).prog (Xs j).w H s Q E) s := by
  obtain ⟨ι, S, ds, R, rs, q⟩ := h
  rw [F.P j, F.w j] at e0 ⊢
  rw [F.K j, F.mg j, F.base j] at e0
  exact Fn A _ s H us vs Q E ι S ds hg hr e0 r R rs q
theorem run_P (F : Fam Xs G E kk) (j : I) (Fn : FnP G k f m) (hk : k ≤ kk) {pins : List (Addr × Obj)} {σ : L2.St} {H : Hp} {s : Shared} {Q : VK} {us : List Value} {vs : List V} (Iv : Inv (Xs j) pins σ H s)
    (r : Vals vs us) (h : spP G m vs H Q (E σ)) : wpAny (model (Xs j).prog (Xs j).w) (Xs j).A (call (.ref f) us) (EP (Xs j) pins σ Q) (Xs j).xe s := by
  refine wpAny_call (codeAny_mono (runP_at F j Fn (F.gd j) ((F.room j).mono hk) Iv.env0 r h) fun r s' hq => ?_)
  cases r with
  | error e => exact F.pass j pins σ H s e s' Iv hq
  | ok fl =>
    cases fl with
    | ret u => exact Iv.after hq
    | next => exact hq.elim
    | brk => exact hq.elim
    | cont => exact hq.elim
theorem snd_P {t : TA} {a : ACode} (sa : SndA G E t a) : Snd G E (fun σ H Q => t σ H fun vs H1 => spP G m vs H1 Q (E σ)) (c_cb m a) := fun ι S H σ ρ Q R e q =>
  sa.go R e q fun ds S1 ι1 H1 vs x1 R1 e1 r1 q1 => ⟨ι1, S1, ds, R1, r1, q1⟩
/-- x(e, ..) -/
theorem de_callP (F : Fam Xs G E kk) (Fn : FnP G k f m) (hk : k ≤ kk) {x : Str} {p pos : Pos} {e : Expr} {es : List Expr} {a : ACode} (ha : DA Xs G E (e :: es) a) (hg : ∀ j, Gl (Xs j) x) (hm : G.mg x = some (.ref f)) (hkp : PySem.W.keepIn G.K (.ref f) = true)
    (hdb : (x == ("__debug__" : Str)) = false) (he : ∀ j, starEach (e :: es) (Xs j).env = (false, eval e (Xs j).env) :: starEach es (Xs j).env) (hpl : ∀ j, (backTo pos (starEach es (Xs j).env)).any (·.1) = false) :
    DE Xs G E (.Call (.Name x p) (e :: es) [] pos) (c_cb m a) := by
  obtain ⟨t, pa, sa⟩ := ha
  refine ⟨_, fun j => ⟨fun pins s σ H Q Iv h => ?_⟩, snd_P sa⟩
  refine wpAny_Call_Name_kw (ld_glob Iv (hg j) (by rw [F.mg j]; exact hm) ?_ hdb)
  exact PySem.W.callWith_K (h₀ := (Xs j).base) Iv.ok.mod.kin (by rw [F.K j]; exact hkp) (thn ((pa j).run pos pins s σ H _ Iv h) fun us s1 ⟨vs, H1, I1, r, q⟩ => ⟨I1.kIn, run_P F j Fn hk I1 r q⟩) (he j) (hpl j)
theorem de_callP0 (F : Fam Xs G E kk) (Fn : FnP G k f m) (hk : k ≤ kk) {x : Str} {p pos : Pos} (hg : ∀ j, Gl (Xs j) x) (hm : G.mg x = some (.ref f)) (hkp : PySem.W.keepIn G.K (.ref f) = true) (hdb : (x == ("__debug__" : Str)) = false) :
    DE Xs G E (.Call (.Name x p) [] [] pos) (c_cb m c_nil) := by
  refine ⟨_, fun j => ⟨fun pins s σ H Q Iv h => ?_⟩, snd_P snd_nil⟩
  refine wpAny_Call_Name_kw (ld_glob Iv (hg j) (by rw [F.mg j]; exact hm) ?_ hdb)
  exact PySem.W.callWith_K0 Iv.kIn (by rw [F.K j]; exact hkp) (run_P (us := []) F j Fn hk Iv .nil h)
/-- *e among arguments -/
def c_star (a : ECode) (r : ACode) : ACode := fun ρ S => (a ρ S).bind fun x S1 => match itemsOf x S1 with
  | some ds => (r ρ S1).bind fun es S2 => .ok (ds ++ es) S2
  | none => .stuck
theorem da_star (F : FamH Xs G E) {e : Expr} {p : Pos} {es : List Expr} {a : ECode} {r : ACode} (ha : DE Xs G E e a) (hr : DA Xs G E es r) (hs : ∀ j, starEach (.Starred e p :: es) (Xs j).env = (true, eval e (Xs j).env) :: starEach es (Xs j).env) : DA Xs G E (.Starred e p :: es) (c_star a r) := by
  obtain ⟨te, pe, se⟩ := ha
  obtain ⟨tr, pr, sr⟩ := hr
  refine ⟨StX.tStar G.K te tr, fun j => by have z := StX.pa_star (X := Xs j) (pe j) (pr j) (hs j); rw [F.K j] at z; exact z, fun ι S H σ ρ Q R e q => ?_⟩
  refine se.go R e q fun d S1 ι1 H1 v x1 R1 e1 r1 q1 => ?_
  cases h : itemsOf d S1 with
  | none => rw [h] at q1; exact q1.elim
  | some ds =>
    rw [h] at q1
    obtain ⟨a, vs, rfl, hv, rv⟩ := items_at R1 r1 h
    refine ⟨a, vs, rfl, hv.symm, sr.go R1 e1 q1 fun es S2 ι2 H2 ws x2 R2 e2 r2 q2 => ?_⟩
    exact Post.here R2 q2 _ ((rv.mono x2).app r2)
/-- x(e, .., *y) -/
theorem de_callS2 (F : Fam Xs G E kk) (Fn : FnP G k f m) (hk : k ≤ kk) {x : Str} {p pos : Pos} {e : Expr} {es : List Expr} {a : ACode} (ha : DA Xs G E (e :: es) a) (hg : ∀ j, Gl (Xs j) x) (hm : G.mg x = some (.ref f)) (hkp : PySem.W.keepIn G.K (.ref f) = true)
    (hdb : (x == ("__debug__" : Str)) = false) (he : ∀ j, starEach (e :: es) (Xs j).env = (false, eval e (Xs j).env) :: starEach es (Xs j).env) (hst : ∀ j, (backTo pos (starEach es (Xs j).env)).any (·.1) = true) :
    DE Xs G E (.Call (.Name x p) (e :: es) [] pos) (c_cb m a) := by
  obtain ⟨t, pa, sa⟩ := ha
  refine ⟨_, fun j => ⟨fun pins s σ H Q Iv h => ?_⟩, snd_P sa⟩
  refine wpAny_Call_Name_kw (ld_glob Iv (hg j) (by rw [F.mg j]; exact hm) ?_ hdb)
  exact PySem.W.callWith_S2 (h₀ := (Xs j).base) Iv.ok.mod.kin (by rw [F.K j]; exact hkp) (thn ((pa j).run pos pins s σ H _ Iv h) fun us s1 ⟨vs, H1, I1, r, q⟩ => ⟨I1.kIn, run_P F j Fn hk I1 r q⟩) (he j) (hst j)
/-- x(*y) -/
theorem de_callS1 (F : Fam Xs G E kk) (Fn : FnP G k f m) (hk : k ≤ kk) {x : Str} {p sp_ pos : Pos} {e : Expr} {a : ECode} (ha : DE Xs G E e a) (hg : ∀ j, Gl (Xs j) x) (hm : G.mg x = some (.ref f)) (hkp : PySem.W.keepIn G.K (.ref f) = true)
    (hdb : (x == ("__debug__" : Str)) = false) (hst : ∀ j, starEach [.Starred e sp_] (Xs j).env = [(true, eval e (Xs j).env)]) :
    DE Xs G E (.Call (.Name x p) [.Starred e sp_] [] pos) (c_cb m (c_star a c_nil)) := by
  obtain ⟨t, pe, se⟩ := ha
  refine ⟨fun σ H Q => t σ H fun y H1 => ∃ a xs, y = V.ref a ∧ (SqT G.K H1 a xs ∨ SqL G.K H1 a xs) ∧ spP G m xs H1 Q (E σ), fun j => ⟨fun pins s σ H Q Iv h => ?_⟩, fun ι S H σ ρ Q R e q => ?_⟩
  · refine wpAny_Call_Name_kw (ld_glob Iv (hg j) (by rw [F.mg j]; exact hm) ?_ hdb)
    refine PySem.W.callWith_S (h₀ := (Xs j).base) Iv.ok.mod.kin (by rw [F.K j]; exact hkp) (thn ((pe j).run pins s σ H _ Iv h) fun v s1 ⟨y, H1, I1, ry, a, xs, ey, hxs, q⟩ => ?_) (hst j)
    subst ey
    obtain rfl : v = Value.ref a := ry
    rw [← F.K j] at hxs
    exact StX.star_any I1 hxs fun us s2 I2 rv => ⟨I2.kIn, run_P F j Fn hk I2 rv q⟩
  · unfold c_cb c_star c_nil at q
    generalize hc : a ρ S = r at q
    have q : Post G (E σ) ι S H (PV G Q) ((a ρ S).bind fun x S1 => match itemsOf x S1 with
      | some ds => m (ds ++ []) S1
      | none => .stuck) := by
      rw [hc]
      cases r with
      | ok d S1 =>
        simp only [Res.bind_ok] at q ⊢
        cases h : itemsOf d S1 with
        | none => rw [h] at q; exact q.elim
        | some ds => rw [h] at q; exact q
      | ex c d S1 => exact q
      | stuck => exact q
    refine se.go R e q fun d S1 ι1 H1 v x1 R1 e1 r1 q1 => ?_
    cases h : itemsOf d S1 with
    | none => rw [h] at q1; exact q1.elim
    | some ds =>
      rw [h] at q1
      obtain ⟨a, vs, rfl, hv, rv⟩ := items_at R1 r1 h
      have q1 : Post G (E σ) ι1 S1 H1 (PV G Q) (m (ds ++ []) S1) := q1
      rw [List.append_nil] at q1
      exact ⟨a, vs, rfl, hv.symm, ι1, S1, ds, R1, rv, q1⟩
/-! ### methods of an instance -/
theorem lookup_out : ∀ {nfs : List (Str × V)} {ns : List Str} {n : Nat} {nm : Str}, nfs.map (·.1) = ns.take n → ns.contains nm = false → nfs.lookup nm = none
  | [], _, _, _, _, _ => rfl
  | (g, v) :: r, [], n, nm, e, h => by simp at e
  | (g, v) :: r, a :: ns, 0, nm, e, h => by simp at e
  | (g, v) :: r, a :: ns, n + 1, nm, e, h => by
    simp only [List.map_cons, List.take_succ_cons, List.cons.injEq] at e
    obtain ⟨e1, e2⟩ := e
    subst e1
    simp only [List.contains_cons, Bool.or_eq_false_iff] at h
    rw [List.lookup_cons, h.1]
    exact lookup_out e2 h.2
def c_methP (c : Nat) (m : List D → Sto → Res D) (o : ECode) (a : ACode) : ECode := fun ρ S => (o ρ S).bind fun x S1 => if clsOf x S1 = some c then (a ρ S1).bind fun ds S2 => m (x :: ds) S2 else .stuck
theorem de_methP (F : Fam Xs G E kk) (Fn : FnP G k f m) (hk : k ≤ kk) {c : Nat} {nm : Str} {o e : Expr} {es : List Expr} {apos pos : Pos} {pl : I → Sem Bool} {co : ECode} {a : ACode} (hc : Cls G.K (G.cls c)) (hm : Meth G.K (G.cls c) nm f) (hn : (G.fns c).contains nm = false)
    (ho : DE Xs G E o co) (ha : DA Xs G E (e :: es) a) (hst : ∀ j, starEach (e :: es) (Xs j).env = (false, eval e (Xs j).env) :: starEach es (Xs j).env) (hpl : ∀ j, (backTo pos (starEach es (Xs j).env)).any (·.1) = false)
    (ht : ∀ j, eval (.Call (.Attribute o nm apos) (e :: es) [] pos) (Xs j).env = (do
      let ov ← eval o (Xs j).env
      standAt apos.atName
      let (f, first) ← holding [ov] (getMethod ov nm (pl j))
      callWith pos f first (backTo pos (starEach (e :: es) (Xs j).env)) (backToKw pos (keywordEach [] (Xs j).env)))) :
    DE Xs G E (.Call (.Attribute o nm apos) (e :: es) [] pos) (c_methP c m co a) := by
  obtain ⟨to, po, so⟩ := ho
  obtain ⟨t, pa, sa⟩ := ha
  refine ⟨fun σ H Q => to σ H fun x H1 => ∃ b dx fs, x = .ref b ∧ H1 b = some (.ins (G.cls c) dx fs) ∧ fs.lookup nm = none ∧ t σ H1 fun vs H2 => spP G m (x :: vs) H2 Q (E σ), fun j => ⟨fun pins s σ H Q Iv h => ?_⟩, fun ι S H σ ρ Q R e q => ?_⟩
  · refine PySem.W.methodCall_KW (pl := pl j) (thn ((po j).run pins s σ H _ Iv h) fun u s1 ⟨x, H1, I1, rx, a, dx, fs, ex, ea, l, q⟩ => ?_) (ht j)
    subst ex
    obtain rfl : u = Value.ref a := rx
    refine getmeth_ok I1 ea (by rw [F.K j]; exact hc) (by rw [F.K j]; exact hm) l ?_
    exact PySem.W.callWith_K (first := [.ref a]) (h₀ := (Xs j).base) Iv.ok.mod.kin (by rw [F.K j]; exact hm.kp) (thn ((pa j).run pos pins s1 σ H1 _ I1 q) fun us s2 ⟨vs, H2, I2, r, q2⟩ => ⟨I2.kIn, run_P (us := .ref a :: us) (vs := .ref a :: vs) F j Fn hk I2 (.cons rfl r) q2⟩) (hst j) (hpl j)
  · refine so.go R e q fun d S1 ι1 H1 v x1 R1 e1 r1 q1 => ?_
    by_cases h : clsOf d S1 = some c
    · rw [if_pos h] at q1
      obtain ⟨b, dx, nfs, fs, rfl, h2, h3, h4, h5⟩ := cls_at R1 r1 h
      refine ⟨b, dx, nfs, rfl, h2, lookup_out h3 hn, ?_⟩
      refine sa.go R1 e1 q1 fun ds S2 ι2 H2 vs x2 R2 e2 r2 q2 => ?_
      exact ⟨ι2, S2, d :: ds, R2, .cons (r1.mono x2) r2, q2⟩
    · rw [if_neg h] at q1
      exact q1.elim
theorem de_methP0 (F : Fam Xs G E kk) (Fn : FnP G k f m) (hk : k ≤ kk) {c : Nat} {nm : Str} {o : Expr} {apos pos : Pos} {pl : I → Sem Bool} {co : ECode} (hc : Cls G.K (G.cls c)) (hm : Meth G.K (G.cls c) nm f) (hn : (G.fns c).contains nm = false)
    (ho : DE Xs G E o co) (ht : ∀ j, eval (.Call (.Attribute o nm apos) [] [] pos) (Xs j).env = (do
      let ov ← eval o (Xs j).env
      standAt apos.atName
      let (f, first) ← holding [ov] (getMethod ov nm (pl j))
      callWith pos f first (backTo pos (starEach [] (Xs j).env)) (backToKw pos (keywordEach [] (Xs j).env)))) :
    DE Xs G E (.Call (.Attribute o nm apos) [] [] pos) (c_methP c m co c_nil) := by
  obtain ⟨to, po, so⟩ := ho
  refine ⟨fun σ H Q => to σ H fun x H1 => ∃ b dx fs, x = .ref b ∧ H1 b = some (.ins (G.cls c) dx fs) ∧ fs.lookup nm = none ∧ spP G m [x] H1 Q (E σ), fun j => ⟨fun pins s σ H Q Iv h => ?_⟩, fun ι S H σ ρ Q R e q => ?_⟩
  · refine PySem.W.methodCall_KW (pl := pl j) (thn ((po j).run pins s σ H _ Iv h) fun u s1 ⟨x, H1, I1, rx, a, dx, fs, ex, ea, l, q⟩ => ?_) (ht j)
    subst ex
    obtain rfl : u = Value.ref a := rx
    refine getmeth_ok I1 ea (by rw [F.K j]; exact hc) (by rw [F.K j]; exact hm) l ?_
    exact PySem.W.callWith_K0 (first := [.ref a]) I1.kIn (by rw [F.K j]; exact hm.kp) (run_P (us := [.ref a]) (vs := [.ref a]) F j Fn hk I1 (.cons rfl .nil) q)
  · refine so.go R e q fun d S1 ι1 H1 v x1 R1 e1 r1 q1 => ?_
    by_cases h : clsOf d S1 = some c
    · rw [if_pos h] at q1
      obtain ⟨b, dx, nfs, fs, rfl, h2, h3, h4, h5⟩ := cls_at R1 r1 h
      exact ⟨b, dx, nfs, rfl, h2, lookup_out h3 hn, ι1, S1, [d], R1, .cons r1 .nil, q1⟩
    · rw [if_neg h] at q1
      exact q1.elim
/-! ### what is read off a class -/
/-- a name that stands for a class or a def -/
theorem de_con (F : FamH Xs G E) {x : Str} {a : Addr} {pos : Pos} (hg : ∀ j, Gl (Xs j) x) (hm : G.mg x = some (.ref a)) (hd : (x == ("__debug__" : Str)) = false) : DE Xs G E (.Name x pos) (c_d (.con a)) :=
  de_glob F hg hm (show RelV (.ref a) (.ref a) from rfl) (fun _ _ _ => .con a) hd
theorem Rep.con_of {ι : Ix} {L : Addr → Prop} {H : Hp} {v : V} {a : Addr} (r : Rep G ι L H v (.con a)) : v = .ref a := by
  cases r
  rfl
def isCon (a : Addr) : D → Bool
  | .con b => decide (b = a)
  | _ => false
theorem isCon_eq {a : Addr} {d : D} (h : isCon a d = true) : d = .con a := by
  cases d with
  | con b =>
    obtain rfl : b = a := of_decide_eq_true h
    rfl
  | _ => cases h
def c_cval (C : Addr) (d : D) (o : ECode) : ECode := fun ρ S => (o ρ S).bind fun x S1 => if isCon C x = true then .ok d S1 else .stuck
theorem de_cval (F : FamH Xs G E) {C : Addr} {mc : Value} {nm : Str} {v : V} {u : Value} {d : D} {o : Expr} {pos : Pos} {co : ECode} (hr : ClX.CRead G.K C mc) (hv : ClX.CVal G.K C mc nm v u) (hd : ∀ ι L H, Rep G ι L H v d) (ho : DE Xs G E o co)
    (hb : ∀ j, attributeBase o nm (Xs j).env (eval o (Xs j).env) = eval o (Xs j).env) : DE Xs G E (.Attribute o nm pos) (c_cval C d co) := by
  obtain ⟨to, po, so⟩ := ho
  refine ⟨ClX.tCVal G.K to nm, fun j => by have z := ClX.pe_cval (X := Xs j) (pos := pos) (po j) (hb j); rw [F.K j] at z; exact z, fun ι S H σ ρ Q R e q => ?_⟩
  refine so.go R e q fun x S1 ι1 H1 w x1 R1 e1 r1 q1 => ?_
  by_cases h : isCon C x = true
  · rw [if_pos h] at q1
    rw [isCon_eq h] at r1
    exact ⟨C, mc, v, u, r1.con_of, hr, hv, Post.here R1 q1 _ (hd _ _ _)⟩
  · rw [if_neg h] at q1
    exact q1.elim
/-- C.m(..), m a staticmethod -/
structure SMet (K : PySem.W.Frag) (C : Addr) (mc : Value) (m : Str) (p g : Addr) : Prop where
  at_ : PySem.W.findCls K (.ref C) mc m = some (.get (.builtin "staticmethod.__get__") (.ref p) .none (.ref C))
  rc : ∃ rest, PySem.W.recIn K p "staticmethod" = some (.ref g :: rest)
  kp : PySem.W.keepIn K (.ref g) = true
def c_smeth (C : Addr) (m : List D → Sto → Res D) (o : ECode) (a : ACode) : ECode := fun ρ S => (o ρ S).bind fun x S1 => if isCon C x = true then (a ρ S1).bind m else .stuck
theorem de_smeth (F : Fam Xs G E kk) (Fn : FnP G k f m) (hk : k ≤ kk) {C p : Addr} {mc : Value} {nm : Str} {o e : Expr} {es : List Expr} {apos pos : Pos} {pl : I → Sem Bool} {co : ECode} {a : ACode} (hr : ClX.CRead G.K C mc) (hm : SMet G.K C mc nm p f)
    (ho : DE Xs G E o co) (ha : DA Xs G E (e :: es) a) (hst : ∀ j, starEach (e :: es) (Xs j).env = (false, eval e (Xs j).env) :: starEach es (Xs j).env) (hpl : ∀ j, (backTo pos (starEach es (Xs j).env)).any (·.1) = false)
    (ht : ∀ j, eval (.Call (.Attribute o nm apos) (e :: es) [] pos) (Xs j).env = (do
      let ov ← eval o (Xs j).env
      standAt apos.atName
      let (f, first) ← holding [ov] (getMethod ov nm (pl j))
      callWith pos f first (backTo pos (starEach (e :: es) (Xs j).env)) (backToKw pos (keywordEach [] (Xs j).env)))) :
    DE Xs G E (.Call (.Attribute o nm apos) (e :: es) [] pos) (c_smeth C m co a) := by
  obtain ⟨to, po, so⟩ := ho
  obtain ⟨t, pa, sa⟩ := ha
  refine ⟨fun σ H Q => to σ H fun x H1 => x = .ref C ∧ t σ H1 fun vs H2 => spP G m vs H2 Q (E σ), fun j => ⟨fun pins s σ H Q Iv h => ?_⟩, fun ι S H σ ρ Q R e q => ?_⟩
  · refine PySem.W.methodCall_KW (pl := pl j) (thn ((po j).run pins s σ H _ Iv h) fun u s1 ⟨x, H1, I1, rx, ex, q⟩ => ?_) (ht j)
    subst ex
    obtain rfl : u = Value.ref C := rx
    obtain ⟨rest, hp⟩ := hm.rc
    have KX := I1.kIn
    rw [F.K j] at KX
    refine PySem.W.method_cls KX hr.ga (PySem.W.cls_bind KX hr.rd hm.at_ (wpAny_call (PySem.W.sm_get (s := { s1 with toks := s1.toks + 1 }) KX hp (PySem.W.handed_on rfl ?_))))
    have I2 := I1.tok (s1.toks + 1)
    exact PySem.W.callWith_K (first := []) (h₀ := (Xs j).base) Iv.ok.mod.kin (by rw [F.K j]; exact hm.kp) (thn ((pa j).run pos pins { s1 with toks := s1.toks + 1 } σ H1 _ I2 q) fun us s2 ⟨vs, H2, I3, r, q2⟩ => ⟨I3.kIn, run_P F j Fn hk I3 r q2⟩) (hst j) (hpl j)
  · refine so.go R e q fun d S1 ι1 H1 v x1 R1 e1 r1 q1 => ?_
    by_cases h : isCon C d = true
    · rw [if_pos h] at q1
      rw [isCon_eq h] at r1
      refine ⟨r1.con_of, sa.go R1 e1 q1 fun ds S2 ι2 H2 vs x2 R2 e2 r2 q2 => ?_⟩
      exact ⟨ι2, S2, ds, R2, r2, q2⟩
    · rw [if_neg h] at q1
      exact q1.elim
/-! ### a new instance -/
/-- b: it will be changed -/
noncomputable def p_make (b : Bool) (c : Nat) (m : List D → Sto → Res D) (ds : List D) (S : Sto) : Res D := (m (.ref S.length :: ds) (S ++ [some (.ins c [])])).bind fun r S' => match r with
  | .non => if b = true then .ok (.ref S.length) S' else match cellOf S' S.length with
    | some (.ins c' fs) => if c' = c then fin S (.obj c fs) (S'.set S.length none) else .stuck
    | _ => .stuck
  | _ => .stuck
theorem made_rel {ι : Ix} {S : Sto} {H : Hp} {c : Nat} {x dx : Addr} (R : Rel G ι S H) (hx : H x = none) (hdx : H dx = none) (hne : dx ≠ x) :
    Ext ι S H (ι.snoc x) (S ++ [some (.ins c [])]) (upd (upd H dx (.own x)) x (.ins (G.cls c) dx [])) ∧ Rel G (ι.snoc x) (S ++ [some (.ins c [])]) (upd (upd H dx (.own x)) x (.ins (G.cls c) dx [])) := by
  have x1 : Ext ι S H ι S (upd H dx (.own x)) := Ext.same (keepNew hdx)
  have R1 : Rel G ι S (upd H dx (.own x)) := R.same (keepNew hdx)
  have hx1 : upd H dx (.own x) x = none := by rw [upd_ne (Ne.symm hne)]; exact hx
  have x2 : Ext ι S (upd H dx (.own x)) (ι.snoc x) (S ++ [some (.ins c [])]) (upd (upd H dx (.own x)) x (.ins (G.cls c) dx [])) := Ext.new R1 hx1
  exact ⟨x1.trans x2, R1.new hx1 ⟨dx, [], upd_same, by simp, .nil⟩⟩
theorem spP_make (b : Bool) {ι : Ix} {S : Sto} {H : Hp} {c : Nat} {vs : List V} {ds : List D} {Q : VK} {E : XK} (R : Rel G ι S H) (r : Reps G ι (Lv ι S) H vs ds) (q : Post G E ι S H (PV G Q) (p_make b c m ds S)) (x dx : Addr) (hx : H x = none) (hdx : H dx = none) (hne : dx ≠ x) :
    spP G m (.ref x :: vs) (upd (upd H dx (.own x)) x (.ins (G.cls c) dx [])) (fun v H2 => v = .non ∧ Q (.ref x) H2) E := by
  obtain ⟨x1, R1⟩ := made_rel (c := c) R hx hdx hne
  have hself : (ι.snoc x).l[S.length]? = some x := by
    show (ι.l ++ [x])[S.length]? = some x
    rw [← R.len]
    simp
  refine ⟨ι.snoc x, S ++ [some (.ins c [])], .ref S.length :: ds, R1, .cons (.ref hself) (r.mono x1), ?_⟩
  unfold p_make at q
  cases hm : m (.ref S.length :: ds) (S ++ [some (.ins c [])]) with
  | ex k d S2 =>
    rw [hm] at q
    exact fun ι2 H2 dd v y R2 => q ι2 H2 dd v (x1.trans y) R2
  | stuck => rw [hm] at q; exact q
  | ok d S2 =>
    rw [hm] at q
    intro ι2 H2 y R2 v rv
    cases d with
    | non =>
      refine ⟨rv.non_of, ?_⟩
      have hix := y.idx hself
      cases b with
      | true => exact q ι2 H2 (x1.trans y) R2 _ (.ref hix)
      | false =>
        have q : Post G E ι S H (PV G Q) (match cellOf S2 S.length with
          | some (.ins c' fs) => if c' = c then fin S (.obj c fs) (S2.set S.length none) else .stuck
          | _ => .stuck) := q
        split at q
        · rename_i c' fs hc
          split at q
          · rename_i ec
            subst ec
            obtain ⟨a, h1, h2⟩ := R2.cell _ _ (cellOf_eq hc)
            rw [hix] at h1
            cases h1
            obtain ⟨dx', nfs, h3, h4, h5⟩ := h2
            have x3 : Ext ι2 S2 H2 ι2 (S2.set S.length none) H2 := Ext.kill
            have R3 : Rel G ι2 (S2.set S.length none) H2 := R2.kill
            exact fin_ok R q ι2 H2 ((x1.trans y).trans x3) R3 _ (.obj h3 (R2.killed hix) h4 (h5.mono x3))
          · exact q.elim
        · exact q.elim
    | _ => exact q.elim
theorem de_make (b : Bool) (F : Fam Xs G E kk) (Fn : FnP G k f m) (hk : k + 1 ≤ kk) {c : Nat} {x : Str} {p pos : Pos} {e : Expr} {es : List Expr} {a : ACode} (M : Mk G.K (G.cls c) f) (ha : DA Xs G E (e :: es) a) (hg : ∀ j, Gl (Xs j) x) (hm : G.mg x = some (.ref (G.cls c)))
    (hdb : (x == ("__debug__" : Str)) = false) (he : ∀ j, starEach (e :: es) (Xs j).env = (false, eval e (Xs j).env) :: starEach es (Xs j).env) (hpl : ∀ j, (backTo pos (starEach es (Xs j).env)).any (·.1) = false) :
    DE Xs G E (.Call (.Name x p) (e :: es) [] pos) (c_cb (p_make b c m) a) := by
  obtain ⟨t, pa, sa⟩ := ha
  refine ⟨fun σ H Q => t σ H fun vs H1 => ∀ x dx, H1 x = Option.none → H1 dx = Option.none → dx ≠ x → spP G m (V.ref x :: vs) (upd (upd H1 dx (.own x)) x (.ins (G.cls c) dx [])) (fun v H2 => v = .non ∧ Q (.ref x) H2) (E σ), fun j => ⟨fun pins s σ H Q Iv h => ?_⟩, fun ι S H σ ρ Q R e q => ?_⟩
  · refine wpAny_Call_Name_kw (ld_glob Iv (hg j) (by rw [F.mg j]; exact hm) ?_ hdb)
    refine PySem.W.callWith_K (h₀ := (Xs j).base) Iv.ok.mod.kin (by rw [F.K j]; exact M.kp) (thn ((pa j).run pos pins s σ H _ Iv h) fun us s1 ⟨vs, H1, I1, r, q⟩ => ⟨I1.kIn, ?_⟩) (he j) (hpl j)
    have hq := q (s1.heap.objs.size + 1) s1.heap.objs.size (I1.hok.fresh (Nat.le_succ _)) (I1.hok.fresh (Nat.le_refl _)) (Nat.ne_of_lt (Nat.lt_succ_self _))
    have I2 := Inv.made (C := G.cls c) I1
    have r2 : Vals (V.ref (s1.heap.objs.size + 1) :: vs) (Value.ref (s1.heap.objs.size + 1) :: us) := .cons rfl r
    have M' : Mk (Xs j).K (G.cls c) f := by rw [F.K j]; exact M
    refine wpAny_call (make_map (f := f) I1.kIn M'.makes M'.init (beq_iff_eq.mp M'.fn) (codeAny_mono (runP_at F j Fn (show ((Xs j).A.under _).guards = some [] from F.gd j) (((F.room j).mono hk).make (G.cls c) us []) (I2.env0.make (G.cls c) us []) r2 hq) fun r s' hq' => ?_))
    cases r with
    | error e => exact F.pass j pins σ _ _ e s' I2 hq'
    | ok fl =>
      cases fl with
      | ret u =>
        obtain ⟨v, H', I3, rv, ev, q3⟩ := I2.after hq'
        subst ev
        exact ⟨rv, ⟨V.ref (s1.heap.objs.size + 1), H', I3, rfl, q3⟩⟩
      | next => exact False.elim hq'
      | brk => exact False.elim hq'
      | cont => exact False.elim hq'
  · exact sa.go R e q fun ds S1 ι1 H1 vs x1 R1 e1 r1 q1 => spP_make b R1 r1 q1
end
end DL

set_option Elab.async false
set_option linter.all false
set_option maxRecDepth 100000
set_option maxHeartbeats 4000000
/-! DLZ: zip of lists and tuples, also strict=True -/
namespace DL
open PySem PySem.Spec PyProof.Rows L2

abbrev ZipAt (st : Bool) (h : Heap) (z TI TO : Addr) (f0 : Value) : Prop :=
  h.get? z = some { cls := .type "zip", dict := none, data := .fields #[f0, .bool false, .bool st, .ref TI, .ref TO], slots := #[] }
def ItAt : Bool → Heap → Addr → Addr → Nat → Prop
  | true, h, it, l, k => h.IsTupleIter it l k
  | false, h, it, l, k => h.IsListIter it l k
def SqAt : Bool → Heap → Addr → Array Value → Prop
  | true, h, l, xs => h.IsTuple l xs
  | false, h, l, xs => h.IsList l xs
theorem ItAt.at {t : Bool} {h h' : Heap} {it l : Addr} {k : Nat} (i : ItAt t h it l k) (e : ∀ o, h.get? it = some o → h'.get? it = some o) : ItAt t h' it l k := by
  cases t with
  | true => exact Heap.IsTupleIter.at i e
  | false => exact Heap.IsListIter.at i e
theorem SqAt.at {t : Bool} {h h' : Heap} {l : Addr} {xs : Array Value} (i : SqAt t h l xs) (e : ∀ o, h.get? l = some o → h'.get? l = some o) : SqAt t h' l xs := by
  cases t with
  | true => exact Heap.IsTuple.at i e
  | false => exact Heap.IsList.at i e
theorem ItAt.obj {t : Bool} {h : Heap} {it l : Addr} {k : Nat} (i : ItAt t h it l k) : ∃ o, h.get? it = some o ∧ o.data = .fields #[.ref l, rawInt k] := by
  cases t with
  | true => obtain ⟨o, a, b, c⟩ := i; exact ⟨o, a, c⟩
  | false => obtain ⟨o, a, b, c⟩ := i; exact ⟨o, a, c⟩
theorem ItAt.lt {t : Bool} {h : Heap} {it l : Addr} {k : Nat} (i : ItAt t h it l k) : it < h.objs.size := by
  obtain ⟨o, e, _⟩ := i.obj
  exact Heap.lt_size e
theorem ItAt.ext {t : Bool} {h h' : Heap} {it l x : Addr} {k : Nat} (i : ItAt t h it l k) (e : Heap.ExtBut x h h') (n : it ≠ x) : ItAt t h' it l k := i.at fun o q => e _ _ n q
theorem SqAt.ext {t : Bool} {h h' : Heap} {l x : Addr} {xs : Array Value} (i : SqAt t h l xs) (e : Heap.ExtBut x h h') (n : l ≠ x) : SqAt t h' l xs := i.at fun o q => e _ _ n q
theorem SqAt.obj {t : Bool} {h : Heap} {l : Addr} {xs : Array Value} (i : SqAt t h l xs) : ∃ o, h.get? l = some o := by
  cases t with
  | true => obtain ⟨o, a, b, c⟩ := i; exact ⟨o, a⟩
  | false => obtain ⟨o, a, b, c⟩ := i; exact ⟨o, a⟩
theorem SqAt.lt {t : Bool} {h : Heap} {l : Addr} {xs : Array Value} (i : SqAt t h l xs) : l < h.objs.size := by
  obtain ⟨o, e⟩ := i.obj
  exact Heap.lt_size e
section
variable {prog : Program} {w : World} {A : Around} {E : Value → Shared → Prop} {s : Shared}
theorem next_item (t : Bool) {it l : Addr} {i : Nat} {items} {x : Value} {Q : Value → Shared → Prop} (hit : ItAt t s.heap it l i) (hl : SqAt t s.heap l items) (hx : items[i]? = some x)
    (hQ : ∀ h', ItAt t h' it l (i + 1) → Heap.SameBut it s.heap h' → Q x { s with heap := h' }) : wpAny (model prog w) A (Builtin.SmallTypes.nextOf (.ref it)) Q E s := by
  cases t with
  | true => exact RZ.nextOf_tuple_item hit hl hx hQ
  | false => exact wpAny_nextOf_list_item hit hl hx hQ
theorem next_end (t : Bool) {it l : Addr} {i : Nat} {items} {Q : Value → Shared → Prop} (hh : A.handled = none) (hit : ItAt t s.heap it l i) (hl : SqAt t s.heap l items) (hx : items[i]? = none)
    (hE : ∀ h' e, Heap.ExtBut it s.heap h' → (∃ o, h'.get? e = some o ∧ o.cls = .type "StopIteration") → E (.ref e) { s with heap := h' }) : wpAny (model prog w) A (Builtin.SmallTypes.nextOf (.ref it)) Q E s := by
  cases t with
  | true => exact RZ.nextOf_tuple_end hh hit hl hx hE
  | false => exact wpAny_nextOf_list_end hh hit hl hx hE
theorem orEnd_item (t : Bool) {it l : Addr} {i : Nat} {items} {x : Value} {Q : Option Value → Shared → Prop} (hit : ItAt t s.heap it l i) (hl : SqAt t s.heap l items) (hx : items[i]? = some x)
    (hQ : ∀ h', ItAt t h' it l (i + 1) → Heap.SameBut it s.heap h' → Q (some x) { s with heap := h' }) : wpAny (model prog w) A (Builtin.SmallTypes.nextOrEnd (.ref it)) Q E s := by
  unfold Builtin.SmallTypes.nextOrEnd
  exact wpAny_bind (wpAny_attempt (next_item t hit hl hx fun h' a b => wpAny_pure (hQ h' a b)))
theorem orEnd_end (t : Bool) {it l : Addr} {i : Nat} {items} {Q : Option Value → Shared → Prop} (hh : A.handled = none) (hit : ItAt t s.heap it l i) (hl : SqAt t s.heap l items) (hx : items[i]? = none)
    (hQ : ∀ h', Heap.ExtBut it s.heap h' → Q none { s with heap := h' }) : wpAny (model prog w) A (Builtin.SmallTypes.nextOrEnd (.ref it)) Q E s := by
  unfold Builtin.SmallTypes.nextOrEnd
  refine wpAny_bind (wpAny_attempt (next_end t hh hit hl hx fun h' e hk he => ?_))
  obtain ⟨o, ho, hc⟩ := he
  refine wpAny_bind (wpAny_isInstance (T := "StopIteration") (b := true) ⟨o, ho, hc⟩ isSubtype_stop ?_)
  exact wpAny_pure (hQ h' hk)
theorem draw_item (sb t : Bool) {it l : Addr} {i : Nat} {items} {x : Value} {Q : Option Value → Shared → Prop} (hit : ItAt t s.heap it l i) (hl : SqAt t s.heap l items) (hx : items[i]? = some x)
    (hQ : ∀ h', ItAt t h' it l (i + 1) → Heap.SameBut it s.heap h' → Q (some x) { s with heap := h' }) :
    wpAny (model prog w) A (if sb = true then Builtin.SmallTypes.nextOrEnd (.ref it) else (do return some (← Builtin.SmallTypes.nextOf (.ref it)))) Q E s := by
  cases sb with
  | true =>
    rw [if_pos rfl]
    exact orEnd_item t hit hl hx hQ
  | false =>
    rw [if_neg Bool.false_ne_true]
    exact wpAny_bind (next_item t hit hl hx fun h' a b => wpAny_pure (hQ h' a b))
theorem bool_is_true (sb : Bool) : ((Value.bool sb == Value.bool true) = true) = (sb = true) := by cases sb <;> rfl
theorem zip_item {z TI TO i1 i2 l1 l2 : Addr} {k1 k2 : Nat} {xs ys : Array Value} {x y a b : Value} {Q : Value → Shared → Prop} (sb t1 t2 : Bool) (D : ZipApart z TI TO i1 i2 l1 l2)
    (hz : ZipAt sb s.heap z TI TO .none) (hTI : IsPair s.heap TI (.ref i1) (.ref i2)) (hTO : IsPair s.heap TO a b)
    (h1 : ItAt t1 s.heap i1 l1 k1) (h2 : ItAt t2 s.heap i2 l2 k2) (hl1 : SqAt t1 s.heap l1 xs) (hl2 : SqAt t2 s.heap l2 ys) (hx : xs[k1]? = some x) (hy : ys[k2]? = some y)
    (hQ : ∀ h', ZipAt sb h' z TI TO (rawInt s.heap.objs.size) → IsPair h' TO x y → ItAt t1 h' i1 l1 (k1 + 1) → ItAt t2 h' i2 l2 (k2 + 1) → IsPair h' s.heap.objs.size x y → h'.objs.size = s.heap.objs.size + 1 →
      (∀ c o, c ≠ z → c ≠ TO → c ≠ i1 → c ≠ i2 → s.heap.get? c = some o → h'.get? c = some o) → Q (.ref s.heap.objs.size) { s with heap := h' }) :
    wpAny (model prog w) A (Builtin.«zip.__next__» ⟨[.ref z], []⟩) (fun fin s' => ∃ v, fin = .done (.ret v) ∧ Q v s') E s := by
  show wpAny _ _ (field (.ref z) 2 >>= _) _ _ _
  refine wpAny_bind (wpAny_field hz rfl (x := .bool sb) rfl ?_)
  show wpAny _ _ (field (.ref z) 3 >>= _) _ _ _
  refine wpAny_bind (wpAny_field hz rfl (x := .ref TI) rfl ?_)
  refine wpAny_bind (wpAny_seqItems hTI rfl ?_)
  show wpAny _ _ (Builtin.SmallTypes.ownedTupleIsFree (.ref z) >>= _) _ _ _
  refine wpAny_bind ?_
  unfold Builtin.SmallTypes.ownedTupleIsFree
  refine wpAny_bind (wpAny_field hz rfl (x := .none) rfl (wpAny_pure ?_))
  simp only [if_true]
  refine wpAny_bind (wpAny_rule ?_)
  refine wpAny_bind (wpAny_field hz rfl (x := .ref TO) rfl ?_)
  refine wpAny_bind (wpAny_setField_rec hz (by simp) fun h₁ hz₁ hs₁ => ?_)
  replace hz₁ : ZipAt sb h₁ z TI TO .ellipsis := hz₁
  refine wpAny_bind ?_
  simp only [List.zipIdx_cons, List.zipIdx_nil, List.forIn_cons, List.forIn_nil]
  refine wpAny_bind (wpAny_bind (wpAny_onRaise ?_))
  show wpAny _ _ (if (Value.bool sb == Value.bool true) = true then Builtin.SmallTypes.nextOrEnd (.ref i1) else (do return some (← Builtin.SmallTypes.nextOf (.ref i1)))) _ _ _
  simp only [bool_is_true]
  refine draw_item sb t1 (h1.ext hs₁.extBut D.i1z) (hl1.ext hs₁.extBut D.l1z) hx fun h₂ h1₂ hs₂ => ?_
  have hTO₂ : IsPair h₂ TO a b := hs₂.extBut _ _ D.TOi1 (hs₁.extBut _ _ D.TOz hTO)
  refine wpAny_bind (wpAny_seqItems hTO₂ rfl ?_)
  refine wpAny_bind (wpAny_updateSeq_pair hTO₂ fun h₃ hTO₃ hs₃ => ?_)
  replace hTO₃ : IsPair h₃ TO x b := hTO₃
  refine wpAny_bind (wpAny_letGo (wpAny_pure ?_))
  refine wpAny_bind (wpAny_bind (wpAny_onRaise ?_))
  show wpAny _ _ (if (Value.bool sb == Value.bool true) = true then Builtin.SmallTypes.nextOrEnd (.ref i2) else (do return some (← Builtin.SmallTypes.nextOf (.ref i2)))) _ _ _
  simp only [bool_is_true]
  refine draw_item sb t2 (((h2.ext hs₁.extBut D.i2z).ext hs₂.extBut D.i12.symm).ext hs₃.extBut D.TOi2.symm)
    (((hl2.ext hs₁.extBut D.l2z).ext hs₂.extBut D.l2i1).ext hs₃.extBut D.l2TO) hy fun h₄ h2₄ hs₄ => ?_
  have hTO₄ : IsPair h₄ TO x b := hs₄.extBut _ _ D.TOi2 hTO₃
  refine wpAny_bind (wpAny_seqItems hTO₄ rfl ?_)
  refine wpAny_bind (wpAny_updateSeq_pair hTO₄ fun h₅ hTO₅ hs₅ => ?_)
  replace hTO₅ : IsPair h₅ TO x y := hTO₅
  refine wpAny_bind (wpAny_letGo (wpAny_pure (wpAny_pure ?_)))
  refine wpAny_bind (wpAny_seqItems hTO₅ rfl ?_)
  refine wpAny_bind (wpAny_newTuple ?_)
  have hsz : h₅.objs.size = s.heap.objs.size := by rw [hs₅.1, hs₄.1, hs₃.1, hs₂.1, hs₁.1]
  have hz₅ : ZipAt sb h₅ z TI TO .ellipsis := hs₅.extBut _ _ D.TOz.symm (hs₄.extBut _ _ D.i2z.symm (hs₃.extBut _ _ D.TOz.symm (hs₂.extBut _ _ D.i1z.symm hz₁)))
  have hk₅ : ∀ c o, c ≠ z → c ≠ TO → c ≠ i1 → c ≠ i2 → s.heap.get? c = some o → h₅.get? c = some o := fun c o c1 c2 c3 c4 e =>
    hs₅.extBut _ _ c2 (hs₄.extBut _ _ c4 (hs₃.extBut _ _ c2 (hs₂.extBut _ _ c3 (hs₁.extBut _ _ c1 e))))
  have h1₅ : ItAt t1 h₅ i1 l1 (k1 + 1) := ((h1₂.ext hs₃.extBut D.TOi1.symm).ext hs₄.extBut D.i12).ext hs₅.extBut D.TOi1.symm
  have h2₅ : ItAt t2 h₅ i2 l2 (k2 + 1) := h2₄.ext hs₅.extBut D.TOi2.symm
  have hzlt : z < h₅.objs.size := Heap.lt_size hz₅
  show wpAny _ _ (Builtin.SmallTypes.ownedTupleHandOut (.ref z) (.ref h₅.objs.size) >>= _) _ _ _
  refine wpAny_bind ?_
  unfold Builtin.SmallTypes.ownedTupleHandOut
  have hz₆ : ZipAt sb (h₅.push { cls := .type "tuple", data := .seq #[x, y] }) z TI TO .ellipsis := Heap.get?_push_of_some _ hz₅
  refine wpAny_bind (wpAny_setField_rec hz₆ (by simp) fun h₇ hz₇ hs₇ => ?_)
  replace hz₇ : ZipAt sb h₇ z TI TO (rawInt h₅.objs.size) := hz₇
  refine wpAny_setField_rec hz₇ (by simp) fun h₈ hz₈ hs₈ => ?_
  replace hz₈ : ZipAt sb h₈ z TI TO (rawInt h₅.objs.size) := hz₈
  have up : ∀ c o, c ≠ z → h₅.get? c = some o → h₈.get? c = some o := fun c o c1 e => hs₈.extBut _ _ c1 (hs₇.extBut _ _ c1 (Heap.get?_push_of_some _ e))
  have hT₈ : IsPair h₈ h₅.objs.size x y := hs₈.extBut _ _ (Nat.ne_of_gt hzlt) (hs₇.extBut _ _ (Nat.ne_of_gt hzlt) (Heap.get?_push_size _ rfl))
  have hz8 : h₈.objs.size = h₅.objs.size + 1 := by rw [hs₈.1, hs₇.1, Heap.size_push]
  rw [hsz] at hz₈ hT₈ hz8
  refine wpAny_pure ⟨_, rfl, ?_⟩
  show Q (.ref h₅.objs.size) _
  rw [hsz]
  exact hQ h₈ hz₈ (up _ _ D.TOz hTO₅) (h1₅.at fun o e => up _ o D.i1z e) (h2₅.at fun o e => up _ o D.i2z e) hT₈ hz8 fun c o c1 c2 c3 c4 e => up c o c1 (hk₅ c o c1 c2 c3 c4 e)
theorem zip_end {z TI TO i1 i2 l1 l2 : Addr} {k1 k2 : Nat} {xs ys : Array Value} {a b : Value} {Q : Fin → Shared → Prop} (t1 t2 : Bool) (hh : A.handled = none) (D : ZipApart z TI TO i1 i2 l1 l2)
    (hz : ZipAt false s.heap z TI TO .none) (hTI : IsPair s.heap TI (.ref i1) (.ref i2)) (hTO : IsPair s.heap TO a b)
    (h1 : ItAt t1 s.heap i1 l1 k1) (h2 : ItAt t2 s.heap i2 l2 k2) (hl1 : SqAt t1 s.heap l1 xs) (hl2 : SqAt t2 s.heap l2 ys) (hend : xs[k1]? = none ∨ ys[k2]? = none)
    (hE : ∀ h' e, (∀ c o, c ≠ z → c ≠ TO → c ≠ i1 → c ≠ i2 → s.heap.get? c = some o → h'.get? c = some o) → (∃ o, h'.get? e = some o ∧ o.cls = .type "StopIteration") → E (.ref e) { s with heap := h' }) :
    wpAny (model prog w) A (Builtin.«zip.__next__» ⟨[.ref z], []⟩) Q E s := by
  show wpAny _ _ (field (.ref z) 2 >>= _) _ _ _
  refine wpAny_bind (wpAny_field hz rfl (x := .bool false) rfl ?_)
  show wpAny _ _ (field (.ref z) 3 >>= _) _ _ _
  refine wpAny_bind (wpAny_field hz rfl (x := .ref TI) rfl ?_)
  refine wpAny_bind (wpAny_seqItems hTI rfl ?_)
  show wpAny _ _ (Builtin.SmallTypes.ownedTupleIsFree (.ref z) >>= _) _ _ _
  refine wpAny_bind ?_
  unfold Builtin.SmallTypes.ownedTupleIsFree
  refine wpAny_bind (wpAny_field hz rfl (x := .none) rfl (wpAny_pure ?_))
  simp only [if_true]
  refine wpAny_bind (wpAny_rule ?_)
  refine wpAny_bind (wpAny_field hz rfl (x := .ref TO) rfl ?_)
  refine wpAny_bind (wpAny_setField_rec hz (by simp) fun h₁ hz₁ hs₁ => ?_)
  replace hz₁ : ZipAt false h₁ z TI TO .ellipsis := hz₁
  refine wpAny_bind ?_
  simp only [List.zipIdx_cons, List.zipIdx_nil, List.forIn_cons, List.forIn_nil]
  refine wpAny_bind (wpAny_bind (wpAny_onRaise ?_))
  show wpAny _ _ (Builtin.SmallTypes.nextOf (.ref i1) >>= _) _ _ _
  cases hx : xs[k1]? with
  | none =>
    refine wpAny_bind (next_end t1 hh (h1.ext hs₁.extBut D.i1z) (hl1.ext hs₁.extBut D.l1z) hx fun h₂ e hs₂ he => ?_)
    obtain ⟨oe, hoe, hce⟩ := he
    have hz₂ : ZipAt false h₂ z TI TO .ellipsis := hs₂ _ _ D.i1z.symm hz₁
    have hez : e ≠ z := fun x => by subst x; rw [hz₂] at hoe; cases hoe; simp at hce
    refine wpAny_setField_rec hz₂ (by simp) fun h₃ _ hs₃ => hE h₃ e (fun c o c1 _ c3 _ x => hs₃.extBut _ _ c1 (hs₂ _ _ c3 (hs₁.extBut _ _ c1 x))) ⟨oe, hs₃.extBut _ _ hez hoe, hce⟩
  | some x =>
    have hy : ys[k2]? = none := by rcases hend with h | h; rw [hx] at h; cases h; exact h
    refine wpAny_bind (next_item t1 (h1.ext hs₁.extBut D.i1z) (hl1.ext hs₁.extBut D.l1z) hx fun h₂ h1₂ hs₂ => wpAny_pure ?_)
    have hTO₂ : IsPair h₂ TO a b := hs₂.extBut _ _ D.TOi1 (hs₁.extBut _ _ D.TOz hTO)
    refine wpAny_bind (wpAny_seqItems hTO₂ rfl ?_)
    refine wpAny_bind (wpAny_updateSeq_pair hTO₂ fun h₃ hTO₃ hs₃ => ?_)
    refine wpAny_bind (wpAny_letGo (wpAny_pure ?_))
    refine wpAny_bind (wpAny_bind (wpAny_onRaise ?_))
    show wpAny _ _ (Builtin.SmallTypes.nextOf (.ref i2) >>= _) _ _ _
    refine wpAny_bind (next_end t2 hh (((h2.ext hs₁.extBut D.i2z).ext hs₂.extBut D.i12.symm).ext hs₃.extBut D.TOi2.symm)
      (((hl2.ext hs₁.extBut D.l2z).ext hs₂.extBut D.l2i1).ext hs₃.extBut D.l2TO) hy fun h₄ e hs₄ he => ?_)
    obtain ⟨oe, hoe, hce⟩ := he
    have hz₄ : ZipAt false h₄ z TI TO .ellipsis := hs₄ _ _ D.i2z.symm (hs₃.extBut _ _ D.TOz.symm (hs₂.extBut _ _ D.i1z.symm hz₁))
    have hez : e ≠ z := fun x => by subst x; rw [hz₄] at hoe; cases hoe; simp at hce
    refine wpAny_setField_rec hz₄ (by simp) fun h₅ _ hs₅ => hE h₅ e (fun c o c1 c2 c3 c4 x => hs₅.extBut _ _ c1 (hs₄ _ _ c4 (hs₃.extBut _ _ c2 (hs₂.extBut _ _ c3 (hs₁.extBut _ _ c1 x))))) ⟨oe, hs₅.extBut _ _ hez hoe, hce⟩
theorem zip_endS {z TI TO i1 i2 l1 l2 : Addr} {k1 k2 : Nat} {xs ys : Array Value} {a b : Value} {Q : Fin → Shared → Prop} (t1 t2 : Bool) (hh : A.handled = none) (D : ZipApart z TI TO i1 i2 l1 l2)
    (hz : ZipAt true s.heap z TI TO .none) (hTI : IsPair s.heap TI (.ref i1) (.ref i2)) (hTO : IsPair s.heap TO a b)
    (h1 : ItAt t1 s.heap i1 l1 k1) (h2 : ItAt t2 s.heap i2 l2 k2) (hl1 : SqAt t1 s.heap l1 xs) (hl2 : SqAt t2 s.heap l2 ys) (hx : xs[k1]? = none) (hy : ys[k2]? = none)
    (hE : ∀ h' e, (∀ c o, c ≠ z → c ≠ TO → c ≠ i1 → c ≠ i2 → s.heap.get? c = some o → h'.get? c = some o) → (∃ o, h'.get? e = some o ∧ o.cls = .type "StopIteration") → E (.ref e) { s with heap := h' }) :
    wpAny (model prog w) A (Builtin.«zip.__next__» ⟨[.ref z], []⟩) Q E s := by
  show wpAny _ _ (field (.ref z) 2 >>= _) _ _ _
  refine wpAny_bind (wpAny_field hz rfl (x := .bool true) rfl ?_)
  show wpAny _ _ (field (.ref z) 3 >>= _) _ _ _
  refine wpAny_bind (wpAny_field hz rfl (x := .ref TI) rfl ?_)
  refine wpAny_bind (wpAny_seqItems hTI rfl ?_)
  show wpAny _ _ (Builtin.SmallTypes.ownedTupleIsFree (.ref z) >>= _) _ _ _
  refine wpAny_bind ?_
  unfold Builtin.SmallTypes.ownedTupleIsFree
  refine wpAny_bind (wpAny_field hz rfl (x := .none) rfl (wpAny_pure ?_))
  simp only [if_true]
  refine wpAny_bind (wpAny_rule ?_)
  refine wpAny_bind (wpAny_field hz rfl (x := .ref TO) rfl ?_)
  refine wpAny_bind (wpAny_setField_rec hz (by simp) fun h₁ hz₁ hs₁ => ?_)
  replace hz₁ : ZipAt true h₁ z TI TO .ellipsis := hz₁
  refine wpAny_bind ?_
  simp only [List.zipIdx_cons, List.zipIdx_nil, List.forIn_cons, List.forIn_nil]
  refine wpAny_bind (wpAny_bind (wpAny_onRaise ?_))
  show wpAny _ _ (Builtin.SmallTypes.nextOrEnd (.ref i1)) _ _ _
  refine orEnd_end t1 hh (h1.ext hs₁.extBut D.i1z) (hl1.ext hs₁.extBut D.l1z) hx fun h₂ hs₂ => ?_
  have hz₂ : ZipAt true h₂ z TI TO .ellipsis := hs₂ _ _ D.i1z.symm hz₁
  refine wpAny_bind (wpAny_setField_rec hz₂ (by simp) fun h₃ hz₃ hs₃ => ?_)
  refine wpAny_bind ?_
  show wpAny _ _ (forIn [(Value.ref i2, 1)] PUnit.unit _ >>= _) _ _ _
  simp only [List.forIn_cons, List.forIn_nil]
  refine wpAny_bind (wpAny_bind ?_)
  refine wpAny_bind (orEnd_end t2 hh (((h2.ext hs₁.extBut D.i2z).ext hs₂ D.i12.symm).ext hs₃.extBut D.i2z) (((hl2.ext hs₁.extBut D.l2z).ext hs₂ D.l2i1).ext hs₃.extBut D.l2z) hy fun h₄ hs₄ => ?_)
  rw [if_neg (by simp)]
  refine wpAny_pure (wpAny_pure (wpAny_bind (wpAny_rule ?_)))
  show wpAny _ _ (newExc (.type "StopIteration") [] >>= _) _ _ _
  refine wpAny_bind ?_
  simp only [newExc, newTuple]
  refine wpAny_bind (wpAny_newObj_type ?_ (by size_fits))
  refine wpAny_bind (m := firstArgMember _ _) (wpAny_of_eq (a := Value.none) (by first | rfl | (simp only [firstArgMember]; rfl)) ?_)
  refine wpAny_newObj_type ?_ (by size_fits)
  simp only [raiseNew]
  refine wpAny_bind (wpAny_handled ?_)
  rw [hh]
  refine wpAny_bind (wpAny_pure (wpAny_throw ?_))
  refine hE _ _ (fun c o c1 c2 c3 c4 e => ?_) ⟨_, Heap.get?_push_size _ rfl, rfl⟩
  exact Heap.get?_push_of_some _ (Heap.get?_push_of_some _ (hs₄ _ _ c4 (hs₃.extBut _ _ c1 (hs₂ _ _ c3 (hs₁.extBut _ _ c1 e)))))
theorem pyNext_item {z TI TO i1 i2 l1 l2 : Addr} {k1 k2 : Nat} {xs ys : Array Value} {x y a b : Value} {Q : Option Value → Shared → Prop} (sb t1 t2 : Bool) (D : ZipApart z TI TO i1 i2 l1 l2)
    (hz : ZipAt sb s.heap z TI TO .none) (hTI : IsPair s.heap TI (.ref i1) (.ref i2)) (hTO : IsPair s.heap TO a b)
    (h1 : ItAt t1 s.heap i1 l1 k1) (h2 : ItAt t2 s.heap i2 l2 k2) (hl1 : SqAt t1 s.heap l1 xs) (hl2 : SqAt t2 s.heap l2 ys) (hx : xs[k1]? = some x) (hy : ys[k2]? = some y)
    (hQ : ∀ h', ZipAt sb h' z TI TO (rawInt s.heap.objs.size) → IsPair h' TO x y → ItAt t1 h' i1 l1 (k1 + 1) → ItAt t2 h' i2 l2 (k2 + 1) → IsPair h' s.heap.objs.size x y → h'.objs.size = s.heap.objs.size + 1 →
      (∀ c o, c ≠ z → c ≠ TO → c ≠ i1 → c ≠ i2 → s.heap.get? c = some o → h'.get? c = some o) → Q (some (.ref s.heap.objs.size)) { s with heap := h' }) :
    wpAny (model prog w) A (pyNext (.ref z)) Q E s := by
  have hT : s.TypeIs (.ref z) "zip" := ⟨_, hz, rfl⟩
  unfold pyNext
  exact wpAny_bind (wpAny_attempt (wpAny_callSpecial?_slot (name := Str.ofString "__next__") hT F.slot_zip_next
    (wpAny_call_entry F.slot_zip_next hT F.entry_zip_next
      (zip_item sb t1 t2 D hz hTI hTO h1 h2 hl1 hl2 hx hy fun h' a1 a2 a3 a4 a5 a6 a7 => wpAny_pure (hQ h' a1 a2 a3 a4 a5 a6 a7)) (F.args_zip_next_1 _))))
theorem pyNext_end {z TI TO i1 i2 l1 l2 : Addr} {k1 k2 : Nat} {xs ys : Array Value} {a b : Value} {Q : Option Value → Shared → Prop} (sb t1 t2 : Bool) (hh : A.handled = none) (D : ZipApart z TI TO i1 i2 l1 l2)
    (hz : ZipAt sb s.heap z TI TO .none) (hTI : IsPair s.heap TI (.ref i1) (.ref i2)) (hTO : IsPair s.heap TO a b)
    (h1 : ItAt t1 s.heap i1 l1 k1) (h2 : ItAt t2 s.heap i2 l2 k2) (hl1 : SqAt t1 s.heap l1 xs) (hl2 : SqAt t2 s.heap l2 ys) (hend : if sb = true then xs[k1]? = none ∧ ys[k2]? = none else xs[k1]? = none ∨ ys[k2]? = none)
    (hQ : ∀ h', (∀ c o, c ≠ z → c ≠ TO → c ≠ i1 → c ≠ i2 → s.heap.get? c = some o → h'.get? c = some o) → Q none { s with heap := h' }) : wpAny (model prog w) A (pyNext (.ref z)) Q E s := by
  have hT : s.TypeIs (.ref z) "zip" := ⟨_, hz, rfl⟩
  unfold pyNext
  have fin : ∀ h' e, (∀ c o, c ≠ z → c ≠ TO → c ≠ i1 → c ≠ i2 → s.heap.get? c = some o → h'.get? c = some o) → (∃ o, h'.get? e = some o ∧ o.cls = .type "StopIteration") →
      wpAny (model prog w) A (isInstance (.ref e) (.type "StopIteration") >>= fun b => if b = true then pure none else throw (.ref e)) Q E { s with heap := h' } := fun h' e hk he => by
    obtain ⟨o, ho, hc⟩ := he
    refine wpAny_bind (wpAny_isInstance (T := "StopIteration") (b := true) ⟨o, ho, hc⟩ isSubtype_stop ?_)
    exact wpAny_pure (hQ _ hk)
  cases sb with
  | true =>
    exact wpAny_bind (wpAny_attempt (wpAny_callSpecial?_slot (name := Str.ofString "__next__") hT F.slot_zip_next
      (wpAny_call_entry F.slot_zip_next hT F.entry_zip_next (zip_endS t1 t2 hh D hz hTI hTO h1 h2 hl1 hl2 hend.1 hend.2 fun h' e hk he => fin h' e hk he) (F.args_zip_next_1 _))))
  | false =>
    exact wpAny_bind (wpAny_attempt (wpAny_callSpecial?_slot (name := Str.ofString "__next__") hT F.slot_zip_next
      (wpAny_call_entry F.slot_zip_next hT F.entry_zip_next (zip_end t1 t2 hh D hz hTI hTO h1 h2 hl1 hl2 hend fun h' e hk he => fin h' e hk he) (F.args_zip_next_1 _))))
theorem letGo_zip {st : Bool} {elts : List Expr} {x1} {pos : Pos} {z TI TO T : Addr} {Q : Unit → Shared → Prop} (hz : ZipAt st s.heap z TI TO (rawInt T))
    (hQ : ∀ h', ZipAt st h' z TI TO .none → Heap.SameBut z s.heap h' → Q () { s with heap := h' }) :
    wpAny (model prog w) A (letOwnedTupleGo (.Tuple elts x1 pos) (.ref z) (.ref T)) Q E s := by
  unfold letOwnedTupleGo
  refine wpAny_bind (wpAny_load hz ?_)
  show wpAny _ _ (if (["enumerate", "zip", "dict_itemiterator", "dict_reverseitemiterator", "odict_iterator", "itertools.zip_longest", "itertools.pairwise"].contains "zip" &&
      (#[rawInt T, .bool false, .bool st, .ref TI, .ref TO] : Array Value)[0]? == some (rawInt T)) = true then _ else _) Q E s
  rw [if_pos (by simp)]
  refine wpAny_bind (wpAny_rule ?_)
  show wpAny _ _ (setField (.ref z) 0 .none) Q E s
  exact wpAny_setField_rec hz (by simp) fun h' hz' hs' => hQ h' hz' hs'
theorem pyIter_zip {st : Bool} {z TI TO : Addr} {f0 : Value} {Q : Value → Shared → Prop} (hz : ZipAt st s.heap z TI TO f0) (h : Q (.ref z) s) : wpAny (model prog w) A (pyIter (.ref z)) Q E s := by
  have hT : s.TypeIs (.ref z) "zip" := ⟨_, hz, rfl⟩
  refine wpAny_pyIter_slot hT F.slot_zip_iter (wpAny_call_entry F.slot_zip_iter hT F.entry_zip_iter ?_ (F.args_zip_iter_1 _))
  show wpAny _ _ (ret (.ref z)) _ _ s
  exact wpAny_pure ⟨_, rfl, "zip", _, hT, F.slot_zip_next.lookup, h⟩
/-- a new iterator -/
def itO : Bool → Addr → Obj
  | true, l => { cls := .type "tuple_iterator", data := .fields #[.ref l, .int 0 0] }
  | false, l => { cls := .type "list_iterator", data := .fields #[.ref l, .int 0 0] }
theorem pyIter_seq {t : Bool} {l : Addr} {xs : Array Value} {Q : Value → Shared → Prop} (hl : SqAt t s.heap l xs) (h : Q (.ref s.heap.objs.size) { s with heap := s.heap.push (itO t l) }) : wpAny (model prog w) A (pyIter (.ref l)) Q E s := by
  cases t with
  | true => exact wpAny_pyIter_tuple hl h
  | false => exact wpAny_pyIter_list hl h
end
abbrev zH1 (h : Heap) (t1 : Bool) (l1 : Addr) : Heap := h.push (itO t1 l1)
abbrev zH2 (h : Heap) (t1 t2 : Bool) (l1 l2 : Addr) : Heap := (zH1 h t1 l1).push (itO t2 l2)
abbrev zH3 (h : Heap) (t1 t2 : Bool) (l1 l2 : Addr) : Heap := (zH2 h t1 t2 l1 l2).push { cls := .type "tuple", data := .seq #[.ref h.objs.size, .ref (zH1 h t1 l1).objs.size] }
abbrev zH4 (h : Heap) (t1 t2 : Bool) (l1 l2 : Addr) : Heap := (zH3 h t1 t2 l1 l2).push { cls := .type "tuple", data := .seq #[.none, .none] }
abbrev zH5 (sb : Bool) (h : Heap) (t1 t2 : Bool) (l1 l2 : Addr) : Heap := (zH4 h t1 t2 l1 l2).push { cls := .type "zip", data := .fields #[.none, .bool false, .bool sb, .ref (zH2 h t1 t2 l1 l2).objs.size, .ref (zH3 h t1 t2 l1 l2).objs.size] }
theorem meets_zip0 (t1 t2 : Bool) (l1 l2 : Addr) (xs ys : Array Value) :
    Meets (Builtin.«zip.__new__» ⟨[.type "zip", .ref l1, .ref l2], []⟩) (fun _ R s => SqAt t1 s.heap l1 xs ∧ SqAt t2 s.heap l2 ys ∧
      R (.ok (.ret (.ref (zH4 s.heap t1 t2 l1 l2).objs.size))) { s with heap := zH5 false s.heap t1 t2 l1 l2 }) :=
  .of_wp fun prog w A R s h => by
    obtain ⟨hp, g, d, tk, os⟩ := s; obtain ⟨hl1, hl2, h⟩ := h
    have hsub := sub_zip
    have hL1 : SqAt t1 (Shared.heap ⟨hp, g, d, tk, os⟩) l1 xs := hl1
    have hL2 : SqAt t2 (Shared.heap ⟨hp.push (itO t1 l1), g, d, tk, os⟩) l2 ys := hl2.at fun o e => Heap.get?_push_of_some _ e
    wp_walk using pyIter_seq hL1, pyIter_seq hL2
    exact ⟨_, rfl, h⟩
theorem meets_zipS (b t1 t2 : Bool) (l1 l2 : Addr) (xs ys : Array Value) :
    Meets (Builtin.«zip.__new__» ⟨[.type "zip", .ref l1, .ref l2], [(Str.ofString "strict", .bool b)]⟩) (fun _ R s => SqAt t1 s.heap l1 xs ∧ SqAt t2 s.heap l2 ys ∧
      R (.ok (.ret (.ref (zH4 s.heap t1 t2 l1 l2).objs.size))) { s with heap := zH5 b s.heap t1 t2 l1 l2 }) :=
  .of_wp fun prog w A R s h => by
    obtain ⟨hp, g, d, tk, os⟩ := s; obtain ⟨hl1, hl2, h⟩ := h
    have hsub := sub_zip
    have hL1 : SqAt t1 (Shared.heap ⟨hp, g, d, tk, os⟩) l1 xs := hl1
    have hL2 : SqAt t2 (Shared.heap ⟨hp.push (itO t1 l1), g, d, tk, os⟩) l2 ys := hl2.at fun o e => Heap.get?_push_of_some _ e
    have e2 : (Str.ofString "strict" != ("strict" : Str)) = false := by decide +kernel
    wp_walk using pyIter_seq hL1, pyIter_seq hL2
    exact ⟨_, rfl, h⟩
theorem typeCall_zipS (a b v : Value) : checkTypeCall "zip" ⟨[a, b], [(Str.ofString "strict", v)]⟩ = pure () := by kernel_rfl
theorem newCall_zipS (a b v : Value) : checkBuiltinCall "zip.__new__" ⟨[.type "zip", a, b], [(Str.ofString "strict", v)]⟩ = pure () := by kernel_rfl
theorem args_object_initS (obj a b v : Value) : argsOk "object.__init__" ⟨[obj, a, b], [(Str.ofString "strict", v)]⟩ := by unfold argsOk; kernel_rfl
section
variable {prog : Program} {w : World} {A : Around} {E : Value → Shared → Prop} {s : Shared}
theorem zH_facts (sb : Bool) (h : Heap) (t1 t2 : Bool) (l1 l2 : Addr) {P : Addr → Heap → Prop}
    (q : ∀ h', ZipAt sb h' (h.objs.size + 4) (h.objs.size + 2) (h.objs.size + 3) .none → IsPair h' (h.objs.size + 2) (.ref h.objs.size) (.ref (h.objs.size + 1)) →
      IsPair h' (h.objs.size + 3) .none .none → ItAt t1 h' h.objs.size l1 0 → ItAt t2 h' (h.objs.size + 1) l2 0 → h'.objs.size = h.objs.size + 5 →
      (∀ c o, h.get? c = some o → h'.get? c = some o) → P (h.objs.size + 4) h') : (∃ o, (zH5 sb h t1 t2 l1 l2).get? (zH4 h t1 t2 l1 l2).objs.size = some o ∧ o.cls = .type "zip") ∧ P (zH4 h t1 t2 l1 l2).objs.size (zH5 sb h t1 t2 l1 l2) := by
  have z1 : (zH1 h t1 l1).objs.size = h.objs.size + 1 := Heap.size_push ..
  have z2 : (zH2 h t1 t2 l1 l2).objs.size = h.objs.size + 2 := by rw [Heap.size_push, z1]
  have z3 : (zH3 h t1 t2 l1 l2).objs.size = h.objs.size + 3 := by rw [Heap.size_push, z2]
  have z4 : (zH4 h t1 t2 l1 l2).objs.size = h.objs.size + 4 := by rw [Heap.size_push, z3]
  have z5 : (zH5 sb h t1 t2 l1 l2).objs.size = h.objs.size + 5 := by rw [Heap.size_push, z4]
  have f1 : (itO t1 l1).isFreed = false := by cases t1 <;> rfl
  have f2 : (itO t2 l2).isFreed = false := by cases t2 <;> rfl
  have g5 : (zH5 sb h t1 t2 l1 l2).get? (zH4 h t1 t2 l1 l2).objs.size = some _ := Heap.get?_push_size _ rfl
  have g4 : (zH5 sb h t1 t2 l1 l2).get? (zH3 h t1 t2 l1 l2).objs.size = some _ := Heap.get?_push_of_some _ (Heap.get?_push_size _ rfl)
  have g3 : (zH5 sb h t1 t2 l1 l2).get? (zH2 h t1 t2 l1 l2).objs.size = some _ := Heap.get?_push_of_some _ (Heap.get?_push_of_some _ (Heap.get?_push_size _ rfl))
  have g2 : (zH5 sb h t1 t2 l1 l2).get? (zH1 h t1 l1).objs.size = some (itO t2 l2) := Heap.get?_push_of_some _ (Heap.get?_push_of_some _ (Heap.get?_push_of_some _ (Heap.get?_push_size _ f2)))
  have g1 : (zH5 sb h t1 t2 l1 l2).get? h.objs.size = some (itO t1 l1) := Heap.get?_push_of_some _ (Heap.get?_push_of_some _ (Heap.get?_push_of_some _ (Heap.get?_push_of_some _ (Heap.get?_push_size _ f1))))
  rw [z2, z3, z4] at g5
  rw [z1, z2] at g3
  rw [z3] at g4
  rw [z1] at g2
  rw [z4]
  have i1 : ItAt t1 (zH5 sb h t1 t2 l1 l2) h.objs.size l1 0 := by
    cases t1 with
    | true => exact ⟨_, g1, rfl, rfl⟩
    | false => exact ⟨_, g1, rfl, rfl⟩
  have i2 : ItAt t2 (zH5 sb h t1 t2 l1 l2) (h.objs.size + 1) l2 0 := by
    cases t2 with
    | true => exact ⟨_, g2, rfl, rfl⟩
    | false => exact ⟨_, g2, rfl, rfl⟩
  exact ⟨⟨_, g5, rfl⟩, q _ g5 g3 g4 i1 i2 z5 fun c o x =>
    Heap.get?_push_of_some _ (Heap.get?_push_of_some _ (Heap.get?_push_of_some _ (Heap.get?_push_of_some _ (Heap.get?_push_of_some _ x))))⟩
theorem call_zip {t1 t2 : Bool} {l1 l2 : Addr} {xs ys : Array Value} {Q : Value → Shared → Prop} (hl1 : SqAt t1 s.heap l1 xs) (hl2 : SqAt t2 s.heap l2 ys)
    (h : ∀ h', ZipAt false h' (s.heap.objs.size + 4) (s.heap.objs.size + 2) (s.heap.objs.size + 3) .none → IsPair h' (s.heap.objs.size + 2) (.ref s.heap.objs.size) (.ref (s.heap.objs.size + 1)) →
      IsPair h' (s.heap.objs.size + 3) .none .none → ItAt t1 h' s.heap.objs.size l1 0 → ItAt t2 h' (s.heap.objs.size + 1) l2 0 → h'.objs.size = s.heap.objs.size + 5 →
      (∀ c o, s.heap.get? c = some o → h'.get? c = some o) → Q (.ref (s.heap.objs.size + 4)) { s with heap := h' }) :
    wpAny (model prog w) A (call (.type "zip") [.ref l1, .ref l2]) Q E s :=
  callType_new F.called_zip (by decide) (F.typeCall_zip_2 _ _) (F.newCall_zip_2 _ _) (fun obj => F.args_object_init_3 obj _ _) F.entry_zip_new
    (meets_zip0 t1 t2 l1 l2 xs ys) ⟨hl1, hl2, zH_facts false s.heap t1 t2 l1 l2 (P := fun a h' => Q (.ref a) { s with heap := h' }) h⟩
theorem call_zipS {b t1 t2 : Bool} {l1 l2 : Addr} {xs ys : Array Value} {Q : Value → Shared → Prop} (hl1 : SqAt t1 s.heap l1 xs) (hl2 : SqAt t2 s.heap l2 ys)
    (h : ∀ h', ZipAt b h' (s.heap.objs.size + 4) (s.heap.objs.size + 2) (s.heap.objs.size + 3) .none → IsPair h' (s.heap.objs.size + 2) (.ref s.heap.objs.size) (.ref (s.heap.objs.size + 1)) →
      IsPair h' (s.heap.objs.size + 3) .none .none → ItAt t1 h' s.heap.objs.size l1 0 → ItAt t2 h' (s.heap.objs.size + 1) l2 0 → h'.objs.size = s.heap.objs.size + 5 →
      (∀ c o, s.heap.get? c = some o → h'.get? c = some o) → Q (.ref (s.heap.objs.size + 4)) { s with heap := h' }) :
    wpAny (model prog w) A (call (.type "zip") [.ref l1, .ref l2] [(Str.ofString "strict", .bool b)]) Q E s :=
  callType_newKw F.called_zip (by decide) (typeCall_zipS _ _ _) (newCall_zipS _ _ _) (fun obj => args_object_initS obj _ _ _) F.entry_zip_new
    (meets_zipS b t1 t2 l1 l2 xs ys) ⟨hl1, hl2, zH_facts b s.heap t1 t2 l1 l2 (P := fun a h' => Q (.ref a) { s with heap := h' }) h⟩
end
/-! ### the walk -/
def SqV (t : Bool) (K : PySem.W.Frag) (H : Hp) (a : Addr) (xs : List V) : Prop := match t with
  | true => SqT K H a xs
  | false => SqL K H a xs
theorem sq_at {X : Cx} {t : Bool} {pins : List (Addr × Obj)} {σ : L2.St} {H : Hp} {s : Shared} {a : Addr} {xs : List V} (I : Inv X pins σ H s) (h : SqV t X.K H a xs) : ∃ its : List Value, Vals xs its ∧ SqAt t s.heap a its.toArray ∧ xs.length ≤ sizeLine := by
  cases t with
  | true =>
    obtain ⟨its, r, p, z⟩ := I.tuple h
    exact ⟨its, r, p, z⟩
  | false =>
    obtain ⟨its, r, p, z⟩ := I.list h
    exact ⟨its, r, p.isList, z⟩
theorem sq_inj {X : Cx} {t : Bool} {pins : List (Addr × Obj)} {σ : L2.St} {H : Hp} {s : Shared} {a : Addr} {xs ys : List V} (I : Inv X pins σ H s) (h : SqV t X.K H a xs) (h' : SqV t X.K H a ys) : xs = ys := by
  cases t with
  | true => exact I.tuple_inj h h'
  | false => exact I.list_inj h h'
def ItZ (sb t1 t2 : Bool) (K : PySem.W.Frag) (a b : Addr) : It :=
  ⟨fun i H => ∃ (xs ys : List V) (x y : V), SqV t1 K H a xs ∧ SqV t2 K H b ys ∧ xs[i]? = some x ∧ ys[i]? = some y,
    fun i H v H' => ∃ T x y, v = .ref T ∧ H T = none ∧ H' = upd H T (.tup [x, y]) ∧ (∀ xs, SqV t1 K H a xs → xs[i]? = some x) ∧ ∀ ys, SqV t2 K H b ys → ys[i]? = some y,
    fun i H => ∃ xs ys : List V, SqV t1 K H a xs ∧ SqV t2 K H b ys ∧ if sb = true then xs.length ≤ i ∧ ys.length ≤ i else xs.length ≤ i ∨ ys.length ≤ i⟩
theorem turn_zipU {P : Program} {w : World} {K : PySem.W.Frag} {elts : List Expr} {kk : Nat} {tpos : Pos} {a b z TI TO i1 i2 : Addr} (sb t1 t2 : Bool) (D : ZipApart z TI TO i1 i2 a b) :
    Turn P w K (.Tuple elts kk tpos) (ItZ sb t1 t2 K a b) [z, TI, TO, i1, i2] z (fun i h => ZipAt sb h z TI TO .none ∧ IsPair h TI (.ref i1) (.ref i2) ∧ (∃ x y, IsPair h TO x y) ∧ ItAt t1 h i1 a i ∧ ItAt t2 h i2 b i) where
  mem := by simp
  obj := fun i h st c hc => by
    obtain ⟨hz, hTI, ⟨x, y, hTO⟩, h1, h2⟩ := st
    obtain ⟨o1, e1, d1⟩ := h1.obj
    obtain ⟨o2, e2, d2⟩ := h2.obj
    have e' : c = z ∨ c = TI ∨ c = TO ∨ c = i1 ∨ c = i2 := by simpa using hc
    rcases e' with q | q | q | q | q
    · rw [q]; exact ⟨_, hz, fun v q => nomatch q⟩
    · rw [q]; exact ⟨_, hTI, fun v q => nomatch q⟩
    · rw [q]; exact ⟨_, hTO, fun v q => nomatch q⟩
    · rw [q]; exact ⟨o1, e1, fun v q => by rw [d1] at q; cases q⟩
    · rw [q]; exact ⟨o2, e2, fun v q => by rw [d2] at q; cases q⟩
  keep := fun i h h' st k => by
    obtain ⟨hz, hTI, ⟨x, y, hTO⟩, h1, h2⟩ := st
    exact ⟨k z (by simp) _ hz, k TI (by simp) _ hTI, ⟨x, y, k TO (by simp) _ hTO⟩, h1.at fun o q => k i1 (by simp) o q, h2.at fun o q => k i2 (by simp) o q⟩
  item := by
    intro X hP hw hK hc i pins s σ H E I hf st hg
    subst hP hw hK
    obtain ⟨hz, hTI, ⟨x0, y0, hTO⟩, h1, h2⟩ := st
    obtain ⟨xs, ys, x, y, hqx, hqy, hx, hy⟩ := hg
    obtain ⟨its, rv, p, _⟩ := sq_at I hqx
    obtain ⟨its2, rv2, p2, _⟩ := sq_at I hqy
    obtain ⟨u, hu, ru⟩ := rv.get hx
    obtain ⟨u2, hu2, ru2⟩ := rv2.get hy
    have hzl : z < s.heap.objs.size := Heap.lt_size hz
    refine pyNext_item sb t1 t2 D hz hTI hTO h1 h2 p p2 (x := u) (y := u2) (by simpa using hu) (by simpa using hu2) fun h' z' TO' h1' h2' hT hsz hk => ?_
    refine ⟨_, rfl, letGo_zip (s := { s with heap := h' }) z' fun h'' z'' sb' => ?_⟩
    have hT2 : h''.get? s.heap.objs.size = some { cls := .type "tuple", data := .seq #[u, u2] } := (sb'.2 _ (Nat.ne_of_gt hzl)).trans hT
    have new : ObjOk X.prog X.w (upd H s.heap.objs.size (.tup [x, y])) h'' s.heap.objs.size (.tup [x, y]) :=
      ⟨by show 2 ≤ sizeLine; decide, [u, u2], .cons ru (.cons ru2 .nil), ⟨_, hT2, rfl, _, rfl⟩⟩
    have I1 : Inv X pins σ (upd H s.heap.objs.size (.tup [x, y])) { s with heap := h'' } :=
      I.turnedNew (t' := s.toks) (ch := [z, TI, TO, i1, i2]) (fun c o hb q => (sb'.2 c (fun q' => hb (by simp [q']))).trans (hk c o (fun q' => hb (by simp [q'])) (fun q' => hb (by simp [q'])) (fun q' => hb (by simp [q'])) (fun q' => hb (by simp [q'])) q)) hf (Nat.le_refl _) new
    refine ⟨.ref s.heap.objs.size, _, I1, rfl, ⟨_, x, y, rfl, I.hok.fresh (Nat.le_refl _), rfl, fun l hl => by rw [sq_inj I hl hqx]; exact hx, fun l hl => by rw [sq_inj I hl hqy]; exact hy⟩, ⟨z'', ?_, ⟨u, u2, ?_⟩, ?_, ?_⟩, fun c hcm => ?_⟩
    · exact (sb'.2 _ D.TIz).trans (hk _ _ D.TIz D.TITO D.TIi1 D.TIi2 hTI)
    · exact (sb'.2 _ D.TOz).trans TO'
    · exact h1'.at fun o q => (sb'.2 _ D.i1z).trans q
    · exact h2'.at fun o q => (sb'.2 _ D.i2z).trans q
    · have hlt : c < s.heap.objs.size := by
        have e' : c = z ∨ c = TI ∨ c = TO ∨ c = i1 ∨ c = i2 := by simpa using hcm
        rcases e' with q | q | q | q | q
        · rw [q]; exact hzl
        · rw [q]; exact Heap.lt_size hTI
        · rw [q]; exact Heap.lt_size hTO
        · rw [q]; exact h1.lt
        · rw [q]; exact h2.lt
      rw [upd_ne (Nat.ne_of_lt hlt)]
      exact (hf c hcm).1
  done := by
    intro X hP hw hK hc i pins s σ H E I hf st hg
    subst hP hw hK
    obtain ⟨hz, hTI, ⟨x0, y0, hTO⟩, h1, h2⟩ := st
    obtain ⟨xs, ys, hqx, hqy, hend⟩ := hg
    obtain ⟨its, rv, p, _⟩ := sq_at I hqx
    obtain ⟨its2, rv2, p2, _⟩ := sq_at I hqy
    have l1 := rv.length
    have l2 := rv2.length
    have he : if sb = true then its.toArray[i]? = none ∧ its2.toArray[i]? = none else its.toArray[i]? = none ∨ its2.toArray[i]? = none := by
      cases sb with
      | true =>
        rw [if_pos rfl] at hend ⊢
        exact ⟨by simp; omega, by simp; omega⟩
      | false =>
        rw [if_neg Bool.false_ne_true] at hend ⊢
        rcases hend with q | q
        · exact .inl (by simp; omega)
        · exact .inr (by simp; omega)
    exact pyNext_end sb t1 t2 (I.ok.hd hc) D hz hTI hTO h1 h2 p p2 he fun h' hk => ⟨rfl, I.turnedL (t' := s.toks) (ch := [z, TI, TO, i1, i2]) (fun c o hb q =>
      hk c o (fun q' => hb (by simp [q'])) (fun q' => hb (by simp [q'])) (fun q' => hb (by simp [q'])) (fun q' => hb (by simp [q'])) q) hf⟩
  self := fun A i s Q E st h => pyIter_zip st.1 h
theorem fresh5 {X : Cx} {pins : List (Addr × Obj)} {σ : L2.St} {H : Hp} {s : Shared} (I : Inv X pins σ H s) : ∀ c, c ∈ [s.heap.objs.size + 4, s.heap.objs.size + 2, s.heap.objs.size + 3, s.heap.objs.size, s.heap.objs.size + 1] → FpOk X pins H c := fun c hcm => by
  have e' : c = s.heap.objs.size + 4 ∨ c = s.heap.objs.size + 2 ∨ c = s.heap.objs.size + 3 ∨ c = s.heap.objs.size ∨ c = s.heap.objs.size + 1 := by simpa using hcm
  have hle : s.heap.objs.size ≤ c := by
    rcases e' with z | z | z | z | z <;> (rw [z]; first | exact Nat.le_add_right _ _ | exact Nat.le_refl _)
  exact I.fpOk hle (I.hok.fresh hle)
def iZipU (sb : Bool) (K : PySem.W.Frag) (ta : TA) : TI := fun σ H R => ta σ H fun vs H1 => ∃ t1 t2 a b xs ys, vs = [.ref a, .ref b] ∧ SqV t1 K H1 a xs ∧ SqV t2 K H1 b ys ∧ R (ItZ sb t1 t2 K a b) H1
section
variable {X : Cx} {e e2 : Expr} {ta tk : TA} {p pos tpos : Pos} {elts : List Expr} {kk : Nat}
theorem pi_zipU (hg : Gl X "zip") (hm : X.mg "zip" = none) (ha : PA X [e, e2] ta) (hs : starEach [e, e2] X.env = (false, eval e X.env) :: starEach [e2] X.env) (hpl : (backTo pos (starEach [e2] X.env)).any (·.1) = false) :
    PI X (.Tuple elts kk tpos) (.Call (.Name "zip" p) [e, e2] [] pos) (iZipU false X.K ta) := by
  refine ⟨fun pins s σ H R I h => ?_⟩
  refine Call_ (ld_blt I hg hm PyProof.Rows.boot_zip (PyProof.Rows.callWith_type1 (thn (ha.run pos pins s σ H _ I h) fun us s1 ⟨vs, H1, I1, r1, q1⟩ => ?_) hs hpl))
  obtain ⟨t1, t2, a, b, xs, ys, ex, hqx, hqy, q⟩ := q1
  subst ex
  obtain ⟨u1, u2, rfl, r, r'⟩ := r1.two
  cases r
  cases r'
  obtain ⟨its, rv, p1, _⟩ := sq_at I1 hqx
  obtain ⟨its2, rv2, p2, _⟩ := sq_at I1 hqy
  refine call_zip p1 p2 fun h' hz hTI hTO h1 h2 hsz hk => pyIter_zip hz ?_
  have I2 : Inv X pins σ H1 { s1 with heap := h' } := I1.kept (t' := s1.toks) hk
  exact ⟨s1.heap.objs.size + 4, [s1.heap.objs.size + 4, s1.heap.objs.size + 2, s1.heap.objs.size + 3, s1.heap.objs.size, s1.heap.objs.size + 1], _, _, H1, rfl, I2, turn_zipU false t1 t2 (PySem.W.ktu_apart s1.heap.objs.size a b p1.lt p2.lt), ⟨hz, hTI, ⟨_, _, hTO⟩, h1, h2⟩, fresh5 I1, q⟩
theorem callWith_tyKw {M : Model} {A : Around} {E : Value → Shared → Prop} {s : Shared} {env : PySem.Env} {pos : Pos} {T : String} {e : Expr} {rest : List Expr} {kws : List Keyword} {Q : Value → Shared → Prop}
    (h : wpAny M A (spliced (backTo pos (starEach (e :: rest) env))) (fun vs s₁ => wpAny M A (evalAll ((backToKw pos (keywordEach kws env)).map (·.2)))
      (fun kvs s₂ => wpAny M A (call (.type T) vs (((backToKw pos (keywordEach kws env)).filterMap (·.1)).zip kvs)) Q E s₂) E s₁) E s)
    (he : backTo pos (starEach (e :: rest) env) = (false, eval e env) :: backTo pos (starEach rest env)) (hplain : (backTo pos (starEach (e :: rest) env)).any (·.1) = false)
    (hall : (backToKw pos (keywordEach kws env)).all (·.1.isSome) = true) (hkw : (backToKw pos (keywordEach kws env)).any (·.1.isNone) = false) :
    wpAny M A (callWith pos (.type T) [] (backTo pos (starEach (e :: rest) env)) (backToKw pos (keywordEach kws env))) Q E s := by
  unfold callWith
  have h2 : wpAny M A (evalArgs (.type T) true (backTo pos (starEach (e :: rest) env)) (backToKw pos (keywordEach kws env))) (fun a s₁ => wpAny M A (call (.type T) ([] ++ a.pos) a.kw) Q E s₁) E s := by
    rw [he] at h ⊢
    exact PyProof.Rows.evalArgs_kwB hall h
  refine wpAny_bind (wpAny_holding (wpAny_mono h2 (fun a s₁ h₁ => wpAny_bind (wpAny_standAt ?_)) fun _ _ x => x))
  simp only [hplain, hkw, Bool.or_false]
  refine wpAny_bind (wpAny_pure ?_)
  exact wpAny_bind (wpAny_mono h₁ (fun r s₂ hr => wpAny_bind (wpAny_holding (wpAny_point (wpAny_pure hr)))) fun _ _ x => x)
/-- zip(x, y, strict=True) -/
theorem pi_zipK {c : Nat} {kp cp : Pos} (hg : Gl X "zip") (hm : X.mg "zip" = none) (ha : PA X [e, e2] ta) (he : backTo pos (starEach [e, e2] X.env) = (false, eval e X.env) :: backTo pos (starEach [e2] X.env)) (hplain : (backTo pos (starEach [e, e2] X.env)).any (·.1) = false) :
    PI X (.Tuple elts kk tpos) (.Call (.Name "zip" p) [e, e2] [⟨some "strict", .Constant (.bool true) c cp, kp⟩] pos) (iZipU true X.K ta) := by
  refine ⟨fun pins s σ H R I h => ?_⟩
  have hk : PK X [⟨some "strict", .Constant (.bool true) c cp, kp⟩] (tCons (tC (.bl true)) tNil) := pk_cons pe_bl pk_nil
  refine wpAny_Call_Name_kw (ld_blt I hg hm PyProof.Rows.boot_zip ?_)
  refine callWith_tyKw (thn (ha.run pos pins s σ H _ I h) fun us s1 ⟨vs, H1, I1, r1, q1⟩ => ?_) he hplain rfl rfl
  refine thn (hk.run pos pins s1 σ H1 (fun zs H2 => zs = [.bl true] ∧ H2 = H1) I1 ⟨rfl, rfl⟩) fun ws s2 ⟨zs, H2, I2, r2, ez, eH⟩ => ?_
  subst ez eH
  obtain ⟨w1, rfl, rw1⟩ := r2.one
  obtain rfl : w1 = Value.bool true := rw1
  obtain ⟨t1, t2, a, b, xs, ys, ex, hqx, hqy, q⟩ := q1
  subst ex
  obtain ⟨u1, u2, rfl, r, r'⟩ := r1.two
  cases r
  cases r'
  obtain ⟨its, rv, p1, _⟩ := sq_at I2 hqx
  obtain ⟨its2, rv2, p2, _⟩ := sq_at I2 hqy
  show wpAny _ _ (call (.type "zip") [.ref a, .ref b] [(Str.ofString "strict", .bool true)]) _ _ _
  refine call_zipS p1 p2 fun h' hz hTI hTO h1 h2 hsz hk => pyIter_zip hz ?_
  have I3 : Inv X pins σ H2 { s2 with heap := h' } := I2.kept (t' := s2.toks) hk
  exact ⟨s2.heap.objs.size + 4, [s2.heap.objs.size + 4, s2.heap.objs.size + 2, s2.heap.objs.size + 3, s2.heap.objs.size, s2.heap.objs.size + 1], _, _, H2, rfl, I3, turn_zipU true t1 t2 (PySem.W.ktu_apart s2.heap.objs.size a b p1.lt p2.lt), ⟨hz, hTI, ⟨_, _, hTO⟩, h1, h2⟩, fresh5 I2, q⟩
end
end DL

set_option Elab.async false
set_option linter.all false
set_option maxRecDepth 100000
set_option maxHeartbeats 4000000
/-! DLS: sorted(list, tuple or dict) of data -/
namespace DL
open PySem PySem.Spec PyProof.Rows L2 PySem.W

mutual
theorem reads_there {h : Heap} : ∀ {v : Value} {d : PyData} {as : List Addr}, Reads h v d as → ∀ a ∈ as, ∃ o, h.get? a = some o
  | _, _, _, .none, a, m => by simp at m
  | _, _, _, .bool _, a, m => by simp at m
  | _, _, _, .int _ _, a, m => by simp at m
  | _, _, _, .str _ _, a, m => by simp at m
  | _, _, _, .list h1 _ _ r, a, m => by
    rcases List.mem_cons.mp m with m | m
    · exact ⟨_, m ▸ h1⟩
    · exact readsAll_there r a m
  | _, _, _, .tuple h1 _ _ r, a, m => readsAll_there r a m
  | _, _, _, .dict h1 _ _ r r2, a, m => by
    rcases List.mem_cons.mp m with m | m
    · exact ⟨_, m ▸ h1⟩
    · rcases List.mem_append.mp m with m | m
      · exact readsAll_there r a m
      · exact readsAll_there r2 a m
theorem readsAll_there {h : Heap} : ∀ {vs : List Value} {ds : List PyData} {as : List Addr}, ReadsAll h vs ds as → ∀ a ∈ as, ∃ o, h.get? a = some o
  | _, _, _, .nil, a, m => by simp at m
  | _, _, _, .cons r rs, a, m => by
    rcases List.mem_append.mp m with m | m
    · exact reads_there r a m
    · exact readsAll_there rs a m
end
section
variable {prog : Program} {w : World} {A : Around} {E : Value → Shared → Prop} {s : Shared}
theorem collect_sq {Q : List Value → Shared → Prop} (it : Addr) {T : String} {o : Obj} {items : Array Value} {n : Nat} (hT : T = "list" ∨ T = "tuple")
    (ho : s.heap.get? it = some o) (hc : o.cls = .type T) (hd : o.data = .seq items n)
    (hQ : ∀ h', (∀ b o', s.heap.get? b = some o' → h'.get? b = some o') → s.heap.objs.size ≤ h'.objs.size → Q items.toList { s with heap := h' }) (hsz : items.size ≤ sizeLine) :
    wpAny (model prog w) A (collect (.ref it)) Q E s := by
  unfold collect
  refine wpAny_bind (wpAny_runValue (codeAny_builtin PySem.F.entry_proto_collect ?_))
  rw [Around.under_plainId PySem.F.plain_proto_collect _]
  show wpAny _ A.in1 (newList [] >>= fun l => again (.builtin "list.__iadd__" ⟨[l, .ref it], []⟩)) _ _ s
  refine wpAny_bind (wpAny_newObj_type ?_)
  refine wpAny_pure ⟨plainId_quiet PySem.F.plain_list_iadd _, codeAny_builtin PySem.F.entry_list_iadd ?_⟩
  rw [Around.under_plainId PySem.F.plain_list_iadd _]
  show wpAny _ A.in1 (Builtin.List.listExtendWith (.ref s.heap.objs.size) (.ref it) (.ref s.heap.objs.size)) _ _ _
  have hS : (s.heap.push { cls := .type "list", data := .seq ([] : List Value).toArray }).get? s.heap.objs.size = some { cls := .type "list", data := .seq #[] 0 } := Heap.get?_push_size _ rfl
  have hS₂ := Heap.get?_update_self (Obj.mapSeq (· ++ items)) hS rfl
  have fin' : wpAny (model prog w) A (match Value.ref s.heap.objs.size with
      | Value.ref a => do
        match (← load a).data with
          | Data.seq xs _ => pure xs.toList
          | _ => unsupported "internal:collect"
      | _ => unsupported "internal:collect") Q E { s with heap := (s.heap.push { cls := .type "list", data := .seq ([] : List Value).toArray }).update s.heap.objs.size (Obj.mapSeq (· ++ items)) } := by
    show wpAny _ A (load s.heap.objs.size >>= _) _ _ _
    refine wpAny_bind (wpAny_load hS₂ ?_)
    refine wpAny_pure ?_
    have e : ((#[] : Array Value) ++ items).toList = items.toList := by simp
    show Q ((#[] : Array Value) ++ items).toList _
    rw [e]
    refine hQ _ (fun b o' hb => ?_) ?_
    · exact (Heap.get?_update_other _ _ (Nat.ne_of_gt (Heap.lt_size hb))).trans (Heap.get?_push_of_some _ hb)
    · exact Nat.le_of_lt (Heap.lt_size hS₂)
  refine wpAny_mono (wpAny_extend_seq (hsz := hsz) (A := A) (R := fun r s' => r = .ok (.ret (.ref s.heap.objs.size)) ∧ s' = { s with heap := (s.heap.push { cls := .type "list", data := .seq ([] : List Value).toArray }).update s.heap.objs.size (Obj.mapSeq (· ++ items)) })
    (s := { s with heap := s.heap.push { cls := .type "list", data := .seq ([] : List Value).toArray } }) _ it _ 0 hT hS (Heap.get?_push_of_some _ ho) hc hd ⟨rfl, rfl⟩) (fun fin s' h => ?_) (fun e s' h => ?_)
  · cases fin with
    | done f =>
      obtain ⟨e, rfl⟩ := h
      cases e
      exact fin'
    | again c' => exact ⟨h.1, codeAny_mono h.2 fun r s'' hr => by obtain ⟨rfl, rfl⟩ := hr; exact fin'⟩
  · exact absurd h.1 (by simp)
theorem collect_src {T : String} {r d : Addr} {n : Nat} {P : Nat → Value → Prop} {OK : Heap → Prop} {R : List Value → Shared → Prop} (K : KdlSrc prog w T r d n P OK) (hh : A.handled = none) (hok : OK s.heap) (hn : n ≤ sizeLine)
    (h : ∀ (h' : Heap) (tk : Nat) (acc : Array Value), (∀ b o, s.heap.get? b = some o → h'.get? b = some o) → s.heap.objs.size ≤ h'.objs.size → ItemsOf P acc n → R acc.toList { s with heap := h', toks := tk }) :
    wpAny (model prog w) A (collect (.ref r)) R E s := by
  have hlt := K.there _ hok
  unfold collect
  refine wpAny_bind (wpAny_runValue (codeAny_builtin entry_proto_collect' ?_))
  rw [Around.under_plainId PySem.F.plain_proto_collect _]
  show wpAny _ A.in1 (newList [] >>= fun l => again (.builtin "list.__iadd__" ⟨[l, .ref r], []⟩)) _ _ s
  refine wpAny_bind (wpAny_newObj_type ?_)
  refine wpAny_pure ⟨plainId_quiet PySem.F.plain_list_iadd _, codeAny_builtin entry_list_iadd' ?_⟩
  rw [Around.under_plainId PySem.F.plain_list_iadd _]
  have hS₁ : (s.heap.push { cls := .type "list", data := .seq ([] : List Value).toArray }).get? s.heap.objs.size = some { cls := .type "list", data := .seq #[] } := Heap.get?_push_size _ rfl
  show wpAny _ A.in1 (Builtin.List.listExtendWith (.ref s.heap.objs.size) (.ref r) (.ref s.heap.objs.size)) _ _ _
  have key := kdl_extend (A := A) (s := { s with heap := s.heap.push { cls := .type "list", data := .seq ([] : List Value).toArray } })
    (R := fun (q : Result) (s' : Shared) => ∃ (h' : Heap) (tk : Nat) (acc' : Array Value) (c' : Nat), q = .ok (.ret (.ref s.heap.objs.size)) ∧ s' = { s with heap := h', toks := tk } ∧
      (∀ b o, s.heap.get? b = some o → h'.get? b = some o) ∧ h'.get? s.heap.objs.size = some { cls := .type "list", dict := none, data := .seq acc' c', slots := #[] } ∧ ItemsOf P acc' n)
    K hh (K.keep _ _ hok fun b _ o e => Heap.get?_push_of_some _ e) s.heap.objs.size (Nat.ne_of_gt hlt.1) (Nat.ne_of_gt hlt.2) (.ref s.heap.objs.size) 0 hS₁
    (fun h' tk acc' c' hk hS' hacc => ⟨h', tk, acc', c', rfl, rfl, fun b o e => hk b o (Nat.ne_of_lt (Heap.lt_size e)) (Heap.get?_push_of_some _ e), hS', hacc⟩) hn
  refine wpAny_mono key (fun fin s' x => ?_) fun e s' x => ?_
  · cases fin with
    | done f =>
      obtain ⟨h', tk, acc', c', e, rfl, hk, hS', hacc⟩ := x
      cases e
      show wpAny _ A (load s.heap.objs.size >>= _) _ _ _
      refine wpAny_bind (wpAny_load hS' ?_)
      exact wpAny_pure (h h' tk acc' hk (Nat.le_of_lt (Heap.lt_size hS')) hacc)
    | again c₁ =>
      refine ⟨x.1, codeAny_mono x.2 fun q s₂ y => ?_⟩
      obtain ⟨h', tk, acc', c', rfl, rfl, hk, hS', hacc⟩ := y
      show wpAny _ A (load s.heap.objs.size >>= _) _ _ _
      refine wpAny_bind (wpAny_load hS' ?_)
      exact wpAny_pure (h h' tk acc' hk (Nat.le_of_lt (Heap.lt_size hS')) hacc)
  · obtain ⟨_, _, _, _, e', _⟩ := x
    cases e'
variable {β : Type} {bs : List β} {enc : β → PyData} {R : Value → β → Prop}
/-- sorted(v), v anything whose items stand for bs -/
theorem sorted_any {v : Value} {Q : Value → Shared → Prop} (hc : ∀ (Q' : List Value → Shared → Prop), (∀ h' tk vs, (∀ b o, s.heap.get? b = some o → h'.get? b = some o) → s.heap.objs.size ≤ h'.objs.size → EachIs R vs bs → EachIs (fun v b => ∃ as, Reads s.heap v (enc b) as) vs bs → Q' vs { s with heap := h', toks := tk }) → wpAny (model prog w) A.in1 (collect v) Q' E s)
    (hal : AllAlike (bs.map enc)) (hk : Sortable (bs.map enc)) (hL : bs.length ≤ sizeLine)
    (hu : ∀ b, b ∈ bs → A.units + 2 + (enc b).depth < cLine) (h : ∀ h' tk a out, (∀ b o, s.heap.get? b = some o → h'.get? b = some o) → s.heap.objs.size ≤ a → (∃ e, h'.get? a = some (seqObj "list" (List.toArray out) e)) → EachIs R out (bs.mergeSort (dataLe false enc)) → Q (.ref a) { s with heap := h', toks := tk }) :
    wpAny (model prog w) A (call (.builtin "sorted") [v]) Q E s := by
  refine PySem.Calls.call_function_entry kind_sorted plain_sorted entry_sorted (args_sorted1 _) ?_
  unfold Builtin.«sorted»
  refine wpAny_bind (m := checkCount "sorted" 1 1 _) (wpAny_pure ?_)
  refine wpAny_bind (hc _ fun h' tk vs hkp hsz e er => ?_)
  refine wpAny_bind (wpAny_newList ?_ (by rw [e.length]; exact hL))
  have hob : (h'.push ({ cls := .type "list", data := .seq vs.toArray } : Obj)).get? h'.objs.size = some (seqObj "list" vs.toArray 0) := Heap.get?_push_size _ rfl
  have er' : EachIs (fun v b => ∃ as, Reads (h'.push ({ cls := .type "list", data := .seq vs.toArray } : Obj)) v (enc b) as ∧ h'.objs.size ∉ as) vs bs := er.mono fun v b ⟨as, r⟩ => ⟨as, PyProof.Rows.Reads.keeps (fun b o q => Heap.get?_push_of_some _ (hkp b o q)) r, fun hm => by
    obtain ⟨o, ho⟩ := reads_there r _ hm
    exact absurd (Heap.lt_size (hkp _ _ ho)) (Nat.lt_irrefl _)⟩
  have key := list_sort_data (prog := prog) (w := w) (A := A.in1) (E := E) (s := { s with heap := h'.push ({ cls := .type "list", data := .seq vs.toArray } : Obj), toks := tk }) (Q := fun r s' => Q (.ref h'.objs.size) s') hob e er' hal hk hL
    (fun b hb => by have := hu b hb; show A.units + 1 + 1 + _ < _; omega) fun out hlo ho => ?_
  · refine wpAny_bind (wpAny_holding (wpAny_mono key (fun _ s' x => ?_) fun _ _ e => e))
    exact wpAny_pure ⟨_, rfl, x⟩
  · refine h _ tk h'.objs.size out (fun b o q => ?_) hsz (PyProof.Rows.sortedHeap_at hob) ho
    exact (PyProof.Rows.sortedHeap_old (Nat.ne_of_lt (Heap.lt_size (hkp b o q))) (Heap.lt_size (Heap.get?_push_of_some _ (hkp b o q)))).trans (Heap.get?_push_of_some _ (hkp b o q))
end
/-! ### by values -/
/-- what sorted gives -/
def srt {α : Type} (xs : List α) (ps : List PyData) : List α := ((xs.zip ps).mergeSort (dataLe false (·.2))).map (·.1)
def SrtOk (ps : List PyData) : Prop := AllAlike ps ∧ Sortable ps ∧ ∀ p ∈ ps, p.depth ≤ 60
def rSortD (K : PySem.W.Frag) : List V → Hp → VK → Prop := fun vs H Q => ∃ a ps, vs = [.ref a] ∧ SrtOk ps ∧
  ((∃ xs, (SqL K H a xs ∨ SqT K H a xs) ∧ DpAll K H xs ps ∧ ∀ p, H p = none → Q (.ref p) (upd H p (.lst (srt xs ps)))) ∨
  (∃ kvs, H a = some (.dK kvs) ∧ DpAll K H (kvs.map fun kv => kV kv.1) ps ∧ ∀ p, H p = none → Q (.ref p) (upd H p (.lst (srt (kvs.map fun kv => kV kv.1) ps)))) ∨
  ∃ kvs, H a = some (.dT kvs) ∧ ∀ bs, IsKeys H kvs bs → DpAll K H (bs.map V.ref) ps ∧ ∀ p, H p = none → Q (.ref p) (upd H p (.lst (srt (bs.map V.ref) ps))))
theorem dpAll_length {K : PySem.W.Frag} {H : Hp} : ∀ {xs : List V} {ps : List PyData}, DpAll K H xs ps → xs.length = ps.length
  | _, _, .nil => rfl
  | _, _, .cons _ r => congrArg Nat.succ (dpAll_length r)
theorem each_of {X : Cx} {pins : List (Addr × Obj)} {σ : L2.St} {H : Hp} {s : Shared} (I : Inv X pins σ H s) : ∀ {xs : List V} {ps : List PyData} {its : List Value}, DpAll X.K H xs ps → Vals xs its →
    EachIs (fun v (b : V × PyData) => RelV b.1 v) its (xs.zip ps) ∧ EachIs (fun v (b : V × PyData) => ∃ as, Reads s.heap v b.2 as) its (xs.zip ps)
  | _, _, _, .nil, .nil => ⟨.nil, .nil⟩
  | _, _, _, .cons h t, .cons r rs => by
    obtain ⟨a, b⟩ := each_of I t rs
    exact ⟨.cons r a, .cons (Dp.reads I _ _ _ h r) b⟩
theorem vals_each : ∀ {out : List Value} {bs : List (V × PyData)}, EachIs (fun v (b : V × PyData) => RelV b.1 v) out bs → Vals (bs.map (·.1)) out
  | _, _, .nil => .nil
  | _, _, .cons h t => .cons h (vals_each t)
theorem cr_sortD {X : Cx} (hcalm : X.calm = true) (hu : X.A.units + 64 < cLine) : CallR X (.builtin "sorted") (rSortD X.K) := by
  intro pins s σ H vs us Q I r h
  obtain ⟨a, ps, rfl, ⟨ok1, ok2, ok3⟩, h⟩ := h
  obtain ⟨u, rfl, ru⟩ := r.one
  cases ru
  have hh : X.A.in1.handled = none := I.ok.hd hcalm
  have main : ∀ (xs : List V), xs.length ≤ sizeLine → DpAll X.K H xs ps → (∀ p, H p = none → Q (.ref p) (upd H p (.lst (srt xs ps)))) →
      (∀ (Q' : List Value → Shared → Prop), (∀ h' tk its, (∀ b o, s.heap.get? b = some o → h'.get? b = some o) → s.heap.objs.size ≤ h'.objs.size → Vals xs its → Q' its { s with heap := h', toks := tk }) → wpAny (model X.prog X.w) X.A.in1 (collect (.ref a)) Q' X.xe s) →
      wpAny (model X.prog X.w) X.A (call (.builtin "sorted") [.ref a]) (EP X pins σ Q) X.xe s := fun xs hz hd q hc => by
    have hl := dpAll_length hd
    have hm : (xs.zip ps).map (·.2) = ps := List.map_snd_zip (by omega)
    refine sorted_any (R := fun v (b : V × PyData) => RelV b.1 v) (enc := fun b : V × PyData => b.2) (fun Q' hQ => hc Q' fun h' tk its hk hsz rv => ?_) (by rw [hm]; exact ok1) (by rw [hm]; exact ok2) (by rw [List.length_zip]; omega) (fun b hb => ?_) fun h' tk a out hk ha ho hs => ?_
    · obtain ⟨e1, e2⟩ := each_of I hd rv
      exact hQ h' tk its hk hsz e1 e2
    · have := ok3 b.2 (by rw [← hm]; exact List.mem_map.mpr ⟨b, hb, rfl⟩)
      omega
    · have rv' := vals_each hs
      have hn : H a = none := I.hok.fresh ha
      obtain ⟨ep, ho⟩ := ho
      have hlen : (srt xs ps).length ≤ sizeLine := by
        unfold srt
        rw [List.length_map, List.length_mergeSort, List.length_zip]
        omega
      have I2 : Inv X pins σ (upd H a (.lst (srt xs ps))) { s with heap := h', toks := tk } := I.laid (t' := tk) hk ha ⟨hlen, out, ep, rv', ho⟩
      exact ⟨.ref a, _, I2, rfl, q a hn⟩
  rcases h with ⟨xs, hs | hs, hd, q⟩ | ⟨kvs, hs, hd, q⟩ | ⟨kvs, hs, q⟩
  · obtain ⟨its, rv, hl, hz'⟩ := I.list hs
    obtain ⟨o, ho, hc, n, hdd⟩ := hl.isList
    refine main xs hz' hd q fun Q' hQ => collect_sq a (.inl rfl) ho hc hdd (fun h' hk hsz => ?_) (by rw [List.size_toArray, ← rv.length]; exact hz')
    have := hQ h' s.toks its hk hsz rv
    simpa using this
  · obtain ⟨its, rv, hl, hz'⟩ := I.tuple hs
    obtain ⟨o, ho, hc, n, hdd⟩ := hl
    refine main xs hz' hd q fun Q' hQ => collect_sq a (.inr rfl) ho hc hdd (fun h' hk hsz => ?_) (by rw [List.size_toArray, ← rv.length]; exact hz')
    have := hQ h' s.toks its hk hsz rv
    simpa using this
  · obtain ⟨z, lo, ws, rk, hdd⟩ := (show ObjOk X.prog X.w H s.heap a (.dK kvs) from I.hok a _ hs)
    obtain ⟨ep, hat⟩ := hdd.dictAt
    have hl : kvs.length = ws.length := Paired.length rk
    refine main _ (by rw [List.length_map]; exact z) hd q fun Q' hQ => collect_src (PySem.W.kdl_dict (knd := mixKind X.prog X.w) (kvs := ws) (ep := ep) lo) hh hat (by rw [← hl]; exact z) fun h' tk acc hk hsz hacc => hQ h' tk acc.toList hk hsz ?_
    have el : acc.toList.length = acc.size := by simp
    refine vals_of_at (by rw [List.length_map, el, hacc.1, hl]) fun j x w h1 h2 => ?_
    obtain ⟨k, y, hky, hi⟩ := hacc.2 j w (by rw [← Array.getElem?_toList]; exact h2)
    have e1 : (kvs.map (·.1))[j]? = some k := by
      rw [KV.keys rk, List.getElem?_map, hky] <;> rfl
    have e2 : (kvs.map fun kv => kV kv.1)[j]? = some (kV k) := by
      have e3 : (kvs.map fun kv => kV kv.1) = (kvs.map (·.1)).map kV := by rw [List.map_map] <;> rfl
      rw [e3, List.getElem?_map, e1] <;> rfl
    rw [e2] at h1
    cases h1
    exact keyIs_rel hi
  · obtain ⟨z, hs', ks, pr, o, es, ep, ho, hx, hdt, he, hn⟩ := (show ObjOk X.prog X.w H s.heap a (.dT kvs) from I.hok a _ hs)
    have l1 : es.size = ks.length := size_of_entries he
    have l2 : kvs.length = ks.length := Paired.length pr
    obtain ⟨hd, q⟩ := q _ (isKeys_of pr)
    refine main _ (by rw [List.length_map, List.length_map]; omega) hd q fun Q' hQ => collect_src (kdl_raw hs' hx hdt) hh ho (by omega) fun h' tk acc' hk hsz it => hQ h' tk acc'.toList hk hsz ?_
    have ea : acc'.toList = ks.map fun x => Value.ref x.2.1 := by
      have hl : acc'.toList.length = ks.length := by rw [Array.length_toList, it.1]; exact l1
      apply List.ext_getElem?
      intro j
      rw [List.getElem?_map]
      cases hj : acc'.toList[j]? with
      | none =>
        have h1 := List.getElem?_eq_none_iff.mp hj
        rw [List.getElem?_eq_none (by omega)]
        all_goals rfl
      | some v =>
        obtain ⟨en, hen, hv⟩ := it.2 j v (by rw [← Array.getElem?_toList]; exact hj)
        have qe := entry_at he j
        rw [hen] at qe
        cases hb : ks[j]? with
        | none =>
          rw [hb] at qe
          exact nomatch (show some en = none from qe)
        | some b =>
          rw [hb] at qe
          have e2 : en = entryOfKey (tupleKind (mixKind X.prog X.w)) b := Option.some.inj qe
          rw [hv, e2]
          all_goals rfl
    have eb : acc'.toList = (ks.map fun x => x.2.1).map Value.ref := by rw [ea, List.map_map]; all_goals rfl
    rw [eb]
    exact vals_refs _
end DL

set_option Elab.async false
set_option linter.all false
set_option maxRecDepth 100000
set_option maxHeartbeats 4000000
/-! DL11: sorted, isinstance, repr; what is walked; dict displays -/
namespace DL
open PySem PySem.Spec PyProof.Rows L2 PySem.W

section
variable {I : Type} {Xs : I → Cx} {G : Gx} {E : WK} {kk : Nat}
/-! ### sorted -/
def keyD : Key → D
  | .inl i => .int i
  | .inr x => .str x
theorem keyD_rep {ι : Ix} {L : Addr → Prop} {H : Hp} (k : Key) : Rep G ι L H (kV k) (keyD k) := by
  cases k with
  | inl i => exact .int i
  | inr x => exact .str x
theorem keysD_rep {ι : Ix} {L : Addr → Prop} {H : Hp} : ∀ (ks : List Key), Reps G ι L H (ks.map kV) (ks.map keyD)
  | [] => .nil
  | k :: ks => .cons (keyD_rep k) (keysD_rep ks)
theorem notLv {ι : Ix} {S : Sto} {H : Hp} {a : Addr} {vs : List V} (R : Rel G ι S H) (h : H a = some (.tup vs)) : ¬ Lv ι S a := by
  rintro (⟨n, c, h1, h2⟩ | z)
  · obtain ⟨b, h3, h4⟩ := R.cell n c h2
    rw [h1] at h3
    cases h3
    cases c with
    | lst ds => obtain ⟨ws, e, _⟩ := h4; rw [h] at e; cases e
    | dK ds => obtain ⟨ws, e, _⟩ := h4; rw [h] at e; cases e
    | dT ds => obtain ⟨ws, e, _⟩ := h4; rw [h] at e; cases e
    | ins c fs => obtain ⟨dx, ws, e, _⟩ := h4; rw [h] at e; cases e
  · obtain ⟨⟨xs, e, n⟩, _⟩ := R.ztr a z
    rw [h] at e
    cases e
    exact n _ rfl
theorem keysT_rep {ι : Ix} {S : Sto} {H : Hp} (R : Rel G ι S H) : ∀ {kvs : List (List Key × V)} {bs : List Addr}, IsKeys H kvs bs → Reps G ι (Lv ι S) H (bs.map V.ref) (kvs.map fun kv => .tup (kv.1.map keyD))
  | _, _, .nil => .nil
  | _, _, .cons h r => .cons (.tup h (notLv R h) (keysD_rep _)) (keysT_rep R r)
def collD (d : D) (S : Sto) : Option (List D) := match itemsOf d S with
  | some ds => some ds
  | none => match dKOf d S with
    | some kds => some (kds.map fun kv => keyD kv.1)
    | none => match dTOf d S with
      | some kds => some (kds.map fun kv => .tup (kv.1.map keyD))
      | none => none
theorem Reps.py {ι : Ix} {S : Sto} {H : Hp} (R : Rel G ι S H) {vs : List V} {ds : List D} {ps : List PyData} (e : pyOfL S ds = some ps) (r : Reps G ι (Lv ι S) H vs ds) : DpAll G.K H vs ps := (pair_py R (sizeOf ds)).2 vs ds ps (Nat.le_refl _) e r
theorem Reps.triples {ι : Ix} {L : Addr → Prop} {H : Hp} : ∀ {vs : List V} {ds : List D} (ps : List PyData), Reps G ι L H vs ds →
    ∃ T : List ((V × D) × PyData), vs.zip ps = T.map (fun t => (t.1.1, t.2)) ∧ ds.zip ps = T.map (fun t => (t.1.2, t.2)) ∧ ∀ t ∈ T, Rep G ι L H t.1.1 t.1.2
  | _, _, [], r => ⟨[], by simp, by simp, by simp⟩
  | _, _, p :: ps, .nil => ⟨[], by simp, by simp, by simp⟩
  | _, _, p :: ps, .cons (v := v) (d := d) q r => by
    obtain ⟨T, e1, e2, e3⟩ := Reps.triples ps r
    refine ⟨((v, d), p) :: T, by simp [e1], by simp [e2], fun t ht => ?_⟩
    rcases List.mem_cons.mp ht with e | ht
    · rw [e]; exact q
    · exact e3 t ht
theorem Reps.of_mem {ι : Ix} {L : Addr → Prop} {H : Hp} : ∀ (T : List ((V × D) × PyData)), (∀ t ∈ T, Rep G ι L H t.1.1 t.1.2) → Reps G ι L H (T.map fun t => t.1.1) (T.map fun t => t.1.2)
  | [], _ => .nil
  | t :: T, h => .cons (h t (by simp)) (Reps.of_mem T fun u hu => h u (by simp [hu]))
theorem Reps.srt {ι : Ix} {L : Addr → Prop} {H : Hp} {vs : List V} {ds : List D} {ps : List PyData} (r : Reps G ι L H vs ds) : Reps G ι L H (DL.srt vs ps) (DL.srt ds ps) := by
  obtain ⟨T, e1, e2, e3⟩ := r.triples ps
  have h1 : DL.srt vs ps = (T.mergeSort (dataLe false fun t => t.2)).map fun t => t.1.1 := by
    unfold DL.srt
    rw [e1, ← List.map_mergeSort (r := dataLe false fun t : (V × D) × PyData => t.2) (s := dataLe false fun x : V × PyData => x.2) (f := fun t : (V × D) × PyData => (t.1.1, t.2)) (fun _ _ _ _ => rfl), List.map_map]
    rfl
  have h2 : DL.srt ds ps = (T.mergeSort (dataLe false fun t => t.2)).map fun t => t.1.2 := by
    unfold DL.srt
    rw [e2, ← List.map_mergeSort (r := dataLe false fun t : (V × D) × PyData => t.2) (s := dataLe false fun x : D × PyData => x.2) (f := fun t : (V × D) × PyData => (t.1.2, t.2)) (fun _ _ _ _ => rfl), List.map_map]
    rfl
  rw [h1, h2]
  exact Reps.of_mem _ fun t ht => e3 t (List.mem_mergeSort.mp ht)
open Classical in
noncomputable def p_sorted (b : Bool) (ds : List D) (S : Sto) : Res D := match ds with
  | [d] => match collD d S with
    | some es => match pyOfL S es with
      | some ps => if SrtOk ps then p_lst b (srt es ps) S else .stuck
      | none => .stuck
    | none => .stuck
  | _ => .stuck
theorem snd_sorted (b : Bool) : SndC G (rSortD G.K) (p_sorted b) := fun E ι S H xs ds Q R r q => by
  unfold p_sorted at q
  split at q
  · rename_i d
    obtain ⟨v, rfl, rv⟩ := r.one
    unfold collD at q
    cases h1 : itemsOf d S with
    | some es =>
      simp only [h1] at q
      cases h2 : pyOfL S es with
      | none => simp only [h2] at q; exact q.elim
      | some ps =>
        simp only [h2] at q
        split at q
        · rename_i hok
          obtain ⟨a, vs, rfl, ha, ra⟩ := items_at R rv h1
          exact ⟨a, ps, rfl, hok, .inl ⟨vs, ha, ra.py R h2, (p_lst_ok R ra.srt q).2⟩⟩
        · exact q.elim
    | none =>
      cases h3 : dKOf d S with
      | some kds =>
        simp only [h1, h3] at q
        cases h2 : pyOfL S (kds.map fun kv => keyD kv.1) with
        | none => simp only [h2] at q; exact q.elim
        | some ps =>
          simp only [h2] at q
          split at q
          · rename_i hok
            obtain ⟨a, kvs, rfl, ha, he, _⟩ := dK_at R rv h3
            have hr : Reps G ι (Lv ι S) H (kvs.map fun kv => kV kv.1) (kds.map fun kv => keyD kv.1) := by
              have e1 : (kvs.map fun kv => kV kv.1) = (kvs.map (·.1)).map kV := by rw [List.map_map]; rfl
              have e2 : (kds.map fun kv => keyD kv.1) = (kds.map (·.1)).map keyD := by rw [List.map_map]; rfl
              rw [e1, e2, he]
              exact keysD_rep _
            exact ⟨a, ps, rfl, hok, .inr (.inl ⟨kvs, ha, hr.py R h2, (p_lst_ok R hr.srt q).2⟩)⟩
          · exact q.elim
      | none =>
        cases h4 : dTOf d S with
        | some kds =>
          simp only [h1, h3, h4] at q
          cases h2 : pyOfL S (kds.map fun kv => D.tup (kv.1.map keyD)) with
          | none => simp only [h2] at q; exact q.elim
          | some ps =>
            simp only [h2] at q
            split at q
            · rename_i hok
              obtain ⟨a, kvs, rfl, ha, he, _⟩ := dT_at R rv h4
              refine ⟨a, ps, rfl, hok, .inr (.inr ⟨kvs, ha, fun bs hb => ?_⟩)⟩
              have hr : Reps G ι (Lv ι S) H (bs.map V.ref) (kds.map fun kv => D.tup (kv.1.map keyD)) := by
                have e1 : (kds.map fun kv => D.tup (kv.1.map keyD)) = (kds.map (·.1)).map fun k => D.tup (k.map keyD) := by rw [List.map_map]; rfl
                have e2 : (kvs.map fun kv => D.tup (kv.1.map keyD)) = (kvs.map (·.1)).map fun k => D.tup (k.map keyD) := by rw [List.map_map]; rfl
                rw [e1, ← he, ← e2]
                exact keysT_rep R hb
              exact ⟨hr.py R h2, (p_lst_ok R hr.srt q).2⟩
            · exact q.elim
        | none =>
          simp only [h1, h3, h4] at q
          exact q.elim
  · exact q.elim
/-! ### isinstance(x, T), T a built-in type -/
def tyD (d : D) (S : Sto) : Option String := match d with
  | .non => some "NoneType"
  | .bl _ => some "bool"
  | .int _ => some "int"
  | .str _ => some "str"
  | .tup _ => some "tuple"
  | .wtp _ => some "tuple"
  | .lst _ => some "list"
  | .scr _ => some "list"
  | .dK _ => some "dict"
  | .dT _ => some "dict"
  | .ref n => match cellOf S n with
    | some (.lst _) => some "list"
    | some (.dK _) => some "dict"
    | some (.dT _) => some "dict"
    | _ => none
  | _ => none
theorem tyD_at {ι : Ix} {S : Sto} {H : Hp} {v : V} {d : D} {t : String} (R : Rel G ι S H) (r : Rep G ι (Lv ι S) H v d) (h : tyD d S = some t) : TyX G.K H v (.type t) := by
  cases r with
  | non => cases h; exact .base .non
  | bl b => cases h; exact .base (.bl b)
  | int i => cases h; exact .base (.int i)
  | str x => cases h; exact .base (.str x)
  | tup q _ _ => cases h; exact .base (.tup q)
  | wtp q _ =>
    cases h
    obtain ⟨o, its, n, h1, h2, _⟩ := q
    exact .kTuple h1 h2
  | lst q _ _ => cases h; exact .base (.lst q)
  | scr q _ =>
    cases h
    rcases q with ⟨q | ⟨o, q⟩, _⟩ | ⟨o, its, n, h1, h2, _⟩
    · exact .base (.lst q)
    · exact .base (.frz q)
    · exact .kList h1 h2
  | dK q _ _ _ => cases h; exact .base (.dK q)
  | dT q _ _ _ => cases h; exact .base (.dT q)
  | ref q =>
    rename_i a n
    have h : (match cellOf S n with
      | some (.lst _) => some "list"
      | some (.dK _) => some "dict"
      | some (.dT _) => some "dict"
      | _ => none) = some t := h
    split at h
    · rename_i hs
      obtain ⟨b, e, _, vs, hb, _⟩ := ref_cell R (.ref q) hs
      cases e
      cases h
      exact .base (.lst hb)
    · rename_i hs
      obtain ⟨b, e, _, vs, hb, _⟩ := ref_cell R (.ref q) hs
      cases e
      cases h
      exact .base (.dK hb)
    · rename_i hs
      obtain ⟨b, e, _, vs, hb, _⟩ := ref_cell R (.ref q) hs
      cases e
      cases h
      exact .base (.dT hb)
    · cases h
  | _ => cases h
def tys : List String := ["NoneType", "bool", "int", "str", "tuple", "list", "dict"]
def isiB (a b : String) : Bool := a == b || (a == "bool" && b == "int")
theorem isi_tab : ∀ a ∈ tys, ∀ b ∈ tys, kitB a b = some (isiB a b) := by decide +kernel
theorem tyD_mem {d : D} {S : Sto} {t : String} (h : tyD d S = some t) : t ∈ tys := by
  unfold tyD at h
  split at h
  all_goals first | (cases h; decide) | (cases h; done) | skip
  split at h
  all_goals first | (cases h; decide) | (cases h; done)
def p_isi (ds : List D) (S : Sto) : Res D := match ds with
  | [d, .ty t] => match tyD d S with
    | some u => if t ∈ tys then .ok (.bl (isiB u t)) S else .stuck
    | none => .stuck
  | _ => .stuck
theorem Rep.ty_of {ι : Ix} {L : Addr → Prop} {H : Hp} {v : V} {t : String} (r : Rep G ι L H v (.ty t)) : v = .ty t := by
  cases r
  rfl
theorem snd_isi : SndC G (rIsi G.K) p_isi := fun E ι S H xs ds Q R r q => by
  unfold p_isi at q
  split at q
  · rename_i d t
    obtain ⟨v, w, rfl, rv, rw'⟩ := r.two
    split at q
    · rename_i u hu
      split at q
      · rename_i ht
        rw [rw'.ty_of]
        exact ⟨v, .ty t, _, .type t, isiB u t, rfl, .ty t, tyD_at R rv hu, kit_ty (isi_tab u (tyD_mem hu) t ht), Post.here R q _ (.bl _)⟩
      · exact q.elim
    · exact q.elim
  · exact q.elim
/-- the name of a built-in type -/
theorem de_ty (F : FamH Xs G E) {x : Str} {T : String} {pos : Pos} (hg : ∀ j, Gl (Xs j) x) (hm : G.mg x = none) (hv : bootBuiltins x = some (.type T)) (hn : x ≠ "__name__") (hdb : (x == ("__debug__" : Str)) = false) : DE Xs G E (.Name x pos) (c_d (.ty T)) :=
  ⟨_, fun j => ⟨fun pins s σ H Q I h => ld_blt I (hg j) (by rw [F.mg j]; exact hm) hv ⟨.ty T, H, I, rfl, h⟩ hn hdb⟩, snd_c fun _ _ _ => .ty T⟩
/-! ### repr of data -/
def textOf (p : PyData) : Option Str := match p with
  | .int i => if i.natAbs.log2 < 1920 then some (toString i : String) else none
  | .list xs => if (PyData.list xs).showable = true ∧ (PyData.list xs).hasDict = false ∧ (PyData.list xs).depth ≤ 60 ∧ (PyData.list xs).shown.length ≤ 1000000 then some (PyData.list xs).shown else none
  | .tuple xs => if (PyData.tuple xs).showable = true ∧ (PyData.tuple xs).hasDict = false ∧ (PyData.tuple xs).depth ≤ 60 ∧ (PyData.tuple xs).shown.length ≤ 1000000 then some (PyData.tuple xs).shown else none
  | _ => none
def p_repr (ds : List D) (S : Sto) : Res D := match ds with
  | [d] => match (pyOf S d).bind textOf with
    | some x => .ok (.str x) S
    | none => .stuck
  | _ => .stuck
def rRepr (K : PySem.W.Frag) : List V → Hp → VK → Prop := fun xs H Q => (∃ i, xs = [.int i] ∧ i.natAbs.log2 < 1920 ∧ Q (.str (toString i)) H) ∨ ∃ v p, xs = [v] ∧ Dp K H v p ∧ ((∃ ys, p = .list ys) ∨ ∃ ys, p = .tuple ys) ∧ p.showable = true ∧ p.hasDict = false ∧ p.depth ≤ 60 ∧ p.shown.length ≤ 1000000 ∧ Q (.str p.shown) H
theorem call_repr {X : Cx} (hg : X.A.guards = some []) (hu : X.A.units + 64 < cLine) : CallR X (.builtin "repr") (rRepr X.K) := by
  intro pins s σ H xs us Q I r h
  rcases h with h | ⟨v, p, rfl, hd, hk, h1, h2, h3, h4, q⟩
  · exact SkE.call_repr_int pins s σ H xs us Q I r h
  · obtain ⟨u, rfl, ru⟩ := r.one
    obtain ⟨as, rd⟩ := Dp.reads I p v u hd ru
    obtain ⟨a, rfl⟩ : ∃ a, u = .ref a := by
      rcases hk with ⟨ys, rfl⟩ | ⟨ys, rfl⟩ <;> (cases rd; exact ⟨_, rfl⟩)
    refine PySem.repr_of_reads' rd h1 (PyData.noDict_hsm h2) hg (by omega) (fun _ _ e => e) (fun h' t tk hk => ?_) (Nat.le_trans h4 (by rw [sizeLine_eq]; decide))
    exact ⟨.str p.shown, H, I.kept (t' := tk) hk, ⟨t, rfl⟩, q⟩
theorem snd_repr : SndC G (rRepr G.K) p_repr := fun E ι S H xs ds Q R r q => by
  unfold p_repr at q
  split at q
  · rename_i d
    obtain ⟨v, rfl, rv⟩ := r.one
    cases h1 : pyOf S d with
    | none => rw [h1] at q; exact q.elim
    | some p =>
      rw [h1] at q
      have hd := rv.py R h1
      have q : Post G E ι S H (PV G Q) (match textOf p with
        | some x => .ok (.str x) S
        | none => .stuck) := q
      cases p with
      | int i =>
        unfold textOf at q
        by_cases hi : i.natAbs.log2 < 1920
        · simp only [if_pos hi] at q
          have e : v = .int i := by cases hd; rfl
          exact .inl ⟨i, by rw [e], hi, Post.here R q _ (.str _)⟩
        · simp only [if_neg hi] at q
          exact q.elim
      | list ys =>
        unfold textOf at q
        by_cases hc : (PyData.list ys).showable = true ∧ (PyData.list ys).hasDict = false ∧ (PyData.list ys).depth ≤ 60 ∧ (PyData.list ys).shown.length ≤ 1000000
        · simp only [if_pos hc] at q
          exact .inr ⟨v, _, rfl, hd, .inl ⟨ys, rfl⟩, hc.1, hc.2.1, hc.2.2.1, hc.2.2.2, Post.here R q _ (.str _)⟩
        · simp only [if_neg hc] at q
          exact q.elim
      | tuple ys =>
        unfold textOf at q
        by_cases hc : (PyData.tuple ys).showable = true ∧ (PyData.tuple ys).hasDict = false ∧ (PyData.tuple ys).depth ≤ 60 ∧ (PyData.tuple ys).shown.length ≤ 1000000
        · simp only [if_pos hc] at q
          exact .inr ⟨v, _, rfl, hd, .inr ⟨ys, rfl⟩, hc.1, hc.2.1, hc.2.2.1, hc.2.2.2, Post.here R q _ (.str _)⟩
        · simp only [if_neg hc] at q
          exact q.elim
      | _ => exact q.elim
  · exact q.elim
end
end DL

set_option Elab.async false
set_option linter.all false
set_option maxRecDepth 100000
set_option maxHeartbeats 4000000
/-! DLE: enumerate of lists and tuples (the lines of PyProof.EnumIter and HandS.Iter, turned to both) -/
namespace DL
open PySem PySem.Spec PyProof.Rows L2
section
variable {prog : Program} {w : World} {A : Around} {E : Value → Shared → Prop} {s : Shared}
theorem enum_item (tt : Bool) {e it l : Addr} {i : Nat} {items : Array Value} {x old : Value} {Q : Value → Shared → Prop}
    (he : IsEnum s.heap e it i old) (hit : ItAt tt s.heap it l i) (hl : SqAt tt s.heap l items) (hx : items[i]? = some x) (hne : e ≠ it)
    (hQ : ∀ h', IsEnumOut h' e it ((i : Int) + 1) x s.heap.objs.size → ItAt tt h' it l (i + 1) →
      h'.get? s.heap.objs.size = some { cls := .type "tuple", data := .seq #[.int i s.toks, x] } → h'.objs.size = s.heap.objs.size + 1 →
      (∀ b o, b ≠ e → b ≠ it → s.heap.get? b = some o → h'.get? b = some o) → Q (.ref s.heap.objs.size) { s with heap := h', toks := s.toks + 1 }) :
    wpAny (model prog w) A (Builtin.«enumerate.__next__» ⟨[.ref e], []⟩) (fun fin s' => ∃ v, fin = .done (.ret v) ∧ Q v s') E s := by
  obtain ⟨hp, g, d, tk, os⟩ := s
  show wpAny _ _ (field (.ref e) 2 >>= _) _ _ _
  refine wpAny_bind (wpAny_field he rfl (x := .ref it) rfl ?_)
  refine wpAny_bind (next_item tt hit hl hx fun h₁ hit₁ hs₁ => ?_)
  replace hs₁ : Heap.SameBut it hp h₁ := hs₁
  have he₁ : IsEnum h₁ e it i old := (hs₁.2 e hne).trans he
  show wpAny _ _ (field (.ref e) 3 >>= _) _ _ ⟨h₁, g, d, tk, os⟩
  refine wpAny_bind (wpAny_field he₁ rfl (x := rawInt i) rfl ?_)
  show wpAny _ _ (field (.ref e) 4 >>= _) _ _ ⟨h₁, g, d, tk, os⟩
  refine wpAny_bind (wpAny_field he₁ rfl (x := .none) rfl ?_)
  show wpAny _ _ (mkInt i >>= _) _ _ ⟨h₁, g, d, tk, os⟩
  refine wpAny_bind (wpAny_mkInt ?_)
  show wpAny _ _ (setField (.ref e) 3 (rawInt ((i : Int) + 1)) >>= _) _ _ ⟨h₁, g, d, tk + 1, os⟩
  refine wpAny_bind (wpAny_setField_rec he₁ (by simp) fun h₂ he₂ hs₂ => ?_)
  replace hs₂ : Heap.SameBut e h₁ h₂ := hs₂
  replace he₂ : IsEnum h₂ e it ((i : Int) + 1) old := he₂
  show wpAny _ _ (setField (.ref e) 4 .none >>= _) _ _ ⟨h₂, g, d, tk + 1, os⟩
  refine wpAny_bind (wpAny_setField_rec he₂ (by simp) fun h₃ he₃ hs₃ => ?_)
  replace hs₃ : Heap.SameBut e h₂ h₃ := hs₃
  replace he₃ : IsEnum h₃ e it ((i : Int) + 1) old := he₃
  show wpAny _ _ (newTuple [.int i tk, x] >>= _) _ _ ⟨h₃, g, d, tk + 1, os⟩
  refine wpAny_bind (wpAny_newTuple ?_)
  have he₄ : IsEnum (h₃.push { cls := .type "tuple", data := .seq #[.int i tk, x] }) e it ((i : Int) + 1) old := Heap.get?_push_of_some _ he₃
  generalize hh₄ : h₃.push { cls := .type "tuple", data := .seq #[.int i tk, x] } = h₄ at he₄
  have hsz : h₃.objs.size = hp.objs.size := by rw [hs₃.1, hs₂.1, hs₁.1]
  have hel : e < hp.objs.size := Heap.lt_size he
  have ht₄ : h₄.get? hp.objs.size = some { cls := .type "tuple", data := .seq #[.int i tk, x] } := by rw [← hh₄, ← hsz]; exact Heap.get?_push_size _ rfl
  have hz₄ : h₄.objs.size = hp.objs.size + 1 := by rw [← hh₄, Heap.size_push, hsz]
  have hk₄ : ∀ b o, b ≠ e → b ≠ it → hp.get? b = some o → h₄.get? b = some o := fun b o hbe hbi hb => by
    rw [← hh₄]; exact Heap.get?_push_of_some _ (hs₃.extBut b o hbe (hs₂.extBut b o hbe (hs₁.extBut b o hbi hb)))
  have hit₄ : ItAt tt h₄ it l (i + 1) := by
    rw [← hh₄]; exact ((hit₁.ext hs₂.extBut (Ne.symm hne)).ext hs₃.extBut (Ne.symm hne)).at fun o ho => Heap.get?_push_of_some _ ho
  show wpAny _ _ (Builtin.SmallTypes.ownedTupleIsFree (.ref e) >>= _) _ _ ⟨h₄, g, d, tk + 1, os⟩
  rw [hsz]
  clear hh₄ he₃ hs₃ he₂ hs₂ he₁ hs₁ hit₁ hsz h₃ h₂ h₁
  refine wpAny_bind ?_
  · unfold Builtin.SmallTypes.ownedTupleIsFree
    refine wpAny_bind (wpAny_field he₄ rfl (x := .none) rfl (wpAny_pure ?_))
    simp only [if_true]
    refine wpAny_bind (wpAny_rule ?_)
    refine wpAny_bind (wpAny_field he₄ rfl (x := old) rfl ?_)
    refine wpAny_bind (wpAny_setField_rec he₄ (by simp) fun h₅ he₅ hs₅ => ?_)
    replace hs₅ : Heap.SameBut e h₄ h₅ := hs₅
    replace he₅ : IsEnum h₅ e it ((i : Int) + 1) x := he₅
    show wpAny _ _ (Builtin.SmallTypes.ownedTupleHandOut (.ref e) (.ref hp.objs.size) >>= _) _ _ ⟨h₅, g, d, tk + 1, os⟩
    refine wpAny_bind ?_
    · unfold Builtin.SmallTypes.ownedTupleHandOut
      refine wpAny_bind (wpAny_setField_rec he₅ (by simp) fun h₆ he₆ hs₆ => ?_)
      replace hs₆ : Heap.SameBut e h₅ h₆ := hs₆
      replace he₆ : IsEnumOut h₆ e it ((i : Int) + 1) x hp.objs.size := he₆
      refine wpAny_setField_rec he₆ (by simp) fun h₇ he₇ hs₇ => ?_
      replace hs₇ : Heap.SameBut e h₆ h₇ := hs₇
      replace he₇ : IsEnumOut h₇ e it ((i : Int) + 1) x hp.objs.size := he₇
      refine wpAny_bind (wpAny_letGo (wpAny_pure ⟨_, rfl, hQ h₇ he₇ ?_ ?_ ?_ ?_⟩))
      · exact ((hit₄.ext hs₅.extBut (Ne.symm hne)).ext hs₆.extBut (Ne.symm hne)).ext hs₇.extBut (Ne.symm hne)
      · exact hs₇.extBut _ _ (Nat.ne_of_gt hel) (hs₆.extBut _ _ (Nat.ne_of_gt hel) (hs₅.extBut _ _ (Nat.ne_of_gt hel) ht₄))
      · rw [hs₇.1, hs₆.1, hs₅.1, hz₄]
      · exact fun b o hbe hbi hb => hs₇.extBut b o hbe (hs₆.extBut b o hbe (hs₅.extBut b o hbe (hk₄ b o hbe hbi hb)))

theorem pyNext_enumI (tt : Bool) {e it l : Addr} {i : Nat} {items : Array Value} {x old : Value} {Q : Option Value → Shared → Prop}
    (he : IsEnum s.heap e it i old) (hit : ItAt tt s.heap it l i) (hl : SqAt tt s.heap l items) (hx : items[i]? = some x) (hne : e ≠ it)
    (hQ : ∀ h', IsEnumOut h' e it ((i : Int) + 1) x s.heap.objs.size → ItAt tt h' it l (i + 1) →
      h'.get? s.heap.objs.size = some { cls := .type "tuple", data := .seq #[.int i s.toks, x] } → h'.objs.size = s.heap.objs.size + 1 →
      (∀ b o, b ≠ e → b ≠ it → s.heap.get? b = some o → h'.get? b = some o) → Q (some (.ref s.heap.objs.size)) { s with heap := h', toks := s.toks + 1 }) :
    wpAny (model prog w) A (pyNext (.ref e)) Q E s := by
  have hT : s.TypeIs (.ref e) "enumerate" := ⟨_, he, rfl⟩
  unfold pyNext
  exact wpAny_bind (wpAny_attempt (wpAny_callSpecial?_slot (name := Str.ofString "__next__") hT PySem.F.slot_enumerate_next
    (wpAny_call_entry PySem.F.slot_enumerate_next hT PySem.F.entry_enumerate_next
      (enum_item tt he hit hl hx hne fun h' a b c d k => wpAny_pure (hQ h' a b c d k)) (PySem.F.args_enumerate_next_1 _))))

theorem pyNext_enumE (tt : Bool) {e it l : Addr} {i : Nat} {items : Array Value} {old : Value} {Q : Option Value → Shared → Prop} (hh : A.handled = none)
    (he : IsEnum s.heap e it i old) (hit : ItAt tt s.heap it l i) (hl : SqAt tt s.heap l items) (hx : items[i]? = none)
    (hQ : ∀ h', Heap.ExtBut it s.heap h' → Q none { s with heap := h' }) : wpAny (model prog w) A (pyNext (.ref e)) Q E s := by
  have hT : s.TypeIs (.ref e) "enumerate" := ⟨_, he, rfl⟩
  unfold pyNext
  refine wpAny_bind (wpAny_attempt (wpAny_callSpecial?_slot (name := Str.ofString "__next__") hT PySem.F.slot_enumerate_next
    (wpAny_call_entry PySem.F.slot_enumerate_next hT PySem.F.entry_enumerate_next ?_ (PySem.F.args_enumerate_next_1 _))))
  show wpAny _ _ (field (.ref e) 2 >>= _) _ _ _
  refine wpAny_bind (wpAny_field he rfl (x := .ref it) rfl ?_)
  refine wpAny_bind (next_end tt hh hit hl hx fun h' x he' hx' => ?_)
  obtain ⟨o, ho, hc⟩ := hx'
  refine wpAny_bind (wpAny_isInstance (T := "StopIteration") (b := true) ⟨o, ho, hc⟩ isSubtype_stop ?_)
  exact wpAny_pure (hQ _ he')
end
/-! ### the walk -/
def ItE (tt : Bool) (K : PySem.W.Frag) (a : Addr) : It :=
  ⟨fun i H => ∃ (xs : List V) (x : V), SqV tt K H a xs ∧ xs[i]? = some x, fun i H v H' => ∃ T x, v = .ref T ∧ H T = none ∧ H' = upd H T (.tup [.int (i : Nat), x]) ∧ ∀ xs, SqV tt K H a xs → xs[i]? = some x, fun i H => ∃ xs : List V, SqV tt K H a xs ∧ xs.length ≤ i⟩
theorem turn_enumU (tt : Bool) {P : Program} {w : World} {K : PySem.W.Frag} {elts : List Expr} {kk : Nat} {tpos : Pos} (a e it : Addr) :
    Turn P w K (.Tuple elts kk tpos) (ItE tt K a) [e, it] e (fun i h => (∃ old, IsEnum h e it ((i : Nat) : Int) old) ∧ ItAt tt h it a i ∧ e ≠ it) where
  mem := by simp
  obj := fun i h st b hb => by
    obtain ⟨⟨old, he⟩, hit0, _⟩ := st
    obtain ⟨o, ho, hd⟩ := hit0.obj
    have e' : b = e ∨ b = it := by simpa using hb
    rcases e' with z | z
    · rw [z]; exact ⟨_, he, fun v q => nomatch q⟩
    · rw [z]; exact ⟨o, ho, fun v q => by rw [hd] at q; cases q⟩
  keep := fun i h h' st k => let ⟨⟨old, he⟩, hi, hne⟩ := st; ⟨⟨old, k e (by simp) _ he⟩, hi.at fun o q => k it (by simp) o q, hne⟩
  item := by
    intro X hP hw hK hc i pins s σ H E I hf st hg
    subst hP hw hK
    obtain ⟨⟨old, he⟩, hit, hne⟩ := st
    obtain ⟨xs, x, hq, hx⟩ := hg
    obtain ⟨its, rv, p, hz⟩ := sq_at I hq
    obtain ⟨u, hu, ru⟩ := rv.get hx
    have hel : e < s.heap.objs.size := Heap.lt_size he
    have hil : it < s.heap.objs.size := hit.lt
    refine pyNext_enumI tt he hit p (x := u) (by simpa using hu) hne fun h' ho hit' hT hsz hk => ?_
    refine ⟨_, rfl, wpAny_letOwnedTupleGo_enum (s := { s with heap := h', toks := s.toks + 1 }) ho fun h'' he' sb => ?_⟩
    have hT2 : h''.get? s.heap.objs.size = some { cls := .type "tuple", data := .seq #[.int i s.toks, u] } := (sb.2 _ (Nat.ne_of_gt hel)).trans hT
    have new : ObjOk X.prog X.w (upd H s.heap.objs.size (.tup [.int (i : Nat), x])) h'' s.heap.objs.size (.tup [.int (i : Nat), x]) :=
      ⟨by show 2 ≤ sizeLine; decide, [.int i s.toks, u], .cons ⟨_, rfl⟩ (.cons ru .nil), ⟨_, hT2, rfl, _, rfl⟩⟩
    have I1 : Inv X pins σ (upd H s.heap.objs.size (.tup [.int (i : Nat), x])) { s with heap := h'', toks := s.toks + 1 } :=
      I.turnedNew (ch := [e, it]) (fun b ob hb q => (sb.2 b (fun z => hb (by simp [z]))).trans (hk b ob (fun z => hb (by simp [z])) (fun z => hb (by simp [z])) q)) hf (Nat.le_refl _) new
    refine ⟨.ref s.heap.objs.size, _, I1, rfl, ⟨_, x, rfl, I.hok.fresh (Nat.le_refl _), rfl, fun ys hy => by rw [sq_inj I hy hq]; exact hx⟩, ⟨⟨u, ?_⟩, hit'.at fun o q => (sb.2 it (Ne.symm hne)).trans q, hne⟩, fun b hb => ?_⟩
    · have e1 : ((i + 1 : Nat) : Int) = (i : Int) + 1 := by omega
      rw [e1]; exact he'
    · have hb' : b < s.heap.objs.size := by
        have e' : b = e ∨ b = it := by simpa using hb
        rcases e' with z | z
        · rw [z]; exact hel
        · rw [z]; exact hil
      rw [upd_ne (Nat.ne_of_lt hb')]
      exact (hf b hb).1
  done := by
    intro X hP hw hK hc i pins s σ H E I hf st hg
    subst hP hw hK
    obtain ⟨⟨old, he⟩, hit, hne⟩ := st
    obtain ⟨xs, hq, hx⟩ := hg
    obtain ⟨its, rv, p, hz⟩ := sq_at I hq
    obtain ⟨f0, f1, f2, f3, f4, f5⟩ := hf it (by simp)
    have hl := rv.length
    exact pyNext_enumE tt (I.ok.hd hc) he hit p (by simp; omega) fun h' eb => ⟨rfl, I.turned (t' := s.toks) (fun b o hb q => eb b o hb q) f0 f1 f3 f4 f5⟩
  self := fun A i s Q E st h => let ⟨⟨_, he⟩, _⟩ := st; wpAny_pyIter_enum he h
theorem meets_enum (t : Bool) (l : Addr) (xs : Array Value) : Meets (Builtin.«enumerate.__new__» ⟨[.type "enumerate", .ref l], []⟩) (fun _ R s => SqAt t s.heap l xs ∧
      R (.ok (.ret (.ref (s.heap.push (itO t l)).objs.size))) { s with heap := (s.heap.push (itO t l)).push { cls := .type "enumerate", data := .fields #[.none, .bool false, .ref s.heap.objs.size, rawInt 0, .none, .none] } }) :=
  .of_wp fun prog w A R s h => by
    obtain ⟨hp, g, d, tk, os⟩ := s
    obtain ⟨hl, h⟩ := h
    have hL : SqAt t (Shared.heap ⟨hp, g, d, tk, os⟩) l xs := hl
    have hsub := sub_enumerate
    wp_walk using pyIter_seq hL
    refine wpAny_stack_any fun st => wpAny_pure ?_
    split
    · rename_i c _ _ _ _ _
      cases (c == Value.type "enumerate")
      · wp_walk using pyIter_seq hL
        exact ⟨_, rfl, h⟩
      · wp_walk using pyIter_seq hL
        exact ⟨_, rfl, h⟩
    · wp_walk using pyIter_seq hL
      exact ⟨_, rfl, h⟩
theorem itO_free (t : Bool) (l : Addr) : (itO t l).isFreed = false := by cases t <;> rfl
theorem itO_at {t : Bool} {h : Heap} {a l : Addr} (e : h.get? a = some (itO t l)) : ItAt t h a l 0 := by
  cases t with
  | true => exact ⟨_, e, rfl, rfl⟩
  | false => exact ⟨_, e, rfl, rfl⟩
section
variable {prog : Program} {w : World} {A : Around} {E : Value → Shared → Prop} {s : Shared}
theorem call_enum {t : Bool} {l : Addr} {xs : Array Value} {Q : Value → Shared → Prop} (hL : SqAt t s.heap l xs)
    (h : ∀ h', IsEnum h' (s.heap.objs.size + 1) s.heap.objs.size 0 .none → ItAt t h' s.heap.objs.size l 0 → h'.objs.size = s.heap.objs.size + 2 →
      (∀ b o, s.heap.get? b = some o → h'.get? b = some o) → Q (.ref (s.heap.objs.size + 1)) { s with heap := h' }) :
    wpAny (model prog w) A (call (.type "enumerate") [.ref l]) Q E s := by
  refine callType_new PySem.F.called_enumerate (by decide) (PySem.F.typeCall_enumerate_1 _) (PySem.F.newCall_enumerate_1 _) (fun obj => PySem.F.args_object_init_2 obj _) PySem.F.entry_enumerate_new
    (meets_enum t l xs) ⟨hL, ?_⟩
  have hz : (s.heap.push (itO t l)).objs.size = s.heap.objs.size + 1 := Heap.size_push ..
  show _ ∧ _
  rw [hz]
  have he : IsEnum ((s.heap.push (itO t l)).push
      { cls := .type "enumerate", data := .fields #[.none, .bool false, .ref s.heap.objs.size, rawInt 0, .none, .none] }) (s.heap.objs.size + 1) s.heap.objs.size 0 .none := by
    have := Heap.get?_push_size (s.heap.push (itO t l))
      (o := { cls := .type "enumerate", data := .fields #[.none, .bool false, .ref s.heap.objs.size, rawInt 0, .none, .none] }) rfl
    rw [hz] at this; exact this
  refine ⟨⟨_, he, rfl⟩, h _ he (itO_at (Heap.get?_push_of_some _ (Heap.get?_push_size _ (itO_free t l)))) (by rw [Heap.size_push, hz]) fun b o x => Heap.get?_push_of_some _ (Heap.get?_push_of_some _ x)⟩
end
def iEnumU (K : PySem.W.Frag) (ta : TA) : TI := fun σ H R => ta σ H fun vs H1 => ∃ t a xs, vs = [.ref a] ∧ SqV t K H1 a xs ∧ R (ItE t K a) H1
theorem pi_enumU {X : Cx} {e : Expr} {ta : TA} {p pos tpos : Pos} {elts : List Expr} {kk : Nat} (hg : Gl X "enumerate") (hm : X.mg "enumerate" = none) (ha : PA X [e] ta) (hs : starEach [e] X.env = [(false, eval e X.env)]) :
    PI X (.Tuple elts kk tpos) (.Call (.Name "enumerate" p) [e] [] pos) (iEnumU X.K ta) := by
  refine ⟨fun pins s σ H R I h => ?_⟩
  refine Call_ (ld_blt I hg hm boot_enumerate (PyProof.Rows.callWith_type1 (thn (ha.run pos pins s σ H _ I h) fun us s1 ⟨vs, H1, I1, r1, q1⟩ => ?_) hs rfl))
  obtain ⟨t, a, xs, ex, hq, q⟩ := q1
  subst ex
  obtain ⟨u, rfl, ru⟩ := r1.one
  cases ru
  obtain ⟨its, rv, p', hz⟩ := sq_at I1 hq
  refine call_enum p' fun h' he hit hsz hk => wpAny_pyIter_enum he ?_
  have I2 : Inv X pins σ H1 { s1 with heap := h' } := I1.kept (t' := s1.toks) hk
  refine ⟨s1.heap.objs.size + 1, [s1.heap.objs.size + 1, s1.heap.objs.size], _, _, H1, rfl, I2, turn_enumU t a (s1.heap.objs.size + 1) s1.heap.objs.size, ⟨⟨.none, he⟩, hit, Nat.succ_ne_self _⟩, fun b hb => ?_, q⟩
  have e' : b = s1.heap.objs.size + 1 ∨ b = s1.heap.objs.size := by simpa using hb
  have hle : s1.heap.objs.size ≤ b := by
    rcases e' with z | z
    · rw [z]; exact Nat.le_add_right _ _
    · rw [z]; exact Nat.le_refl _
  exact I1.fpOk hle (I1.hok.fresh hle)
end DL

set_option Elab.async false
set_option linter.all false
set_option maxRecDepth 100000
set_option maxHeartbeats 4000000
/-! DL12: what is walked; dict displays; values frozen at the end -/
namespace DL
open PySem PySem.Spec PyProof.Rows L2

section
variable {I : Type} {Xs : I → Cx} {G : Gx} {E : WK} {kk : Nat}
/-- is it a tuple? -/
def isT : D → Bool
  | .tup _ => true
  | .wtp _ => true
  | _ => false
theorem seq_at {ι : Ix} {S : Sto} {H : Hp} {v : V} {d : D} {ds : List D} (R : Rel G ι S H) (r : Rep G ι (Lv ι S) H v d) (h : itemsOf d S = some ds) : ∃ a vs, v = .ref a ∧ SqV (isT d) G.K H a vs ∧ Reps G ι (Lv ι S) H vs ds := by
  cases d with
  | tup es =>
    cases h
    obtain ⟨a, vs, e, hs, rs⟩ := r.sqT
    exact ⟨a, vs, e, hs, rs⟩
  | wtp es =>
    cases h
    cases r with
    | wtp hw rs => exact ⟨_, _, rfl, .inr hw, rs⟩
  | lst es => exact lists_at R r h (fun _ h => nomatch h) fun _ h => nomatch h
  | scr es => exact lists_at R r h (fun _ h => nomatch h) fun _ h => nomatch h
  | ref n => exact lists_at R r h (fun _ h => nomatch h) fun _ h => nomatch h
  | _ => cases h
/-! ### a list or a tuple -/
def c_it (a : ECode) : Env → Sto → Res Wk := fun ρ S => (a ρ S).bind fun x S1 => match itemsOf x S1 with
  | some ds => .ok ⟨ds, [(x, ds)]⟩ S1
  | none => .stuck
def ItV (t : Bool) (K : PySem.W.Frag) (a : Addr) : It := match t with
  | true => Itt K a
  | false => Itl K a
def iSeq (K : PySem.W.Frag) (te : TE) : TI := fun σ H R => te σ H fun x H1 => ∃ t a, x = .ref a ∧ (∃ xs, SqV t K H1 a xs) ∧ R (ItV t K a) H1
theorem pi_seq {X : Cx} {tg l : Expr} {tl : TE} (hl : PE X l tl) : PI X tg l (iSeq X.K tl) := by
  refine ⟨fun pins s σ H R I h => ?_⟩
  refine thn (hl.run pins s σ H _ I h) fun v s1 ⟨x, H1, I1, r1, q1⟩ => ?_
  obtain ⟨t, a, e, ⟨xs, hq⟩, q⟩ := q1
  subst e
  cases r1
  cases t with
  | true =>
    obtain ⟨its, rv, p, hz⟩ := I1.tuple hq
    refine wpAny_pyIter_tuple (show s1.heap.IsTuple a its.toArray from p) ?_
    refine ⟨s1.heap.objs.size, [s1.heap.objs.size], _, _, H1, rfl, I1.kept (t' := s1.toks) fun b o e => Heap.get?_push_of_some _ e, turn_tuple a _, ⟨_, Heap.get?_push_size _ rfl, rfl, rfl⟩, fun b hb => ?_, q⟩
    have e : b = s1.heap.objs.size := by simpa using hb
    subst e
    exact I1.fpOk (Nat.le_refl _) (I1.hok.fresh (Nat.le_refl _))
  | false =>
    obtain ⟨its, rv, p, hz⟩ := I1.list hq
    refine wpAny_pyIter_list p.isList ?_
    refine ⟨s1.heap.objs.size, [s1.heap.objs.size], _, _, H1, rfl, I1.kept (t' := s1.toks) fun b o e => Heap.get?_push_of_some _ e, turn_list a _, ⟨_, Heap.get?_push_size _ rfl, rfl, rfl⟩, fun b hb => ?_, q⟩
    have e : b = s1.heap.objs.size := by simpa using hb
    subst e
    exact I1.fpOk (Nat.le_refl _) (I1.hok.fresh (Nat.le_refl _))
theorem walks_seq {ι : Ix} {S : Sto} {H : Hp} {a : Addr} {d : D} {ds : List D} (r : Rep G ι (Lv ι S) H (.ref a) d) : Walks G ⟨ds, [(d, ds)]⟩ ι S H (ItV (isT d) G.K a) := fun ι2 S2 H2 x2 R2 hok => by
  have hi : itemsOf d S2 = some ds := hok (d, ds) (by simp)
  obtain ⟨a', vs, e, hs, rs⟩ := seq_at R2 (r.mono x2) hi
  cases e
  have fin : ∀ (i : Nat) (y : D), ds[i]? = some y → ∃ v, vs[i]? = some v ∧ Rep G ι2 (Lv ι2 S2) H2 v y := fun i y h => rs.get h
  cases ht : isT d with
  | true =>
    rw [ht] at hs
    refine ⟨⟨vs, hs, by rw [rs.length]; exact Nat.le_refl _⟩, fun i y hy => ?_⟩
    obtain ⟨v, hv, rv⟩ := fin i y hy
    refine ⟨⟨vs, v, hs, hv⟩, fun x H3 hx => ?_⟩
    obtain ⟨rfl, hx⟩ := hx
    have e := (hx vs hs).symm.trans hv
    cases e
    exact ⟨Ext.refl, R2, rv, fun _ _ h => h⟩
  | false =>
    rw [ht] at hs
    refine ⟨⟨vs, hs, by rw [rs.length]; exact Nat.le_refl _⟩, fun i y hy => ?_⟩
    obtain ⟨v, hv, rv⟩ := fin i y hy
    refine ⟨⟨vs, v, hs, hv⟩, fun x H3 hx => ?_⟩
    obtain ⟨rfl, hx⟩ := hx
    have e := (hx vs hs).symm.trans hv
    cases e
    exact ⟨Ext.refl, R2, rv, fun _ _ h => h⟩
theorem di_seq (F : FamH Xs G E) {tg l : Expr} {a : ECode} (ha : DE Xs G E l a) : DI Xs G E tg l (c_it a) := by
  obtain ⟨t, p, s⟩ := ha
  refine ⟨iSeq G.K t, fun j => by have z := pi_seq (X := Xs j) (tg := tg) (p j); rw [F.K j] at z; exact z, fun ι S H σ ρ Q R e q => ?_⟩
  refine s.go R e q fun d S1 ι1 H1 v x1 R1 e1 r1 q1 => ?_
  cases h : itemsOf d S1 with
  | none => rw [h] at q1; exact q1.elim
  | some ds =>
    rw [h] at q1
    obtain ⟨a, vs, rfl, hs, rs⟩ := seq_at R1 r1 h
    exact ⟨isT d, a, rfl, ⟨vs, hs⟩, Post.here R1 q1 _ (walks_seq r1)⟩
/-! ### range -/
def rngD (lo : Int) (n : Nat) : List D := (List.range n).map fun (k : Nat) => .int (lo + (k : Int))
theorem rngD_length (lo : Int) (n : Nat) : (rngD lo n).length = n := by simp [rngD]
def smallI (i : Int) : Bool := decide (-(2 ^ 62) ≤ i ∧ i < 2 ^ 62)
theorem walks_rng {ι : Ix} {S : Sto} {H : Hp} {lo : Int} {n : Nat} : Walks G ⟨rngD lo n, []⟩ ι S H (Itr lo n) := fun ι2 S2 H2 x2 R2 hok => by
  refine ⟨by show n ≤ (rngD lo n).length; rw [rngD_length]; exact Nat.le_refl _, fun i y hy => ?_⟩
  have hy : (rngD lo n)[i]? = some y := hy
  have hi : i < n := by
    have := (List.getElem?_eq_some_iff.mp hy).1
    rwa [rngD_length] at this
  refine ⟨hi, fun x H3 hx => ?_⟩
  obtain ⟨rfl, rfl⟩ := hx
  have e : y = .int (lo + i) := by
    unfold rngD at hy
    rw [List.getElem?_map, List.getElem?_range hi] at hy
    cases hy
    rfl
  subst e
  exact ⟨Ext.refl, R2, .int _, fun _ _ h => h⟩
def c_rng1 (a : ACode) : Env → Sto → Res Wk := fun ρ S => (a ρ S).bind fun ds S1 => match ds with
  | [.int j] => if smallI j = true then .ok ⟨rngD 0 j.toNat, []⟩ S1 else .stuck
  | _ => .stuck
def c_rng2 (a : ACode) : Env → Sto → Res Wk := fun ρ S => (a ρ S).bind fun ds S1 => match ds with
  | [.int i, .int j] => if smallI i = true ∧ smallI j = true then .ok ⟨rngD i (j - i).toNat, []⟩ S1 else .stuck
  | _ => .stuck
theorem di_rng1 (F : FamH Xs G E) {tg e : Expr} {p pos : Pos} {a : ACode} (ha : DA Xs G E [e] a) (hg : ∀ j, Gl (Xs j) "range") (hm : G.mg "range" = none) (hs : ∀ j, starEach [e] (Xs j).env = [(false, eval e (Xs j).env)]) : DI Xs G E tg (.Call (.Name "range" p) [e] [] pos) (c_rng1 a) := by
  obtain ⟨t, pa, sa⟩ := ha
  refine ⟨_, fun j => pi_range1 (hg j) (by rw [F.mg j]; exact hm) (pa j) (hs j), fun ι S H σ ρ Q R e q => ?_⟩
  refine sa.go R e q fun ds S1 ι1 H1 vs x1 R1 e1 r1 q1 => ?_
  split at q1
  · rename_i j
    split at q1
    · rename_i hj
      obtain ⟨v, rfl, rv⟩ := r1.one
      have hj := of_decide_eq_true hj
      exact ⟨j, by rw [rv.int_of], hj.1, hj.2, Post.here R1 q1 _ walks_rng⟩
    · exact q1.elim
  · exact q1.elim
theorem di_rng2 (F : FamH Xs G E) {tg e e2 : Expr} {p pos : Pos} {a : ACode} (ha : DA Xs G E [e, e2] a) (hg : ∀ j, Gl (Xs j) "range") (hm : G.mg "range" = none) (hs : ∀ j, starEach [e, e2] (Xs j).env = [(false, eval e (Xs j).env), (false, eval e2 (Xs j).env)])
    (hs2 : ∀ j, starEach [e2] (Xs j).env = [(false, eval e2 (Xs j).env)]) : DI Xs G E tg (.Call (.Name "range" p) [e, e2] [] pos) (c_rng2 a) := by
  obtain ⟨t, pa, sa⟩ := ha
  refine ⟨_, fun j => pi_range2 (hg j) (by rw [F.mg j]; exact hm) (pa j) (hs j) (hs2 j), fun ι S H σ ρ Q R e q => ?_⟩
  refine sa.go R e q fun ds S1 ι1 H1 vs x1 R1 e1 r1 q1 => ?_
  split at q1
  · rename_i i j
    split at q1
    · rename_i hj
      obtain ⟨v, w, rfl, rv, rw'⟩ := r1.two
      have h1 := of_decide_eq_true hj.1
      have h2 := of_decide_eq_true hj.2
      exact ⟨i, j, by rw [rv.int_of, rw'.int_of], ⟨h1.1, h1.2, h2.1, h2.2⟩, Post.here R1 q1 _ walks_rng⟩
    · exact q1.elim
  · exact q1.elim
/-! ### enumerate, zip -/
def enumD (ds : List D) : List D := ds.zipIdx.map fun p => .tup [.int (p.2 : Nat), p.1]
theorem enumD_get {ds : List D} {i : Nat} {y : D} (h : (enumD ds)[i]? = some y) : ∃ d, ds[i]? = some d ∧ y = .tup [.int (i : Nat), d] := by
  unfold enumD at h
  rw [List.getElem?_map, List.getElem?_zipIdx] at h
  cases e : ds[i]? with
  | none => rw [e] at h; cases h
  | some d =>
    rw [e] at h
    cases h
    exact ⟨d, rfl, by simp⟩
theorem walks_enum {ι : Ix} {S : Sto} {H : Hp} {a : Addr} {d : D} {ds : List D} (r : Rep G ι (Lv ι S) H (.ref a) d) : Walks G ⟨enumD ds, [(d, ds)]⟩ ι S H (ItE (isT d) G.K a) := fun ι2 S2 H2 x2 R2 hok => by
  have hi : itemsOf d S2 = some ds := hok (d, ds) (by simp)
  obtain ⟨a', vs, e, hs, rs⟩ := seq_at R2 (r.mono x2) hi
  cases e
  refine ⟨⟨vs, hs, by rw [rs.length]; show _ ≤ (enumD ds).length; simp [enumD]⟩, fun i y hy => ?_⟩
  obtain ⟨d', hd, rfl⟩ := enumD_get hy
  obtain ⟨v, hv, rv⟩ := rs.get hd
  refine ⟨⟨vs, v, hs, hv⟩, fun x H3 hx => ?_⟩
  obtain ⟨T, w, rfl, hT, rfl, hx⟩ := hx
  have e := (hx vs hs).symm.trans hv
  cases e
  obtain ⟨x3, R3, r3⟩ := new_tup R2 hT (.cons (.int _) (.cons rv .nil))
  exact ⟨x3, R3, r3, keepNew hT⟩
def c_enum (a : ACode) : Env → Sto → Res Wk := fun ρ S => (a ρ S).bind fun xs S1 => match xs with
  | [x] => match itemsOf x S1 with
    | some ds => .ok ⟨enumD ds, [(x, ds)]⟩ S1
    | none => .stuck
  | _ => .stuck
theorem di_enum (F : FamH Xs G E) {elts : List Expr} {k : Nat} {tpos p pos : Pos} {e : Expr} {a : ACode} (ha : DA Xs G E [e] a) (hg : ∀ j, Gl (Xs j) "enumerate") (hm : G.mg "enumerate" = none) (hs : ∀ j, starEach [e] (Xs j).env = [(false, eval e (Xs j).env)]) :
    DI Xs G E (.Tuple elts k tpos) (.Call (.Name "enumerate" p) [e] [] pos) (c_enum a) := by
  obtain ⟨t, pa, sa⟩ := ha
  refine ⟨iEnumU G.K t, fun j => by have z := pi_enumU (X := Xs j) (elts := elts) (kk := k) (tpos := tpos) (p := p) (pos := pos) (hg j) (by rw [F.mg j]; exact hm) (pa j) (hs j); rw [F.K j] at z; exact z, fun ι S H σ ρ Q R e q => ?_⟩
  refine sa.go R e q fun ds S1 ι1 H1 vs x1 R1 e1 r1 q1 => ?_
  split at q1
  · rename_i d
    obtain ⟨v, rfl, rv⟩ := r1.one
    cases h : itemsOf d S1 with
    | none => rw [h] at q1; exact q1.elim
    | some ds =>
      rw [h] at q1
      obtain ⟨b, vs, rfl, hs, rs⟩ := seq_at R1 rv h
      exact ⟨isT d, b, vs, rfl, hs, Post.here R1 q1 _ (walks_enum rv)⟩
  · exact q1.elim
def zipD (ds es : List D) : List D := (ds.zip es).map fun p => .tup [p.1, p.2]
theorem zipD_get {ds es : List D} {i : Nat} {y : D} (h : (zipD ds es)[i]? = some y) : ∃ d e, ds[i]? = some d ∧ es[i]? = some e ∧ y = .tup [d, e] := by
  unfold zipD at h
  rw [List.getElem?_map] at h
  cases e : (ds.zip es)[i]? with
  | none => rw [e] at h; cases h
  | some p =>
    rw [e] at h
    cases h
    obtain ⟨h1, h2⟩ := List.getElem?_zip_eq_some.mp e
    exact ⟨_, _, h1, h2, rfl⟩
theorem walks_zip (sb : Bool) {ι : Ix} {S : Sto} {H : Hp} {a b : Addr} {d e : D} {ds es : List D} (r : Rep G ι (Lv ι S) H (.ref a) d) (r2 : Rep G ι (Lv ι S) H (.ref b) e) (hl : sb = true → ds.length = es.length) :
    Walks G ⟨zipD ds es, [(d, ds), (e, es)]⟩ ι S H (ItZ sb (isT d) (isT e) G.K a b) := fun ι2 S2 H2 x2 R2 hok => by
  have h1 : itemsOf d S2 = some ds := hok (d, ds) (by simp)
  have h2 : itemsOf e S2 = some es := hok (e, es) (by simp)
  obtain ⟨a', vs, ea, hs, rs⟩ := seq_at R2 (r.mono x2) h1
  cases ea
  obtain ⟨b', ws, eb, hs2, rs2⟩ := seq_at R2 (r2.mono x2) h2
  cases eb
  have hn : (zipD ds es).length = min ds.length es.length := by simp [zipD]
  refine ⟨⟨vs, ws, hs, hs2, ?_⟩, fun i y hy => ?_⟩
  · show if sb = true then vs.length ≤ (zipD ds es).length ∧ ws.length ≤ (zipD ds es).length else vs.length ≤ (zipD ds es).length ∨ ws.length ≤ (zipD ds es).length
    rw [hn, rs.length, rs2.length]
    cases sb with
    | true =>
      rw [if_pos rfl, hl rfl]
      omega
    | false =>
      rw [if_neg Bool.false_ne_true]
      omega
  · obtain ⟨d', e', hd, he, rfl⟩ := zipD_get hy
    obtain ⟨v, hv, rv⟩ := rs.get hd
    obtain ⟨w, hw, rw'⟩ := rs2.get he
    refine ⟨⟨vs, ws, v, w, hs, hs2, hv, hw⟩, fun x H3 hx => ?_⟩
    obtain ⟨T, p, q, rfl, hT, rfl, hx, hx2⟩ := hx
    have e1 := (hx vs hs).symm.trans hv
    have e2 := (hx2 ws hs2).symm.trans hw
    cases e1
    cases e2
    obtain ⟨x3, R3, r3⟩ := new_tup R2 hT (.cons rv (.cons rw' .nil))
    exact ⟨x3, R3, r3, keepNew hT⟩
def c_zip (sb : Bool) (a : ACode) : Env → Sto → Res Wk := fun ρ S => (a ρ S).bind fun xs S1 => match xs with
  | [x, y] => match itemsOf x S1, itemsOf y S1 with
    | some ds, some es => if sb = false ∨ ds.length = es.length then .ok ⟨zipD ds es, [(x, ds), (y, es)]⟩ S1 else .stuck
    | _, _ => .stuck
  | _ => .stuck
theorem snd_zip (sb : Bool) {t : TA} {a : ACode} (sa : SndA G E t a) : SndIt G E (iZipU sb G.K t) (c_zip sb a) := fun ι S H σ ρ Q R e q => by
  refine sa.go R e q fun ds S1 ι1 H1 vs x1 R1 e1 r1 q1 => ?_
  split at q1
  · rename_i x y
    obtain ⟨v, w, rfl, rv, rw'⟩ := r1.two
    cases h : itemsOf x S1 with
    | none => simp only [h] at q1; exact q1.elim
    | some ds =>
      cases h2 : itemsOf y S1 with
      | none => simp only [h, h2] at q1; exact q1.elim
      | some es =>
        simp only [h, h2] at q1
        split at q1
        · rename_i hl
          obtain ⟨a, vs, rfl, hs, rs⟩ := seq_at R1 rv h
          obtain ⟨b, ws, rfl, hs2, rs2⟩ := seq_at R1 rw' h2
          refine ⟨isT x, isT y, a, b, vs, ws, rfl, hs, hs2, Post.here R1 q1 _ (walks_zip sb rv rw' fun hsb => ?_)⟩
          rcases hl with hl | hl
          · rw [hsb] at hl
            cases hl
          · exact hl
        · exact q1.elim
  · exact q1.elim
theorem di_zip (F : FamH Xs G E) {elts : List Expr} {k : Nat} {tpos p pos : Pos} {e e2 : Expr} {a : ACode} (ha : DA Xs G E [e, e2] a) (hg : ∀ j, Gl (Xs j) "zip") (hm : G.mg "zip" = none)
    (hs : ∀ j, starEach [e, e2] (Xs j).env = (false, eval e (Xs j).env) :: starEach [e2] (Xs j).env) (hpl : ∀ j, (backTo pos (starEach [e2] (Xs j).env)).any (·.1) = false) :
    DI Xs G E (.Tuple elts k tpos) (.Call (.Name "zip" p) [e, e2] [] pos) (c_zip false a) := by
  obtain ⟨t, pa, sa⟩ := ha
  exact ⟨iZipU false G.K t, fun j => by have z := pi_zipU (X := Xs j) (elts := elts) (kk := k) (tpos := tpos) (p := p) (pos := pos) (hg j) (by rw [F.mg j]; exact hm) (pa j) (hs j) (hpl j); rw [F.K j] at z; exact z, snd_zip false sa⟩
theorem di_zipS (F : FamH Xs G E) {elts : List Expr} {k c : Nat} {tpos p pos kp cp : Pos} {e e2 : Expr} {a : ACode} (ha : DA Xs G E [e, e2] a) (hg : ∀ j, Gl (Xs j) "zip") (hm : G.mg "zip" = none)
    (he : ∀ j, backTo pos (starEach [e, e2] (Xs j).env) = (false, eval e (Xs j).env) :: backTo pos (starEach [e2] (Xs j).env)) (hpl : ∀ j, (backTo pos (starEach [e, e2] (Xs j).env)).any (·.1) = false) :
    DI Xs G E (.Tuple elts k tpos) (.Call (.Name "zip" p) [e, e2] [⟨some "strict", .Constant (.bool true) c cp, kp⟩] pos) (c_zip true a) := by
  obtain ⟨t, pa, sa⟩ := ha
  exact ⟨iZipU true G.K t, fun j => by have z := pi_zipK (X := Xs j) (elts := elts) (kk := k) (tpos := tpos) (p := p) (pos := pos) (c := c) (kp := kp) (cp := cp) (hg j) (by rw [F.mg j]; exact hm) (pa j) (he j) (hpl j); rw [F.K j] at z; exact z, snd_zip true sa⟩
/-! ### dict displays -/
def p_dK (b : Bool) (kds : List (Key × D)) (S : Sto) : Res D := match b with
  | false => .ok (.dK kds) S
  | true => .ok (.ref S.length) (S ++ [some (.dK kds)])
def p_dT (b : Bool) (kds : List (List Key × D)) (S : Sto) : Res D := match b with
  | false => .ok (.dT kds) S
  | true => .ok (.ref S.length) (S ++ [some (.dT kds)])
theorem snoc_get {ι : Ix} {S : Sto} {H : Hp} (R : Rel G ι S H) (p : Addr) : (ι.snoc p).l[S.length]? = some p := by
  show (ι.l ++ [p])[S.length]? = some p
  rw [← R.len]
  simp
theorem p_dK_ok {E0 : XK} {b : Bool} {ι : Ix} {S : Sto} {H : Hp} {kvs : List (Key × V)} {kds : List (Key × D)} {Q : VK} (R : Rel G ι S H) (e : kvs.map (·.1) = kds.map (·.1)) (r : Reps G ι (Lv ι S) H (kvs.map (·.2)) (kds.map (·.2))) (q : Post G E0 ι S H (PV G Q) (p_dK b kds S)) :
    ∀ p, H p = none → Q (.ref p) (upd H p (.dK kvs)) := fun p hp => by
  cases b with
  | false =>
    have x : Ext ι S H ι S (upd H p (.dK kvs)) := Ext.same (keepNew hp)
    exact q _ _ x (R.same (keepNew hp)) _ (.dK upd_same (R.freshL hp) e (r.mono x))
  | true =>
    have x : Ext ι S H (ι.snoc p) (S ++ [some (.dK kds)]) (upd H p (.dK kvs)) := Ext.new R hp
    exact q _ _ x (R.new hp ⟨kvs, upd_same, e, r.mono x⟩) _ (.ref (snoc_get R p))
theorem p_dT_ok {E0 : XK} {b : Bool} {ι : Ix} {S : Sto} {H : Hp} {kvs : List (List Key × V)} {kds : List (List Key × D)} {Q : VK} (R : Rel G ι S H) (e : kvs.map (·.1) = kds.map (·.1)) (r : Reps G ι (Lv ι S) H (kvs.map (·.2)) (kds.map (·.2))) (q : Post G E0 ι S H (PV G Q) (p_dT b kds S)) :
    ∀ p, H p = none → Q (.ref p) (upd H p (.dT kvs)) := fun p hp => by
  cases b with
  | false =>
    have x : Ext ι S H ι S (upd H p (.dT kvs)) := Ext.same (keepNew hp)
    exact q _ _ x (R.same (keepNew hp)) _ (.dT upd_same (R.freshL hp) e (r.mono x))
  | true =>
    have x : Ext ι S H (ι.snoc p) (S ++ [some (.dT kds)]) (upd H p (.dT kvs)) := Ext.new R hp
    exact q _ _ x (R.new hp ⟨kvs, upd_same, e, r.mono x⟩) _ (.ref (snoc_get R p))
/-- {} -/
def c_dK0 (b : Bool) : ECode := fun _ S => p_dK b [] S
def c_dT0 (b : Bool) : ECode := fun _ S => p_dT b [] S
theorem de_dK0 (b : Bool) {pos : Pos} : DE Xs G E (.Dict [] [] pos) (c_dK0 b) := ⟨_, fun _ => pe_dnewK, fun ι S H σ ρ Q R e q => p_dK_ok R (kvs := []) rfl .nil q⟩
theorem de_dT0 (b : Bool) {pos : Pos} : DE Xs G E (.Dict [] [] pos) (c_dT0 b) := ⟨_, fun _ => pe_dnewT, fun ι S H σ ρ Q R e q => p_dT_ok R (kvs := []) rfl .nil q⟩
/-! ### frozen at the end -/
/-- x, a cell of one's own, is returned and never written again -/
def frz (d : D) (S : Sto) : Res D := match d with
  | .ref n => match cellOf S n with
    | some (.lst ds) => .ok (.lst ds) (S.set n none)
    | some (.dK kds) => .ok (.dK kds) (S.set n none)
    | some (.dT kds) => .ok (.dT kds) (S.set n none)
    | some (.ins c fs) => .ok (.obj c fs) (S.set n none)
    | none => .ok d S
  | d => .ok d S
def c_frz (a : ECode) : ECode := fun ρ S => (a ρ S).bind frz
theorem snd_frz {E0 : XK} {ι : Ix} {S : Sto} {H : Hp} {v : V} {d : D} {Q : VK} (R : Rel G ι S H) (r : Rep G ι (Lv ι S) H v d) (q : Post G E0 ι S H (PV G Q) (frz d S)) : Q v H := by
  cases d with
  | ref n =>
    have q : Post G E0 ι S H (PV G Q) (match cellOf S n with
      | some (.lst ds) => .ok (.lst ds) (S.set n none)
      | some (.dK kds) => .ok (.dK kds) (S.set n none)
      | some (.dT kds) => .ok (.dT kds) (S.set n none)
      | some (.ins c fs) => .ok (.obj c fs) (S.set n none)
      | none => .ok (.ref n) S) := q
    have x : Ext ι S H ι (S.set n none) H := Ext.kill
    split at q
    · rename_i ds hs
      obtain ⟨a, rfl, hn, vs, ha, ra⟩ := ref_cell R r hs
      exact q _ _ x R.kill _ (.lst ha (R.killed hn) (ra.mono x))
    · rename_i ds hs
      obtain ⟨a, rfl, hn, vs, ha, he, ra⟩ := ref_cell R r hs
      exact q _ _ x R.kill _ (.dK ha (R.killed hn) he (ra.mono x))
    · rename_i ds hs
      obtain ⟨a, rfl, hn, vs, ha, he, ra⟩ := ref_cell R r hs
      exact q _ _ x R.kill _ (.dT ha (R.killed hn) he (ra.mono x))
    · rename_i c fs hs
      obtain ⟨a, rfl, hn, dx, vs, ha, he, ra⟩ := ref_cell R r hs
      exact q _ _ x R.kill _ (.obj ha (R.killed hn) he (ra.mono x))
    · exact Post.here R q _ r
  | _ => exact Post.here R q _ r
theorem de_frz {x : Expr} {a : ECode} (ha : DE Xs G E x a) : DE Xs G E x (c_frz a) := by
  obtain ⟨t, p, s⟩ := ha
  refine ⟨t, p, fun ι S H σ ρ Q R e q => ?_⟩
  exact s.go R e q fun d S1 ι1 H1 v x1 R1 e1 r1 q1 => snd_frz R1 r1 q1
end
end DL

set_option Elab.async false
set_option linter.all false
set_option maxRecDepth 100000
set_option maxHeartbeats 4000000
/-! DLD: dict displays with pairs -/
namespace DL
open PySem PySem.Spec PyProof.Rows L2

section
variable {X : Cx} {pins : List (Addr × Obj)} {σ : L2.St} {H : Hp} {s : Shared} {a : Addr} {y v : V} {u r : Value} {A : Around} {E : Value → Shared → Prop}
theorem d_dictSet {H' : Hp} {Q : Unit → Shared → Prop} (hu : A.units + 1 < cLine) (I : Inv X pins σ H s) (g : DPut H a y v H') (ry : RelV y u) (rv : RelV v r) (h : ∀ s', Inv X pins σ H' s' → Q () s') :
    wpAny (model X.prog X.w) A (dictSet a u r) Q E s := by
  rcases g with ⟨kvs, k, e, ey, l, eH⟩ | ⟨kvs, k, b, e, ey, eb, l, eH⟩
  · subst ey eH
    obtain ⟨z, hd, vs, rel, dd⟩ := dk_of I.hok e
    have hz : vs.length ≤ sizeLine := by rw [← rel.length]; exact z
    have hl : (putK kvs k v).length ≤ sizeLine := by have := length_putK kvs k v; omega
    refine wpAny_dictSet_pairs (hsz := hz) (kV_is ry) dd fun h' dd' hs => h _ ?_
    have he : ∃ q, h'.get? a = some q := let ⟨q, _, _, hq, _⟩ := dd'; ⟨q, hq⟩
    exact d_write I (by rw [e]; exact True.intro) hs he (dk_new hl hd (rel.put k rv) dd')
  · subst ey eH
    cases (show u = Value.ref b from ry)
    obtain ⟨z, hd, xs, rel, dd⟩ := dt_of I.hok e
    have hz : xs.length ≤ sizeLine := by rw [← Paired.length rel]; exact z
    have hl : (putK kvs k v).length ≤ sizeLine := by have := length_putK kvs k v; omega
    refine wpAny_dictSet_heap (hsz := hz) (show A.units < cLine by omega) (key_of I.hok eb) dd fun h' dd' hs => h _ ?_
    obtain ⟨q, es, ep, hq, h2, h3, h4, _, h5⟩ := dd'
    refine d_write I (by rw [e]; exact True.intro) hs ⟨q, hq⟩ ⟨hl, hd, _, (rel.put k eb rv).keeps fun c ys ec => ?_, q, es, ep, hq, h2, h3, h4, h5⟩
    rw [upd_ne (ne_of ec e (fun z => nomatch z))]
    exact ec
end
def emptyD : Bool → HO
  | false => .dK []
  | true => .dT []
def Puts (p : Addr) : List (V × V) → Hp → Hp → Prop
  | [], H, H' => H' = H
  | (x, y) :: r, H, H' => ∃ H1, DPut H p x y H1 ∧ Puts p r H1 H'
def tDispU (kT : Bool) (trs : List (TE × TE)) : TE := fun σ H Q => ∀ p, H p = none → tPairs trs σ (upd H p (emptyD kT)) fun ps H2 => ∃ H3, Puts p ps H2 H3 ∧ Q (.ref p) H3
theorem store_all {X : Cx} {pins : List (Addr × Obj)} {σ : L2.St} {A : Around} {E : Value → Shared → Prop} {a : Addr} (hu : A.units + 1 < cLine) : ∀ (ps : List (V × V)) (ws : List (Value × Value)) (H H' : Hp) (s : Shared) (Q : PUnit → Shared → Prop), Inv X pins σ H s → VV ps ws → Puts a ps H H' →
    (∀ s', Inv X pins σ H' s' → Q PUnit.unit s') →
    wpAny (model X.prog X.w) A (forIn ws PUnit.unit fun (x : Value × Value) (_ : PUnit) => (do dictSet a x.1 x.2; pure (ForInStep.yield PUnit.unit) : Sem (ForInStep PUnit))) Q E s
  | [], _, H, H', s, Q, I, .nil, g, h => by
    rw [List.forIn_nil]
    obtain rfl : H' = H := g
    exact wpAny_pure (h s I)
  | (x, y) :: ps, _, H, H', s, Q, I, .cons r rs, ⟨H1, g1, g2⟩, h => by
    rw [List.forIn_cons]
    refine wpAny_bind (wpAny_bind (d_dictSet hu I g1 r.1 r.2 fun s1 I1 => wpAny_pure ?_))
    exact store_all hu ps _ H1 H' s1 Q I1 rs g2 h
theorem pe_dispU (kT : Bool) {X : Cx} {pos : Pos} {keys : List (Option Expr)} {values : List Expr} {trs : List (TE × TE)} (hu : X.A.units + 1 < cLine) (h : PPs X pos keys values trs) (hall : keys.all (·.isSome) = true) (hl : keys.length = values.length) (h0 : keys ≠ [])
    (h15 : keys.length ≤ 15) : PE X (.Dict keys values pos) (tDispU kT trs) := by
  refine ⟨fun pins s σ H Q I q => ?_⟩
  have hn := I.hok.fresh (Nat.le_refl s.heap.objs.size)
  have I1 : Inv X pins σ (upd H s.heap.objs.size (emptyD kT)) { s with heap := s.heap.push { cls := .type "dict", data := .dict #[] } } := by
    cases kT with
    | false => exact I.laid (a := s.heap.objs.size) (o := .dK []) (h' := s.heap.push { cls := .type "dict", data := .dict #[] }) (t' := s.toks) (fun _ _ q => Heap.get?_push_of_some _ q) (Nat.le_refl _) (dk_empty s.heap I.big)
    | true => exact I.laid (a := s.heap.objs.size) (o := .dT []) (h' := s.heap.push { cls := .type "dict", data := .dict #[] }) (t' := s.toks) (fun _ _ q => Heap.get?_push_of_some _ q) (Nat.le_refl _) (dt_empty s.heap I.big)
  have hpl := pairTrees_length keys values X.env pos hall hl
  have hne : pairTrees keys values X.env pos ≠ [] := fun he => by
    rw [he] at hpl
    exact h0 (List.length_eq_zero_iff.mp hpl.symm)
  rw [arm_eval_Dict, zip_pairTrees keys values X.env pos hall hl, dictDisplay_pairs _ hne (by omega)]
  refine wpAny_bind (wpAny_standAt (wpAny_bind ?_))
  unfold subDict
  refine wpAny_bind (wpAny_alloc ?_)
  refine wpAny_bind (wpAny_holding ?_)
  rw [if_pos (by omega)]
  refine wpAny_bind (thn (h.run pins _ σ _ _ I1 (q _ hn)) fun ws s2 ⟨ps, H2, I2, rel, H3, g, q2⟩ => ?_)
  refine wpAny_holding ?_
  refine wpAny_bind (store_all hu ps ws H2 H3 s2 _ I2 rel g fun s3 I3 => wpAny_pure (wpAny_pure (wpAny_pure ?_)))
  exact ⟨.ref s.heap.objs.size, H3, I3, rfl, q2⟩
/-! ### on data -/
def SndPs (G : Gx) (E : WK) (trs : List (TE × TE)) (c : Env → Sto → Res (List (D × D))) : Prop := ∀ ι S H σ ρ (Q : List (V × V) → Hp → Prop), Rel G ι S H → REnv G ι S H σ ρ →
  Post G (E σ) ι S H (fun ps ι' S' H' => ∀ vs : List (V × V), Reps G ι' (Lv ι' S') H' (vs.map (·.1)) (ps.map (·.1)) → Reps G ι' (Lv ι' S') H' (vs.map (·.2)) (ps.map (·.2)) → Q vs H') (c ρ S) → tPairs trs σ H Q
def DPs {I : Type} (Xs : I → Cx) (G : Gx) (E : WK) (pos : Pos) (keys : List (Option Expr)) (values : List Expr) (c : Env → Sto → Res (List (D × D))) : Prop := ∃ trs, (∀ j, PPs (Xs j) pos keys values trs) ∧ SndPs G E trs c
def c_ps0 : Env → Sto → Res (List (D × D)) := fun _ S => .ok [] S
def c_ps (k v : ECode) (r : Env → Sto → Res (List (D × D))) : Env → Sto → Res (List (D × D)) := fun ρ S => (k ρ S).bind fun x S1 => (v ρ S1).bind fun y S2 => (r ρ S2).bind fun ps S3 => .ok ((x, y) :: ps) S3
section
variable {I : Type} {Xs : I → Cx} {G : Gx} {E : WK} {kk : Nat}
theorem dps_nil {pos : Pos} : DPs Xs G E pos [] [] c_ps0 := ⟨[], fun _ => pps_nil, fun ι S H σ ρ Q R e q => Post.here R q [] .nil .nil⟩
theorem dps_cons {pos : Pos} {k v : Expr} {ks : List (Option Expr)} {vs : List Expr} {ck cv : ECode} {r : Env → Sto → Res (List (D × D))} (hk : DE Xs G E k ck) (hv : DE Xs G E v cv) (hr : DPs Xs G E pos ks vs r) : DPs Xs G E pos (some k :: ks) (v :: vs) (c_ps ck cv r) := by
  obtain ⟨tk, pk, sk⟩ := hk
  obtain ⟨tv, pv, sv⟩ := hv
  obtain ⟨tr, pr, sr⟩ := hr
  refine ⟨(tk, tv) :: tr, fun j => pps_cons (pk j) (pv j) (pr j), fun ι S H σ ρ Q R e q => ?_⟩
  refine sk.go R e q fun d S1 ι1 H1 x x1 R1 e1 r1 q1 => ?_
  refine sv.go R1 e1 q1 fun d2 S2 ι2 H2 y x2 R2 e2 r2 q2 => ?_
  refine sr ι2 S2 H2 σ ρ _ R2 e2 (Post.bind q2 fun ps S3 ι3 H3 x3 R3 q3 vs h1 h2 => ?_)
  exact Post.here R3 q3 ((x, y) :: vs) (.cons ((r1.mono x2).mono x3) h1) (.cons (r2.mono x3) h2)
def mergeD {κ : Type} [DecidableEq κ] (kds : List (κ × D)) : List (κ × D) → List (κ × D)
  | [] => kds
  | p :: r => mergeD (putD kds p.1 p.2) r
def keyedK (ps : List (D × D)) : Option (List (Key × D)) := ps.mapM fun p => (keyOf p.1).map fun k => (k, p.2)
def keyedT (ps : List (D × D)) : Option (List (List Key × D)) := ps.mapM fun p => (keysOf p.1).map fun k => (k, p.2)
def p_dispK (b : Bool) (ps : List (D × D)) (S : Sto) : Res D := match keyedK ps with
  | some kds => if kds.length ≤ 1000 then p_dK b (mergeD [] kds) S else .stuck
  | none => .stuck
def p_dispT (b : Bool) (ps : List (D × D)) (S : Sto) : Res D := match keyedT ps with
  | some kds => if kds.length ≤ 1000 then p_dT b (mergeD [] kds) S else .stuck
  | none => .stuck
theorem putD_length {κ : Type} [DecidableEq κ] (kds : List (κ × D)) (k : κ) (d : D) : (putD kds k d).length ≤ kds.length + 1 := by
  unfold putD
  split <;> simp
theorem hide_rel {ι : Ix} {S : Sto} {H : Hp} {p : Addr} {o : HO} (R : Rel G ι S H) (hp : H p = none) (hnt : ∀ xs, o ≠ .tup xs) : Ext ι S H (ι.hide p) S (upd H p o) ∧ Rel G (ι.hide p) S (upd H p o) := by
  have np : p ∉ ι.l := fun z => by
    obtain ⟨u, h⟩ := R.trk p z
    rw [hp] at h
    cases h
  have R2 : Rel G ι S (upd H p o) := R.same (keepNew hp)
  have x0 : Ext ι S H ι S (upd H p o) := Ext.same (keepNew hp)
  have xh : Ext ι S H (ι.hide p) S (upd H p o) := by
    refine ⟨⟨[], by simp⟩, fun a z => .inl z, fun a z => ?_, x0.trk, x0.liv, x0.keep⟩
    rcases z with z | z
    · exact .inl z
    · exact .inr (by rw [z]; exact hp)
  refine ⟨xh, R2.len, R2.nd, fun n c h => ?_, R2.trk, fun a z => ?_⟩
  · obtain ⟨a, h1, h2⟩ := R.cell n c h
    exact ⟨a, h1, h2.mono xh (upd_ne fun z => np (z ▸ List.mem_of_getElem? h1))⟩
  · rcases z with z | z
    · exact R2.ztr a z
    · rw [z]
      exact ⟨⟨_, upd_same, hnt⟩, np⟩
theorem puts_K {ι0 : Ix} {S0 : Sto} {H0 : Hp} {p : Addr} (hp0 : H0 p = none) {ι : Ix} {S : Sto} (hz : ι.z p) : ∀ (vs : List (V × V)) (kds acc : List (Key × D)) (kvs : List (Key × V)) (H : Hp), Ext ι0 S0 H0 ι S H → Rel G ι S H → H p = some (.dK kvs) → kvs.map (·.1) = acc.map (·.1) →
    Reps G ι (Lv ι S) H (kvs.map (·.2)) (acc.map (·.2)) → vs.map (·.1) = kds.map (fun kd => kV kd.1) → Reps G ι (Lv ι S) H (vs.map (·.2)) (kds.map (·.2)) → acc.length + kds.length ≤ 1000 →
    ∃ H' kvs', Puts p vs H H' ∧ Ext ι0 S0 H0 ι S H' ∧ Rel G ι S H' ∧ H' p = some (.dK kvs') ∧ kvs'.map (·.1) = (mergeD acc kds).map (·.1) ∧ Reps G ι (Lv ι S) H' (kvs'.map (·.2)) ((mergeD acc kds).map (·.2))
  | [], [], acc, kvs, H, x, R, hH, he, hr, _, _, _ => ⟨H, kvs, rfl, x, R, hH, he, hr⟩
  | [], _ :: _, _, _, _, _, _, _, _, _, e, _, _ => by cases e
  | _ :: _, [], _, _, _, _, _, _, _, _, e, _, _ => by cases e
  | (a, w) :: vs, (k, d) :: kds, acc, kvs, H, x, R, hH, he, hr, e, .cons r rs, hl => by
    simp only [List.map_cons, List.cons.injEq] at e
    obtain ⟨rfl, e⟩ := e
    obtain ⟨e1, e2⟩ := putD_rep k he hr r
    obtain ⟨m1, m2, R1⟩ := R.hid (o := .dK (putK kvs k w)) hz (fun _ h => nomatch h)
    have hln := len_fst he
    simp only [List.length_cons] at hl
    obtain ⟨H', kvs', g, x', R', hH', he', hr'⟩ := puts_K hp0 hz vs kds (putD acc k d) (putK kvs k w) (upd H p (.dK (putK kvs k w))) (x.hid hp0) R1 upd_same e1 (m2 _ _ e2) e (m2 _ _ rs) (by have := putD_length acc k d; omega)
    exact ⟨H', kvs', ⟨_, DPut.k hH (by rw [hln, sizeLine_eq]; omega), g⟩, x', R', hH', he', hr'⟩
theorem mapM_keys : ∀ k : List Key, (k.map keyD).mapM keyOf = some k
  | [] => rfl
  | x :: k => by
    rw [List.map_cons, List.mapM_cons, mapM_keys k]
    cases x <;> rfl
theorem puts_T {ι0 : Ix} {S0 : Sto} {H0 : Hp} {p : Addr} (hp0 : H0 p = none) {ι : Ix} {S : Sto} (hz : ι.z p) : ∀ (vs : List (V × V)) (kds acc : List (List Key × D)) (kvs : List (List Key × V)) (H : Hp), Ext ι0 S0 H0 ι S H → Rel G ι S H → H p = some (.dT kvs) → kvs.map (·.1) = acc.map (·.1) →
    Reps G ι (Lv ι S) H (kvs.map (·.2)) (acc.map (·.2)) → Reps G ι (Lv ι S) H (vs.map (·.1)) (kds.map fun kd => .tup (kd.1.map keyD)) → Reps G ι (Lv ι S) H (vs.map (·.2)) (kds.map (·.2)) → acc.length + kds.length ≤ 1000 →
    ∃ H' kvs', Puts p vs H H' ∧ Ext ι0 S0 H0 ι S H' ∧ Rel G ι S H' ∧ H' p = some (.dT kvs') ∧ kvs'.map (·.1) = (mergeD acc kds).map (·.1) ∧ Reps G ι (Lv ι S) H' (kvs'.map (·.2)) ((mergeD acc kds).map (·.2))
  | [], [], acc, kvs, H, x, R, hH, he, hr, _, _, _ => ⟨H, kvs, rfl, x, R, hH, he, hr⟩
  | [], _ :: _, _, _, _, _, _, _, _, _, e, _, _ => by cases e
  | _ :: _, [], _, _, _, _, _, _, _, _, e, _, _ => by cases e
  | (a, w) :: vs, (k, d) :: kds, acc, kvs, H, x, R, hH, he, hr, .cons q qs, .cons r rs, hl => by
    have hkey : keysOf (.tup (k.map keyD)) = some k := by
      exact mapM_keys k
    obtain ⟨b, rfl, hb⟩ := keysOf_at q hkey
    obtain ⟨e1, e2⟩ := putD_rep k he hr r
    obtain ⟨m1, m2, R1⟩ := R.hid (o := .dT (putK kvs k w)) hz (fun _ h => nomatch h)
    have hln := len_fst he
    simp only [List.length_cons] at hl
    obtain ⟨H', kvs', g, x', R', hH', he', hr'⟩ := puts_T hp0 hz vs kds (putD acc k d) (putK kvs k w) (upd H p (.dT (putK kvs k w))) (x.hid hp0) R1 upd_same e1 (m2 _ _ e2) (m2 _ _ qs) (m2 _ _ rs) (by have := putD_length acc k d; omega)
    exact ⟨H', kvs', ⟨_, DPut.t hH hb (by rw [hln, sizeLine_eq]; omega), g⟩, x', R', hH', he', hr'⟩
theorem keyedK_rep {ι : Ix} {L : Addr → Prop} {H : Hp} : ∀ {vs : List (V × V)} {ps : List (D × D)} {kds : List (Key × D)}, Reps G ι L H (vs.map (·.1)) (ps.map (·.1)) → keyedK ps = some kds → vs.map (·.1) = kds.map (fun kd => kV kd.1) ∧ ps.map (·.2) = kds.map (·.2)
  | [], [], kds, _, h => by
    cases h
    exact ⟨rfl, rfl⟩
  | (v, w) :: vs, (x, y) :: ps, kds, .cons q qs, h => by
    unfold keyedK at h
    rw [List.mapM_cons] at h
    cases hk : keyOf x with
    | none => simp only [hk, Option.map_none] at h; cases h
    | some k =>
      simp only [hk, Option.map_some] at h
      cases ht : keyedK ps with
      | none =>
        unfold keyedK at ht
        rw [ht] at h
        cases h
      | some kds' =>
        have ih := keyedK_rep qs ht
        unfold keyedK at ht
        rw [ht] at h
        cases h
        have e0 : v = kV k := keyOf_rep q hk
        exact ⟨by rw [List.map_cons, List.map_cons, ih.1, e0], by rw [List.map_cons, List.map_cons, ih.2]⟩
theorem mapM_keyD : ∀ {ds : List D} {k : List Key}, ds.mapM keyOf = some k → ds = k.map keyD
  | [], k, h => by
    cases h
    rfl
  | d :: ds, k, h => by
    rw [List.mapM_cons] at h
    cases hd : keyOf d with
    | none => rw [hd] at h; cases h
    | some x =>
      rw [hd] at h
      cases ht : ds.mapM keyOf with
      | none => rw [ht] at h; cases h
      | some k' =>
        rw [ht] at h
        cases h
        rw [List.map_cons, mapM_keyD ht]
        congr 1
        cases d <;> cases hd <;> rfl
theorem keyedT_rep : ∀ {ps : List (D × D)} {kds : List (List Key × D)}, keyedT ps = some kds → ps.map (·.1) = kds.map (fun kd => .tup (kd.1.map keyD)) ∧ ps.map (·.2) = kds.map (·.2)
  | [], kds, h => by
    cases h
    exact ⟨rfl, rfl⟩
  | (x, y) :: ps, kds, h => by
    unfold keyedT at h
    rw [List.mapM_cons] at h
    cases hk : keysOf x with
    | none => simp only [hk, Option.map_none] at h; cases h
    | some k =>
      simp only [hk, Option.map_some] at h
      cases ht : keyedT ps with
      | none =>
        unfold keyedT at ht
        rw [ht] at h
        cases h
      | some kds' =>
        have ih := keyedT_rep ht
        unfold keyedT at ht
        rw [ht] at h
        cases h
        obtain ⟨ds, rfl, hk⟩ := keysOf_tup hk
        exact ⟨by rw [List.map_cons, List.map_cons, ih.1, mapM_keyD hk], by rw [List.map_cons, List.map_cons, ih.2]⟩
/-- what was hidden is shown, for good -/
theorem shown {ι0 ι : Ix} {S0 S : Sto} {H0 H : Hp} {p : Addr} (R0 : Rel G ι0 S0 H0) (hp : H0 p = none) (x : Ext ι0 S0 H0 ι S H) (R : Rel G ι S H) (hz : ι.z p) :
    Ext ι0 S0 H0 ⟨ι.l, fun a => ι.z a ∧ a ≠ p⟩ S H ∧ Rel G ⟨ι.l, fun a => ι.z a ∧ a ≠ p⟩ S H ∧ (∀ vs ds, Reps G ι (Lv ι S) H vs ds → Reps G ⟨ι.l, fun a => ι.z a ∧ a ≠ p⟩ (Lv ⟨ι.l, fun a => ι.z a ∧ a ≠ p⟩ S) H vs ds) ∧ ¬ Lv ⟨ι.l, fun a => ι.z a ∧ a ≠ p⟩ S p := by
  have nz : ∀ a, ι0.z a → a ≠ p := fun a z e' => by
    obtain ⟨⟨u, h, _⟩, _⟩ := R0.ztr a z
    rw [e', hp] at h
    cases h
  have hw : ∀ a, Lv ⟨ι.l, fun a => ι.z a ∧ a ≠ p⟩ S a → Lv ι S a := fun a z => by
    rcases z with z | z
    · exact .inl z
    · exact .inr z.1
  have np : p ∉ ι.l := (R.ztr p hz).2
  refine ⟨⟨x.pre, fun a z => ⟨x.zs a z, nz a z⟩, fun a z => x.zn a z.1, x.trk, x.liv, x.keep⟩, R.unhide, fun vs ds r => r.weak (ι := ι) (ι' := ⟨ι.l, fun a => ι.z a ∧ a ≠ p⟩) hw rfl, fun z => ?_⟩
  rcases z with ⟨n, c, h1, _⟩ | z
  · exact np (List.mem_of_getElem? h1)
  · exact z.2 rfl
/-- what was hidden is a cell -/
theorem adopt {ι0 ι : Ix} {S0 S : Sto} {H0 H : Hp} {p : Addr} {c : Cell} (R0 : Rel G ι0 S0 H0) (hp : H0 p = none) (x : Ext ι0 S0 H0 ι S H) (R : Rel G ι S H) (hz : ι.z p) (hc : CellIs G ι (Lv ι S) H p c) :
    Ext ι0 S0 H0 ⟨ι.l ++ [p], fun a => ι.z a ∧ a ≠ p⟩ (S ++ [some c]) H ∧ Rel G ⟨ι.l ++ [p], fun a => ι.z a ∧ a ≠ p⟩ (S ++ [some c]) H := by
  have nz : ∀ a, ι0.z a → a ≠ p := fun a z e' => by
    obtain ⟨⟨u, h, _⟩, _⟩ := R0.ztr a z
    rw [e', hp] at h
    cases h
  have np : p ∉ ι.l := (R.ztr p hz).2
  have old : ∀ n a c', (ι.l ++ [p])[n]? = some a → (S ++ [some c])[n]? = some (some c') → (ι.l[n]? = some a ∧ S[n]? = some (some c')) ∨ (a = p ∧ c' = c ∧ n = S.length) := fun n a c' h1 h2 => by
    by_cases hlt : n < S.length
    · rw [List.getElem?_append_left hlt] at h2
      rw [List.getElem?_append_left (by rw [R.len]; exact hlt)] at h1
      exact .inl ⟨h1, h2⟩
    · have hl : n < (S ++ [some c]).length := (List.getElem?_eq_some_iff.mp h2).1
      have e : n = S.length := by
        simp at hl
        omega
      subst e
      rw [← R.len] at h1
      simp at h1 h2
      exact .inr ⟨h1.symm, h2.symm, rfl⟩
  have hw : ∀ a, Lv ⟨ι.l ++ [p], fun a => ι.z a ∧ a ≠ p⟩ (S ++ [some c]) a → Lv ι S a := fun a z => by
    rcases z with ⟨n, c', h1, h2⟩ | z
    · rcases old n a c' h1 h2 with ⟨h1, h2⟩ | ⟨rfl, _, _⟩
      · exact .inl ⟨n, c', h1, h2⟩
      · exact .inr hz
    · exact .inr z.1
  have hl : ∀ m, m < ι.l.length → (⟨ι.l ++ [p], fun a => ι.z a ∧ a ≠ p⟩ : Ix).l[m]? = ι.l[m]? := fun m hm => List.getElem?_append_left hm
  have up : ∀ a c', CellIs G ι (Lv ι S) H a c' → CellIs G ⟨ι.l ++ [p], fun a => ι.z a ∧ a ≠ p⟩ (Lv ⟨ι.l ++ [p], fun a => ι.z a ∧ a ≠ p⟩ (S ++ [some c])) H a c' := fun a c' h => by
    cases c' with
    | lst ds =>
      obtain ⟨vs, a1, a2⟩ := h
      exact ⟨vs, a1, Reps.cut hw hl a2.lt a2⟩
    | dK ds =>
      obtain ⟨vs, a1, a3, a2⟩ := h
      exact ⟨vs, a1, a3, Reps.cut hw hl a2.lt a2⟩
    | dT ds =>
      obtain ⟨vs, a1, a3, a2⟩ := h
      exact ⟨vs, a1, a3, Reps.cut hw hl a2.lt a2⟩
    | ins c fs =>
      obtain ⟨dx, vs, a1, a3, a2⟩ := h
      exact ⟨dx, vs, a1, a3, Reps.cut hw hl a2.lt a2⟩
  obtain ⟨t, ht⟩ := x.pre
  refine ⟨⟨⟨t ++ [p], by rw [ht, List.append_assoc]⟩, fun a z => ⟨x.zs a z, nz a z⟩, fun a z => x.zn a z.1, x.trk, fun a z => ?_, x.keep⟩, ⟨by simp [R.len], ?_, fun n c' h => ?_, fun a ha => ?_, fun a z => ?_⟩⟩
  · obtain ⟨n, c', h1, h2⟩ := z
    rcases old n a c' h1 h2 with ⟨h1, h2⟩ | ⟨rfl, _, _⟩
    · exact x.liv a ⟨n, c', h1, h2⟩
    · exact .inr hp
  · show (ι.l ++ [p]).Nodup
    rw [List.nodup_append]
    refine ⟨R.nd, by simp, fun a ha b hb z => ?_⟩
    simp at hb
    exact np (by rw [← hb, ← z]; exact ha)
  · by_cases hlt : n < S.length
    · rw [List.getElem?_append_left hlt] at h
      obtain ⟨a, h1, h2⟩ := R.cell n c' h
      exact ⟨a, by show (ι.l ++ [p])[n]? = some a; rw [List.getElem?_append_left (by rw [R.len]; exact hlt)]; exact h1, up a c' h2⟩
    · have hln : n < (S ++ [some c]).length := (List.getElem?_eq_some_iff.mp h).1
      have e : n = S.length := by
        simp at hln
        omega
      subst e
      simp at h
      subst h
      refine ⟨p, ?_, up p _ hc⟩
      show (ι.l ++ [p])[S.length]? = some p
      rw [← R.len]
      simp
  · rcases List.mem_append.mp ha with ha | ha
    · exact R.trk a ha
    · simp at ha
      subst ha
      obtain ⟨⟨o, h, _⟩, _⟩ := R.ztr a hz
      exact ⟨o, h⟩
  · obtain ⟨q, n⟩ := R.ztr a z.1
    refine ⟨q, fun hm => ?_⟩
    rcases List.mem_append.mp hm with hm | hm
    · exact n hm
    · simp at hm
      exact z.2 hm
theorem show_K {b : Bool} {ι0 ι : Ix} {S0 S : Sto} {H0 H : Hp} {p : Addr} {kvs : List (Key × V)} {kds : List (Key × D)} {Q : VK} (R0 : Rel G ι0 S0 H0) (hp : H0 p = none) (x : Ext ι0 S0 H0 ι S H) (R : Rel G ι S H) (hz : ι.z p) (hH : H p = some (.dK kvs)) (he : kvs.map (·.1) = kds.map (·.1))
    (hr : Reps G ι (Lv ι S) H (kvs.map (·.2)) (kds.map (·.2))) (q : Post G (E σ) ι0 S0 H0 (PV G Q) (p_dK b kds S)) : Q (.ref p) H := by
  cases b with
  | false =>
    obtain ⟨xu, Ru, hu, nl⟩ := shown R0 hp x R hz
    exact q _ _ xu Ru _ (.dK hH nl he (hu _ _ hr))
  | true =>
    obtain ⟨xu, Ru⟩ := adopt (c := .dK kds) R0 hp x R hz ⟨kvs, hH, he, hr⟩
    refine q _ _ xu Ru _ (.ref ?_)
    show (ι.l ++ [p])[S.length]? = some p
    rw [← R.len]
    simp
theorem show_T {b : Bool} {ι0 ι : Ix} {S0 S : Sto} {H0 H : Hp} {p : Addr} {kvs : List (List Key × V)} {kds : List (List Key × D)} {Q : VK} (R0 : Rel G ι0 S0 H0) (hp : H0 p = none) (x : Ext ι0 S0 H0 ι S H) (R : Rel G ι S H) (hz : ι.z p) (hH : H p = some (.dT kvs)) (he : kvs.map (·.1) = kds.map (·.1))
    (hr : Reps G ι (Lv ι S) H (kvs.map (·.2)) (kds.map (·.2))) (q : Post G (E σ) ι0 S0 H0 (PV G Q) (p_dT b kds S)) : Q (.ref p) H := by
  cases b with
  | false =>
    obtain ⟨xu, Ru, hu, nl⟩ := shown R0 hp x R hz
    exact q _ _ xu Ru _ (.dT hH nl he (hu _ _ hr))
  | true =>
    obtain ⟨xu, Ru⟩ := adopt (c := .dT kds) R0 hp x R hz ⟨kvs, hH, he, hr⟩
    refine q _ _ xu Ru _ (.ref ?_)
    show (ι.l ++ [p])[S.length]? = some p
    rw [← R.len]
    simp
def c_dispK (b : Bool) (r : Env → Sto → Res (List (D × D))) : ECode := fun ρ S => (r ρ S).bind (p_dispK b)
def c_dispT (b : Bool) (r : Env → Sto → Res (List (D × D))) : ECode := fun ρ S => (r ρ S).bind (p_dispT b)
theorem Post.step {E0 : XK} {ιb ι : Ix} {Sb S : Sto} {Hb H : Hp} {α β : Type} {P : α → Ix → Sto → Hp → Prop} {P' : β → Ix → Sto → Hp → Prop} {r : Res α} {k : α → Sto → Res β} (x0 : Ext ιb Sb Hb ι S H) (p : Post G E0 ιb Sb Hb P' (r.bind k))
    (hk : ∀ a S1 ι1 H1, Ext ι S H ι1 S1 H1 → Rel G ι1 S1 H1 → Post G E0 ιb Sb Hb P' (k a S1) → P a ι1 S1 H1) : Post G E0 ι S H P r := by
  cases r with
  | ok a S2 => exact fun ι2 H2 y R => hk a S2 ι2 H2 y R p
  | ex c d S2 => exact fun ι2 H2 dd v y R => p ι2 H2 dd v (x0.trans y) R
  | stuck => exact p
theorem de_dispK (b : Bool) (F : Fam Xs G E kk) {pos : Pos} {keys : List (Option Expr)} {values : List Expr} {r : Env → Sto → Res (List (D × D))} (h : DPs Xs G E pos keys values r) (hall : keys.all (·.isSome) = true) (hl : keys.length = values.length) (h0 : keys ≠ []) (h15 : keys.length ≤ 15) :
    DE Xs G E (.Dict keys values pos) (c_dispK b r) := by
  obtain ⟨trs, pr, sr⟩ := h
  refine ⟨_, fun j => pe_dispU false (F.hu j) (pr j) hall hl h0 h15, fun ι S H σ ρ Q R e q p hp => ?_⟩
  obtain ⟨x0, R1⟩ := hide_rel (o := .dK []) R hp (fun _ h => nomatch h)
  refine sr (ι.hide p) S _ σ ρ _ R1 (e.mono x0) (Post.step x0 q fun ps S2 ι2 H2 x2 R2 q2 vs h1 h2 => ?_)
  have nl : ¬ Liv (ι.hide p) S p := fun z => by
    obtain ⟨n, c, h1, _⟩ := z
    exact (R1.ztr p (.inr rfl)).2 (List.mem_of_getElem? h1)
  have hH : H2 p = some (.dK []) := x2.keep p _ upd_same nl
  unfold p_dispK at q2
  cases hk : keyedK ps with
  | none => rw [hk] at q2; exact q2.elim
  | some kds =>
    rw [hk] at q2
    have q2 : Post G (E σ) ι S H (PV G Q) (if kds.length ≤ 1000 then p_dK b (mergeD [] kds) S2 else .stuck) := q2
    by_cases hlen : kds.length ≤ 1000
    · rw [if_pos hlen] at q2
      obtain ⟨e1, e2⟩ := keyedK_rep h1 hk
      rw [e2] at h2
      have xx : Ext ι S H ι2 S2 H2 := x0.trans x2
      obtain ⟨H3, kvs, g, x3, R3, hH3, he3, hr3⟩ := puts_K hp (x2.zs p (.inr rfl)) vs kds [] [] H2 xx R2 hH rfl .nil e1 h2 (by simpa using hlen)
      exact ⟨H3, g, show_K R hp x3 R3 (x2.zs p (.inr rfl)) hH3 he3 hr3 q2⟩
    · rw [if_neg hlen] at q2
      exact q2.elim
theorem de_dispT (b : Bool) (F : Fam Xs G E kk) {pos : Pos} {keys : List (Option Expr)} {values : List Expr} {r : Env → Sto → Res (List (D × D))} (h : DPs Xs G E pos keys values r) (hall : keys.all (·.isSome) = true) (hl : keys.length = values.length) (h0 : keys ≠ []) (h15 : keys.length ≤ 15) :
    DE Xs G E (.Dict keys values pos) (c_dispT b r) := by
  obtain ⟨trs, pr, sr⟩ := h
  refine ⟨_, fun j => pe_dispU true (F.hu j) (pr j) hall hl h0 h15, fun ι S H σ ρ Q R e q p hp => ?_⟩
  obtain ⟨x0, R1⟩ := hide_rel (o := .dT []) R hp (fun _ h => nomatch h)
  refine sr (ι.hide p) S _ σ ρ _ R1 (e.mono x0) (Post.step x0 q fun ps S2 ι2 H2 x2 R2 q2 vs h1 h2 => ?_)
  have nl : ¬ Liv (ι.hide p) S p := fun z => by
    obtain ⟨n, c, h1, _⟩ := z
    exact (R1.ztr p (.inr rfl)).2 (List.mem_of_getElem? h1)
  have hH : H2 p = some (.dT []) := x2.keep p _ upd_same nl
  unfold p_dispT at q2
  cases hk : keyedT ps with
  | none => rw [hk] at q2; exact q2.elim
  | some kds =>
    rw [hk] at q2
    have q2 : Post G (E σ) ι S H (PV G Q) (if kds.length ≤ 1000 then p_dT b (mergeD [] kds) S2 else .stuck) := q2
    by_cases hlen : kds.length ≤ 1000
    · rw [if_pos hlen] at q2
      obtain ⟨e0, e2⟩ := keyedT_rep hk
      rw [e0] at h1
      have e1 := h1
      rw [e2] at h2
      have xx : Ext ι S H ι2 S2 H2 := x0.trans x2
      obtain ⟨H3, kvs, g, x3, R3, hH3, he3, hr3⟩ := puts_T hp (x2.zs p (.inr rfl)) vs kds [] [] H2 xx R2 hH rfl .nil e1 h2 (by simpa using hlen)
      exact ⟨H3, g, show_T R hp x3 R3 (x2.zs p (.inr rfl)) hH3 he3 hr3 q2⟩
    · rw [if_neg hlen] at q2
      exact q2.elim
end
end DL

set_option Elab.async false
set_option linter.all false
set_option maxRecDepth 100000
set_option maxHeartbeats 4000000
/-! DLR: the end of a law; keywords -/
namespace DL
open PySem PySem.Spec PyProof.Rows L2

/-- the law's mirror gives True on every script -/
def Tells (n : Nat) (m : List D → Sto → Res D) : Prop := ∀ ns : List Int, ns.length ≤ n → (∀ z ∈ ns, Builtin.Int.intBits z ≤ 1048576) → ∃ S, m [.scr (ns.map D.int)] [] = .ok (.bl true) S
theorem scr_reps {G : Gx} {ι : Ix} {L : Addr → Prop} {H : Hp} : ∀ ns : List Int, Reps G ι L H (ns.map V.int) (ns.map D.int)
  | [] => .nil
  | n :: ns => .cons (.int n) (scr_reps ns)
theorem law_callD {G0 : Heap → Gx} {P : Program} {w : World} {K : PySem.W.Frag} {mg mb : Str → Option Value} {k : Nat} {fa a : Addr} {fd : FuncData} {x : Str} {m : Gx → List D → Sto → Res D} {s₁ : Shared} {vs : List Value} {ns : List Int}
    (hG : ∀ base, (G0 base).P = P ∧ (G0 base).w = w ∧ (G0 base).K = K ∧ (G0 base).mg = mg ∧ (G0 base).base = base)
    (KX : K.In s₁.heap) (hns : s₁.heap.Ns mainGlobals mg) (hb : s₁.heap.Ns builtinsNs mb) (hbb : ∀ x : Str, x ≠ "__name__" → mb x = bootBuiltins x) (hlim : s₁.heap.NoLimit) (hg : s₁.gens = #[])
    (ha : s₁.heap.get? a = some { cls := .type "list", data := .seq vs.toArray }) (hi : IntsAre vs ns) (hl : ns.length ≤ sizeLine) (hr : Room k callerA)
    (F : ∀ base : Heap, K.In base → base.Ns mainGlobals mg → FnB (G0 base) k fa fd [x] (m (G0 base))) (hbind : ∀ (s : Shared) (u : Value), BindsTo s fd ⟨[u], []⟩ [(x, u)])
    (hm : ∀ base, ∃ S, m (G0 base) [.scr (ns.map D.int)] [] = .ok (.bl true) S) :
    codeAny (model P w) callerA (.call (.ref fa) ⟨[.ref a], []⟩) (fun r s' => r = .ok (.ret (.bool true)) ∧ OldK s₁.heap s'.heap ∧ s'.os = s₁.os ∧ AllBare s'.gens) s₁ := by
  have rv := vals_ints hi
  have lenV := hi.length
  have core : ∀ H : Hp, Only H → SqL K H a (ns.map V.int) → HOk P w H s₁.heap → (∀ b, H b ≠ none → b = a) → (H a ≠ none → K.lookup a = none) →
      codeAny (model P w) callerA (.call (.ref fa) ⟨[.ref a], []⟩) (fun r s' => r = .ok (.ret (.bool true)) ∧ OldK s₁.heap s'.heap ∧ s'.os = s₁.os ∧ AllBare s'.gens) s₁ := by
    intro H hO hS hok hA hK
    have base_of : ∀ {b : Addr} {o : Obj}, s₁.heap.get? b = some o → H b = none → (hidT s₁.heap H).get? b = some o := fun e n => hidT_get e n
    have noA : ∀ {b : Addr} {o : Obj} {es : Array DictEntry} {ep : Nat}, s₁.heap.get? b = some o → o.data = .dict es ep → H b = none := fun {b o es ep} e d => by
      cases q : H b with
      | none => rfl
      | some u =>
        have e' : b = a := hA b (by rw [q]; simp)
        subst e'
        rw [ha] at e; cases e
        have d' : Data.seq vs.toArray _ = Data.dict es ep := d
        cases d'
    have nsK : ∀ {b : Addr} {m : Str → Option Value}, s₁.heap.Ns b m → (hidT s₁.heap H).Ns b m := fun {b m} ⟨o, es, ep, e, d, r⟩ => ⟨o, es, ep, base_of e (noA e d), d, r⟩
    have hKb : K.In (hidT s₁.heap H) := fun b o e => base_of (KX b o e) (by
      cases q : H b with
      | none => rfl
      | some u =>
        have e' : b = a := hA b (by rw [q]; simp)
        subst e'
        rw [hK (by rw [q]; simp)] at e; cases e)
    have hM : Mod K mg (hidT s₁.heap H) := ⟨hKb, nsK hns, ⟨mb, nsK hb, hbb⟩, let ⟨mc, h1, h2⟩ := hlim; ⟨mc, nsK h1, h2⟩⟩
    have e0 : Env0 P w K mg (hidT s₁.heap H) callerA [] s₁ H := ⟨rfl, hM, fun b o e => of_hidT e, Nat.le_of_eq (hidT_size _ _), trivial, fun b hb => absurd (show b ∈ ([] : List Addr) from hb) (by simp), hok, .of_eq hg⟩
    obtain ⟨g1, g2, g3, g4, g5⟩ := hG (hidT s₁.heap H)
    obtain ⟨S', hS'⟩ := hm (hidT s₁.heap H)
    have R : Rel (G0 (hidT s₁.heap H)) ⟨[], fun _ => False⟩ [] H := ⟨rfl, List.nodup_nil, fun n c h => by simp at h, fun a h => by simp at h, fun a h => h.elim⟩
    have nl : ¬ Lv ⟨[], fun _ => False⟩ [] a := fun z => by
      rcases z with ⟨n, c, h1, _⟩ | z
      · simp at h1
      · exact z
    have rs : Rep (G0 (hidT s₁.heap H)) ⟨[], fun _ => False⟩ (Lv ⟨[], fun _ => False⟩ []) H (.ref a) (.scr (ns.map D.int)) := by
      refine .scr ?_ (scr_reps ns)
      rcases hS with q | q
      · exact .inl ⟨q, nl⟩
      · exact .inr (by rw [g3]; exact q)
    have e1 : Env0 (G0 (hidT s₁.heap H)).P (G0 (hidT s₁.heap H)).w (G0 (hidT s₁.heap H)).K (G0 (hidT s₁.heap H)).mg (G0 (hidT s₁.heap H)).base callerA [] s₁ H := by
      rw [g1, g2, g3, g4, g5]
      exact e0
    have key := F _ hKb (nsK hns) callerA [] s₁ H ⟨[.ref a], []⟩ [.ref a] [.ref a] (fun v _ => v = .bl true) (fun _ _ _ => False) ⟨[], fun _ => False⟩ [] [.scr (ns.map D.int)] rfl hr e1 (hbind s₁ (.ref a)) (.cons rfl .nil) R (.cons rs .nil) rfl
      (by rw [hS']; exact fun ι' H' x R' v r => r.bl_of)
    rw [g1, g2] at key
    refine codeAny_mono key fun r s' h => ?_
    cases r with
    | error e =>
      obtain ⟨_, _, _, _, _, _, _, _, _, _, _, _, z⟩ := h
      exact z.elim
    | ok fl =>
      cases fl with
      | next => exact False.elim h
      | brk => exact False.elim h
      | cont => exact False.elim h
      | ret u =>
        obtain ⟨v, H', os, bare, un, hok', r', q⟩ := h
        have q' : v = .bl true := q
        subst q'
        obtain rfl : u = Value.bool true := r'
        refine ⟨rfl, OldK.of_keep fun b o e => ?_, os, bare⟩
        cases q : H b with
        | none => exact un.keep b o e q (by intro z; exact absurd (show b ∈ ([] : List Addr) from z) (by simp)) (by simp)
        | some u =>
          rcases hO b with z | ⟨ob, xs, z⟩
          · rw [q] at z; cases z
          · have z2 := un.frzs b ob _ z
            obtain ⟨e1, _⟩ := hok b _ z
            obtain ⟨e2, _⟩ := hok' b _ z2
            rw [e] at e1; cases e1
            exact e2
  cases hk : K.lookup a with
  | some o =>
    have e := KX a o hk
    rw [ha] at e
    cases e
    refine core (fun _ => none) (fun _ => .inl rfl) (.inr ⟨_, vs.toArray, _, hk, rfl, rfl, rfl, by rw [List.size_toArray, lenV]; exact hl, by simpa using rv⟩) (fun b u z => by have z' : (none : Option HO) = some u := z; cases z') (fun b z => absurd rfl z) fun z => absurd rfl z
  | none =>
    refine core (fun b => if b = a then some (.frz { cls := .type "list", data := .seq vs.toArray } (.lst (ns.map V.int))) else none) (fun b => ?_) (.inl (.inr ⟨{ cls := .type "list", data := .seq vs.toArray }, if_pos rfl⟩)) (fun b u z => ?_) (fun b z => ?_) fun _ => hk
    · by_cases hb : b = a
      · exact .inr ⟨_, _, if_pos hb⟩
      · exact .inl (if_neg hb)
    · by_cases hb : b = a
      · have z' := (if_pos hb).symm.trans z
        cases z'
        subst hb
        exact ⟨ha, by rw [List.length_map]; exact hl, vs, _, rv, ha⟩
      · have z' := (if_neg hb).symm.trans z
        cases z'
    · by_cases hb : b = a
      · exact hb
      · exact absurd (if_neg hb) z
/-- the goal that k_head leaves -/
theorem walk_dl {l : PySem.W.OpenLaw} {n k : Nat} {q : Program} {loose : List Str} {XP : (Str → Option Value) → Heap → Prop} {YP : World → Heap → Prop} {d : DefRec} {K : Params → PySem.W.Frag} {x : Str} {m : Gx → List D → Sto → Res D}
    (hn : l.most = some n) (hn2 : n ≤ sizeLine) (hdf : d.params.defaults = []) (hr : Room k callerA) (hY : ∀ (w : World) (h : Heap), YP w h → (K w.params).In h) (ht : ∀ G, Tells n (m G))
    (F : ∀ (w : World) (mg : Str → Option Value) (fa : Addr) (h : Heap), (K w.params).In h → h.Ns mainGlobals mg → mg d.name = some (.ref fa) →
      ∃ (fd : FuncData) (G0 : Heap → Gx), (∀ base, (G0 base).P = l.prog ∧ (G0 base).w = w ∧ (G0 base).K = K w.params ∧ (G0 base).mg = mg ∧ (G0 base).base = base) ∧ (∀ (s : Shared) (u : Value), BindsTo s fd ⟨[u], []⟩ [(x, u)]) ∧
        ∀ base : Heap, (K w.params).In base → base.Ns mainGlobals mg → FnB (G0 base) k fa fd [x] (m (G0 base))) :
    PySem.W.WalkO q loose XP YP l.row.toRowW d [] (fun f vs => PySem.call f vs) := by
  refine Att.attach_callB hn hdf fun w s₀ s₁ mg mb fa o pm cd doc a vs ns G Y ho hd hcd hmg hobj hints hlen hbits hg => ?_
  have KX := hY w _ Y
  obtain ⟨fd, G0, hG, hb, hF⟩ := F w mg fa _ KX G.T.g hmg
  exact law_callD hG KX G.T.g G.T.b G.T.builtins G.T.nolimit hg hobj hints (Nat.le_trans hlen hn2) hr hF hb fun base => ht (G0 base) ns hlen hbits
/-! ### keywords: places in the list of positional and keyword values -/
def gP {α : Type} (z : α) (perm : List Nat) (us ws : List α) : List α := perm.map fun i => (us ++ ws).getD i z
theorem gP_vals : ∀ {perm : List Nat} {vs zs : List V} {us ws : List Value}, Vals vs us → Vals zs ws → Vals (gP V.non perm vs zs) (gP Value.none perm us ws)
  | [], _, _, _, _, _, _ => .nil
  | i :: perm, vs, zs, us, ws, r, q => by
    refine .cons ?_ (gP_vals (perm := perm) r q)
    have rq := r.append q
    show RelV ((vs ++ zs).getD i V.non) ((us ++ ws).getD i Value.none)
    rw [List.getD_eq_getElem?_getD, List.getD_eq_getElem?_getD]
    cases e : (vs ++ zs)[i]? with
    | none =>
      have hl : (us ++ ws)[i]? = none := by
        rw [List.getElem?_eq_none_iff] at e ⊢
        rw [← rq.length]
        exact e
      rw [hl]
      exact rfl
    | some v =>
      obtain ⟨u, h1, h2⟩ := rq.get e
      rw [h1]
      exact h2
theorem gP_reps {G : Gx} {L : Addr → Prop} {ι : Ix} {H : Hp} : ∀ {perm : List Nat} {vs zs : List V} {ds es : List D}, Reps G ι L H vs ds → Reps G ι L H zs es → Reps G ι L H (gP V.non perm vs zs) (gP D.non perm ds es)
  | [], _, _, _, _, _, _ => .nil
  | i :: perm, vs, zs, ds, es, r, q => by
    refine .cons ?_ (gP_reps (perm := perm) r q)
    have rq := r.app q
    show Rep G ι L H ((vs ++ zs).getD i V.non) ((ds ++ es).getD i D.non)
    rw [List.getD_eq_getElem?_getD, List.getD_eq_getElem?_getD]
    cases e : (ds ++ es)[i]? with
    | none =>
      have hl : (vs ++ zs)[i]? = none := by
        rw [List.getElem?_eq_none_iff] at e ⊢
        rw [rq.length]
        exact e
      rw [hl]
      exact .non
    | some d =>
      obtain ⟨v, h1, h2⟩ := rq.get e
      rw [h1]
      exact h2
theorem fun_kbn {K : PySem.W.Frag} {x qual : Str} {st : Stmt} {f : Addr} {fd : FuncData} {ps ks : List Str} {n : Nat} {perm : List Nat} (F : Fun K x qual st f fd)
    (h : ∀ (kV doc pm : Value) (an : Option Addr) (cdv ct : Value) (us ws : List Value), us.length = n → ws.length = ks.length → bindArgs (PySem.W.fnOf x qual (defArgs st) (defBody st) (defScope st) .none kV doc pm an cdv ct) ⟨us, ks.zip ws⟩ = pure (ps.zip (gP Value.none perm us ws))) :
    KBn K fd ps n ks (gP Value.none perm) (gP V.non perm) := by
  obtain ⟨oc, od, kV, doc, pm, an, cdv, ct, osl, rfl, lk, hcd⟩ := F.ex
  exact ⟨fun s us ws _ h1 h2 => .of_eq (h _ _ _ _ _ _ us ws h1 h2), fun r q => gP_vals r q⟩
theorem gP_ok {G : Gx} {perm : List Nat} {n m' l : Nat} (hl : perm.length = l) : ∀ (L : Addr → Prop) (ι : Ix) (H : Hp) (vs : List V) (ds : List D) (zs : List V) (es : List D), Reps G ι L H vs ds → Reps G ι L H zs es → ds.length = n → es.length = m' → Reps G ι L H (gP V.non perm vs zs) (gP D.non perm ds es) ∧ (gP D.non perm ds es).length = l :=
  fun L ι H vs ds zs es r q _ _ => ⟨gP_reps r q, by unfold gP; rw [List.length_map]; exact hl⟩
/-! ### words for the printed derivations -/
section
variable {I : Type} {Xs : I → Cx} {G : Gx} {E : WK} {kk : Nat}
theorem eqD_at (F : FamH Xs G E) (j : I) : OpR (Xs j) (compareOp .Eq) (rEqD G.K) := by
  have z := op_eqD (X := Xs j) (F.hu64 j)
  rw [F.K j] at z
  exact z
theorem neD_at (F : FamH Xs G E) (j : I) : OpR (Xs j) (compareOp .NotEq) (rNeD G.K) := by
  have z := op_neD (X := Xs j) (F.hu64 j)
  rw [F.K j] at z
  exact z
theorem call_min2C (F : Fam Xs G E kk) (j : I) : CallR (Xs j) (.builtin "min") (fun xs H Q => ∃ i j, xs = [.int i, .int j] ∧ Q (.int (if j < i then j else i)) H) := call_min2 (X := Xs j) (F.calm j)
theorem call_max2C (F : Fam Xs G E kk) (j : I) : CallR (Xs j) (.builtin "max") (fun xs H Q => ∃ i j, xs = [.int i, .int j] ∧ Q (.int (if j > i then j else i)) H) := call_max2 (X := Xs j) (F.calm j)
theorem cr_sumC (F : Fam Xs G E kk) (j : I) : CallR (Xs j) (.builtin "sum") (rSum G.K) := by
  have z := cr_sum (X := Xs j) (F.calm j)
  rw [F.K j] at z
  exact z
theorem cr_anyC (F : Fam Xs G E kk) (j : I) : CallR (Xs j) (.builtin "any") (rAny G.K) := by
  have z := cr_any (X := Xs j) (F.calm j)
  rw [F.K j] at z
  exact z
theorem cr_allC (F : Fam Xs G E kk) (j : I) : CallR (Xs j) (.builtin "all") (rAll G.K) := by
  have z := cr_all (X := Xs j) (F.calm j)
  rw [F.K j] at z
  exact z
theorem cr_sortC (F : Fam Xs G E kk) (j : I) : CallR (Xs j) (.builtin "sorted") (rSortD G.K) := by
  have z := cr_sortD (X := Xs j) (F.calm j) (F.hu64 j)
  rw [F.K j] at z
  exact z
theorem call_reprC (F : FamH Xs G E) (j : I) : CallR (Xs j) (.builtin "repr") (rRepr G.K) := by
  have z := call_repr (X := Xs j) (F.gd j) (F.hu64 j)
  rw [F.K j] at z
  exact z
def p_addI : D → D → Sto → Res D
  | .int i, .int j, S => .ok (.int (i + j)) S
  | _, _, _ => .stuck
theorem snd_addI : SndR G (rI0 fun i j => .int (i + j)) p_addI := fun E ι S H x y dx dy Q R rx ry q => by
  cases dx with
  | int i =>
    cases dy with
    | int j => exact ⟨i, j, rx.int_of, ry.int_of, Post.here R q _ (.int _)⟩
    | _ => exact q.elim
  | _ => exact q.elim
def c_fldS (c i : Nat) (o v : ECode) : SCode := fun ρ S => (v ρ S).bind fun z S0 => (o ρ S0).bind fun x S1 => (p_setF c i x z S1).bind fun _ S2 => .ok (.nx ρ) S2
end
theorem owns_fn {G : Gx} {k : Nat} {N : List Str} {qual : Str} {scope : Scope} {f : Addr} {E : XK} (j : FIdx k qual scope f) : PassesOwn (model (FnX G k N qual scope f E j).prog (FnX G k N qual scope f E j).w) (FnX G k N qual scope f E j).A (FnX G k N qual scope f E j).env (FnX G k N qual scope f E j).xe := passes_of rfl
/-! ### a, b, c = x, y, z -/
def c_par3 (i j l : Nat) (a b c : ECode) : SCode := fun ρ S => (a ρ S).bind fun x S1 => (b ρ S1).bind fun y S2 => (c ρ S2).bind fun z S3 => .ok (.nx (((ρ.set i (some x)).set j (some y)).set l (some z))) S3
section
variable {I : Type} {Xs : I → Cx} {G : Gx} {E : WK} {kk : Nat}
theorem ds_par3 (F : Fam Xs G E kk) {i j l : Nat} {x y z : Str} {a b c : Expr} {px py pz pt pos : Pos} {kt k2 pt2} {ca cb cc : ECode} (hi : ∀ q, (Xs q).N[i]? = some x) (hj : ∀ q, (Xs q).N[j]? = some y) (hl : ∀ q, (Xs q).N[l]? = some z) (hij : i ≠ j) (hil : i ≠ l) (hjl : j ≠ l)
    (hx : ∀ q, (Xs q).env.scope.names.lookup x = some .local) (hy : ∀ q, (Xs q).env.scope.names.lookup y = some .local) (hz : ∀ q, (Xs q).env.scope.names.lookup z = some .local) (ha : DE Xs G E a ca) (hb : DE Xs G E b cb) (hc : DE Xs G E c cc)
    (h1 : ∀ q, starEach [a, b, c] (Xs q).env = (false, eval a (Xs q).env) :: starEach [b, c] (Xs q).env) (h2 : ∀ q, starEach [b, c] (Xs q).env = (false, eval b (Xs q).env) :: starEach [c] (Xs q).env) (h3 : ∀ q, starEach [c] (Xs q).env = (false, eval c (Xs q).env) :: starEach [] (Xs q).env)
    (hw : ∀ q, swappedStores [.Tuple [.Name x px, .Name y py, .Name z pz] kt pt] (.Tuple [a, b, c] k2 pt2) (Xs q).env = pure (some [x, y, z]))
    (hs : ∀ q, swapsWithSole [.Tuple [.Name x px, .Name y py, .Name z pz] kt pt] (.Tuple [a, b, c] k2 pt2) pos.line (Xs q).env = pure false) :
    DS Xs G E (.Assign [.Tuple [.Name x px, .Name y py, .Name z pz] kt pt] (.Tuple [a, b, c] k2 pt2) pos) (c_par3 i j l ca cb cc) := by
  obtain ⟨ta, pa, sa⟩ := ha
  obtain ⟨tb, pb, sb⟩ := hb
  obtain ⟨tc, pc, sc⟩ := hc
  refine ⟨_, fun q => ps_par3 (F.calm q) (F.nd q) (hi q) (hj q) (hl q) hij hil hjl (hx q) (hy q) (hz q) (pa_cons (pa q) (pa_cons (pb q) (pa_cons (pc q) pa_nil (h3 q)) (h2 q)) (h1 q)) (hw q) (hs q), fun ι S H σ ρ Dn R e q => ?_⟩
  refine sa.go R e q fun d S1 ι1 H1 v x1 R1 e1 r1 q1 => ?_
  refine sb.go R1 e1 q1 fun d2 S2 ι2 H2 w x2 R2 e2 r2 q2 => ?_
  refine sc.go R2 e2 q2 fun d3 S3 ι3 H3 u x3 R3 e3 r3 q3 => ?_
  exact ⟨v, w, u, rfl, Post.here R3 q3 _ (((e3.set ((r1.mono x2).mono x3) i).set (r2.mono x3) j).set r3 l)⟩
end
end DL

set_option Elab.async false
set_option linter.all false
set_option maxRecDepth 100000
set_option maxHeartbeats 4000000
/-! DLX: o[i] op= e; methods and new instances by keywords -/
namespace DL
open PySem PySem.Spec PyProof.Rows L2
theorem get_list {X : Cx} : PGet X (rIxL X.K) := by
  intro pins s σ H x y v u Q I rx ry h
  obtain ⟨p, xs, i, z, rfl, rfl, hq, he, q⟩ := h
  cases rx
  obtain ⟨t, rfl⟩ := ry
  obtain ⟨its, r, pl, hz⟩ := I.list hq
  obtain ⟨j, h1, h2, h3, h4, h5⟩ := atI_get he
  obtain ⟨w, ew, rw'⟩ := r.get h2
  have hl := r.length
  have hn := line63
  have done : EP X pins σ Q w s := ⟨z, H, I, rw', q⟩
  by_cases h0 : 0 ≤ i
  · have hj : i.toNat = j := by
      rw [seqIndex_of h0 h5] at h1
      exact Option.some.inj h1
    exact wpAny_getItem_list pl.isList h0 (by omega) (by rw [hj]; simpa using ew) done
  · have hj : (i + (its.toArray.size : Int)).toNat = j := by
      rw [seqIndex_neg (by omega) h4] at h1
      rw [List.size_toArray, ← hl]
      exact Option.some.inj h1
    exact wpAny_getItem_list_neg pl.isList (by omega) (by rw [List.size_toArray] <;> omega) (by omega) (by rw [hj]; simpa using ew) done
section
variable {I : Type} {Xs : I → Cx} {G : Gx} {E : WK} {kk k : Nat} {f : Addr} {fd : FuncData} {ps : List Str} {m : List D → Sto → Res D}
theorem get_any (F : FamH Xs G E) (j : I) : PGet (Xs j) (rIxL G.K) := by
  have z := get_list (X := Xs j)
  rw [F.K j] at z
  exact z
/-- an item of a list -/
def p_ixA (x y : D) (S : Sto) : Res D := match y with
  | .int i => match listOf x S with
    | some ds => p_ixL ds i S
    | none => .stuck
  | _ => .stuck
theorem snd_ixA : SndR G (rIxL G.K) p_ixA := fun E ι S H x y dx dy Q R rx ry q => by
  cases dy with
  | int i =>
    have q : Post G E ι S H (PV G Q) (match listOf dx S with
      | some ds => p_ixL ds i S
      | none => .stuck) := q
    cases h1 : listOf dx S with
    | none => rw [h1] at q; exact q.elim
    | some ds =>
      rw [h1] at q
      have q : Post G E ι S H (PV G Q) (match atD ds i with
        | some d => .ok d S
        | none => .stuck) := q
      cases h2 : atD ds i with
      | none => rw [h2] at q; exact q.elim
      | some d =>
        rw [h2] at q
        obtain ⟨a, vs, rfl, hs, rs⟩ := list_at R rx h1
        obtain ⟨v, e1, e2⟩ := atD_rep rs h2
        exact ⟨a, vs, i, v, rfl, ry.int_of, hs, e1, Post.here R q _ e2⟩
  | _ => exact q.elim
/-- o[i] op= e -/
def c_augS (p : D → D → Sto → Res D) (o i a : ECode) : SCode := fun ρ S => (o ρ S).bind fun x S1 => (i ρ S1).bind fun y S2 => (p_ixA x y S2).bind fun z S3 => (a ρ S3).bind fun w S4 => (p z w S4).bind fun r S5 => (p_setI x y r S5).bind fun _ S6 => .ok (.nx ρ) S6
theorem ds_augS (F : FamH Xs G E) {o i e : Expr} {op : Operator} {tpos pos : Pos} {co ci ca : ECode} {ti : TIp} {p : D → D → Sto → Res D} (ho : DE Xs G E o co) (hi : DE Xs G E i ci) (hop : ∀ j, PIp (Xs j) op ti) (hr : SndI2 G ti p) (ha : DE Xs G E e ca)
    (hst : ∀ ov iv new, augStore i ov iv new = (do holding [new, ov, iv] (setItem ov iv new); release [new, ov, iv] []; pure .next)) : DS Xs G E (.AugAssign (.Subscript o i tpos) op e pos) (c_augS p co ci ca) := by
  obtain ⟨to, po, so⟩ := ho
  obtain ⟨tti, pi, si⟩ := hi
  obtain ⟨ta, pa, sa⟩ := ha
  refine ⟨_, fun j => ps_augS (po j) (pi j) (get_any F j) (pa j) (hop j) (set_any (F.hu j)) hst, fun ι S H σ ρ Dn R e q => ?_⟩
  refine so.go R e q fun dx S1 ι1 H1 x x1 R1 e1 r1 q1 => ?_
  refine si.go R1 e1 q1 fun dy S2 ι2 H2 y x2 R2 e2 r2 q2 => ?_
  refine SndR.go snd_ixA R2 (r1.mono x2) r2 q2 fun dz S3 ι3 H3 z x3 R3 r3 q3 => ?_
  refine sa.go R3 (e2.mono x3) q3 fun dw S4 ι4 H4 w x4 R4 e4 r4 q4 => ?_
  refine hr (E σ) ι4 S4 H4 z w dz dw _ R4 (r3.mono x4) r4 (Post.bind q4 fun dr S5 ι5 H5 x5 R5 q5 u r5 => ?_)
  refine snd_setI (Q := fun H' => Dn.nx σ H') R5 ((((r1.mono x2).mono x3).mono x4).mono x5) (((r2.mono x3).mono x4).mono x5) r5 (Post.bind q5 fun _ S6 ι6 H6 x6 R6 q6 => ?_)
  exact Post.here R6 q6 σ ((e4.mono x5).mono x6)
/-- o.m(e, .., n = v, ..) -/
def c_methK (c n m' : Nat) (g : List D → List D → List D) (m : List D → Sto → Res D) (o : ECode) (a b : ACode) : ECode := fun ρ S => (o ρ S).bind fun x S1 => if clsOf x S1 = some c then (a ρ S1).bind fun ds S2 => (b ρ S2).bind fun es S3 => if ds.length = n ∧ es.length = m' then m (g (x :: ds) es) S3 else .stuck else .stuck
theorem de_methK0 (F : Fam Xs G E kk) (Fn : FnB G k f fd ps m) (hk : k ≤ kk) {c : Nat} {nm : Str} {o : Expr} {kws : List Keyword} {ks : List Str} {g : List Value → List Value → List Value} {gV : List V → List V → List V} {gD : List D → List D → List D} {apos pos : Pos} {pl : I → Sem Bool} {co : ECode} {b : ACode}
    (hc : Cls G.K (G.cls c)) (hm : Meth G.K (G.cls c) nm f) (hn : (G.fns c).contains nm = false) (hb : KBn G.K fd ps 1 ks g gV)
    (hgD : ∀ (L : Addr → Prop) ι H vs ds zs es, Reps G ι L H vs ds → Reps G ι L H zs es → ds.length = 1 → es.length = ks.length → Reps G ι L H (gV vs zs) (gD ds es) ∧ (gD ds es).length = ps.length)
    (ho : DE Xs G E o co) (hkw : DKw Xs G E kws b) (hall : ∀ j, (backToKw pos (keywordEach kws (Xs j).env)).all (·.1.isSome) = true) (hks : ∀ j, (backToKw pos (keywordEach kws (Xs j).env)).filterMap (·.1) = ks)
    (hpl : ∀ j, ((backTo pos (starEach [] (Xs j).env)).any (·.1) || (backToKw pos (keywordEach kws (Xs j).env)).any (·.1.isNone)) = false)
    (ht : ∀ j, eval (.Call (.Attribute o nm apos) [] kws pos) (Xs j).env = (do
      let ov ← eval o (Xs j).env
      standAt apos.atName
      let (f, first) ← holding [ov] (getMethod ov nm (pl j))
      callWith pos f first (backTo pos (starEach [] (Xs j).env)) (backToKw pos (keywordEach kws (Xs j).env)))) :
    DE Xs G E (.Call (.Attribute o nm apos) [] kws pos) (c_methK c 0 ks.length gD m co c_nil b) := by
  obtain ⟨to, po, so⟩ := ho
  obtain ⟨tk, pk, sk⟩ := hkw
  refine ⟨fun σ H Q => to σ H fun x H1 => ∃ b dx fs, x = .ref b ∧ H1 b = some (.ins (G.cls c) dx fs) ∧ fs.lookup nm = none ∧ tk σ H1 fun zs H2 => zs.length = ks.length ∧ spM G ps.length m (gV [x] zs) H2 Q (E σ), fun j => ⟨fun pins s σ H Q Iv h => ?_⟩, fun ι S H σ ρ Q R e q => ?_⟩
  · refine PySem.W.methodCall_KW (pl := pl j) (thn ((po j).run pins s σ H _ Iv h) fun u s1 ⟨x, H1, I1, rx, a, dx, fs, ex, ea, l, q⟩ => ?_) (ht j)
    subst ex
    obtain rfl : u = Value.ref a := rx
    refine getmeth_ok I1 ea (by rw [F.K j]; exact hc) (by rw [F.K j]; exact hm) l ?_
    refine PySem.W.callWith_KW0 (first := [.ref a]) (h₀ := (Xs j).base) Iv.ok.mod.kin (by rw [F.K j]; exact hm.kp) (hall j) ?_ (hpl j)
    refine thn ((pk j).run pos pins s1 σ H1 _ I1 q) fun ws s2 ⟨zs, H2, I2, rz, l2, q2⟩ => ⟨I2.kIn, ?_⟩
    rw [hks j]
    have r1 : Vals [V.ref a] [Value.ref a] := .cons rfl .nil
    exact run_B F j Fn hk I2 (hb.to s2 [.ref a] ws (by rw [← F.K j]; exact I2.kIn) rfl (rz.length.symm.trans l2)) (hb.rel r1 rz) q2
  · refine so.go R e q fun d S1 ι1 H1 v x1 R1 e1 r1 q1 => ?_
    by_cases h : clsOf d S1 = some c
    · rw [if_pos h] at q1
      obtain ⟨b, dx, nfs, fs, rfl, h2, h3, h4, h5⟩ := cls_at R1 r1 h
      refine ⟨b, dx, nfs, rfl, h2, lookup_out h3 hn, ?_⟩
      have q1 : Post G (E σ) ι1 S1 H1 (PV G Q) ((_ : Res (List D)).bind fun es S3 => if ([] : List D).length = 0 ∧ es.length = ks.length then m (gD [d] es) S3 else .stuck) := q1
      refine sk.go R1 e1 q1 fun es S2 ι2 H2 zs x2 R2 e2 r2 q2 => ?_
      by_cases h : ([] : List D).length = 0 ∧ es.length = ks.length
      · rw [if_pos h] at q2
        obtain ⟨a1, a2⟩ := hgD _ _ _ _ _ _ _ (.cons (r1.mono x2) .nil) r2 rfl h.2
        exact ⟨r2.length.trans h.2, ι2, S2, _, R2, a1, a2, q2⟩
      · rw [if_neg h] at q2
        exact q2.elim
    · rw [if_neg h] at q1
      exact q1.elim
theorem de_methK (F : Fam Xs G E kk) (Fn : FnB G k f fd ps m) (hk : k ≤ kk) {c n : Nat} {nm : Str} {o e : Expr} {es : List Expr} {kws : List Keyword} {ks : List Str} {g : List Value → List Value → List Value} {gV : List V → List V → List V} {gD : List D → List D → List D} {apos pos : Pos} {pl : I → Sem Bool} {co : ECode} {a b : ACode}
    (hc : Cls G.K (G.cls c)) (hm : Meth G.K (G.cls c) nm f) (hn : (G.fns c).contains nm = false) (hb : KBn G.K fd ps (n + 1) ks g gV)
    (hgD : ∀ (L : Addr → Prop) ι H vs ds zs es, Reps G ι L H vs ds → Reps G ι L H zs es → ds.length = n + 1 → es.length = ks.length → Reps G ι L H (gV vs zs) (gD ds es) ∧ (gD ds es).length = ps.length)
    (ho : DE Xs G E o co) (ha : DA Xs G E (e :: es) a) (hkw : DKw Xs G E kws b) (hall : ∀ j, (backToKw pos (keywordEach kws (Xs j).env)).all (·.1.isSome) = true) (hks : ∀ j, (backToKw pos (keywordEach kws (Xs j).env)).filterMap (·.1) = ks)
    (he : ∀ j, starEach (e :: es) (Xs j).env = (false, eval e (Xs j).env) :: starEach es (Xs j).env)
    (hpl : ∀ j, ((backTo pos (starEach (e :: es) (Xs j).env)).any (·.1) || (backToKw pos (keywordEach kws (Xs j).env)).any (·.1.isNone)) = false)
    (ht : ∀ j, eval (.Call (.Attribute o nm apos) (e :: es) kws pos) (Xs j).env = (do
      let ov ← eval o (Xs j).env
      standAt apos.atName
      let (f, first) ← holding [ov] (getMethod ov nm (pl j))
      callWith pos f first (backTo pos (starEach (e :: es) (Xs j).env)) (backToKw pos (keywordEach kws (Xs j).env)))) :
    DE Xs G E (.Call (.Attribute o nm apos) (e :: es) kws pos) (c_methK c n ks.length gD m co a b) := by
  obtain ⟨to, po, so⟩ := ho
  obtain ⟨ta, pa, sa⟩ := ha
  obtain ⟨tk, pk, sk⟩ := hkw
  refine ⟨fun σ H Q => to σ H fun x H1 => ∃ b dx fs, x = .ref b ∧ H1 b = some (.ins (G.cls c) dx fs) ∧ fs.lookup nm = none ∧ ta σ H1 fun vs H2 => tk σ H2 fun zs H3 => vs.length = n ∧ zs.length = ks.length ∧ spM G ps.length m (gV (x :: vs) zs) H3 Q (E σ), fun j => ⟨fun pins s σ H Q Iv h => ?_⟩, fun ι S H σ ρ Q R e q => ?_⟩
  · refine PySem.W.methodCall_KW (pl := pl j) (thn ((po j).run pins s σ H _ Iv h) fun u s1 ⟨x, H1, I1, rx, a, dx, fs, ex, ea, l, q⟩ => ?_) (ht j)
    subst ex
    obtain rfl : u = Value.ref a := rx
    refine getmeth_ok I1 ea (by rw [F.K j]; exact hc) (by rw [F.K j]; exact hm) l ?_
    refine PySem.W.callWith_KW (first := [.ref a]) (h₀ := (Xs j).base) Iv.ok.mod.kin (by rw [F.K j]; exact hm.kp) (hall j) (thn ((pa j).run pos pins s1 σ H1 _ I1 q) fun us s2 ⟨vs, H2, I2, rv, q2⟩ => ?_) (hpl j) (he j)
    refine thn ((pk j).run pos pins s2 σ H2 _ I2 q2) fun ws s3 ⟨zs, H3, I3, rz, l1, l2, q3⟩ => ⟨I3.kIn, ?_⟩
    rw [hks j]
    have r1 : Vals (V.ref a :: vs) (Value.ref a :: us) := .cons rfl rv
    exact run_B F j Fn hk I3 (hb.to s3 (.ref a :: us) ws (by rw [← F.K j]; exact I3.kIn) (r1.length.symm.trans (congrArg Nat.succ l1)) (rz.length.symm.trans l2)) (hb.rel r1 rz) q3
  · refine so.go R e q fun d S1 ι1 H1 v x1 R1 e1 r1 q1 => ?_
    by_cases h : clsOf d S1 = some c
    · rw [if_pos h] at q1
      obtain ⟨b, dx, nfs, fs, rfl, h2, h3, h4, h5⟩ := cls_at R1 r1 h
      refine ⟨b, dx, nfs, rfl, h2, lookup_out h3 hn, ?_⟩
      refine sa.go R1 e1 q1 fun ds S2 ι2 H2 vs x2 R2 e2 r2 q2 => ?_
      refine sk.go R2 e2 q2 fun es S3 ι3 H3 zs x3 R3 e3 r3 q3 => ?_
      by_cases h : ds.length = n ∧ es.length = ks.length
      · rw [if_pos h] at q3
        obtain ⟨a1, a2⟩ := hgD _ _ _ _ _ _ _ (.cons ((r1.mono x2).mono x3) (r2.mono x3)) r3 (congrArg Nat.succ h.1) h.2
        exact ⟨r2.length.trans h.1, r3.length.trans h.2, ι3, S3, _, R3, a1, a2, q3⟩
      · rw [if_neg h] at q3
        exact q3.elim
    · rw [if_neg h] at q1
      exact q1.elim
/-- C(n = v, ..) -/
noncomputable def c_makeK (b : Bool) (c m' : Nat) (g : List D → List D → List D) (m : List D → Sto → Res D) (a : ACode) : ECode := fun ρ S => (a ρ S).bind fun es S1 => if es.length = m' then p_make b c (fun ds => m (g (ds.take 1) (ds.drop 1))) es S1 else .stuck
theorem spM_of {ks : List Str} {gV : List V → List V → List V} {gD : List D → List D → List D} {v : V} {zs : List V} {H : Hp} {Q : VK} {E : XK} (hgD : ∀ (L : Addr → Prop) ι H vs ds zs es, Reps G ι L H vs ds → Reps G ι L H zs es → ds.length = 1 → es.length = ks.length → Reps G ι L H (gV vs zs) (gD ds es) ∧ (gD ds es).length = ps.length)
    (hl : zs.length = ks.length) (h : spP G (fun ds => m (gD (ds.take 1) (ds.drop 1))) (v :: zs) H Q E) : spM G ps.length m (gV [v] zs) H Q E := by
  obtain ⟨ι, S, ds, R, r, q⟩ := h
  cases r with
  | cons r1 r2 =>
    obtain ⟨a1, a2⟩ := hgD _ _ _ _ _ _ _ (.cons r1 .nil) r2 rfl (r2.length.symm.trans hl)
    exact ⟨ι, S, _, R, a1, a2, q⟩
theorem de_makeK0 (b : Bool) (F : Fam Xs G E kk) (Fn : FnB G k f fd ps m) (hk : k + 1 ≤ kk) {c : Nat} {x : Str} {p pos : Pos} {kws : List Keyword} {ks : List Str} {g : List Value → List Value → List Value} {gV : List V → List V → List V} {gD : List D → List D → List D} {a : ACode} (M : Mk G.K (G.cls c) f)
    (hb : KBn G.K fd ps 1 ks g gV) (hgD : ∀ (L : Addr → Prop) ι H vs ds zs es, Reps G ι L H vs ds → Reps G ι L H zs es → ds.length = 1 → es.length = ks.length → Reps G ι L H (gV vs zs) (gD ds es) ∧ (gD ds es).length = ps.length)
    (hkw : DKw Xs G E kws a) (hall : ∀ j, (backToKw pos (keywordEach kws (Xs j).env)).all (·.1.isSome) = true) (hks : ∀ j, (backToKw pos (keywordEach kws (Xs j).env)).filterMap (·.1) = ks) (hg : ∀ j, Gl (Xs j) x) (hm : G.mg x = some (.ref (G.cls c)))
    (hdb : (x == ("__debug__" : Str)) = false) (hpl : ∀ j, ((backTo pos (starEach [] (Xs j).env)).any (·.1) || (backToKw pos (keywordEach kws (Xs j).env)).any (·.1.isNone)) = false) :
    DE Xs G E (.Call (.Name x p) [] kws pos) (c_makeK b c ks.length gD m a) := by
  obtain ⟨tk, pk, sk⟩ := hkw
  refine ⟨fun σ H Q => tk σ H fun zs H1 => zs.length = ks.length ∧ ∀ x dx, H1 x = Option.none → H1 dx = Option.none → dx ≠ x → spM G ps.length m (gV [V.ref x] zs) (upd (upd H1 dx (.own x)) x (.ins (G.cls c) dx [])) (fun v H2 => v = .non ∧ Q (.ref x) H2) (E σ), fun j => ⟨fun pins s σ H Q Iv h => ?_⟩, fun ι S H σ ρ Q R e q => ?_⟩
  · refine wpAny_Call_Name_kw (ld_glob Iv (hg j) (by rw [F.mg j]; exact hm) ?_ hdb)
    refine PySem.W.callWith_KW0 (h₀ := (Xs j).base) Iv.ok.mod.kin (by rw [F.K j]; exact M.kp) (hall j) ?_ (hpl j)
    refine thn ((pk j).run pos pins s σ H _ Iv h) fun ws s1 ⟨zs, H1, I1, rz, l2, q⟩ => ⟨I1.kIn, ?_⟩
    rw [hks j]
    have hq := q (s1.heap.objs.size + 1) s1.heap.objs.size (I1.hok.fresh (Nat.le_succ _)) (I1.hok.fresh (Nat.le_refl _)) (Nat.ne_of_lt (Nat.lt_succ_self _))
    have I2 := Inv.made (C := G.cls c) I1
    have r1 : Vals [V.ref (s1.heap.objs.size + 1)] [Value.ref (s1.heap.objs.size + 1)] := .cons rfl .nil
    have r2 := hb.rel r1 rz
    have M' : Mk (Xs j).K (G.cls c) f := by rw [F.K j]; exact M
    refine wpAny_call (make_map (f := f) I1.kIn M'.makes M'.init (beq_iff_eq.mp M'.fn) (codeAny_mono (run_at F j Fn (show ((Xs j).A.under _).guards = some [] from F.gd j) (((F.room j).mono hk).make (G.cls c) [] (ks.zip ws)) (I2.env0.make (G.cls c) [] (ks.zip ws)) (hb.to _ [.ref (s1.heap.objs.size + 1)] ws (by rw [← F.K j]; exact I2.kIn) rfl (rz.length.symm.trans l2)) r2 hq) fun r s' hq' => ?_))
    cases r with
    | error e => exact F.pass j pins σ _ _ e s' I2 hq'
    | ok fl =>
      cases fl with
      | ret u =>
        obtain ⟨v, H', I3, rv, ev, q3⟩ := I2.after hq'
        subst ev
        exact ⟨rv, ⟨V.ref (s1.heap.objs.size + 1), H', I3, rfl, q3⟩⟩
      | next => exact False.elim hq'
      | brk => exact False.elim hq'
      | cont => exact False.elim hq'
  · refine sk.go R e q fun es S1 ι1 H1 zs x1 R1 e1 r1 q1 => ?_
    by_cases h : es.length = ks.length
    · rw [if_pos h] at q1
      have hz : zs.length = ks.length := r1.length.trans h
      exact ⟨hz, fun x dx hx hdx hne => spM_of hgD hz (spP_make b R1 r1 q1 x dx hx hdx hne)⟩
    · rw [if_neg h] at q1
      exact q1.elim
/-- isinstance(o, C), o an instance of just this class -/
def p_isiO (c : Nat) (C : Addr) (ds : List D) (S : Sto) : Res D := match ds with
  | [d, .con a] => if isCon C (.con a) = true then (if clsOf d S = some c then .ok (.bl true) S else .stuck) else .stuck
  | _ => .stuck
theorem kit_self {K : PySem.W.Frag} {C : Addr} : PySem.W.kitOne K (.ref C) (.ref C) = some true := by
  unfold PySem.W.kitOne
  rw [if_pos (by simp)]
structure IsiC (K : PySem.W.Frag) (C : Addr) : Prop where
  ha : PySem.W.findIn K (.ref C) "__class__" = some (some (.builtin "object.__class__"))
  hn : PySem.W.specialIn K (.builtin "object.__class__") "__get__" = some (some (.builtin "getset_descriptor.__get__"))
  ht : PySem.W.takesIn K (.builtin "object.__class__") = some true
  hm : PySem.W.mroIn K C (.type "object") = some true
theorem snd_isiO {c : Nat} (hc : Cls G.K (G.cls c)) (ha : IsiC G.K (G.cls c)) : SndC G (rIsi G.K) (p_isiO c (G.cls c)) := fun E ι S H xs ds Q R r q => by
  unfold p_isiO at q
  split at q
  · rename_i d a
    by_cases h1 : isCon (G.cls c) (.con a) = true
    · rw [if_pos h1] at q
      by_cases h2 : clsOf d S = some c
      · rw [if_pos h2] at q
        have e : a = G.cls c := by
          have := isCon_eq h1
          injection this
        subst e
        cases r with
        | cons r1 r2 =>
          cases r2 with
          | cons r3 r4 =>
            cases r4
            obtain ⟨b, dx, nfs, fs, rfl, h2, h3, h4, h5⟩ := cls_at R r1 h2
            exact ⟨_, _, _, _, true, by rw [r3.con_of], .own _, .base (.ins h2 hc ha.ha ha.hn ha.ht ha.hm), kit_self, Post.here R q _ (.bl _)⟩
      · rw [if_neg h2] at q; exact q.elim
    · rw [if_neg h1] at q; exact q.elim
  · exact q.elim
end
end DL

set_option Elab.async false
set_option linter.all false
set_option maxRecDepth 100000
set_option maxHeartbeats 4000000
/-! DLY: is True -/
namespace DL
open PySem PySem.Spec PyProof.Rows L2
section
variable {G : Gx}
def p_isB (neg : Bool) : D → D → Sto → Res D
  | .bl a, .bl b, S => .ok (.bl (if neg = true then !decide (a = b) else decide (a = b))) S
  | _, _, _ => .stuck
theorem snd_isB : SndR G (fun x y H Q => ∃ a b, x = .bl a ∧ y = .bl b ∧ Q (.bl (decide (a = b))) H) (p_isB false) := fun E ι S H x y dx dy Q R rx ry q => by
  cases dx with
  | bl a =>
    cases dy with
    | bl b => cases rx; cases ry; exact ⟨a, b, rfl, rfl, Post.here R q _ (.bl _)⟩
    | _ => exact q.elim
  | _ => exact q.elim
theorem snd_notB : SndR G (fun x y H Q => ∃ a b, x = .bl a ∧ y = .bl b ∧ Q (.bl (!decide (a = b))) H) (p_isB true) := fun E ι S H x y dx dy Q R rx ry q => by
  cases dx with
  | bl a =>
    cases dy with
    | bl b => cases rx; cases ry; exact ⟨a, b, rfl, rfl, Post.here R q _ (.bl _)⟩
    | _ => exact q.elim
  | _ => exact q.elim
@[simp] theorem v_isB {n : Bool} {a b : Bool} {S : Sto} : p_isB n (.bl a) (.bl b) S = .ok (.bl (if n = true then !decide (a = b) else decide (a = b))) S := rfl
end
end DL

set_option Elab.async false
set_option linter.all false
set_option maxRecDepth 100000
set_option maxHeartbeats 4000000
/-! DP0: mirrors computed by simp -/
namespace DL
open PySem PySem.Spec PyProof.Rows L2
section
variable {ρ : Env} {S : Sto}
@[simp] theorem e_var_ok {i : Nat} {d : D} (h : ρ[i]? = some (some d)) : c_var i ρ S = .ok d S := by unfold c_var; rw [h]
@[simp] theorem e_d {d : D} : c_d d ρ S = .ok d S := rfl
@[simp] theorem e_op {p : D → D → Sto → Res D} {a b : ECode} : c_op p a b ρ S = (a ρ S).bind fun x S1 => (b ρ S1).bind fun y S2 => p x y S2 := rfl
@[simp] theorem e_un {p : D → Sto → Res D} {a : ECode} : c_un p a ρ S = (a ρ S).bind fun x S1 => p x S1 := rfl
@[simp] theorem e_test {a : ECode} : c_test a ρ S = (a ρ S).bind asB := rfl
@[simp] theorem e_asB {b : Bool} : asB (.bl b) S = .ok b S := rfl
@[simp] theorem e_and {a b : TCode} : c_and a b ρ S = (a ρ S).bind fun c S1 => if c = true then b ρ S1 else .ok false S1 := rfl
@[simp] theorem e_or {a b : TCode} : c_or a b ρ S = (a ρ S).bind fun c S1 => if c = true then .ok true S1 else b ρ S1 := rfl
@[simp] theorem e_not {a : TCode} : c_not a ρ S = (a ρ S).bind fun c S1 => .ok (!c) S1 := rfl
@[simp] theorem e_if {c : TCode} {a b : ECode} : c_if c a b ρ S = (c ρ S).bind fun k S1 => if k = true then a ρ S1 else b ρ S1 := rfl
@[simp] theorem e_andV {a b : ECode} : c_andV a b ρ S = (a ρ S).bind fun x S1 => (asB x S1).bind fun c S2 => if c = true then b ρ S2 else .ok (.bl false) S2 := rfl
@[simp] theorem e_orV {a b : ECode} : c_orV a b ρ S = (a ρ S).bind fun x S1 => (asB x S1).bind fun c S2 => if c = true then .ok (.bl true) S2 else b ρ S2 := rfl
@[simp] theorem e_notV {a : ECode} : c_notV a ρ S = (a ρ S).bind fun x S1 => (asB x S1).bind fun c S2 => .ok (.bl (!c)) S2 := rfl
@[simp] theorem e_chain {p p' : D → D → Sto → Res D} {a b c : ECode} : c_chain p p' a b c ρ S = (a ρ S).bind fun x S1 => (b ρ S1).bind fun y S2 => (p x y S2).bind fun z S3 => (asB z S3).bind fun k S4 =>
  if k = true then (c ρ S4).bind fun w S5 => p' y w S5 else .ok (.bl false) S4 := rfl
@[simp] theorem e_nil : c_nil ρ S = .ok [] S := rfl
@[simp] theorem e_cons {a : ECode} {r : ACode} : c_cons a r ρ S = (a ρ S).bind fun x S1 => (r ρ S1).bind fun xs S2 => .ok (x :: xs) S2 := rfl
@[simp] theorem e_tup {a : ACode} : c_tup a ρ S = (a ρ S).bind p_tup := rfl
@[simp] theorem e_lst {b : Bool} {a : ACode} : c_lst b a ρ S = (a ρ S).bind (p_lst b) := rfl
@[simp] theorem e_cb {p : List D → Sto → Res D} {a : ACode} : c_cb p a ρ S = (a ρ S).bind p := rfl
@[simp] theorem e_callK {n m' : Nat} {g : List D → List D → List D} {m : List D → Sto → Res D} {a b : ACode} : c_callK n m' g m a b ρ S = (a ρ S).bind fun ds S1 => (b ρ S1).bind fun es S2 => if ds.length = n ∧ es.length = m' then m (g ds es) S2 else .stuck := rfl
@[simp] theorem e_meth {g : D → Sto → Bool} {p : D → List D → Sto → Res D} {o : ECode} {a : ACode} : c_meth g p o a ρ S = (o ρ S).bind fun x S1 => if g x S1 = true then (a ρ S1).bind fun ds S2 => p x ds S2 else .stuck := rfl
@[simp] theorem e_methP {c : Nat} {m : List D → Sto → Res D} {o : ECode} {a : ACode} : c_methP c m o a ρ S = (o ρ S).bind fun x S1 => if clsOf x S1 = some c then (a ρ S1).bind fun ds S2 => m (x :: ds) S2 else .stuck := rfl
@[simp] theorem e_smeth {C : Addr} {m : List D → Sto → Res D} {o : ECode} {a : ACode} : c_smeth C m o a ρ S = (o ρ S).bind fun x S1 => if isCon C x = true then (a ρ S1).bind m else .stuck := rfl
@[simp] theorem e_cval {C : Addr} {d : D} {o : ECode} : c_cval C d o ρ S = (o ρ S).bind fun x S1 => if isCon C x = true then .ok d S1 else .stuck := rfl
@[simp] theorem isCon_self {C : Addr} : isCon C (.con C) = true := decide_eq_true rfl
@[simp] theorem e_fld {c i : Nat} {a : ECode} : c_fld c i a ρ S = (a ρ S).bind fun d S1 => if clsOf d S1 = some c then match fldsOf d S1 with
  | some fs => match fs[i]? with
    | some x => .ok x S1
    | none => .stuck
  | none => .stuck else .stuck := rfl
@[simp] theorem e_prop {c : Nat} {m : List D → Sto → Res D} {a : ECode} : c_prop c m a ρ S = (a ρ S).bind fun d S1 => if clsOf d S1 = some c then (m [d] S1).bindN .ok else .stuck := rfl
@[simp] theorem e_star {a : ECode} {r : ACode} : c_star a r ρ S = (a ρ S).bind fun x S1 => match itemsOf x S1 with
  | some ds => (r ρ S1).bind fun es S2 => .ok (ds ++ es) S2
  | none => .stuck := rfl
@[simp] theorem e_ps0 : c_ps0 ρ S = .ok [] S := rfl
@[simp] theorem e_ps {k v : ECode} {r : Env → Sto → Res (List (D × D))} : c_ps k v r ρ S = (k ρ S).bind fun x S1 => (v ρ S1).bind fun y S2 => (r ρ S2).bind fun ps S3 => .ok ((x, y) :: ps) S3 := rfl
@[simp] theorem e_dispK {b : Bool} {r : Env → Sto → Res (List (D × D))} : c_dispK b r ρ S = (r ρ S).bind (p_dispK b) := rfl
@[simp] theorem e_dispT {b : Bool} {r : Env → Sto → Res (List (D × D))} : c_dispT b r ρ S = (r ρ S).bind (p_dispT b) := rfl
@[simp] theorem e_dK0 {b : Bool} : c_dK0 b ρ S = p_dK b [] S := rfl
@[simp] theorem e_dT0 {b : Bool} : c_dT0 b ρ S = p_dT b [] S := rfl
@[simp] theorem e_frz {a : ECode} : c_frz a ρ S = (a ρ S).bind frz := rfl
@[simp] theorem e_no : c_no ρ S = .ok none S := rfl
@[simp] theorem e_part {a : ECode} : c_part a ρ S = (a ρ S).bind fun d S1 => match d with
  | .int i => .ok (some i) S1
  | _ => .stuck := rfl
@[simp] theorem e_sl {b : Bool} {a : ECode} {l h : Env → Sto → Res (Option Int)} : c_sl b a l h ρ S = (a ρ S).bind fun x S1 => (l ρ S1).bind fun lo S2 => (h ρ S2).bind fun hi S3 => p_sl b x lo hi S3 := rfl
-- statements
@[simp] theorem s_set {i : Nat} {a : ECode} : c_set i a ρ S = (a ρ S).bind fun d S1 => .ok (.nx (ρ.set i (some d))) S1 := rfl
@[simp] theorem s_asg {g : D → Env → Sto → Res Env} {a : ECode} : c_asg g a ρ S = (a ρ S).bind fun d S1 => (g d ρ S1).bind fun ρ1 S2 => .ok (.nx ρ1) S2 := rfl
@[simp] theorem s_nx : c_nx ρ S = .ok (.nx ρ) S := rfl
@[simp] theorem s_seq {a b : SCode} : c_seq a b ρ S = (a ρ S).bind fun f S1 => match f with
  | .nx ρ1 => b ρ1 S1
  | o => .ok o S1 := rfl
@[simp] theorem s_expr {a : ECode} : c_expr a ρ S = (a ρ S).bind fun _ S1 => .ok (.nx ρ) S1 := rfl
@[simp] theorem s_ret {a : ECode} : c_ret a ρ S = (a ρ S).bind fun d S1 => .ok (.rt d) S1 := rfl
@[simp] theorem s_retN : c_retN ρ S = .ok (.rt .non) S := rfl
@[simp] theorem s_brk : c_brk ρ S = .ok (.bk ρ) S := rfl
@[simp] theorem s_cont : c_cont ρ S = .ok (.ct ρ) S := rfl
@[simp] theorem s_stuck : c_stuck ρ S = .stuck := rfl
@[simp] theorem s_ifS {c : TCode} {a b : SCode} : c_ifS c a b ρ S = (c ρ S).bind fun k S1 => if k = true then a ρ S1 else b ρ S1 := rfl
@[simp] theorem s_aug {i : Nat} {p : D → D → Sto → Res D} {a : ECode} : c_aug i p a ρ S = (c_var i ρ S).bind fun x S0 => (a ρ S0).bind fun y S1 => (p x y S1).bind fun z S2 => .ok (.nx (ρ.set i (some z))) S2 := rfl
@[simp] theorem s_par {i j : Nat} {a b : ECode} : c_par i j a b ρ S = (a ρ S).bind fun x S1 => (b ρ S1).bind fun y S2 => .ok (.nx ((ρ.set i (some x)).set j (some y))) S2 := rfl
@[simp] theorem s_par3 {i j l : Nat} {a b c : ECode} : c_par3 i j l a b c ρ S = (a ρ S).bind fun x S1 => (b ρ S1).bind fun y S2 => (c ρ S2).bind fun z S3 => .ok (.nx (((ρ.set i (some x)).set j (some y)).set l (some z))) S3 := rfl
@[simp] theorem s_setI {o i v : ECode} : c_setI o i v ρ S = (v ρ S).bind fun z S0 => (o ρ S0).bind fun x S1 => (i ρ S1).bind fun y S2 => (p_setI x y z S2).bind fun _ S3 => .ok (.nx ρ) S3 := rfl
@[simp] theorem s_fldS {c i : Nat} {o v : ECode} : c_fldS c i o v ρ S = (v ρ S).bind fun z S0 => (o ρ S0).bind fun x S1 => (p_setF c i x z S1).bind fun _ S2 => .ok (.nx ρ) S2 := rfl
@[simp] theorem g_name_eq {i : Nat} {d : D} : g_name i d ρ S = .ok (ρ.set i (some d)) S := rfl
@[simp] theorem g_nil_eq : g_nil [] ρ S = .ok ρ S := rfl
@[simp] theorem g_cons_eq {a : D → Env → Sto → Res Env} {r : List D → Env → Sto → Res Env} {d : D} {ds : List D} : g_cons a r (d :: ds) ρ S = (a d ρ S).bind fun ρ1 S1 => r ds ρ1 S1 := rfl
@[simp] theorem g_tup_eq {n : Nat} {r : List D → Env → Sto → Res Env} {ds : List D} : g_tup n r (.tup ds) ρ S = if ds.length = n then r ds ρ S else .stuck := rfl
-- operators
@[simp] theorem v_add {b : Bool} {i j : Int} : p_add b (.int i) (.int j) S = .ok (.int (i + j)) S := rfl
@[simp] theorem v_addI {i j : Int} : p_addI (.int i) (.int j) S = .ok (.int (i + j)) S := rfl
@[simp] theorem v_sub {i j : Int} : p_sub (.int i) (.int j) S = .ok (.int (i - j)) S := rfl
@[simp] theorem v_mul {b : Bool} {i j : Int} : p_mul b (.int i) (.int j) S = if CMulW i j then .ok (.int (i * j)) S else .stuck := rfl
@[simp] theorem v_fdiv {i j : Int} : p_fdiv (.int i) (.int j) S = if CDivW i j then .ok (.int (i / j)) S else .stuck := rfl
@[simp] theorem v_mod {i j : Int} : p_mod (.int i) (.int j) S = if 0 < j then .ok (.int (i % j)) S else .stuck := rfl
@[simp] theorem v_pow {i j : Int} : p_pow (.int i) (.int j) S = if CPow i j then .ok (.int (i ^ j.toNat)) S else .stuck := rfl
@[simp] theorem v_neg {i : Int} : p_neg (.int i) S = .ok (.int (-i)) S := rfl
@[simp] theorem v_lt {i j : Int} : p_lt (.int i) (.int j) S = .ok (.bl (decide (i < j))) S := rfl
@[simp] theorem v_le {i j : Int} : p_le (.int i) (.int j) S = .ok (.bl (decide (i ≤ j))) S := rfl
@[simp] theorem v_gt {i j : Int} : p_gt (.int i) (.int j) S = .ok (.bl (decide (j < i))) S := rfl
@[simp] theorem v_ge {i j : Int} : p_ge (.int i) (.int j) S = .ok (.bl (decide (j ≤ i))) S := rfl
@[simp] theorem v_eq {n : Bool} {i j : Int} : p_eq n (.int i) (.int j) S = .ok (.bl (if n = true then !decide (i = j) else decide (i = j))) S := by
  cases n with
  | true => exact congrArg (fun b => Res.ok (D.bl b) S) (show (!PyData.eqv (.int i) (.int j)) = _ from by simp only [PyData.eqv, if_true]; rfl)
  | false => exact congrArg (fun b => Res.ok (D.bl b) S) (show (PyData.eqv (.int i) (.int j)) = _ from by simp only [PyData.eqv]; rfl)
@[simp] theorem v_isN {n : Bool} {x : D} : p_isN n x .non S = .ok (.bl (if n = true then !isNon x else isNon x)) S := by cases x <;> rfl
@[simp] theorem v_tupcat {b : Bool} {xs ys : List D} : p_add b (.tup xs) (.tup ys) S = p_tup (xs ++ ys) S := rfl
end
end DL

set_option Elab.async false
set_option linter.all false
set_option maxRecDepth 100000
set_option maxHeartbeats 4000000
/-! DP1: the deck of the laws that draw by numbers -/
namespace DL
open PySem PySem.Spec PyProof.Rows L2
theorem cmul {i j : Int} (h1 : -(2 ^ 64) < i) (h2 : i < 2 ^ 64) (h3 : -(2 ^ 64) < j) (h4 : j < 2 ^ 64) : CMulW i j :=
  wide_mul (a := 64) (b := 64) (by omega) (by omega) (by decide) (by decide) (by decide)
theorem cdiv {i j : Int} (h : 0 < j) (h2 : j < 2 ^ 64) : CDivW i j := wide_div (b := 64) h (by omega) (by decide) (by decide)
theorem fin_same {S S' : Sto} {d : D} (h : S'.length = S.length) : fin S d S' = .ok d S' := by unfold fin; rw [if_pos h]
/-- the cells of the call's own are forgotten -/
theorem fin_cut {S S' T : Sto} {d : D} (hl : S'.length = S.length) (ht : T ≠ []) (hc : ∀ (n : Nat) (c : Option Cell), S'[n]? = some c → S[n]? = some c ∨ cellLt S.length c = true) (hd : refsLt S.length d = true) : fin S d (S' ++ T) = .ok d S' := by
  have hT : T.length ≠ 0 := fun e => ht (List.length_eq_zero_iff.mp e)
  have hk : cutOk S (S' ++ T) := fun n c hn e => by
    rw [List.getElem?_append_left (by omega)] at e
    exact hc n c e
  unfold fin
  rw [if_neg (by rw [List.length_append]; omega), if_pos ⟨hk, hd⟩, ← hl, List.take_left]
/-- what a def's body leaves -/
noncomputable def ret (S : Sto) (r : Res Flo) : Res D := match r with
  | .ok (.rt d) S' => fin S d S'
  | .ok (.nx _) S' => fin S .non S'
  | .ex k d S' => finX S k d S'
  | _ => .stuck
theorem fnR_eq {n : Nat} {c : SCode} {ds : List D} {S : Sto} : fnR n c ds S = ret S (c (ds.map some ++ List.replicate (n - ds.length) none) S) := rfl
@[simp] theorem ret_rt {S S' : Sto} {d : D} : ret S (.ok (.rt d) S') = fin S d S' := rfl
@[simp] theorem ret_nx {S S' : Sto} {ρ : Env} : ret S (.ok (.nx ρ) S') = fin S .non S' := rfl
noncomputable def c_draw : SCode :=
  (c_seq (c_setI (c_var 0) (c_d (.int 2)) (c_op (p_add false) (c_op p_ix (c_var 0) (c_d (.int 2))) (c_d (.int 1))))
  (c_seq (c_set 2 (c_op p_ix (c_var 0) (c_d (.int 1))))
  (c_seq (c_ifS (c_test (c_op (p_eq true) (c_op p_ix (c_var 0) (c_d (.int 0))) (c_lst false c_nil))) (c_seq (c_set 3 (c_meth isL p_pop (c_op p_ix (c_var 0) (c_d (.int 0))) c_nil))
  (c_seq (c_ifS (c_test (c_op p_ge (c_var 3) (c_op p_pow (c_d (.int 10)) (c_d (.int 18))))) (c_seq (c_expr (c_meth isL p_append (c_op p_ix (c_var 0) (c_d (.int 0))) (c_cons (c_op p_fdiv (c_var 3) (c_var 1)) c_nil)))
  (c_ret (c_op p_mod (c_var 3) (c_var 1)))) c_nx)
  (c_set 2 (c_op (p_add false) (c_var 2) (c_var 3))))) c_nx)
  (c_seq (c_set 2 (c_op p_mod (c_op (p_mul false) (c_op (p_add false) (c_op (p_add false) (c_op p_mod (c_var 2) (c_d (.int 2147483549))) (c_op (p_mul false) (c_op (p_mul false) (c_d (.int 92821)) (c_op p_ix (c_var 0) (c_d (.int 2)))) (c_op p_ix (c_var 0) (c_d (.int 2))))) (c_d (.int 5))) (c_d (.int 16807))) (c_d (.int 2147483647))))
  (c_seq (c_set 2 (c_op p_mod (c_op (p_add false) (c_op (p_add false) (c_op (p_mul false) (c_var 2) (c_var 2)) (c_op (p_mul false) (c_d (.int 40009)) (c_op p_ix (c_var 0) (c_d (.int 2))))) (c_d (.int 3))) (c_d (.int 2147483579))))
  (c_ret (c_op p_mod (c_op p_fdiv (c_op p_mod (c_op (p_mul false) (c_var 2) (c_d (.int 48271))) (c_d (.int 2147483549))) (c_d (.int 64))) (c_var 1))))))))
def dk (its : List Int) (seed cnt : Int) (T : Sto) : Sto := some (.lst (its.map .int)) :: some (.lst [.ref 0, .int seed, .int cnt]) :: T
def Dk (n : Nat) (T S : Sto) : Prop := ∃ its seed cnt, S = dk its seed cnt T ∧ its.length ≤ 63 ∧ 0 ≤ seed ∧ seed < 2 ^ 32 ∧ 0 ≤ cnt ∧ cnt ≤ n
section
variable {its : List Int} {seed cnt b : Int} {T : Sto} {ρ : Env}
theorem p_lst_f {S : Sto} : p_lst false [] S = .ok (.lst []) S := rfl
theorem dk_ix2 : p_ix (.ref 1) (.int 2) (dk its seed cnt T) = .ok (.int cnt) (dk its seed cnt T) := rfl
theorem dk_ix1 : p_ix (.ref 1) (.int 1) (dk its seed cnt T) = .ok (.int seed) (dk its seed cnt T) := rfl
theorem dk_ix0 : p_ix (.ref 1) (.int 0) (dk its seed cnt T) = .ok (.ref 0) (dk its seed cnt T) := rfl
theorem dk_set2 {v : Int} : p_setI (.ref 1) (.int 2) (.int v) (dk its seed cnt T) = .ok () (dk its seed v T) := rfl
theorem flat_ints : ∀ l : List Int, flatL (l.map D.int) = some (l.map PyData.int)
  | [] => rfl
  | x :: l => by rw [List.map_cons, flatL, flat, flat_ints l]; rfl
theorem lay_ints : ∀ l : List Int, PyData.canLayAll0 (l.map PyData.int) = true
  | [] => rfl
  | x :: l => by rw [List.map_cons, PyData.canLayAll0, PyData.canLay0, lay_ints l]; rfl
theorem depth_ints : ∀ l : List Int, PyData.depthAll (l.map PyData.int) = 0
  | [] => rfl
  | x :: l => by rw [List.map_cons, PyData.depthAll, PyData.depth, depth_ints l]; rfl
theorem dk_ne : p_eq true (.ref 0) (.lst []) (dk its seed cnt T) = .ok (.bl (!its.isEmpty)) (dk its seed cnt T) := by
  have h : pyOf (dk its seed cnt T) (.ref 0) = some (.list (its.map PyData.int)) := by
    show (flatL (its.map D.int)).map PyData.list = _
    rw [flat_ints]; rfl
  have h2 : ∀ its : List Int, SeqAt.shaped (.list (its.map PyData.int)) = true := by
    intro its
    unfold SeqAt.shaped
    rw [PyData.canLay0, lay_ints, PyData.depth, depth_ints]
    rfl
  unfold p_eq
  rw [h]
  show (if _ then _ else _) = _
  rw [if_pos ⟨h2 its, rfl⟩]
  cases its <;> rfl
theorem dk_pop {x : Int} : p_pop (.ref 0) [] (dk (its ++ [x]) seed cnt T) = .ok (.int x) (dk its seed cnt T) := by
  unfold p_pop
  show (match ((its ++ [x]).map D.int)[((its ++ [x]).map D.int).length - 1]? with
      | some y => Res.ok y ((dk (its ++ [x]) seed cnt T).set 0 (some (.lst ((its ++ [x]).map D.int).dropLast)))
      | none => .stuck) = _
  have e : ((its ++ [x]).map D.int)[((its ++ [x]).map D.int).length - 1]? = some (.int x) := by simp
  rw [e]
  show Res.ok _ _ = _
  simp [dk]
theorem dk_isL : isL (.ref 0) (dk its seed cnt T) = true := rfl
theorem dk_app {x : Int} (h : its.length < 100000) : p_append (.ref 0) [.int x] (dk its seed cnt T) = .ok .non (dk (its ++ [x]) seed cnt T) := by
  unfold p_append
  show (if fits ((its.map D.int).length + 1) = true then Res.ok D.non ((dk its seed cnt T).set 0 (some (.lst (its.map D.int ++ [.int x])))) else .stuck) = _
  rw [if_pos (show fits _ = true from decide_eq_true (by simp; omega))]
  simp [dk]

theorem draw_ok {n : Nat} {S : Sto} (h : Dk n T S) (hn : n < 2 ^ 20) (hb : 0 < b) (hb2 : b < 2 ^ 40) : ∃ v S', fnR 4 c_draw [.ref 1, .int b] S = .ok (.int v) S' ∧ Dk (n + 1) T S' ∧ 0 ≤ v ∧ v < b := by
  obtain ⟨its, seed, cnt, rfl, hl, h1, h2, h3, h4⟩ := h
  have fs : ∀ (its' : List Int) (v : Int), fin (dk its seed cnt T) (.int v) (dk its' seed (cnt + 1) T) = .ok (.int v) (dk its' seed (cnt + 1) T) := fun its' v => fin_same rfl
  have m2 : ∀ x m : Int, 0 < m → 0 ≤ x % m ∧ x % m < m := fun x m hm => ⟨Int.emod_nonneg _ (by omega), Int.emod_lt_of_pos _ hm⟩
  have tail : ∀ (its' : List Int) (x : Int) (o : Option D), its'.length ≤ 63 → ∃ v S', (ret (dk its seed cnt T) ((c_seq (c_set 2 (c_op p_mod (c_op (p_mul false) (c_op (p_add false) (c_op (p_add false) (c_op p_mod (c_var 2) (c_d (.int 2147483549))) (c_op (p_mul false) (c_op (p_mul false) (c_d (.int 92821)) (c_op p_ix (c_var 0) (c_d (.int 2)))) (c_op p_ix (c_var 0) (c_d (.int 2))))) (c_d (.int 5))) (c_d (.int 16807))) (c_d (.int 2147483647))))
  (c_seq (c_set 2 (c_op p_mod (c_op (p_add false) (c_op (p_add false) (c_op (p_mul false) (c_var 2) (c_var 2)) (c_op (p_mul false) (c_d (.int 40009)) (c_op p_ix (c_var 0) (c_d (.int 2))))) (c_d (.int 3))) (c_d (.int 2147483579))))
  (c_ret (c_op p_mod (c_op p_fdiv (c_op p_mod (c_op (p_mul false) (c_var 2) (c_d (.int 48271))) (c_d (.int 2147483549))) (c_d (.int 64))) (c_var 1))))) [some (.ref 1), some (.int b), some (.int x), o] (dk its' seed (cnt + 1) T))) = .ok (.int v) S' ∧ Dk (n + 1) T S' ∧ 0 ≤ v ∧ v < b := by
    intro its' x o hl'
    have v0 : ∀ (y : Int) S, c_var 0 [some (.ref 1), some (.int b), some (.int y), o] S = .ok (.ref 1) S := fun y S => rfl
    have v1 : ∀ (y : Int) S, c_var 1 [some (.ref 1), some (.int b), some (.int y), o] S = .ok (.int b) S := fun y S => rfl
    have v2 : ∀ (y : Int) S, c_var 2 [some (.ref 1), some (.int b), some (.int y), o] S = .ok (.int y) S := fun y S => rfl
    have st : ∀ (y z : Int), ([some (.ref 1), some (.int b), some (.int y), o] : Env).set 2 (some (.int z)) = [some (.ref 1), some (.int b), some (.int z), o] := fun y z => rfl
    have a1 := m2 x 2147483549 (by omega)
    have sq : 0 ≤ (cnt + 1) * (cnt + 1) ∧ (cnt + 1) * (cnt + 1) ≤ 2 ^ 20 * 2 ^ 20 := ⟨Int.mul_nonneg (by omega) (by omega), Int.mul_le_mul (by omega) (by omega) (by omega) (by omega)⟩
    have e1 : 92821 * (cnt + 1) * (cnt + 1) = 92821 * ((cnt + 1) * (cnt + 1)) := Int.mul_assoc _ _ _
    have c1 : CMulW 92821 (cnt + 1) := cmul (by omega) (by omega) (by omega) (by omega)
    have c2 : CMulW (92821 * (cnt + 1)) (cnt + 1) := cmul (by omega) (by omega) (by omega) (by omega)
    have c3 : CMulW (x % 2147483549 + 92821 * (cnt + 1) * (cnt + 1) + 5) 16807 := by rw [e1]; exact cmul (by omega) (by omega) (by omega) (by omega)
    simp only [s_seq, s_set, e_op, v2, e_d, Res.bind_ok, v_mod, v0, v1, dk_ix2, v_mul, v_add, if_pos c1, if_pos c2, if_pos c3, st, if_pos (show (0 : Int) < 2147483549 by decide), if_pos (show (0 : Int) < 2147483647 by decide), if_pos (show (0 : Int) < 2147483579 by decide)]
    generalize hy : (x % 2147483549 + 92821 * (cnt + 1) * (cnt + 1) + 5) * 16807 % 2147483647 = y
    have b1 : 0 ≤ y ∧ y < 2147483647 := hy ▸ m2 _ _ (by decide)
    have c4 : CMulW y y := cmul (by omega) (by omega) (by omega) (by omega)
    have c5 : CMulW 40009 (cnt + 1) := cmul (by omega) (by omega) (by omega) (by omega)
    simp only [s_seq, s_set, e_op, v2, e_d, Res.bind_ok, v_mod, v0, v1, dk_ix2, v_mul, v_add, if_pos c4, if_pos c5, st, if_pos (show (0 : Int) < 2147483549 by decide), if_pos (show (0 : Int) < 2147483647 by decide), if_pos (show (0 : Int) < 2147483579 by decide)]
    generalize hz : (y * y + 40009 * (cnt + 1) + 3) % 2147483579 = z
    have b2 : 0 ≤ z ∧ z < 2147483579 := hz ▸ m2 _ _ (by decide)
    have c6 : CMulW z 48271 := cmul (by omega) (by omega) (by omega) (by omega)
    have c7 : CDivW (z * 48271 % 2147483549) 64 := cdiv (by decide) (by decide)
    simp only [s_ret, e_op, v2, e_d, Res.bind_ok, v_mod, v0, v1, v_mul, v_fdiv, if_pos c6, if_pos c7, if_pos hb, if_pos (show (0 : Int) < 2147483549 by decide)]
    refine ⟨_, _, fs _ _, ⟨its', seed, cnt + 1, rfl, hl', h1, h2, by omega, by omega⟩, m2 _ _ hb⟩
  rw [fnR_eq]
  show ∃ v S', ret (dk its seed cnt T) (c_draw [some (.ref 1), some (.int b), none, none] (dk its seed cnt T)) = .ok (.int v) S' ∧ Dk (n + 1) T S' ∧ 0 ≤ v ∧ v < b
  unfold c_draw
  have v0 : ∀ (o : Option D) (o' : Option D) S, c_var 0 [some (.ref 1), some (.int b), o, o'] S = .ok (.ref 1) S := fun y y' S => rfl
  have v1 : ∀ (o : Option D) (o' : Option D) S, c_var 1 [some (.ref 1), some (.int b), o, o'] S = .ok (.int b) S := fun y y' S => rfl
  have v2 : ∀ (y : Int) (o' : Option D) S, c_var 2 [some (.ref 1), some (.int b), some (.int y), o'] S = .ok (.int y) S := fun y y' S => rfl
  have v3 : ∀ (o : Option D) (y : Int) S, c_var 3 [some (.ref 1), some (.int b), o, some (.int y)] S = .ok (.int y) S := fun y y' S => rfl
  have st : ∀ (o o' : Option D) (z : Int), ([some (.ref 1), some (.int b), o, o'] : Env).set 2 (some (.int z)) = [some (.ref 1), some (.int b), some (.int z), o'] := fun y y' z => rfl
  have st3 : ∀ (o o' : Option D) (z : Int), ([some (.ref 1), some (.int b), o, o'] : Env).set 3 (some (.int z)) = [some (.ref 1), some (.int b), o, some (.int z)] := fun y y' z => rfl
  simp only [s_seq, s_setI, s_set, e_op, e_d, Res.bind_ok, v0, v1, dk_ix2, dk_ix1, v_add, dk_set2, st, s_ifS, e_test, dk_ix0, e_lst, e_nil, p_lst_f, dk_ne, e_asB]
  rcases List.eq_nil_or_concat its with rfl | ⟨its, x, rfl⟩
  · simp only [List.isEmpty_nil, Bool.not_true, Bool.false_eq_true, if_false, s_nx, Res.bind_ok]
    exact tail [] seed none hl
  · rw [List.concat_eq_append] at *
    have hl2 : its.length ≤ 62 := by
      rw [List.length_append] at hl
      simp at hl
      omega
    have ne : (!(its ++ [x]).isEmpty) = true := by cases its <;> rfl
    simp only [ne, if_true, s_seq, s_set, e_meth, v0, e_d, e_op, Res.bind_ok, dk_ix0, dk_isL, e_nil, dk_pop, st3, s_ifS, e_test, v3, v_pow, if_pos (show CPow 10 18 from ⟨by decide, by decide, by decide⟩), v_ge, e_asB]
    by_cases hx : 10 ^ (18 : Int).toNat ≤ x
    · simp only [decide_eq_true hx, if_true, s_seq, s_expr, e_meth, v0, e_d, e_op, Res.bind_ok, dk_ix0, dk_isL, e_cons, v3, v1, v_fdiv, if_pos (cdiv hb (by omega : b < 2 ^ 64)), e_nil, dk_app (show its.length < 100000 by omega), s_ret, v_mod, if_pos hb, ret_rt]
      refine ⟨_, _, fs _ _, ⟨its ++ [x / b], seed, cnt + 1, rfl, by simp; omega, h1, h2, by omega, by omega⟩, m2 _ _ hb⟩
    · simp only [decide_eq_false hx, Bool.false_eq_true, if_false, s_nx, Res.bind_ok, s_set, e_op, v2, v3, v_add, st]
      exact tail its (seed + x) _ (by omega)
end
end DL

set_option Elab.async false
set_option linter.all false
set_option maxRecDepth 100000
set_option maxHeartbeats 4000000
/-! DP2: texts of data, loops -/
namespace DL
open PySem PySem.Spec PyProof.Rows L2
/-! ### texts -/
theorem sOk_app {a b : PySem.Str} (ha : PyData.strOk a = true) (hb : PyData.strOk b = true) : PyData.strOk (a ++ b) = true := by
  unfold PyData.strOk at *
  rw [PySem.Str.cps_append, Array.all_append, ha, hb]
  rfl
theorem sOk_of (x : String) : PyData.strOk (PySem.Str.ofString x) = true := by
  unfold PyData.strOk
  rw [PySem.Str.ofString_eq_toList]
  show Array.all (List.toArray _) _ = true
  rw [List.all_toArray, List.all_eq_true]
  intro c hc
  obtain ⟨ch, _, rfl⟩ := List.mem_map.mp hc
  have := ch.valid
  have h : ch.toNat < 0x110000 := by
    rcases this with h | h
    · exact Nat.lt_trans h (by decide)
    · exact h.2
  exact decide_eq_true h
theorem sOk_from : ∀ (ts : List PySem.Str) (k : Nat) (acc : PySem.Str), PyData.strOk acc = true → (∀ t ∈ ts, PyData.strOk t = true) → PyData.strOk (textFrom k acc ts) = true
  | [], _, _, h, _ => h
  | t :: ts, k, acc, h, ht => by
    unfold textFrom
    exact sOk_from ts (k + 1) _ (sOk_app (sOk_app h (sOk_of _)) (ht t (List.mem_cons_self ..))) fun u hu => ht u (List.mem_cons_of_mem _ hu)
theorem sOk_join (sep : PySem.Str) (hs : PyData.strOk sep = true) : ∀ ts : List PySem.Str, (∀ t ∈ ts, PyData.strOk t = true) → PyData.strOk (PySem.Str.join sep ts) = true
  | [], _ => by unfold PySem.Str.join PyData.strOk PySem.Str.empty; simp
  | [t], h => by
    have := h t (List.mem_cons_self ..)
    simpa [PySem.Str.join] using this
  | t :: u :: r, h => by
    have ih := sOk_join sep hs (u :: r) fun x hx => h x (List.mem_cons_of_mem _ hx)
    have h1 := h t (List.mem_cons_self ..)
    have e : PySem.Str.join sep (t :: u :: r) = t ++ sep ++ PySem.Str.join sep (u :: r) := by rw [PySem.Str.join]; exact fun e => by cases e
    rw [e]
    exact sOk_app (sOk_app h1 hs) ih
structure Fi (d w : Nat) (p : PyData) : Prop where
  lay : p.canLay0 = true
  sh : p.showable = true
  nd : p.hasDict = false
  dep : p.depth ≤ d
  lv : p.leavesShort 32 = true
  wt : p.weight ≤ w
  ok : PyData.strOk p.shown = true
structure Fis (d w : Nat) (ps : List PyData) : Prop where
  lay : PyData.canLayAll0 ps = true
  sh : PyData.showableAll ps = true
  nd : PyData.hasDictAll ps = false
  dep : PyData.depthAll ps ≤ d
  lv : PyData.leavesShortAll 32 ps = true
  wt : PyData.weightAll ps ≤ ps.length * (w + 1)
  ok : ∀ t ∈ PyData.shownAll ps, PyData.strOk t = true
theorem Fi.mono {d w d' w' : Nat} {p : PyData} (h : Fi d w p) (h1 : d ≤ d') (h2 : w ≤ w') : Fi d' w' p := ⟨h.lay, h.sh, h.nd, Nat.le_trans h.dep h1, h.lv, Nat.le_trans h.wt h2, h.ok⟩
theorem Fi.int {i : Int} (h : i.natAbs < 10 ^ 30) : Fi 0 100 (.int i) := by
  have hl : i.natAbs.log2 < 100 := by
    rcases Nat.eq_zero_or_pos i.natAbs with e | e
    · rw [e]; decide
    · exact (Nat.log2_lt (by omega)).mpr (Nat.lt_trans h (by decide))
  refine ⟨rfl, ?_, rfl, Nat.le_refl _, ?_, ?_, sOk_of _⟩
  · rw [PyData.showable]
    exact decide_eq_true (by omega)
  · rw [PyData.leavesShort, PyData.shown]
    refine decide_eq_true ?_
    rw [PySem.ofString_length]
    have := int_text_length_le10 (k := 30) (by decide) h
    omega
  · rw [PyData.weight]
    split <;> omega
theorem Fis.of {d w : Nat} : ∀ {ps : List PyData}, (∀ p ∈ ps, Fi d w p) → Fis d w ps
  | [], _ => ⟨rfl, rfl, rfl, Nat.zero_le _, rfl, Nat.zero_le _, fun t h => by cases h⟩
  | p :: ps, h => by
    have a := h p (List.mem_cons_self ..)
    have b := Fis.of (ps := ps) fun q hq => h q (List.mem_cons_of_mem _ hq)
    refine ⟨?_, ?_, ?_, ?_, ?_, ?_, fun t ht => ?_⟩
    · rw [PyData.canLayAll0, a.lay, b.lay]; rfl
    · rw [PyData.showableAll, a.sh, b.sh]; rfl
    · rw [PyData.hasDictAll, a.nd, b.nd]; rfl
    · rw [PyData.depthAll]; exact Nat.max_le.mpr ⟨a.dep, b.dep⟩
    · rw [PyData.leavesShortAll, a.lv, b.lv]; rfl
    · rw [PyData.weightAll, List.length_cons, Nat.succ_mul]
      have := a.wt
      have := b.wt
      omega
    · rw [PyData.shownAll] at ht
      rcases List.mem_cons.mp ht with rfl | ht
      · exact a.ok
      · exact b.ok t ht
theorem Fi.list {d w : Nat} {ps : List PyData} (h : ∀ p ∈ ps, Fi d w p) : Fi (d + 1) (ps.length * (w + 1)) (.list ps) := by
  have b := Fis.of h
  refine ⟨?_, ?_, ?_, ?_, ?_, ?_, ?_⟩
  · rw [PyData.canLay0]; exact b.lay
  · rw [PyData.showable]; exact b.sh
  · rw [PyData.hasDict]; exact b.nd
  · rw [PyData.depth]; have := b.dep; omega
  · rw [PyData.leavesShort]; exact b.lv
  · rw [PyData.weight]; exact b.wt
  · rw [PyData.shown]
    unfold listText
    exact sOk_app (sOk_from _ _ _ (sOk_of _) b.ok) (sOk_of _)
theorem Fi.tuple {d w : Nat} {ps : List PyData} (h : ∀ p ∈ ps, Fi d w p) : Fi (d + 1) (ps.length * (w + 1)) (.tuple ps) := by
  have b := Fis.of h
  refine ⟨?_, ?_, ?_, ?_, ?_, ?_, ?_⟩
  · rw [PyData.canLay0]; exact b.lay
  · rw [PyData.showable]; exact b.sh
  · rw [PyData.hasDict]; exact b.nd
  · rw [PyData.depth]; have := b.dep; omega
  · rw [PyData.leavesShort]; exact b.lv
  · rw [PyData.weight]; exact b.wt
  · rw [PyData.shown]
    unfold tupleText
    exact sOk_app (sOk_app (sOk_of _) (sOk_join _ (sOk_of _) _ b.ok)) (sOk_of _)
def isSeq : PyData → Bool
  | .list _ => true
  | .tuple _ => true
  | _ => false
theorem Fi.len {d w : Nat} {p : PyData} (h : Fi d w p) (hw : w ≤ 29000) : p.shown.length ≤ 1000000 := by
  have h1 := PyData.shown_le 32 (by decide) p h.lv
  have h2 := h.wt
  omega
theorem Fi.text {d w : Nat} {p : PyData} (h : Fi d w p) (hs : isSeq p = true) (hd : d ≤ 60) (hw : w ≤ 29000) : textOf p = some p.shown := by
  have hl := h.len hw
  have hd' := Nat.le_trans h.dep hd
  unfold textOf
  cases p with
  | list xs => exact if_pos ⟨h.sh, h.nd, hd', hl⟩
  | tuple xs => exact if_pos ⟨h.sh, h.nd, hd', hl⟩
  | _ => cases hs
/-- repr of a value that is fine -/
theorem repr_eq {S : Sto} {x : D} {p : PyData} {d w : Nat} (hp : pyOf S x = some p) (h : Fi d w p) (hs : isSeq p = true) (hd : d ≤ 60) (hw : w ≤ 29000) : p_repr [x] S = .ok (.str p.shown) S := by
  unfold p_repr
  simp only [hp, Option.bind_some, h.text hs hd hw]
theorem eq_str {S : Sto} {x y : PySem.Str} (hx : PyData.strOk x = true) (hy : PyData.strOk y = true) : p_eq false (.str x) (.str y) S = .ok (.bl (x == y)) S := by
  unfold p_eq
  have h : ∀ z : PySem.Str, PyData.strOk z = true → SeqAt.shaped (.str z) = true := fun z hz => by
    unfold SeqAt.shaped
    rw [PyData.canLay0, hz]
    rfl
  show (if _ then _ else _) = _
  rw [if_pos ⟨h x hx, h y hy⟩]
  simp only [Bool.false_eq_true, if_false, PyData.eqv]

/-! ### loops -/
section
variable {ok : Sto → Prop} {body : D → SCode} {g : D → Env → Sto → Res Env} {t : TCode} {a : ECode} {ρ : Env}
theorem forL_inv {I : Nat → Env → Sto → Prop} : ∀ {items : List D} {i : Nat} {ρ : Env} {S : Sto}, (∀ j ρ S, I j ρ S → ok S) →
    (∀ j d ρ S, items[j]? = some d → I (i + j) ρ S → ∃ ρ' S', body d ρ S = .ok (.nx ρ') S' ∧ I (i + j + 1) ρ' S') → I i ρ S → ∃ ρ' S', forL ok body items ρ S = .ok (.nx ρ') S' ∧ I (i + items.length) ρ' S'
  | [], i, ρ, S, hok, hb, h => by
    refine ⟨ρ, S, ?_, h⟩
    unfold forL
    rw [if_pos (hok _ _ _ h)]
  | d :: ds, i, ρ, S, hok, hb, h => by
    obtain ⟨ρ1, S1, e, h1⟩ := hb 0 d ρ S rfl h
    obtain ⟨ρ2, S2, e2, h2⟩ := forL_inv (items := ds) (i := i + 1) hok (fun j d ρ S hj hI => by
      have := hb (j + 1) d ρ S (by simpa using hj) (by rw [show i + (j + 1) = i + 1 + j by omega]; exact hI)
      rw [show i + (j + 1) + 1 = i + 1 + j + 1 by omega] at this
      exact this) h1
    refine ⟨ρ2, S2, ?_, by rw [List.length_cons, show i + (ds.length + 1) = i + 1 + ds.length by omega]; exact h2⟩
    unfold forL
    rw [if_pos (hok _ _ _ h), e]
    exact e2
/-- a comprehension, its items drawn one after the other -/
theorem lcL_inv {I : Nat → Sto → List D → Prop} : ∀ {items : List D} {i : Nat} {S : Sto} {ys : List D}, (∀ j S ys, I j S ys → ok S) →
    (∀ j d S ys, items[j]? = some d → I (i + j) S ys → ∃ ρ1 S1 y S', g d ρ S = .ok ρ1 S1 ∧ t ρ1 S1 = .ok true S1 ∧ a ρ1 S1 = .ok y S' ∧ I (i + j + 1) S' (ys ++ [y])) → I i S ys → ∃ zs S', lcL ok g t a ρ items S = .ok zs S' ∧ I (i + items.length) S' (ys ++ zs)
  | [], i, S, ys, hok, hb, h => by
    refine ⟨[], S, ?_, by simpa using h⟩
    unfold lcL
    rw [if_pos (hok _ _ _ h)]
  | d :: ds, i, S, ys, hok, hb, h => by
    obtain ⟨ρ1, S0, y, S1, e1, e2, e3, h1⟩ := hb 0 d S ys rfl h
    obtain ⟨zs, S2, e4, h2⟩ := lcL_inv (items := ds) (i := i + 1) hok (fun j d S ys hj hI => by
      have := hb (j + 1) d S ys (by simpa using hj) (by rw [show i + (j + 1) = i + 1 + j by omega]; exact hI)
      rw [show i + (j + 1) + 1 = i + 1 + j + 1 by omega] at this
      exact this) h1
    refine ⟨y :: zs, S2, ?_, by rw [List.length_cons, show i + (ds.length + 1) = i + 1 + ds.length by omega]; rw [List.append_assoc] at h2; exact h2⟩
    unfold lcL
    rw [if_pos (hok _ _ _ h), e1]
    simp only [Res.bindN_ok]
    rw [e2]
    simp only [Res.bindN_ok, if_true]
    rw [e3]
    simp only [Res.bindN_ok]
    rw [e4]
    rfl
/-- a comprehension that changes nothing -/
theorem lcL_map {S : Sto} (hok : ok S) {f : D → D} : ∀ {items : List D}, (∀ d ∈ items, ∃ ρ1, g d ρ S = .ok ρ1 S ∧ t ρ1 S = .ok true S ∧ a ρ1 S = .ok (f d) S) → lcL ok g t a ρ items S = .ok (items.map f) S
  | [], _ => by
    unfold lcL
    rw [if_pos hok]
    rfl
  | d :: ds, h => by
    obtain ⟨ρ1, e1, e2, e3⟩ := h d (List.mem_cons_self ..)
    unfold lcL
    rw [if_pos hok, e1]
    simp only [Res.bindN_ok]
    rw [e2]
    simp only [Res.bindN_ok, if_true]
    rw [e3]
    simp only [Res.bindN_ok]
    rw [lcL_map hok fun d hd => h d (List.mem_cons_of_mem _ hd)]
    rfl
/-- a filter -/
theorem lcL_filter {S : Sto} (hok : ok S) {p : D → Bool} {f : D → D} : ∀ {items : List D}, (∀ d ∈ items, ∃ ρ1, g d ρ S = .ok ρ1 S ∧ t ρ1 S = .ok (p d) S ∧ a ρ1 S = .ok (f d) S) → lcL ok g t a ρ items S = .ok ((items.filter p).map f) S
  | [], _ => by
    unfold lcL
    rw [if_pos hok]
    rfl
  | d :: ds, h => by
    obtain ⟨ρ1, e1, e2, e3⟩ := h d (List.mem_cons_self ..)
    have ih := lcL_filter hok (p := p) (f := f) fun d hd => h d (List.mem_cons_of_mem _ hd)
    unfold lcL
    rw [if_pos hok, e1]
    simp only [Res.bindN_ok]
    rw [e2]
    simp only [Res.bindN_ok]
    cases hp : p d with
    | false =>
      simp only [Bool.false_eq_true, if_false]
      rw [ih, List.filter_cons_of_neg (by rw [hp]; decide)]
    | true =>
      simp only [if_true]
      rw [e3]
      simp only [Res.bindN_ok]
      rw [ih, List.filter_cons_of_pos hp]
      rfl
end
theorem ev_v0 {d : D} {r : Env} {S : Sto} : c_var 0 (some d :: r) S = .ok d S := rfl
theorem ev_vs {n : Nat} {o : Option D} {r : Env} {S : Sto} : c_var (n + 1) (o :: r) S = c_var n r S := rfl
theorem ev_a1 {m : List D → Sto → Res D} {a : D} {S : Sto} : argsN 1 m [a] S = m [a] S := rfl
theorem ev_a2 {m : List D → Sto → Res D} {a b : D} {S : Sto} : argsN 2 m [a, b] S = m [a, b] S := rfl
theorem ev_a3 {m : List D → Sto → Res D} {a b c : D} {S : Sto} : argsN 3 m [a, b, c] S = m [a, b, c] S := rfl
theorem ev_a4 {m : List D → Sto → Res D} {a b c d : D} {S : Sto} : argsN 4 m [a, b, c, d] S = m [a, b, c, d] S := rfl
theorem e_yes {ρ : Env} {S : Sto} : c_yes ρ S = .ok true S := rfl
theorem ok_nil {S : Sto} {ds : List D} : Wk.ok ⟨ds, []⟩ S := fun p hp => by cases hp
end DL

set_option Elab.async false
set_option linter.all false
set_option maxRecDepth 100000
set_option maxHeartbeats 4000000
/-! DP3: tuples and lists of ints -/
namespace DL
open PySem PySem.Spec PyProof.Rows L2
abbrev iD (l : List Int) : List D := l.map D.int
abbrev tI (l : List Int) : D := .tup (l.map D.int)
abbrev lI (l : List Int) : D := .lst (l.map D.int)
theorem flat_rep {α : Type} (a : α) (n : Nat) : (List.replicate n [a]).flatten = List.replicate n a := by
  induction n with
  | zero => rfl
  | succ n ih => rw [List.replicate_succ, List.flatten_cons, ih]; rfl
section
variable {S : Sto}
theorem mul_tup {d : D} {k : Int} (h : 1 ≤ k) (h2 : k ≤ 1000) : p_mul false (.tup [d]) (.int k) S = .ok (.tup (List.replicate k.toNat d)) S := by
  unfold p_mul
  show (if _ then _ else _) = _
  rw [if_pos ⟨by simp, h, h2, by simp⟩, flat_rep]
theorem mul_lst {b : Bool} {d : D} {k : Int} (h : 1 ≤ k) (h2 : k ≤ 1000) : p_mul b (.lst [d]) (.int k) S = p_lst b (List.replicate k.toNat d) S := by
  unfold p_mul p_mulL
  show (if _ then _ else _) = _
  rw [if_pos ⟨by omega, h2, by simp⟩, flat_rep]
theorem fits_le' {n : Nat} (h : n ≤ 1000000) : fits n = true := decide_eq_true h
theorem lst_f {ds : List D} (h : ds.length ≤ 1000000) : p_lst false ds S = .ok (.lst ds) S := by unfold p_lst; rw [if_pos (fits_le' h)]
theorem lst_t {ds : List D} (h : ds.length ≤ 1000000) : p_lst true ds S = .ok (.ref S.length) (S ++ [some (.lst ds)]) := by unfold p_lst; rw [if_pos (fits_le' h)]
theorem tup_f {ds : List D} (h : ds.length ≤ 1000000) : p_tup ds S = .ok (.tup ds) S := by unfold p_tup; rw [if_pos (fits_le' h)]
theorem list_tup {ds : List D} (h : ds.length ≤ 1000000) : p_list false [.tup ds] S = .ok (.lst ds) S := lst_f h
theorem list_lst {ds : List D} (h : ds.length ≤ 1000000) : p_list false [.lst ds] S = .ok (.lst ds) S := lst_f h
theorem tuple_lst {ds : List D} (h : ds.length ≤ 1000000) : p_tuple [.lst ds] S = .ok (.tup ds) S := tup_f h
theorem len_lst {ds : List D} : p_len [.lst ds] S = .ok (.int ds.length) S := rfl
theorem len_tup {ds : List D} : p_len [.tup ds] S = .ok (.int ds.length) S := rfl
theorem ixN_nn {n : Nat} {i : Int} (h : 0 ≤ i) (h2 : i < n) : ixN n i = some i.toNat := by
  unfold ixN
  rw [if_pos h, if_pos h2]
theorem ixN_neg {n : Nat} {i : Int} (h : i < 0) (h2 : -(n : Int) ≤ i) : ixN n i = some (i + n).toNat := by
  unfold ixN
  rw [if_neg (by omega), if_pos (by omega)]
theorem atD_nn {ds : List D} {i : Int} {d : D} (h : 0 ≤ i) (h2 : ds[i.toNat]? = some d) : atD ds i = some d := by
  have := (List.getElem?_eq_some_iff.mp h2).1
  unfold atD
  rw [ixN_nn h (by omega)]
  exact h2
theorem ix_lst {ds : List D} {i : Int} {d : D} (h : 0 ≤ i) (h2 : ds[i.toNat]? = some d) : p_ix (.lst ds) (.int i) S = .ok d S := by
  show (match atD ds i with
    | some d => Res.ok d S
    | none => .stuck) = _
  rw [atD_nn h h2]
theorem ix_tup {ds : List D} {i : Int} {d : D} (h : 0 ≤ i) (h2 : ds[i.toNat]? = some d) : p_ix (.tup ds) (.int i) S = .ok d S := by
  show (match atD ds i with
    | some d => Res.ok d S
    | none => .stuck) = _
  rw [atD_nn h h2]
theorem ok_two {x y : D} {xs ys : List D} {items : List D} (h1 : itemsOf x S = some xs) (h2 : itemsOf y S = some ys) : Wk.ok ⟨items, [(x, xs), (y, ys)]⟩ S := fun p hp => by
  rcases List.mem_cons.mp hp with rfl | hp
  · exact h1
  · rcases List.mem_cons.mp hp with rfl | hp
    · exact h2
    · cases hp
theorem ok_one {x : D} {xs : List D} {items : List D} (h1 : itemsOf x S = some xs) : Wk.ok ⟨items, [(x, xs)]⟩ S := fun p hp => by
  rcases List.mem_cons.mp hp with rfl | hp
  · exact h1
  · cases hp
theorem zip_ints (xs ys : List Int) : zipD (iD xs) (iD ys) = (xs.zip ys).map fun q => .tup [.int q.1, .int q.2] := by
  unfold zipD iD
  rw [List.zip_map, List.map_map]
  rfl
theorem it_lst {x : D} {xs : List D} {a : ECode} {ρ : Env} {S1 : Sto} (ha : a ρ S = .ok x S1) (h : itemsOf x S1 = some xs) : c_it a ρ S = .ok ⟨xs, [(x, xs)]⟩ S1 := by
  unfold c_it
  rw [ha]
  simp only [Res.bind_ok, h]
theorem rng1_eq {j : Int} {a : ACode} {ρ : Env} {S1 : Sto} (ha : a ρ S = .ok [.int j] S1) (h : -(2 ^ 62) ≤ j ∧ j < 2 ^ 62) : c_rng1 a ρ S = .ok ⟨rngD 0 j.toNat, []⟩ S1 := by
  unfold c_rng1
  rw [ha]
  simp only [Res.bind_ok]
  rw [if_pos (show smallI j = true from decide_eq_true h)]
theorem rng2_eq {i j : Int} {a : ACode} {ρ : Env} {S1 : Sto} (ha : a ρ S = .ok [.int i, .int j] S1) (hi : -(2 ^ 62) ≤ i ∧ i < 2 ^ 62) (h : -(2 ^ 62) ≤ j ∧ j < 2 ^ 62) : c_rng2 a ρ S = .ok ⟨rngD i (j - i).toNat, []⟩ S1 := by
  unfold c_rng2
  rw [ha]
  simp only [Res.bind_ok]
  rw [if_pos ⟨show smallI i = true from decide_eq_true hi, show smallI j = true from decide_eq_true h⟩]
theorem zip_eq {sb : Bool} {x y : D} {xs ys : List D} {a : ACode} {ρ : Env} {S1 : Sto} (ha : a ρ S = .ok [x, y] S1) (h1 : itemsOf x S1 = some xs) (h2 : itemsOf y S1 = some ys) (hl : sb = false ∨ xs.length = ys.length) : c_zip sb a ρ S = .ok ⟨zipD xs ys, [(x, xs), (y, ys)]⟩ S1 := by
  unfold c_zip
  rw [ha]
  simp only [Res.bind_ok, h1, h2]
  rw [if_pos hl]
/-- a list comprehension that changes nothing -/
theorem lc_map {ci : Env → Sto → Res Wk} {g : D → Env → Sto → Res Env} {t : TCode} {a : ECode} {own : List Nat} {ρ : Env} {wk : Wk} {f : D → D} (hc : ci ρ S = .ok wk S) (hok : wk.ok S) (hf : wk.items.length ≤ 1000000)
    (h : ∀ d ∈ wk.items, ∃ ρ1, g d (wipeE ρ own) S = .ok ρ1 S ∧ t ρ1 S = .ok true S ∧ a ρ1 S = .ok (f d) S) : c_lc ci g t a own ρ S = .ok (.lst (wk.items.map f)) S := by
  unfold c_lc
  rw [hc]
  simp only [Res.bind_ok]
  rw [if_pos (fits_le' hf), lcL_map hok h]
  rfl
/-- the same, items given by a list of any kind -/
theorem lc_map' {α : Type} {ci : Env → Sto → Res Wk} {g : D → Env → Sto → Res Env} {t : TCode} {a : ECode} {own : List Nat} {ρ : Env} {wk : Wk} {l : List α} {e f : α → D} (hc : ci ρ S = .ok wk S) (hok : wk.ok S) (hw : wk.items = l.map e) (hf : l.length ≤ 1000000)
    (h : ∀ d ∈ l, ∃ ρ1, g (e d) (wipeE ρ own) S = .ok ρ1 S ∧ t ρ1 S = .ok true S ∧ a ρ1 S = .ok (f d) S) : c_lc ci g t a own ρ S = .ok (.lst (l.map f)) S := by
  have key : ∀ l : List α, (∀ d ∈ l, ∃ ρ1, g (e d) (wipeE ρ own) S = .ok ρ1 S ∧ t ρ1 S = .ok true S ∧ a ρ1 S = .ok (f d) S) → lcL wk.ok g t a (wipeE ρ own) (l.map e) S = .ok (l.map f) S := by
    intro l
    induction l with
    | nil =>
      intro _
      rw [List.map_nil]
      unfold lcL
      rw [if_pos hok]
      rfl
    | cons d ds ih =>
      intro h
      obtain ⟨ρ1, e1, e2, e3⟩ := h d (List.mem_cons_self ..)
      rw [List.map_cons]
      unfold lcL
      rw [if_pos hok, e1]
      simp only [Res.bindN_ok]
      rw [e2]
      simp only [Res.bindN_ok, if_true]
      rw [e3]
      simp only [Res.bindN_ok]
      rw [ih fun d hd => h d (List.mem_cons_of_mem _ hd)]
      rfl
  unfold c_lc
  rw [hc]
  simp only [Res.bind_ok]
  rw [hw, if_pos (fits_le' (by rw [List.length_map]; exact hf)), key l h]
  rfl
/-- a comprehension whose items are drawn -/
theorem lc_inv {ci : Env → Sto → Res Wk} {g : D → Env → Sto → Res Env} {t : TCode} {a : ECode} {own : List Nat} {ρ : Env} {wk : Wk} {I : Nat → Sto → List D → Prop} (hc : ci ρ S = .ok wk S) (hf : wk.items.length ≤ 1000000) (hok : ∀ j S ys, I j S ys → wk.ok S)
    (h : ∀ j d S ys, wk.items[j]? = some d → I j S ys → ∃ ρ1 S1 y S', g d (wipeE ρ own) S = .ok ρ1 S1 ∧ t ρ1 S1 = .ok true S1 ∧ a ρ1 S1 = .ok y S' ∧ I (j + 1) S' (ys ++ [y])) (h0 : I 0 S []) :
    ∃ zs S', c_lc ci g t a own ρ S = .ok (.lst zs) S' ∧ I wk.items.length S' zs := by
  obtain ⟨zs, S', e, hi⟩ := lcL_inv (I := I) (ok := wk.ok) (g := g) (t := t) (a := a) (ρ := wipeE ρ own) (items := wk.items) (i := 0) (S := S) (ys := []) hok (fun j d S ys hj hI => by
    rw [Nat.zero_add] at hI ⊢
    exact h j d S ys hj hI) h0
  refine ⟨zs, S', ?_, by simpa using hi⟩
  unfold c_lc
  rw [hc]
  simp only [Res.bind_ok]
  rw [if_pos (fits_le' hf), e]
  rfl
theorem for_inv {ci : Env → Sto → Res Wk} {g : D → Env → Sto → Res Env} {b : SCode} {ρ : Env} {wk : Wk} {I : Nat → Env → Sto → Prop} {S1 : Sto} (hc : ci ρ S = .ok wk S1) (hok : ∀ j ρ S, I j ρ S → wk.ok S)
    (h : ∀ j d ρ S, wk.items[j]? = some d → I j ρ S → ∃ ρ1 S1 ρ' S', g d ρ S = .ok ρ1 S1 ∧ b ρ1 S1 = .ok (.nx ρ') S' ∧ I (j + 1) ρ' S') (h0 : I 0 ρ S1) : ∃ ρ' S', c_for ci g b ρ S = .ok (.nx ρ') S' ∧ I wk.items.length ρ' S' := by
  obtain ⟨ρ', S', e, hi⟩ := forL_inv (I := I) (ok := wk.ok) (body := fun d ρ S => (g d ρ S).bind fun ρ1 S1 => b ρ1 S1) (items := wk.items) (i := 0) (ρ := ρ) (S := S1) hok (fun j d ρ S hj hI => by
    rw [Nat.zero_add] at hI ⊢
    obtain ⟨ρ1, S1, ρ', S', e1, e2, e3⟩ := h j d ρ S hj hI
    refine ⟨ρ', S', ?_, e3⟩
    rw [e1]
    exact e2) h0
  refine ⟨ρ', S', ?_, by simpa using hi⟩
  unfold c_for
  rw [hc]
  exact e
theorem whileL_inv {c : TCode} {b : SCode} {I : Nat → Env → Sto → Prop} {Dn : Env → Sto → Prop} (h : ∀ m ρ S, I m ρ S → (c ρ S = .ok false S ∧ Dn ρ S) ∨ ∃ m' ρ' S', c ρ S = .ok true S ∧ b ρ S = .ok (.nx ρ') S' ∧ m' < m ∧ I m' ρ' S') :
    ∀ (fuel m : Nat) (ρ : Env) (S : Sto), m < fuel → I m ρ S → ∃ ρ' S', whileL c b fuel ρ S = .ok (.nx ρ') S' ∧ Dn ρ' S'
  | 0, m, _, _, hm, _ => absurd hm (Nat.not_lt_zero m)
  | fuel + 1, m, ρ, S, hm, hI => by
    rcases h m ρ S hI with ⟨e, d⟩ | ⟨m', ρ', S', e, e2, hm', hI'⟩
    · refine ⟨ρ, S, ?_, d⟩
      unfold whileL
      rw [e]
      rfl
    · obtain ⟨ρ2, S2, e3, d⟩ := whileL_inv h fuel m' ρ' S' (by omega) hI'
      refine ⟨ρ2, S2, ?_, d⟩
      unfold whileL
      rw [e]
      simp only [Res.bind_ok, if_true]
      rw [e2]
      exact e3
theorem while_inv {c : TCode} {b : SCode} {I : Nat → Env → Sto → Prop} {Dn : Env → Sto → Prop} {m : Nat} {ρ : Env} (h : ∀ m ρ S, I m ρ S → (c ρ S = .ok false S ∧ Dn ρ S) ∨ ∃ m' ρ' S', c ρ S = .ok true S ∧ b ρ S = .ok (.nx ρ') S' ∧ m' < m ∧ I m' ρ' S') (hm : m < 1000000000) (h0 : I m ρ S) :
    ∃ ρ' S', c_while c b ρ S = .ok (.nx ρ') S' ∧ Dn ρ' S' := whileL_inv h FUEL m ρ S (Nat.lt_trans hm (by unfold FUEL; decide)) h0
/-! ### the deck -/
theorem dk_fin {its its' : List Int} {seed cnt seed' cnt' : Int} {T U : Sto} {d : D} (hd : refsLt (T.length + 2) d = true) : fin (dk its seed cnt T) d (dk its' seed' cnt' (T ++ U)) = .ok d (dk its' seed' cnt' T) := by
  by_cases hu : U = []
  · subst hu
    rw [List.append_nil]
    exact fin_same rfl
  · have e : dk its' seed' cnt' (T ++ U) = dk its' seed' cnt' T ++ U := rfl
    rw [e]
    refine fin_cut rfl hu (fun j c hj => ?_) hd
    have ci : ∀ l : List Int, refsLtL (dk its seed cnt T).length (iD l) = true := fun l => by
      induction l with
      | nil => rfl
      | cons x l ih => rw [iD, List.map_cons, refsLtL, refsLt]; rw [iD] at ih; rw [ih]; rfl
    match j with
    | 0 => cases hj; exact .inr (ci its')
    | 1 =>
      cases hj
      refine .inr ?_
      show (decide (0 < (dk its seed cnt T).length) && true) = true
      rfl
    | j + 2 => exact .inl hj
theorem Dk.fin {n : Nat} {T U S S' : Sto} {m : Nat} {d : D} (h : Dk n T S) (h' : Dk m (T ++ U) S') (hd : refsLt (T.length + 2) d = true) : ∃ S2, fin S d S' = .ok d S2 ∧ Dk m T S2 := by
  obtain ⟨its, seed, cnt, rfl, h1⟩ := h
  obtain ⟨its', seed', cnt', rfl, h2⟩ := h'
  exact ⟨_, dk_fin hd, ⟨its', seed', cnt', rfl, h2⟩⟩
theorem Dk.mono {n m : Nat} {T S : Sto} (h : Dk n T S) (hm : n ≤ m) : Dk m T S := by
  obtain ⟨its, seed, cnt, e, h1, h2, h3, h4, h5⟩ := h
  exact ⟨its, seed, cnt, e, h1, h2, h3, h4, by omega⟩
theorem lt_ints {n : Nat} (l : List Int) : refsLtL n (iD l) = true := by
  induction l with
  | nil => rfl
  | cons x l ih => rw [iD, List.map_cons, refsLtL, refsLt]; rw [iD] at ih; rw [ih]; rfl
theorem lt_rows {n : Nat} (l : List (List Int)) : refsLtL n (l.map tI) = true := by
  induction l with
  | nil => rfl
  | cons x l ih => rw [List.map_cons, refsLtL, tI, refsLt, lt_ints, ih]; rfl
end
end DL

set_option Elab.async false
set_option linter.all false
set_option maxRecDepth 100000
set_option maxHeartbeats 4000000
/-! DP4: what holds behind a mirror -/
namespace DL
open PySem PySem.Spec PyProof.Rows L2
structure wp {α : Type} (r : Res α) (Q : α → Sto → Prop) : Prop where
  get : match r with
    | .ok a S => Q a S
    | _ => False
section
variable {α β : Type} {S S' S0 S1 T : Sto} {ρ : Env} {d : D}
@[simp] theorem wp_ok {a : α} {Q : α → Sto → Prop} : wp (.ok a S) Q = Q a S := propext ⟨fun h => h.get, fun h => ⟨h⟩⟩
theorem wp_ok' {a : α} {Q : α → Sto → Prop} (h : Q a S) : wp (.ok a S) Q := ⟨h⟩
theorem wp_exF {c : Nat} {Q : α → Sto → Prop} : wp (.ex c d S) Q = False := propext ⟨fun h => h.get, fun h => h.elim⟩
theorem wp_stF {Q : α → Sto → Prop} : wp .stuck Q = False := propext ⟨fun h => h.get, fun h => h.elim⟩
@[simp] theorem wp_bind {r : Res α} {k : α → Sto → Res β} {Q : β → Sto → Prop} : wp (r.bind k) Q = wp r fun a S => wp (k a S) Q := by
  cases r with
  | ok a S => rw [Res.bind_ok, wp_ok]
  | ex c d S => rw [Res.bind_ex, wp_exF, wp_exF]
  | stuck => rw [Res.bind_stuck, wp_stF, wp_stF]
@[simp] theorem wp_bindN {r : Res α} {k : α → Sto → Res β} {Q : β → Sto → Prop} : wp (r.bindN k) Q = wp r fun a S => wp (k a S) Q := by
  cases r with
  | ok a S => rw [Res.bindN_ok, wp_ok]
  | ex c d S => rw [wp_exF]; exact wp_stF
  | stuck => rw [wp_stF]; exact wp_stF
theorem wp_eq {r : Res α} {a : α} {Q : α → Sto → Prop} (h : r = .ok a S) (q : Q a S) : wp r Q := by rw [h, wp_ok]; exact q
theorem wp_ex {r : Res α} {P : α → Sto → Prop} (h : wp r P) : ∃ a S, r = .ok a S ∧ P a S := by
  cases r with
  | ok a' S' => exact ⟨_, _, rfl, h.get⟩
  | ex _ _ _ => exact h.get.elim
  | stuck => exact h.get.elim
theorem ex_wp {r : Res α} {P : α → Sto → Prop} (h : ∃ a S, r = .ok a S ∧ P a S) : wp r P := by
  obtain ⟨a, S, e, h⟩ := h
  exact wp_eq e h
theorem eq_wp {r : Res α} {a : α} (h : wp r fun a' S' => a' = a ∧ S' = S) : r = .ok a S := by
  obtain ⟨a, S, e, rfl, rfl⟩ := wp_ex h
  exact e
theorem wp_of {r : Res α} {P Q : α → Sto → Prop} (h : wp r P) (k : ∀ a S, P a S → Q a S) : wp r Q := by
  obtain ⟨a, S, e, h⟩ := wp_ex h
  exact wp_eq e (k a S h)
theorem wp_if {c : Prop} [Decidable c] {a b : Res α} {Q : α → Sto → Prop} (h1 : c → wp a Q) (h2 : ¬ c → wp b Q) : wp (if c then a else b) Q := by
  split
  · exact h1 ‹_›
  · exact h2 ‹_›
/-- a condition that holds -/
theorem wp_ifp {c : Prop} [Decidable c] {a b : Res α} {Q : α → Sto → Prop} (h : c) (h1 : wp a Q) : wp (if c then a else b) Q := by
  rw [if_pos h]; exact h1
/-! ### calls -/
def retQ (S0 : Sto) (Q : D → Sto → Prop) : Flo → Sto → Prop
  | .rt d, S' => wp (fin S0 d S') Q
  | .nx _, S' => wp (fin S0 .non S') Q
  | _, _ => False
@[simp] theorem wp_ret {r : Res Flo} {Q : D → Sto → Prop} : wp (ret S0 r) Q = wp r (retQ S0 Q) := by
  cases r with
  | ok f S' =>
    rw [wp_ok]
    cases f with
    | rt d => rfl
    | nx ρ => rfl
    | bk ρ => exact wp_stF
    | ct ρ => exact wp_stF
  | ex k d S' =>
    rw [wp_exF]
    show wp (finX S0 k d S') Q = False
    unfold finX
    split
    · exact wp_exF
    · split <;> exact wp_exF
  | stuck => rw [wp_stF]; exact wp_stF
@[simp] theorem retQ_rt {Q : D → Sto → Prop} : retQ S0 Q (.rt d) S' = wp (fin S0 d S') Q := rfl
@[simp] theorem retQ_nx {Q : D → Sto → Prop} : retQ S0 Q (.nx ρ) S' = wp (fin S0 .non S') Q := rfl
@[simp] theorem wp_fin {Q : D → Sto → Prop} : wp (fin S d S) Q = Q d S := by rw [fin_same rfl, wp_ok]
theorem fin_app (hd : refsLt S.length d = true) : fin S d (S ++ T) = .ok d S := by
  by_cases h : T = []
  · subst h
    rw [List.append_nil]
    exact fin_same rfl
  · exact fin_cut rfl h (fun j c hj => .inl hj) hd
theorem wp_fin_app {Q : D → Sto → Prop} (hd : refsLt S.length d = true) (h : Q d S) : wp (fin S d (S ++ T)) Q := by
  rw [fin_app hd]
  exact ⟨h⟩
theorem wp_fin_len {Q : D → Sto → Prop} (hl : S'.length = S.length) (h : Q d S') : wp (fin S d S') Q := by
  rw [fin_same hl]
  exact ⟨h⟩
theorem wp_fin_cut {Q : D → Sto → Prop} (hl : S'.length = S.length) (hc : ∀ (n : Nat) (c : Option Cell), S'[n]? = some c → S[n]? = some c ∨ cellLt S.length c = true) (hd : refsLt S.length d = true) (h : Q d S') : wp (fin S d (S' ++ T)) Q := by
  by_cases ht : T = []
  · subst ht
    rw [List.append_nil, fin_same hl]
    exact ⟨h⟩
  · rw [fin_cut hl ht hc hd]
    exact ⟨h⟩
/-! ### loops -/
def FQ (J : Env → Sto → Prop) (Q : Flo → Sto → Prop) : Flo → Sto → Prop
  | .nx ρ, S => J ρ S
  | .ct ρ, S => J ρ S
  | .bk ρ, S => Q (.nx ρ) S
  | .rt d, S => Q (.rt d) S
section
variable {J : Env → Sto → Prop} {Q : Flo → Sto → Prop}
@[simp] theorem FQ_nx : FQ J Q (.nx ρ) S = J ρ S := rfl
@[simp] theorem FQ_ct : FQ J Q (.ct ρ) S = J ρ S := rfl
@[simp] theorem FQ_bk : FQ J Q (.bk ρ) S = Q (.nx ρ) S := rfl
@[simp] theorem FQ_rt : FQ J Q (.rt d) S = Q (.rt d) S := rfl
theorem wp_forL {ok : Sto → Prop} {body : D → SCode} (e : α → D) (I : List α → Env → Sto → Prop) (hok : ∀ p ρ S, I p ρ S → ok S) (l : List α)
    (hs : ∀ pre x post ρ S, l = pre ++ x :: post → I pre ρ S → wp (body (e x) ρ S) (FQ (I (pre ++ [x])) Q)) (he : ∀ ρ S, I l ρ S → Q (.nx ρ) S) :
    ∀ (pre post : List α) ρ S, l = pre ++ post → I pre ρ S → wp (forL ok body (post.map e) ρ S) Q
  | pre, [], ρ, S, hl, h => by
    rw [List.append_nil] at hl
    subst hl
    rw [List.map_nil]
    unfold forL
    rw [if_pos (hok _ _ _ h)]
    exact ⟨he _ _ h⟩
  | pre, x :: post, ρ, S, hl, h => by
    rw [List.map_cons]
    unfold forL
    rw [if_pos (hok _ _ _ h), wp_bind]
    refine wp_of (hs pre x post ρ S hl h) fun f S1 hf => ?_
    cases f with
    | nx ρ1 => exact wp_forL e I hok l hs he (pre ++ [x]) post ρ1 S1 (by rw [hl]; simp) hf
    | ct ρ1 => exact wp_forL e I hok l hs he (pre ++ [x]) post ρ1 S1 (by rw [hl]; simp) hf
    | bk ρ1 => exact ⟨hf⟩
    | rt d => exact ⟨hf⟩
/-- a for over what a list of any kind is written as -/
theorem wp_for {ci : Env → Sto → Res Wk} {g : D → Env → Sto → Res Env} {b : SCode} {src : List (D × List D)} (l : List α) (e : α → D) (I : List α → Env → Sto → Prop) (hc : ci ρ S = .ok ⟨l.map e, src⟩ S1) (hok : ∀ p ρ S, I p ρ S → Wk.ok ⟨l.map e, src⟩ S) (h0 : I [] ρ S1)
    (hs : ∀ pre x post ρ S, l = pre ++ x :: post → I pre ρ S → wp ((g (e x) ρ S).bind b) (FQ (I (pre ++ [x])) Q)) (he : ∀ ρ S, I l ρ S → Q (.nx ρ) S) : wp (c_for ci g b ρ S) Q := by
  unfold c_for
  rw [hc]
  exact wp_forL (body := fun d ρ S => (g d ρ S).bind fun ρ1 S1 => b ρ1 S1) e I hok l hs he [] l ρ S1 rfl h0
theorem wp_whileL {c : TCode} {b : SCode} (I : Nat → Env → Sto → Prop) (h : ∀ m ρ S, I m ρ S → wp (c ρ S) fun k S1 => if k = true then wp (b ρ S1) (FQ (fun ρ' S' => ∃ m', m' < m ∧ I m' ρ' S') Q) else Q (.nx ρ) S1) :
    ∀ (fuel m : Nat) ρ S, m < fuel → I m ρ S → wp (whileL c b fuel ρ S) Q
  | 0, m, _, _, hm, _ => absurd hm (Nat.not_lt_zero m)
  | fuel + 1, m, ρ, S, hm, hI => by
    unfold whileL
    rw [wp_bind]
    refine wp_of (h m ρ S hI) fun k S1 hk => ?_
    cases k with
    | false => exact ⟨hk⟩
    | true =>
      have hk : wp (b ρ S1) (FQ (fun ρ' S' => ∃ m', m' < m ∧ I m' ρ' S') Q) := hk
      show wp ((b ρ S1).bind _) Q
      rw [wp_bind]
      refine wp_of hk fun f S2 hf => ?_
      cases f with
      | nx ρ1 => obtain ⟨m', hm', hI'⟩ := hf; exact wp_whileL I h fuel m' ρ1 S2 (by omega) hI'
      | ct ρ1 => obtain ⟨m', hm', hI'⟩ := hf; exact wp_whileL I h fuel m' ρ1 S2 (by omega) hI'
      | bk ρ1 => exact ⟨hf⟩
      | rt d => exact ⟨hf⟩
theorem wp_while {c : TCode} {b : SCode} (m : Nat) (I : Nat → Env → Sto → Prop) (hm : m < 1000000000) (h0 : I m ρ S)
    (h : ∀ m ρ S, I m ρ S → wp (c ρ S) fun k S1 => if k = true then wp (b ρ S1) (FQ (fun ρ' S' => ∃ m', m' < m ∧ I m' ρ' S') Q) else Q (.nx ρ) S1) : wp (c_while c b ρ S) Q :=
  wp_whileL I h FUEL m ρ S (Nat.lt_trans hm (by unfold FUEL; decide)) h0
end
/-! ### comprehensions -/
def lcB (g : D → Env → Sto → Res Env) (t : TCode) (a : ECode) (ρ : Env) (d : D) (S : Sto) : Res (Option D) :=
  (g d ρ S).bindN fun ρ1 S1 => (t ρ1 S1).bindN fun b S2 => if b = true then (a ρ1 S2).bindN fun y S3 => .ok (some y) S3 else .ok none S2
def addO (ys : List D) : Option D → List D
  | some y => ys ++ [y]
  | none => ys
@[simp] theorem addO_some {ys : List D} {y : D} : addO ys (some y) = ys ++ [y] := rfl
@[simp] theorem addO_none {ys : List D} : addO ys none = ys := rfl
section
variable {ok : Sto → Prop} {g : D → Env → Sto → Res Env} {t : TCode} {a : ECode}
theorem wp_lcL (e : α → D) (I : List α → Sto → List D → Prop) (hok : ∀ p S ys, I p S ys → ok S) (l : List α)
    (hs : ∀ pre x post S ys, l = pre ++ x :: post → I pre S ys → wp (lcB g t a ρ (e x) S) fun o S' => I (pre ++ [x]) S' (addO ys o)) :
    ∀ (pre post : List α) S ys, l = pre ++ post → I pre S ys → wp (lcL ok g t a ρ (post.map e) S) fun zs S' => I l S' (ys ++ zs)
  | pre, [], S, ys, hl, h => by
    rw [List.append_nil] at hl
    subst hl
    rw [List.map_nil]
    unfold lcL
    rw [if_pos (hok _ _ _ h)]
    rw [wp_ok, List.append_nil]
    exact h
  | pre, x :: post, S, ys, hl, h => by
    rw [List.map_cons]
    unfold lcL
    rw [if_pos (hok _ _ _ h), wp_bindN]
    have hb := hs pre x post S ys hl h
    unfold lcB at hb
    rw [wp_bindN] at hb
    refine wp_of hb fun ρ1 S1 hb => ?_
    rw [wp_bindN] at hb ⊢
    refine wp_of hb fun b S2 hb => ?_
    cases b with
    | false =>
      have hb : wp (.ok none S2) fun o S' => I (pre ++ [x]) S' (addO ys o) := hb
      rw [wp_ok] at hb
      exact wp_lcL e I hok l hs (pre ++ [x]) post S2 ys (by rw [hl]; simp) hb
    | true =>
      have hb : wp ((a ρ1 S2).bindN fun y S3 => .ok (some y) S3) fun o S' => I (pre ++ [x]) S' (addO ys o) := hb
      show wp ((a ρ1 S2).bindN _) _
      rw [wp_bindN] at hb ⊢
      refine wp_of hb fun y S3 hb => ?_
      rw [wp_ok] at hb
      rw [wp_bind]
      refine wp_of (wp_lcL e I hok l hs (pre ++ [x]) post S3 (ys ++ [y]) (by rw [hl]; simp) hb) fun zs S4 hz => ?_
      rw [List.append_assoc] at hz
      exact ⟨hz⟩
theorem wp_lc {ci : Env → Sto → Res Wk} {own : List Nat} {src : List (D × List D)} {Q : D → Sto → Prop} (l : List α) (e : α → D) (I : List α → Sto → List D → Prop) (hc : ci ρ S = .ok ⟨l.map e, src⟩ S1) (hf : l.length ≤ 1000000) (hok : ∀ p S ys, I p S ys → Wk.ok ⟨l.map e, src⟩ S) (h0 : I [] S1 [])
    (hs : ∀ pre x post S ys, l = pre ++ x :: post → I pre S ys → wp (lcB g t a (wipeE ρ own) (e x) S) fun o S' => I (pre ++ [x]) S' (addO ys o)) (he : ∀ ys S, I l S ys → Q (.lst ys) S) : wp (c_lc ci g t a own ρ S) Q := by
  unfold c_lc
  rw [hc]
  show wp (if fits (l.map e).length = true then _ else _) Q
  rw [if_pos (fits_le' (by rw [List.length_map]; exact hf)), wp_bind]
  exact wp_of (wp_lcL e I hok l hs [] l S1 [] rfl h0) fun zs S2 hz => ⟨he _ _ hz⟩
/-- a comprehension that changes nothing, with a test -/
theorem wp_lcF {ci : Env → Sto → Res Wk} {own : List Nat} {src : List (D × List D)} {Q : D → Sto → Prop} (l : List α) (e : α → D) (f : α → Option D) (hc : ci ρ S = .ok ⟨l.map e, src⟩ S1) (hf : l.length ≤ 1000000) (hok : Wk.ok ⟨l.map e, src⟩ S1)
    (hs : ∀ x ∈ l, lcB g t a (wipeE ρ own) (e x) S1 = .ok (f x) S1) (he : Q (.lst (l.filterMap f)) S1) : wp (c_lc ci g t a own ρ S) Q := by
  refine wp_lc l e (fun pre S' ys => S' = S1 ∧ ys = pre.filterMap f) hc hf (fun _ _ _ h => by rw [h.1]; exact hok) ⟨rfl, rfl⟩ (fun pre x post S' ys hl h => ?_) fun ys S' h => by rw [h.1, h.2]; exact he
  obtain ⟨rfl, rfl⟩ := h
  rw [hs x (by rw [hl]; simp), wp_ok]
  refine ⟨rfl, ?_⟩
  rw [List.filterMap_append]
  cases hx : f x with
  | none => simp [hx]
  | some y => simp [hx]
/-- the same without a test -/
theorem wp_lcM {ci : Env → Sto → Res Wk} {own : List Nat} {src : List (D × List D)} {Q : D → Sto → Prop} (l : List α) (e f : α → D) (hc : ci ρ S = .ok ⟨l.map e, src⟩ S1) (hf : l.length ≤ 1000000) (hok : Wk.ok ⟨l.map e, src⟩ S1)
    (hs : ∀ x ∈ l, lcB g t a (wipeE ρ own) (e x) S1 = .ok (some (f x)) S1) (he : Q (.lst (l.map f)) S1) : wp (c_lc ci g t a own ρ S) Q := by
  refine wp_lcF l e (fun x => some (f x)) hc hf hok hs ?_
  have e2 : l.filterMap (fun x => some (f x)) = l.map f := by rw [← List.filterMap_eq_map]; rfl
  rw [e2]
  exact he
theorem lc_eqM {ci : Env → Sto → Res Wk} {own : List Nat} {src : List (D × List D)} (l : List α) (e f : α → D) (hc : ci ρ S = .ok ⟨l.map e, src⟩ S1) (hf : l.length ≤ 1000000) (hok : Wk.ok ⟨l.map e, src⟩ S1)
    (hs : ∀ x ∈ l, lcB g t a (wipeE ρ own) (e x) S1 = .ok (some (f x)) S1) : c_lc ci g t a own ρ S = .ok (.lst (l.map f)) S1 := eq_wp (wp_lcM l e f hc hf hok hs ⟨rfl, rfl⟩)
theorem lc_eqF {ci : Env → Sto → Res Wk} {own : List Nat} {src : List (D × List D)} (l : List α) (e : α → D) (f : α → Option D) (hc : ci ρ S = .ok ⟨l.map e, src⟩ S1) (hf : l.length ≤ 1000000) (hok : Wk.ok ⟨l.map e, src⟩ S1)
    (hs : ∀ x ∈ l, lcB g t a (wipeE ρ own) (e x) S1 = .ok (f x) S1) : c_lc ci g t a own ρ S = .ok (.lst (l.filterMap f)) S1 := eq_wp (wp_lcF l e f hc hf hok hs ⟨rfl, rfl⟩)
end
/-! ### what is walked -/
theorem it_eq {x : D} {xs : List D} {a : ECode} (ha : a ρ S = .ok x S1) (h : itemsOf x S1 = some xs) : c_it a ρ S = .ok ⟨xs, [(x, xs)]⟩ S1 := it_lst ha h
theorem rng1 {j : Int} {a : ACode} (ha : a ρ S = .ok [.int j] S) (h : -(2 ^ 62) ≤ j ∧ j < 2 ^ 62) : c_rng1 a ρ S = .ok ⟨(List.range j.toNat).map fun (k : Nat) => D.int (0 + (k : Int)), []⟩ S := rng1_eq ha h
theorem rng2 {i j : Int} {a : ACode} (ha : a ρ S = .ok [.int i, .int j] S) (hi : -(2 ^ 62) ≤ i ∧ i < 2 ^ 62) (h : -(2 ^ 62) ≤ j ∧ j < 2 ^ 62) : c_rng2 a ρ S = .ok ⟨(List.range (j - i).toNat).map fun (k : Nat) => D.int (i + (k : Int)), []⟩ S := rng2_eq ha hi h
end
/-! ### values, under conditions -/
section
variable {S : Sto}
theorem v_mulC {b : Bool} {i j : Int} (h1 : -(2 ^ 64) < i) (h2 : i < 2 ^ 64) (h3 : -(2 ^ 64) < j) (h4 : j < 2 ^ 64) : p_mul b (.int i) (.int j) S = .ok (.int (i * j)) S := by
  rw [v_mul, if_pos (cmul h1 h2 h3 h4)]
theorem v_fdivC {i j : Int} (h : 0 < j) (h2 : j < 2 ^ 64) : p_fdiv (.int i) (.int j) S = .ok (.int (i / j)) S := by
  rw [v_fdiv, if_pos (cdiv h h2)]
theorem v_modC {i j : Int} (h : 0 < j) : p_mod (.int i) (.int j) S = .ok (.int (i % j)) S := by
  rw [v_mod, if_pos h]
theorem ix_t0 {a : D} {r : List D} : p_ix (.tup (a :: r)) (.int 0) S = .ok a S := ix_tup (by decide) rfl
theorem ix_t1 {a b : D} {r : List D} : p_ix (.tup (a :: b :: r)) (.int 1) S = .ok b S := ix_tup (by decide) rfl
theorem ix_t2 {a b c : D} {r : List D} : p_ix (.tup (a :: b :: c :: r)) (.int 2) S = .ok c S := ix_tup (by decide) rfl
theorem ix_l0 {a : D} {r : List D} : p_ix (.lst (a :: r)) (.int 0) S = .ok a S := ix_lst (by decide) rfl
theorem ix_l1 {a b : D} {r : List D} : p_ix (.lst (a :: b :: r)) (.int 1) S = .ok b S := ix_lst (by decide) rfl
theorem ix_l2 {a b c : D} {r : List D} : p_ix (.lst (a :: b :: c :: r)) (.int 2) S = .ok c S := ix_lst (by decide) rfl
theorem isi_int_int {i : Int} : p_isi [.int i, .ty "int"] S = .ok (.bl true) S := rfl
theorem isi_int_bool {i : Int} : p_isi [.int i, .ty "bool"] S = .ok (.bl false) S := rfl
theorem min2_eq {i j : Int} : p_min2 [.int i, .int j] S = .ok (.int (if j < i then j else i)) S := rfl
theorem max2_eq {i j : Int} : p_max2 [.int i, .int j] S = .ok (.int (if j > i then j else i)) S := rfl
end
theorem mapM_bl {α : Type} (g : α → Bool) : ∀ l : List α, (l.map fun x => D.bl (g x)).mapM blOf = some (l.map g)
  | [] => rfl
  | x :: l => by
    rw [List.map_cons, List.mapM_cons, mapM_bl g l]
    rfl
theorem mapM_int {α : Type} (g : α → Int) : ∀ l : List α, (l.map fun x => D.int (g x)).mapM intOf = some (l.map g)
  | [] => rfl
  | x :: l => by
    rw [List.map_cons, List.mapM_cons, mapM_int g l]
    rfl
theorem all_bls {α : Type} {g : α → Bool} {l : List α} {S : Sto} : p_all [.lst (l.map fun x => D.bl (g x))] S = .ok (.bl (l.all g)) S := by
  show (match ((l.map fun x => D.bl (g x)).mapM blOf) with
    | some ns => Res.ok (D.bl (ns.all id)) S
    | none => .stuck) = _
  rw [mapM_bl]
  show Res.ok (D.bl ((l.map g).all id)) S = _
  rw [List.all_map]
  rfl
theorem any_bls {α : Type} {g : α → Bool} {l : List α} {S : Sto} : p_any [.lst (l.map fun x => D.bl (g x))] S = .ok (.bl (l.any g)) S := by
  show (match ((l.map fun x => D.bl (g x)).mapM blOf) with
    | some ns => Res.ok (D.bl (ns.any id)) S
    | none => .stuck) = _
  rw [mapM_bl]
  show Res.ok (D.bl ((l.map g).any id)) S = _
  rw [List.any_map]
  rfl
theorem sum_ints {α : Type} {g : α → Int} {l : List α} {S : Sto} : p_sum [.lst (l.map fun x => D.int (g x))] S = .ok (.int (l.map g).sum) S := by
  show (match ((l.map fun x => D.int (g x)).mapM intOf) with
    | some ns => Res.ok (D.int ns.sum) S
    | none => .stuck) = _
  rw [mapM_int]
/-! ### one's own last cell -/
section
variable {S : Sto}
theorem snoc_at {c : Option Cell} : (S ++ [c])[S.length]? = some c := by
  rw [List.getElem?_append_right (Nat.le_refl _), Nat.sub_self]
  rfl
theorem cellOf_snoc {c : Cell} : cellOf (S ++ [some c]) S.length = some c := by
  unfold cellOf
  rw [snoc_at]
theorem snoc_set {c c' : Option Cell} : (S ++ [c]).set S.length c' = S ++ [c'] := by
  rw [List.set_append_right _ _ (Nat.le_refl _), Nat.sub_self]
  rfl
theorem setF_snoc {c i : Nat} {fs : List D} {v : D} (hi : i = fs.length) (h : fs.length < 1000) : p_setF c i (.ref S.length) v (S ++ [some (.ins c fs)]) = .ok () (S ++ [some (.ins c (fs ++ [v]))]) := by
  unfold p_setF
  simp only [cellOf_snoc]
  rw [if_pos ⟨trivial, by omega, h⟩, if_neg (by omega), snoc_set]
theorem make_frz {c : Nat} {m : List D → Sto → Res D} {ds fs : List D} (h : m (.ref S.length :: ds) (S ++ [some (.ins c [])]) = .ok .non (S ++ [some (.ins c fs)])) (hr : refsLtL S.length fs = true) : p_make false c m ds S = .ok (.obj c fs) S := by
  unfold p_make
  rw [h]
  simp only [Res.bind_ok, Bool.false_eq_true, if_false, cellOf_snoc, if_true, snoc_set]
  exact fin_app hr
theorem make_live {c : Nat} {m : List D → Sto → Res D} {ds fs : List D} (h : m (.ref S.length :: ds) (S ++ [some (.ins c [])]) = .ok .non (S ++ [some (.ins c fs)])) : p_make true c m ds S = .ok (.ref S.length) (S ++ [some (.ins c fs)]) := by
  unfold p_make
  rw [h]
  rfl
end
end DL

set_option Elab.async false
set_option linter.all false
set_option maxRecDepth 100000
set_option maxHeartbeats 4000000
/-! DP5: cells by their number, the deck -/
namespace DL
open PySem PySem.Spec PyProof.Rows L2
section
variable {S S' T U : Sto} {n : Nat}
theorem cell_at {c : Cell} (h : S[n]? = some (some c)) : cellOf S n = some c := by
  unfold cellOf
  rw [h]
theorem items_ref {ds : List D} (h : S[n]? = some (some (.lst ds))) : itemsOf (.ref n) S = some ds := by
  show (match S[n]? with
    | some (some (.lst ds)) => some ds
    | _ => none) = _
  rw [h]
theorem len_ref {ds : List D} (h : S[n]? = some (some (.lst ds))) : p_len [.ref n] S = .ok (.int ds.length) S := by
  show (match lenOf (.ref n) S with
    | some n => Res.ok (D.int n) S
    | none => .stuck) = _
  unfold lenOf
  rw [items_ref h]
theorem isL_ref {ds : List D} (h : S[n]? = some (some (.lst ds))) : isL (.ref n) S = true := by
  show (match S[n]? with
    | some (some (.lst ds)) => some ds
    | _ => none).isSome = true
  rw [h]
  rfl
theorem append_ref {ds : List D} {y : D} (h : S[n]? = some (some (.lst ds))) (hf : ds.length < 1000000) : p_append (.ref n) [y] S = .ok .non (S.set n (some (.lst (ds ++ [y])))) := by
  unfold p_append
  simp only [cell_at h]
  rw [if_pos (fits_le' (by omega))]
theorem ix_ref {ds : List D} {i : Int} {y : D} (h : S[n]? = some (some (.lst ds))) (hi : atD ds i = some y) : p_ix (.ref n) (.int i) S = .ok y S := by
  unfold p_ix
  rw [items_ref h]
  show p_ixL ds i S = _
  unfold p_ixL
  rw [hi]
theorem setI_ref {ds : List D} {i : Nat} {y : D} (h : S[n]? = some (some (.lst ds))) (hi : i < ds.length) : p_setI (.ref n) (.int i) y S = .ok () (S.set n (some (.lst (ds.set i y)))) := by
  unfold p_setI
  simp only [cell_at h]
  rw [ixN_nn (Int.natCast_nonneg _) (by omega)]
  rfl
theorem ixK_ref {kds : List (Key × D)} {z : Str} {y : D} (h : S[n]? = some (some (.dK kds))) (hv : valD kds (.inr z) = some y) : p_ix (.ref n) (.str z) S = .ok y S := by
  show p_ixD (.ref n) (.str z) S = _
  unfold p_ixD dGet
  have e : dKOf (.ref n) S = some kds := by
    show (match S[n]? with
      | some (some (.dK kvs)) => some kvs
      | _ => none) = _
    rw [h]
  rw [e]
  show (match (some (valD kds (.inr z)) : Option (Option D)) with
    | some (some d) => Res.ok d S
    | _ => .stuck) = _
  rw [hv]
theorem setK_ref {kds : List (Key × D)} {z : Str} {y : D} (h : S[n]? = some (some (.dK kds))) (hf : kds.length < 1000) : p_setI (.ref n) (.str z) y S = .ok () (S.set n (some (.dK (putD kds (.inr z) y)))) := by
  unfold p_setI
  simp only [cell_at h, keyOf]
  rw [if_pos (fits_le' (by omega))]
theorem frzL_ref {ds : List D} (h : S[n]? = some (some (.lst ds))) : frz (.ref n) S = .ok (.lst ds) (S.set n none) := by
  unfold frz
  simp only [cell_at h]
theorem frzK_ref {ds : List (Key × D)} (h : S[n]? = some (some (.dK ds))) : frz (.ref n) S = .ok (.dK ds) (S.set n none) := by
  unfold frz
  simp only [cell_at h]
theorem frzT_ref {ds : List (List Key × D)} (h : S[n]? = some (some (.dT ds))) : frz (.ref n) S = .ok (.dT ds) (S.set n none) := by
  unfold frz
  simp only [cell_at h]
/-! one's own last cells -/
theorem snoc_at1 {a b : Option Cell} : (S ++ [a, b])[S.length + 1]? = some b := by
  rw [List.getElem?_append_right (by omega), Nat.add_sub_cancel_left]
  rfl
theorem snoc_at0 {a b : Option Cell} : (S ++ [a, b])[S.length]? = some a := by
  rw [List.getElem?_append_right (by omega), Nat.sub_self]
  rfl
theorem snoc_set0 {a b c : Option Cell} : (S ++ [a, b]).set S.length c = S ++ [c, b] := by
  rw [List.set_append_right _ _ (Nat.le_refl _), Nat.sub_self]
  rfl
theorem snoc_set1 {a b c : Option Cell} : (S ++ [a, b]).set (S.length + 1) c = S ++ [a, c] := by
  rw [List.set_append_right _ _ (by omega), Nat.add_sub_cancel_left]
  rfl
/-! references of data -/
theorem ltL_all {N : Nat} : ∀ {l : List D}, (∀ d ∈ l, refsLt N d = true) → refsLtL N l = true
  | [], _ => rfl
  | d :: l, h => by
    rw [refsLtL, h d (List.mem_cons_self ..), ltL_all fun x hx => h x (List.mem_cons_of_mem _ hx)]
    rfl
theorem filterMap_if {α : Type} {c : α → Bool} {f : α → D} : ∀ l : List α, (l.filterMap fun x => if c x = true then some (f x) else none) = (l.filter c).map f
  | [] => rfl
  | x :: l => by
    rw [List.filterMap_cons, List.filter_cons]
    cases c x with
    | true => simp only [if_true, List.map_cons, filterMap_if l]
    | false => simp only [Bool.false_eq_true, if_false, filterMap_if l]
theorem ix_lastM {α : Type} {f : α → D} {l : List α} (h : l ≠ []) : p_ix (.lst (l.map f)) (.int (-1)) S = .ok (f (l.getLast h)) S := by
  have hl : 0 < l.length := List.length_pos_iff.mpr h
  show (match atD (l.map f) (-1) with
    | some d => Res.ok d S
    | none => .stuck) = _
  unfold atD
  rw [ixN_neg (by omega) (by rw [List.length_map]; omega)]
  have e9 : ((-1 : Int) + ((l.map f).length : Nat)).toNat = l.length - 1 := by rw [List.length_map]; omega
  rw [e9, Option.bind_some, List.getElem?_map, ← List.getLast?_eq_getElem?, List.getLast?_eq_some_getLast h]
  rfl
theorem ix_firstM {α : Type} {f : α → D} {l : List α} (h : l ≠ []) : p_ix (.lst (l.map f)) (.int 0) S = .ok (f (l.head h)) S := by
  cases l with
  | nil => exact absurd rfl h
  | cons x l => exact ix_l0
/-! ### the deck -/
section
variable {its : List Int} {seed cnt : Int} {A B C : Option Cell}
theorem dk_at1 : (dk its seed cnt (T ++ [A]))[T.length + 2]? = some A := by
  show (T ++ [A])[T.length]? = _
  exact snoc_at
theorem dk_set1 : (dk its seed cnt (T ++ [A])).set (T.length + 2) C = dk its seed cnt (T ++ [C]) := by
  unfold dk
  simp only [List.set_cons_succ]
  rw [snoc_set]
theorem dk_app1 : dk its seed cnt T ++ U = dk its seed cnt (T ++ U) := rfl
theorem dk_len : (dk its seed cnt T).length = T.length + 2 := rfl
theorem Dk.app {m : Nat} (h : Dk m T S) : Dk m (T ++ U) (S ++ U) := by
  obtain ⟨its, seed, cnt, rfl, h⟩ := h
  exact ⟨its, seed, cnt, rfl, h⟩
theorem Dk.len {m : Nat} (h : Dk m T S) : S.length = T.length + 2 := by
  obtain ⟨its, seed, cnt, rfl, h⟩ := h
  rfl
theorem Dk.at1 {m : Nat} (h : Dk m (T ++ [A]) S) : S[T.length + 2]? = some A := by
  obtain ⟨its, seed, cnt, rfl, h⟩ := h
  exact dk_at1
theorem Dk.set1 {m : Nat} (h : Dk m (T ++ [A]) S) (C : Option Cell) : Dk m (T ++ [C]) (S.set (T.length + 2) C) := by
  obtain ⟨its, seed, cnt, rfl, h⟩ := h
  rw [dk_set1]
  exact ⟨its, seed, cnt, rfl, h⟩
theorem wp_dk_fin {m j : Nat} {d : D} {Q : D → Sto → Prop} (h : Dk j T S) (h' : Dk m (T ++ U) S') (hd : refsLt (T.length + 2) d = true) (k : ∀ S2, Dk m T S2 → Q d S2) : wp (fin S d S') Q := by
  obtain ⟨S2, e, h2⟩ := Dk.fin h h' hd
  rw [e]
  exact ⟨k S2 h2⟩
theorem wp_dk_fin0 {m j : Nat} {d : D} {Q : D → Sto → Prop} (h : Dk j T S) (h' : Dk m T S') (k : Q d S') : wp (fin S d S') Q := wp_fin_len (by rw [h.len, h'.len]) k
end
end
end DL

set_option Elab.async false
set_option linter.all false
set_option maxRecDepth 100000
set_option maxHeartbeats 4000000
/-! DP6: instances, lists of ints by a function of the place, reduced numbers -/
namespace DL
open PySem PySem.Spec PyProof.Rows L2
section
variable {S : Sto} {n c : Nat} {fs : List D}
theorem cls_obj : clsOf (.obj c fs) S = some c := rfl
theorem flds_obj : fldsOf (.obj c fs) S = some fs := rfl
theorem cls_ref (h : S[n]? = some (some (.ins c fs))) : clsOf (.ref n) S = some c := by
  unfold clsOf
  simp only [h]
theorem flds_ref (h : S[n]? = some (some (.ins c fs))) : fldsOf (.ref n) S = some fs := by
  unfold fldsOf
  simp only [h]
theorem setF_ref {i : Nat} {v : D} (h : S[n]? = some (some (.ins c fs))) (hi : i < fs.length) (hl : fs.length < 1000) : p_setF c i (.ref n) v S = .ok () (S.set n (some (.ins c (fs.set i v)))) := by
  unfold p_setF
  simp only [cell_at h]
  rw [if_pos ⟨trivial, by omega, hl⟩, if_pos hi]
theorem isiO_obj {C : Addr} : p_isiO c C [.obj c fs, .con C] S = .ok (.bl true) S := by
  unfold p_isiO
  simp only [isCon_self, if_true, cls_obj]
theorem v_augS {p : D → D → Sto → Res D} {o i a : ECode} {ρ : Env} : c_augS p o i a ρ S = (o ρ S).bind fun x S1 => (i ρ S1).bind fun y S2 => (p_ixA x y S2).bind fun z S3 => (a ρ S3).bind fun w S4 => (p z w S4).bind fun r S5 => (p_setI x y r S5).bind fun _ S6 => .ok (.nx ρ) S6 := rfl
theorem v_methK {n' m' : Nat} {g : List D → List D → List D} {m : List D → Sto → Res D} {o : ECode} {a b : ACode} {ρ : Env} : c_methK c n' m' g m o a b ρ S = (o ρ S).bind fun x S1 => if clsOf x S1 = some c then (a ρ S1).bind fun ds S2 => (b ρ S2).bind fun es S3 => if ds.length = n' ∧ es.length = m' then m (g (x :: ds) es) S3 else .stuck else .stuck := rfl
theorem v_makeK {b : Bool} {m' : Nat} {g : List D → List D → List D} {m : List D → Sto → Res D} {a : ACode} {ρ : Env} : c_makeK b c m' g m a ρ S = (a ρ S).bind fun es S1 => if es.length = m' then p_make b c (fun ds => m (g (ds.take 1) (ds.drop 1))) es S1 else .stuck := rfl
theorem at_app {T : Sto} {x : Option Cell} (h : S[n]? = some x) : (S ++ T)[n]? = some x := by
  rw [List.getElem?_append_left (List.getElem?_eq_some_iff.mp h).1]
  exact h
theorem set_app {T : Sto} {x c : Option Cell} (h : S[n]? = some x) : (S ++ T).set n c = S.set n c ++ T := List.set_append_left _ _ (List.getElem?_eq_some_iff.mp h).1
theorem at_set {x c : Option Cell} (h : S[n]? = some x) : (S.set n c)[n]? = some c := List.getElem?_set_self (List.getElem?_eq_some_iff.mp h).1
theorem at_set_ne {m : Nat} {x c : Option Cell} (h : S[m]? = some x) (hn : n ≠ m) : (S.set n c)[m]? = some x := by
  rw [List.getElem?_set_ne hn]
  exact h
/-- a call that writes one cell -/
theorem wp_fin_set {T : Sto} {d : D} {Q : D → Sto → Prop} {x c : Option Cell} (h : S[n]? = some x) (hc : cellLt S.length c = true) (hd : refsLt S.length d = true) (hq : Q d (S.set n c)) : wp (fin S d (S.set n c ++ T)) Q :=
  wp_fin_cut (List.length_set ..) (fun m c' hm => by
    by_cases e : n = m
    · subst e
      rw [at_set h] at hm
      cases hm
      exact .inr hc
    · rw [List.getElem?_set_ne e] at hm
      exact .inl hm) hd hq
theorem ixA_ref {ds : List D} {i : Int} {y : D} (h : S[n]? = some (some (.lst ds))) (hi : atD ds i = some y) : p_ixA (.ref n) (.int i) S = .ok y S := by
  unfold p_ixA
  have e : listOf (.ref n) S = some ds := items_ref h
  simp only [e]
  unfold p_ixL
  rw [hi]
end
theorem list_tup_t {S : Sto} {ds : List D} (h : ds.length ≤ 1000000) : p_list true [.tup ds] S = .ok (.ref S.length) (S ++ [some (.lst ds)]) := lst_t h
theorem cmulB {i j : Int} (h1 : -(2 ^ 200) < i) (h2 : i < 2 ^ 200) (h3 : -(2 ^ 200) < j) (h4 : j < 2 ^ 200) : CMulW i j :=
  wide_mul (a := 200) (b := 200) (by omega) (by omega) (by decide) (by decide) (by decide)
theorem v_mulB {b : Bool} {i j : Int} {S : Sto} (h1 : -(2 ^ 200) < i) (h2 : i < 2 ^ 200) (h3 : -(2 ^ 200) < j) (h4 : j < 2 ^ 200) : p_mul b (.int i) (.int j) S = .ok (.int (i * j)) S := by
  rw [v_mul, if_pos (cmulB h1 h2 h3 h4)]
/-! ### lists by a function of the place -/
def fL (K : Nat) (f : Nat → Int) : List Int := (List.range K).map f
section
variable {K : Nat} {f g : Nat → Int}
theorem fL_len : (fL K f).length = K := by simp [fL]
theorem fL_get {i : Nat} (h : i < K) : (fL K f)[i]? = some (f i) := by
  unfold fL
  rw [List.getElem?_map, List.getElem?_range h]
  rfl
theorem fL_ext (h : ∀ i, i < K → f i = g i) : fL K f = fL K g := List.map_congr_left fun i hi => h i (List.mem_range.mp hi)
theorem fL_set {i : Nat} {v : Int} : (fL K f).set i v = fL K (fun j => if j = i then v else f j) := by
  refine List.ext_getElem (by simp [fL]) fun j h1 h2 => ?_
  rw [List.getElem_set]
  simp only [fL, List.getElem_map, List.getElem_range]
  by_cases h : i = j
  · subst h; simp
  · rw [if_neg h, if_neg (Ne.symm h)]
theorem fL_of {l : List Int} (h : l.length = K) : l = fL K (fun i => l.getD i 0) := by
  refine List.ext_getElem (by simp [fL, h]) fun j h1 h2 => ?_
  simp only [fL, List.getElem_map, List.getElem_range]
  rw [List.getD_eq_getElem?_getD, List.getElem?_eq_getElem h1]
  rfl
theorem fL_map {h : Int → Int} : (fL K f).map h = fL K fun i => h (f i) := by
  unfold fL
  rw [List.map_map]
  rfl
theorem fL_getD {i : Nat} (h : i < K) : (fL K f).getD i 0 = f i := by
  rw [List.getD_eq_getElem?_getD, fL_get h]
  rfl
theorem fL_zip {h : Int → Int → Int} : ((fL K f).zip (fL K g)).map (fun q => h q.1 q.2) = fL K fun i => h (f i) (g i) := by
  refine List.ext_getElem (by simp [fL]) fun j h1 h2 => ?_
  simp [fL]
theorem fL_at {i : Nat} (h : i < K) : atD (iD (fL K f)) i = some (.int (f i)) := atD_nn (Int.natCast_nonneg _) (by rw [Int.toNat_natCast, List.getElem?_map, fL_get h]; rfl)
end
/-! ### numbers next to 0 -/
def red (p x : Int) : Int := if p < 2 * (x % p) then x % p - p else x % p
section
variable {p x y : Int}
theorem red_range (h : 0 < p) : -p < 2 * red p x ∧ 2 * red p x ≤ p := by
  unfold red
  have h1 := Int.emod_nonneg x (show p ≠ 0 by omega)
  have h2 := Int.emod_lt_of_pos x h
  split <;> omega
theorem red_congr (h : x % p = y % p) : red p x = red p y := by
  unfold red
  rw [h]
theorem red_mod (x : Int) : red p x % p = x % p := by
  unfold red
  split
  · rw [Int.sub_emod_right, Int.emod_emod_of_dvd _ (Int.dvd_refl p)]
  · rw [Int.emod_emod_of_dvd _ (Int.dvd_refl p)]
theorem red_half (h : 0 < p) (ho : p % 2 = 1) : -(p / 2) ≤ red p x ∧ red p x ≤ p / 2 := by
  have := red_range (p := p) (x := x) h
  omega
theorem red_id (h : 0 < p) (ho : p % 2 = 1) (h1 : -(p / 2) ≤ x) (h2 : x ≤ p / 2) : red p x = x := by
  unfold red
  by_cases h : 0 ≤ x
  · rw [Int.emod_eq_of_lt h (by omega), if_neg (by omega)]
  · have e : x % p = x + p := by
      rw [← Int.add_emod_right, Int.emod_eq_of_lt (by omega) (by omega)]
    rw [e, if_pos (by omega)]
    omega
theorem red_zero (h : 0 < p) (hx : x % p = 0) : red p x = 0 := by
  unfold red
  rw [hx, if_neg (by omega)]
/-- another way to write it -/
theorem red_shift (h : 0 < p) (ho : p % 2 = 1) : (x + p / 2) % p - p / 2 = red p x := by
  have e1 := Int.emod_nonneg (x + p / 2) (show p ≠ 0 by omega)
  have e2 := Int.emod_lt_of_pos (x + p / 2) h
  have e3 : ((x + p / 2) % p - p / 2) % p = x % p := by
    rw [Int.sub_emod, Int.emod_emod_of_dvd _ (Int.dvd_refl p), ← Int.sub_emod]
    congr 1
    omega
  rw [← red_id (p := p) h ho (x := (x + p / 2) % p - p / 2) (by omega) (by omega)]
  exact red_congr e3
theorem red_add_l {a b : Int} : red p (red p a + b) = red p (a + b) := red_congr (by rw [Int.add_emod, red_mod, ← Int.add_emod])
theorem red_add_r {a b : Int} : red p (a + red p b) = red p (a + b) := red_congr (by rw [Int.add_emod, red_mod, ← Int.add_emod])
theorem red_sub_r {a b : Int} : red p (a - red p b) = red p (a - b) := red_congr (by rw [Int.sub_emod, red_mod, ← Int.sub_emod])
theorem red_sub_l {a b : Int} : red p (red p a - b) = red p (a - b) := red_congr (by rw [Int.sub_emod, red_mod, ← Int.sub_emod])
theorem red_mul_l {a b : Int} : red p (red p a * b) = red p (a * b) := red_congr (by rw [Int.mul_emod, red_mod, ← Int.mul_emod])
theorem red_mul_r {a b : Int} : red p (a * red p b) = red p (a * b) := red_congr (by rw [Int.mul_emod, red_mod, ← Int.mul_emod])
theorem red_red {a : Int} : red p (red p a) = red p a := red_congr (red_mod a)
theorem mod_red_eq {a b : Int} (h : a % p = b % p) : red p a = red p b := red_congr h
end
end DL

set_option Elab.async false
set_option linter.all false
set_option maxRecDepth 100000
set_option maxHeartbeats 4000000
/-! DP7: texts and equality again; stores behind a deck; rows in cells -/
namespace DL
open PySem PySem.Spec PyProof.Rows L2
theorem ev_a5 {m : List D → Sto → Res D} {a b c d e : D} {S : Sto} : argsN 5 m [a, b, c, d, e] S = m [a, b, c, d, e] S := rfl
theorem ev_a6 {m : List D → Sto → Res D} {a b c d e f : D} {S : Sto} : argsN 6 m [a, b, c, d, e, f] S = m [a, b, c, d, e, f] S := rfl
theorem ev_a7 {m : List D → Sto → Res D} {a b c d e f g : D} {S : Sto} : argsN 7 m [a, b, c, d, e, f, g] S = m [a, b, c, d, e, f, g] S := rfl
theorem Fi.int31 {i : Int} (h : i.natAbs < 2 ^ 31) : Fi 0 32 (.int i) := by
  have f := Fi.int (i := i) (by omega)
  refine ⟨f.lay, f.sh, f.nd, f.dep, f.lv, ?_, f.ok⟩
  have hl : i.natAbs.log2 < 31 := by
    rcases Nat.eq_zero_or_pos i.natAbs with e | e
    · rw [e]; decide
    · exact (Nat.log2_lt (by omega)).mpr h
  rw [PyData.weight]
  split <;> omega
theorem Fi.tup3 {d w1 w2 w3 : Nat} {a b c : PyData} (ha : Fi d w1 a) (hb : Fi d w2 b) (hc : Fi d w3 c) : Fi (d + 1) (w1 + w2 + w3 + 3) (.tuple [a, b, c]) := by
  have f := Fi.tuple (d := d) (w := w1 + w2 + w3) (ps := [a, b, c]) fun q hq => by
    simp only [List.mem_cons, List.not_mem_nil, or_false] at hq
    rcases hq with rfl | rfl | rfl
    · exact ha.mono (Nat.le_refl _) (by omega)
    · exact hb.mono (Nat.le_refl _) (by omega)
    · exact hc.mono (Nat.le_refl _) (by omega)
  refine ⟨f.lay, f.sh, f.nd, f.dep, f.lv, ?_, f.ok⟩
  have h1 := ha.wt
  have h2 := hb.wt
  have h3 := hc.wt
  rw [PyData.weight, PyData.weightAll, PyData.weightAll, PyData.weightAll, PyData.weightAll]
  omega
theorem Fi.tup2 {d w1 w2 : Nat} {a b : PyData} (ha : Fi d w1 a) (hb : Fi d w2 b) : Fi (d + 1) (w1 + w2 + 2) (.tuple [a, b]) := by
  have f := Fi.tuple (d := d) (w := w1 + w2) (ps := [a, b]) fun q hq => by
    simp only [List.mem_cons, List.not_mem_nil, or_false] at hq
    rcases hq with rfl | rfl
    · exact ha.mono (Nat.le_refl _) (by omega)
    · exact hb.mono (Nat.le_refl _) (by omega)
  refine ⟨f.lay, f.sh, f.nd, f.dep, f.lv, ?_, f.ok⟩
  have h1 := ha.wt
  have h2 := hb.wt
  rw [PyData.weight, PyData.weightAll, PyData.weightAll, PyData.weightAll]
  omega
theorem Fi.lst2 {d w1 w2 : Nat} {a b : PyData} (ha : Fi d w1 a) (hb : Fi d w2 b) : Fi (d + 1) (w1 + w2 + 2) (.list [a, b]) := by
  have f := Fi.list (d := d) (w := w1 + w2) (ps := [a, b]) fun q hq => by
    simp only [List.mem_cons, List.not_mem_nil, or_false] at hq
    rcases hq with rfl | rfl
    · exact ha.mono (Nat.le_refl _) (by omega)
    · exact hb.mono (Nat.le_refl _) (by omega)
  refine ⟨f.lay, f.sh, f.nd, f.dep, f.lv, ?_, f.ok⟩
  have h1 := ha.wt
  have h2 := hb.wt
  rw [PyData.weight, PyData.weightAll, PyData.weightAll, PyData.weightAll]
  omega
theorem ne_str {S : Sto} {x : PySem.Str} (hx : PyData.strOk x = true) : p_eq true (.str x) (.str x) S = .ok (.bl false) S := by
  unfold p_eq
  have h : SeqAt.shaped (.str x) = true := by
    unfold SeqAt.shaped
    rw [PyData.canLay0, hx]
    rfl
  show (if _ then _ else _) = _
  rw [if_pos ⟨h, h⟩]
  simp only [if_true, PyData.eqv, beq_self_eq_true, Bool.not_true]
theorem repr_ex {S : Sto} {x : D} {p : PyData} {d w : Nat} (hp : pyOf S x = some p) (h : Fi d w p) (hs : isSeq p = true) (hd : d ≤ 60) (hw : w ≤ 29000) : ∃ X : PySem.Str, p_repr [x] S = .ok (.str X) S ∧ PyData.strOk X = true := ⟨_, repr_eq hp h hs hd hw, h.ok⟩
theorem eq_py {S : Sto} {x y : D} {q : PyData} (n : Bool) (h1 : pyOf S x = some q) (h2 : pyOf S y = some q) (hs : SeqAt.shaped q = true) : p_eq n x y S = .ok (.bl (!n)) S := by
  unfold p_eq
  rw [h1, h2]
  show (if _ then _ else _) = _
  rw [if_pos ⟨hs, hs⟩]
  have hl : q.canLay0 = true := by
    unfold SeqAt.shaped at hs
    simp only [Bool.and_eq_true] at hs
    exact hs.1
  rw [show PyData.eqv q q = true from PySem.SeqAt.eqv_refl q hl]
  cases n <;> rfl
theorem Fi.shaped {d w : Nat} {p : PyData} (h : Fi d w p) (hd : d ≤ 60) : SeqAt.shaped p = true := by
  unfold SeqAt.shaped
  have := h.dep
  rw [h.lay, Bool.true_and]
  exact decide_eq_true (by omega)
theorem py_ints {S : Sto} {l : List Int} : pyOfL S (iD l) = some (l.map PyData.int) := by
  induction l with
  | nil => rfl
  | cons x l ih => rw [iD, List.map_cons, pyOfL, pyOf]; rw [iD] at ih; rw [ih]; rfl
theorem py_tI {S : Sto} {l : List Int} : pyOf S (tI l) = some (.tuple (l.map PyData.int)) := by
  rw [tI, pyOf, py_ints]; rfl
theorem py_lI {S : Sto} {l : List Int} : pyOf S (lI l) = some (.list (l.map PyData.int)) := by
  rw [lI, pyOf, py_ints]; rfl
theorem py_rows {S : Sto} {rows : List (List Int)} : pyOfL S (rows.map tI) = some (rows.map fun r => .tuple (r.map PyData.int)) := by
  induction rows with
  | nil => rfl
  | cons x l ih => rw [List.map_cons, pyOfL, py_tI, ih]; rfl
theorem fi_row {l : List Int} {m : Nat} (h : l.length ≤ m) (hb : ∀ x ∈ l, x.natAbs < 2 ^ 31) : Fi 1 (m * 33) (.tuple (l.map PyData.int)) :=
  (Fi.tuple (d := 0) (w := 32) fun q hq => by
    obtain ⟨x, hx, rfl⟩ := List.mem_map.mp hq
    exact Fi.int31 (hb x hx)).mono (by decide) (by rw [List.length_map]; exact Nat.mul_le_mul_right _ h)
theorem fi_rows {rows : List (List Int)} {n m : Nat} (hn : rows.length ≤ n) (h : ∀ r ∈ rows, r.length ≤ m ∧ ∀ x ∈ r, x.natAbs < 2 ^ 31) : Fi 2 (n * (m * 33 + 1)) (.tuple (rows.map fun r => .tuple (r.map PyData.int))) :=
  (Fi.tuple (d := 1) (w := m * 33) fun q hq => by
    obtain ⟨r, hr, rfl⟩ := List.mem_map.mp hq
    exact fi_row (h r hr).1 (h r hr).2).mono (by decide) (by rw [List.length_map]; exact Nat.mul_le_mul_right _ hn)
theorem add_lst {S : Sto} {xs ys : List D} (h : xs.length + ys.length ≤ 1000000) : p_add false (.lst xs) (.lst ys) S = .ok (.lst (xs ++ ys)) S := by
  show p_lst false (xs ++ ys) S = _
  exact lst_f (by rw [List.length_append]; exact h)
theorem pow_eq {i j : Int} {S : Sto} (h : 0 ≤ j) (h2 : j ≤ 1000) (h3 : i.natAbs < 2 ^ 64) : p_pow (.int i) (.int j) S = .ok (.int (i ^ j.toNat)) S := by
  rw [v_pow, if_pos ⟨h, by omega, h3⟩]
/-! ### behind a deck -/
def DkE (j : Nat) (S : Sto) : Prop := ∃ T, Dk j T S
/-- nothing but the deck is changed -/
def Sm (S S' : Sto) : Prop := S'.length = S.length ∧ ∀ i, 2 ≤ i → S'[i]? = S[i]?
theorem Sm.refl {S : Sto} : Sm S S := ⟨rfl, fun _ _ => rfl⟩
theorem Sm.trans {S S1 S2 : Sto} (a : Sm S S1) (b : Sm S1 S2) : Sm S S2 := ⟨b.1.trans a.1, fun i h => (b.2 i h).trans (a.2 i h)⟩
theorem Sm.at_ {S S' : Sto} (h : Sm S S') {i : Nat} {x : Option Cell} (hi : 2 ≤ i) (e : S[i]? = some x) : S'[i]? = some x := (h.2 i hi).trans e
theorem DkE.mono {j m : Nat} {S : Sto} (h : DkE j S) (hm : j ≤ m) : DkE m S := by
  obtain ⟨T, h⟩ := h
  exact ⟨T, h.mono hm⟩
theorem DkE.app {j : Nat} {S U : Sto} (h : DkE j S) : DkE j (S ++ U) := by
  obtain ⟨T, h⟩ := h
  exact ⟨T ++ U, h.app⟩
theorem DkE.len {j : Nat} {S : Sto} (h : DkE j S) : 2 ≤ S.length := by
  obtain ⟨T, h⟩ := h
  have := h.len
  omega
theorem DkE.set {j i : Nat} {S : Sto} {c : Option Cell} (h : DkE j S) (hi : 2 ≤ i) : DkE j (S.set i c) := by
  obtain ⟨T, its, seed, cnt, rfl, h⟩ := h
  obtain ⟨m, rfl⟩ : ∃ m, i = m + 2 := ⟨i - 2, by omega⟩
  exact ⟨T.set m c, its, seed, cnt, rfl, h⟩
theorem wp_fin_keep {S S' : Sto} {d : D} {Q : D → Sto → Prop} (hd : refsLt S.length d = false) (h : Q d S') : wp (fin S d S') Q := by
  unfold fin
  split
  · exact ⟨h⟩
  · rw [if_neg (fun z => by rw [hd] at z; exact Bool.noConfusion z.2)]
    exact ⟨h⟩
theorem range_pre {N : Nat} {pre post : List Nat} {x : Nat} (h : List.range N = pre ++ x :: post) : x < N ∧ x = pre.length ∧ pre.length < N := by
  have hx : x < N := List.mem_range.mp (by rw [h]; simp)
  have hl := congrArg List.length h
  simp at hl
  have e : (List.range N)[pre.length]? = some x := by rw [h]; simp
  rw [List.getElem?_range (by omega)] at e
  cases e
  exact ⟨hx, rfl, by omega⟩
/-! ### rows in cells -/
def fD (L n : Nat) : D := .lst ((List.range n).map fun j => .ref (L + j))
theorem f_ix {S : Sto} {L N u : Nat} (h : u < N) : p_ix (fD L N) (.int u) S = .ok (.ref (L + u)) S := ix_lst (Int.natCast_nonneg _) (by rw [Int.toNat_natCast, List.getElem?_map, List.getElem?_range h]; rfl)
def RowsAt (S : Sto) (L : Nat) (rows : List (List Int)) : Prop := ∀ (u : Nat) (r : List Int), rows[u]? = some r → S[L + u]? = some (some (.lst (iD r)))
theorem RowsAt.sm {S S' : Sto} {L : Nat} {rows : List (List Int)} (h : RowsAt S L rows) (s : Sm S S') (hL : 2 ≤ L) : RowsAt S' L rows := fun u r e => s.at_ (by omega) (h u r e)
theorem set_same {S : Sto} {i : Nat} {x : Option Cell} (h : S[i]? = some x) : S.set i x = S := by
  refine List.ext_getElem? fun j => ?_
  by_cases e : i = j
  · subst e
    rw [at_set h, h]
  · rw [List.getElem?_set_ne e]
end DL

set_option Elab.async false
set_option linter.all false
set_option maxRecDepth 100000
set_option maxHeartbeats 4000000
/-! printed by gen.py -/
namespace K07
open PySem PySem.Spec PyProof.Rows L2 DL
def top (i : Nat) : Stmt := PySem.Challenge.pw_crossnought_k07_ledgers_of_patterns.main.body.getD i (.Pass ⟨0, 0, 0, 0⟩)
abbrev s__law_source : Stmt := top 22
abbrev s__law_draw : Stmt := top 23
abbrev s__law_choose : Stmt := top 24
abbrev s_is_between : Stmt := top 19
abbrev s_reduced_modulo : Stmt := top 13
abbrev s_power_of : Stmt := top 14
abbrev s_is_probable : Stmt := top 15
abbrev s_is_odd_prime : Stmt := top 16
abbrev s_Scheme_is_prime : Stmt := inClass (top 20) 4
abbrev s_Scheme__init_ : Stmt := inClass (top 20) 3
abbrev s__law_scheme : Stmt := top 25
abbrev s_Scheme_accounts : Stmt := inClass (top 20) 7
abbrev s__law_all_pairs : Stmt := top 28
abbrev s_Scheme_prime : Stmt := inClass (top 20) 6
abbrev s__law_amount : Stmt := top 26
abbrev s__law_table : Stmt := top 29
abbrev s_Scheme_length : Stmt := inClass (top 20) 8
abbrev s__law_reduced : Stmt := top 27
abbrev s__law_ledger : Stmt := top 30
abbrev s_cut_ledger : Stmt := top 7
abbrev s_zero_ledger : Stmt := top 5
abbrev s_Scheme_name_of : Stmt := inClass (top 20) 14
abbrev s_Scheme_reduced : Stmt := inClass (top 20) 12
abbrev s_ledger_of : Stmt := top 6
abbrev s_Scheme_shortened : Stmt := inClass (top 20) 11
abbrev s_is_integer : Stmt := top 2
abbrev s_Scheme_largest_amount : Stmt := inClass (top 20) 9
abbrev s_is_reduced : Stmt := top 3
abbrev s_is_ledger : Stmt := top 4
abbrev s__law_one_right : Stmt := top 31
abbrev s_law : Stmt := top 32
def k_BASES : D := (.wtp [.int 2, .int 3, .int 5, .int 7])
def k_LEAST_ACCOUNTS : D := (.int 2)
/-! _law_source: 0 _law_script, 1 _law_pile, 2 _law_mixed, 3 _law_cell -/
noncomputable def c__law_source (G : Gx) : SCode :=
  (c_seq (c_par 1 2 (c_rev true (c_cb (p_list false) (c_cons (c_sl false (c_var 0) c_no (c_part (c_d (.int 63)))) c_nil))) (c_d (.int 40961)))
  (c_seq (c_for (c_it (c_var 1)) (g_name 3) (c_set 2 (c_op p_mod (c_op (p_add false) (c_op (p_add false) (c_op (p_mul false) (c_var 2) (c_d (.int 16807))) (c_op p_mod (c_var 3) (c_d (.int 2147483563)))) (c_d (.int 29))) (c_d (.int 2147483647)))))
  (c_ret (c_dispK true (c_ps (c_d (.str "pile")) (c_var 1) (c_ps (c_d (.str "mixed")) (c_var 2) (c_ps (c_d (.str "draws")) (c_d (.int 0)) c_ps0)))))))
noncomputable def m__law_source (G : Gx) : List D → Sto → Res D := fnR 4 (c__law_source G)
noncomputable def mp__law_source (G : Gx) : List D → Sto → Res D := argsN 1 (m__law_source G)
/-! _law_draw: 0 _law_source_here, 1 _law_ways, 2 _law_turn, 3 _law_cell, 4 _law_mixed -/
noncomputable def c__law_draw (G : Gx) : SCode :=
  (c_seq (c_par 2 3 (c_op (p_add false) (c_op p_ix (c_var 0) (c_d (.str "draws"))) (c_d (.int 1))) (c_d (.int 0)))
  (c_seq (c_setI (c_var 0) (c_d (.str "draws")) (c_var 2))
  (c_seq (c_ifS (c_test (c_op (p_eq true) (c_op p_ix (c_var 0) (c_d (.str "pile"))) (c_lst false c_nil))) (c_seq (c_set 3 (c_meth isL p_pop (c_op p_ix (c_var 0) (c_d (.str "pile"))) c_nil))
  (c_ifS (c_test (c_op p_ge (c_var 3) (c_op p_pow (c_d (.int 10)) (c_d (.int 18))))) (c_seq (c_expr (c_meth isL p_append (c_op p_ix (c_var 0) (c_d (.str "pile"))) (c_cons (c_op p_fdiv (c_var 3) (c_var 1)) c_nil)))
  (c_ret (c_op p_mod (c_var 3) (c_var 1)))) c_nx)) c_nx)
  (c_seq (c_set 4 (c_op (p_add false) (c_op (p_add false) (c_op p_ix (c_var 0) (c_d (.str "mixed"))) (c_op p_mod (c_var 3) (c_d (.int 2147483629)))) (c_op (p_mul false) (c_op (p_mul false) (c_d (.int 75161)) (c_var 2)) (c_var 2))))
  (c_seq (c_set 4 (c_op p_mod (c_op (p_mul false) (c_var 4) (c_d (.int 48271))) (c_d (.int 2147483647))))
  (c_seq (c_set 4 (c_op p_mod (c_op (p_add false) (c_op (p_add false) (c_op (p_mul false) (c_var 4) (c_var 4)) (c_op (p_mul false) (c_d (.int 62089)) (c_var 2))) (c_d (.int 11))) (c_d (.int 2147483587))))
  (c_ret (c_op p_mod (c_op p_fdiv (c_op p_mod (c_op (p_mul false) (c_var 4) (c_op (p_add false) (c_op p_fdiv (c_var 4) (c_d (.int 13))) (c_d (.int 39373)))) (c_d (.int 2147483563))) (c_d (.int 64))) (c_var 1)))))))))
noncomputable def m__law_draw (G : Gx) : List D → Sto → Res D := fnR 5 (c__law_draw G)
noncomputable def mp__law_draw (G : Gx) : List D → Sto → Res D := argsN 2 (m__law_draw G)
/-! _law_choose: 0 _law_source_here, 1 _law_some -/
noncomputable def c__law_choose (G : Gx) : SCode :=
  (c_ret (c_op p_ix (c_var 1) (c_cb (mp__law_draw G) (c_cons (c_var 0) (c_cons (c_cb p_len (c_cons (c_var 1) c_nil)) c_nil)))))
noncomputable def m__law_choose (G : Gx) : List D → Sto → Res D := fnR 2 (c__law_choose G)
noncomputable def mp__law_choose (G : Gx) : List D → Sto → Res D := argsN 2 (m__law_choose G)
/-! is_between: 0 value, 1 least, 2 most -/
noncomputable def c_is_between (G : Gx) : SCode :=
  (c_ret (c_andV (c_cb p_isi (c_cons (c_var 0) (c_cons (c_d (.ty "int")) c_nil))) (c_andV (c_notV (c_cb p_isi (c_cons (c_var 0) (c_cons (c_d (.ty "bool")) c_nil)))) (c_chain p_le p_le (c_var 1) (c_var 0) (c_var 2)))))
noncomputable def m_is_between (G : Gx) : List D → Sto → Res D := fnR 3 (c_is_between G)
noncomputable def mp_is_between (G : Gx) : List D → Sto → Res D := argsN 3 (m_is_between G)
/-! reduced_modulo: 0 number, 1 prime, 2 rest -/
noncomputable def c_reduced_modulo (G : Gx) : SCode :=
  (c_seq (c_set 2 (c_op p_mod (c_var 0) (c_var 1)))
  (c_ret (c_if (c_test (c_op p_gt (c_op (p_mul false) (c_d (.int 2)) (c_var 2)) (c_var 1))) (c_op p_sub (c_var 2) (c_var 1)) (c_var 2))))
noncomputable def m_reduced_modulo (G : Gx) : List D → Sto → Res D := fnR 3 (c_reduced_modulo G)
noncomputable def mp_reduced_modulo (G : Gx) : List D → Sto → Res D := argsN 2 (m_reduced_modulo G)
/-! power_of: 0 base, 1 exponent, 2 prime, 3 result, 4 square, 5 left -/
noncomputable def c_power_of (G : Gx) : SCode :=
  (c_seq (c_par3 3 4 5 (c_d (.int 1)) (c_op p_mod (c_var 0) (c_var 2)) (c_var 1))
  (c_seq (c_while (c_test (c_op p_gt (c_var 5) (c_d (.int 0)))) (c_seq (c_ifS (c_test (c_op (p_eq false) (c_op p_mod (c_var 5) (c_d (.int 2))) (c_d (.int 1)))) (c_set 3 (c_op p_mod (c_op (p_mul false) (c_var 3) (c_var 4)) (c_var 2))) c_nx)
  (c_seq (c_set 4 (c_op p_mod (c_op (p_mul false) (c_var 4) (c_var 4)) (c_var 2)))
  (c_aug 5 p_fdiv (c_d (.int 2))))))
  (c_ret (c_cb (mp_reduced_modulo G) (c_cons (c_var 3) (c_cons (c_var 2) c_nil))))))
noncomputable def m_power_of (G : Gx) : List D → Sto → Res D := fnR 6 (c_power_of G)
noncomputable def mp_power_of (G : Gx) : List D → Sto → Res D := argsN 3 (m_power_of G)
/-! is_probable: 0 number, 1 base, 2 odd, 3 twos, 4 power, 5 turn -/
noncomputable def c_is_probable (G : Gx) : SCode :=
  (c_seq (c_par 2 3 (c_op p_sub (c_var 0) (c_d (.int 1))) (c_d (.int 0)))
  (c_seq (c_while (c_test (c_op (p_eq false) (c_op p_mod (c_var 2) (c_d (.int 2))) (c_d (.int 0)))) (c_par 2 3 (c_op p_fdiv (c_var 2) (c_d (.int 2))) (c_op (p_add false) (c_var 3) (c_d (.int 1)))))
  (c_seq (c_set 4 (c_cb (mp_power_of G) (c_cons (c_var 1) (c_cons (c_var 2) (c_cons (c_var 0) c_nil)))))
  (c_seq (c_ifS (c_test (c_op (p_in false) (c_var 4) (c_tup (c_cons (c_d (.int 1)) (c_cons (c_un p_neg (c_d (.int 1))) c_nil))))) (c_ret (c_d (.bl true))) c_nx)
  (c_seq (c_for (c_rng1 (c_cons (c_op p_sub (c_var 3) (c_d (.int 1))) c_nil)) (g_name 5) (c_seq (c_set 4 (c_cb (mp_reduced_modulo G) (c_cons (c_op (p_mul false) (c_var 4) (c_var 4)) (c_cons (c_var 0) c_nil))))
  (c_ifS (c_test (c_op (p_eq false) (c_var 4) (c_un p_neg (c_d (.int 1))))) (c_ret (c_d (.bl true))) c_nx)))
  (c_ret (c_d (.bl false))))))))
noncomputable def m_is_probable (G : Gx) : List D → Sto → Res D := fnR 6 (c_is_probable G)
noncomputable def mp_is_probable (G : Gx) : List D → Sto → Res D := argsN 2 (m_is_probable G)
/-! is_odd_prime: 0 number, 1 base -/
noncomputable def c_is_odd_prime (G : Gx) : SCode :=
  (c_seq (c_for (c_it (c_d k_BASES)) (g_name 1) (c_ifS (c_test (c_op (p_eq false) (c_op p_mod (c_var 0) (c_var 1)) (c_d (.int 0)))) (c_ret (c_op (p_eq false) (c_var 0) (c_var 1))) c_nx))
  (c_ret (c_cb p_all (c_cons (c_lc (c_it (c_d k_BASES)) (g_name 1) c_yes (c_cb (mp_is_probable G) (c_cons (c_var 0) (c_cons (c_var 1) c_nil))) [1]) c_nil))))
noncomputable def m_is_odd_prime (G : Gx) : List D → Sto → Res D := fnR 2 (c_is_odd_prime G)
noncomputable def mp_is_odd_prime (G : Gx) : List D → Sto → Res D := argsN 1 (m_is_odd_prime G)
/-! Scheme.is_prime: 0 value -/
noncomputable def c_Scheme_is_prime (G : Gx) : SCode :=
  (c_ret (c_andV (c_cb (mp_is_between G) (c_cons (c_var 0) (c_cons (c_d (.int 3)) (c_cons (c_cval (G.cls 0) (.int 1000000000) (c_d (.con (G.cls 0)))) c_nil)))) (c_cb (mp_is_odd_prime G) (c_cons (c_var 0) c_nil))))
noncomputable def m_Scheme_is_prime (G : Gx) : List D → Sto → Res D := fnR 1 (c_Scheme_is_prime G)
noncomputable def mp_Scheme_is_prime (G : Gx) : List D → Sto → Res D := argsN 1 (m_Scheme_is_prime G)
/-! Scheme.__init__: 0 self, 1 prime, 2 accounts, 3 length -/
noncomputable def c_Scheme__init_ (G : Gx) : SCode :=
  (c_seq (c_ifS (c_not (c_test (c_smeth (G.cls 0) (mp_Scheme_is_prime G) (c_d (.con (G.cls 0))) (c_cons (c_var 1) c_nil)))) c_stuck c_nx)
  (c_seq (c_ifS (c_or (c_not (c_test (c_cb (mp_is_between G) (c_cons (c_var 2) (c_cons (c_d k_LEAST_ACCOUNTS) (c_cons (c_cval (G.cls 0) (.int 24) (c_d (.con (G.cls 0)))) c_nil)))))) (c_test (c_op p_ge (c_op (p_mul false) (c_var 2) (c_var 2)) (c_var 1)))) c_stuck c_nx)
  (c_seq (c_ifS (c_not (c_test (c_cb (mp_is_between G) (c_cons (c_var 3) (c_cons (c_d (.int 1)) (c_cons (c_cval (G.cls 0) (.int 24) (c_d (.con (G.cls 0)))) c_nil)))))) c_stuck c_nx)
  (c_seq (c_fldS 0 0 (c_var 0) (c_var 1))
  (c_seq (c_fldS 0 1 (c_var 0) (c_var 2))
  (c_fldS 0 2 (c_var 0) (c_var 3)))))))
noncomputable def m_Scheme__init_ (G : Gx) : List D → Sto → Res D := fnR 4 (c_Scheme__init_ G)
noncomputable def mp_Scheme__init_ (G : Gx) : List D → Sto → Res D := argsN 4 (m_Scheme__init_ G)
/-! _law_scheme: 0 _law_source_here, 1 _law_top, 2 _law_longest, 3 _law_least, 4 _law_many, 5 _law_p -/
noncomputable def c__law_scheme (G : Gx) : SCode :=
  (c_seq (c_set 3 (c_lst false (c_cons (c_d (.int 5)) (c_cons (c_d (.int 11)) (c_cons (c_d (.int 17)) (c_cons (c_d (.int 29)) (c_cons (c_d (.int 37)) (c_cons (c_d (.int 53)) (c_cons (c_d (.int 67)) (c_cons (c_d (.int 83)) (c_cons (c_d (.int 101)) (c_cons (c_d (.int 127)) (c_cons (c_d (.int 149)) (c_cons (c_d (.int 173)) (c_cons (c_d (.int 197)) (c_cons (c_d (.int 227)) (c_cons (c_d (.int 257)) (c_cons (c_d (.int 293)) (c_cons (c_d (.int 331)) (c_cons (c_d (.int 367)) (c_cons (c_d (.int 401)) (c_cons (c_d (.int 443)) (c_cons (c_d (.int 487)) (c_cons (c_d (.int 541)) (c_cons (c_d (.int 577)) c_nil)))))))))))))))))))))))))
  (c_seq (c_set 4 (c_op (p_add false) (c_d (.int 2)) (c_cb (mp__law_draw G) (c_cons (c_var 0) (c_cons (c_op p_sub (c_var 1) (c_d (.int 1))) c_nil)))))
  (c_seq (c_set 5 (c_cb (mp__law_choose G) (c_cons (c_var 0) (c_cons (c_lst false (c_cons (c_op p_ix (c_var 3) (c_op p_sub (c_var 4) (c_d (.int 2)))) (c_cons (c_op p_ix (c_var 3) (c_op p_sub (c_var 4) (c_d (.int 2)))) (c_cons (c_d (.int 1009)) (c_cons (c_d (.int 65537)) (c_cons (c_d (.int 999999937)) c_nil)))))) c_nil))))
  (c_ret (c_cb (p_make false 0 (mp_Scheme__init_ G)) (c_cons (c_var 5) (c_cons (c_var 4) (c_cons (c_op (p_add false) (c_d (.int 1)) (c_cb (mp__law_draw G) (c_cons (c_var 0) (c_cons (c_var 2) c_nil)))) c_nil))))))))
noncomputable def m__law_scheme (G : Gx) : List D → Sto → Res D := fnR 6 (c__law_scheme G)
noncomputable def mp__law_scheme (G : Gx) : List D → Sto → Res D := argsN 3 (m__law_scheme G)
/-! Scheme.accounts: 0 self -/
noncomputable def c_Scheme_accounts (G : Gx) : SCode :=
  (c_ret (c_fld 0 1 (c_var 0)))
noncomputable def m_Scheme_accounts (G : Gx) : List D → Sto → Res D := fnR 1 (c_Scheme_accounts G)
noncomputable def mp_Scheme_accounts (G : Gx) : List D → Sto → Res D := argsN 1 (m_Scheme_accounts G)
/-! _law_all_pairs: 0 _law_area, 1 _law_found, 2 _law_upper, 3 _law_lower -/
noncomputable def c__law_all_pairs (G : Gx) : SCode :=
  (c_seq (c_set 1 (c_lst true c_nil))
  (c_seq (c_for (c_rng1 (c_cons (c_prop 0 (m_Scheme_accounts G) (c_var 0)) c_nil)) (g_name 2) (c_expr (c_meth isL p_extend (c_var 1) (c_cons (c_lc (c_rng1 (c_cons (c_var 2) c_nil)) (g_name 3) c_yes (c_tup (c_cons (c_var 3) (c_cons (c_var 2) c_nil))) [3]) c_nil))))
  (c_ret (c_cb (p_sorted false) (c_cons (c_var 1) c_nil)))))
noncomputable def m__law_all_pairs (G : Gx) : List D → Sto → Res D := fnR 4 (c__law_all_pairs G)
noncomputable def mp__law_all_pairs (G : Gx) : List D → Sto → Res D := argsN 1 (m__law_all_pairs G)
/-! Scheme.prime: 0 self -/
noncomputable def c_Scheme_prime (G : Gx) : SCode :=
  (c_ret (c_fld 0 0 (c_var 0)))
noncomputable def m_Scheme_prime (G : Gx) : List D → Sto → Res D := fnR 1 (c_Scheme_prime G)
noncomputable def mp_Scheme_prime (G : Gx) : List D → Sto → Res D := argsN 1 (m_Scheme_prime G)
/-! _law_amount: 0 _law_source_here, 1 _law_area, 2 _law_half, 3 _law_size -/
noncomputable def c__law_amount (G : Gx) : SCode :=
  (c_seq (c_set 2 (c_op p_fdiv (c_prop 0 (m_Scheme_prime G) (c_var 1)) (c_d (.int 2))))
  (c_seq (c_set 3 (c_cb (mp__law_choose G) (c_cons (c_var 0) (c_cons (c_lst false (c_cons (c_d (.int 1)) (c_cons (c_var 2) (c_cons (c_op (p_add false) (c_d (.int 1)) (c_cb (mp__law_draw G) (c_cons (c_var 0) (c_cons (c_var 2) c_nil)))) c_nil)))) c_nil))))
  (c_ret (c_cb (mp__law_choose G) (c_cons (c_var 0) (c_cons (c_lst false (c_cons (c_var 3) (c_cons (c_op p_sub (c_d (.int 0)) (c_var 3)) c_nil))) c_nil))))))
noncomputable def m__law_amount (G : Gx) : List D → Sto → Res D := fnR 4 (c__law_amount G)
noncomputable def mp__law_amount (G : Gx) : List D → Sto → Res D := argsN 2 (m__law_amount G)
/-! _law_table: 0 _law_source_here, 1 _law_area, 2 _law_rare, 3 _law_found, 4 _law_pair -/
noncomputable def c__law_table (G : Gx) : SCode :=
  (c_seq (c_par 2 3 (c_op (p_add false) (c_d (.int 1)) (c_cb (mp__law_draw G) (c_cons (c_var 0) (c_cons (c_d (.int 5)) c_nil)))) (c_lst true c_nil))
  (c_seq (c_for (c_it (c_cb (mp__law_all_pairs G) (c_cons (c_var 1) c_nil))) (g_name 4) (c_ifS (c_test (c_op (p_eq false) (c_cb (mp__law_draw G) (c_cons (c_var 0) (c_cons (c_var 2) c_nil))) (c_d (.int 0)))) (c_expr (c_meth isL p_append (c_var 3) (c_cons (c_tup (c_cons (c_var 4) (c_cons (c_cb (mp__law_amount G) (c_cons (c_var 0) (c_cons (c_var 1) c_nil))) c_nil))) c_nil))) c_nx))
  (c_ret (c_cb p_tuple (c_cons (c_var 3) c_nil)))))
noncomputable def m__law_table (G : Gx) : List D → Sto → Res D := fnR 5 (c__law_table G)
noncomputable def mp__law_table (G : Gx) : List D → Sto → Res D := argsN 2 (m__law_table G)
/-! Scheme.length: 0 self -/
noncomputable def c_Scheme_length (G : Gx) : SCode :=
  (c_ret (c_fld 0 2 (c_var 0)))
noncomputable def m_Scheme_length (G : Gx) : List D → Sto → Res D := fnR 1 (c_Scheme_length G)
noncomputable def mp_Scheme_length (G : Gx) : List D → Sto → Res D := argsN 1 (m_Scheme_length G)
/-! _law_reduced: 0 _law_total, 1 _law_area, 2 _law_rest -/
noncomputable def c__law_reduced (G : Gx) : SCode :=
  (c_seq (c_set 2 (c_op p_mod (c_var 0) (c_prop 0 (m_Scheme_prime G) (c_var 1))))
  (c_ret (c_if (c_test (c_op p_gt (c_var 2) (c_op p_fdiv (c_prop 0 (m_Scheme_prime G) (c_var 1)) (c_d (.int 2))))) (c_op p_sub (c_var 2) (c_prop 0 (m_Scheme_prime G) (c_var 1))) (c_var 2))))
noncomputable def m__law_reduced (G : Gx) : List D → Sto → Res D := fnR 3 (c__law_reduced G)
noncomputable def mp__law_reduced (G : Gx) : List D → Sto → Res D := argsN 2 (m__law_reduced G)
/-! _law_ledger: 0 _law_table_here, 1 _law_area, 2 _law_totals, 3 _law_lower, 4 _law_upper, 5 _law_paid, 6 _law_term, 7 _law_k, 8 _law_total -/
noncomputable def c__law_ledger (G : Gx) : SCode :=
  (c_seq (c_set 2 (c_op (p_mul true) (c_lst false (c_cons (c_d (.int 0)) c_nil)) (c_prop 0 (m_Scheme_length G) (c_var 1))))
  (c_seq (c_for (c_it (c_var 0)) (g_tup 2 (g_cons (g_tup 2 (g_cons (g_name 3) (g_cons (g_name 4) g_nil))) (g_cons (g_name 5) g_nil))) (c_seq (c_set 6 (c_var 5))
  (c_for (c_rng1 (c_cons (c_prop 0 (m_Scheme_length G) (c_var 1)) c_nil)) (g_name 7) (c_seq (c_setI (c_var 2) (c_var 7) (c_op (p_add false) (c_op p_ix (c_var 2) (c_var 7)) (c_var 6)))
  (c_set 6 (c_op (p_mul false) (c_var 6) (c_op (p_add false) (c_op (p_add false) (c_d (.int 1)) (c_op (p_mul false) (c_var 3) (c_prop 0 (m_Scheme_accounts G) (c_var 1)))) (c_var 4))))))))
  (c_ret (c_cb p_tuple (c_cons (c_lc (c_it (c_var 2)) (g_name 8) c_yes (c_cb (mp__law_reduced G) (c_cons (c_var 8) (c_cons (c_var 1) c_nil))) [8]) c_nil)))))
noncomputable def m__law_ledger (G : Gx) : List D → Sto → Res D := fnR 9 (c__law_ledger G)
noncomputable def mp__law_ledger (G : Gx) : List D → Sto → Res D := argsN 2 (m__law_ledger G)
/-! cut_ledger: 0 ledger, 1 length -/
noncomputable def c_cut_ledger (G : Gx) : SCode :=
  (c_ret (c_sl false (c_var 0) c_no (c_part (c_var 1))))
noncomputable def m_cut_ledger (G : Gx) : List D → Sto → Res D := fnR 2 (c_cut_ledger G)
noncomputable def mp_cut_ledger (G : Gx) : List D → Sto → Res D := argsN 2 (m_cut_ledger G)
/-! zero_ledger: 0 scheme -/
noncomputable def c_zero_ledger (G : Gx) : SCode :=
  (c_ret (c_op (p_mul false) (c_tup (c_cons (c_d (.int 0)) c_nil)) (c_prop 0 (m_Scheme_length G) (c_var 0))))
noncomputable def m_zero_ledger (G : Gx) : List D → Sto → Res D := fnR 1 (c_zero_ledger G)
noncomputable def mp_zero_ledger (G : Gx) : List D → Sto → Res D := argsN 1 (m_zero_ledger G)
/-! Scheme.name_of: 0 self, 1 pair -/
noncomputable def c_Scheme_name_of (G : Gx) : SCode :=
  (c_ret (c_op (p_add false) (c_op (p_add false) (c_d (.int 1)) (c_op (p_mul false) (c_op p_ix (c_var 1) (c_d (.int 0))) (c_fld 0 1 (c_var 0)))) (c_op p_ix (c_var 1) (c_d (.int 1)))))
noncomputable def m_Scheme_name_of (G : Gx) : List D → Sto → Res D := fnR 2 (c_Scheme_name_of G)
noncomputable def mp_Scheme_name_of (G : Gx) : List D → Sto → Res D := argsN 2 (m_Scheme_name_of G)
/-! Scheme.reduced: 0 self, 1 number -/
noncomputable def c_Scheme_reduced (G : Gx) : SCode :=
  (c_ret (c_cb (mp_reduced_modulo G) (c_cons (c_var 1) (c_cons (c_fld 0 0 (c_var 0)) c_nil))))
noncomputable def m_Scheme_reduced (G : Gx) : List D → Sto → Res D := fnR 2 (c_Scheme_reduced G)
noncomputable def mp_Scheme_reduced (G : Gx) : List D → Sto → Res D := argsN 2 (m_Scheme_reduced G)
/-! ledger_of: 0 scheme, 1 pattern, 2 totals, 3 pair, 4 amount, 5 name, 6 term, 7 index, 8 total -/
noncomputable def c_ledger_of (G : Gx) : SCode :=
  (c_seq (c_set 2 (c_cb (p_list true) (c_cons (c_cb (mp_zero_ledger G) (c_cons (c_var 0) c_nil)) c_nil)))
  (c_seq (c_for (c_it (c_var 1)) (g_tup 2 (g_cons (g_name 3) (g_cons (g_name 4) g_nil))) (c_seq (c_par 5 6 (c_methP 0 (mp_Scheme_name_of G) (c_var 0) (c_cons (c_var 3) c_nil)) (c_var 4))
  (c_for (c_rng1 (c_cons (c_prop 0 (m_Scheme_length G) (c_var 0)) c_nil)) (g_name 7) (c_seq (c_augS p_addI (c_var 2) (c_var 7) (c_var 6))
  (c_set 6 (c_methP 0 (mp_Scheme_reduced G) (c_var 0) (c_cons (c_op (p_mul false) (c_var 6) (c_var 5)) c_nil)))))))
  (c_ret (c_cb p_tuple (c_cons (c_lc (c_it (c_var 2)) (g_name 8) c_yes (c_methP 0 (mp_Scheme_reduced G) (c_var 0) (c_cons (c_var 8) c_nil)) [8]) c_nil)))))
noncomputable def m_ledger_of (G : Gx) : List D → Sto → Res D := fnR 9 (c_ledger_of G)
noncomputable def mp_ledger_of (G : Gx) : List D → Sto → Res D := argsN 2 (m_ledger_of G)
/-! Scheme.shortened: 0 self, 1 length -/
noncomputable def c_Scheme_shortened (G : Gx) : SCode :=
  (c_ret (c_cb (p_make false 0 (mp_Scheme__init_ G)) (c_cons (c_fld 0 0 (c_var 0)) (c_cons (c_fld 0 1 (c_var 0)) (c_cons (c_var 1) c_nil)))))
noncomputable def m_Scheme_shortened (G : Gx) : List D → Sto → Res D := fnR 2 (c_Scheme_shortened G)
noncomputable def mp_Scheme_shortened (G : Gx) : List D → Sto → Res D := argsN 2 (m_Scheme_shortened G)
/-! is_integer: 0 value -/
noncomputable def c_is_integer (G : Gx) : SCode :=
  (c_ret (c_andV (c_cb p_isi (c_cons (c_var 0) (c_cons (c_d (.ty "int")) c_nil))) (c_notV (c_cb p_isi (c_cons (c_var 0) (c_cons (c_d (.ty "bool")) c_nil))))))
noncomputable def m_is_integer (G : Gx) : List D → Sto → Res D := fnR 1 (c_is_integer G)
noncomputable def mp_is_integer (G : Gx) : List D → Sto → Res D := argsN 1 (m_is_integer G)
/-! Scheme.largest_amount: 0 self -/
noncomputable def c_Scheme_largest_amount (G : Gx) : SCode :=
  (c_ret (c_op p_fdiv (c_op p_sub (c_fld 0 0 (c_var 0)) (c_d (.int 1))) (c_d (.int 2))))
noncomputable def m_Scheme_largest_amount (G : Gx) : List D → Sto → Res D := fnR 1 (c_Scheme_largest_amount G)
noncomputable def mp_Scheme_largest_amount (G : Gx) : List D → Sto → Res D := argsN 1 (m_Scheme_largest_amount G)
/-! is_reduced: 0 scheme, 1 value -/
noncomputable def c_is_reduced (G : Gx) : SCode :=
  (c_ret (c_andV (c_cb (mp_is_integer G) (c_cons (c_var 1) c_nil)) (c_op p_le (c_cb p_abs (c_cons (c_var 1) c_nil)) (c_prop 0 (m_Scheme_largest_amount G) (c_var 0)))))
noncomputable def m_is_reduced (G : Gx) : List D → Sto → Res D := fnR 2 (c_is_reduced G)
noncomputable def mp_is_reduced (G : Gx) : List D → Sto → Res D := argsN 2 (m_is_reduced G)
/-! is_ledger: 0 scheme, 1 value, 2 number -/
noncomputable def c_is_ledger (G : Gx) : SCode :=
  (c_seq (c_ifS (c_or (c_not (c_test (c_cb p_isi (c_cons (c_var 1) (c_cons (c_d (.ty "tuple")) c_nil))))) (c_test (c_op (p_eq true) (c_cb p_len (c_cons (c_var 1) c_nil)) (c_prop 0 (m_Scheme_length G) (c_var 0))))) (c_ret (c_d (.bl false))) c_nx)
  (c_ret (c_cb p_all (c_cons (c_lc (c_it (c_var 1)) (g_name 2) c_yes (c_cb (mp_is_reduced G) (c_cons (c_var 0) (c_cons (c_var 2) c_nil))) [2]) c_nil))))
noncomputable def m_is_ledger (G : Gx) : List D → Sto → Res D := fnR 3 (c_is_ledger G)
noncomputable def mp_is_ledger (G : Gx) : List D → Sto → Res D := argsN 2 (m_is_ledger G)
/-! _law_one_right: 0 _law_area, 1 _law_table_here, 2 _law_due, 3 _law_before, 4 _law_found -/
noncomputable def c__law_one_right (G : Gx) : SCode :=
  (c_seq (c_par 2 3 (c_cb (mp__law_ledger G) (c_cons (c_var 1) (c_cons (c_var 0) c_nil))) (c_cb p_repr (c_cons (c_var 1) c_nil)))
  (c_seq (c_set 4 (c_lst false (c_cons (c_cb (mp_ledger_of G) (c_cons (c_var 0) (c_cons (c_var 1) c_nil))) (c_cons (c_callK 0 2 (gP D.non [1, 0]) (m_ledger_of G) c_nil (c_cons (c_var 1) (c_cons (c_var 0) c_nil))) c_nil))))
  (c_seq (c_ifS (c_or (c_test (c_op (p_eq true) (c_cb p_repr (c_cons (c_var 4) c_nil)) (c_cb p_repr (c_cons (c_lst false (c_cons (c_var 2) (c_cons (c_var 2) c_nil))) c_nil)))) (c_or (c_test (c_op (p_eq true) (c_cb p_repr (c_cons (c_var 1) c_nil)) (c_var 3))) (c_test (c_op (p_isB true) (c_cb (mp_is_ledger G) (c_cons (c_var 0) (c_cons (c_var 2) c_nil))) (c_d (.bl true)))))) (c_ret (c_d (.bl false))) c_nx)
  (c_ret (c_orV (c_notV (c_chain p_lt p_le (c_d (.int 0)) (c_cb p_len (c_cons (c_var 1) c_nil)) (c_prop 0 (m_Scheme_length G) (c_var 0)))) (c_op (p_eq true) (c_var 2) (c_op (p_mul false) (c_tup (c_cons (c_d (.int 0)) c_nil)) (c_prop 0 (m_Scheme_length G) (c_var 0)))))))))
noncomputable def m__law_one_right (G : Gx) : List D → Sto → Res D := fnR 5 (c__law_one_right G)
noncomputable def mp__law_one_right (G : Gx) : List D → Sto → Res D := argsN 2 (m__law_one_right G)
/-! law: 0 _law_script, 1 _law_source_here, 2 _law_turn, 3 _law_area, 4 _law_table_here, 5 _law_last, 6 _law_some, 7 _law_one, 8 _law_size, 9 _law_due, 10 _law_found -/
noncomputable def c_law (G : Gx) : SCode :=
  (c_seq (c_set 1 (c_cb (mp__law_source G) (c_cons (c_var 0) c_nil)))
  (c_seq (c_for (c_rng1 (c_cons (c_d (.int 3)) c_nil)) (g_name 2) (c_seq (c_set 3 (c_cb (mp__law_scheme G) (c_cons (c_var 1) (c_cons (c_d (.int 24)) (c_cons (c_d (.int 24)) c_nil)))))
  (c_seq (c_par 4 5 (c_cb (mp__law_table G) (c_cons (c_var 1) (c_cons (c_var 3) c_nil))) (c_op p_sub (c_prop 0 (m_Scheme_accounts G) (c_var 3)) (c_d (.int 1))))
  (c_seq (c_set 6 (c_lst false (c_cons (c_var 4) (c_cons (c_tup c_nil) (c_cons (c_sl false (c_var 4) c_no (c_part (c_d (.int 1)))) (c_cons (c_sl false (c_var 4) c_no (c_part (c_prop 0 (m_Scheme_length G) (c_var 3)))) (c_cons (c_sl false (c_var 4) (c_part (c_prop 0 (m_Scheme_length G) (c_var 3))) c_no) (c_cons (c_rev false (c_sl false (c_rev false (c_var 4)) c_no (c_part (c_prop 0 (m_Scheme_length G) (c_var 3))))) c_nil))))))))
  (c_seq (c_set 6 (c_op (p_add true) (c_var 6) (c_lst false (c_cons (c_tup (c_cons (c_tup (c_cons (c_tup (c_cons (c_d (.int 0)) (c_cons (c_d (.int 1)) c_nil))) (c_cons (c_cb (mp__law_amount G) (c_cons (c_var 1) (c_cons (c_var 3) c_nil))) c_nil))) c_nil)) (c_cons (c_tup (c_cons (c_tup (c_cons (c_tup (c_cons (c_op p_sub (c_var 5) (c_d (.int 1))) (c_cons (c_var 5) c_nil))) (c_cons (c_cb (mp__law_amount G) (c_cons (c_var 1) (c_cons (c_var 3) c_nil))) c_nil))) c_nil)) c_nil)))))
  (c_seq (c_expr (c_meth isL p_append (c_var 6) (c_cons (c_sl false (c_var 4) c_no (c_part (c_cb (mp__law_draw G) (c_cons (c_var 1) (c_cons (c_op (p_add false) (c_cb p_len (c_cons (c_var 4) c_nil)) (c_d (.int 1))) c_nil))))) c_nil)))
  (c_seq (c_ifS (c_test (c_op (p_eq true) (c_lc (c_it (c_var 6)) (g_name 7) (c_not (c_test (c_cb (mp__law_one_right G) (c_cons (c_var 3) (c_cons (c_var 7) c_nil))))) (c_var 7) [7]) (c_lst false c_nil))) (c_ret (c_d (.bl false))) c_nx)
  (c_for (c_rng2 (c_cons (c_d (.int 1)) (c_cons (c_op (p_add false) (c_prop 0 (m_Scheme_length G) (c_var 3)) (c_d (.int 1))) c_nil))) (g_name 8) (c_seq (c_set 9 (c_sl false (c_cb (mp__law_ledger G) (c_cons (c_var 4) (c_cons (c_var 3) c_nil))) c_no (c_part (c_var 8))))
  (c_seq (c_set 10 (c_lst false (c_cons (c_callK 0 2 (gP D.non [1, 0]) (m_cut_ledger G) c_nil (c_cons (c_var 8) (c_cons (c_cb (mp_ledger_of G) (c_cons (c_var 3) (c_cons (c_var 4) c_nil))) c_nil))) (c_cons (c_cb (mp_ledger_of G) (c_cons (c_methP 0 (mp_Scheme_shortened G) (c_var 3) (c_cons (c_var 8) c_nil)) (c_cons (c_var 4) c_nil))) c_nil))))
  (c_ifS (c_test (c_op (p_eq true) (c_cb p_repr (c_cons (c_var 10) c_nil)) (c_cb p_repr (c_cons (c_lst false (c_cons (c_var 9) (c_cons (c_var 9) c_nil))) c_nil)))) (c_ret (c_d (.bl false))) c_nx)))))))))))
  (c_ret (c_d (.bl true)))))
noncomputable def m_law (G : Gx) : List D → Sto → Res D := fnR 11 (c_law G)
noncomputable def mp_law (G : Gx) : List D → Sto → Res D := argsN 1 (m_law G)
/-! ### what of the text is known -/
structure Txt (G : Gx) : Type where
  f__law_source : Addr
  d__law_source : FuncData
  F__law_source : Fun G.K "_law_source" "_law_source" s__law_source f__law_source d__law_source
  g__law_source : G.mg "_law_source" = some (.ref f__law_source)
  f__law_draw : Addr
  d__law_draw : FuncData
  F__law_draw : Fun G.K "_law_draw" "_law_draw" s__law_draw f__law_draw d__law_draw
  g__law_draw : G.mg "_law_draw" = some (.ref f__law_draw)
  f__law_choose : Addr
  d__law_choose : FuncData
  F__law_choose : Fun G.K "_law_choose" "_law_choose" s__law_choose f__law_choose d__law_choose
  g__law_choose : G.mg "_law_choose" = some (.ref f__law_choose)
  f_is_between : Addr
  d_is_between : FuncData
  F_is_between : Fun G.K "is_between" "is_between" s_is_between f_is_between d_is_between
  g_is_between : G.mg "is_between" = some (.ref f_is_between)
  f_reduced_modulo : Addr
  d_reduced_modulo : FuncData
  F_reduced_modulo : Fun G.K "reduced_modulo" "reduced_modulo" s_reduced_modulo f_reduced_modulo d_reduced_modulo
  g_reduced_modulo : G.mg "reduced_modulo" = some (.ref f_reduced_modulo)
  f_power_of : Addr
  d_power_of : FuncData
  F_power_of : Fun G.K "power_of" "power_of" s_power_of f_power_of d_power_of
  g_power_of : G.mg "power_of" = some (.ref f_power_of)
  f_is_probable : Addr
  d_is_probable : FuncData
  F_is_probable : Fun G.K "is_probable" "is_probable" s_is_probable f_is_probable d_is_probable
  g_is_probable : G.mg "is_probable" = some (.ref f_is_probable)
  f_is_odd_prime : Addr
  d_is_odd_prime : FuncData
  F_is_odd_prime : Fun G.K "is_odd_prime" "is_odd_prime" s_is_odd_prime f_is_odd_prime d_is_odd_prime
  g_is_odd_prime : G.mg "is_odd_prime" = some (.ref f_is_odd_prime)
  f_Scheme_is_prime : Addr
  d_Scheme_is_prime : FuncData
  F_Scheme_is_prime : Fun G.K "is_prime" "Scheme.is_prime" s_Scheme_is_prime f_Scheme_is_prime d_Scheme_is_prime
  f_Scheme__init_ : Addr
  d_Scheme__init_ : FuncData
  F_Scheme__init_ : Fun G.K "__init__" "Scheme.__init__" s_Scheme__init_ f_Scheme__init_ d_Scheme__init_
  f__law_scheme : Addr
  d__law_scheme : FuncData
  F__law_scheme : Fun G.K "_law_scheme" "_law_scheme" s__law_scheme f__law_scheme d__law_scheme
  g__law_scheme : G.mg "_law_scheme" = some (.ref f__law_scheme)
  f_Scheme_accounts : Addr
  d_Scheme_accounts : FuncData
  F_Scheme_accounts : Fun G.K "accounts" "Scheme.accounts" s_Scheme_accounts f_Scheme_accounts d_Scheme_accounts
  f__law_all_pairs : Addr
  d__law_all_pairs : FuncData
  F__law_all_pairs : Fun G.K "_law_all_pairs" "_law_all_pairs" s__law_all_pairs f__law_all_pairs d__law_all_pairs
  g__law_all_pairs : G.mg "_law_all_pairs" = some (.ref f__law_all_pairs)
  f_Scheme_prime : Addr
  d_Scheme_prime : FuncData
  F_Scheme_prime : Fun G.K "prime" "Scheme.prime" s_Scheme_prime f_Scheme_prime d_Scheme_prime
  f__law_amount : Addr
  d__law_amount : FuncData
  F__law_amount : Fun G.K "_law_amount" "_law_amount" s__law_amount f__law_amount d__law_amount
  g__law_amount : G.mg "_law_amount" = some (.ref f__law_amount)
  f__law_table : Addr
  d__law_table : FuncData
  F__law_table : Fun G.K "_law_table" "_law_table" s__law_table f__law_table d__law_table
  g__law_table : G.mg "_law_table" = some (.ref f__law_table)
  f_Scheme_length : Addr
  d_Scheme_length : FuncData
  F_Scheme_length : Fun G.K "length" "Scheme.length" s_Scheme_length f_Scheme_length d_Scheme_length
  f__law_reduced : Addr
  d__law_reduced : FuncData
  F__law_reduced : Fun G.K "_law_reduced" "_law_reduced" s__law_reduced f__law_reduced d__law_reduced
  g__law_reduced : G.mg "_law_reduced" = some (.ref f__law_reduced)
  f__law_ledger : Addr
  d__law_ledger : FuncData
  F__law_ledger : Fun G.K "_law_ledger" "_law_ledger" s__law_ledger f__law_ledger d__law_ledger
  g__law_ledger : G.mg "_law_ledger" = some (.ref f__law_ledger)
  f_cut_ledger : Addr
  d_cut_ledger : FuncData
  F_cut_ledger : Fun G.K "cut_ledger" "cut_ledger" s_cut_ledger f_cut_ledger d_cut_ledger
  g_cut_ledger : G.mg "cut_ledger" = some (.ref f_cut_ledger)
  f_zero_ledger : Addr
  d_zero_ledger : FuncData
  F_zero_ledger : Fun G.K "zero_ledger" "zero_ledger" s_zero_ledger f_zero_ledger d_zero_ledger
  g_zero_ledger : G.mg "zero_ledger" = some (.ref f_zero_ledger)
  f_Scheme_name_of : Addr
  d_Scheme_name_of : FuncData
  F_Scheme_name_of : Fun G.K "name_of" "Scheme.name_of" s_Scheme_name_of f_Scheme_name_of d_Scheme_name_of
  f_Scheme_reduced : Addr
  d_Scheme_reduced : FuncData
  F_Scheme_reduced : Fun G.K "reduced" "Scheme.reduced" s_Scheme_reduced f_Scheme_reduced d_Scheme_reduced
  f_ledger_of : Addr
  d_ledger_of : FuncData
  F_ledger_of : Fun G.K "ledger_of" "ledger_of" s_ledger_of f_ledger_of d_ledger_of
  g_ledger_of : G.mg "ledger_of" = some (.ref f_ledger_of)
  f_Scheme_shortened : Addr
  d_Scheme_shortened : FuncData
  F_Scheme_shortened : Fun G.K "shortened" "Scheme.shortened" s_Scheme_shortened f_Scheme_shortened d_Scheme_shortened
  f_is_integer : Addr
  d_is_integer : FuncData
  F_is_integer : Fun G.K "is_integer" "is_integer" s_is_integer f_is_integer d_is_integer
  g_is_integer : G.mg "is_integer" = some (.ref f_is_integer)
  f_Scheme_largest_amount : Addr
  d_Scheme_largest_amount : FuncData
  F_Scheme_largest_amount : Fun G.K "largest_amount" "Scheme.largest_amount" s_Scheme_largest_amount f_Scheme_largest_amount d_Scheme_largest_amount
  f_is_reduced : Addr
  d_is_reduced : FuncData
  F_is_reduced : Fun G.K "is_reduced" "is_reduced" s_is_reduced f_is_reduced d_is_reduced
  g_is_reduced : G.mg "is_reduced" = some (.ref f_is_reduced)
  f_is_ledger : Addr
  d_is_ledger : FuncData
  F_is_ledger : Fun G.K "is_ledger" "is_ledger" s_is_ledger f_is_ledger d_is_ledger
  g_is_ledger : G.mg "is_ledger" = some (.ref f_is_ledger)
  f__law_one_right : Addr
  d__law_one_right : FuncData
  F__law_one_right : Fun G.K "_law_one_right" "_law_one_right" s__law_one_right f__law_one_right d__law_one_right
  g__law_one_right : G.mg "_law_one_right" = some (.ref f__law_one_right)
  f_law : Addr
  d_law : FuncData
  F_law : Fun G.K "law" "law" s_law f_law d_law
  g_law : G.mg "law" = some (.ref f_law)
  cl_Scheme : Cls G.K (G.cls 0)
  g_Scheme : G.mg "Scheme" = some (.ref (G.cls 0))
  fn_Scheme : G.fns 0 = (["prime_used", "accounts_used", "length_used"] : List Str)
  mk_Scheme : Mk G.K (G.cls 0) f_Scheme__init_
  rd_Scheme : ClX.CRead G.K (G.cls 0) (.type "type")
  z_abs : G.mg "abs" = none
  z_all : G.mg "all" = none
  z_bool : G.mg "bool" = none
  z_int : G.mg "int" = none
  z_isinstance : G.mg "isinstance" = none
  z_len : G.mg "len" = none
  z_list : G.mg "list" = none
  z_range : G.mg "range" = none
  z_repr : G.mg "repr" = none
  z_sorted : G.mg "sorted" = none
  z_tuple : G.mg "tuple" = none
  ka_BASES : Addr
  kv_BASES : List V
  kg_BASES : G.mg "BASES" = some (.ref ka_BASES)
  kw_BASES : WrT G.K ka_BASES kv_BASES
  kr_BASES : ∀ ι L H, Reps G ι L H kv_BASES [.int 2, .int 3, .int 5, .int 7]
  kt_LEAST_ACCOUNTS : Tok
  kg_LEAST_ACCOUNTS : G.mg "LEAST_ACCOUNTS" = some (.int 2 kt_LEAST_ACCOUNTS)
  t_Scheme_LARGEST_PRIME : Tok
  v_Scheme_LARGEST_PRIME : ClX.CVal G.K (G.cls 0) (.type "type") "LARGEST_PRIME" (.int 1000000000) (.int 1000000000 t_Scheme_LARGEST_PRIME)
  t_Scheme_MOST_ACCOUNTS : Tok
  v_Scheme_MOST_ACCOUNTS : ClX.CVal G.K (G.cls 0) (.type "type") "MOST_ACCOUNTS" (.int 24) (.int 24 t_Scheme_MOST_ACCOUNTS)
  t_Scheme_MOST_NUMBERS : Tok
  v_Scheme_MOST_NUMBERS : ClX.CVal G.K (G.cls 0) (.type "type") "MOST_NUMBERS" (.int 24) (.int 24 t_Scheme_MOST_NUMBERS)
  n_Scheme_accounts_used : NoAttr G.K (G.cls 0) "accounts_used"
  n_Scheme_length_used : NoAttr G.K (G.cls 0) "length_used"
  n_Scheme_prime_used : NoAttr G.K (G.cls 0) "prime_used"
  mt_Scheme_name_of : Meth G.K (G.cls 0) "name_of" f_Scheme_name_of
  mt_Scheme_reduced : Meth G.K (G.cls 0) "reduced" f_Scheme_reduced
  mt_Scheme_shortened : Meth G.K (G.cls 0) "shortened" f_Scheme_shortened
  pr_Scheme_accounts : Addr
  p_Scheme_accounts : PropOf G.K (G.cls 0) "accounts" pr_Scheme_accounts f_Scheme_accounts
  pr_Scheme_largest_amount : Addr
  p_Scheme_largest_amount : PropOf G.K (G.cls 0) "largest_amount" pr_Scheme_largest_amount f_Scheme_largest_amount
  pr_Scheme_length : Addr
  p_Scheme_length : PropOf G.K (G.cls 0) "length" pr_Scheme_length f_Scheme_length
  pr_Scheme_prime : Addr
  p_Scheme_prime : PropOf G.K (G.cls 0) "prime" pr_Scheme_prime f_Scheme_prime
  sp_Scheme_is_prime : Addr
  st_Scheme_is_prime : SMet G.K (G.cls 0) (.type "type") "is_prime" sp_Scheme_is_prime f_Scheme_is_prime
theorem sc__law_source : FnScope ["_law_script", "_law_pile", "_law_mixed", "_law_cell"] ["_law_script"] (defScope s__law_source) := ⟨rfl, rfl, rfl, by decide +kernel, rfl, by decide +kernel, by decide +kernel⟩
theorem sc__law_draw : FnScope ["_law_source_here", "_law_ways", "_law_turn", "_law_cell", "_law_mixed"] ["_law_source_here", "_law_ways"] (defScope s__law_draw) := ⟨rfl, rfl, rfl, by decide +kernel, rfl, by decide +kernel, by decide +kernel⟩
theorem sc__law_choose : FnScope ["_law_source_here", "_law_some"] ["_law_source_here", "_law_some"] (defScope s__law_choose) := ⟨rfl, rfl, rfl, by decide +kernel, rfl, by decide +kernel, by decide +kernel⟩
theorem sc_is_between : FnScope ["value", "least", "most"] ["value", "least", "most"] (defScope s_is_between) := ⟨rfl, rfl, rfl, by decide +kernel, rfl, by decide +kernel, by decide +kernel⟩
theorem sc_reduced_modulo : FnScope ["number", "prime", "rest"] ["number", "prime"] (defScope s_reduced_modulo) := ⟨rfl, rfl, rfl, by decide +kernel, rfl, by decide +kernel, by decide +kernel⟩
theorem sc_power_of : FnScope ["base", "exponent", "prime", "result", "square", "left"] ["base", "exponent", "prime"] (defScope s_power_of) := ⟨rfl, rfl, rfl, by decide +kernel, rfl, by decide +kernel, by decide +kernel⟩
theorem sc_is_probable : FnScope ["number", "base", "odd", "twos", "power", "turn"] ["number", "base"] (defScope s_is_probable) := ⟨rfl, rfl, rfl, by decide +kernel, rfl, by decide +kernel, by decide +kernel⟩
theorem sc_is_odd_prime : FnScope ["number", "base"] ["number"] (defScope s_is_odd_prime) := ⟨rfl, rfl, rfl, by decide +kernel, rfl, by decide +kernel, by decide +kernel⟩
theorem sc_Scheme_is_prime : FnScope ["value"] ["value"] (defScope s_Scheme_is_prime) := ⟨rfl, rfl, rfl, by decide +kernel, rfl, by decide +kernel, by decide +kernel⟩
theorem sc_Scheme__init_ : FnScope ["self", "prime", "accounts", "length"] ["self", "prime", "accounts", "length"] (defScope s_Scheme__init_) := ⟨rfl, rfl, rfl, by decide +kernel, rfl, by decide +kernel, by decide +kernel⟩
theorem sc__law_scheme : FnScope ["_law_source_here", "_law_top", "_law_longest", "_law_least", "_law_many", "_law_p"] ["_law_source_here", "_law_top", "_law_longest"] (defScope s__law_scheme) := ⟨rfl, rfl, rfl, by decide +kernel, rfl, by decide +kernel, by decide +kernel⟩
theorem sc_Scheme_accounts : FnScope ["self"] ["self"] (defScope s_Scheme_accounts) := ⟨rfl, rfl, rfl, by decide +kernel, rfl, by decide +kernel, by decide +kernel⟩
theorem sc__law_all_pairs : FnScope ["_law_area", "_law_found", "_law_upper", "_law_lower"] ["_law_area"] (defScope s__law_all_pairs) := ⟨rfl, rfl, rfl, by decide +kernel, rfl, by decide +kernel, by decide +kernel⟩
theorem sc_Scheme_prime : FnScope ["self"] ["self"] (defScope s_Scheme_prime) := ⟨rfl, rfl, rfl, by decide +kernel, rfl, by decide +kernel, by decide +kernel⟩
theorem sc__law_amount : FnScope ["_law_source_here", "_law_area", "_law_half", "_law_size"] ["_law_source_here", "_law_area"] (defScope s__law_amount) := ⟨rfl, rfl, rfl, by decide +kernel, rfl, by decide +kernel, by decide +kernel⟩
theorem sc__law_table : FnScope ["_law_source_here", "_law_area", "_law_rare", "_law_found", "_law_pair"] ["_law_source_here", "_law_area"] (defScope s__law_table) := ⟨rfl, rfl, rfl, by decide +kernel, rfl, by decide +kernel, by decide +kernel⟩
theorem sc_Scheme_length : FnScope ["self"] ["self"] (defScope s_Scheme_length) := ⟨rfl, rfl, rfl, by decide +kernel, rfl, by decide +kernel, by decide +kernel⟩
theorem sc__law_reduced : FnScope ["_law_total", "_law_area", "_law_rest"] ["_law_total", "_law_area"] (defScope s__law_reduced) := ⟨rfl, rfl, rfl, by decide +kernel, rfl, by decide +kernel, by decide +kernel⟩
theorem sc__law_ledger : FnScope ["_law_table_here", "_law_area", "_law_totals", "_law_lower", "_law_upper", "_law_paid", "_law_term", "_law_k", "_law_total"] ["_law_table_here", "_law_area"] (defScope s__law_ledger) := ⟨rfl, rfl, rfl, by decide +kernel, rfl, by decide +kernel, by decide +kernel⟩
theorem sc_cut_ledger : FnScope ["ledger", "length"] ["ledger", "length"] (defScope s_cut_ledger) := ⟨rfl, rfl, rfl, by decide +kernel, rfl, by decide +kernel, by decide +kernel⟩
theorem sc_zero_ledger : FnScope ["scheme"] ["scheme"] (defScope s_zero_ledger) := ⟨rfl, rfl, rfl, by decide +kernel, rfl, by decide +kernel, by decide +kernel⟩
theorem sc_Scheme_name_of : FnScope ["self", "pair"] ["self", "pair"] (defScope s_Scheme_name_of) := ⟨rfl, rfl, rfl, by decide +kernel, rfl, by decide +kernel, by decide +kernel⟩
theorem sc_Scheme_reduced : FnScope ["self", "number"] ["self", "number"] (defScope s_Scheme_reduced) := ⟨rfl, rfl, rfl, by decide +kernel, rfl, by decide +kernel, by decide +kernel⟩
theorem sc_ledger_of : FnScope ["scheme", "pattern", "totals", "pair", "amount", "name", "term", "index", "total"] ["scheme", "pattern"] (defScope s_ledger_of) := ⟨rfl, rfl, rfl, by decide +kernel, rfl, by decide +kernel, by decide +kernel⟩
theorem sc_Scheme_shortened : FnScope ["self", "length"] ["self", "length"] (defScope s_Scheme_shortened) := ⟨rfl, rfl, rfl, by decide +kernel, rfl, by decide +kernel, by decide +kernel⟩
theorem sc_is_integer : FnScope ["value"] ["value"] (defScope s_is_integer) := ⟨rfl, rfl, rfl, by decide +kernel, rfl, by decide +kernel, by decide +kernel⟩
theorem sc_Scheme_largest_amount : FnScope ["self"] ["self"] (defScope s_Scheme_largest_amount) := ⟨rfl, rfl, rfl, by decide +kernel, rfl, by decide +kernel, by decide +kernel⟩
theorem sc_is_reduced : FnScope ["scheme", "value"] ["scheme", "value"] (defScope s_is_reduced) := ⟨rfl, rfl, rfl, by decide +kernel, rfl, by decide +kernel, by decide +kernel⟩
theorem sc_is_ledger : FnScope ["scheme", "value", "number"] ["scheme", "value"] (defScope s_is_ledger) := ⟨rfl, rfl, rfl, by decide +kernel, rfl, by decide +kernel, by decide +kernel⟩
theorem sc__law_one_right : FnScope ["_law_area", "_law_table_here", "_law_due", "_law_before", "_law_found"] ["_law_area", "_law_table_here"] (defScope s__law_one_right) := ⟨rfl, rfl, rfl, by decide +kernel, rfl, by decide +kernel, by decide +kernel⟩
theorem sc_law : FnScope ["_law_script", "_law_source_here", "_law_turn", "_law_area", "_law_table_here", "_law_last", "_law_some", "_law_one", "_law_size", "_law_due", "_law_found"] ["_law_script"] (defScope s_law) := ⟨rfl, rfl, rfl, by decide +kernel, rfl, by decide +kernel, by decide +kernel⟩
namespace Txt
variable {G : Gx} (T : Txt G)
include T
theorem c_BASES {I : Type} {Xs : I → Cx} {E : WK} {kk : Nat} {pos : Pos} (F : Fam Xs G E kk) (hg : ∀ j, Gl (Xs j) "BASES") : DE Xs G E (.Name "BASES" pos) (c_d k_BASES) :=
  de_glob F.toFamH hg T.kg_BASES (show RelV (.ref _) (.ref _) from rfl) (fun ι L H => .wtp T.kw_BASES (T.kr_BASES ι L H)) (by decide)
theorem c_LEAST_ACCOUNTS {I : Type} {Xs : I → Cx} {E : WK} {kk : Nat} {pos : Pos} (F : Fam Xs G E kk) (hg : ∀ j, Gl (Xs j) "LEAST_ACCOUNTS") : DE Xs G E (.Name "LEAST_ACCOUNTS" pos) (c_d k_LEAST_ACCOUNTS) :=
  de_glob F.toFamH hg T.kg_LEAST_ACCOUNTS (v := .int 2) ⟨_, rfl⟩ (fun _ _ _ => .int _) (by decide)
theorem k__law_source : PySem.W.keepIn G.K (.ref T.f__law_source) = true := T.F__law_source.kp
theorem b__law_source : Binds G.K T.d__law_source ["_law_script"] [] := T.F__law_source.binds fun _ _ _ _ _ _ us hl => match us, hl with | [_], _ => rfl
theorem e__law_source : ∀ E, DSs (FnX G 0 ["_law_script", "_law_pile", "_law_mixed", "_law_cell"] "_law_source" (defScope s__law_source) T.f__law_source E) G (fun _ => E) (defBody s__law_source) (c__law_source G) := fun E => by
  have F := fnX_fam (G := G) (k := 0) (qual := "_law_source") (f := T.f__law_source) sc__law_source E
  exact (dss_cons (ds_par F (i := 1) (j := 2) (fun _ => rfl) (fun _ => rfl) (by decide) (fun _ => rfl) (fun _ => rfl) (de_rev true F (de_callTy F.toFamH (fun _ => call_list_of) (snd_list false) (da_cons (de_sl false (de_var (i := 0) (fun _ => rfl) (fun _ => .inl rfl) (by decide) (by decide)) dp_none (dp_some de_int) F) da_nil (fun _ => rfl)) (fun _ => rfl) T.z_list rfl (by decide) (by decide) (fun _ => rfl) (fun _ => rfl))) de_int (fun _ => rfl) (fun _ => rfl) (fun _ => rfl) (fun _ => rfl))
  (dss_cons (ds_for F (di_seq F.toFamH (de_var (i := 1) (fun _ => rfl) (fun _ => .inl rfl) (by decide) (by decide))) (dg_name F.toFamH (i := 3) (fun _ => rfl) (fun _ => .inl rfl) (fun _ => .inr rfl)) (dss_one (ds_set F.toFamH (i := 2) (fun _ => rfl) (fun _ => .inl rfl) (fun _ => .inr rfl) (de_op (fun _ => op_mod) snd_mod (de_op (fun _ => op_addU) (snd_add false) (de_op (fun _ => op_addU) (snd_add false) (de_op (fun _ => op_mulU) (snd_mul false) (de_var (i := 2) (fun _ => rfl) (fun _ => .inl rfl) (by decide) (by decide)) de_int) (de_op (fun _ => op_mod) snd_mod (de_var (i := 3) (fun _ => rfl) (fun _ => .inl rfl) (by decide) (by decide)) de_int)) de_int) de_int) (fun _ => rfl))) owns_fn (fun _ _ => rfl))
  (dss_one (ds_ret (de_dispK true F (dps_cons de_str (de_var (i := 1) (fun _ => rfl) (fun _ => .inl rfl) (by decide) (by decide)) (dps_cons de_str (de_var (i := 2) (fun _ => rfl) (fun _ => .inl rfl) (by decide) (by decide)) (dps_cons de_str de_int dps_nil))) rfl rfl (List.cons_ne_nil _ _) (by decide))))))
theorem B__law_source : FnB G 1 T.f__law_source T.d__law_source ["_law_script"] (m__law_source G) := FnB.of T.F__law_source sc__law_source T.e__law_source
theorem P__law_source : FnP G 1 T.f__law_source (mp__law_source G) := T.B__law_source.pos T.b__law_source
theorem k__law_draw : PySem.W.keepIn G.K (.ref T.f__law_draw) = true := T.F__law_draw.kp
theorem b__law_draw : Binds G.K T.d__law_draw ["_law_source_here", "_law_ways"] [] := T.F__law_draw.binds fun _ _ _ _ _ _ us hl => match us, hl with | [_, _], _ => rfl
theorem e__law_draw : ∀ E, DSs (FnX G 0 ["_law_source_here", "_law_ways", "_law_turn", "_law_cell", "_law_mixed"] "_law_draw" (defScope s__law_draw) T.f__law_draw E) G (fun _ => E) (defBody s__law_draw) (c__law_draw G) := fun E => by
  have F := fnX_fam (G := G) (k := 0) (qual := "_law_draw") (f := T.f__law_draw) sc__law_draw E
  exact (dss_cons (ds_par F (i := 2) (j := 3) (fun _ => rfl) (fun _ => rfl) (by decide) (fun _ => rfl) (fun _ => rfl) (de_op (fun _ => op_addU) (snd_add false) (de_ix F.toFamH (de_var (i := 0) (fun _ => rfl) (fun _ => .inl rfl) (by decide) (by decide)) de_str (fun _ _ => rfl)) de_int) de_int (fun _ => rfl) (fun _ => rfl) (fun _ => rfl) (fun _ => rfl))
  (dss_cons (ds_setI F.toFamH (de_var (i := 2) (fun _ => rfl) (fun _ => .inl rfl) (by decide) (by decide)) (de_var (i := 0) (fun _ => rfl) (fun _ => .inl rfl) (by decide) (by decide)) de_str (fun _ => rfl) (fun _ => rfl) (fun _ => rfl) (fun _ _ => rfl))
  (dss_cons (ds_if (dt_cmp (neD_at F.toFamH) snd_ne (de_ix F.toFamH (de_var (i := 0) (fun _ => rfl) (fun _ => .inl rfl) (by decide) (by decide)) de_str (fun _ _ => rfl)) (de_lst false da_nil) rfl) (dss_cons (ds_set F.toFamH (i := 3) (fun _ => rfl) (fun _ => .inl rfl) (fun _ => .inr rfl) (de_meth0 F.toFamH PySem.F.plainAttrs_list PySem.F.slot_list_pop PySem.F.type_list_pop (fun _ => mt_pop) snd_pop (fun _ _ _ _ _ R r h => isL_ty R r h) (de_ix F.toFamH (de_var (i := 0) (fun _ => rfl) (fun _ => .inl rfl) (by decide) (by decide)) de_str (fun _ _ => rfl)) (fun _ => rfl) rfl) (fun _ => rfl))
  (dss_one (ds_if (dt_cmp (fun _ => op_ge) (snd_cmp _) (de_var (i := 3) (fun _ => rfl) (fun _ => .inl rfl) (by decide) (by decide)) (de_op (fun _ => op_pow) snd_pow de_int de_int) rfl) (dss_cons (ds_expr (de_meth F.toFamH PySem.F.plainAttrs_list PySem.F.slot_list_append PySem.F.type_list_append (fun _ => mt_append) snd_append (fun _ _ _ _ _ R r h => isL_ty R r h) (de_ix F.toFamH (de_var (i := 0) (fun _ => rfl) (fun _ => .inl rfl) (by decide) (by decide)) de_str (fun _ _ => rfl)) (da_cons (de_op (fun _ => op_fdivW) snd_fdiv (de_var (i := 3) (fun _ => rfl) (fun _ => .inl rfl) (by decide) (by decide)) (de_var (i := 1) (fun _ => rfl) (fun _ => .inl rfl) (by decide) (by decide))) da_nil (fun _ => rfl)) (fun _ => rfl) (fun _ => rfl) rfl (fun _ => rfl) (fun _ => rfl)) (fun _ => rfl))
  (dss_one (ds_ret (de_op (fun _ => op_mod) snd_mod (de_var (i := 3) (fun _ => rfl) (fun _ => .inl rfl) (by decide) (by decide)) (de_var (i := 1) (fun _ => rfl) (fun _ => .inl rfl) (by decide) (by decide)))))) dss_nil))) dss_nil)
  (dss_cons (ds_set F.toFamH (i := 4) (fun _ => rfl) (fun _ => .inl rfl) (fun _ => .inr rfl) (de_op (fun _ => op_addU) (snd_add false) (de_op (fun _ => op_addU) (snd_add false) (de_ix F.toFamH (de_var (i := 0) (fun _ => rfl) (fun _ => .inl rfl) (by decide) (by decide)) de_str (fun _ _ => rfl)) (de_op (fun _ => op_mod) snd_mod (de_var (i := 3) (fun _ => rfl) (fun _ => .inl rfl) (by decide) (by decide)) de_int)) (de_op (fun _ => op_mulU) (snd_mul false) (de_op (fun _ => op_mulU) (snd_mul false) de_int (de_var (i := 2) (fun _ => rfl) (fun _ => .inl rfl) (by decide) (by decide))) (de_var (i := 2) (fun _ => rfl) (fun _ => .inl rfl) (by decide) (by decide)))) (fun _ => rfl))
  (dss_cons (ds_set F.toFamH (i := 4) (fun _ => rfl) (fun _ => .inl rfl) (fun _ => .inr rfl) (de_op (fun _ => op_mod) snd_mod (de_op (fun _ => op_mulU) (snd_mul false) (de_var (i := 4) (fun _ => rfl) (fun _ => .inl rfl) (by decide) (by decide)) de_int) de_int) (fun _ => rfl))
  (dss_cons (ds_set F.toFamH (i := 4) (fun _ => rfl) (fun _ => .inl rfl) (fun _ => .inr rfl) (de_op (fun _ => op_mod) snd_mod (de_op (fun _ => op_addU) (snd_add false) (de_op (fun _ => op_addU) (snd_add false) (de_op (fun _ => op_mulU) (snd_mul false) (de_var (i := 4) (fun _ => rfl) (fun _ => .inl rfl) (by decide) (by decide)) (de_var (i := 4) (fun _ => rfl) (fun _ => .inl rfl) (by decide) (by decide))) (de_op (fun _ => op_mulU) (snd_mul false) de_int (de_var (i := 2) (fun _ => rfl) (fun _ => .inl rfl) (by decide) (by decide)))) de_int) de_int) (fun _ => rfl))
  (dss_one (ds_ret (de_op (fun _ => op_mod) snd_mod (de_op (fun _ => op_fdivW) snd_fdiv (de_op (fun _ => op_mod) snd_mod (de_op (fun _ => op_mulU) (snd_mul false) (de_var (i := 4) (fun _ => rfl) (fun _ => .inl rfl) (by decide) (by decide)) (de_op (fun _ => op_addU) (snd_add false) (de_op (fun _ => op_fdivW) snd_fdiv (de_var (i := 4) (fun _ => rfl) (fun _ => .inl rfl) (by decide) (by decide)) de_int) de_int)) de_int) de_int) (de_var (i := 1) (fun _ => rfl) (fun _ => .inl rfl) (by decide) (by decide)))))))))))
theorem B__law_draw : FnB G 1 T.f__law_draw T.d__law_draw ["_law_source_here", "_law_ways"] (m__law_draw G) := FnB.of T.F__law_draw sc__law_draw T.e__law_draw
theorem P__law_draw : FnP G 1 T.f__law_draw (mp__law_draw G) := T.B__law_draw.pos T.b__law_draw
theorem k__law_choose : PySem.W.keepIn G.K (.ref T.f__law_choose) = true := T.F__law_choose.kp
theorem b__law_choose : Binds G.K T.d__law_choose ["_law_source_here", "_law_some"] [] := T.F__law_choose.binds fun _ _ _ _ _ _ us hl => match us, hl with | [_, _], _ => rfl
theorem e__law_choose : ∀ E, DSs (FnX G 1 ["_law_source_here", "_law_some"] "_law_choose" (defScope s__law_choose) T.f__law_choose E) G (fun _ => E) (defBody s__law_choose) (c__law_choose G) := fun E => by
  have F := fnX_fam (G := G) (k := 1) (qual := "_law_choose") (f := T.f__law_choose) sc__law_choose E
  exact (dss_one (ds_ret (de_ix F.toFamH (de_var (i := 1) (fun _ => rfl) (fun _ => .inl rfl) (by decide) (by decide)) (de_callP F T.P__law_draw (by decide) (da_cons (de_var (i := 0) (fun _ => rfl) (fun _ => .inl rfl) (by decide) (by decide)) (da_cons (de_callB F.toFamH (fun _ => call_lenU) snd_len (da_cons (de_var (i := 1) (fun _ => rfl) (fun _ => .inl rfl) (by decide) (by decide)) da_nil (fun _ => rfl)) (fun _ => rfl) T.z_len rfl (by decide) (by decide) (fun _ => rfl) (fun _ => rfl)) da_nil (fun _ => rfl)) (fun _ => rfl)) (fun _ => rfl) T.g__law_draw T.k__law_draw (by decide) (fun _ => rfl) (fun _ => rfl)) (fun _ _ => rfl))))
theorem B__law_choose : FnB G 2 T.f__law_choose T.d__law_choose ["_law_source_here", "_law_some"] (m__law_choose G) := FnB.of T.F__law_choose sc__law_choose T.e__law_choose
theorem P__law_choose : FnP G 2 T.f__law_choose (mp__law_choose G) := T.B__law_choose.pos T.b__law_choose
theorem k_is_between : PySem.W.keepIn G.K (.ref T.f_is_between) = true := T.F_is_between.kp
theorem b_is_between : Binds G.K T.d_is_between ["value", "least", "most"] [] := T.F_is_between.binds fun _ _ _ _ _ _ us hl => match us, hl with | [_, _, _], _ => rfl
theorem e_is_between : ∀ E, DSs (FnX G 0 ["value", "least", "most"] "is_between" (defScope s_is_between) T.f_is_between E) G (fun _ => E) (defBody s_is_between) (c_is_between G) := fun E => by
  have F := fnX_fam (G := G) (k := 0) (qual := "is_between") (f := T.f_is_between) sc_is_between E
  exact (dss_one (ds_ret (de_and (de_callB F.toFamH (fun _ => call_isi) snd_isi (da_cons (de_var (i := 0) (fun _ => rfl) (fun _ => .inl rfl) (by decide) (by decide)) (da_cons (de_ty F.toFamH (fun _ => rfl) T.z_int rfl (by decide) (by decide)) da_nil (fun _ => rfl)) (fun _ => rfl)) (fun _ => rfl) T.z_isinstance rfl (by decide) (by decide) (fun _ => rfl) (fun _ => rfl)) (de_and (de_not (de_callB F.toFamH (fun _ => call_isi) snd_isi (da_cons (de_var (i := 0) (fun _ => rfl) (fun _ => .inl rfl) (by decide) (by decide)) (da_cons (de_ty F.toFamH (fun _ => rfl) T.z_bool rfl (by decide) (by decide)) da_nil (fun _ => rfl)) (fun _ => rfl)) (fun _ => rfl) T.z_isinstance rfl (by decide) (by decide) (fun _ => rfl) (fun _ => rfl))) (de_one (de_chain (fun _ => op_le) (snd_cmp _) (fun _ => op_le) (snd_cmp _) (de_var (i := 1) (fun _ => rfl) (fun _ => .inl rfl) (by decide) (by decide)) (de_var (i := 0) (fun _ => rfl) (fun _ => .inl rfl) (by decide) (by decide)) (de_var (i := 2) (fun _ => rfl) (fun _ => .inl rfl) (by decide) (by decide)) rfl))))))
theorem B_is_between : FnB G 1 T.f_is_between T.d_is_between ["value", "least", "most"] (m_is_between G) := FnB.of T.F_is_between sc_is_between T.e_is_between
theorem P_is_between : FnP G 1 T.f_is_between (mp_is_between G) := T.B_is_between.pos T.b_is_between
theorem k_reduced_modulo : PySem.W.keepIn G.K (.ref T.f_reduced_modulo) = true := T.F_reduced_modulo.kp
theorem b_reduced_modulo : Binds G.K T.d_reduced_modulo ["number", "prime"] [] := T.F_reduced_modulo.binds fun _ _ _ _ _ _ us hl => match us, hl with | [_, _], _ => rfl
theorem e_reduced_modulo : ∀ E, DSs (FnX G 0 ["number", "prime", "rest"] "reduced_modulo" (defScope s_reduced_modulo) T.f_reduced_modulo E) G (fun _ => E) (defBody s_reduced_modulo) (c_reduced_modulo G) := fun E => by
  have F := fnX_fam (G := G) (k := 0) (qual := "reduced_modulo") (f := T.f_reduced_modulo) sc_reduced_modulo E
  exact (dss_cons (ds_set F.toFamH (i := 2) (fun _ => rfl) (fun _ => .inl rfl) (fun _ => .inr rfl) (de_op (fun _ => op_mod) snd_mod (de_var (i := 0) (fun _ => rfl) (fun _ => .inl rfl) (by decide) (by decide)) (de_var (i := 1) (fun _ => rfl) (fun _ => .inl rfl) (by decide) (by decide))) (fun _ => rfl))
  (dss_one (ds_ret (de_if (dt_cmp (fun _ => op_gt) (snd_cmp _) (de_op (fun _ => op_mulU) (snd_mul false) de_int (de_var (i := 2) (fun _ => rfl) (fun _ => .inl rfl) (by decide) (by decide))) (de_var (i := 1) (fun _ => rfl) (fun _ => .inl rfl) (by decide) (by decide)) rfl) (de_op (fun _ => op_sub) snd_sub (de_var (i := 2) (fun _ => rfl) (fun _ => .inl rfl) (by decide) (by decide)) (de_var (i := 1) (fun _ => rfl) (fun _ => .inl rfl) (by decide) (by decide))) (de_var (i := 2) (fun _ => rfl) (fun _ => .inl rfl) (by decide) (by decide))))))
theorem B_reduced_modulo : FnB G 1 T.f_reduced_modulo T.d_reduced_modulo ["number", "prime"] (m_reduced_modulo G) := FnB.of T.F_reduced_modulo sc_reduced_modulo T.e_reduced_modulo
theorem P_reduced_modulo : FnP G 1 T.f_reduced_modulo (mp_reduced_modulo G) := T.B_reduced_modulo.pos T.b_reduced_modulo
theorem k_power_of : PySem.W.keepIn G.K (.ref T.f_power_of) = true := T.F_power_of.kp
theorem b_power_of : Binds G.K T.d_power_of ["base", "exponent", "prime"] [] := T.F_power_of.binds fun _ _ _ _ _ _ us hl => match us, hl with | [_, _, _], _ => rfl
theorem e_power_of : ∀ E, DSs (FnX G 1 ["base", "exponent", "prime", "result", "square", "left"] "power_of" (defScope s_power_of) T.f_power_of E) G (fun _ => E) (defBody s_power_of) (c_power_of G) := fun E => by
  have F := fnX_fam (G := G) (k := 1) (qual := "power_of") (f := T.f_power_of) sc_power_of E
  exact (dss_cons (ds_par3 F (i := 3) (j := 4) (l := 5) (fun _ => rfl) (fun _ => rfl) (fun _ => rfl) (by decide) (by decide) (by decide) (fun _ => rfl) (fun _ => rfl) (fun _ => rfl) de_int (de_op (fun _ => op_mod) snd_mod (de_var (i := 0) (fun _ => rfl) (fun _ => .inl rfl) (by decide) (by decide)) (de_var (i := 2) (fun _ => rfl) (fun _ => .inl rfl) (by decide) (by decide))) (de_var (i := 1) (fun _ => rfl) (fun _ => .inl rfl) (by decide) (by decide)) (fun _ => rfl) (fun _ => rfl) (fun _ => rfl) (fun _ => rfl) (fun _ => rfl))
  (dss_cons (ds_while (dt_cmp (fun _ => op_gt) (snd_cmp _) (de_var (i := 5) (fun _ => rfl) (fun _ => .inl rfl) (by decide) (by decide)) de_int rfl) (dss_cons (ds_if (dt_cmp (eqD_at F.toFamH) snd_eq (de_op (fun _ => op_mod) snd_mod (de_var (i := 5) (fun _ => rfl) (fun _ => .inl rfl) (by decide) (by decide)) de_int) de_int rfl) (dss_one (ds_set F.toFamH (i := 3) (fun _ => rfl) (fun _ => .inl rfl) (fun _ => .inr rfl) (de_op (fun _ => op_mod) snd_mod (de_op (fun _ => op_mulU) (snd_mul false) (de_var (i := 3) (fun _ => rfl) (fun _ => .inl rfl) (by decide) (by decide)) (de_var (i := 4) (fun _ => rfl) (fun _ => .inl rfl) (by decide) (by decide))) (de_var (i := 2) (fun _ => rfl) (fun _ => .inl rfl) (by decide) (by decide))) (fun _ => rfl))) dss_nil)
  (dss_cons (ds_set F.toFamH (i := 4) (fun _ => rfl) (fun _ => .inl rfl) (fun _ => .inr rfl) (de_op (fun _ => op_mod) snd_mod (de_op (fun _ => op_mulU) (snd_mul false) (de_var (i := 4) (fun _ => rfl) (fun _ => .inl rfl) (by decide) (by decide)) (de_var (i := 4) (fun _ => rfl) (fun _ => .inl rfl) (by decide) (by decide))) (de_var (i := 2) (fun _ => rfl) (fun _ => .inl rfl) (by decide) (by decide))) (fun _ => rfl))
  (dss_one (ds_aug F.toFamH (i := 5) (fun _ => rfl) (fun _ => .inl rfl) (fun _ => .inr rfl) (fun _ => iop_fdivW) snd_fdiv de_int (fun j te h => ps_aug (F.nd j) rfl (.inl rfl) h iop_fdivW (.inr rfl)))))) owns_fn)
  (dss_one (ds_ret (de_callP F T.P_reduced_modulo (by decide) (da_cons (de_var (i := 3) (fun _ => rfl) (fun _ => .inl rfl) (by decide) (by decide)) (da_cons (de_var (i := 2) (fun _ => rfl) (fun _ => .inl rfl) (by decide) (by decide)) da_nil (fun _ => rfl)) (fun _ => rfl)) (fun _ => rfl) T.g_reduced_modulo T.k_reduced_modulo (by decide) (fun _ => rfl) (fun _ => rfl))))))
theorem B_power_of : FnB G 2 T.f_power_of T.d_power_of ["base", "exponent", "prime"] (m_power_of G) := FnB.of T.F_power_of sc_power_of T.e_power_of
theorem P_power_of : FnP G 2 T.f_power_of (mp_power_of G) := T.B_power_of.pos T.b_power_of
theorem k_is_probable : PySem.W.keepIn G.K (.ref T.f_is_probable) = true := T.F_is_probable.kp
theorem b_is_probable : Binds G.K T.d_is_probable ["number", "base"] [] := T.F_is_probable.binds fun _ _ _ _ _ _ us hl => match us, hl with | [_, _], _ => rfl
theorem e_is_probable : ∀ E, DSs (FnX G 2 ["number", "base", "odd", "twos", "power", "turn"] "is_probable" (defScope s_is_probable) T.f_is_probable E) G (fun _ => E) (defBody s_is_probable) (c_is_probable G) := fun E => by
  have F := fnX_fam (G := G) (k := 2) (qual := "is_probable") (f := T.f_is_probable) sc_is_probable E
  exact (dss_cons (ds_par F (i := 2) (j := 3) (fun _ => rfl) (fun _ => rfl) (by decide) (fun _ => rfl) (fun _ => rfl) (de_op (fun _ => op_sub) snd_sub (de_var (i := 0) (fun _ => rfl) (fun _ => .inl rfl) (by decide) (by decide)) de_int) de_int (fun _ => rfl) (fun _ => rfl) (fun _ => rfl) (fun _ => rfl))
  (dss_cons (ds_while (dt_cmp (eqD_at F.toFamH) snd_eq (de_op (fun _ => op_mod) snd_mod (de_var (i := 2) (fun _ => rfl) (fun _ => .inl rfl) (by decide) (by decide)) de_int) de_int rfl) (dss_one (ds_par F (i := 2) (j := 3) (fun _ => rfl) (fun _ => rfl) (by decide) (fun _ => rfl) (fun _ => rfl) (de_op (fun _ => op_fdivW) snd_fdiv (de_var (i := 2) (fun _ => rfl) (fun _ => .inl rfl) (by decide) (by decide)) de_int) (de_op (fun _ => op_addU) (snd_add false) (de_var (i := 3) (fun _ => rfl) (fun _ => .inl rfl) (by decide) (by decide)) de_int) (fun _ => rfl) (fun _ => rfl) (fun _ => rfl) (fun _ => rfl))) owns_fn)
  (dss_cons (ds_set F.toFamH (i := 4) (fun _ => rfl) (fun _ => .inl rfl) (fun _ => .inr rfl) (de_callP F T.P_power_of (by decide) (da_cons (de_var (i := 1) (fun _ => rfl) (fun _ => .inl rfl) (by decide) (by decide)) (da_cons (de_var (i := 2) (fun _ => rfl) (fun _ => .inl rfl) (by decide) (by decide)) (da_cons (de_var (i := 0) (fun _ => rfl) (fun _ => .inl rfl) (by decide) (by decide)) da_nil (fun _ => rfl)) (fun _ => rfl)) (fun _ => rfl)) (fun _ => rfl) T.g_power_of T.k_power_of (by decide) (fun _ => rfl) (fun _ => rfl)) (fun _ => rfl))
  (dss_cons (ds_if (dt_cmp (fun _ => op_in_seq) (snd_in false) (de_var (i := 4) (fun _ => rfl) (fun _ => .inl rfl) (by decide) (by decide)) (de_tup (da_cons de_int (da_cons (de_un (fun _ => un_neg) snd_neg de_int) da_nil (fun _ => rfl)) (fun _ => rfl))) rfl) (dss_one (ds_ret de_bl)) dss_nil)
  (dss_cons (ds_for F (di_rng1 F.toFamH (da_cons (de_op (fun _ => op_sub) snd_sub (de_var (i := 3) (fun _ => rfl) (fun _ => .inl rfl) (by decide) (by decide)) de_int) da_nil (fun _ => rfl)) (fun _ => rfl) T.z_range (fun _ => rfl)) (dg_name F.toFamH (i := 5) (fun _ => rfl) (fun _ => .inl rfl) (fun _ => .inr rfl)) (dss_cons (ds_set F.toFamH (i := 4) (fun _ => rfl) (fun _ => .inl rfl) (fun _ => .inr rfl) (de_callP F T.P_reduced_modulo (by decide) (da_cons (de_op (fun _ => op_mulU) (snd_mul false) (de_var (i := 4) (fun _ => rfl) (fun _ => .inl rfl) (by decide) (by decide)) (de_var (i := 4) (fun _ => rfl) (fun _ => .inl rfl) (by decide) (by decide))) (da_cons (de_var (i := 0) (fun _ => rfl) (fun _ => .inl rfl) (by decide) (by decide)) da_nil (fun _ => rfl)) (fun _ => rfl)) (fun _ => rfl) T.g_reduced_modulo T.k_reduced_modulo (by decide) (fun _ => rfl) (fun _ => rfl)) (fun _ => rfl))
  (dss_one (ds_if (dt_cmp (eqD_at F.toFamH) snd_eq (de_var (i := 4) (fun _ => rfl) (fun _ => .inl rfl) (by decide) (by decide)) (de_un (fun _ => un_neg) snd_neg de_int) rfl) (dss_one (ds_ret de_bl)) dss_nil))) owns_fn (fun _ _ => rfl))
  (dss_one (ds_ret de_bl)))))))
theorem B_is_probable : FnB G 3 T.f_is_probable T.d_is_probable ["number", "base"] (m_is_probable G) := FnB.of T.F_is_probable sc_is_probable T.e_is_probable
theorem P_is_probable : FnP G 3 T.f_is_probable (mp_is_probable G) := T.B_is_probable.pos T.b_is_probable
theorem k_is_odd_prime : PySem.W.keepIn G.K (.ref T.f_is_odd_prime) = true := T.F_is_odd_prime.kp
theorem b_is_odd_prime : Binds G.K T.d_is_odd_prime ["number"] [] := T.F_is_odd_prime.binds fun _ _ _ _ _ _ us hl => match us, hl with | [_], _ => rfl
theorem e_is_odd_prime : ∀ E, DSs (FnX G 3 ["number", "base"] "is_odd_prime" (defScope s_is_odd_prime) T.f_is_odd_prime E) G (fun _ => E) (defBody s_is_odd_prime) (c_is_odd_prime G) := fun E => by
  have F := fnX_fam (G := G) (k := 3) (qual := "is_odd_prime") (f := T.f_is_odd_prime) sc_is_odd_prime E
  exact (dss_cons (ds_for F (di_seq F.toFamH (T.c_BASES F (fun _ => rfl))) (dg_name F.toFamH (i := 1) (fun _ => rfl) (fun _ => .inl rfl) (fun _ => .inr rfl)) (dss_one (ds_if (dt_cmp (eqD_at F.toFamH) snd_eq (de_op (fun _ => op_mod) snd_mod (de_var (i := 0) (fun _ => rfl) (fun _ => .inr (.inl rfl)) (by decide) (by decide)) (de_var (i := 1) (fun _ => rfl) (fun _ => .inl rfl) (by decide) (by decide))) de_int rfl) (dss_one (ds_ret (de_cmp (eqD_at F.toFamH) snd_eq (de_var (i := 0) (fun _ => rfl) (fun _ => .inr (.inl rfl)) (by decide) (by decide)) (de_var (i := 1) (fun _ => rfl) (fun _ => .inl rfl) (by decide) (by decide)) rfl))) dss_nil)) owns_fn (fun _ _ => rfl))
  (dss_one (ds_ret (de_callB F.toFamH (cr_allC F) snd_all (da_cons (de_lc F (own := [("base", 1)]) (di_seq F.toFamH (T.c_BASES F (fun _ => rfl))) (fun _ => blkOk_by (by kernel_rfl)) (dg_name (F.blk _).toFamH (i := 1) (fun _ => rfl) (fun _ => .inl rfl) (fun _ => .inr rfl)) dts_nil (de_callP (F.blk _) T.P_is_probable (by decide) (da_cons (de_var (i := 0) (fun _ => rfl) (fun _ => .inr (.inl rfl)) (by decide) (by decide)) (da_cons (de_var (i := 1) (fun _ => rfl) (fun _ => .inl rfl) (by decide) (by decide)) da_nil (fun _ => rfl)) (fun _ => rfl)) (fun _ => rfl) T.g_is_probable T.k_is_probable (by decide) (fun _ => rfl) (fun _ => rfl)) (by decide) (fun _ _ => rfl)) da_nil (fun _ => rfl)) (fun _ => rfl) T.z_all rfl (by decide) (by decide) (fun _ => rfl) (fun _ => rfl)))))
theorem B_is_odd_prime : FnB G 4 T.f_is_odd_prime T.d_is_odd_prime ["number"] (m_is_odd_prime G) := FnB.of T.F_is_odd_prime sc_is_odd_prime T.e_is_odd_prime
theorem P_is_odd_prime : FnP G 4 T.f_is_odd_prime (mp_is_odd_prime G) := T.B_is_odd_prime.pos T.b_is_odd_prime
theorem k_Scheme_is_prime : PySem.W.keepIn G.K (.ref T.f_Scheme_is_prime) = true := T.F_Scheme_is_prime.kp
theorem b_Scheme_is_prime : Binds G.K T.d_Scheme_is_prime ["value"] [] := T.F_Scheme_is_prime.binds fun _ _ _ _ _ _ us hl => match us, hl with | [_], _ => rfl
theorem e_Scheme_is_prime : ∀ E, DSs (FnX G 4 ["value"] "Scheme.is_prime" (defScope s_Scheme_is_prime) T.f_Scheme_is_prime E) G (fun _ => E) (defBody s_Scheme_is_prime) (c_Scheme_is_prime G) := fun E => by
  have F := fnX_fam (G := G) (k := 4) (qual := "Scheme.is_prime") (f := T.f_Scheme_is_prime) sc_Scheme_is_prime E
  exact (dss_one (ds_ret (de_and (de_callP F T.P_is_between (by decide) (da_cons (de_var (i := 0) (fun _ => rfl) (fun _ => .inl rfl) (by decide) (by decide)) (da_cons de_int (da_cons (de_cval F.toFamH T.rd_Scheme T.v_Scheme_LARGEST_PRIME (fun _ _ _ => .int _) (de_con F.toFamH (fun _ => rfl) T.g_Scheme (by decide)) (fun _ => rfl)) da_nil (fun _ => rfl)) (fun _ => rfl)) (fun _ => rfl)) (fun _ => rfl) T.g_is_between T.k_is_between (by decide) (fun _ => rfl) (fun _ => rfl)) (de_one (de_callP F T.P_is_odd_prime (by decide) (da_cons (de_var (i := 0) (fun _ => rfl) (fun _ => .inl rfl) (by decide) (by decide)) da_nil (fun _ => rfl)) (fun _ => rfl) T.g_is_odd_prime T.k_is_odd_prime (by decide) (fun _ => rfl) (fun _ => rfl))))))
theorem B_Scheme_is_prime : FnB G 5 T.f_Scheme_is_prime T.d_Scheme_is_prime ["value"] (m_Scheme_is_prime G) := FnB.of T.F_Scheme_is_prime sc_Scheme_is_prime T.e_Scheme_is_prime
theorem P_Scheme_is_prime : FnP G 5 T.f_Scheme_is_prime (mp_Scheme_is_prime G) := T.B_Scheme_is_prime.pos T.b_Scheme_is_prime
theorem k_Scheme__init_ : PySem.W.keepIn G.K (.ref T.f_Scheme__init_) = true := T.F_Scheme__init_.kp
theorem b_Scheme__init_ : Binds G.K T.d_Scheme__init_ ["self", "prime", "accounts", "length"] [] := T.F_Scheme__init_.binds fun _ _ _ _ _ _ us hl => match us, hl with | [_, _, _, _], _ => rfl
theorem e_Scheme__init_ : ∀ E, DSs (FnX G 5 ["self", "prime", "accounts", "length"] "Scheme.__init__" (defScope s_Scheme__init_) T.f_Scheme__init_ E) G (fun _ => E) (defBody s_Scheme__init_) (c_Scheme__init_ G) := fun E => by
  have F := fnX_fam (G := G) (k := 5) (qual := "Scheme.__init__") (f := T.f_Scheme__init_) sc_Scheme__init_ E
  exact (dss_cons (ds_if (dt_not (dt_val (de_smeth F T.P_Scheme_is_prime (by decide) T.rd_Scheme T.st_Scheme_is_prime (de_con F.toFamH (fun _ => rfl) T.g_Scheme (by decide)) (da_cons (de_var (i := 1) (fun _ => rfl) (fun _ => .inl rfl) (by decide) (by decide)) da_nil (fun _ => rfl)) (fun _ => rfl) (fun _ => rfl) (fun _ => rfl)) (fun _ _ => rfl))) (dss_one ds_never) dss_nil)
  (dss_cons (ds_if (dt_w (dw_or (dt_not (dt_val (de_callP F T.P_is_between (by decide) (da_cons (de_var (i := 2) (fun _ => rfl) (fun _ => .inl rfl) (by decide) (by decide)) (da_cons (T.c_LEAST_ACCOUNTS F (fun _ => rfl)) (da_cons (de_cval F.toFamH T.rd_Scheme T.v_Scheme_MOST_ACCOUNTS (fun _ _ _ => .int _) (de_con F.toFamH (fun _ => rfl) T.g_Scheme (by decide)) (fun _ => rfl)) da_nil (fun _ => rfl)) (fun _ => rfl)) (fun _ => rfl)) (fun _ => rfl) T.g_is_between T.k_is_between (by decide) (fun _ => rfl) (fun _ => rfl)) (fun _ _ => rfl))) (dw_or1 (dt_cmp (fun _ => op_ge) (snd_cmp _) (de_op (fun _ => op_mulU) (snd_mul false) (de_var (i := 2) (fun _ => rfl) (fun _ => .inl rfl) (by decide) (by decide)) (de_var (i := 2) (fun _ => rfl) (fun _ => .inl rfl) (by decide) (by decide))) (de_var (i := 1) (fun _ => rfl) (fun _ => .inl rfl) (by decide) (by decide)) rfl) rfl))) (dss_one ds_never) dss_nil)
  (dss_cons (ds_if (dt_not (dt_val (de_callP F T.P_is_between (by decide) (da_cons (de_var (i := 3) (fun _ => rfl) (fun _ => .inl rfl) (by decide) (by decide)) (da_cons de_int (da_cons (de_cval F.toFamH T.rd_Scheme T.v_Scheme_MOST_NUMBERS (fun _ _ _ => .int _) (de_con F.toFamH (fun _ => rfl) T.g_Scheme (by decide)) (fun _ => rfl)) da_nil (fun _ => rfl)) (fun _ => rfl)) (fun _ => rfl)) (fun _ => rfl) T.g_is_between T.k_is_between (by decide) (fun _ => rfl) (fun _ => rfl)) (fun _ _ => rfl))) (dss_one ds_never) dss_nil)
  (dss_cons (ds_fld F.toFamH (c := 0) (i := 0) T.cl_Scheme T.n_Scheme_prime_used (by rw [T.fn_Scheme]; rfl) (by rw [T.fn_Scheme]; decide +kernel) (de_var (i := 1) (fun _ => rfl) (fun _ => .inl rfl) (by decide) (by decide)) (de_var (i := 0) (fun _ => rfl) (fun _ => .inl rfl) (by decide) (by decide)) (fun _ => rfl))
  (dss_cons (ds_fld F.toFamH (c := 0) (i := 1) T.cl_Scheme T.n_Scheme_accounts_used (by rw [T.fn_Scheme]; rfl) (by rw [T.fn_Scheme]; decide +kernel) (de_var (i := 2) (fun _ => rfl) (fun _ => .inl rfl) (by decide) (by decide)) (de_var (i := 0) (fun _ => rfl) (fun _ => .inl rfl) (by decide) (by decide)) (fun _ => rfl))
  (dss_one (ds_fld F.toFamH (c := 0) (i := 2) T.cl_Scheme T.n_Scheme_length_used (by rw [T.fn_Scheme]; rfl) (by rw [T.fn_Scheme]; decide +kernel) (de_var (i := 3) (fun _ => rfl) (fun _ => .inl rfl) (by decide) (by decide)) (de_var (i := 0) (fun _ => rfl) (fun _ => .inl rfl) (by decide) (by decide)) (fun _ => rfl))))))))
theorem B_Scheme__init_ : FnB G 6 T.f_Scheme__init_ T.d_Scheme__init_ ["self", "prime", "accounts", "length"] (m_Scheme__init_ G) := FnB.of T.F_Scheme__init_ sc_Scheme__init_ T.e_Scheme__init_
theorem P_Scheme__init_ : FnP G 6 T.f_Scheme__init_ (mp_Scheme__init_ G) := T.B_Scheme__init_.pos T.b_Scheme__init_
theorem k__law_scheme : PySem.W.keepIn G.K (.ref T.f__law_scheme) = true := T.F__law_scheme.kp
theorem b__law_scheme : Binds G.K T.d__law_scheme ["_law_source_here", "_law_top", "_law_longest"] [] := T.F__law_scheme.binds fun _ _ _ _ _ _ us hl => match us, hl with | [_, _, _], _ => rfl
theorem e__law_scheme : ∀ E, DSs (FnX G 7 ["_law_source_here", "_law_top", "_law_longest", "_law_least", "_law_many", "_law_p"] "_law_scheme" (defScope s__law_scheme) T.f__law_scheme E) G (fun _ => E) (defBody s__law_scheme) (c__law_scheme G) := fun E => by
  have F := fnX_fam (G := G) (k := 7) (qual := "_law_scheme") (f := T.f__law_scheme) sc__law_scheme E
  exact (dss_cons (ds_set F.toFamH (i := 3) (fun _ => rfl) (fun _ => .inl rfl) (fun _ => .inr rfl) (de_lst false (da_cons de_int (da_cons de_int (da_cons de_int (da_cons de_int (da_cons de_int (da_cons de_int (da_cons de_int (da_cons de_int (da_cons de_int (da_cons de_int (da_cons de_int (da_cons de_int (da_cons de_int (da_cons de_int (da_cons de_int (da_cons de_int (da_cons de_int (da_cons de_int (da_cons de_int (da_cons de_int (da_cons de_int (da_cons de_int (da_cons de_int da_nil (fun _ => rfl)) (fun _ => rfl)) (fun _ => rfl)) (fun _ => rfl)) (fun _ => rfl)) (fun _ => rfl)) (fun _ => rfl)) (fun _ => rfl)) (fun _ => rfl)) (fun _ => rfl)) (fun _ => rfl)) (fun _ => rfl)) (fun _ => rfl)) (fun _ => rfl)) (fun _ => rfl)) (fun _ => rfl)) (fun _ => rfl)) (fun _ => rfl)) (fun _ => rfl)) (fun _ => rfl)) (fun _ => rfl)) (fun _ => rfl)) (fun _ => rfl))) (fun _ => rfl))
  (dss_cons (ds_set F.toFamH (i := 4) (fun _ => rfl) (fun _ => .inl rfl) (fun _ => .inr rfl) (de_op (fun _ => op_addU) (snd_add false) de_int (de_callP F T.P__law_draw (by decide) (da_cons (de_var (i := 0) (fun _ => rfl) (fun _ => .inl rfl) (by decide) (by decide)) (da_cons (de_op (fun _ => op_sub) snd_sub (de_var (i := 1) (fun _ => rfl) (fun _ => .inl rfl) (by decide) (by decide)) de_int) da_nil (fun _ => rfl)) (fun _ => rfl)) (fun _ => rfl) T.g__law_draw T.k__law_draw (by decide) (fun _ => rfl) (fun _ => rfl))) (fun _ => rfl))
  (dss_cons (ds_set F.toFamH (i := 5) (fun _ => rfl) (fun _ => .inl rfl) (fun _ => .inr rfl) (de_callP F T.P__law_choose (by decide) (da_cons (de_var (i := 0) (fun _ => rfl) (fun _ => .inl rfl) (by decide) (by decide)) (da_cons (de_lst false (da_cons (de_ix F.toFamH (de_var (i := 3) (fun _ => rfl) (fun _ => .inl rfl) (by decide) (by decide)) (de_op (fun _ => op_sub) snd_sub (de_var (i := 4) (fun _ => rfl) (fun _ => .inl rfl) (by decide) (by decide)) de_int) (fun _ _ => rfl)) (da_cons (de_ix F.toFamH (de_var (i := 3) (fun _ => rfl) (fun _ => .inl rfl) (by decide) (by decide)) (de_op (fun _ => op_sub) snd_sub (de_var (i := 4) (fun _ => rfl) (fun _ => .inl rfl) (by decide) (by decide)) de_int) (fun _ _ => rfl)) (da_cons de_int (da_cons de_int (da_cons de_int da_nil (fun _ => rfl)) (fun _ => rfl)) (fun _ => rfl)) (fun _ => rfl)) (fun _ => rfl))) da_nil (fun _ => rfl)) (fun _ => rfl)) (fun _ => rfl) T.g__law_choose T.k__law_choose (by decide) (fun _ => rfl) (fun _ => rfl)) (fun _ => rfl))
  (dss_one (ds_ret (de_make false F T.P_Scheme__init_ (by decide) (c := 0) T.mk_Scheme (da_cons (de_var (i := 5) (fun _ => rfl) (fun _ => .inl rfl) (by decide) (by decide)) (da_cons (de_var (i := 4) (fun _ => rfl) (fun _ => .inl rfl) (by decide) (by decide)) (da_cons (de_op (fun _ => op_addU) (snd_add false) de_int (de_callP F T.P__law_draw (by decide) (da_cons (de_var (i := 0) (fun _ => rfl) (fun _ => .inl rfl) (by decide) (by decide)) (da_cons (de_var (i := 2) (fun _ => rfl) (fun _ => .inl rfl) (by decide) (by decide)) da_nil (fun _ => rfl)) (fun _ => rfl)) (fun _ => rfl) T.g__law_draw T.k__law_draw (by decide) (fun _ => rfl) (fun _ => rfl))) da_nil (fun _ => rfl)) (fun _ => rfl)) (fun _ => rfl)) (fun _ => rfl) T.g_Scheme (by decide) (fun _ => rfl) (fun _ => rfl)))))))
theorem B__law_scheme : FnB G 8 T.f__law_scheme T.d__law_scheme ["_law_source_here", "_law_top", "_law_longest"] (m__law_scheme G) := FnB.of T.F__law_scheme sc__law_scheme T.e__law_scheme
theorem P__law_scheme : FnP G 8 T.f__law_scheme (mp__law_scheme G) := T.B__law_scheme.pos T.b__law_scheme
theorem k_Scheme_accounts : PySem.W.keepIn G.K (.ref T.f_Scheme_accounts) = true := T.F_Scheme_accounts.kp
theorem b_Scheme_accounts : Binds G.K T.d_Scheme_accounts ["self"] [] := T.F_Scheme_accounts.binds fun _ _ _ _ _ _ us hl => match us, hl with | [_], _ => rfl
theorem e_Scheme_accounts : ∀ E, DSs (FnX G 0 ["self"] "Scheme.accounts" (defScope s_Scheme_accounts) T.f_Scheme_accounts E) G (fun _ => E) (defBody s_Scheme_accounts) (c_Scheme_accounts G) := fun E => by
  have F := fnX_fam (G := G) (k := 0) (qual := "Scheme.accounts") (f := T.f_Scheme_accounts) sc_Scheme_accounts E
  exact (dss_one (ds_ret (de_fld F.toFamH (i := 1) T.cl_Scheme T.n_Scheme_accounts_used (by rw [T.fn_Scheme]; rfl) (by rw [T.fn_Scheme]; decide +kernel) (fun _ => rfl) (de_var (i := 0) (fun _ => rfl) (fun _ => .inl rfl) (by decide) (by decide)))))
theorem B_Scheme_accounts : FnB G 1 T.f_Scheme_accounts T.d_Scheme_accounts ["self"] (m_Scheme_accounts G) := FnB.of T.F_Scheme_accounts sc_Scheme_accounts T.e_Scheme_accounts
theorem P_Scheme_accounts : FnP G 1 T.f_Scheme_accounts (mp_Scheme_accounts G) := T.B_Scheme_accounts.pos T.b_Scheme_accounts
theorem k__law_all_pairs : PySem.W.keepIn G.K (.ref T.f__law_all_pairs) = true := T.F__law_all_pairs.kp
theorem b__law_all_pairs : Binds G.K T.d__law_all_pairs ["_law_area"] [] := T.F__law_all_pairs.binds fun _ _ _ _ _ _ us hl => match us, hl with | [_], _ => rfl
theorem e__law_all_pairs : ∀ E, DSs (FnX G 2 ["_law_area", "_law_found", "_law_upper", "_law_lower"] "_law_all_pairs" (defScope s__law_all_pairs) T.f__law_all_pairs E) G (fun _ => E) (defBody s__law_all_pairs) (c__law_all_pairs G) := fun E => by
  have F := fnX_fam (G := G) (k := 2) (qual := "_law_all_pairs") (f := T.f__law_all_pairs) sc__law_all_pairs E
  exact (dss_cons (ds_set F.toFamH (i := 1) (fun _ => rfl) (fun _ => .inl rfl) (fun _ => .inr rfl) (de_lst true da_nil) (fun _ => rfl))
  (dss_cons (ds_for F (di_rng1 F.toFamH (da_cons (de_prop F (T.B_Scheme_accounts) (by decide) T.cl_Scheme T.p_Scheme_accounts T.b_Scheme_accounts rfl (fun _ => rfl) (de_var (i := 0) (fun _ => rfl) (fun _ => .inl rfl) (by decide) (by decide))) da_nil (fun _ => rfl)) (fun _ => rfl) T.z_range (fun _ => rfl)) (dg_name F.toFamH (i := 2) (fun _ => rfl) (fun _ => .inr rfl) (fun _ => .inl rfl)) (dss_one (ds_expr (de_meth F.toFamH PySem.F.plainAttrs_list PySem.F.slot_list_extend PySem.F.type_list_extend (fun _ => mt_extend) snd_extend (fun _ _ _ _ _ R r h => isL_ty R r h) (de_var (i := 1) (fun _ => rfl) (fun _ => .inl rfl) (by decide) (by decide)) (da_cons (de_lc F (own := [("_law_lower", 3)]) (di_rng1 F.toFamH (da_cons (de_var (i := 2) (fun _ => rfl) (fun _ => .inr (.inl rfl)) (by decide) (by decide)) da_nil (fun _ => rfl)) (fun _ => rfl) T.z_range (fun _ => rfl)) (fun _ => blkOk_by (by kernel_rfl)) (dg_name (F.blk _).toFamH (i := 3) (fun _ => rfl) (fun _ => .inl rfl) (fun _ => .inr rfl)) dts_nil (de_tup (da_cons (de_var (i := 3) (fun _ => rfl) (fun _ => .inl rfl) (by decide) (by decide)) (da_cons (de_var (i := 2) (fun _ => rfl) (fun _ => .inr (.inl rfl)) (by decide) (by decide)) da_nil (fun _ => rfl)) (fun _ => rfl))) (by decide) (fun _ _ => rfl)) da_nil (fun _ => rfl)) (fun _ => rfl) (fun _ => rfl) rfl (fun _ => rfl) (fun _ => rfl)) (fun _ => rfl))) owns_fn (fun _ _ => rfl))
  (dss_one (ds_ret (de_callB F.toFamH (cr_sortC F) (snd_sorted false) (da_cons (de_var (i := 1) (fun _ => rfl) (fun _ => .inl rfl) (by decide) (by decide)) da_nil (fun _ => rfl)) (fun _ => rfl) T.z_sorted rfl (by decide) (by decide) (fun _ => rfl) (fun _ => rfl))))))
theorem B__law_all_pairs : FnB G 3 T.f__law_all_pairs T.d__law_all_pairs ["_law_area"] (m__law_all_pairs G) := FnB.of T.F__law_all_pairs sc__law_all_pairs T.e__law_all_pairs
theorem P__law_all_pairs : FnP G 3 T.f__law_all_pairs (mp__law_all_pairs G) := T.B__law_all_pairs.pos T.b__law_all_pairs
theorem k_Scheme_prime : PySem.W.keepIn G.K (.ref T.f_Scheme_prime) = true := T.F_Scheme_prime.kp
theorem b_Scheme_prime : Binds G.K T.d_Scheme_prime ["self"] [] := T.F_Scheme_prime.binds fun _ _ _ _ _ _ us hl => match us, hl with | [_], _ => rfl
theorem e_Scheme_prime : ∀ E, DSs (FnX G 0 ["self"] "Scheme.prime" (defScope s_Scheme_prime) T.f_Scheme_prime E) G (fun _ => E) (defBody s_Scheme_prime) (c_Scheme_prime G) := fun E => by
  have F := fnX_fam (G := G) (k := 0) (qual := "Scheme.prime") (f := T.f_Scheme_prime) sc_Scheme_prime E
  exact (dss_one (ds_ret (de_fld F.toFamH (i := 0) T.cl_Scheme T.n_Scheme_prime_used (by rw [T.fn_Scheme]; rfl) (by rw [T.fn_Scheme]; decide +kernel) (fun _ => rfl) (de_var (i := 0) (fun _ => rfl) (fun _ => .inl rfl) (by decide) (by decide)))))
theorem B_Scheme_prime : FnB G 1 T.f_Scheme_prime T.d_Scheme_prime ["self"] (m_Scheme_prime G) := FnB.of T.F_Scheme_prime sc_Scheme_prime T.e_Scheme_prime
theorem P_Scheme_prime : FnP G 1 T.f_Scheme_prime (mp_Scheme_prime G) := T.B_Scheme_prime.pos T.b_Scheme_prime
theorem k__law_amount : PySem.W.keepIn G.K (.ref T.f__law_amount) = true := T.F__law_amount.kp
theorem b__law_amount : Binds G.K T.d__law_amount ["_law_source_here", "_law_area"] [] := T.F__law_amount.binds fun _ _ _ _ _ _ us hl => match us, hl with | [_, _], _ => rfl
theorem e__law_amount : ∀ E, DSs (FnX G 2 ["_law_source_here", "_law_area", "_law_half", "_law_size"] "_law_amount" (defScope s__law_amount) T.f__law_amount E) G (fun _ => E) (defBody s__law_amount) (c__law_amount G) := fun E => by
  have F := fnX_fam (G := G) (k := 2) (qual := "_law_amount") (f := T.f__law_amount) sc__law_amount E
  exact (dss_cons (ds_set F.toFamH (i := 2) (fun _ => rfl) (fun _ => .inl rfl) (fun _ => .inr rfl) (de_op (fun _ => op_fdivW) snd_fdiv (de_prop F (T.B_Scheme_prime) (by decide) T.cl_Scheme T.p_Scheme_prime T.b_Scheme_prime rfl (fun _ => rfl) (de_var (i := 1) (fun _ => rfl) (fun _ => .inl rfl) (by decide) (by decide))) de_int) (fun _ => rfl))
  (dss_cons (ds_set F.toFamH (i := 3) (fun _ => rfl) (fun _ => .inl rfl) (fun _ => .inr rfl) (de_callP F T.P__law_choose (by decide) (da_cons (de_var (i := 0) (fun _ => rfl) (fun _ => .inl rfl) (by decide) (by decide)) (da_cons (de_lst false (da_cons de_int (da_cons (de_var (i := 2) (fun _ => rfl) (fun _ => .inl rfl) (by decide) (by decide)) (da_cons (de_op (fun _ => op_addU) (snd_add false) de_int (de_callP F T.P__law_draw (by decide) (da_cons (de_var (i := 0) (fun _ => rfl) (fun _ => .inl rfl) (by decide) (by decide)) (da_cons (de_var (i := 2) (fun _ => rfl) (fun _ => .inl rfl) (by decide) (by decide)) da_nil (fun _ => rfl)) (fun _ => rfl)) (fun _ => rfl) T.g__law_draw T.k__law_draw (by decide) (fun _ => rfl) (fun _ => rfl))) da_nil (fun _ => rfl)) (fun _ => rfl)) (fun _ => rfl))) da_nil (fun _ => rfl)) (fun _ => rfl)) (fun _ => rfl) T.g__law_choose T.k__law_choose (by decide) (fun _ => rfl) (fun _ => rfl)) (fun _ => rfl))
  (dss_one (ds_ret (de_callP F T.P__law_choose (by decide) (da_cons (de_var (i := 0) (fun _ => rfl) (fun _ => .inl rfl) (by decide) (by decide)) (da_cons (de_lst false (da_cons (de_var (i := 3) (fun _ => rfl) (fun _ => .inl rfl) (by decide) (by decide)) (da_cons (de_op (fun _ => op_sub) snd_sub de_int (de_var (i := 3) (fun _ => rfl) (fun _ => .inl rfl) (by decide) (by decide))) da_nil (fun _ => rfl)) (fun _ => rfl))) da_nil (fun _ => rfl)) (fun _ => rfl)) (fun _ => rfl) T.g__law_choose T.k__law_choose (by decide) (fun _ => rfl) (fun _ => rfl))))))
theorem B__law_amount : FnB G 3 T.f__law_amount T.d__law_amount ["_law_source_here", "_law_area"] (m__law_amount G) := FnB.of T.F__law_amount sc__law_amount T.e__law_amount
theorem P__law_amount : FnP G 3 T.f__law_amount (mp__law_amount G) := T.B__law_amount.pos T.b__law_amount
theorem k__law_table : PySem.W.keepIn G.K (.ref T.f__law_table) = true := T.F__law_table.kp
theorem b__law_table : Binds G.K T.d__law_table ["_law_source_here", "_law_area"] [] := T.F__law_table.binds fun _ _ _ _ _ _ us hl => match us, hl with | [_, _], _ => rfl
theorem e__law_table : ∀ E, DSs (FnX G 3 ["_law_source_here", "_law_area", "_law_rare", "_law_found", "_law_pair"] "_law_table" (defScope s__law_table) T.f__law_table E) G (fun _ => E) (defBody s__law_table) (c__law_table G) := fun E => by
  have F := fnX_fam (G := G) (k := 3) (qual := "_law_table") (f := T.f__law_table) sc__law_table E
  exact (dss_cons (ds_par F (i := 2) (j := 3) (fun _ => rfl) (fun _ => rfl) (by decide) (fun _ => rfl) (fun _ => rfl) (de_op (fun _ => op_addU) (snd_add false) de_int (de_callP F T.P__law_draw (by decide) (da_cons (de_var (i := 0) (fun _ => rfl) (fun _ => .inl rfl) (by decide) (by decide)) (da_cons de_int da_nil (fun _ => rfl)) (fun _ => rfl)) (fun _ => rfl) T.g__law_draw T.k__law_draw (by decide) (fun _ => rfl) (fun _ => rfl))) (de_lst true da_nil) (fun _ => rfl) (fun _ => rfl) (fun _ => rfl) (fun _ => rfl))
  (dss_cons (ds_for F (di_seq F.toFamH (de_callP F T.P__law_all_pairs (by decide) (da_cons (de_var (i := 1) (fun _ => rfl) (fun _ => .inl rfl) (by decide) (by decide)) da_nil (fun _ => rfl)) (fun _ => rfl) T.g__law_all_pairs T.k__law_all_pairs (by decide) (fun _ => rfl) (fun _ => rfl))) (dg_name F.toFamH (i := 4) (fun _ => rfl) (fun _ => .inl rfl) (fun _ => .inr rfl)) (dss_one (ds_if (dt_cmp (eqD_at F.toFamH) snd_eq (de_callP F T.P__law_draw (by decide) (da_cons (de_var (i := 0) (fun _ => rfl) (fun _ => .inl rfl) (by decide) (by decide)) (da_cons (de_var (i := 2) (fun _ => rfl) (fun _ => .inl rfl) (by decide) (by decide)) da_nil (fun _ => rfl)) (fun _ => rfl)) (fun _ => rfl) T.g__law_draw T.k__law_draw (by decide) (fun _ => rfl) (fun _ => rfl)) de_int rfl) (dss_one (ds_expr (de_meth F.toFamH PySem.F.plainAttrs_list PySem.F.slot_list_append PySem.F.type_list_append (fun _ => mt_append) snd_append (fun _ _ _ _ _ R r h => isL_ty R r h) (de_var (i := 3) (fun _ => rfl) (fun _ => .inl rfl) (by decide) (by decide)) (da_cons (de_tup (da_cons (de_var (i := 4) (fun _ => rfl) (fun _ => .inl rfl) (by decide) (by decide)) (da_cons (de_callP F T.P__law_amount (by decide) (da_cons (de_var (i := 0) (fun _ => rfl) (fun _ => .inl rfl) (by decide) (by decide)) (da_cons (de_var (i := 1) (fun _ => rfl) (fun _ => .inl rfl) (by decide) (by decide)) da_nil (fun _ => rfl)) (fun _ => rfl)) (fun _ => rfl) T.g__law_amount T.k__law_amount (by decide) (fun _ => rfl) (fun _ => rfl)) da_nil (fun _ => rfl)) (fun _ => rfl))) da_nil (fun _ => rfl)) (fun _ => rfl) (fun _ => rfl) rfl (fun _ => rfl) (fun _ => rfl)) (fun _ => rfl))) dss_nil)) owns_fn (fun _ _ => rfl))
  (dss_one (ds_ret (de_callTy F.toFamH (fun _ => call_tuple_of) snd_tuple (da_cons (de_var (i := 3) (fun _ => rfl) (fun _ => .inl rfl) (by decide) (by decide)) da_nil (fun _ => rfl)) (fun _ => rfl) T.z_tuple rfl (by decide) (by decide) (fun _ => rfl) (fun _ => rfl))))))
theorem B__law_table : FnB G 4 T.f__law_table T.d__law_table ["_law_source_here", "_law_area"] (m__law_table G) := FnB.of T.F__law_table sc__law_table T.e__law_table
theorem P__law_table : FnP G 4 T.f__law_table (mp__law_table G) := T.B__law_table.pos T.b__law_table
theorem k_Scheme_length : PySem.W.keepIn G.K (.ref T.f_Scheme_length) = true := T.F_Scheme_length.kp
theorem b_Scheme_length : Binds G.K T.d_Scheme_length ["self"] [] := T.F_Scheme_length.binds fun _ _ _ _ _ _ us hl => match us, hl with | [_], _ => rfl
theorem e_Scheme_length : ∀ E, DSs (FnX G 0 ["self"] "Scheme.length" (defScope s_Scheme_length) T.f_Scheme_length E) G (fun _ => E) (defBody s_Scheme_length) (c_Scheme_length G) := fun E => by
  have F := fnX_fam (G := G) (k := 0) (qual := "Scheme.length") (f := T.f_Scheme_length) sc_Scheme_length E
  exact (dss_one (ds_ret (de_fld F.toFamH (i := 2) T.cl_Scheme T.n_Scheme_length_used (by rw [T.fn_Scheme]; rfl) (by rw [T.fn_Scheme]; decide +kernel) (fun _ => rfl) (de_var (i := 0) (fun _ => rfl) (fun _ => .inl rfl) (by decide) (by decide)))))
theorem B_Scheme_length : FnB G 1 T.f_Scheme_length T.d_Scheme_length ["self"] (m_Scheme_length G) := FnB.of T.F_Scheme_length sc_Scheme_length T.e_Scheme_length
theorem P_Scheme_length : FnP G 1 T.f_Scheme_length (mp_Scheme_length G) := T.B_Scheme_length.pos T.b_Scheme_length
theorem k__law_reduced : PySem.W.keepIn G.K (.ref T.f__law_reduced) = true := T.F__law_reduced.kp
theorem b__law_reduced : Binds G.K T.d__law_reduced ["_law_total", "_law_area"] [] := T.F__law_reduced.binds fun _ _ _ _ _ _ us hl => match us, hl with | [_, _], _ => rfl
theorem e__law_reduced : ∀ E, DSs (FnX G 2 ["_law_total", "_law_area", "_law_rest"] "_law_reduced" (defScope s__law_reduced) T.f__law_reduced E) G (fun _ => E) (defBody s__law_reduced) (c__law_reduced G) := fun E => by
  have F := fnX_fam (G := G) (k := 2) (qual := "_law_reduced") (f := T.f__law_reduced) sc__law_reduced E
  exact (dss_cons (ds_set F.toFamH (i := 2) (fun _ => rfl) (fun _ => .inl rfl) (fun _ => .inr rfl) (de_op (fun _ => op_mod) snd_mod (de_var (i := 0) (fun _ => rfl) (fun _ => .inl rfl) (by decide) (by decide)) (de_prop F (T.B_Scheme_prime) (by decide) T.cl_Scheme T.p_Scheme_prime T.b_Scheme_prime rfl (fun _ => rfl) (de_var (i := 1) (fun _ => rfl) (fun _ => .inl rfl) (by decide) (by decide)))) (fun _ => rfl))
  (dss_one (ds_ret (de_if (dt_cmp (fun _ => op_gt) (snd_cmp _) (de_var (i := 2) (fun _ => rfl) (fun _ => .inl rfl) (by decide) (by decide)) (de_op (fun _ => op_fdivW) snd_fdiv (de_prop F (T.B_Scheme_prime) (by decide) T.cl_Scheme T.p_Scheme_prime T.b_Scheme_prime rfl (fun _ => rfl) (de_var (i := 1) (fun _ => rfl) (fun _ => .inl rfl) (by decide) (by decide))) de_int) rfl) (de_op (fun _ => op_sub) snd_sub (de_var (i := 2) (fun _ => rfl) (fun _ => .inl rfl) (by decide) (by decide)) (de_prop F (T.B_Scheme_prime) (by decide) T.cl_Scheme T.p_Scheme_prime T.b_Scheme_prime rfl (fun _ => rfl) (de_var (i := 1) (fun _ => rfl) (fun _ => .inl rfl) (by decide) (by decide)))) (de_var (i := 2) (fun _ => rfl) (fun _ => .inl rfl) (by decide) (by decide))))))
theorem B__law_reduced : FnB G 3 T.f__law_reduced T.d__law_reduced ["_law_total", "_law_area"] (m__law_reduced G) := FnB.of T.F__law_reduced sc__law_reduced T.e__law_reduced
theorem P__law_reduced : FnP G 3 T.f__law_reduced (mp__law_reduced G) := T.B__law_reduced.pos T.b__law_reduced
theorem k__law_ledger : PySem.W.keepIn G.K (.ref T.f__law_ledger) = true := T.F__law_ledger.kp
theorem b__law_ledger : Binds G.K T.d__law_ledger ["_law_table_here", "_law_area"] [] := T.F__law_ledger.binds fun _ _ _ _ _ _ us hl => match us, hl with | [_, _], _ => rfl
theorem e__law_ledger : ∀ E, DSs (FnX G 3 ["_law_table_here", "_law_area", "_law_totals", "_law_lower", "_law_upper", "_law_paid", "_law_term", "_law_k", "_law_total"] "_law_ledger" (defScope s__law_ledger) T.f__law_ledger E) G (fun _ => E) (defBody s__law_ledger) (c__law_ledger G) := fun E => by
  have F := fnX_fam (G := G) (k := 3) (qual := "_law_ledger") (f := T.f__law_ledger) sc__law_ledger E
  exact (dss_cons (ds_set F.toFamH (i := 2) (fun _ => rfl) (fun _ => .inl rfl) (fun _ => .inr rfl) (de_op (fun _ => op_mulU) (snd_mul true) (de_lst false (da_cons de_int da_nil (fun _ => rfl))) (de_prop F (T.B_Scheme_length) (by decide) T.cl_Scheme T.p_Scheme_length T.b_Scheme_length rfl (fun _ => rfl) (de_var (i := 1) (fun _ => rfl) (fun _ => .inr (.inl rfl)) (by decide) (by decide)))) (fun _ => rfl))
  (dss_cons (ds_for F (di_seq F.toFamH (de_var (i := 0) (fun _ => rfl) (fun _ => .inl rfl) (by decide) (by decide))) (dg_tup F.toFamH (n := 2) (dgs_cons (dg_tup F.toFamH (n := 2) (dgs_cons (dg_name F.toFamH (i := 3) (fun _ => rfl) (fun _ => .inl rfl) (fun _ => .inr rfl)) (dgs_cons (dg_name F.toFamH (i := 4) (fun _ => rfl) (fun _ => .inl rfl) (fun _ => .inr rfl)) dgs_nil (fun _ => rfl)) (fun _ => rfl)) rfl (fun j t h => pg_tup (F.calm j) h)) (dgs_cons (dg_name F.toFamH (i := 5) (fun _ => rfl) (fun _ => .inl rfl) (fun _ => .inr rfl)) dgs_nil (fun _ => rfl)) (fun _ => rfl)) rfl (fun j t h => pg_tup (F.calm j) h)) (dss_cons (ds_set F.toFamH (i := 6) (fun _ => rfl) (fun _ => .inl rfl) (fun _ => .inr rfl) (de_var (i := 5) (fun _ => rfl) (fun _ => .inl rfl) (by decide) (by decide)) (fun _ => rfl))
  (dss_one (ds_for F (di_rng1 F.toFamH (da_cons (de_prop F (T.B_Scheme_length) (by decide) T.cl_Scheme T.p_Scheme_length T.b_Scheme_length rfl (fun _ => rfl) (de_var (i := 1) (fun _ => rfl) (fun _ => .inr (.inl rfl)) (by decide) (by decide))) da_nil (fun _ => rfl)) (fun _ => rfl) T.z_range (fun _ => rfl)) (dg_name F.toFamH (i := 7) (fun _ => rfl) (fun _ => .inl rfl) (fun _ => .inr rfl)) (dss_cons (ds_setI F.toFamH (de_op (fun _ => op_addU) (snd_add false) (de_ix F.toFamH (de_var (i := 2) (fun _ => rfl) (fun _ => .inl rfl) (by decide) (by decide)) (de_var (i := 7) (fun _ => rfl) (fun _ => .inl rfl) (by decide) (by decide)) (fun _ _ => rfl)) (de_var (i := 6) (fun _ => rfl) (fun _ => .inl rfl) (by decide) (by decide))) (de_var (i := 2) (fun _ => rfl) (fun _ => .inl rfl) (by decide) (by decide)) (de_var (i := 7) (fun _ => rfl) (fun _ => .inl rfl) (by decide) (by decide)) (fun _ => rfl) (fun _ => rfl) (fun _ => rfl) (fun _ _ => rfl))
  (dss_one (ds_set F.toFamH (i := 6) (fun _ => rfl) (fun _ => .inl rfl) (fun _ => .inr rfl) (de_op (fun _ => op_mulU) (snd_mul false) (de_var (i := 6) (fun _ => rfl) (fun _ => .inl rfl) (by decide) (by decide)) (de_op (fun _ => op_addU) (snd_add false) (de_op (fun _ => op_addU) (snd_add false) de_int (de_op (fun _ => op_mulU) (snd_mul false) (de_var (i := 3) (fun _ => rfl) (fun _ => .inl rfl) (by decide) (by decide)) (de_prop F (T.B_Scheme_accounts) (by decide) T.cl_Scheme T.p_Scheme_accounts T.b_Scheme_accounts rfl (fun _ => rfl) (de_var (i := 1) (fun _ => rfl) (fun _ => .inr (.inl rfl)) (by decide) (by decide))))) (de_var (i := 4) (fun _ => rfl) (fun _ => .inl rfl) (by decide) (by decide)))) (fun _ => rfl)))) owns_fn (fun _ _ => rfl)))) owns_fn (fun _ _ => rfl))
  (dss_one (ds_ret (de_callTy F.toFamH (fun _ => call_tuple_of) snd_tuple (da_cons (de_lc F (own := [("_law_total", 8)]) (di_seq F.toFamH (de_var (i := 2) (fun _ => rfl) (fun _ => .inl rfl) (by decide) (by decide))) (fun _ => blkOk_by (by kernel_rfl)) (dg_name (F.blk _).toFamH (i := 8) (fun _ => rfl) (fun _ => .inl rfl) (fun _ => .inr rfl)) dts_nil (de_callP (F.blk _) T.P__law_reduced (by decide) (da_cons (de_var (i := 8) (fun _ => rfl) (fun _ => .inl rfl) (by decide) (by decide)) (da_cons (de_var (i := 1) (fun _ => rfl) (fun _ => .inr (.inl rfl)) (by decide) (by decide)) da_nil (fun _ => rfl)) (fun _ => rfl)) (fun _ => rfl) T.g__law_reduced T.k__law_reduced (by decide) (fun _ => rfl) (fun _ => rfl)) (by decide) (fun _ _ => rfl)) da_nil (fun _ => rfl)) (fun _ => rfl) T.z_tuple rfl (by decide) (by decide) (fun _ => rfl) (fun _ => rfl))))))
theorem B__law_ledger : FnB G 4 T.f__law_ledger T.d__law_ledger ["_law_table_here", "_law_area"] (m__law_ledger G) := FnB.of T.F__law_ledger sc__law_ledger T.e__law_ledger
theorem P__law_ledger : FnP G 4 T.f__law_ledger (mp__law_ledger G) := T.B__law_ledger.pos T.b__law_ledger
theorem k_cut_ledger : PySem.W.keepIn G.K (.ref T.f_cut_ledger) = true := T.F_cut_ledger.kp
theorem b_cut_ledger : Binds G.K T.d_cut_ledger ["ledger", "length"] [] := T.F_cut_ledger.binds fun _ _ _ _ _ _ us hl => match us, hl with | [_, _], _ => rfl
theorem kb_cut_ledger_0_length_ledger : KBn G.K T.d_cut_ledger ["ledger", "length"] 0 ["length", "ledger"] (gP Value.none [1, 0]) (gP V.non [1, 0]) := fun_kbn T.F_cut_ledger fun _ _ _ _ _ _ us ws h1 h2 => match us, ws, h1, h2 with | [], [_, _], _, _ => rfl
theorem e_cut_ledger : ∀ E, DSs (FnX G 0 ["ledger", "length"] "cut_ledger" (defScope s_cut_ledger) T.f_cut_ledger E) G (fun _ => E) (defBody s_cut_ledger) (c_cut_ledger G) := fun E => by
  have F := fnX_fam (G := G) (k := 0) (qual := "cut_ledger") (f := T.f_cut_ledger) sc_cut_ledger E
  exact (dss_one (ds_ret (de_sl false (de_var (i := 0) (fun _ => rfl) (fun _ => .inl rfl) (by decide) (by decide)) dp_none (dp_some (de_var (i := 1) (fun _ => rfl) (fun _ => .inl rfl) (by decide) (by decide))) F)))
theorem B_cut_ledger : FnB G 1 T.f_cut_ledger T.d_cut_ledger ["ledger", "length"] (m_cut_ledger G) := FnB.of T.F_cut_ledger sc_cut_ledger T.e_cut_ledger
theorem P_cut_ledger : FnP G 1 T.f_cut_ledger (mp_cut_ledger G) := T.B_cut_ledger.pos T.b_cut_ledger
theorem k_zero_ledger : PySem.W.keepIn G.K (.ref T.f_zero_ledger) = true := T.F_zero_ledger.kp
theorem b_zero_ledger : Binds G.K T.d_zero_ledger ["scheme"] [] := T.F_zero_ledger.binds fun _ _ _ _ _ _ us hl => match us, hl with | [_], _ => rfl
theorem e_zero_ledger : ∀ E, DSs (FnX G 2 ["scheme"] "zero_ledger" (defScope s_zero_ledger) T.f_zero_ledger E) G (fun _ => E) (defBody s_zero_ledger) (c_zero_ledger G) := fun E => by
  have F := fnX_fam (G := G) (k := 2) (qual := "zero_ledger") (f := T.f_zero_ledger) sc_zero_ledger E
  exact (dss_one (ds_ret (de_op (fun _ => op_mulU) (snd_mul false) (de_tup (da_cons de_int da_nil (fun _ => rfl))) (de_prop F (T.B_Scheme_length) (by decide) T.cl_Scheme T.p_Scheme_length T.b_Scheme_length rfl (fun _ => rfl) (de_var (i := 0) (fun _ => rfl) (fun _ => .inl rfl) (by decide) (by decide))))))
theorem B_zero_ledger : FnB G 3 T.f_zero_ledger T.d_zero_ledger ["scheme"] (m_zero_ledger G) := FnB.of T.F_zero_ledger sc_zero_ledger T.e_zero_ledger
theorem P_zero_ledger : FnP G 3 T.f_zero_ledger (mp_zero_ledger G) := T.B_zero_ledger.pos T.b_zero_ledger
theorem k_Scheme_name_of : PySem.W.keepIn G.K (.ref T.f_Scheme_name_of) = true := T.F_Scheme_name_of.kp
theorem b_Scheme_name_of : Binds G.K T.d_Scheme_name_of ["self", "pair"] [] := T.F_Scheme_name_of.binds fun _ _ _ _ _ _ us hl => match us, hl with | [_, _], _ => rfl
theorem e_Scheme_name_of : ∀ E, DSs (FnX G 0 ["self", "pair"] "Scheme.name_of" (defScope s_Scheme_name_of) T.f_Scheme_name_of E) G (fun _ => E) (defBody s_Scheme_name_of) (c_Scheme_name_of G) := fun E => by
  have F := fnX_fam (G := G) (k := 0) (qual := "Scheme.name_of") (f := T.f_Scheme_name_of) sc_Scheme_name_of E
  exact (dss_one (ds_ret (de_op (fun _ => op_addU) (snd_add false) (de_op (fun _ => op_addU) (snd_add false) de_int (de_op (fun _ => op_mulU) (snd_mul false) (de_ix F.toFamH (de_var (i := 1) (fun _ => rfl) (fun _ => .inl rfl) (by decide) (by decide)) de_int (fun _ _ => rfl)) (de_fld F.toFamH (i := 1) T.cl_Scheme T.n_Scheme_accounts_used (by rw [T.fn_Scheme]; rfl) (by rw [T.fn_Scheme]; decide +kernel) (fun _ => rfl) (de_var (i := 0) (fun _ => rfl) (fun _ => .inl rfl) (by decide) (by decide))))) (de_ix F.toFamH (de_var (i := 1) (fun _ => rfl) (fun _ => .inl rfl) (by decide) (by decide)) de_int (fun _ _ => rfl)))))
theorem B_Scheme_name_of : FnB G 1 T.f_Scheme_name_of T.d_Scheme_name_of ["self", "pair"] (m_Scheme_name_of G) := FnB.of T.F_Scheme_name_of sc_Scheme_name_of T.e_Scheme_name_of
theorem P_Scheme_name_of : FnP G 1 T.f_Scheme_name_of (mp_Scheme_name_of G) := T.B_Scheme_name_of.pos T.b_Scheme_name_of
theorem k_Scheme_reduced : PySem.W.keepIn G.K (.ref T.f_Scheme_reduced) = true := T.F_Scheme_reduced.kp
theorem b_Scheme_reduced : Binds G.K T.d_Scheme_reduced ["self", "number"] [] := T.F_Scheme_reduced.binds fun _ _ _ _ _ _ us hl => match us, hl with | [_, _], _ => rfl
theorem e_Scheme_reduced : ∀ E, DSs (FnX G 1 ["self", "number"] "Scheme.reduced" (defScope s_Scheme_reduced) T.f_Scheme_reduced E) G (fun _ => E) (defBody s_Scheme_reduced) (c_Scheme_reduced G) := fun E => by
  have F := fnX_fam (G := G) (k := 1) (qual := "Scheme.reduced") (f := T.f_Scheme_reduced) sc_Scheme_reduced E
  exact (dss_one (ds_ret (de_callP F T.P_reduced_modulo (by decide) (da_cons (de_var (i := 1) (fun _ => rfl) (fun _ => .inl rfl) (by decide) (by decide)) (da_cons (de_fld F.toFamH (i := 0) T.cl_Scheme T.n_Scheme_prime_used (by rw [T.fn_Scheme]; rfl) (by rw [T.fn_Scheme]; decide +kernel) (fun _ => rfl) (de_var (i := 0) (fun _ => rfl) (fun _ => .inl rfl) (by decide) (by decide))) da_nil (fun _ => rfl)) (fun _ => rfl)) (fun _ => rfl) T.g_reduced_modulo T.k_reduced_modulo (by decide) (fun _ => rfl) (fun _ => rfl))))
theorem B_Scheme_reduced : FnB G 2 T.f_Scheme_reduced T.d_Scheme_reduced ["self", "number"] (m_Scheme_reduced G) := FnB.of T.F_Scheme_reduced sc_Scheme_reduced T.e_Scheme_reduced
theorem P_Scheme_reduced : FnP G 2 T.f_Scheme_reduced (mp_Scheme_reduced G) := T.B_Scheme_reduced.pos T.b_Scheme_reduced
theorem k_ledger_of : PySem.W.keepIn G.K (.ref T.f_ledger_of) = true := T.F_ledger_of.kp
theorem b_ledger_of : Binds G.K T.d_ledger_of ["scheme", "pattern"] [] := T.F_ledger_of.binds fun _ _ _ _ _ _ us hl => match us, hl with | [_, _], _ => rfl
theorem kb_ledger_of_0_pattern_scheme : KBn G.K T.d_ledger_of ["scheme", "pattern"] 0 ["pattern", "scheme"] (gP Value.none [1, 0]) (gP V.non [1, 0]) := fun_kbn T.F_ledger_of fun _ _ _ _ _ _ us ws h1 h2 => match us, ws, h1, h2 with | [], [_, _], _, _ => rfl
theorem e_ledger_of : ∀ E, DSs (FnX G 3 ["scheme", "pattern", "totals", "pair", "amount", "name", "term", "index", "total"] "ledger_of" (defScope s_ledger_of) T.f_ledger_of E) G (fun _ => E) (defBody s_ledger_of) (c_ledger_of G) := fun E => by
  have F := fnX_fam (G := G) (k := 3) (qual := "ledger_of") (f := T.f_ledger_of) sc_ledger_of E
  exact (dss_cons (ds_set F.toFamH (i := 2) (fun _ => rfl) (fun _ => .inl rfl) (fun _ => .inr rfl) (de_callTy F.toFamH (fun _ => call_list_of) (snd_list true) (da_cons (de_callP F T.P_zero_ledger (by decide) (da_cons (de_var (i := 0) (fun _ => rfl) (fun _ => .inr (.inl rfl)) (by decide) (by decide)) da_nil (fun _ => rfl)) (fun _ => rfl) T.g_zero_ledger T.k_zero_ledger (by decide) (fun _ => rfl) (fun _ => rfl)) da_nil (fun _ => rfl)) (fun _ => rfl) T.z_list rfl (by decide) (by decide) (fun _ => rfl) (fun _ => rfl)) (fun _ => rfl))
  (dss_cons (ds_for F (di_seq F.toFamH (de_var (i := 1) (fun _ => rfl) (fun _ => .inl rfl) (by decide) (by decide))) (dg_tup F.toFamH (n := 2) (dgs_cons (dg_name F.toFamH (i := 3) (fun _ => rfl) (fun _ => .inl rfl) (fun _ => .inr rfl)) (dgs_cons (dg_name F.toFamH (i := 4) (fun _ => rfl) (fun _ => .inl rfl) (fun _ => .inr rfl)) dgs_nil (fun _ => rfl)) (fun _ => rfl)) rfl (fun j t h => pg_tup (F.calm j) h)) (dss_cons (ds_par F (i := 5) (j := 6) (fun _ => rfl) (fun _ => rfl) (by decide) (fun _ => rfl) (fun _ => rfl) (de_methP F T.P_Scheme_name_of (by decide) T.cl_Scheme T.mt_Scheme_name_of (by rw [T.fn_Scheme]; decide +kernel) (de_var (i := 0) (fun _ => rfl) (fun _ => .inr (.inl rfl)) (by decide) (by decide)) (da_cons (de_var (i := 3) (fun _ => rfl) (fun _ => .inl rfl) (by decide) (by decide)) da_nil (fun _ => rfl)) (fun _ => rfl) (fun _ => rfl) (fun _ => rfl)) (de_var (i := 4) (fun _ => rfl) (fun _ => .inl rfl) (by decide) (by decide)) (fun _ => rfl) (fun _ => rfl) (fun _ => rfl) (fun _ => rfl))
  (dss_one (ds_for F (di_rng1 F.toFamH (da_cons (de_prop F (T.B_Scheme_length) (by decide) T.cl_Scheme T.p_Scheme_length T.b_Scheme_length rfl (fun _ => rfl) (de_var (i := 0) (fun _ => rfl) (fun _ => .inr (.inl rfl)) (by decide) (by decide))) da_nil (fun _ => rfl)) (fun _ => rfl) T.z_range (fun _ => rfl)) (dg_name F.toFamH (i := 7) (fun _ => rfl) (fun _ => .inl rfl) (fun _ => .inr rfl)) (dss_cons (ds_augS F.toFamH (de_var (i := 2) (fun _ => rfl) (fun _ => .inl rfl) (by decide) (by decide)) (de_var (i := 7) (fun _ => rfl) (fun _ => .inl rfl) (by decide) (by decide)) (fun _ => iop_add) snd_addI (de_var (i := 6) (fun _ => rfl) (fun _ => .inl rfl) (by decide) (by decide)) (by intros; rfl))
  (dss_one (ds_set F.toFamH (i := 6) (fun _ => rfl) (fun _ => .inl rfl) (fun _ => .inr rfl) (de_methP F T.P_Scheme_reduced (by decide) T.cl_Scheme T.mt_Scheme_reduced (by rw [T.fn_Scheme]; decide +kernel) (de_var (i := 0) (fun _ => rfl) (fun _ => .inr (.inl rfl)) (by decide) (by decide)) (da_cons (de_op (fun _ => op_mulU) (snd_mul false) (de_var (i := 6) (fun _ => rfl) (fun _ => .inl rfl) (by decide) (by decide)) (de_var (i := 5) (fun _ => rfl) (fun _ => .inl rfl) (by decide) (by decide))) da_nil (fun _ => rfl)) (fun _ => rfl) (fun _ => rfl) (fun _ => rfl)) (fun _ => rfl)))) owns_fn (fun _ _ => rfl)))) owns_fn (fun _ _ => rfl))
  (dss_one (ds_ret (de_callTy F.toFamH (fun _ => call_tuple_of) snd_tuple (da_cons (de_lc F (own := [("total", 8)]) (di_seq F.toFamH (de_var (i := 2) (fun _ => rfl) (fun _ => .inl rfl) (by decide) (by decide))) (fun _ => blkOk_by (by kernel_rfl)) (dg_name (F.blk _).toFamH (i := 8) (fun _ => rfl) (fun _ => .inl rfl) (fun _ => .inr rfl)) dts_nil (de_methP (F.blk _) T.P_Scheme_reduced (by decide) T.cl_Scheme T.mt_Scheme_reduced (by rw [T.fn_Scheme]; decide +kernel) (de_var (i := 0) (fun _ => rfl) (fun _ => .inr (.inl rfl)) (by decide) (by decide)) (da_cons (de_var (i := 8) (fun _ => rfl) (fun _ => .inl rfl) (by decide) (by decide)) da_nil (fun _ => rfl)) (fun _ => rfl) (fun _ => rfl) (fun _ => rfl)) (by decide) (fun _ _ => rfl)) da_nil (fun _ => rfl)) (fun _ => rfl) T.z_tuple rfl (by decide) (by decide) (fun _ => rfl) (fun _ => rfl))))))
theorem B_ledger_of : FnB G 4 T.f_ledger_of T.d_ledger_of ["scheme", "pattern"] (m_ledger_of G) := FnB.of T.F_ledger_of sc_ledger_of T.e_ledger_of
theorem P_ledger_of : FnP G 4 T.f_ledger_of (mp_ledger_of G) := T.B_ledger_of.pos T.b_ledger_of
theorem k_Scheme_shortened : PySem.W.keepIn G.K (.ref T.f_Scheme_shortened) = true := T.F_Scheme_shortened.kp
theorem b_Scheme_shortened : Binds G.K T.d_Scheme_shortened ["self", "length"] [] := T.F_Scheme_shortened.binds fun _ _ _ _ _ _ us hl => match us, hl with | [_, _], _ => rfl
theorem e_Scheme_shortened : ∀ E, DSs (FnX G 7 ["self", "length"] "Scheme.shortened" (defScope s_Scheme_shortened) T.f_Scheme_shortened E) G (fun _ => E) (defBody s_Scheme_shortened) (c_Scheme_shortened G) := fun E => by
  have F := fnX_fam (G := G) (k := 7) (qual := "Scheme.shortened") (f := T.f_Scheme_shortened) sc_Scheme_shortened E
  exact (dss_one (ds_ret (de_make false F T.P_Scheme__init_ (by decide) (c := 0) T.mk_Scheme (da_cons (de_fld F.toFamH (i := 0) T.cl_Scheme T.n_Scheme_prime_used (by rw [T.fn_Scheme]; rfl) (by rw [T.fn_Scheme]; decide +kernel) (fun _ => rfl) (de_var (i := 0) (fun _ => rfl) (fun _ => .inl rfl) (by decide) (by decide))) (da_cons (de_fld F.toFamH (i := 1) T.cl_Scheme T.n_Scheme_accounts_used (by rw [T.fn_Scheme]; rfl) (by rw [T.fn_Scheme]; decide +kernel) (fun _ => rfl) (de_var (i := 0) (fun _ => rfl) (fun _ => .inl rfl) (by decide) (by decide))) (da_cons (de_var (i := 1) (fun _ => rfl) (fun _ => .inl rfl) (by decide) (by decide)) da_nil (fun _ => rfl)) (fun _ => rfl)) (fun _ => rfl)) (fun _ => rfl) T.g_Scheme (by decide) (fun _ => rfl) (fun _ => rfl))))
theorem B_Scheme_shortened : FnB G 8 T.f_Scheme_shortened T.d_Scheme_shortened ["self", "length"] (m_Scheme_shortened G) := FnB.of T.F_Scheme_shortened sc_Scheme_shortened T.e_Scheme_shortened
theorem P_Scheme_shortened : FnP G 8 T.f_Scheme_shortened (mp_Scheme_shortened G) := T.B_Scheme_shortened.pos T.b_Scheme_shortened
theorem k_is_integer : PySem.W.keepIn G.K (.ref T.f_is_integer) = true := T.F_is_integer.kp
theorem b_is_integer : Binds G.K T.d_is_integer ["value"] [] := T.F_is_integer.binds fun _ _ _ _ _ _ us hl => match us, hl with | [_], _ => rfl
theorem e_is_integer : ∀ E, DSs (FnX G 0 ["value"] "is_integer" (defScope s_is_integer) T.f_is_integer E) G (fun _ => E) (defBody s_is_integer) (c_is_integer G) := fun E => by
  have F := fnX_fam (G := G) (k := 0) (qual := "is_integer") (f := T.f_is_integer) sc_is_integer E
  exact (dss_one (ds_ret (de_and (de_callB F.toFamH (fun _ => call_isi) snd_isi (da_cons (de_var (i := 0) (fun _ => rfl) (fun _ => .inl rfl) (by decide) (by decide)) (da_cons (de_ty F.toFamH (fun _ => rfl) T.z_int rfl (by decide) (by decide)) da_nil (fun _ => rfl)) (fun _ => rfl)) (fun _ => rfl) T.z_isinstance rfl (by decide) (by decide) (fun _ => rfl) (fun _ => rfl)) (de_one (de_not (de_callB F.toFamH (fun _ => call_isi) snd_isi (da_cons (de_var (i := 0) (fun _ => rfl) (fun _ => .inl rfl) (by decide) (by decide)) (da_cons (de_ty F.toFamH (fun _ => rfl) T.z_bool rfl (by decide) (by decide)) da_nil (fun _ => rfl)) (fun _ => rfl)) (fun _ => rfl) T.z_isinstance rfl (by decide) (by decide) (fun _ => rfl) (fun _ => rfl)))))))
theorem B_is_integer : FnB G 1 T.f_is_integer T.d_is_integer ["value"] (m_is_integer G) := FnB.of T.F_is_integer sc_is_integer T.e_is_integer
theorem P_is_integer : FnP G 1 T.f_is_integer (mp_is_integer G) := T.B_is_integer.pos T.b_is_integer
theorem k_Scheme_largest_amount : PySem.W.keepIn G.K (.ref T.f_Scheme_largest_amount) = true := T.F_Scheme_largest_amount.kp
theorem b_Scheme_largest_amount : Binds G.K T.d_Scheme_largest_amount ["self"] [] := T.F_Scheme_largest_amount.binds fun _ _ _ _ _ _ us hl => match us, hl with | [_], _ => rfl
theorem e_Scheme_largest_amount : ∀ E, DSs (FnX G 0 ["self"] "Scheme.largest_amount" (defScope s_Scheme_largest_amount) T.f_Scheme_largest_amount E) G (fun _ => E) (defBody s_Scheme_largest_amount) (c_Scheme_largest_amount G) := fun E => by
  have F := fnX_fam (G := G) (k := 0) (qual := "Scheme.largest_amount") (f := T.f_Scheme_largest_amount) sc_Scheme_largest_amount E
  exact (dss_one (ds_ret (de_op (fun _ => op_fdivW) snd_fdiv (de_op (fun _ => op_sub) snd_sub (de_fld F.toFamH (i := 0) T.cl_Scheme T.n_Scheme_prime_used (by rw [T.fn_Scheme]; rfl) (by rw [T.fn_Scheme]; decide +kernel) (fun _ => rfl) (de_var (i := 0) (fun _ => rfl) (fun _ => .inl rfl) (by decide) (by decide))) de_int) de_int)))
theorem B_Scheme_largest_amount : FnB G 1 T.f_Scheme_largest_amount T.d_Scheme_largest_amount ["self"] (m_Scheme_largest_amount G) := FnB.of T.F_Scheme_largest_amount sc_Scheme_largest_amount T.e_Scheme_largest_amount
theorem P_Scheme_largest_amount : FnP G 1 T.f_Scheme_largest_amount (mp_Scheme_largest_amount G) := T.B_Scheme_largest_amount.pos T.b_Scheme_largest_amount
theorem k_is_reduced : PySem.W.keepIn G.K (.ref T.f_is_reduced) = true := T.F_is_reduced.kp
theorem b_is_reduced : Binds G.K T.d_is_reduced ["scheme", "value"] [] := T.F_is_reduced.binds fun _ _ _ _ _ _ us hl => match us, hl with | [_, _], _ => rfl
theorem e_is_reduced : ∀ E, DSs (FnX G 2 ["scheme", "value"] "is_reduced" (defScope s_is_reduced) T.f_is_reduced E) G (fun _ => E) (defBody s_is_reduced) (c_is_reduced G) := fun E => by
  have F := fnX_fam (G := G) (k := 2) (qual := "is_reduced") (f := T.f_is_reduced) sc_is_reduced E
  exact (dss_one (ds_ret (de_and (de_callP F T.P_is_integer (by decide) (da_cons (de_var (i := 1) (fun _ => rfl) (fun _ => .inl rfl) (by decide) (by decide)) da_nil (fun _ => rfl)) (fun _ => rfl) T.g_is_integer T.k_is_integer (by decide) (fun _ => rfl) (fun _ => rfl)) (de_one (de_cmp (fun _ => op_le) (snd_cmp _) (de_callB F.toFamH (fun _ => call_abs) snd_abs (da_cons (de_var (i := 1) (fun _ => rfl) (fun _ => .inl rfl) (by decide) (by decide)) da_nil (fun _ => rfl)) (fun _ => rfl) T.z_abs rfl (by decide) (by decide) (fun _ => rfl) (fun _ => rfl)) (de_prop F (T.B_Scheme_largest_amount) (by decide) T.cl_Scheme T.p_Scheme_largest_amount T.b_Scheme_largest_amount rfl (fun _ => rfl) (de_var (i := 0) (fun _ => rfl) (fun _ => .inl rfl) (by decide) (by decide))) rfl)))))
theorem B_is_reduced : FnB G 3 T.f_is_reduced T.d_is_reduced ["scheme", "value"] (m_is_reduced G) := FnB.of T.F_is_reduced sc_is_reduced T.e_is_reduced
theorem P_is_reduced : FnP G 3 T.f_is_reduced (mp_is_reduced G) := T.B_is_reduced.pos T.b_is_reduced
theorem k_is_ledger : PySem.W.keepIn G.K (.ref T.f_is_ledger) = true := T.F_is_ledger.kp
theorem b_is_ledger : Binds G.K T.d_is_ledger ["scheme", "value"] [] := T.F_is_ledger.binds fun _ _ _ _ _ _ us hl => match us, hl with | [_, _], _ => rfl
theorem e_is_ledger : ∀ E, DSs (FnX G 3 ["scheme", "value", "number"] "is_ledger" (defScope s_is_ledger) T.f_is_ledger E) G (fun _ => E) (defBody s_is_ledger) (c_is_ledger G) := fun E => by
  have F := fnX_fam (G := G) (k := 3) (qual := "is_ledger") (f := T.f_is_ledger) sc_is_ledger E
  exact (dss_cons (ds_if (dt_w (dw_or (dt_not (dt_val (de_callB F.toFamH (fun _ => call_isi) snd_isi (da_cons (de_var (i := 1) (fun _ => rfl) (fun _ => .inl rfl) (by decide) (by decide)) (da_cons (de_ty F.toFamH (fun _ => rfl) T.z_tuple rfl (by decide) (by decide)) da_nil (fun _ => rfl)) (fun _ => rfl)) (fun _ => rfl) T.z_isinstance rfl (by decide) (by decide) (fun _ => rfl) (fun _ => rfl)) (fun _ _ => rfl))) (dw_or1 (dt_cmp (neD_at F.toFamH) snd_ne (de_callB F.toFamH (fun _ => call_lenU) snd_len (da_cons (de_var (i := 1) (fun _ => rfl) (fun _ => .inl rfl) (by decide) (by decide)) da_nil (fun _ => rfl)) (fun _ => rfl) T.z_len rfl (by decide) (by decide) (fun _ => rfl) (fun _ => rfl)) (de_prop F (T.B_Scheme_length) (by decide) T.cl_Scheme T.p_Scheme_length T.b_Scheme_length rfl (fun _ => rfl) (de_var (i := 0) (fun _ => rfl) (fun _ => .inr (.inl rfl)) (by decide) (by decide))) rfl) rfl))) (dss_one (ds_ret de_bl)) dss_nil)
  (dss_one (ds_ret (de_callB F.toFamH (cr_allC F) snd_all (da_cons (de_lc F (own := [("number", 2)]) (di_seq F.toFamH (de_var (i := 1) (fun _ => rfl) (fun _ => .inl rfl) (by decide) (by decide))) (fun _ => blkOk_by (by kernel_rfl)) (dg_name (F.blk _).toFamH (i := 2) (fun _ => rfl) (fun _ => .inl rfl) (fun _ => .inr rfl)) dts_nil (de_callP (F.blk _) T.P_is_reduced (by decide) (da_cons (de_var (i := 0) (fun _ => rfl) (fun _ => .inr (.inl rfl)) (by decide) (by decide)) (da_cons (de_var (i := 2) (fun _ => rfl) (fun _ => .inl rfl) (by decide) (by decide)) da_nil (fun _ => rfl)) (fun _ => rfl)) (fun _ => rfl) T.g_is_reduced T.k_is_reduced (by decide) (fun _ => rfl) (fun _ => rfl)) (by decide) (fun _ _ => rfl)) da_nil (fun _ => rfl)) (fun _ => rfl) T.z_all rfl (by decide) (by decide) (fun _ => rfl) (fun _ => rfl)))))
theorem B_is_ledger : FnB G 4 T.f_is_ledger T.d_is_ledger ["scheme", "value"] (m_is_ledger G) := FnB.of T.F_is_ledger sc_is_ledger T.e_is_ledger
theorem P_is_ledger : FnP G 4 T.f_is_ledger (mp_is_ledger G) := T.B_is_ledger.pos T.b_is_ledger
theorem k__law_one_right : PySem.W.keepIn G.K (.ref T.f__law_one_right) = true := T.F__law_one_right.kp
theorem b__law_one_right : Binds G.K T.d__law_one_right ["_law_area", "_law_table_here"] [] := T.F__law_one_right.binds fun _ _ _ _ _ _ us hl => match us, hl with | [_, _], _ => rfl
theorem e__law_one_right : ∀ E, DSs (FnX G 4 ["_law_area", "_law_table_here", "_law_due", "_law_before", "_law_found"] "_law_one_right" (defScope s__law_one_right) T.f__law_one_right E) G (fun _ => E) (defBody s__law_one_right) (c__law_one_right G) := fun E => by
  have F := fnX_fam (G := G) (k := 4) (qual := "_law_one_right") (f := T.f__law_one_right) sc__law_one_right E
  exact (dss_cons (ds_par F (i := 2) (j := 3) (fun _ => rfl) (fun _ => rfl) (by decide) (fun _ => rfl) (fun _ => rfl) (de_callP F T.P__law_ledger (by decide) (da_cons (de_var (i := 1) (fun _ => rfl) (fun _ => .inl rfl) (by decide) (by decide)) (da_cons (de_var (i := 0) (fun _ => rfl) (fun _ => .inl rfl) (by decide) (by decide)) da_nil (fun _ => rfl)) (fun _ => rfl)) (fun _ => rfl) T.g__law_ledger T.k__law_ledger (by decide) (fun _ => rfl) (fun _ => rfl)) (de_callB F.toFamH (call_reprC F.toFamH) snd_repr (da_cons (de_var (i := 1) (fun _ => rfl) (fun _ => .inl rfl) (by decide) (by decide)) da_nil (fun _ => rfl)) (fun _ => rfl) T.z_repr rfl (by decide) (by decide) (fun _ => rfl) (fun _ => rfl)) (fun _ => rfl) (fun _ => rfl) (fun _ => rfl) (fun _ => rfl))
  (dss_cons (ds_set F.toFamH (i := 4) (fun _ => rfl) (fun _ => .inl rfl) (fun _ => .inr rfl) (de_lst false (da_cons (de_callP F T.P_ledger_of (by decide) (da_cons (de_var (i := 0) (fun _ => rfl) (fun _ => .inl rfl) (by decide) (by decide)) (da_cons (de_var (i := 1) (fun _ => rfl) (fun _ => .inl rfl) (by decide) (by decide)) da_nil (fun _ => rfl)) (fun _ => rfl)) (fun _ => rfl) T.g_ledger_of T.k_ledger_of (by decide) (fun _ => rfl) (fun _ => rfl)) (da_cons (de_callK0 (x := "ledger_of") F T.B_ledger_of (by decide) (fun _ => rfl) T.g_ledger_of T.k_ledger_of T.kb_ledger_of_0_pattern_scheme (gP_ok (perm := [1, 0]) rfl) (dk_cons (de_var (i := 1) (fun _ => rfl) (fun _ => .inl rfl) (by decide) (by decide)) (dk_cons (de_var (i := 0) (fun _ => rfl) (fun _ => .inl rfl) (by decide) (by decide)) dk_nil)) (fun _ => rfl) (fun _ => rfl) (by decide) (fun _ => rfl)) da_nil (fun _ => rfl)) (fun _ => rfl))) (fun _ => rfl))
  (dss_cons (ds_if (dt_w (dw_or (dt_cmp (neD_at F.toFamH) snd_ne (de_callB F.toFamH (call_reprC F.toFamH) snd_repr (da_cons (de_var (i := 4) (fun _ => rfl) (fun _ => .inl rfl) (by decide) (by decide)) da_nil (fun _ => rfl)) (fun _ => rfl) T.z_repr rfl (by decide) (by decide) (fun _ => rfl) (fun _ => rfl)) (de_callB F.toFamH (call_reprC F.toFamH) snd_repr (da_cons (de_lst false (da_cons (de_var (i := 2) (fun _ => rfl) (fun _ => .inl rfl) (by decide) (by decide)) (da_cons (de_var (i := 2) (fun _ => rfl) (fun _ => .inl rfl) (by decide) (by decide)) da_nil (fun _ => rfl)) (fun _ => rfl))) da_nil (fun _ => rfl)) (fun _ => rfl) T.z_repr rfl (by decide) (by decide) (fun _ => rfl) (fun _ => rfl)) rfl) (dw_or (dt_cmp (neD_at F.toFamH) snd_ne (de_callB F.toFamH (call_reprC F.toFamH) snd_repr (da_cons (de_var (i := 1) (fun _ => rfl) (fun _ => .inl rfl) (by decide) (by decide)) da_nil (fun _ => rfl)) (fun _ => rfl) T.z_repr rfl (by decide) (by decide) (fun _ => rfl) (fun _ => rfl)) (de_var (i := 3) (fun _ => rfl) (fun _ => .inl rfl) (by decide) (by decide)) rfl) (dw_or1 (dt_cmp (fun _ => op_isnot_bl) snd_notB (de_callP F T.P_is_ledger (by decide) (da_cons (de_var (i := 0) (fun _ => rfl) (fun _ => .inl rfl) (by decide) (by decide)) (da_cons (de_var (i := 2) (fun _ => rfl) (fun _ => .inl rfl) (by decide) (by decide)) da_nil (fun _ => rfl)) (fun _ => rfl)) (fun _ => rfl) T.g_is_ledger T.k_is_ledger (by decide) (fun _ => rfl) (fun _ => rfl)) de_bl rfl) rfl)))) (dss_one (ds_ret de_bl)) dss_nil)
  (dss_one (ds_ret (de_or (de_not (de_chain (fun _ => op_lt) (snd_cmp _) (fun _ => op_le) (snd_cmp _) de_int (de_callB F.toFamH (fun _ => call_lenU) snd_len (da_cons (de_var (i := 1) (fun _ => rfl) (fun _ => .inl rfl) (by decide) (by decide)) da_nil (fun _ => rfl)) (fun _ => rfl) T.z_len rfl (by decide) (by decide) (fun _ => rfl) (fun _ => rfl)) (de_prop F (T.B_Scheme_length) (by decide) T.cl_Scheme T.p_Scheme_length T.b_Scheme_length rfl (fun _ => rfl) (de_var (i := 0) (fun _ => rfl) (fun _ => .inl rfl) (by decide) (by decide))) rfl)) (de_one (de_cmp (neD_at F.toFamH) snd_ne (de_var (i := 2) (fun _ => rfl) (fun _ => .inl rfl) (by decide) (by decide)) (de_op (fun _ => op_mulU) (snd_mul false) (de_tup (da_cons de_int da_nil (fun _ => rfl))) (de_prop F (T.B_Scheme_length) (by decide) T.cl_Scheme T.p_Scheme_length T.b_Scheme_length rfl (fun _ => rfl) (de_var (i := 0) (fun _ => rfl) (fun _ => .inl rfl) (by decide) (by decide)))) rfl))))))))
theorem B__law_one_right : FnB G 5 T.f__law_one_right T.d__law_one_right ["_law_area", "_law_table_here"] (m__law_one_right G) := FnB.of T.F__law_one_right sc__law_one_right T.e__law_one_right
theorem P__law_one_right : FnP G 5 T.f__law_one_right (mp__law_one_right G) := T.B__law_one_right.pos T.b__law_one_right
theorem k_law : PySem.W.keepIn G.K (.ref T.f_law) = true := T.F_law.kp
theorem b_law : Binds G.K T.d_law ["_law_script"] [] := T.F_law.binds fun _ _ _ _ _ _ us hl => match us, hl with | [_], _ => rfl
theorem e_law : ∀ E, DSs (FnX G 8 ["_law_script", "_law_source_here", "_law_turn", "_law_area", "_law_table_here", "_law_last", "_law_some", "_law_one", "_law_size", "_law_due", "_law_found"] "law" (defScope s_law) T.f_law E) G (fun _ => E) (defBody s_law) (c_law G) := fun E => by
  have F := fnX_fam (G := G) (k := 8) (qual := "law") (f := T.f_law) sc_law E
  exact (dss_cons (ds_set F.toFamH (i := 1) (fun _ => rfl) (fun _ => .inl rfl) (fun _ => .inr rfl) (de_callP F T.P__law_source (by decide) (da_cons (de_var (i := 0) (fun _ => rfl) (fun _ => .inl rfl) (by decide) (by decide)) da_nil (fun _ => rfl)) (fun _ => rfl) T.g__law_source T.k__law_source (by decide) (fun _ => rfl) (fun _ => rfl)) (fun _ => rfl))
  (dss_cons (ds_for F (di_rng1 F.toFamH (da_cons de_int da_nil (fun _ => rfl)) (fun _ => rfl) T.z_range (fun _ => rfl)) (dg_name F.toFamH (i := 2) (fun _ => rfl) (fun _ => .inl rfl) (fun _ => .inr rfl)) (dss_cons (ds_set F.toFamH (i := 3) (fun _ => rfl) (fun _ => .inr rfl) (fun _ => .inl rfl) (de_callP F T.P__law_scheme (by decide) (da_cons (de_var (i := 1) (fun _ => rfl) (fun _ => .inl rfl) (by decide) (by decide)) (da_cons de_int (da_cons de_int da_nil (fun _ => rfl)) (fun _ => rfl)) (fun _ => rfl)) (fun _ => rfl) T.g__law_scheme T.k__law_scheme (by decide) (fun _ => rfl) (fun _ => rfl)) (fun _ => rfl))
  (dss_cons (ds_par F (i := 4) (j := 5) (fun _ => rfl) (fun _ => rfl) (by decide) (fun _ => rfl) (fun _ => rfl) (de_callP F T.P__law_table (by decide) (da_cons (de_var (i := 1) (fun _ => rfl) (fun _ => .inl rfl) (by decide) (by decide)) (da_cons (de_var (i := 3) (fun _ => rfl) (fun _ => .inr (.inl rfl)) (by decide) (by decide)) da_nil (fun _ => rfl)) (fun _ => rfl)) (fun _ => rfl) T.g__law_table T.k__law_table (by decide) (fun _ => rfl) (fun _ => rfl)) (de_op (fun _ => op_sub) snd_sub (de_prop F (T.B_Scheme_accounts) (by decide) T.cl_Scheme T.p_Scheme_accounts T.b_Scheme_accounts rfl (fun _ => rfl) (de_var (i := 3) (fun _ => rfl) (fun _ => .inr (.inl rfl)) (by decide) (by decide))) de_int) (fun _ => rfl) (fun _ => rfl) (fun _ => rfl) (fun _ => rfl))
  (dss_cons (ds_set F.toFamH (i := 6) (fun _ => rfl) (fun _ => .inl rfl) (fun _ => .inr rfl) (de_lst false (da_cons (de_var (i := 4) (fun _ => rfl) (fun _ => .inl rfl) (by decide) (by decide)) (da_cons (de_tup da_nil) (da_cons (de_sl false (de_var (i := 4) (fun _ => rfl) (fun _ => .inl rfl) (by decide) (by decide)) dp_none (dp_some de_int) F) (da_cons (de_sl false (de_var (i := 4) (fun _ => rfl) (fun _ => .inl rfl) (by decide) (by decide)) dp_none (dp_some (de_prop F (T.B_Scheme_length) (by decide) T.cl_Scheme T.p_Scheme_length T.b_Scheme_length rfl (fun _ => rfl) (de_var (i := 3) (fun _ => rfl) (fun _ => .inr (.inl rfl)) (by decide) (by decide)))) F) (da_cons (de_sl false (de_var (i := 4) (fun _ => rfl) (fun _ => .inl rfl) (by decide) (by decide)) (dp_some (de_prop F (T.B_Scheme_length) (by decide) T.cl_Scheme T.p_Scheme_length T.b_Scheme_length rfl (fun _ => rfl) (de_var (i := 3) (fun _ => rfl) (fun _ => .inr (.inl rfl)) (by decide) (by decide)))) dp_none F) (da_cons (de_rev false F (de_sl false (de_rev false F (de_var (i := 4) (fun _ => rfl) (fun _ => .inl rfl) (by decide) (by decide))) dp_none (dp_some (de_prop F (T.B_Scheme_length) (by decide) T.cl_Scheme T.p_Scheme_length T.b_Scheme_length rfl (fun _ => rfl) (de_var (i := 3) (fun _ => rfl) (fun _ => .inr (.inl rfl)) (by decide) (by decide)))) F)) da_nil (fun _ => rfl)) (fun _ => rfl)) (fun _ => rfl)) (fun _ => rfl)) (fun _ => rfl)) (fun _ => rfl))) (fun _ => rfl))
  (dss_cons (ds_set F.toFamH (i := 6) (fun _ => rfl) (fun _ => .inl rfl) (fun _ => .inr rfl) (de_op (fun _ => op_addU) (snd_add true) (de_var (i := 6) (fun _ => rfl) (fun _ => .inl rfl) (by decide) (by decide)) (de_lst false (da_cons (de_tup (da_cons (de_tup (da_cons (de_tup (da_cons de_int (da_cons de_int da_nil (fun _ => rfl)) (fun _ => rfl))) (da_cons (de_callP F T.P__law_amount (by decide) (da_cons (de_var (i := 1) (fun _ => rfl) (fun _ => .inl rfl) (by decide) (by decide)) (da_cons (de_var (i := 3) (fun _ => rfl) (fun _ => .inr (.inl rfl)) (by decide) (by decide)) da_nil (fun _ => rfl)) (fun _ => rfl)) (fun _ => rfl) T.g__law_amount T.k__law_amount (by decide) (fun _ => rfl) (fun _ => rfl)) da_nil (fun _ => rfl)) (fun _ => rfl))) da_nil (fun _ => rfl))) (da_cons (de_tup (da_cons (de_tup (da_cons (de_tup (da_cons (de_op (fun _ => op_sub) snd_sub (de_var (i := 5) (fun _ => rfl) (fun _ => .inl rfl) (by decide) (by decide)) de_int) (da_cons (de_var (i := 5) (fun _ => rfl) (fun _ => .inl rfl) (by decide) (by decide)) da_nil (fun _ => rfl)) (fun _ => rfl))) (da_cons (de_callP F T.P__law_amount (by decide) (da_cons (de_var (i := 1) (fun _ => rfl) (fun _ => .inl rfl) (by decide) (by decide)) (da_cons (de_var (i := 3) (fun _ => rfl) (fun _ => .inr (.inl rfl)) (by decide) (by decide)) da_nil (fun _ => rfl)) (fun _ => rfl)) (fun _ => rfl) T.g__law_amount T.k__law_amount (by decide) (fun _ => rfl) (fun _ => rfl)) da_nil (fun _ => rfl)) (fun _ => rfl))) da_nil (fun _ => rfl))) da_nil (fun _ => rfl)) (fun _ => rfl)))) (fun _ => rfl))
  (dss_cons (ds_expr (de_meth F.toFamH PySem.F.plainAttrs_list PySem.F.slot_list_append PySem.F.type_list_append (fun _ => mt_append) snd_append (fun _ _ _ _ _ R r h => isL_ty R r h) (de_var (i := 6) (fun _ => rfl) (fun _ => .inl rfl) (by decide) (by decide)) (da_cons (de_sl false (de_var (i := 4) (fun _ => rfl) (fun _ => .inl rfl) (by decide) (by decide)) dp_none (dp_some (de_callP F T.P__law_draw (by decide) (da_cons (de_var (i := 1) (fun _ => rfl) (fun _ => .inl rfl) (by decide) (by decide)) (da_cons (de_op (fun _ => op_addU) (snd_add false) (de_callB F.toFamH (fun _ => call_lenU) snd_len (da_cons (de_var (i := 4) (fun _ => rfl) (fun _ => .inl rfl) (by decide) (by decide)) da_nil (fun _ => rfl)) (fun _ => rfl) T.z_len rfl (by decide) (by decide) (fun _ => rfl) (fun _ => rfl)) de_int) da_nil (fun _ => rfl)) (fun _ => rfl)) (fun _ => rfl) T.g__law_draw T.k__law_draw (by decide) (fun _ => rfl) (fun _ => rfl))) F) da_nil (fun _ => rfl)) (fun _ => rfl) (fun _ => rfl) rfl (fun _ => rfl) (fun _ => rfl)) (fun _ => rfl))
  (dss_cons (ds_if (dt_cmp (neD_at F.toFamH) snd_ne (de_lc F (own := [("_law_one", 7)]) (di_seq F.toFamH (de_var (i := 6) (fun _ => rfl) (fun _ => .inl rfl) (by decide) (by decide))) (fun _ => blkOk_by (by kernel_rfl)) (dg_name (F.blk _).toFamH (i := 7) (fun _ => rfl) (fun _ => .inl rfl) (fun _ => .inr rfl)) (dts_one (dt_not (dt_val (de_callP (F.blk _) T.P__law_one_right (by decide) (da_cons (de_var (i := 3) (fun _ => rfl) (fun _ => .inr (.inl rfl)) (by decide) (by decide)) (da_cons (de_var (i := 7) (fun _ => rfl) (fun _ => .inl rfl) (by decide) (by decide)) da_nil (fun _ => rfl)) (fun _ => rfl)) (fun _ => rfl) T.g__law_one_right T.k__law_one_right (by decide) (fun _ => rfl) (fun _ => rfl)) (fun _ _ => rfl)))) (de_var (i := 7) (fun _ => rfl) (fun _ => .inl rfl) (by decide) (by decide)) (by decide) (fun _ _ => rfl)) (de_lst false da_nil) rfl) (dss_one (ds_ret de_bl)) dss_nil)
  (dss_one (ds_for F (di_rng2 F.toFamH (da_cons de_int (da_cons (de_op (fun _ => op_addU) (snd_add false) (de_prop F (T.B_Scheme_length) (by decide) T.cl_Scheme T.p_Scheme_length T.b_Scheme_length rfl (fun _ => rfl) (de_var (i := 3) (fun _ => rfl) (fun _ => .inr (.inl rfl)) (by decide) (by decide))) de_int) da_nil (fun _ => rfl)) (fun _ => rfl)) (fun _ => rfl) T.z_range (fun _ => rfl) (fun _ => rfl)) (dg_name F.toFamH (i := 8) (fun _ => rfl) (fun _ => .inl rfl) (fun _ => .inr rfl)) (dss_cons (ds_set F.toFamH (i := 9) (fun _ => rfl) (fun _ => .inl rfl) (fun _ => .inr rfl) (de_sl false (de_callP F T.P__law_ledger (by decide) (da_cons (de_var (i := 4) (fun _ => rfl) (fun _ => .inl rfl) (by decide) (by decide)) (da_cons (de_var (i := 3) (fun _ => rfl) (fun _ => .inr (.inl rfl)) (by decide) (by decide)) da_nil (fun _ => rfl)) (fun _ => rfl)) (fun _ => rfl) T.g__law_ledger T.k__law_ledger (by decide) (fun _ => rfl) (fun _ => rfl)) dp_none (dp_some (de_var (i := 8) (fun _ => rfl) (fun _ => .inl rfl) (by decide) (by decide))) F) (fun _ => rfl))
  (dss_cons (ds_set F.toFamH (i := 10) (fun _ => rfl) (fun _ => .inl rfl) (fun _ => .inr rfl) (de_lst false (da_cons (de_callK0 (x := "cut_ledger") F T.B_cut_ledger (by decide) (fun _ => rfl) T.g_cut_ledger T.k_cut_ledger T.kb_cut_ledger_0_length_ledger (gP_ok (perm := [1, 0]) rfl) (dk_cons (de_var (i := 8) (fun _ => rfl) (fun _ => .inl rfl) (by decide) (by decide)) (dk_cons (de_callP F T.P_ledger_of (by decide) (da_cons (de_var (i := 3) (fun _ => rfl) (fun _ => .inr (.inl rfl)) (by decide) (by decide)) (da_cons (de_var (i := 4) (fun _ => rfl) (fun _ => .inl rfl) (by decide) (by decide)) da_nil (fun _ => rfl)) (fun _ => rfl)) (fun _ => rfl) T.g_ledger_of T.k_ledger_of (by decide) (fun _ => rfl) (fun _ => rfl)) dk_nil)) (fun _ => rfl) (fun _ => rfl) (by decide) (fun _ => rfl)) (da_cons (de_callP F T.P_ledger_of (by decide) (da_cons (de_methP F T.P_Scheme_shortened (by decide) T.cl_Scheme T.mt_Scheme_shortened (by rw [T.fn_Scheme]; decide +kernel) (de_var (i := 3) (fun _ => rfl) (fun _ => .inr (.inl rfl)) (by decide) (by decide)) (da_cons (de_var (i := 8) (fun _ => rfl) (fun _ => .inl rfl) (by decide) (by decide)) da_nil (fun _ => rfl)) (fun _ => rfl) (fun _ => rfl) (fun _ => rfl)) (da_cons (de_var (i := 4) (fun _ => rfl) (fun _ => .inl rfl) (by decide) (by decide)) da_nil (fun _ => rfl)) (fun _ => rfl)) (fun _ => rfl) T.g_ledger_of T.k_ledger_of (by decide) (fun _ => rfl) (fun _ => rfl)) da_nil (fun _ => rfl)) (fun _ => rfl))) (fun _ => rfl))
  (dss_one (ds_if (dt_cmp (neD_at F.toFamH) snd_ne (de_callB F.toFamH (call_reprC F.toFamH) snd_repr (da_cons (de_var (i := 10) (fun _ => rfl) (fun _ => .inl rfl) (by decide) (by decide)) da_nil (fun _ => rfl)) (fun _ => rfl) T.z_repr rfl (by decide) (by decide) (fun _ => rfl) (fun _ => rfl)) (de_callB F.toFamH (call_reprC F.toFamH) snd_repr (da_cons (de_lst false (da_cons (de_var (i := 9) (fun _ => rfl) (fun _ => .inl rfl) (by decide) (by decide)) (da_cons (de_var (i := 9) (fun _ => rfl) (fun _ => .inl rfl) (by decide) (by decide)) da_nil (fun _ => rfl)) (fun _ => rfl))) da_nil (fun _ => rfl)) (fun _ => rfl) T.z_repr rfl (by decide) (by decide) (fun _ => rfl) (fun _ => rfl)) rfl) (dss_one (ds_ret de_bl)) dss_nil)))) owns_fn (fun _ _ => rfl))))))))) owns_fn (fun _ _ => rfl))
  (dss_one (ds_ret de_bl))))
theorem B_law : FnB G 9 T.f_law T.d_law ["_law_script"] (m_law G) := FnB.of T.F_law sc_law T.e_law
theorem P_law : FnP G 9 T.f_law (mp_law G) := T.B_law.pos T.b_law
end Txt
end K07

set_option Elab.async false
set_option linter.all false
set_option maxRecDepth 100000
set_option maxHeartbeats 4000000
namespace K07
open PySem PySem.Spec PyProof.Rows L2 DL
section
variable {G : Gx} {S : Sto}
/-! ### numbers -/
theorem reduced_modulo_eq {p x : Int} (h : 0 < p) (h2 : p < 2 ^ 40) : m_reduced_modulo G [.int x, .int p] S = .ok (.int (red p x)) S := by
  refine eq_wp ?_
  rw [m_reduced_modulo, fnR_eq]
  show wp (ret S (c_reduced_modulo G [some (.int x), some (.int p), none] S)) _
  unfold c_reduced_modulo
  have h1 := Int.emod_nonneg x (show p ≠ 0 by omega)
  have h3 := Int.emod_lt_of_pos x h
  unfold red
  by_cases hc : p < 2 * (x % p)
  · (try simp -implicitDefEqProofs (disch := first | omega | (simp only [List.length_map, List.length_cons, List.length_nil, List.length_range, List.length_append, List.length_replicate]; omega)) only [DL.e_d, DL.e_op, DL.e_un, DL.e_test, DL.e_asB, DL.e_and, DL.e_or, DL.e_not, DL.e_if, DL.e_andV, DL.e_orV, DL.e_notV, DL.e_chain, DL.e_nil, DL.e_cons, DL.e_tup, DL.e_lst, DL.e_cb, DL.e_callK, DL.e_meth, DL.e_methP, DL.e_smeth, DL.e_cval, DL.e_fld, DL.e_prop, DL.e_star, DL.e_ps0, DL.e_ps, DL.e_dispK, DL.e_dispT, DL.e_dK0, DL.e_dT0, DL.e_frz, DL.e_no, DL.e_part, DL.e_sl, DL.s_set, DL.s_asg, DL.s_nx, DL.s_seq, DL.s_expr, DL.s_ret, DL.s_retN, DL.s_brk, DL.s_cont, DL.s_stuck, DL.s_ifS, DL.s_aug, DL.s_par, DL.s_par3, DL.s_setI, DL.s_fldS, DL.g_name_eq, DL.g_nil_eq, DL.g_cons_eq, DL.g_tup_eq, DL.v_add, DL.v_addI, DL.v_sub, DL.v_neg, DL.v_lt, DL.v_le, DL.v_gt, DL.v_ge, DL.v_eq, DL.v_isN, DL.v_tupcat, DL.Res.bind_ok, DL.Res.bindN_ok, DL.ret_rt, DL.ret_nx, DL.ev_v0, DL.ev_vs, DL.ev_a1, DL.ev_a2, DL.ev_a3, DL.ev_a4, List.set_cons_zero, List.set_cons_succ, decide_true, decide_false, Bool.not_true, Bool.not_false, if_true, Bool.false_eq_true, if_false, DL.e_cb, DL.e_yes, DL.wp_ok, DL.wp_bind, DL.wp_bindN, DL.wp_ret, DL.retQ_rt, DL.retQ_nx, DL.wp_fin, DL.FQ_nx, DL.FQ_ct, DL.FQ_bk, DL.FQ_rt, DL.addO_some, DL.addO_none, DL.isCon_self, DL.v_mulC, DL.v_fdivC, DL.v_modC, DL.ix_t0, DL.ix_t1, DL.ix_t2, DL.ix_l0, DL.ix_l1, DL.ix_l2, DL.isi_int_int, DL.isi_int_bool, DL.min2_eq, DL.max2_eq, DL.tup_f, DL.lst_f, DL.list_tup, DL.list_lst, DL.tuple_lst, DL.len_lst, DL.len_tup, DL.wipeE, DL.lcB, DL.cls_obj, DL.flds_obj, DL.isiO_obj, DL.v_augS, DL.v_methK, DL.v_makeK, DL.ev_a5, DL.ev_a6, DL.ev_a7, DL.v_mulB, eq_self, and_self, List.length_nil, List.length_cons, List.getElem?_cons_zero, List.getElem?_cons_succ, DL.list_tup_t, List.append_assoc, List.nil_append, List.cons_append, hc])
    all_goals first | exact ⟨rfl, trivial⟩ | exact ⟨trivial, trivial⟩ | exact trivial | exact ⟨rfl, rfl⟩
  · (try simp -implicitDefEqProofs (disch := first | omega | (simp only [List.length_map, List.length_cons, List.length_nil, List.length_range, List.length_append, List.length_replicate]; omega)) only [DL.e_d, DL.e_op, DL.e_un, DL.e_test, DL.e_asB, DL.e_and, DL.e_or, DL.e_not, DL.e_if, DL.e_andV, DL.e_orV, DL.e_notV, DL.e_chain, DL.e_nil, DL.e_cons, DL.e_tup, DL.e_lst, DL.e_cb, DL.e_callK, DL.e_meth, DL.e_methP, DL.e_smeth, DL.e_cval, DL.e_fld, DL.e_prop, DL.e_star, DL.e_ps0, DL.e_ps, DL.e_dispK, DL.e_dispT, DL.e_dK0, DL.e_dT0, DL.e_frz, DL.e_no, DL.e_part, DL.e_sl, DL.s_set, DL.s_asg, DL.s_nx, DL.s_seq, DL.s_expr, DL.s_ret, DL.s_retN, DL.s_brk, DL.s_cont, DL.s_stuck, DL.s_ifS, DL.s_aug, DL.s_par, DL.s_par3, DL.s_setI, DL.s_fldS, DL.g_name_eq, DL.g_nil_eq, DL.g_cons_eq, DL.g_tup_eq, DL.v_add, DL.v_addI, DL.v_sub, DL.v_neg, DL.v_lt, DL.v_le, DL.v_gt, DL.v_ge, DL.v_eq, DL.v_isN, DL.v_tupcat, DL.Res.bind_ok, DL.Res.bindN_ok, DL.ret_rt, DL.ret_nx, DL.ev_v0, DL.ev_vs, DL.ev_a1, DL.ev_a2, DL.ev_a3, DL.ev_a4, List.set_cons_zero, List.set_cons_succ, decide_true, decide_false, Bool.not_true, Bool.not_false, if_true, Bool.false_eq_true, if_false, DL.e_cb, DL.e_yes, DL.wp_ok, DL.wp_bind, DL.wp_bindN, DL.wp_ret, DL.retQ_rt, DL.retQ_nx, DL.wp_fin, DL.FQ_nx, DL.FQ_ct, DL.FQ_bk, DL.FQ_rt, DL.addO_some, DL.addO_none, DL.isCon_self, DL.v_mulC, DL.v_fdivC, DL.v_modC, DL.ix_t0, DL.ix_t1, DL.ix_t2, DL.ix_l0, DL.ix_l1, DL.ix_l2, DL.isi_int_int, DL.isi_int_bool, DL.min2_eq, DL.max2_eq, DL.tup_f, DL.lst_f, DL.list_tup, DL.list_lst, DL.tuple_lst, DL.len_lst, DL.len_tup, DL.wipeE, DL.lcB, DL.cls_obj, DL.flds_obj, DL.isiO_obj, DL.v_augS, DL.v_methK, DL.v_makeK, DL.ev_a5, DL.ev_a6, DL.ev_a7, DL.v_mulB, eq_self, and_self, List.length_nil, List.length_cons, List.getElem?_cons_zero, List.getElem?_cons_succ, DL.list_tup_t, List.append_assoc, List.nil_append, List.cons_append, hc])
    all_goals first | exact ⟨rfl, trivial⟩ | exact ⟨trivial, trivial⟩ | exact trivial | exact ⟨rfl, rfl⟩
/-! ### primes -/
def powF : Nat → Int → Int → Int → Int → Int
  | 0, r, _, _, _ => r
  | f + 1, r, s, l, p => if 0 < l then powF f (if l % 2 = 1 then r * s % p else r) (s * s % p) (l / 2) p else r
theorem power_of_eq {b e p : Int} (f : Nat) (hp : 1 < p) (hp2 : p < 2 ^ 32) (he : 0 ≤ e) (he2 : e < 2 ^ f) (hf : f ≤ 1000) : m_power_of G [.int b, .int e, .int p] S = .ok (.int (red p (powF f 1 (b % p) e p))) S := by
  refine eq_wp ?_
  rw [m_power_of, fnR_eq]
  show wp (ret S (c_power_of G [some (.int b), some (.int e), some (.int p), none, none, none] S)) _
  unfold c_power_of
  have b0 := Int.emod_nonneg b (show p ≠ 0 by omega)
  have b1 := Int.emod_lt_of_pos b (show 0 < p by omega)
  (try simp -implicitDefEqProofs (disch := first | omega | (simp only [List.length_map, List.length_cons, List.length_nil, List.length_range, List.length_append, List.length_replicate]; omega)) only [DL.e_d, DL.e_op, DL.e_un, DL.e_test, DL.e_asB, DL.e_and, DL.e_or, DL.e_not, DL.e_if, DL.e_andV, DL.e_orV, DL.e_notV, DL.e_chain, DL.e_nil, DL.e_cons, DL.e_tup, DL.e_lst, DL.e_cb, DL.e_callK, DL.e_meth, DL.e_methP, DL.e_smeth, DL.e_cval, DL.e_fld, DL.e_prop, DL.e_star, DL.e_ps0, DL.e_ps, DL.e_dispK, DL.e_dispT, DL.e_dK0, DL.e_dT0, DL.e_frz, DL.e_no, DL.e_part, DL.e_sl, DL.s_set, DL.s_asg, DL.s_nx, DL.s_seq, DL.s_expr, DL.s_ret, DL.s_retN, DL.s_brk, DL.s_cont, DL.s_stuck, DL.s_ifS, DL.s_aug, DL.s_par, DL.s_par3, DL.s_setI, DL.s_fldS, DL.g_name_eq, DL.g_nil_eq, DL.g_cons_eq, DL.g_tup_eq, DL.v_add, DL.v_addI, DL.v_sub, DL.v_neg, DL.v_lt, DL.v_le, DL.v_gt, DL.v_ge, DL.v_eq, DL.v_isN, DL.v_tupcat, DL.Res.bind_ok, DL.Res.bindN_ok, DL.ret_rt, DL.ret_nx, DL.ev_v0, DL.ev_vs, DL.ev_a1, DL.ev_a2, DL.ev_a3, DL.ev_a4, List.set_cons_zero, List.set_cons_succ, decide_true, decide_false, Bool.not_true, Bool.not_false, if_true, Bool.false_eq_true, if_false, DL.e_cb, DL.e_yes, DL.wp_ok, DL.wp_bind, DL.wp_bindN, DL.wp_ret, DL.retQ_rt, DL.retQ_nx, DL.wp_fin, DL.FQ_nx, DL.FQ_ct, DL.FQ_bk, DL.FQ_rt, DL.addO_some, DL.addO_none, DL.isCon_self, DL.v_mulC, DL.v_fdivC, DL.v_modC, DL.ix_t0, DL.ix_t1, DL.ix_t2, DL.ix_l0, DL.ix_l1, DL.ix_l2, DL.isi_int_int, DL.isi_int_bool, DL.min2_eq, DL.max2_eq, DL.tup_f, DL.lst_f, DL.list_tup, DL.list_lst, DL.tuple_lst, DL.len_lst, DL.len_tup, DL.wipeE, DL.lcB, DL.cls_obj, DL.flds_obj, DL.isiO_obj, DL.v_augS, DL.v_methK, DL.v_makeK, DL.ev_a5, DL.ev_a6, DL.ev_a7, DL.v_mulB, eq_self, and_self, List.length_nil, List.length_cons, List.getElem?_cons_zero, List.getElem?_cons_succ, DL.list_tup_t, List.append_assoc, List.nil_append, List.cons_append])
  refine wp_while f (fun m ρ S' => ∃ r s l : Int, ρ = [some (.int b), some (.int e), some (.int p), some (.int r), some (.int s), some (.int l)] ∧ S' = S ∧ 0 ≤ r ∧ r < p ∧ 0 ≤ s ∧ s < p ∧ 0 ≤ l ∧ l < 2 ^ m ∧ powF m r s l p = powF f 1 (b % p) e p) (by omega) ⟨1, b % p, e, rfl, rfl, by omega, hp, b0, b1, he, he2, rfl⟩ ?_
  rintro m ρ S' ⟨r, s, l, rfl, rfl, r0, r1, s0, s1, l0, l1, hr⟩
  by_cases hc : 0 < l
  · obtain ⟨m, rfl⟩ : ∃ k, m = k + 1 := by
      cases m with
      | zero => exact absurd l1 (by simp; omega)
      | succ k => exact ⟨k, rfl⟩
    have hl : l / 2 < 2 ^ m := by rw [Int.pow_succ] at l1; omega
    have q1 := Int.emod_nonneg (r * s) (show p ≠ 0 by omega)
    have q2 := Int.emod_lt_of_pos (r * s) (show 0 < p by omega)
    have q3 := Int.emod_nonneg (s * s) (show p ≠ 0 by omega)
    have q4 := Int.emod_lt_of_pos (s * s) (show 0 < p by omega)
    rw [powF.eq_2, if_pos hc] at hr
    by_cases h2 : l % 2 = 1
    · (try simp -implicitDefEqProofs (disch := first | omega | (simp only [List.length_map, List.length_cons, List.length_nil, List.length_range, List.length_append, List.length_replicate]; omega)) only [DL.e_d, DL.e_op, DL.e_un, DL.e_test, DL.e_asB, DL.e_and, DL.e_or, DL.e_not, DL.e_if, DL.e_andV, DL.e_orV, DL.e_notV, DL.e_chain, DL.e_nil, DL.e_cons, DL.e_tup, DL.e_lst, DL.e_cb, DL.e_callK, DL.e_meth, DL.e_methP, DL.e_smeth, DL.e_cval, DL.e_fld, DL.e_prop, DL.e_star, DL.e_ps0, DL.e_ps, DL.e_dispK, DL.e_dispT, DL.e_dK0, DL.e_dT0, DL.e_frz, DL.e_no, DL.e_part, DL.e_sl, DL.s_set, DL.s_asg, DL.s_nx, DL.s_seq, DL.s_expr, DL.s_ret, DL.s_retN, DL.s_brk, DL.s_cont, DL.s_stuck, DL.s_ifS, DL.s_aug, DL.s_par, DL.s_par3, DL.s_setI, DL.s_fldS, DL.g_name_eq, DL.g_nil_eq, DL.g_cons_eq, DL.g_tup_eq, DL.v_add, DL.v_addI, DL.v_sub, DL.v_neg, DL.v_lt, DL.v_le, DL.v_gt, DL.v_ge, DL.v_eq, DL.v_isN, DL.v_tupcat, DL.Res.bind_ok, DL.Res.bindN_ok, DL.ret_rt, DL.ret_nx, DL.ev_v0, DL.ev_vs, DL.ev_a1, DL.ev_a2, DL.ev_a3, DL.ev_a4, List.set_cons_zero, List.set_cons_succ, decide_true, decide_false, Bool.not_true, Bool.not_false, if_true, Bool.false_eq_true, if_false, DL.e_cb, DL.e_yes, DL.wp_ok, DL.wp_bind, DL.wp_bindN, DL.wp_ret, DL.retQ_rt, DL.retQ_nx, DL.wp_fin, DL.FQ_nx, DL.FQ_ct, DL.FQ_bk, DL.FQ_rt, DL.addO_some, DL.addO_none, DL.isCon_self, DL.v_mulC, DL.v_fdivC, DL.v_modC, DL.ix_t0, DL.ix_t1, DL.ix_t2, DL.ix_l0, DL.ix_l1, DL.ix_l2, DL.isi_int_int, DL.isi_int_bool, DL.min2_eq, DL.max2_eq, DL.tup_f, DL.lst_f, DL.list_tup, DL.list_lst, DL.tuple_lst, DL.len_lst, DL.len_tup, DL.wipeE, DL.lcB, DL.cls_obj, DL.flds_obj, DL.isiO_obj, DL.v_augS, DL.v_methK, DL.v_makeK, DL.ev_a5, DL.ev_a6, DL.ev_a7, DL.v_mulB, eq_self, and_self, List.length_nil, List.length_cons, List.getElem?_cons_zero, List.getElem?_cons_succ, DL.list_tup_t, List.append_assoc, List.nil_append, List.cons_append, hc, h2])
      rw [if_pos h2] at hr
      exact ⟨m, by omega, _, _, _, rfl, trivial, q1, q2, q3, q4, by omega, hl, hr⟩
    · (try simp -implicitDefEqProofs (disch := first | omega | (simp only [List.length_map, List.length_cons, List.length_nil, List.length_range, List.length_append, List.length_replicate]; omega)) only [DL.e_d, DL.e_op, DL.e_un, DL.e_test, DL.e_asB, DL.e_and, DL.e_or, DL.e_not, DL.e_if, DL.e_andV, DL.e_orV, DL.e_notV, DL.e_chain, DL.e_nil, DL.e_cons, DL.e_tup, DL.e_lst, DL.e_cb, DL.e_callK, DL.e_meth, DL.e_methP, DL.e_smeth, DL.e_cval, DL.e_fld, DL.e_prop, DL.e_star, DL.e_ps0, DL.e_ps, DL.e_dispK, DL.e_dispT, DL.e_dK0, DL.e_dT0, DL.e_frz, DL.e_no, DL.e_part, DL.e_sl, DL.s_set, DL.s_asg, DL.s_nx, DL.s_seq, DL.s_expr, DL.s_ret, DL.s_retN, DL.s_brk, DL.s_cont, DL.s_stuck, DL.s_ifS, DL.s_aug, DL.s_par, DL.s_par3, DL.s_setI, DL.s_fldS, DL.g_name_eq, DL.g_nil_eq, DL.g_cons_eq, DL.g_tup_eq, DL.v_add, DL.v_addI, DL.v_sub, DL.v_neg, DL.v_lt, DL.v_le, DL.v_gt, DL.v_ge, DL.v_eq, DL.v_isN, DL.v_tupcat, DL.Res.bind_ok, DL.Res.bindN_ok, DL.ret_rt, DL.ret_nx, DL.ev_v0, DL.ev_vs, DL.ev_a1, DL.ev_a2, DL.ev_a3, DL.ev_a4, List.set_cons_zero, List.set_cons_succ, decide_true, decide_false, Bool.not_true, Bool.not_false, if_true, Bool.false_eq_true, if_false, DL.e_cb, DL.e_yes, DL.wp_ok, DL.wp_bind, DL.wp_bindN, DL.wp_ret, DL.retQ_rt, DL.retQ_nx, DL.wp_fin, DL.FQ_nx, DL.FQ_ct, DL.FQ_bk, DL.FQ_rt, DL.addO_some, DL.addO_none, DL.isCon_self, DL.v_mulC, DL.v_fdivC, DL.v_modC, DL.ix_t0, DL.ix_t1, DL.ix_t2, DL.ix_l0, DL.ix_l1, DL.ix_l2, DL.isi_int_int, DL.isi_int_bool, DL.min2_eq, DL.max2_eq, DL.tup_f, DL.lst_f, DL.list_tup, DL.list_lst, DL.tuple_lst, DL.len_lst, DL.len_tup, DL.wipeE, DL.lcB, DL.cls_obj, DL.flds_obj, DL.isiO_obj, DL.v_augS, DL.v_methK, DL.v_makeK, DL.ev_a5, DL.ev_a6, DL.ev_a7, DL.v_mulB, eq_self, and_self, List.length_nil, List.length_cons, List.getElem?_cons_zero, List.getElem?_cons_succ, DL.list_tup_t, List.append_assoc, List.nil_append, List.cons_append, hc, h2])
      rw [if_neg h2] at hr
      exact ⟨m, by omega, _, _, _, rfl, trivial, r0, r1, q3, q4, by omega, hl, hr⟩
  · have hr2 : powF m r s l p = r := by
      cases m with
      | zero => rfl
      | succ m => unfold powF; rw [if_neg hc]
    rw [hr2] at hr
    (try simp -implicitDefEqProofs (disch := first | omega | (simp only [List.length_map, List.length_cons, List.length_nil, List.length_range, List.length_append, List.length_replicate]; omega)) only [DL.e_d, DL.e_op, DL.e_un, DL.e_test, DL.e_asB, DL.e_and, DL.e_or, DL.e_not, DL.e_if, DL.e_andV, DL.e_orV, DL.e_notV, DL.e_chain, DL.e_nil, DL.e_cons, DL.e_tup, DL.e_lst, DL.e_cb, DL.e_callK, DL.e_meth, DL.e_methP, DL.e_smeth, DL.e_cval, DL.e_fld, DL.e_prop, DL.e_star, DL.e_ps0, DL.e_ps, DL.e_dispK, DL.e_dispT, DL.e_dK0, DL.e_dT0, DL.e_frz, DL.e_no, DL.e_part, DL.e_sl, DL.s_set, DL.s_asg, DL.s_nx, DL.s_seq, DL.s_expr, DL.s_ret, DL.s_retN, DL.s_brk, DL.s_cont, DL.s_stuck, DL.s_ifS, DL.s_aug, DL.s_par, DL.s_par3, DL.s_setI, DL.s_fldS, DL.g_name_eq, DL.g_nil_eq, DL.g_cons_eq, DL.g_tup_eq, DL.v_add, DL.v_addI, DL.v_sub, DL.v_neg, DL.v_lt, DL.v_le, DL.v_gt, DL.v_ge, DL.v_eq, DL.v_isN, DL.v_tupcat, DL.Res.bind_ok, DL.Res.bindN_ok, DL.ret_rt, DL.ret_nx, DL.ev_v0, DL.ev_vs, DL.ev_a1, DL.ev_a2, DL.ev_a3, DL.ev_a4, List.set_cons_zero, List.set_cons_succ, decide_true, decide_false, Bool.not_true, Bool.not_false, if_true, Bool.false_eq_true, if_false, DL.e_cb, DL.e_yes, DL.wp_ok, DL.wp_bind, DL.wp_bindN, DL.wp_ret, DL.retQ_rt, DL.retQ_nx, DL.wp_fin, DL.FQ_nx, DL.FQ_ct, DL.FQ_bk, DL.FQ_rt, DL.addO_some, DL.addO_none, DL.isCon_self, DL.v_mulC, DL.v_fdivC, DL.v_modC, DL.ix_t0, DL.ix_t1, DL.ix_t2, DL.ix_l0, DL.ix_l1, DL.ix_l2, DL.isi_int_int, DL.isi_int_bool, DL.min2_eq, DL.max2_eq, DL.tup_f, DL.lst_f, DL.list_tup, DL.list_lst, DL.tuple_lst, DL.len_lst, DL.len_tup, DL.wipeE, DL.lcB, DL.cls_obj, DL.flds_obj, DL.isiO_obj, DL.v_augS, DL.v_methK, DL.v_makeK, DL.ev_a5, DL.ev_a6, DL.ev_a7, DL.v_mulB, eq_self, and_self, List.length_nil, List.length_cons, List.getElem?_cons_zero, List.getElem?_cons_succ, DL.list_tup_t, List.append_assoc, List.nil_append, List.cons_append, hc, mp_reduced_modulo, reduced_modulo_eq (S := S') (G := G) (p := p) (x := r)])
    rw [hr]
    all_goals first | exact ⟨rfl, trivial⟩ | exact ⟨trivial, trivial⟩ | exact trivial | exact ⟨rfl, rfl⟩
def is1 (x : Int) : Bool := (1 == x) || ((-1 == x) || false)
/-- n - 1 = odd * 2 ^ twos -/
def oddF : Nat → Int → Int → Int × Int
  | 0, o, t => (o, t)
  | f + 1, o, t => if o % 2 = 0 then oddF f (o / 2) (t + 1) else (o, t)
def sqF : Nat → Int → Int → Bool
  | 0, _, _ => false
  | t + 1, w, n => if red n (w * w) = -1 then true else sqF t (red n (w * w)) n
def isPb (n b : Int) : Bool :=
  let o := oddF 40 (n - 1) 0
  let w := red n (powF 40 1 (b % n) o.1 n)
  if is1 w = true then true else sqF (o.2 - 1).toNat w n
def divs (n : Int) : List Int → Option Bool
  | [] => none
  | x :: l => if n % x = 0 then some (decide (n = x)) else divs n l
def isPr (n : Int) : Bool := (divs n [2, 3, 5, 7]).getD (([2, 3, 5, 7] : List Int).all (isPb n))
theorem is_probable_eq {n b : Int} (h3 : 3 < n) (hn : n < 2 ^ 31) : m_is_probable G [.int n, .int b] S = .ok (.bl (isPb n b)) S := by
  refine eq_wp ?_
  rw [m_is_probable, fnR_eq]
  show wp (ret S (c_is_probable G [some (.int n), some (.int b), none, none, none, none] S)) _
  unfold c_is_probable
  (try simp -implicitDefEqProofs (disch := first | omega | (simp only [List.length_map, List.length_cons, List.length_nil, List.length_range, List.length_append, List.length_replicate]; omega)) only [DL.e_d, DL.e_op, DL.e_un, DL.e_test, DL.e_asB, DL.e_and, DL.e_or, DL.e_not, DL.e_if, DL.e_andV, DL.e_orV, DL.e_notV, DL.e_chain, DL.e_nil, DL.e_cons, DL.e_tup, DL.e_lst, DL.e_cb, DL.e_callK, DL.e_meth, DL.e_methP, DL.e_smeth, DL.e_cval, DL.e_fld, DL.e_prop, DL.e_star, DL.e_ps0, DL.e_ps, DL.e_dispK, DL.e_dispT, DL.e_dK0, DL.e_dT0, DL.e_frz, DL.e_no, DL.e_part, DL.e_sl, DL.s_set, DL.s_asg, DL.s_nx, DL.s_seq, DL.s_expr, DL.s_ret, DL.s_retN, DL.s_brk, DL.s_cont, DL.s_stuck, DL.s_ifS, DL.s_aug, DL.s_par, DL.s_par3, DL.s_setI, DL.s_fldS, DL.g_name_eq, DL.g_nil_eq, DL.g_cons_eq, DL.g_tup_eq, DL.v_add, DL.v_addI, DL.v_sub, DL.v_neg, DL.v_lt, DL.v_le, DL.v_gt, DL.v_ge, DL.v_eq, DL.v_isN, DL.v_tupcat, DL.Res.bind_ok, DL.Res.bindN_ok, DL.ret_rt, DL.ret_nx, DL.ev_v0, DL.ev_vs, DL.ev_a1, DL.ev_a2, DL.ev_a3, DL.ev_a4, List.set_cons_zero, List.set_cons_succ, decide_true, decide_false, Bool.not_true, Bool.not_false, if_true, Bool.false_eq_true, if_false, DL.e_cb, DL.e_yes, DL.wp_ok, DL.wp_bind, DL.wp_bindN, DL.wp_ret, DL.retQ_rt, DL.retQ_nx, DL.wp_fin, DL.FQ_nx, DL.FQ_ct, DL.FQ_bk, DL.FQ_rt, DL.addO_some, DL.addO_none, DL.isCon_self, DL.v_mulC, DL.v_fdivC, DL.v_modC, DL.ix_t0, DL.ix_t1, DL.ix_t2, DL.ix_l0, DL.ix_l1, DL.ix_l2, DL.isi_int_int, DL.isi_int_bool, DL.min2_eq, DL.max2_eq, DL.tup_f, DL.lst_f, DL.list_tup, DL.list_lst, DL.tuple_lst, DL.len_lst, DL.len_tup, DL.wipeE, DL.lcB, DL.cls_obj, DL.flds_obj, DL.isiO_obj, DL.v_augS, DL.v_methK, DL.v_makeK, DL.ev_a5, DL.ev_a6, DL.ev_a7, DL.v_mulB, eq_self, and_self, List.length_nil, List.length_cons, List.getElem?_cons_zero, List.getElem?_cons_succ, DL.list_tup_t, List.append_assoc, List.nil_append, List.cons_append])
  refine wp_while 40 (fun m ρ S' => ∃ o t : Int, ρ = [some (.int n), some (.int b), some (.int o), some (.int t), none, none] ∧ S' = S ∧ 0 < o ∧ o < 2 ^ m ∧ o < n ∧ 0 ≤ t ∧ t ≤ 40 - m ∧ oddF m o t = oddF 40 (n - 1) 0) (by omega) ⟨n - 1, 0, rfl, rfl, by omega, by omega, by omega, by omega, by omega, rfl⟩ ?_
  rintro m ρ S' ⟨o, t, rfl, rfl, o0, o1, o2, t0, t1, hr⟩
  by_cases hc : o % 2 = 0
  · obtain ⟨m, rfl⟩ : ∃ k, m = k + 1 := by
      cases m with
      | zero => exact absurd o1 (by simp; omega)
      | succ k => exact ⟨k, rfl⟩
    have hl : o / 2 < 2 ^ m := by rw [Int.pow_succ] at o1; omega
    rw [oddF.eq_2, if_pos hc] at hr
    (try simp -implicitDefEqProofs (disch := first | omega | (simp only [List.length_map, List.length_cons, List.length_nil, List.length_range, List.length_append, List.length_replicate]; omega)) only [DL.e_d, DL.e_op, DL.e_un, DL.e_test, DL.e_asB, DL.e_and, DL.e_or, DL.e_not, DL.e_if, DL.e_andV, DL.e_orV, DL.e_notV, DL.e_chain, DL.e_nil, DL.e_cons, DL.e_tup, DL.e_lst, DL.e_cb, DL.e_callK, DL.e_meth, DL.e_methP, DL.e_smeth, DL.e_cval, DL.e_fld, DL.e_prop, DL.e_star, DL.e_ps0, DL.e_ps, DL.e_dispK, DL.e_dispT, DL.e_dK0, DL.e_dT0, DL.e_frz, DL.e_no, DL.e_part, DL.e_sl, DL.s_set, DL.s_asg, DL.s_nx, DL.s_seq, DL.s_expr, DL.s_ret, DL.s_retN, DL.s_brk, DL.s_cont, DL.s_stuck, DL.s_ifS, DL.s_aug, DL.s_par, DL.s_par3, DL.s_setI, DL.s_fldS, DL.g_name_eq, DL.g_nil_eq, DL.g_cons_eq, DL.g_tup_eq, DL.v_add, DL.v_addI, DL.v_sub, DL.v_neg, DL.v_lt, DL.v_le, DL.v_gt, DL.v_ge, DL.v_eq, DL.v_isN, DL.v_tupcat, DL.Res.bind_ok, DL.Res.bindN_ok, DL.ret_rt, DL.ret_nx, DL.ev_v0, DL.ev_vs, DL.ev_a1, DL.ev_a2, DL.ev_a3, DL.ev_a4, List.set_cons_zero, List.set_cons_succ, decide_true, decide_false, Bool.not_true, Bool.not_false, if_true, Bool.false_eq_true, if_false, DL.e_cb, DL.e_yes, DL.wp_ok, DL.wp_bind, DL.wp_bindN, DL.wp_ret, DL.retQ_rt, DL.retQ_nx, DL.wp_fin, DL.FQ_nx, DL.FQ_ct, DL.FQ_bk, DL.FQ_rt, DL.addO_some, DL.addO_none, DL.isCon_self, DL.v_mulC, DL.v_fdivC, DL.v_modC, DL.ix_t0, DL.ix_t1, DL.ix_t2, DL.ix_l0, DL.ix_l1, DL.ix_l2, DL.isi_int_int, DL.isi_int_bool, DL.min2_eq, DL.max2_eq, DL.tup_f, DL.lst_f, DL.list_tup, DL.list_lst, DL.tuple_lst, DL.len_lst, DL.len_tup, DL.wipeE, DL.lcB, DL.cls_obj, DL.flds_obj, DL.isiO_obj, DL.v_augS, DL.v_methK, DL.v_makeK, DL.ev_a5, DL.ev_a6, DL.ev_a7, DL.v_mulB, eq_self, and_self, List.length_nil, List.length_cons, List.getElem?_cons_zero, List.getElem?_cons_succ, DL.list_tup_t, List.append_assoc, List.nil_append, List.cons_append, hc])
    exact ⟨m, by omega, _, _, rfl, trivial, by omega, hl, by omega, by omega, by omega, hr⟩
  · have hr2 : oddF m o t = (o, t) := by
      cases m with
      | zero => rfl
      | succ m => rw [oddF.eq_2, if_neg hc]
    rw [hr2] at hr
    have hm : m ≤ 40 := by omega
    (try simp -implicitDefEqProofs (disch := first | omega | (simp only [List.length_map, List.length_cons, List.length_nil, List.length_range, List.length_append, List.length_replicate]; omega)) only [DL.e_d, DL.e_op, DL.e_un, DL.e_test, DL.e_asB, DL.e_and, DL.e_or, DL.e_not, DL.e_if, DL.e_andV, DL.e_orV, DL.e_notV, DL.e_chain, DL.e_nil, DL.e_cons, DL.e_tup, DL.e_lst, DL.e_cb, DL.e_callK, DL.e_meth, DL.e_methP, DL.e_smeth, DL.e_cval, DL.e_fld, DL.e_prop, DL.e_star, DL.e_ps0, DL.e_ps, DL.e_dispK, DL.e_dispT, DL.e_dK0, DL.e_dT0, DL.e_frz, DL.e_no, DL.e_part, DL.e_sl, DL.s_set, DL.s_asg, DL.s_nx, DL.s_seq, DL.s_expr, DL.s_ret, DL.s_retN, DL.s_brk, DL.s_cont, DL.s_stuck, DL.s_ifS, DL.s_aug, DL.s_par, DL.s_par3, DL.s_setI, DL.s_fldS, DL.g_name_eq, DL.g_nil_eq, DL.g_cons_eq, DL.g_tup_eq, DL.v_add, DL.v_addI, DL.v_sub, DL.v_neg, DL.v_lt, DL.v_le, DL.v_gt, DL.v_ge, DL.v_eq, DL.v_isN, DL.v_tupcat, DL.Res.bind_ok, DL.Res.bindN_ok, DL.ret_rt, DL.ret_nx, DL.ev_v0, DL.ev_vs, DL.ev_a1, DL.ev_a2, DL.ev_a3, DL.ev_a4, List.set_cons_zero, List.set_cons_succ, decide_true, decide_false, Bool.not_true, Bool.not_false, if_true, Bool.false_eq_true, if_false, DL.e_cb, DL.e_yes, DL.wp_ok, DL.wp_bind, DL.wp_bindN, DL.wp_ret, DL.retQ_rt, DL.retQ_nx, DL.wp_fin, DL.FQ_nx, DL.FQ_ct, DL.FQ_bk, DL.FQ_rt, DL.addO_some, DL.addO_none, DL.isCon_self, DL.v_mulC, DL.v_fdivC, DL.v_modC, DL.ix_t0, DL.ix_t1, DL.ix_t2, DL.ix_l0, DL.ix_l1, DL.ix_l2, DL.isi_int_int, DL.isi_int_bool, DL.min2_eq, DL.max2_eq, DL.tup_f, DL.lst_f, DL.list_tup, DL.list_lst, DL.tuple_lst, DL.len_lst, DL.len_tup, DL.wipeE, DL.lcB, DL.cls_obj, DL.flds_obj, DL.isiO_obj, DL.v_augS, DL.v_methK, DL.v_makeK, DL.ev_a5, DL.ev_a6, DL.ev_a7, DL.v_mulB, eq_self, and_self, List.length_nil, List.length_cons, List.getElem?_cons_zero, List.getElem?_cons_succ, DL.list_tup_t, List.append_assoc, List.nil_append, List.cons_append, hc, mp_power_of, power_of_eq (S := S') (G := G) (b := b) (e := o) (p := n) 40 (by omega) (by omega) (by omega) (by omega) (by omega)])
    have hw : isPb n b = if is1 (red n (powF 40 1 (b % n) o n)) = true then true else sqF (t - 1).toNat (red n (powF 40 1 (b % n) o n)) n := by
      unfold isPb
      rw [← hr]
    rw [hw]
    generalize hwv : red n (powF 40 1 (b % n) o n) = w
    have w0 := red_range (p := n) (x := powF 40 1 (b % n) o n) (by omega)
    rw [hwv] at w0
    have hin : p_in false (.int w) (.tup [.int 1, .int (-1)]) S' = .ok (.bl (is1 w)) S' := rfl
    (try simp -implicitDefEqProofs (disch := first | omega | (simp only [List.length_map, List.length_cons, List.length_nil, List.length_range, List.length_append, List.length_replicate]; omega)) only [DL.e_d, DL.e_op, DL.e_un, DL.e_test, DL.e_asB, DL.e_and, DL.e_or, DL.e_not, DL.e_if, DL.e_andV, DL.e_orV, DL.e_notV, DL.e_chain, DL.e_nil, DL.e_cons, DL.e_tup, DL.e_lst, DL.e_cb, DL.e_callK, DL.e_meth, DL.e_methP, DL.e_smeth, DL.e_cval, DL.e_fld, DL.e_prop, DL.e_star, DL.e_ps0, DL.e_ps, DL.e_dispK, DL.e_dispT, DL.e_dK0, DL.e_dT0, DL.e_frz, DL.e_no, DL.e_part, DL.e_sl, DL.s_set, DL.s_asg, DL.s_nx, DL.s_seq, DL.s_expr, DL.s_ret, DL.s_retN, DL.s_brk, DL.s_cont, DL.s_stuck, DL.s_ifS, DL.s_aug, DL.s_par, DL.s_par3, DL.s_setI, DL.s_fldS, DL.g_name_eq, DL.g_nil_eq, DL.g_cons_eq, DL.g_tup_eq, DL.v_add, DL.v_addI, DL.v_sub, DL.v_neg, DL.v_lt, DL.v_le, DL.v_gt, DL.v_ge, DL.v_eq, DL.v_isN, DL.v_tupcat, DL.Res.bind_ok, DL.Res.bindN_ok, DL.ret_rt, DL.ret_nx, DL.ev_v0, DL.ev_vs, DL.ev_a1, DL.ev_a2, DL.ev_a3, DL.ev_a4, List.set_cons_zero, List.set_cons_succ, decide_true, decide_false, Bool.not_true, Bool.not_false, if_true, Bool.false_eq_true, if_false, DL.e_cb, DL.e_yes, DL.wp_ok, DL.wp_bind, DL.wp_bindN, DL.wp_ret, DL.retQ_rt, DL.retQ_nx, DL.wp_fin, DL.FQ_nx, DL.FQ_ct, DL.FQ_bk, DL.FQ_rt, DL.addO_some, DL.addO_none, DL.isCon_self, DL.v_mulC, DL.v_fdivC, DL.v_modC, DL.ix_t0, DL.ix_t1, DL.ix_t2, DL.ix_l0, DL.ix_l1, DL.ix_l2, DL.isi_int_int, DL.isi_int_bool, DL.min2_eq, DL.max2_eq, DL.tup_f, DL.lst_f, DL.list_tup, DL.list_lst, DL.tuple_lst, DL.len_lst, DL.len_tup, DL.wipeE, DL.lcB, DL.cls_obj, DL.flds_obj, DL.isiO_obj, DL.v_augS, DL.v_methK, DL.v_makeK, DL.ev_a5, DL.ev_a6, DL.ev_a7, DL.v_mulB, eq_self, and_self, List.length_nil, List.length_cons, List.getElem?_cons_zero, List.getElem?_cons_succ, DL.list_tup_t, List.append_assoc, List.nil_append, List.cons_append, hin])
    by_cases h1 : is1 w = true
    · (try simp -implicitDefEqProofs (disch := first | omega | (simp only [List.length_map, List.length_cons, List.length_nil, List.length_range, List.length_append, List.length_replicate]; omega)) only [DL.e_d, DL.e_op, DL.e_un, DL.e_test, DL.e_asB, DL.e_and, DL.e_or, DL.e_not, DL.e_if, DL.e_andV, DL.e_orV, DL.e_notV, DL.e_chain, DL.e_nil, DL.e_cons, DL.e_tup, DL.e_lst, DL.e_cb, DL.e_callK, DL.e_meth, DL.e_methP, DL.e_smeth, DL.e_cval, DL.e_fld, DL.e_prop, DL.e_star, DL.e_ps0, DL.e_ps, DL.e_dispK, DL.e_dispT, DL.e_dK0, DL.e_dT0, DL.e_frz, DL.e_no, DL.e_part, DL.e_sl, DL.s_set, DL.s_asg, DL.s_nx, DL.s_seq, DL.s_expr, DL.s_ret, DL.s_retN, DL.s_brk, DL.s_cont, DL.s_stuck, DL.s_ifS, DL.s_aug, DL.s_par, DL.s_par3, DL.s_setI, DL.s_fldS, DL.g_name_eq, DL.g_nil_eq, DL.g_cons_eq, DL.g_tup_eq, DL.v_add, DL.v_addI, DL.v_sub, DL.v_neg, DL.v_lt, DL.v_le, DL.v_gt, DL.v_ge, DL.v_eq, DL.v_isN, DL.v_tupcat, DL.Res.bind_ok, DL.Res.bindN_ok, DL.ret_rt, DL.ret_nx, DL.ev_v0, DL.ev_vs, DL.ev_a1, DL.ev_a2, DL.ev_a3, DL.ev_a4, List.set_cons_zero, List.set_cons_succ, decide_true, decide_false, Bool.not_true, Bool.not_false, if_true, Bool.false_eq_true, if_false, DL.e_cb, DL.e_yes, DL.wp_ok, DL.wp_bind, DL.wp_bindN, DL.wp_ret, DL.retQ_rt, DL.retQ_nx, DL.wp_fin, DL.FQ_nx, DL.FQ_ct, DL.FQ_bk, DL.FQ_rt, DL.addO_some, DL.addO_none, DL.isCon_self, DL.v_mulC, DL.v_fdivC, DL.v_modC, DL.ix_t0, DL.ix_t1, DL.ix_t2, DL.ix_l0, DL.ix_l1, DL.ix_l2, DL.isi_int_int, DL.isi_int_bool, DL.min2_eq, DL.max2_eq, DL.tup_f, DL.lst_f, DL.list_tup, DL.list_lst, DL.tuple_lst, DL.len_lst, DL.len_tup, DL.wipeE, DL.lcB, DL.cls_obj, DL.flds_obj, DL.isiO_obj, DL.v_augS, DL.v_methK, DL.v_makeK, DL.ev_a5, DL.ev_a6, DL.ev_a7, DL.v_mulB, eq_self, and_self, List.length_nil, List.length_cons, List.getElem?_cons_zero, List.getElem?_cons_succ, DL.list_tup_t, List.append_assoc, List.nil_append, List.cons_append, h1])
      all_goals first | exact ⟨rfl, trivial⟩ | exact ⟨trivial, trivial⟩ | exact trivial | exact ⟨rfl, rfl⟩
    · (try simp -implicitDefEqProofs (disch := first | omega | (simp only [List.length_map, List.length_cons, List.length_nil, List.length_range, List.length_append, List.length_replicate]; omega)) only [DL.e_d, DL.e_op, DL.e_un, DL.e_test, DL.e_asB, DL.e_and, DL.e_or, DL.e_not, DL.e_if, DL.e_andV, DL.e_orV, DL.e_notV, DL.e_chain, DL.e_nil, DL.e_cons, DL.e_tup, DL.e_lst, DL.e_cb, DL.e_callK, DL.e_meth, DL.e_methP, DL.e_smeth, DL.e_cval, DL.e_fld, DL.e_prop, DL.e_star, DL.e_ps0, DL.e_ps, DL.e_dispK, DL.e_dispT, DL.e_dK0, DL.e_dT0, DL.e_frz, DL.e_no, DL.e_part, DL.e_sl, DL.s_set, DL.s_asg, DL.s_nx, DL.s_seq, DL.s_expr, DL.s_ret, DL.s_retN, DL.s_brk, DL.s_cont, DL.s_stuck, DL.s_ifS, DL.s_aug, DL.s_par, DL.s_par3, DL.s_setI, DL.s_fldS, DL.g_name_eq, DL.g_nil_eq, DL.g_cons_eq, DL.g_tup_eq, DL.v_add, DL.v_addI, DL.v_sub, DL.v_neg, DL.v_lt, DL.v_le, DL.v_gt, DL.v_ge, DL.v_eq, DL.v_isN, DL.v_tupcat, DL.Res.bind_ok, DL.Res.bindN_ok, DL.ret_rt, DL.ret_nx, DL.ev_v0, DL.ev_vs, DL.ev_a1, DL.ev_a2, DL.ev_a3, DL.ev_a4, List.set_cons_zero, List.set_cons_succ, decide_true, decide_false, Bool.not_true, Bool.not_false, if_true, Bool.false_eq_true, if_false, DL.e_cb, DL.e_yes, DL.wp_ok, DL.wp_bind, DL.wp_bindN, DL.wp_ret, DL.retQ_rt, DL.retQ_nx, DL.wp_fin, DL.FQ_nx, DL.FQ_ct, DL.FQ_bk, DL.FQ_rt, DL.addO_some, DL.addO_none, DL.isCon_self, DL.v_mulC, DL.v_fdivC, DL.v_modC, DL.ix_t0, DL.ix_t1, DL.ix_t2, DL.ix_l0, DL.ix_l1, DL.ix_l2, DL.isi_int_int, DL.isi_int_bool, DL.min2_eq, DL.max2_eq, DL.tup_f, DL.lst_f, DL.list_tup, DL.list_lst, DL.tuple_lst, DL.len_lst, DL.len_tup, DL.wipeE, DL.lcB, DL.cls_obj, DL.flds_obj, DL.isiO_obj, DL.v_augS, DL.v_methK, DL.v_makeK, DL.ev_a5, DL.ev_a6, DL.ev_a7, DL.v_mulB, eq_self, and_self, List.length_nil, List.length_cons, List.getElem?_cons_zero, List.getElem?_cons_succ, DL.list_tup_t, List.append_assoc, List.nil_append, List.cons_append, h1])
      refine wp_for (List.range (t - 1).toNat) (fun (k : Nat) => D.int (0 + (k : Int))) (fun pre ρ S2 => ∃ w' o5, ρ = [some (.int n), some (.int b), some (.int o), some (.int t), some (.int w'), o5] ∧ S2 = S' ∧ -n < 2 * w' ∧ 2 * w' ≤ n ∧ sqF ((t - 1).toNat - pre.length) w' n = sqF (t - 1).toNat w n) (rng1 (by (try simp -implicitDefEqProofs (disch := first | omega | (simp only [List.length_map, List.length_cons, List.length_nil, List.length_range, List.length_append, List.length_replicate]; omega)) only [DL.e_d, DL.e_op, DL.e_un, DL.e_test, DL.e_asB, DL.e_and, DL.e_or, DL.e_not, DL.e_if, DL.e_andV, DL.e_orV, DL.e_notV, DL.e_chain, DL.e_nil, DL.e_cons, DL.e_tup, DL.e_lst, DL.e_cb, DL.e_callK, DL.e_meth, DL.e_methP, DL.e_smeth, DL.e_cval, DL.e_fld, DL.e_prop, DL.e_star, DL.e_ps0, DL.e_ps, DL.e_dispK, DL.e_dispT, DL.e_dK0, DL.e_dT0, DL.e_frz, DL.e_no, DL.e_part, DL.e_sl, DL.s_set, DL.s_asg, DL.s_nx, DL.s_seq, DL.s_expr, DL.s_ret, DL.s_retN, DL.s_brk, DL.s_cont, DL.s_stuck, DL.s_ifS, DL.s_aug, DL.s_par, DL.s_par3, DL.s_setI, DL.s_fldS, DL.g_name_eq, DL.g_nil_eq, DL.g_cons_eq, DL.g_tup_eq, DL.v_add, DL.v_addI, DL.v_sub, DL.v_neg, DL.v_lt, DL.v_le, DL.v_gt, DL.v_ge, DL.v_eq, DL.v_isN, DL.v_tupcat, DL.Res.bind_ok, DL.Res.bindN_ok, DL.ret_rt, DL.ret_nx, DL.ev_v0, DL.ev_vs, DL.ev_a1, DL.ev_a2, DL.ev_a3, DL.ev_a4, List.set_cons_zero, List.set_cons_succ, decide_true, decide_false, Bool.not_true, Bool.not_false, if_true, Bool.false_eq_true, if_false, DL.e_cb, DL.e_yes, DL.wp_ok, DL.wp_bind, DL.wp_bindN, DL.wp_ret, DL.retQ_rt, DL.retQ_nx, DL.wp_fin, DL.FQ_nx, DL.FQ_ct, DL.FQ_bk, DL.FQ_rt, DL.addO_some, DL.addO_none, DL.isCon_self, DL.v_mulC, DL.v_fdivC, DL.v_modC, DL.ix_t0, DL.ix_t1, DL.ix_t2, DL.ix_l0, DL.ix_l1, DL.ix_l2, DL.isi_int_int, DL.isi_int_bool, DL.min2_eq, DL.max2_eq, DL.tup_f, DL.lst_f, DL.list_tup, DL.list_lst, DL.tuple_lst, DL.len_lst, DL.len_tup, DL.wipeE, DL.lcB, DL.cls_obj, DL.flds_obj, DL.isiO_obj, DL.v_augS, DL.v_methK, DL.v_makeK, DL.ev_a5, DL.ev_a6, DL.ev_a7, DL.v_mulB, eq_self, and_self, List.length_nil, List.length_cons, List.getElem?_cons_zero, List.getElem?_cons_succ, DL.list_tup_t, List.append_assoc, List.nil_append, List.cons_append])) ⟨by omega, by omega⟩) (fun _ _ _ _ => ok_nil) ⟨w, none, rfl, rfl, w0.1, w0.2, rfl⟩ ?_ ?_
      · rintro pre x post ρ S2 hl ⟨w', o5, rfl, rfl, a1, a2, a3⟩
        have hlen : pre.length < (t - 1).toNat := by
          have := congrArg List.length hl
          simp at this
          omega
        obtain ⟨q, hq⟩ : ∃ q, (t - 1).toNat - pre.length = q + 1 := ⟨_, (Nat.succ_pred_eq_of_pos (by omega)).symm⟩
        rw [hq, sqF.eq_2] at a3
        have w1 := red_range (p := n) (x := w' * w') (by omega)
        (try simp -implicitDefEqProofs (disch := first | omega | (simp only [List.length_map, List.length_cons, List.length_nil, List.length_range, List.length_append, List.length_replicate]; omega)) only [DL.e_d, DL.e_op, DL.e_un, DL.e_test, DL.e_asB, DL.e_and, DL.e_or, DL.e_not, DL.e_if, DL.e_andV, DL.e_orV, DL.e_notV, DL.e_chain, DL.e_nil, DL.e_cons, DL.e_tup, DL.e_lst, DL.e_cb, DL.e_callK, DL.e_meth, DL.e_methP, DL.e_smeth, DL.e_cval, DL.e_fld, DL.e_prop, DL.e_star, DL.e_ps0, DL.e_ps, DL.e_dispK, DL.e_dispT, DL.e_dK0, DL.e_dT0, DL.e_frz, DL.e_no, DL.e_part, DL.e_sl, DL.s_set, DL.s_asg, DL.s_nx, DL.s_seq, DL.s_expr, DL.s_ret, DL.s_retN, DL.s_brk, DL.s_cont, DL.s_stuck, DL.s_ifS, DL.s_aug, DL.s_par, DL.s_par3, DL.s_setI, DL.s_fldS, DL.g_name_eq, DL.g_nil_eq, DL.g_cons_eq, DL.g_tup_eq, DL.v_add, DL.v_addI, DL.v_sub, DL.v_neg, DL.v_lt, DL.v_le, DL.v_gt, DL.v_ge, DL.v_eq, DL.v_isN, DL.v_tupcat, DL.Res.bind_ok, DL.Res.bindN_ok, DL.ret_rt, DL.ret_nx, DL.ev_v0, DL.ev_vs, DL.ev_a1, DL.ev_a2, DL.ev_a3, DL.ev_a4, List.set_cons_zero, List.set_cons_succ, decide_true, decide_false, Bool.not_true, Bool.not_false, if_true, Bool.false_eq_true, if_false, DL.e_cb, DL.e_yes, DL.wp_ok, DL.wp_bind, DL.wp_bindN, DL.wp_ret, DL.retQ_rt, DL.retQ_nx, DL.wp_fin, DL.FQ_nx, DL.FQ_ct, DL.FQ_bk, DL.FQ_rt, DL.addO_some, DL.addO_none, DL.isCon_self, DL.v_mulC, DL.v_fdivC, DL.v_modC, DL.ix_t0, DL.ix_t1, DL.ix_t2, DL.ix_l0, DL.ix_l1, DL.ix_l2, DL.isi_int_int, DL.isi_int_bool, DL.min2_eq, DL.max2_eq, DL.tup_f, DL.lst_f, DL.list_tup, DL.list_lst, DL.tuple_lst, DL.len_lst, DL.len_tup, DL.wipeE, DL.lcB, DL.cls_obj, DL.flds_obj, DL.isiO_obj, DL.v_augS, DL.v_methK, DL.v_makeK, DL.ev_a5, DL.ev_a6, DL.ev_a7, DL.v_mulB, eq_self, and_self, List.length_nil, List.length_cons, List.getElem?_cons_zero, List.getElem?_cons_succ, DL.list_tup_t, List.append_assoc, List.nil_append, List.cons_append, mp_reduced_modulo, reduced_modulo_eq (S := S2) (G := G) (p := n) (x := w' * w') (by omega) (by omega)])
        by_cases h5 : red n (w' * w') = -1
        · rw [if_pos h5] at a3
          (try simp -implicitDefEqProofs (disch := first | omega | (simp only [List.length_map, List.length_cons, List.length_nil, List.length_range, List.length_append, List.length_replicate]; omega)) only [DL.e_d, DL.e_op, DL.e_un, DL.e_test, DL.e_asB, DL.e_and, DL.e_or, DL.e_not, DL.e_if, DL.e_andV, DL.e_orV, DL.e_notV, DL.e_chain, DL.e_nil, DL.e_cons, DL.e_tup, DL.e_lst, DL.e_cb, DL.e_callK, DL.e_meth, DL.e_methP, DL.e_smeth, DL.e_cval, DL.e_fld, DL.e_prop, DL.e_star, DL.e_ps0, DL.e_ps, DL.e_dispK, DL.e_dispT, DL.e_dK0, DL.e_dT0, DL.e_frz, DL.e_no, DL.e_part, DL.e_sl, DL.s_set, DL.s_asg, DL.s_nx, DL.s_seq, DL.s_expr, DL.s_ret, DL.s_retN, DL.s_brk, DL.s_cont, DL.s_stuck, DL.s_ifS, DL.s_aug, DL.s_par, DL.s_par3, DL.s_setI, DL.s_fldS, DL.g_name_eq, DL.g_nil_eq, DL.g_cons_eq, DL.g_tup_eq, DL.v_add, DL.v_addI, DL.v_sub, DL.v_neg, DL.v_lt, DL.v_le, DL.v_gt, DL.v_ge, DL.v_eq, DL.v_isN, DL.v_tupcat, DL.Res.bind_ok, DL.Res.bindN_ok, DL.ret_rt, DL.ret_nx, DL.ev_v0, DL.ev_vs, DL.ev_a1, DL.ev_a2, DL.ev_a3, DL.ev_a4, List.set_cons_zero, List.set_cons_succ, decide_true, decide_false, Bool.not_true, Bool.not_false, if_true, Bool.false_eq_true, if_false, DL.e_cb, DL.e_yes, DL.wp_ok, DL.wp_bind, DL.wp_bindN, DL.wp_ret, DL.retQ_rt, DL.retQ_nx, DL.wp_fin, DL.FQ_nx, DL.FQ_ct, DL.FQ_bk, DL.FQ_rt, DL.addO_some, DL.addO_none, DL.isCon_self, DL.v_mulC, DL.v_fdivC, DL.v_modC, DL.ix_t0, DL.ix_t1, DL.ix_t2, DL.ix_l0, DL.ix_l1, DL.ix_l2, DL.isi_int_int, DL.isi_int_bool, DL.min2_eq, DL.max2_eq, DL.tup_f, DL.lst_f, DL.list_tup, DL.list_lst, DL.tuple_lst, DL.len_lst, DL.len_tup, DL.wipeE, DL.lcB, DL.cls_obj, DL.flds_obj, DL.isiO_obj, DL.v_augS, DL.v_methK, DL.v_makeK, DL.ev_a5, DL.ev_a6, DL.ev_a7, DL.v_mulB, eq_self, and_self, List.length_nil, List.length_cons, List.getElem?_cons_zero, List.getElem?_cons_succ, DL.list_tup_t, List.append_assoc, List.nil_append, List.cons_append, h5])
          rw [← a3]
          all_goals first | exact ⟨rfl, trivial⟩ | exact ⟨trivial, trivial⟩ | exact trivial | exact ⟨rfl, rfl⟩
        · rw [if_neg h5] at a3
          (try simp -implicitDefEqProofs (disch := first | omega | (simp only [List.length_map, List.length_cons, List.length_nil, List.length_range, List.length_append, List.length_replicate]; omega)) only [DL.e_d, DL.e_op, DL.e_un, DL.e_test, DL.e_asB, DL.e_and, DL.e_or, DL.e_not, DL.e_if, DL.e_andV, DL.e_orV, DL.e_notV, DL.e_chain, DL.e_nil, DL.e_cons, DL.e_tup, DL.e_lst, DL.e_cb, DL.e_callK, DL.e_meth, DL.e_methP, DL.e_smeth, DL.e_cval, DL.e_fld, DL.e_prop, DL.e_star, DL.e_ps0, DL.e_ps, DL.e_dispK, DL.e_dispT, DL.e_dK0, DL.e_dT0, DL.e_frz, DL.e_no, DL.e_part, DL.e_sl, DL.s_set, DL.s_asg, DL.s_nx, DL.s_seq, DL.s_expr, DL.s_ret, DL.s_retN, DL.s_brk, DL.s_cont, DL.s_stuck, DL.s_ifS, DL.s_aug, DL.s_par, DL.s_par3, DL.s_setI, DL.s_fldS, DL.g_name_eq, DL.g_nil_eq, DL.g_cons_eq, DL.g_tup_eq, DL.v_add, DL.v_addI, DL.v_sub, DL.v_neg, DL.v_lt, DL.v_le, DL.v_gt, DL.v_ge, DL.v_eq, DL.v_isN, DL.v_tupcat, DL.Res.bind_ok, DL.Res.bindN_ok, DL.ret_rt, DL.ret_nx, DL.ev_v0, DL.ev_vs, DL.ev_a1, DL.ev_a2, DL.ev_a3, DL.ev_a4, List.set_cons_zero, List.set_cons_succ, decide_true, decide_false, Bool.not_true, Bool.not_false, if_true, Bool.false_eq_true, if_false, DL.e_cb, DL.e_yes, DL.wp_ok, DL.wp_bind, DL.wp_bindN, DL.wp_ret, DL.retQ_rt, DL.retQ_nx, DL.wp_fin, DL.FQ_nx, DL.FQ_ct, DL.FQ_bk, DL.FQ_rt, DL.addO_some, DL.addO_none, DL.isCon_self, DL.v_mulC, DL.v_fdivC, DL.v_modC, DL.ix_t0, DL.ix_t1, DL.ix_t2, DL.ix_l0, DL.ix_l1, DL.ix_l2, DL.isi_int_int, DL.isi_int_bool, DL.min2_eq, DL.max2_eq, DL.tup_f, DL.lst_f, DL.list_tup, DL.list_lst, DL.tuple_lst, DL.len_lst, DL.len_tup, DL.wipeE, DL.lcB, DL.cls_obj, DL.flds_obj, DL.isiO_obj, DL.v_augS, DL.v_methK, DL.v_makeK, DL.ev_a5, DL.ev_a6, DL.ev_a7, DL.v_mulB, eq_self, and_self, List.length_nil, List.length_cons, List.getElem?_cons_zero, List.getElem?_cons_succ, DL.list_tup_t, List.append_assoc, List.nil_append, List.cons_append, h5])
          exact ⟨_, _, rfl, trivial, w1.1, w1.2, by rw [List.length_append, List.length_singleton, ← Nat.sub_sub, hq]; exact a3⟩
      · rintro ρ S2 ⟨w', o5, rfl, rfl, a1, a2, a3⟩
        (try simp -implicitDefEqProofs (disch := first | omega | (simp only [List.length_map, List.length_cons, List.length_nil, List.length_range, List.length_append, List.length_replicate]; omega)) only [DL.e_d, DL.e_op, DL.e_un, DL.e_test, DL.e_asB, DL.e_and, DL.e_or, DL.e_not, DL.e_if, DL.e_andV, DL.e_orV, DL.e_notV, DL.e_chain, DL.e_nil, DL.e_cons, DL.e_tup, DL.e_lst, DL.e_cb, DL.e_callK, DL.e_meth, DL.e_methP, DL.e_smeth, DL.e_cval, DL.e_fld, DL.e_prop, DL.e_star, DL.e_ps0, DL.e_ps, DL.e_dispK, DL.e_dispT, DL.e_dK0, DL.e_dT0, DL.e_frz, DL.e_no, DL.e_part, DL.e_sl, DL.s_set, DL.s_asg, DL.s_nx, DL.s_seq, DL.s_expr, DL.s_ret, DL.s_retN, DL.s_brk, DL.s_cont, DL.s_stuck, DL.s_ifS, DL.s_aug, DL.s_par, DL.s_par3, DL.s_setI, DL.s_fldS, DL.g_name_eq, DL.g_nil_eq, DL.g_cons_eq, DL.g_tup_eq, DL.v_add, DL.v_addI, DL.v_sub, DL.v_neg, DL.v_lt, DL.v_le, DL.v_gt, DL.v_ge, DL.v_eq, DL.v_isN, DL.v_tupcat, DL.Res.bind_ok, DL.Res.bindN_ok, DL.ret_rt, DL.ret_nx, DL.ev_v0, DL.ev_vs, DL.ev_a1, DL.ev_a2, DL.ev_a3, DL.ev_a4, List.set_cons_zero, List.set_cons_succ, decide_true, decide_false, Bool.not_true, Bool.not_false, if_true, Bool.false_eq_true, if_false, DL.e_cb, DL.e_yes, DL.wp_ok, DL.wp_bind, DL.wp_bindN, DL.wp_ret, DL.retQ_rt, DL.retQ_nx, DL.wp_fin, DL.FQ_nx, DL.FQ_ct, DL.FQ_bk, DL.FQ_rt, DL.addO_some, DL.addO_none, DL.isCon_self, DL.v_mulC, DL.v_fdivC, DL.v_modC, DL.ix_t0, DL.ix_t1, DL.ix_t2, DL.ix_l0, DL.ix_l1, DL.ix_l2, DL.isi_int_int, DL.isi_int_bool, DL.min2_eq, DL.max2_eq, DL.tup_f, DL.lst_f, DL.list_tup, DL.list_lst, DL.tuple_lst, DL.len_lst, DL.len_tup, DL.wipeE, DL.lcB, DL.cls_obj, DL.flds_obj, DL.isiO_obj, DL.v_augS, DL.v_methK, DL.v_makeK, DL.ev_a5, DL.ev_a6, DL.ev_a7, DL.v_mulB, eq_self, and_self, List.length_nil, List.length_cons, List.getElem?_cons_zero, List.getElem?_cons_succ, DL.list_tup_t, List.append_assoc, List.nil_append, List.cons_append])
        rw [List.length_range, Nat.sub_self] at a3
        exact ⟨congrArg D.bl a3, trivial⟩
theorem is_odd_prime_eq {n : Int} (h3 : 3 ≤ n) (hn : n < 2 ^ 31) : m_is_odd_prime G [.int n] S = .ok (.bl (isPr n)) S := by
  refine eq_wp ?_
  rw [m_is_odd_prime, fnR_eq]
  show wp (ret S (c_is_odd_prime G [some (.int n), none] S)) _
  unfold c_is_odd_prime
  (try simp -implicitDefEqProofs (disch := first | omega | (simp only [List.length_map, List.length_cons, List.length_nil, List.length_range, List.length_append, List.length_replicate]; omega)) only [DL.e_d, DL.e_op, DL.e_un, DL.e_test, DL.e_asB, DL.e_and, DL.e_or, DL.e_not, DL.e_if, DL.e_andV, DL.e_orV, DL.e_notV, DL.e_chain, DL.e_nil, DL.e_cons, DL.e_tup, DL.e_lst, DL.e_cb, DL.e_callK, DL.e_meth, DL.e_methP, DL.e_smeth, DL.e_cval, DL.e_fld, DL.e_prop, DL.e_star, DL.e_ps0, DL.e_ps, DL.e_dispK, DL.e_dispT, DL.e_dK0, DL.e_dT0, DL.e_frz, DL.e_no, DL.e_part, DL.e_sl, DL.s_set, DL.s_asg, DL.s_nx, DL.s_seq, DL.s_expr, DL.s_ret, DL.s_retN, DL.s_brk, DL.s_cont, DL.s_stuck, DL.s_ifS, DL.s_aug, DL.s_par, DL.s_par3, DL.s_setI, DL.s_fldS, DL.g_name_eq, DL.g_nil_eq, DL.g_cons_eq, DL.g_tup_eq, DL.v_add, DL.v_addI, DL.v_sub, DL.v_neg, DL.v_lt, DL.v_le, DL.v_gt, DL.v_ge, DL.v_eq, DL.v_isN, DL.v_tupcat, DL.Res.bind_ok, DL.Res.bindN_ok, DL.ret_rt, DL.ret_nx, DL.ev_v0, DL.ev_vs, DL.ev_a1, DL.ev_a2, DL.ev_a3, DL.ev_a4, List.set_cons_zero, List.set_cons_succ, decide_true, decide_false, Bool.not_true, Bool.not_false, if_true, Bool.false_eq_true, if_false, DL.e_cb, DL.e_yes, DL.wp_ok, DL.wp_bind, DL.wp_bindN, DL.wp_ret, DL.retQ_rt, DL.retQ_nx, DL.wp_fin, DL.FQ_nx, DL.FQ_ct, DL.FQ_bk, DL.FQ_rt, DL.addO_some, DL.addO_none, DL.isCon_self, DL.v_mulC, DL.v_fdivC, DL.v_modC, DL.ix_t0, DL.ix_t1, DL.ix_t2, DL.ix_l0, DL.ix_l1, DL.ix_l2, DL.isi_int_int, DL.isi_int_bool, DL.min2_eq, DL.max2_eq, DL.tup_f, DL.lst_f, DL.list_tup, DL.list_lst, DL.tuple_lst, DL.len_lst, DL.len_tup, DL.wipeE, DL.lcB, DL.cls_obj, DL.flds_obj, DL.isiO_obj, DL.v_augS, DL.v_methK, DL.v_makeK, DL.ev_a5, DL.ev_a6, DL.ev_a7, DL.v_mulB, eq_self, and_self, List.length_nil, List.length_cons, List.getElem?_cons_zero, List.getElem?_cons_succ, DL.list_tup_t, List.append_assoc, List.nil_append, List.cons_append])
  refine wp_for [2, 3, 5, 7] D.int (fun pre ρ S' => ∃ o, ρ = [some (.int n), o] ∧ S' = S ∧ (∀ x ∈ pre, n % x ≠ 0) ∧ ∀ post, [2, 3, 5, 7] = pre ++ post → divs n post = divs n [2, 3, 5, 7]) (it_eq (x := k_BASES) (by (try simp -implicitDefEqProofs (disch := first | omega | (simp only [List.length_map, List.length_cons, List.length_nil, List.length_range, List.length_append, List.length_replicate]; omega)) only [DL.e_d, DL.e_op, DL.e_un, DL.e_test, DL.e_asB, DL.e_and, DL.e_or, DL.e_not, DL.e_if, DL.e_andV, DL.e_orV, DL.e_notV, DL.e_chain, DL.e_nil, DL.e_cons, DL.e_tup, DL.e_lst, DL.e_cb, DL.e_callK, DL.e_meth, DL.e_methP, DL.e_smeth, DL.e_cval, DL.e_fld, DL.e_prop, DL.e_star, DL.e_ps0, DL.e_ps, DL.e_dispK, DL.e_dispT, DL.e_dK0, DL.e_dT0, DL.e_frz, DL.e_no, DL.e_part, DL.e_sl, DL.s_set, DL.s_asg, DL.s_nx, DL.s_seq, DL.s_expr, DL.s_ret, DL.s_retN, DL.s_brk, DL.s_cont, DL.s_stuck, DL.s_ifS, DL.s_aug, DL.s_par, DL.s_par3, DL.s_setI, DL.s_fldS, DL.g_name_eq, DL.g_nil_eq, DL.g_cons_eq, DL.g_tup_eq, DL.v_add, DL.v_addI, DL.v_sub, DL.v_neg, DL.v_lt, DL.v_le, DL.v_gt, DL.v_ge, DL.v_eq, DL.v_isN, DL.v_tupcat, DL.Res.bind_ok, DL.Res.bindN_ok, DL.ret_rt, DL.ret_nx, DL.ev_v0, DL.ev_vs, DL.ev_a1, DL.ev_a2, DL.ev_a3, DL.ev_a4, List.set_cons_zero, List.set_cons_succ, decide_true, decide_false, Bool.not_true, Bool.not_false, if_true, Bool.false_eq_true, if_false, DL.e_cb, DL.e_yes, DL.wp_ok, DL.wp_bind, DL.wp_bindN, DL.wp_ret, DL.retQ_rt, DL.retQ_nx, DL.wp_fin, DL.FQ_nx, DL.FQ_ct, DL.FQ_bk, DL.FQ_rt, DL.addO_some, DL.addO_none, DL.isCon_self, DL.v_mulC, DL.v_fdivC, DL.v_modC, DL.ix_t0, DL.ix_t1, DL.ix_t2, DL.ix_l0, DL.ix_l1, DL.ix_l2, DL.isi_int_int, DL.isi_int_bool, DL.min2_eq, DL.max2_eq, DL.tup_f, DL.lst_f, DL.list_tup, DL.list_lst, DL.tuple_lst, DL.len_lst, DL.len_tup, DL.wipeE, DL.lcB, DL.cls_obj, DL.flds_obj, DL.isiO_obj, DL.v_augS, DL.v_methK, DL.v_makeK, DL.ev_a5, DL.ev_a6, DL.ev_a7, DL.v_mulB, eq_self, and_self, List.length_nil, List.length_cons, List.getElem?_cons_zero, List.getElem?_cons_succ, DL.list_tup_t, List.append_assoc, List.nil_append, List.cons_append])) rfl) (fun _ _ _ _ => ok_one rfl) ⟨none, rfl, rfl, fun _ h => (by cases h), fun post h => by rw [h]; rfl⟩ ?_ ?_
  · rintro pre x post ρ S2 hl ⟨o, rfl, rfl, h1, h2⟩
    have h5 := h2 (x :: post) hl
    have hx : 0 < x := by
      have : x ∈ [2, 3, 5, 7] := by rw [hl]; simp
      simp at this
      omega
    rw [divs.eq_2] at h5
    by_cases hc : n % x = 0
    · rw [if_pos hc] at h5
      have h5' := h5.symm
      (try simp -implicitDefEqProofs (disch := first | omega | (simp only [List.length_map, List.length_cons, List.length_nil, List.length_range, List.length_append, List.length_replicate]; omega)) only [DL.e_d, DL.e_op, DL.e_un, DL.e_test, DL.e_asB, DL.e_and, DL.e_or, DL.e_not, DL.e_if, DL.e_andV, DL.e_orV, DL.e_notV, DL.e_chain, DL.e_nil, DL.e_cons, DL.e_tup, DL.e_lst, DL.e_cb, DL.e_callK, DL.e_meth, DL.e_methP, DL.e_smeth, DL.e_cval, DL.e_fld, DL.e_prop, DL.e_star, DL.e_ps0, DL.e_ps, DL.e_dispK, DL.e_dispT, DL.e_dK0, DL.e_dT0, DL.e_frz, DL.e_no, DL.e_part, DL.e_sl, DL.s_set, DL.s_asg, DL.s_nx, DL.s_seq, DL.s_expr, DL.s_ret, DL.s_retN, DL.s_brk, DL.s_cont, DL.s_stuck, DL.s_ifS, DL.s_aug, DL.s_par, DL.s_par3, DL.s_setI, DL.s_fldS, DL.g_name_eq, DL.g_nil_eq, DL.g_cons_eq, DL.g_tup_eq, DL.v_add, DL.v_addI, DL.v_sub, DL.v_neg, DL.v_lt, DL.v_le, DL.v_gt, DL.v_ge, DL.v_eq, DL.v_isN, DL.v_tupcat, DL.Res.bind_ok, DL.Res.bindN_ok, DL.ret_rt, DL.ret_nx, DL.ev_v0, DL.ev_vs, DL.ev_a1, DL.ev_a2, DL.ev_a3, DL.ev_a4, List.set_cons_zero, List.set_cons_succ, decide_true, decide_false, Bool.not_true, Bool.not_false, if_true, Bool.false_eq_true, if_false, DL.e_cb, DL.e_yes, DL.wp_ok, DL.wp_bind, DL.wp_bindN, DL.wp_ret, DL.retQ_rt, DL.retQ_nx, DL.wp_fin, DL.FQ_nx, DL.FQ_ct, DL.FQ_bk, DL.FQ_rt, DL.addO_some, DL.addO_none, DL.isCon_self, DL.v_mulC, DL.v_fdivC, DL.v_modC, DL.ix_t0, DL.ix_t1, DL.ix_t2, DL.ix_l0, DL.ix_l1, DL.ix_l2, DL.isi_int_int, DL.isi_int_bool, DL.min2_eq, DL.max2_eq, DL.tup_f, DL.lst_f, DL.list_tup, DL.list_lst, DL.tuple_lst, DL.len_lst, DL.len_tup, DL.wipeE, DL.lcB, DL.cls_obj, DL.flds_obj, DL.isiO_obj, DL.v_augS, DL.v_methK, DL.v_makeK, DL.ev_a5, DL.ev_a6, DL.ev_a7, DL.v_mulB, eq_self, and_self, List.length_nil, List.length_cons, List.getElem?_cons_zero, List.getElem?_cons_succ, DL.list_tup_t, List.append_assoc, List.nil_append, List.cons_append, hc])
      refine ⟨?_, trivial⟩
      unfold isPr
      rw [h5']
      rfl
    · rw [if_neg hc] at h5
      (try simp -implicitDefEqProofs (disch := first | omega | (simp only [List.length_map, List.length_cons, List.length_nil, List.length_range, List.length_append, List.length_replicate]; omega)) only [DL.e_d, DL.e_op, DL.e_un, DL.e_test, DL.e_asB, DL.e_and, DL.e_or, DL.e_not, DL.e_if, DL.e_andV, DL.e_orV, DL.e_notV, DL.e_chain, DL.e_nil, DL.e_cons, DL.e_tup, DL.e_lst, DL.e_cb, DL.e_callK, DL.e_meth, DL.e_methP, DL.e_smeth, DL.e_cval, DL.e_fld, DL.e_prop, DL.e_star, DL.e_ps0, DL.e_ps, DL.e_dispK, DL.e_dispT, DL.e_dK0, DL.e_dT0, DL.e_frz, DL.e_no, DL.e_part, DL.e_sl, DL.s_set, DL.s_asg, DL.s_nx, DL.s_seq, DL.s_expr, DL.s_ret, DL.s_retN, DL.s_brk, DL.s_cont, DL.s_stuck, DL.s_ifS, DL.s_aug, DL.s_par, DL.s_par3, DL.s_setI, DL.s_fldS, DL.g_name_eq, DL.g_nil_eq, DL.g_cons_eq, DL.g_tup_eq, DL.v_add, DL.v_addI, DL.v_sub, DL.v_neg, DL.v_lt, DL.v_le, DL.v_gt, DL.v_ge, DL.v_eq, DL.v_isN, DL.v_tupcat, DL.Res.bind_ok, DL.Res.bindN_ok, DL.ret_rt, DL.ret_nx, DL.ev_v0, DL.ev_vs, DL.ev_a1, DL.ev_a2, DL.ev_a3, DL.ev_a4, List.set_cons_zero, List.set_cons_succ, decide_true, decide_false, Bool.not_true, Bool.not_false, if_true, Bool.false_eq_true, if_false, DL.e_cb, DL.e_yes, DL.wp_ok, DL.wp_bind, DL.wp_bindN, DL.wp_ret, DL.retQ_rt, DL.retQ_nx, DL.wp_fin, DL.FQ_nx, DL.FQ_ct, DL.FQ_bk, DL.FQ_rt, DL.addO_some, DL.addO_none, DL.isCon_self, DL.v_mulC, DL.v_fdivC, DL.v_modC, DL.ix_t0, DL.ix_t1, DL.ix_t2, DL.ix_l0, DL.ix_l1, DL.ix_l2, DL.isi_int_int, DL.isi_int_bool, DL.min2_eq, DL.max2_eq, DL.tup_f, DL.lst_f, DL.list_tup, DL.list_lst, DL.tuple_lst, DL.len_lst, DL.len_tup, DL.wipeE, DL.lcB, DL.cls_obj, DL.flds_obj, DL.isiO_obj, DL.v_augS, DL.v_methK, DL.v_makeK, DL.ev_a5, DL.ev_a6, DL.ev_a7, DL.v_mulB, eq_self, and_self, List.length_nil, List.length_cons, List.getElem?_cons_zero, List.getElem?_cons_succ, DL.list_tup_t, List.append_assoc, List.nil_append, List.cons_append, hc])
      refine ⟨_, rfl, trivial, fun y hy => ?_, fun post' hp => ?_⟩
      · rcases List.mem_append.mp hy with hy | hy
        · exact h1 y hy
        · have : y = x := by simpa using hy
          rw [this]; exact hc
      · rw [hl] at hp
        have hp' : post = post' := by simpa using hp
        subst hp'
        exact h5
  · rintro ρ S2 ⟨o, rfl, rfl, h1, h2⟩
    have h30 := h1 3 (by simp)
    have h4 : 3 < n := by omega
    (try simp -implicitDefEqProofs (disch := first | omega | (simp only [List.length_map, List.length_cons, List.length_nil, List.length_range, List.length_append, List.length_replicate]; omega)) only [DL.e_d, DL.e_op, DL.e_un, DL.e_test, DL.e_asB, DL.e_and, DL.e_or, DL.e_not, DL.e_if, DL.e_andV, DL.e_orV, DL.e_notV, DL.e_chain, DL.e_nil, DL.e_cons, DL.e_tup, DL.e_lst, DL.e_cb, DL.e_callK, DL.e_meth, DL.e_methP, DL.e_smeth, DL.e_cval, DL.e_fld, DL.e_prop, DL.e_star, DL.e_ps0, DL.e_ps, DL.e_dispK, DL.e_dispT, DL.e_dK0, DL.e_dT0, DL.e_frz, DL.e_no, DL.e_part, DL.e_sl, DL.s_set, DL.s_asg, DL.s_nx, DL.s_seq, DL.s_expr, DL.s_ret, DL.s_retN, DL.s_brk, DL.s_cont, DL.s_stuck, DL.s_ifS, DL.s_aug, DL.s_par, DL.s_par3, DL.s_setI, DL.s_fldS, DL.g_name_eq, DL.g_nil_eq, DL.g_cons_eq, DL.g_tup_eq, DL.v_add, DL.v_addI, DL.v_sub, DL.v_neg, DL.v_lt, DL.v_le, DL.v_gt, DL.v_ge, DL.v_eq, DL.v_isN, DL.v_tupcat, DL.Res.bind_ok, DL.Res.bindN_ok, DL.ret_rt, DL.ret_nx, DL.ev_v0, DL.ev_vs, DL.ev_a1, DL.ev_a2, DL.ev_a3, DL.ev_a4, List.set_cons_zero, List.set_cons_succ, decide_true, decide_false, Bool.not_true, Bool.not_false, if_true, Bool.false_eq_true, if_false, DL.e_cb, DL.e_yes, DL.wp_ok, DL.wp_bind, DL.wp_bindN, DL.wp_ret, DL.retQ_rt, DL.retQ_nx, DL.wp_fin, DL.FQ_nx, DL.FQ_ct, DL.FQ_bk, DL.FQ_rt, DL.addO_some, DL.addO_none, DL.isCon_self, DL.v_mulC, DL.v_fdivC, DL.v_modC, DL.ix_t0, DL.ix_t1, DL.ix_t2, DL.ix_l0, DL.ix_l1, DL.ix_l2, DL.isi_int_int, DL.isi_int_bool, DL.min2_eq, DL.max2_eq, DL.tup_f, DL.lst_f, DL.list_tup, DL.list_lst, DL.tuple_lst, DL.len_lst, DL.len_tup, DL.wipeE, DL.lcB, DL.cls_obj, DL.flds_obj, DL.isiO_obj, DL.v_augS, DL.v_methK, DL.v_makeK, DL.ev_a5, DL.ev_a6, DL.ev_a7, DL.v_mulB, eq_self, and_self, List.length_nil, List.length_cons, List.getElem?_cons_zero, List.getElem?_cons_succ, DL.list_tup_t, List.append_assoc, List.nil_append, List.cons_append, lc_eqM (S := S2) (ci := c_it (c_d k_BASES)) (g := g_name 1) (t := c_yes) (a := c_cb (mp_is_probable G) (c_cons (c_var 0) (c_cons (c_var 1) c_nil))) (own := [1]) (ρ := [some (.int n), o]) [2, 3, 5, 7] D.int (fun b => .bl (isPb n b)) (it_eq (x := k_BASES) rfl rfl) (by decide) (ok_one rfl) (fun x _ => by (try simp -implicitDefEqProofs (disch := first | omega | (simp only [List.length_map, List.length_cons, List.length_nil, List.length_range, List.length_append, List.length_replicate]; omega)) only [DL.e_d, DL.e_op, DL.e_un, DL.e_test, DL.e_asB, DL.e_and, DL.e_or, DL.e_not, DL.e_if, DL.e_andV, DL.e_orV, DL.e_notV, DL.e_chain, DL.e_nil, DL.e_cons, DL.e_tup, DL.e_lst, DL.e_cb, DL.e_callK, DL.e_meth, DL.e_methP, DL.e_smeth, DL.e_cval, DL.e_fld, DL.e_prop, DL.e_star, DL.e_ps0, DL.e_ps, DL.e_dispK, DL.e_dispT, DL.e_dK0, DL.e_dT0, DL.e_frz, DL.e_no, DL.e_part, DL.e_sl, DL.s_set, DL.s_asg, DL.s_nx, DL.s_seq, DL.s_expr, DL.s_ret, DL.s_retN, DL.s_brk, DL.s_cont, DL.s_stuck, DL.s_ifS, DL.s_aug, DL.s_par, DL.s_par3, DL.s_setI, DL.s_fldS, DL.g_name_eq, DL.g_nil_eq, DL.g_cons_eq, DL.g_tup_eq, DL.v_add, DL.v_addI, DL.v_sub, DL.v_neg, DL.v_lt, DL.v_le, DL.v_gt, DL.v_ge, DL.v_eq, DL.v_isN, DL.v_tupcat, DL.Res.bind_ok, DL.Res.bindN_ok, DL.ret_rt, DL.ret_nx, DL.ev_v0, DL.ev_vs, DL.ev_a1, DL.ev_a2, DL.ev_a3, DL.ev_a4, List.set_cons_zero, List.set_cons_succ, decide_true, decide_false, Bool.not_true, Bool.not_false, if_true, Bool.false_eq_true, if_false, DL.e_cb, DL.e_yes, DL.wp_ok, DL.wp_bind, DL.wp_bindN, DL.wp_ret, DL.retQ_rt, DL.retQ_nx, DL.wp_fin, DL.FQ_nx, DL.FQ_ct, DL.FQ_bk, DL.FQ_rt, DL.addO_some, DL.addO_none, DL.isCon_self, DL.v_mulC, DL.v_fdivC, DL.v_modC, DL.ix_t0, DL.ix_t1, DL.ix_t2, DL.ix_l0, DL.ix_l1, DL.ix_l2, DL.isi_int_int, DL.isi_int_bool, DL.min2_eq, DL.max2_eq, DL.tup_f, DL.lst_f, DL.list_tup, DL.list_lst, DL.tuple_lst, DL.len_lst, DL.len_tup, DL.wipeE, DL.lcB, DL.cls_obj, DL.flds_obj, DL.isiO_obj, DL.v_augS, DL.v_methK, DL.v_makeK, DL.ev_a5, DL.ev_a6, DL.ev_a7, DL.v_mulB, eq_self, and_self, List.length_nil, List.length_cons, List.getElem?_cons_zero, List.getElem?_cons_succ, DL.list_tup_t, List.append_assoc, List.nil_append, List.cons_append, mp_is_probable, is_probable_eq (S := S2) (G := G) (n := n) (b := x) h4 hn])), all_bls])
    have h5 := h2 [] (by simp)
    refine ⟨?_, trivial⟩
    unfold isPr
    rw [← h5]
    rfl
theorem is_between_eq {x a b : Int} : m_is_between G [.int x, .int a, .int b] S = .ok (.bl (decide (a ≤ x) && decide (x ≤ b))) S := by
  refine eq_wp ?_
  rw [m_is_between, fnR_eq]
  show wp (ret S (c_is_between G [some (.int x), some (.int a), some (.int b)] S)) _
  unfold c_is_between
  by_cases h1 : a ≤ x
  · by_cases h2 : x ≤ b
    · (try simp -implicitDefEqProofs (disch := first | omega | (simp only [List.length_map, List.length_cons, List.length_nil, List.length_range, List.length_append, List.length_replicate]; omega)) only [DL.e_d, DL.e_op, DL.e_un, DL.e_test, DL.e_asB, DL.e_and, DL.e_or, DL.e_not, DL.e_if, DL.e_andV, DL.e_orV, DL.e_notV, DL.e_chain, DL.e_nil, DL.e_cons, DL.e_tup, DL.e_lst, DL.e_cb, DL.e_callK, DL.e_meth, DL.e_methP, DL.e_smeth, DL.e_cval, DL.e_fld, DL.e_prop, DL.e_star, DL.e_ps0, DL.e_ps, DL.e_dispK, DL.e_dispT, DL.e_dK0, DL.e_dT0, DL.e_frz, DL.e_no, DL.e_part, DL.e_sl, DL.s_set, DL.s_asg, DL.s_nx, DL.s_seq, DL.s_expr, DL.s_ret, DL.s_retN, DL.s_brk, DL.s_cont, DL.s_stuck, DL.s_ifS, DL.s_aug, DL.s_par, DL.s_par3, DL.s_setI, DL.s_fldS, DL.g_name_eq, DL.g_nil_eq, DL.g_cons_eq, DL.g_tup_eq, DL.v_add, DL.v_addI, DL.v_sub, DL.v_neg, DL.v_lt, DL.v_le, DL.v_gt, DL.v_ge, DL.v_eq, DL.v_isN, DL.v_tupcat, DL.Res.bind_ok, DL.Res.bindN_ok, DL.ret_rt, DL.ret_nx, DL.ev_v0, DL.ev_vs, DL.ev_a1, DL.ev_a2, DL.ev_a3, DL.ev_a4, List.set_cons_zero, List.set_cons_succ, decide_true, decide_false, Bool.not_true, Bool.not_false, if_true, Bool.false_eq_true, if_false, DL.e_cb, DL.e_yes, DL.wp_ok, DL.wp_bind, DL.wp_bindN, DL.wp_ret, DL.retQ_rt, DL.retQ_nx, DL.wp_fin, DL.FQ_nx, DL.FQ_ct, DL.FQ_bk, DL.FQ_rt, DL.addO_some, DL.addO_none, DL.isCon_self, DL.v_mulC, DL.v_fdivC, DL.v_modC, DL.ix_t0, DL.ix_t1, DL.ix_t2, DL.ix_l0, DL.ix_l1, DL.ix_l2, DL.isi_int_int, DL.isi_int_bool, DL.min2_eq, DL.max2_eq, DL.tup_f, DL.lst_f, DL.list_tup, DL.list_lst, DL.tuple_lst, DL.len_lst, DL.len_tup, DL.wipeE, DL.lcB, DL.cls_obj, DL.flds_obj, DL.isiO_obj, DL.v_augS, DL.v_methK, DL.v_makeK, DL.ev_a5, DL.ev_a6, DL.ev_a7, DL.v_mulB, eq_self, and_self, List.length_nil, List.length_cons, List.getElem?_cons_zero, List.getElem?_cons_succ, DL.list_tup_t, List.append_assoc, List.nil_append, List.cons_append, h1, h2]); all_goals first | exact ⟨rfl, trivial⟩ | exact ⟨trivial, trivial⟩ | exact trivial | exact ⟨rfl, rfl⟩
    · (try simp -implicitDefEqProofs (disch := first | omega | (simp only [List.length_map, List.length_cons, List.length_nil, List.length_range, List.length_append, List.length_replicate]; omega)) only [DL.e_d, DL.e_op, DL.e_un, DL.e_test, DL.e_asB, DL.e_and, DL.e_or, DL.e_not, DL.e_if, DL.e_andV, DL.e_orV, DL.e_notV, DL.e_chain, DL.e_nil, DL.e_cons, DL.e_tup, DL.e_lst, DL.e_cb, DL.e_callK, DL.e_meth, DL.e_methP, DL.e_smeth, DL.e_cval, DL.e_fld, DL.e_prop, DL.e_star, DL.e_ps0, DL.e_ps, DL.e_dispK, DL.e_dispT, DL.e_dK0, DL.e_dT0, DL.e_frz, DL.e_no, DL.e_part, DL.e_sl, DL.s_set, DL.s_asg, DL.s_nx, DL.s_seq, DL.s_expr, DL.s_ret, DL.s_retN, DL.s_brk, DL.s_cont, DL.s_stuck, DL.s_ifS, DL.s_aug, DL.s_par, DL.s_par3, DL.s_setI, DL.s_fldS, DL.g_name_eq, DL.g_nil_eq, DL.g_cons_eq, DL.g_tup_eq, DL.v_add, DL.v_addI, DL.v_sub, DL.v_neg, DL.v_lt, DL.v_le, DL.v_gt, DL.v_ge, DL.v_eq, DL.v_isN, DL.v_tupcat, DL.Res.bind_ok, DL.Res.bindN_ok, DL.ret_rt, DL.ret_nx, DL.ev_v0, DL.ev_vs, DL.ev_a1, DL.ev_a2, DL.ev_a3, DL.ev_a4, List.set_cons_zero, List.set_cons_succ, decide_true, decide_false, Bool.not_true, Bool.not_false, if_true, Bool.false_eq_true, if_false, DL.e_cb, DL.e_yes, DL.wp_ok, DL.wp_bind, DL.wp_bindN, DL.wp_ret, DL.retQ_rt, DL.retQ_nx, DL.wp_fin, DL.FQ_nx, DL.FQ_ct, DL.FQ_bk, DL.FQ_rt, DL.addO_some, DL.addO_none, DL.isCon_self, DL.v_mulC, DL.v_fdivC, DL.v_modC, DL.ix_t0, DL.ix_t1, DL.ix_t2, DL.ix_l0, DL.ix_l1, DL.ix_l2, DL.isi_int_int, DL.isi_int_bool, DL.min2_eq, DL.max2_eq, DL.tup_f, DL.lst_f, DL.list_tup, DL.list_lst, DL.tuple_lst, DL.len_lst, DL.len_tup, DL.wipeE, DL.lcB, DL.cls_obj, DL.flds_obj, DL.isiO_obj, DL.v_augS, DL.v_methK, DL.v_makeK, DL.ev_a5, DL.ev_a6, DL.ev_a7, DL.v_mulB, eq_self, and_self, List.length_nil, List.length_cons, List.getElem?_cons_zero, List.getElem?_cons_succ, DL.list_tup_t, List.append_assoc, List.nil_append, List.cons_append, h1, h2]); all_goals first | exact ⟨rfl, trivial⟩ | exact ⟨trivial, trivial⟩ | exact trivial | exact ⟨rfl, rfl⟩
  · (try simp -implicitDefEqProofs (disch := first | omega | (simp only [List.length_map, List.length_cons, List.length_nil, List.length_range, List.length_append, List.length_replicate]; omega)) only [DL.e_d, DL.e_op, DL.e_un, DL.e_test, DL.e_asB, DL.e_and, DL.e_or, DL.e_not, DL.e_if, DL.e_andV, DL.e_orV, DL.e_notV, DL.e_chain, DL.e_nil, DL.e_cons, DL.e_tup, DL.e_lst, DL.e_cb, DL.e_callK, DL.e_meth, DL.e_methP, DL.e_smeth, DL.e_cval, DL.e_fld, DL.e_prop, DL.e_star, DL.e_ps0, DL.e_ps, DL.e_dispK, DL.e_dispT, DL.e_dK0, DL.e_dT0, DL.e_frz, DL.e_no, DL.e_part, DL.e_sl, DL.s_set, DL.s_asg, DL.s_nx, DL.s_seq, DL.s_expr, DL.s_ret, DL.s_retN, DL.s_brk, DL.s_cont, DL.s_stuck, DL.s_ifS, DL.s_aug, DL.s_par, DL.s_par3, DL.s_setI, DL.s_fldS, DL.g_name_eq, DL.g_nil_eq, DL.g_cons_eq, DL.g_tup_eq, DL.v_add, DL.v_addI, DL.v_sub, DL.v_neg, DL.v_lt, DL.v_le, DL.v_gt, DL.v_ge, DL.v_eq, DL.v_isN, DL.v_tupcat, DL.Res.bind_ok, DL.Res.bindN_ok, DL.ret_rt, DL.ret_nx, DL.ev_v0, DL.ev_vs, DL.ev_a1, DL.ev_a2, DL.ev_a3, DL.ev_a4, List.set_cons_zero, List.set_cons_succ, decide_true, decide_false, Bool.not_true, Bool.not_false, if_true, Bool.false_eq_true, if_false, DL.e_cb, DL.e_yes, DL.wp_ok, DL.wp_bind, DL.wp_bindN, DL.wp_ret, DL.retQ_rt, DL.retQ_nx, DL.wp_fin, DL.FQ_nx, DL.FQ_ct, DL.FQ_bk, DL.FQ_rt, DL.addO_some, DL.addO_none, DL.isCon_self, DL.v_mulC, DL.v_fdivC, DL.v_modC, DL.ix_t0, DL.ix_t1, DL.ix_t2, DL.ix_l0, DL.ix_l1, DL.ix_l2, DL.isi_int_int, DL.isi_int_bool, DL.min2_eq, DL.max2_eq, DL.tup_f, DL.lst_f, DL.list_tup, DL.list_lst, DL.tuple_lst, DL.len_lst, DL.len_tup, DL.wipeE, DL.lcB, DL.cls_obj, DL.flds_obj, DL.isiO_obj, DL.v_augS, DL.v_methK, DL.v_makeK, DL.ev_a5, DL.ev_a6, DL.ev_a7, DL.v_mulB, eq_self, and_self, List.length_nil, List.length_cons, List.getElem?_cons_zero, List.getElem?_cons_succ, DL.list_tup_t, List.append_assoc, List.nil_append, List.cons_append, h1]); all_goals first | exact ⟨rfl, trivial⟩ | exact ⟨trivial, trivial⟩ | exact trivial | exact ⟨rfl, rfl⟩
theorem is_prime_eq {n : Int} (h3 : 3 ≤ n) (hn : n ≤ 1000000000) : m_Scheme_is_prime G [.int n] S = .ok (.bl (isPr n)) S := by
  refine eq_wp ?_
  rw [m_Scheme_is_prime, fnR_eq]
  show wp (ret S (c_Scheme_is_prime G [some (.int n)] S)) _
  unfold c_Scheme_is_prime
  (try simp -implicitDefEqProofs (disch := first | omega | (simp only [List.length_map, List.length_cons, List.length_nil, List.length_range, List.length_append, List.length_replicate]; omega)) only [DL.e_d, DL.e_op, DL.e_un, DL.e_test, DL.e_asB, DL.e_and, DL.e_or, DL.e_not, DL.e_if, DL.e_andV, DL.e_orV, DL.e_notV, DL.e_chain, DL.e_nil, DL.e_cons, DL.e_tup, DL.e_lst, DL.e_cb, DL.e_callK, DL.e_meth, DL.e_methP, DL.e_smeth, DL.e_cval, DL.e_fld, DL.e_prop, DL.e_star, DL.e_ps0, DL.e_ps, DL.e_dispK, DL.e_dispT, DL.e_dK0, DL.e_dT0, DL.e_frz, DL.e_no, DL.e_part, DL.e_sl, DL.s_set, DL.s_asg, DL.s_nx, DL.s_seq, DL.s_expr, DL.s_ret, DL.s_retN, DL.s_brk, DL.s_cont, DL.s_stuck, DL.s_ifS, DL.s_aug, DL.s_par, DL.s_par3, DL.s_setI, DL.s_fldS, DL.g_name_eq, DL.g_nil_eq, DL.g_cons_eq, DL.g_tup_eq, DL.v_add, DL.v_addI, DL.v_sub, DL.v_neg, DL.v_lt, DL.v_le, DL.v_gt, DL.v_ge, DL.v_eq, DL.v_isN, DL.v_tupcat, DL.Res.bind_ok, DL.Res.bindN_ok, DL.ret_rt, DL.ret_nx, DL.ev_v0, DL.ev_vs, DL.ev_a1, DL.ev_a2, DL.ev_a3, DL.ev_a4, List.set_cons_zero, List.set_cons_succ, decide_true, decide_false, Bool.not_true, Bool.not_false, if_true, Bool.false_eq_true, if_false, DL.e_cb, DL.e_yes, DL.wp_ok, DL.wp_bind, DL.wp_bindN, DL.wp_ret, DL.retQ_rt, DL.retQ_nx, DL.wp_fin, DL.FQ_nx, DL.FQ_ct, DL.FQ_bk, DL.FQ_rt, DL.addO_some, DL.addO_none, DL.isCon_self, DL.v_mulC, DL.v_fdivC, DL.v_modC, DL.ix_t0, DL.ix_t1, DL.ix_t2, DL.ix_l0, DL.ix_l1, DL.ix_l2, DL.isi_int_int, DL.isi_int_bool, DL.min2_eq, DL.max2_eq, DL.tup_f, DL.lst_f, DL.list_tup, DL.list_lst, DL.tuple_lst, DL.len_lst, DL.len_tup, DL.wipeE, DL.lcB, DL.cls_obj, DL.flds_obj, DL.isiO_obj, DL.v_augS, DL.v_methK, DL.v_makeK, DL.ev_a5, DL.ev_a6, DL.ev_a7, DL.v_mulB, eq_self, and_self, List.length_nil, List.length_cons, List.getElem?_cons_zero, List.getElem?_cons_succ, DL.list_tup_t, List.append_assoc, List.nil_append, List.cons_append, mp_is_between, is_between_eq (G := G) (S := S) (x := n) (a := 3) (b := 1000000000), h3, hn, Bool.and_self, mp_is_odd_prime, is_odd_prime_eq (G := G) (S := S) h3 (show n < 2 ^ 31 by omega)])
  all_goals first | exact ⟨rfl, trivial⟩ | exact ⟨trivial, trivial⟩ | exact trivial | exact ⟨rfl, rfl⟩
theorem scheme_init {S : Sto} {p n k : Int} (h3 : 3 ≤ p) (hp : p ≤ 1000000000) (hpr : isPr p = true) (hn : 2 ≤ n) (hn2 : n ≤ 24) (hnp : n * n < p) (hk : 1 ≤ k) (hk2 : k ≤ 24) :
    mp_Scheme__init_ G [.ref S.length, .int p, .int n, .int k] (S ++ [some (Cell.ins 0 [])]) = .ok .non (S ++ [some (Cell.ins 0 [.int p, .int n, .int k])]) := by
  refine eq_wp ?_
  have hge : ¬ p ≤ n * n := by omega
  have e0 : ∀ S, p_ge (.int (n * n)) (.int p) S = .ok (.bl false) S := fun S => by (try simp -implicitDefEqProofs (disch := first | omega | (simp only [List.length_map, List.length_cons, List.length_nil, List.length_range, List.length_append, List.length_replicate]; omega)) only [DL.e_d, DL.e_op, DL.e_un, DL.e_test, DL.e_asB, DL.e_and, DL.e_or, DL.e_not, DL.e_if, DL.e_andV, DL.e_orV, DL.e_notV, DL.e_chain, DL.e_nil, DL.e_cons, DL.e_tup, DL.e_lst, DL.e_cb, DL.e_callK, DL.e_meth, DL.e_methP, DL.e_smeth, DL.e_cval, DL.e_fld, DL.e_prop, DL.e_star, DL.e_ps0, DL.e_ps, DL.e_dispK, DL.e_dispT, DL.e_dK0, DL.e_dT0, DL.e_frz, DL.e_no, DL.e_part, DL.e_sl, DL.s_set, DL.s_asg, DL.s_nx, DL.s_seq, DL.s_expr, DL.s_ret, DL.s_retN, DL.s_brk, DL.s_cont, DL.s_stuck, DL.s_ifS, DL.s_aug, DL.s_par, DL.s_par3, DL.s_setI, DL.s_fldS, DL.g_name_eq, DL.g_nil_eq, DL.g_cons_eq, DL.g_tup_eq, DL.v_add, DL.v_addI, DL.v_sub, DL.v_neg, DL.v_lt, DL.v_le, DL.v_gt, DL.v_ge, DL.v_eq, DL.v_isN, DL.v_tupcat, DL.Res.bind_ok, DL.Res.bindN_ok, DL.ret_rt, DL.ret_nx, DL.ev_v0, DL.ev_vs, DL.ev_a1, DL.ev_a2, DL.ev_a3, DL.ev_a4, List.set_cons_zero, List.set_cons_succ, decide_true, decide_false, Bool.not_true, Bool.not_false, if_true, Bool.false_eq_true, if_false, DL.e_cb, DL.e_yes, DL.wp_ok, DL.wp_bind, DL.wp_bindN, DL.wp_ret, DL.retQ_rt, DL.retQ_nx, DL.wp_fin, DL.FQ_nx, DL.FQ_ct, DL.FQ_bk, DL.FQ_rt, DL.addO_some, DL.addO_none, DL.isCon_self, DL.v_mulC, DL.v_fdivC, DL.v_modC, DL.ix_t0, DL.ix_t1, DL.ix_t2, DL.ix_l0, DL.ix_l1, DL.ix_l2, DL.isi_int_int, DL.isi_int_bool, DL.min2_eq, DL.max2_eq, DL.tup_f, DL.lst_f, DL.list_tup, DL.list_lst, DL.tuple_lst, DL.len_lst, DL.len_tup, DL.wipeE, DL.lcB, DL.cls_obj, DL.flds_obj, DL.isiO_obj, DL.v_augS, DL.v_methK, DL.v_makeK, DL.ev_a5, DL.ev_a6, DL.ev_a7, DL.v_mulB, eq_self, and_self, List.length_nil, List.length_cons, List.getElem?_cons_zero, List.getElem?_cons_succ, DL.list_tup_t, List.append_assoc, List.nil_append, List.cons_append, hge])
  rw [mp_Scheme__init_, ev_a4, m_Scheme__init_, fnR_eq]
  generalize hS : S ++ [some (Cell.ins 0 [])] = S1
  show wp (ret S1 (c_Scheme__init_ G [some (.ref S.length), some (.int p), some (.int n), some (.int k)] S1)) _
  unfold c_Scheme__init_ k_LEAST_ACCOUNTS
  (try simp -implicitDefEqProofs (disch := first | omega | (simp only [List.length_map, List.length_cons, List.length_nil, List.length_range, List.length_append, List.length_replicate]; omega)) only [DL.e_d, DL.e_op, DL.e_un, DL.e_test, DL.e_asB, DL.e_and, DL.e_or, DL.e_not, DL.e_if, DL.e_andV, DL.e_orV, DL.e_notV, DL.e_chain, DL.e_nil, DL.e_cons, DL.e_tup, DL.e_lst, DL.e_cb, DL.e_callK, DL.e_meth, DL.e_methP, DL.e_smeth, DL.e_cval, DL.e_fld, DL.e_prop, DL.e_star, DL.e_ps0, DL.e_ps, DL.e_dispK, DL.e_dispT, DL.e_dK0, DL.e_dT0, DL.e_frz, DL.e_no, DL.e_part, DL.e_sl, DL.s_set, DL.s_asg, DL.s_nx, DL.s_seq, DL.s_expr, DL.s_ret, DL.s_retN, DL.s_brk, DL.s_cont, DL.s_stuck, DL.s_ifS, DL.s_aug, DL.s_par, DL.s_par3, DL.s_setI, DL.s_fldS, DL.g_name_eq, DL.g_nil_eq, DL.g_cons_eq, DL.g_tup_eq, DL.v_add, DL.v_addI, DL.v_sub, DL.v_neg, DL.v_lt, DL.v_le, DL.v_gt, DL.v_ge, DL.v_eq, DL.v_isN, DL.v_tupcat, DL.Res.bind_ok, DL.Res.bindN_ok, DL.ret_rt, DL.ret_nx, DL.ev_v0, DL.ev_vs, DL.ev_a1, DL.ev_a2, DL.ev_a3, DL.ev_a4, List.set_cons_zero, List.set_cons_succ, decide_true, decide_false, Bool.not_true, Bool.not_false, if_true, Bool.false_eq_true, if_false, DL.e_cb, DL.e_yes, DL.wp_ok, DL.wp_bind, DL.wp_bindN, DL.wp_ret, DL.retQ_rt, DL.retQ_nx, DL.wp_fin, DL.FQ_nx, DL.FQ_ct, DL.FQ_bk, DL.FQ_rt, DL.addO_some, DL.addO_none, DL.isCon_self, DL.v_mulC, DL.v_fdivC, DL.v_modC, DL.ix_t0, DL.ix_t1, DL.ix_t2, DL.ix_l0, DL.ix_l1, DL.ix_l2, DL.isi_int_int, DL.isi_int_bool, DL.min2_eq, DL.max2_eq, DL.tup_f, DL.lst_f, DL.list_tup, DL.list_lst, DL.tuple_lst, DL.len_lst, DL.len_tup, DL.wipeE, DL.lcB, DL.cls_obj, DL.flds_obj, DL.isiO_obj, DL.v_augS, DL.v_methK, DL.v_makeK, DL.ev_a5, DL.ev_a6, DL.ev_a7, DL.v_mulB, eq_self, and_self, List.length_nil, List.length_cons, List.getElem?_cons_zero, List.getElem?_cons_succ, DL.list_tup_t, List.append_assoc, List.nil_append, List.cons_append, mp_Scheme_is_prime, is_prime_eq (G := G) (S := S1) h3 hp, hpr, mp_is_between, is_between_eq (G := G) (S := S1), hn, hn2, hk, hk2, hge, Bool.and_self])
  subst hS
  (try simp -implicitDefEqProofs (disch := first | omega | (simp only [List.length_map, List.length_cons, List.length_nil, List.length_range, List.length_append, List.length_replicate]; omega)) only [DL.e_d, DL.e_op, DL.e_un, DL.e_test, DL.e_asB, DL.e_and, DL.e_or, DL.e_not, DL.e_if, DL.e_andV, DL.e_orV, DL.e_notV, DL.e_chain, DL.e_nil, DL.e_cons, DL.e_tup, DL.e_lst, DL.e_cb, DL.e_callK, DL.e_meth, DL.e_methP, DL.e_smeth, DL.e_cval, DL.e_fld, DL.e_prop, DL.e_star, DL.e_ps0, DL.e_ps, DL.e_dispK, DL.e_dispT, DL.e_dK0, DL.e_dT0, DL.e_frz, DL.e_no, DL.e_part, DL.e_sl, DL.s_set, DL.s_asg, DL.s_nx, DL.s_seq, DL.s_expr, DL.s_ret, DL.s_retN, DL.s_brk, DL.s_cont, DL.s_stuck, DL.s_ifS, DL.s_aug, DL.s_par, DL.s_par3, DL.s_setI, DL.s_fldS, DL.g_name_eq, DL.g_nil_eq, DL.g_cons_eq, DL.g_tup_eq, DL.v_add, DL.v_addI, DL.v_sub, DL.v_neg, DL.v_lt, DL.v_le, DL.v_gt, DL.v_ge, DL.v_eq, DL.v_isN, DL.v_tupcat, DL.Res.bind_ok, DL.Res.bindN_ok, DL.ret_rt, DL.ret_nx, DL.ev_v0, DL.ev_vs, DL.ev_a1, DL.ev_a2, DL.ev_a3, DL.ev_a4, List.set_cons_zero, List.set_cons_succ, decide_true, decide_false, Bool.not_true, Bool.not_false, if_true, Bool.false_eq_true, if_false, DL.e_cb, DL.e_yes, DL.wp_ok, DL.wp_bind, DL.wp_bindN, DL.wp_ret, DL.retQ_rt, DL.retQ_nx, DL.wp_fin, DL.FQ_nx, DL.FQ_ct, DL.FQ_bk, DL.FQ_rt, DL.addO_some, DL.addO_none, DL.isCon_self, DL.v_mulC, DL.v_fdivC, DL.v_modC, DL.ix_t0, DL.ix_t1, DL.ix_t2, DL.ix_l0, DL.ix_l1, DL.ix_l2, DL.isi_int_int, DL.isi_int_bool, DL.min2_eq, DL.max2_eq, DL.tup_f, DL.lst_f, DL.list_tup, DL.list_lst, DL.tuple_lst, DL.len_lst, DL.len_tup, DL.wipeE, DL.lcB, DL.cls_obj, DL.flds_obj, DL.isiO_obj, DL.v_augS, DL.v_methK, DL.v_makeK, DL.ev_a5, DL.ev_a6, DL.ev_a7, DL.v_mulB, eq_self, and_self, List.length_nil, List.length_cons, List.getElem?_cons_zero, List.getElem?_cons_succ, DL.list_tup_t, List.append_assoc, List.nil_append, List.cons_append, setF_snoc (S := S) (c := 0) (i := 0) (fs := []) (v := .int p) rfl (by decide)])
  (try simp -implicitDefEqProofs (disch := first | omega | (simp only [List.length_map, List.length_cons, List.length_nil, List.length_range, List.length_append, List.length_replicate]; omega)) only [DL.e_d, DL.e_op, DL.e_un, DL.e_test, DL.e_asB, DL.e_and, DL.e_or, DL.e_not, DL.e_if, DL.e_andV, DL.e_orV, DL.e_notV, DL.e_chain, DL.e_nil, DL.e_cons, DL.e_tup, DL.e_lst, DL.e_cb, DL.e_callK, DL.e_meth, DL.e_methP, DL.e_smeth, DL.e_cval, DL.e_fld, DL.e_prop, DL.e_star, DL.e_ps0, DL.e_ps, DL.e_dispK, DL.e_dispT, DL.e_dK0, DL.e_dT0, DL.e_frz, DL.e_no, DL.e_part, DL.e_sl, DL.s_set, DL.s_asg, DL.s_nx, DL.s_seq, DL.s_expr, DL.s_ret, DL.s_retN, DL.s_brk, DL.s_cont, DL.s_stuck, DL.s_ifS, DL.s_aug, DL.s_par, DL.s_par3, DL.s_setI, DL.s_fldS, DL.g_name_eq, DL.g_nil_eq, DL.g_cons_eq, DL.g_tup_eq, DL.v_add, DL.v_addI, DL.v_sub, DL.v_neg, DL.v_lt, DL.v_le, DL.v_gt, DL.v_ge, DL.v_eq, DL.v_isN, DL.v_tupcat, DL.Res.bind_ok, DL.Res.bindN_ok, DL.ret_rt, DL.ret_nx, DL.ev_v0, DL.ev_vs, DL.ev_a1, DL.ev_a2, DL.ev_a3, DL.ev_a4, List.set_cons_zero, List.set_cons_succ, decide_true, decide_false, Bool.not_true, Bool.not_false, if_true, Bool.false_eq_true, if_false, DL.e_cb, DL.e_yes, DL.wp_ok, DL.wp_bind, DL.wp_bindN, DL.wp_ret, DL.retQ_rt, DL.retQ_nx, DL.wp_fin, DL.FQ_nx, DL.FQ_ct, DL.FQ_bk, DL.FQ_rt, DL.addO_some, DL.addO_none, DL.isCon_self, DL.v_mulC, DL.v_fdivC, DL.v_modC, DL.ix_t0, DL.ix_t1, DL.ix_t2, DL.ix_l0, DL.ix_l1, DL.ix_l2, DL.isi_int_int, DL.isi_int_bool, DL.min2_eq, DL.max2_eq, DL.tup_f, DL.lst_f, DL.list_tup, DL.list_lst, DL.tuple_lst, DL.len_lst, DL.len_tup, DL.wipeE, DL.lcB, DL.cls_obj, DL.flds_obj, DL.isiO_obj, DL.v_augS, DL.v_methK, DL.v_makeK, DL.ev_a5, DL.ev_a6, DL.ev_a7, DL.v_mulB, eq_self, and_self, List.length_nil, List.length_cons, List.getElem?_cons_zero, List.getElem?_cons_succ, DL.list_tup_t, List.append_assoc, List.nil_append, List.cons_append, setF_snoc (S := S) (c := 0) (i := 1) (fs := [.int p]) (v := .int n) rfl (by simp)])
  (try simp -implicitDefEqProofs (disch := first | omega | (simp only [List.length_map, List.length_cons, List.length_nil, List.length_range, List.length_append, List.length_replicate]; omega)) only [DL.e_d, DL.e_op, DL.e_un, DL.e_test, DL.e_asB, DL.e_and, DL.e_or, DL.e_not, DL.e_if, DL.e_andV, DL.e_orV, DL.e_notV, DL.e_chain, DL.e_nil, DL.e_cons, DL.e_tup, DL.e_lst, DL.e_cb, DL.e_callK, DL.e_meth, DL.e_methP, DL.e_smeth, DL.e_cval, DL.e_fld, DL.e_prop, DL.e_star, DL.e_ps0, DL.e_ps, DL.e_dispK, DL.e_dispT, DL.e_dK0, DL.e_dT0, DL.e_frz, DL.e_no, DL.e_part, DL.e_sl, DL.s_set, DL.s_asg, DL.s_nx, DL.s_seq, DL.s_expr, DL.s_ret, DL.s_retN, DL.s_brk, DL.s_cont, DL.s_stuck, DL.s_ifS, DL.s_aug, DL.s_par, DL.s_par3, DL.s_setI, DL.s_fldS, DL.g_name_eq, DL.g_nil_eq, DL.g_cons_eq, DL.g_tup_eq, DL.v_add, DL.v_addI, DL.v_sub, DL.v_neg, DL.v_lt, DL.v_le, DL.v_gt, DL.v_ge, DL.v_eq, DL.v_isN, DL.v_tupcat, DL.Res.bind_ok, DL.Res.bindN_ok, DL.ret_rt, DL.ret_nx, DL.ev_v0, DL.ev_vs, DL.ev_a1, DL.ev_a2, DL.ev_a3, DL.ev_a4, List.set_cons_zero, List.set_cons_succ, decide_true, decide_false, Bool.not_true, Bool.not_false, if_true, Bool.false_eq_true, if_false, DL.e_cb, DL.e_yes, DL.wp_ok, DL.wp_bind, DL.wp_bindN, DL.wp_ret, DL.retQ_rt, DL.retQ_nx, DL.wp_fin, DL.FQ_nx, DL.FQ_ct, DL.FQ_bk, DL.FQ_rt, DL.addO_some, DL.addO_none, DL.isCon_self, DL.v_mulC, DL.v_fdivC, DL.v_modC, DL.ix_t0, DL.ix_t1, DL.ix_t2, DL.ix_l0, DL.ix_l1, DL.ix_l2, DL.isi_int_int, DL.isi_int_bool, DL.min2_eq, DL.max2_eq, DL.tup_f, DL.lst_f, DL.list_tup, DL.list_lst, DL.tuple_lst, DL.len_lst, DL.len_tup, DL.wipeE, DL.lcB, DL.cls_obj, DL.flds_obj, DL.isiO_obj, DL.v_augS, DL.v_methK, DL.v_makeK, DL.ev_a5, DL.ev_a6, DL.ev_a7, DL.v_mulB, eq_self, and_self, List.length_nil, List.length_cons, List.getElem?_cons_zero, List.getElem?_cons_succ, DL.list_tup_t, List.append_assoc, List.nil_append, List.cons_append, setF_snoc (S := S) (c := 0) (i := 2) (fs := [.int p, .int n]) (v := .int k) rfl (by simp)])
  exact wp_fin_len (by simp) (by simp)
theorem scheme_eq {p n k : Int} (h3 : 3 ≤ p) (hp : p ≤ 1000000000) (hpr : isPr p = true) (hn : 2 ≤ n) (hn2 : n ≤ 24) (hnp : n * n < p) (hk : 1 ≤ k) (hk2 : k ≤ 24) : p_make false 0 (mp_Scheme__init_ G) [.int p, .int n, .int k] S = .ok (.obj 0 [.int p, .int n, .int k]) S :=
  make_frz (scheme_init h3 hp hpr hn hn2 hnp hk hk2) (by simp only [refsLtL, refsLt, Bool.and_self])
/-! evaluated step by step -/
def frc {α : Type} (x : Int) (k : Int → α) : α := match x with
  | .ofNat n => Nat.rec (k (.ofNat 0)) (fun m _ => k (.ofNat (m + 1))) n
  | .negSucc n => Nat.rec (k (.negSucc 0)) (fun m _ => k (.negSucc (m + 1))) n
theorem frc_eq {α : Type} (x : Int) (k : Int → α) : frc x k = k x := by
  unfold frc
  cases x with
  | ofNat n => cases n <;> rfl
  | negSucc n => cases n <;> rfl
def powE : Nat → Int → Int → Int → Int → Int
  | 0, r, _, _, _ => r
  | f + 1, r, s, l, p => if 0 < l then frc (if l % 2 = 1 then r * s % p else r) fun r' => frc (s * s % p) fun s' => frc (l / 2) fun l' => powE f r' s' l' p else r
theorem powE_eq : ∀ f r s l p, powE f r s l p = powF f r s l p
  | 0, _, _, _, _ => rfl
  | f + 1, r, s, l, p => by
    rw [powE.eq_2, powF.eq_2]
    simp only [frc_eq, powE_eq f]
def oddE : Nat → Int → Int → Int × Int
  | 0, o, t => (o, t)
  | f + 1, o, t => if o % 2 = 0 then frc (o / 2) fun o' => frc (t + 1) fun t' => oddE f o' t' else (o, t)
theorem oddE_eq : ∀ f o t, oddE f o t = oddF f o t
  | 0, _, _ => rfl
  | f + 1, o, t => by
    rw [oddE.eq_2, oddF.eq_2]
    simp only [frc_eq, oddE_eq f]
def sqE : Nat → Int → Int → Bool
  | 0, _, _ => false
  | t + 1, w, n => frc (red n (w * w)) fun w' => if w' = -1 then true else sqE t w' n
theorem sqE_eq : ∀ t w n, sqE t w n = sqF t w n
  | 0, _, _ => rfl
  | t + 1, w, n => by
    rw [sqE.eq_2, sqF.eq_2]
    simp only [frc_eq, sqE_eq t]
def isPbE (n b : Int) : Bool := match oddE 40 (n - 1) 0 with
  | (o, t) => frc (powE 40 1 (b % n) o n) fun w0 => frc (red n w0) fun w => if is1 w = true then true else sqE (t - 1).toNat w n
theorem isPbE_eq (n b : Int) : isPbE n b = isPb n b := by
  unfold isPbE isPb
  rw [oddE_eq]
  simp only [frc_eq, powE_eq, sqE_eq]
def isPrE (n : Int) : Bool := (divs n [2, 3, 5, 7]).getD (([2, 3, 5, 7] : List Int).all (isPbE n))
theorem isPrE_eq (n : Int) : isPrE n = isPr n := by
  unfold isPrE isPr
  rw [show isPbE n = isPb n from funext (isPbE_eq n)]
theorem primes_ev : ([5, 7, 11, 13, 17, 23, 29, 37, 41, 53, 67, 97, 101, 257, 1009, 65537, 999999937] : List Int).all isPrE = true := by decide +kernel
theorem primes_ok {p : Int} (h : p ∈ ([5, 7, 11, 13, 17, 23, 29, 37, 41, 53, 67, 97, 101, 257, 1009, 65537, 999999937] : List Int)) : isPr p = true := by
  rw [← isPrE_eq]
  exact List.all_eq_true.mp primes_ev p h
end
/-! ### ledgers -/
def plan (p n k : Int) : D := .obj 0 [.int p, .int n, .int k]
structure Sc (p n k : Int) : Prop where
  p0 : 3 < p
  p1 : p < 2 ^ 30
  po : p % 2 = 1
  n0 : 2 ≤ n
  n1 : n ≤ 24
  k0 : 1 ≤ k
  k1 : k ≤ 24
  pn : n * n < p
def tm (p nm a : Int) : Nat → Int
  | 0 => a
  | i + 1 => red p (tm p nm a i * nm)
def lof (p n : Int) (pat : List (Int × Int × Int)) (i : Nat) : Int := (pat.map fun e => tm p (1 + e.1 * n + e.2.1) e.2.2 i).sum
def entD (e : Int × Int × Int) : D := .tup [.tup [.int e.1, .int e.2.1], .int e.2.2]
section
variable {G : Gx} {S : Sto} {p n k : Int}
theorem length_eq : m_Scheme_length G [plan p n k] S = .ok (.int k) S := by
  refine eq_wp ?_
  rw [m_Scheme_length, fnR_eq]
  show wp (ret S (c_Scheme_length G [some (.obj 0 [.int p, .int n, .int k])] S)) _
  unfold c_Scheme_length
  (try simp -implicitDefEqProofs (disch := first | omega | (simp only [List.length_map, List.length_cons, List.length_nil, List.length_range, List.length_append, List.length_replicate]; omega)) only [DL.e_d, DL.e_op, DL.e_un, DL.e_test, DL.e_asB, DL.e_and, DL.e_or, DL.e_not, DL.e_if, DL.e_andV, DL.e_orV, DL.e_notV, DL.e_chain, DL.e_nil, DL.e_cons, DL.e_tup, DL.e_lst, DL.e_cb, DL.e_callK, DL.e_meth, DL.e_methP, DL.e_smeth, DL.e_cval, DL.e_fld, DL.e_prop, DL.e_star, DL.e_ps0, DL.e_ps, DL.e_dispK, DL.e_dispT, DL.e_dK0, DL.e_dT0, DL.e_frz, DL.e_no, DL.e_part, DL.e_sl, DL.s_set, DL.s_asg, DL.s_nx, DL.s_seq, DL.s_expr, DL.s_ret, DL.s_retN, DL.s_brk, DL.s_cont, DL.s_stuck, DL.s_ifS, DL.s_aug, DL.s_par, DL.s_par3, DL.s_setI, DL.s_fldS, DL.g_name_eq, DL.g_nil_eq, DL.g_cons_eq, DL.g_tup_eq, DL.v_add, DL.v_addI, DL.v_sub, DL.v_neg, DL.v_lt, DL.v_le, DL.v_gt, DL.v_ge, DL.v_eq, DL.v_isN, DL.v_tupcat, DL.Res.bind_ok, DL.Res.bindN_ok, DL.ret_rt, DL.ret_nx, DL.ev_v0, DL.ev_vs, DL.ev_a1, DL.ev_a2, DL.ev_a3, DL.ev_a4, List.set_cons_zero, List.set_cons_succ, decide_true, decide_false, Bool.not_true, Bool.not_false, if_true, Bool.false_eq_true, if_false, DL.e_cb, DL.e_yes, DL.wp_ok, DL.wp_bind, DL.wp_bindN, DL.wp_ret, DL.retQ_rt, DL.retQ_nx, DL.wp_fin, DL.FQ_nx, DL.FQ_ct, DL.FQ_bk, DL.FQ_rt, DL.addO_some, DL.addO_none, DL.isCon_self, DL.v_mulC, DL.v_fdivC, DL.v_modC, DL.ix_t0, DL.ix_t1, DL.ix_t2, DL.ix_l0, DL.ix_l1, DL.ix_l2, DL.isi_int_int, DL.isi_int_bool, DL.min2_eq, DL.max2_eq, DL.tup_f, DL.lst_f, DL.list_tup, DL.list_lst, DL.tuple_lst, DL.len_lst, DL.len_tup, DL.wipeE, DL.lcB, DL.cls_obj, DL.flds_obj, DL.isiO_obj, DL.v_augS, DL.v_methK, DL.v_makeK, DL.ev_a5, DL.ev_a6, DL.ev_a7, DL.v_mulB, eq_self, and_self, List.length_nil, List.length_cons, List.getElem?_cons_zero, List.getElem?_cons_succ, DL.list_tup_t, List.append_assoc, List.nil_append, List.cons_append])
  all_goals first | exact ⟨rfl, trivial⟩ | exact ⟨trivial, trivial⟩ | exact trivial | exact ⟨rfl, rfl⟩
theorem accounts_eq : m_Scheme_accounts G [plan p n k] S = .ok (.int n) S := by
  refine eq_wp ?_
  rw [m_Scheme_accounts, fnR_eq]
  show wp (ret S (c_Scheme_accounts G [some (.obj 0 [.int p, .int n, .int k])] S)) _
  unfold c_Scheme_accounts
  (try simp -implicitDefEqProofs (disch := first | omega | (simp only [List.length_map, List.length_cons, List.length_nil, List.length_range, List.length_append, List.length_replicate]; omega)) only [DL.e_d, DL.e_op, DL.e_un, DL.e_test, DL.e_asB, DL.e_and, DL.e_or, DL.e_not, DL.e_if, DL.e_andV, DL.e_orV, DL.e_notV, DL.e_chain, DL.e_nil, DL.e_cons, DL.e_tup, DL.e_lst, DL.e_cb, DL.e_callK, DL.e_meth, DL.e_methP, DL.e_smeth, DL.e_cval, DL.e_fld, DL.e_prop, DL.e_star, DL.e_ps0, DL.e_ps, DL.e_dispK, DL.e_dispT, DL.e_dK0, DL.e_dT0, DL.e_frz, DL.e_no, DL.e_part, DL.e_sl, DL.s_set, DL.s_asg, DL.s_nx, DL.s_seq, DL.s_expr, DL.s_ret, DL.s_retN, DL.s_brk, DL.s_cont, DL.s_stuck, DL.s_ifS, DL.s_aug, DL.s_par, DL.s_par3, DL.s_setI, DL.s_fldS, DL.g_name_eq, DL.g_nil_eq, DL.g_cons_eq, DL.g_tup_eq, DL.v_add, DL.v_addI, DL.v_sub, DL.v_neg, DL.v_lt, DL.v_le, DL.v_gt, DL.v_ge, DL.v_eq, DL.v_isN, DL.v_tupcat, DL.Res.bind_ok, DL.Res.bindN_ok, DL.ret_rt, DL.ret_nx, DL.ev_v0, DL.ev_vs, DL.ev_a1, DL.ev_a2, DL.ev_a3, DL.ev_a4, List.set_cons_zero, List.set_cons_succ, decide_true, decide_false, Bool.not_true, Bool.not_false, if_true, Bool.false_eq_true, if_false, DL.e_cb, DL.e_yes, DL.wp_ok, DL.wp_bind, DL.wp_bindN, DL.wp_ret, DL.retQ_rt, DL.retQ_nx, DL.wp_fin, DL.FQ_nx, DL.FQ_ct, DL.FQ_bk, DL.FQ_rt, DL.addO_some, DL.addO_none, DL.isCon_self, DL.v_mulC, DL.v_fdivC, DL.v_modC, DL.ix_t0, DL.ix_t1, DL.ix_t2, DL.ix_l0, DL.ix_l1, DL.ix_l2, DL.isi_int_int, DL.isi_int_bool, DL.min2_eq, DL.max2_eq, DL.tup_f, DL.lst_f, DL.list_tup, DL.list_lst, DL.tuple_lst, DL.len_lst, DL.len_tup, DL.wipeE, DL.lcB, DL.cls_obj, DL.flds_obj, DL.isiO_obj, DL.v_augS, DL.v_methK, DL.v_makeK, DL.ev_a5, DL.ev_a6, DL.ev_a7, DL.v_mulB, eq_self, and_self, List.length_nil, List.length_cons, List.getElem?_cons_zero, List.getElem?_cons_succ, DL.list_tup_t, List.append_assoc, List.nil_append, List.cons_append])
  all_goals first | exact ⟨rfl, trivial⟩ | exact ⟨trivial, trivial⟩ | exact trivial | exact ⟨rfl, rfl⟩
theorem sreduced_eq (w : Sc p n k) {x : Int} : m_Scheme_reduced G [plan p n k, .int x] S = .ok (.int (red p x)) S := by
  refine eq_wp ?_
  have w0 := w.p0
  have w1 := w.p1
  rw [m_Scheme_reduced, fnR_eq]
  show wp (ret S (c_Scheme_reduced G [some (.obj 0 [.int p, .int n, .int k]), some (.int x)] S)) _
  unfold c_Scheme_reduced
  (try simp -implicitDefEqProofs (disch := first | omega | (simp only [List.length_map, List.length_cons, List.length_nil, List.length_range, List.length_append, List.length_replicate]; omega)) only [DL.e_d, DL.e_op, DL.e_un, DL.e_test, DL.e_asB, DL.e_and, DL.e_or, DL.e_not, DL.e_if, DL.e_andV, DL.e_orV, DL.e_notV, DL.e_chain, DL.e_nil, DL.e_cons, DL.e_tup, DL.e_lst, DL.e_cb, DL.e_callK, DL.e_meth, DL.e_methP, DL.e_smeth, DL.e_cval, DL.e_fld, DL.e_prop, DL.e_star, DL.e_ps0, DL.e_ps, DL.e_dispK, DL.e_dispT, DL.e_dK0, DL.e_dT0, DL.e_frz, DL.e_no, DL.e_part, DL.e_sl, DL.s_set, DL.s_asg, DL.s_nx, DL.s_seq, DL.s_expr, DL.s_ret, DL.s_retN, DL.s_brk, DL.s_cont, DL.s_stuck, DL.s_ifS, DL.s_aug, DL.s_par, DL.s_par3, DL.s_setI, DL.s_fldS, DL.g_name_eq, DL.g_nil_eq, DL.g_cons_eq, DL.g_tup_eq, DL.v_add, DL.v_addI, DL.v_sub, DL.v_neg, DL.v_lt, DL.v_le, DL.v_gt, DL.v_ge, DL.v_eq, DL.v_isN, DL.v_tupcat, DL.Res.bind_ok, DL.Res.bindN_ok, DL.ret_rt, DL.ret_nx, DL.ev_v0, DL.ev_vs, DL.ev_a1, DL.ev_a2, DL.ev_a3, DL.ev_a4, List.set_cons_zero, List.set_cons_succ, decide_true, decide_false, Bool.not_true, Bool.not_false, if_true, Bool.false_eq_true, if_false, DL.e_cb, DL.e_yes, DL.wp_ok, DL.wp_bind, DL.wp_bindN, DL.wp_ret, DL.retQ_rt, DL.retQ_nx, DL.wp_fin, DL.FQ_nx, DL.FQ_ct, DL.FQ_bk, DL.FQ_rt, DL.addO_some, DL.addO_none, DL.isCon_self, DL.v_mulC, DL.v_fdivC, DL.v_modC, DL.ix_t0, DL.ix_t1, DL.ix_t2, DL.ix_l0, DL.ix_l1, DL.ix_l2, DL.isi_int_int, DL.isi_int_bool, DL.min2_eq, DL.max2_eq, DL.tup_f, DL.lst_f, DL.list_tup, DL.list_lst, DL.tuple_lst, DL.len_lst, DL.len_tup, DL.wipeE, DL.lcB, DL.cls_obj, DL.flds_obj, DL.isiO_obj, DL.v_augS, DL.v_methK, DL.v_makeK, DL.ev_a5, DL.ev_a6, DL.ev_a7, DL.v_mulB, eq_self, and_self, List.length_nil, List.length_cons, List.getElem?_cons_zero, List.getElem?_cons_succ, DL.list_tup_t, List.append_assoc, List.nil_append, List.cons_append, mp_reduced_modulo, reduced_modulo_eq (G := G) (S := S) (p := p) (x := x) (by omega) (by omega)])
  all_goals first | exact ⟨rfl, trivial⟩ | exact ⟨trivial, trivial⟩ | exact trivial | exact ⟨rfl, rfl⟩
theorem clsOf_plan : clsOf (plan p n k) S = some 0 := rfl
theorem rep_z : D.tup (List.replicate k.toNat (.int 0)) = tI (fL k.toNat fun _ => 0) := by
  unfold tI fL
  rw [List.map_map]
  congr 1
  refine List.ext_getElem (by simp) fun i h1 h2 => ?_
  simp
theorem zero_ledger_eq (w : Sc p n k) : m_zero_ledger G [plan p n k] S = .ok (tI (fL k.toNat fun _ => 0)) S := by
  refine eq_wp ?_
  have w2 := w.k1
  rw [m_zero_ledger, fnR_eq]
  show wp (ret S (c_zero_ledger G [some (plan p n k)] S)) _
  unfold c_zero_ledger
  (try simp -implicitDefEqProofs (disch := first | omega | (simp only [List.length_map, List.length_cons, List.length_nil, List.length_range, List.length_append, List.length_replicate]; omega)) only [DL.e_d, DL.e_op, DL.e_un, DL.e_test, DL.e_asB, DL.e_and, DL.e_or, DL.e_not, DL.e_if, DL.e_andV, DL.e_orV, DL.e_notV, DL.e_chain, DL.e_nil, DL.e_cons, DL.e_tup, DL.e_lst, DL.e_cb, DL.e_callK, DL.e_meth, DL.e_methP, DL.e_smeth, DL.e_cval, DL.e_fld, DL.e_prop, DL.e_star, DL.e_ps0, DL.e_ps, DL.e_dispK, DL.e_dispT, DL.e_dK0, DL.e_dT0, DL.e_frz, DL.e_no, DL.e_part, DL.e_sl, DL.s_set, DL.s_asg, DL.s_nx, DL.s_seq, DL.s_expr, DL.s_ret, DL.s_retN, DL.s_brk, DL.s_cont, DL.s_stuck, DL.s_ifS, DL.s_aug, DL.s_par, DL.s_par3, DL.s_setI, DL.s_fldS, DL.g_name_eq, DL.g_nil_eq, DL.g_cons_eq, DL.g_tup_eq, DL.v_add, DL.v_addI, DL.v_sub, DL.v_neg, DL.v_lt, DL.v_le, DL.v_gt, DL.v_ge, DL.v_eq, DL.v_isN, DL.v_tupcat, DL.Res.bind_ok, DL.Res.bindN_ok, DL.ret_rt, DL.ret_nx, DL.ev_v0, DL.ev_vs, DL.ev_a1, DL.ev_a2, DL.ev_a3, DL.ev_a4, List.set_cons_zero, List.set_cons_succ, decide_true, decide_false, Bool.not_true, Bool.not_false, if_true, Bool.false_eq_true, if_false, DL.e_cb, DL.e_yes, DL.wp_ok, DL.wp_bind, DL.wp_bindN, DL.wp_ret, DL.retQ_rt, DL.retQ_nx, DL.wp_fin, DL.FQ_nx, DL.FQ_ct, DL.FQ_bk, DL.FQ_rt, DL.addO_some, DL.addO_none, DL.isCon_self, DL.v_mulC, DL.v_fdivC, DL.v_modC, DL.ix_t0, DL.ix_t1, DL.ix_t2, DL.ix_l0, DL.ix_l1, DL.ix_l2, DL.isi_int_int, DL.isi_int_bool, DL.min2_eq, DL.max2_eq, DL.tup_f, DL.lst_f, DL.list_tup, DL.list_lst, DL.tuple_lst, DL.len_lst, DL.len_tup, DL.wipeE, DL.lcB, DL.cls_obj, DL.flds_obj, DL.isiO_obj, DL.v_augS, DL.v_methK, DL.v_makeK, DL.ev_a5, DL.ev_a6, DL.ev_a7, DL.v_mulB, eq_self, and_self, List.length_nil, List.length_cons, List.getElem?_cons_zero, List.getElem?_cons_succ, DL.list_tup_t, List.append_assoc, List.nil_append, List.cons_append, clsOf_plan, length_eq, mul_tup (S := S) (d := .int 0) w.k0 (by omega)])
  exact ⟨rep_z, trivial⟩
theorem name_of_eq (w : Sc p n k) {u v : Int} (hu : 0 ≤ u) (hu2 : u < n) : m_Scheme_name_of G [plan p n k, .tup [.int u, .int v]] S = .ok (.int (1 + u * n + v)) S := by
  refine eq_wp ?_
  have w0 := w.n1
  rw [m_Scheme_name_of, fnR_eq]
  show wp (ret S (c_Scheme_name_of G [some (.obj 0 [.int p, .int n, .int k]), some (.tup [.int u, .int v])] S)) _
  unfold c_Scheme_name_of
  (try simp -implicitDefEqProofs (disch := first | omega | (simp only [List.length_map, List.length_cons, List.length_nil, List.length_range, List.length_append, List.length_replicate]; omega)) only [DL.e_d, DL.e_op, DL.e_un, DL.e_test, DL.e_asB, DL.e_and, DL.e_or, DL.e_not, DL.e_if, DL.e_andV, DL.e_orV, DL.e_notV, DL.e_chain, DL.e_nil, DL.e_cons, DL.e_tup, DL.e_lst, DL.e_cb, DL.e_callK, DL.e_meth, DL.e_methP, DL.e_smeth, DL.e_cval, DL.e_fld, DL.e_prop, DL.e_star, DL.e_ps0, DL.e_ps, DL.e_dispK, DL.e_dispT, DL.e_dK0, DL.e_dT0, DL.e_frz, DL.e_no, DL.e_part, DL.e_sl, DL.s_set, DL.s_asg, DL.s_nx, DL.s_seq, DL.s_expr, DL.s_ret, DL.s_retN, DL.s_brk, DL.s_cont, DL.s_stuck, DL.s_ifS, DL.s_aug, DL.s_par, DL.s_par3, DL.s_setI, DL.s_fldS, DL.g_name_eq, DL.g_nil_eq, DL.g_cons_eq, DL.g_tup_eq, DL.v_add, DL.v_addI, DL.v_sub, DL.v_neg, DL.v_lt, DL.v_le, DL.v_gt, DL.v_ge, DL.v_eq, DL.v_isN, DL.v_tupcat, DL.Res.bind_ok, DL.Res.bindN_ok, DL.ret_rt, DL.ret_nx, DL.ev_v0, DL.ev_vs, DL.ev_a1, DL.ev_a2, DL.ev_a3, DL.ev_a4, List.set_cons_zero, List.set_cons_succ, decide_true, decide_false, Bool.not_true, Bool.not_false, if_true, Bool.false_eq_true, if_false, DL.e_cb, DL.e_yes, DL.wp_ok, DL.wp_bind, DL.wp_bindN, DL.wp_ret, DL.retQ_rt, DL.retQ_nx, DL.wp_fin, DL.FQ_nx, DL.FQ_ct, DL.FQ_bk, DL.FQ_rt, DL.addO_some, DL.addO_none, DL.isCon_self, DL.v_mulC, DL.v_fdivC, DL.v_modC, DL.ix_t0, DL.ix_t1, DL.ix_t2, DL.ix_l0, DL.ix_l1, DL.ix_l2, DL.isi_int_int, DL.isi_int_bool, DL.min2_eq, DL.max2_eq, DL.tup_f, DL.lst_f, DL.list_tup, DL.list_lst, DL.tuple_lst, DL.len_lst, DL.len_tup, DL.wipeE, DL.lcB, DL.cls_obj, DL.flds_obj, DL.isiO_obj, DL.v_augS, DL.v_methK, DL.v_makeK, DL.ev_a5, DL.ev_a6, DL.ev_a7, DL.v_mulB, eq_self, and_self, List.length_nil, List.length_cons, List.getElem?_cons_zero, List.getElem?_cons_succ, DL.list_tup_t, List.append_assoc, List.nil_append, List.cons_append])
  all_goals first | exact ⟨rfl, trivial⟩ | exact ⟨trivial, trivial⟩ | exact trivial | exact ⟨rfl, rfl⟩
theorem tm_bound (w : Sc p n k) {nm a : Int} (ha : -(2 ^ 64) < a) (ha2 : a < 2 ^ 64) : ∀ i, -(2 ^ 64) < tm p nm a i ∧ tm p nm a i < 2 ^ 64
  | 0 => ⟨ha, ha2⟩
  | i + 1 => by
    have := red_range (p := p) (x := tm p nm a i * nm) (by have := w.p0; omega)
    have := w.p1
    unfold tm
    omega
theorem ledger_of_eq (w : Sc p n k) {pat : List (Int × Int × Int)} (hl : pat.length ≤ 1000) (hp : ∀ e ∈ pat, 0 ≤ e.1 ∧ e.1 < n ∧ 0 ≤ e.2.1 ∧ e.2.1 < n ∧ -(2 ^ 64) < e.2.2 ∧ e.2.2 < 2 ^ 64) : m_ledger_of G [plan p n k, .tup (pat.map entD)] S = .ok (tI (fL k.toNat fun i => red p (lof p n pat i))) S := by
  refine eq_wp ?_
  have w0 := w.n1
  have w2 := w.k1
  rw [m_ledger_of, fnR_eq]
  show wp (ret S (c_ledger_of G [some (plan p n k), some (.tup (pat.map entD)), none, none, none, none, none, none, none] S)) _
  unfold c_ledger_of
  have hz : (iD (fL k.toNat fun _ => 0)).length ≤ 1000000 := by rw [List.length_map, fL_len]; omega
  (try simp -implicitDefEqProofs (disch := first | omega | (simp only [List.length_map, List.length_cons, List.length_nil, List.length_range, List.length_append, List.length_replicate]; omega)) only [DL.e_d, DL.e_op, DL.e_un, DL.e_test, DL.e_asB, DL.e_and, DL.e_or, DL.e_not, DL.e_if, DL.e_andV, DL.e_orV, DL.e_notV, DL.e_chain, DL.e_nil, DL.e_cons, DL.e_tup, DL.e_lst, DL.e_cb, DL.e_callK, DL.e_meth, DL.e_methP, DL.e_smeth, DL.e_cval, DL.e_fld, DL.e_prop, DL.e_star, DL.e_ps0, DL.e_ps, DL.e_dispK, DL.e_dispT, DL.e_dK0, DL.e_dT0, DL.e_frz, DL.e_no, DL.e_part, DL.e_sl, DL.s_set, DL.s_asg, DL.s_nx, DL.s_seq, DL.s_expr, DL.s_ret, DL.s_retN, DL.s_brk, DL.s_cont, DL.s_stuck, DL.s_ifS, DL.s_aug, DL.s_par, DL.s_par3, DL.s_setI, DL.s_fldS, DL.g_name_eq, DL.g_nil_eq, DL.g_cons_eq, DL.g_tup_eq, DL.v_add, DL.v_addI, DL.v_sub, DL.v_neg, DL.v_lt, DL.v_le, DL.v_gt, DL.v_ge, DL.v_eq, DL.v_isN, DL.v_tupcat, DL.Res.bind_ok, DL.Res.bindN_ok, DL.ret_rt, DL.ret_nx, DL.ev_v0, DL.ev_vs, DL.ev_a1, DL.ev_a2, DL.ev_a3, DL.ev_a4, List.set_cons_zero, List.set_cons_succ, decide_true, decide_false, Bool.not_true, Bool.not_false, if_true, Bool.false_eq_true, if_false, DL.e_cb, DL.e_yes, DL.wp_ok, DL.wp_bind, DL.wp_bindN, DL.wp_ret, DL.retQ_rt, DL.retQ_nx, DL.wp_fin, DL.FQ_nx, DL.FQ_ct, DL.FQ_bk, DL.FQ_rt, DL.addO_some, DL.addO_none, DL.isCon_self, DL.v_mulC, DL.v_fdivC, DL.v_modC, DL.ix_t0, DL.ix_t1, DL.ix_t2, DL.ix_l0, DL.ix_l1, DL.ix_l2, DL.isi_int_int, DL.isi_int_bool, DL.min2_eq, DL.max2_eq, DL.tup_f, DL.lst_f, DL.list_tup, DL.list_lst, DL.tuple_lst, DL.len_lst, DL.len_tup, DL.wipeE, DL.lcB, DL.cls_obj, DL.flds_obj, DL.isiO_obj, DL.v_augS, DL.v_methK, DL.v_makeK, DL.ev_a5, DL.ev_a6, DL.ev_a7, DL.v_mulB, eq_self, and_self, List.length_nil, List.length_cons, List.getElem?_cons_zero, List.getElem?_cons_succ, DL.list_tup_t, List.append_assoc, List.nil_append, List.cons_append, mp_zero_ledger, zero_ledger_eq w, list_tup_t (S := S) hz])
  refine wp_for pat entD (fun pre ρ S' => ∃ o3 o4 o5 o6 o7, ρ = [some (plan p n k), some (.tup (pat.map entD)), some (.ref S.length), o3, o4, o5, o6, o7, none] ∧ S' = S ++ [some (.lst (iD (fL k.toNat fun i => lof p n pre i)))]) (it_eq (x := .tup (pat.map entD)) rfl rfl) (fun _ _ _ _ => ok_one rfl) ⟨none, none, none, none, none, rfl, rfl⟩ ?_ ?_
  · rintro pre ⟨u, v, a⟩ post ρ S' hr ⟨o3, o4, o5, o6, o7, rfl, rfl⟩
    obtain ⟨u0, u1, v0, v1, a0, a1⟩ : 0 ≤ u ∧ u < n ∧ 0 ≤ v ∧ v < n ∧ -(2 ^ 64) < a ∧ a < 2 ^ 64 := hp (u, v, a) (by rw [hr]; simp)
    have hun : 0 ≤ u * n ∧ u * n ≤ 24 * 24 := ⟨Int.mul_nonneg u0 (by omega), Int.mul_le_mul (by omega) (by omega) (by omega) (by omega)⟩
    unfold entD
    (try simp -implicitDefEqProofs (disch := first | omega | (simp only [List.length_map, List.length_cons, List.length_nil, List.length_range, List.length_append, List.length_replicate]; omega)) only [DL.e_d, DL.e_op, DL.e_un, DL.e_test, DL.e_asB, DL.e_and, DL.e_or, DL.e_not, DL.e_if, DL.e_andV, DL.e_orV, DL.e_notV, DL.e_chain, DL.e_nil, DL.e_cons, DL.e_tup, DL.e_lst, DL.e_cb, DL.e_callK, DL.e_meth, DL.e_methP, DL.e_smeth, DL.e_cval, DL.e_fld, DL.e_prop, DL.e_star, DL.e_ps0, DL.e_ps, DL.e_dispK, DL.e_dispT, DL.e_dK0, DL.e_dT0, DL.e_frz, DL.e_no, DL.e_part, DL.e_sl, DL.s_set, DL.s_asg, DL.s_nx, DL.s_seq, DL.s_expr, DL.s_ret, DL.s_retN, DL.s_brk, DL.s_cont, DL.s_stuck, DL.s_ifS, DL.s_aug, DL.s_par, DL.s_par3, DL.s_setI, DL.s_fldS, DL.g_name_eq, DL.g_nil_eq, DL.g_cons_eq, DL.g_tup_eq, DL.v_add, DL.v_addI, DL.v_sub, DL.v_neg, DL.v_lt, DL.v_le, DL.v_gt, DL.v_ge, DL.v_eq, DL.v_isN, DL.v_tupcat, DL.Res.bind_ok, DL.Res.bindN_ok, DL.ret_rt, DL.ret_nx, DL.ev_v0, DL.ev_vs, DL.ev_a1, DL.ev_a2, DL.ev_a3, DL.ev_a4, List.set_cons_zero, List.set_cons_succ, decide_true, decide_false, Bool.not_true, Bool.not_false, if_true, Bool.false_eq_true, if_false, DL.e_cb, DL.e_yes, DL.wp_ok, DL.wp_bind, DL.wp_bindN, DL.wp_ret, DL.retQ_rt, DL.retQ_nx, DL.wp_fin, DL.FQ_nx, DL.FQ_ct, DL.FQ_bk, DL.FQ_rt, DL.addO_some, DL.addO_none, DL.isCon_self, DL.v_mulC, DL.v_fdivC, DL.v_modC, DL.ix_t0, DL.ix_t1, DL.ix_t2, DL.ix_l0, DL.ix_l1, DL.ix_l2, DL.isi_int_int, DL.isi_int_bool, DL.min2_eq, DL.max2_eq, DL.tup_f, DL.lst_f, DL.list_tup, DL.list_lst, DL.tuple_lst, DL.len_lst, DL.len_tup, DL.wipeE, DL.lcB, DL.cls_obj, DL.flds_obj, DL.isiO_obj, DL.v_augS, DL.v_methK, DL.v_makeK, DL.ev_a5, DL.ev_a6, DL.ev_a7, DL.v_mulB, eq_self, and_self, List.length_nil, List.length_cons, List.getElem?_cons_zero, List.getElem?_cons_succ, DL.list_tup_t, List.append_assoc, List.nil_append, List.cons_append, clsOf_plan, mp_Scheme_name_of, name_of_eq (G := G) w u0 u1])
    generalize hnm : 1 + u * n + v = nm
    have hnm2 : 0 ≤ nm ∧ nm < 1000 := by omega
    have w3 := w.k0
    refine wp_for (List.range k.toNat) (fun (i : Nat) => D.int (0 + (i : Int))) (fun pre2 ρ S' => ∃ o7, ρ = [some (plan p n k), some (.tup (pat.map entD)), some (.ref S.length), some (.tup [.int u, .int v]), some (.int a), some (.int nm), some (.int (tm p nm a pre2.length)), o7, none] ∧ S' = S ++ [some (.lst (iD (fL k.toNat fun i => if i < pre2.length then lof p n pre i + tm p nm a i else lof p n pre i)))]) (rng1 (by (try simp -implicitDefEqProofs (disch := first | omega | (simp only [List.length_map, List.length_cons, List.length_nil, List.length_range, List.length_append, List.length_replicate]; omega)) only [DL.e_d, DL.e_op, DL.e_un, DL.e_test, DL.e_asB, DL.e_and, DL.e_or, DL.e_not, DL.e_if, DL.e_andV, DL.e_orV, DL.e_notV, DL.e_chain, DL.e_nil, DL.e_cons, DL.e_tup, DL.e_lst, DL.e_cb, DL.e_callK, DL.e_meth, DL.e_methP, DL.e_smeth, DL.e_cval, DL.e_fld, DL.e_prop, DL.e_star, DL.e_ps0, DL.e_ps, DL.e_dispK, DL.e_dispT, DL.e_dK0, DL.e_dT0, DL.e_frz, DL.e_no, DL.e_part, DL.e_sl, DL.s_set, DL.s_asg, DL.s_nx, DL.s_seq, DL.s_expr, DL.s_ret, DL.s_retN, DL.s_brk, DL.s_cont, DL.s_stuck, DL.s_ifS, DL.s_aug, DL.s_par, DL.s_par3, DL.s_setI, DL.s_fldS, DL.g_name_eq, DL.g_nil_eq, DL.g_cons_eq, DL.g_tup_eq, DL.v_add, DL.v_addI, DL.v_sub, DL.v_neg, DL.v_lt, DL.v_le, DL.v_gt, DL.v_ge, DL.v_eq, DL.v_isN, DL.v_tupcat, DL.Res.bind_ok, DL.Res.bindN_ok, DL.ret_rt, DL.ret_nx, DL.ev_v0, DL.ev_vs, DL.ev_a1, DL.ev_a2, DL.ev_a3, DL.ev_a4, List.set_cons_zero, List.set_cons_succ, decide_true, decide_false, Bool.not_true, Bool.not_false, if_true, Bool.false_eq_true, if_false, DL.e_cb, DL.e_yes, DL.wp_ok, DL.wp_bind, DL.wp_bindN, DL.wp_ret, DL.retQ_rt, DL.retQ_nx, DL.wp_fin, DL.FQ_nx, DL.FQ_ct, DL.FQ_bk, DL.FQ_rt, DL.addO_some, DL.addO_none, DL.isCon_self, DL.v_mulC, DL.v_fdivC, DL.v_modC, DL.ix_t0, DL.ix_t1, DL.ix_t2, DL.ix_l0, DL.ix_l1, DL.ix_l2, DL.isi_int_int, DL.isi_int_bool, DL.min2_eq, DL.max2_eq, DL.tup_f, DL.lst_f, DL.list_tup, DL.list_lst, DL.tuple_lst, DL.len_lst, DL.len_tup, DL.wipeE, DL.lcB, DL.cls_obj, DL.flds_obj, DL.isiO_obj, DL.v_augS, DL.v_methK, DL.v_makeK, DL.ev_a5, DL.ev_a6, DL.ev_a7, DL.v_mulB, eq_self, and_self, List.length_nil, List.length_cons, List.getElem?_cons_zero, List.getElem?_cons_succ, DL.list_tup_t, List.append_assoc, List.nil_append, List.cons_append, clsOf_plan, length_eq])) ⟨by omega, by omega⟩) (fun _ _ _ _ => ok_nil) ⟨o7, rfl, by simp⟩ ?_ ?_
    · rintro pre2 i post2 ρ S' hr2 ⟨o7, rfl, rfl⟩
      obtain ⟨i0, i1, i2⟩ := range_pre hr2
      have hbi := tm_bound w (nm := nm) a0 a1 pre2.length
      have hset : ∀ y, p_setI (.ref S.length) (.int (i : Int)) (.int y) (S ++ [some (.lst (iD (fL k.toNat fun i => if i < pre2.length then lof p n pre i + tm p nm a i else lof p n pre i)))]) = .ok () (S ++ [some (.lst (iD (fL k.toNat fun j => if j = i then y else if j < pre2.length then lof p n pre j + tm p nm a j else lof p n pre j)))]) := fun y => by
        rw [setI_ref snoc_at (by rw [List.length_map, fL_len]; exact i0), snoc_set]
        congr 4
        rw [← fL_set, iD, iD, List.map_set]
      (try simp -implicitDefEqProofs (disch := first | omega | (simp only [List.length_map, List.length_cons, List.length_nil, List.length_range, List.length_append, List.length_replicate]; omega)) only [DL.e_d, DL.e_op, DL.e_un, DL.e_test, DL.e_asB, DL.e_and, DL.e_or, DL.e_not, DL.e_if, DL.e_andV, DL.e_orV, DL.e_notV, DL.e_chain, DL.e_nil, DL.e_cons, DL.e_tup, DL.e_lst, DL.e_cb, DL.e_callK, DL.e_meth, DL.e_methP, DL.e_smeth, DL.e_cval, DL.e_fld, DL.e_prop, DL.e_star, DL.e_ps0, DL.e_ps, DL.e_dispK, DL.e_dispT, DL.e_dK0, DL.e_dT0, DL.e_frz, DL.e_no, DL.e_part, DL.e_sl, DL.s_set, DL.s_asg, DL.s_nx, DL.s_seq, DL.s_expr, DL.s_ret, DL.s_retN, DL.s_brk, DL.s_cont, DL.s_stuck, DL.s_ifS, DL.s_aug, DL.s_par, DL.s_par3, DL.s_setI, DL.s_fldS, DL.g_name_eq, DL.g_nil_eq, DL.g_cons_eq, DL.g_tup_eq, DL.v_add, DL.v_addI, DL.v_sub, DL.v_neg, DL.v_lt, DL.v_le, DL.v_gt, DL.v_ge, DL.v_eq, DL.v_isN, DL.v_tupcat, DL.Res.bind_ok, DL.Res.bindN_ok, DL.ret_rt, DL.ret_nx, DL.ev_v0, DL.ev_vs, DL.ev_a1, DL.ev_a2, DL.ev_a3, DL.ev_a4, List.set_cons_zero, List.set_cons_succ, decide_true, decide_false, Bool.not_true, Bool.not_false, if_true, Bool.false_eq_true, if_false, DL.e_cb, DL.e_yes, DL.wp_ok, DL.wp_bind, DL.wp_bindN, DL.wp_ret, DL.retQ_rt, DL.retQ_nx, DL.wp_fin, DL.FQ_nx, DL.FQ_ct, DL.FQ_bk, DL.FQ_rt, DL.addO_some, DL.addO_none, DL.isCon_self, DL.v_mulC, DL.v_fdivC, DL.v_modC, DL.ix_t0, DL.ix_t1, DL.ix_t2, DL.ix_l0, DL.ix_l1, DL.ix_l2, DL.isi_int_int, DL.isi_int_bool, DL.min2_eq, DL.max2_eq, DL.tup_f, DL.lst_f, DL.list_tup, DL.list_lst, DL.tuple_lst, DL.len_lst, DL.len_tup, DL.wipeE, DL.lcB, DL.cls_obj, DL.flds_obj, DL.isiO_obj, DL.v_augS, DL.v_methK, DL.v_makeK, DL.ev_a5, DL.ev_a6, DL.ev_a7, DL.v_mulB, eq_self, and_self, List.length_nil, List.length_cons, List.getElem?_cons_zero, List.getElem?_cons_succ, DL.list_tup_t, List.append_assoc, List.nil_append, List.cons_append, Int.zero_add, ixA_ref (S := S ++ [some (.lst (iD (fL k.toNat fun i => if i < pre2.length then lof p n pre i + tm p nm a i else lof p n pre i)))]) snoc_at (fL_at i0), hset, clsOf_plan, mp_Scheme_reduced, sreduced_eq (G := G) w, DL.p_addI])
      refine ⟨some (.int i), ?_, ?_⟩
      · rw [List.length_append, List.length_singleton]
        rfl
      · refine congrArg (fun l => S ++ [some (Cell.lst (iD l))]) (fL_ext fun j hj => ?_)
        rw [List.length_append, List.length_singleton]
        by_cases h1 : j = i
        · rw [if_pos h1, if_neg (by omega), if_pos (by omega), h1, ← i1]
        · rw [if_neg h1]
          by_cases h2 : j < pre2.length
          · rw [if_pos h2, if_pos (by omega)]
          · rw [if_neg h2, if_neg (by omega)]
    · rintro ρ S' ⟨o7, rfl, rfl⟩
      (try simp -implicitDefEqProofs (disch := first | omega | (simp only [List.length_map, List.length_cons, List.length_nil, List.length_range, List.length_append, List.length_replicate]; omega)) only [DL.e_d, DL.e_op, DL.e_un, DL.e_test, DL.e_asB, DL.e_and, DL.e_or, DL.e_not, DL.e_if, DL.e_andV, DL.e_orV, DL.e_notV, DL.e_chain, DL.e_nil, DL.e_cons, DL.e_tup, DL.e_lst, DL.e_cb, DL.e_callK, DL.e_meth, DL.e_methP, DL.e_smeth, DL.e_cval, DL.e_fld, DL.e_prop, DL.e_star, DL.e_ps0, DL.e_ps, DL.e_dispK, DL.e_dispT, DL.e_dK0, DL.e_dT0, DL.e_frz, DL.e_no, DL.e_part, DL.e_sl, DL.s_set, DL.s_asg, DL.s_nx, DL.s_seq, DL.s_expr, DL.s_ret, DL.s_retN, DL.s_brk, DL.s_cont, DL.s_stuck, DL.s_ifS, DL.s_aug, DL.s_par, DL.s_par3, DL.s_setI, DL.s_fldS, DL.g_name_eq, DL.g_nil_eq, DL.g_cons_eq, DL.g_tup_eq, DL.v_add, DL.v_addI, DL.v_sub, DL.v_neg, DL.v_lt, DL.v_le, DL.v_gt, DL.v_ge, DL.v_eq, DL.v_isN, DL.v_tupcat, DL.Res.bind_ok, DL.Res.bindN_ok, DL.ret_rt, DL.ret_nx, DL.ev_v0, DL.ev_vs, DL.ev_a1, DL.ev_a2, DL.ev_a3, DL.ev_a4, List.set_cons_zero, List.set_cons_succ, decide_true, decide_false, Bool.not_true, Bool.not_false, if_true, Bool.false_eq_true, if_false, DL.e_cb, DL.e_yes, DL.wp_ok, DL.wp_bind, DL.wp_bindN, DL.wp_ret, DL.retQ_rt, DL.retQ_nx, DL.wp_fin, DL.FQ_nx, DL.FQ_ct, DL.FQ_bk, DL.FQ_rt, DL.addO_some, DL.addO_none, DL.isCon_self, DL.v_mulC, DL.v_fdivC, DL.v_modC, DL.ix_t0, DL.ix_t1, DL.ix_t2, DL.ix_l0, DL.ix_l1, DL.ix_l2, DL.isi_int_int, DL.isi_int_bool, DL.min2_eq, DL.max2_eq, DL.tup_f, DL.lst_f, DL.list_tup, DL.list_lst, DL.tuple_lst, DL.len_lst, DL.len_tup, DL.wipeE, DL.lcB, DL.cls_obj, DL.flds_obj, DL.isiO_obj, DL.v_augS, DL.v_methK, DL.v_makeK, DL.ev_a5, DL.ev_a6, DL.ev_a7, DL.v_mulB, eq_self, and_self, List.length_nil, List.length_cons, List.getElem?_cons_zero, List.getElem?_cons_succ, DL.list_tup_t, List.append_assoc, List.nil_append, List.cons_append])
      refine ⟨_, _, _, _, _, rfl, ?_⟩
      refine congrArg (fun l => S ++ [some (Cell.lst (iD l))]) (fL_ext fun j hj => ?_)
      rw [List.length_range, if_pos hj]
      unfold lof
      rw [List.map_append, List.sum_append, ← hnm]
      simp
  · rintro ρ S' ⟨o3, o4, o5, o6, o7, rfl, rfl⟩
    (try simp -implicitDefEqProofs (disch := first | omega | (simp only [List.length_map, List.length_cons, List.length_nil, List.length_range, List.length_append, List.length_replicate]; omega)) only [DL.e_d, DL.e_op, DL.e_un, DL.e_test, DL.e_asB, DL.e_and, DL.e_or, DL.e_not, DL.e_if, DL.e_andV, DL.e_orV, DL.e_notV, DL.e_chain, DL.e_nil, DL.e_cons, DL.e_tup, DL.e_lst, DL.e_cb, DL.e_callK, DL.e_meth, DL.e_methP, DL.e_smeth, DL.e_cval, DL.e_fld, DL.e_prop, DL.e_star, DL.e_ps0, DL.e_ps, DL.e_dispK, DL.e_dispT, DL.e_dK0, DL.e_dT0, DL.e_frz, DL.e_no, DL.e_part, DL.e_sl, DL.s_set, DL.s_asg, DL.s_nx, DL.s_seq, DL.s_expr, DL.s_ret, DL.s_retN, DL.s_brk, DL.s_cont, DL.s_stuck, DL.s_ifS, DL.s_aug, DL.s_par, DL.s_par3, DL.s_setI, DL.s_fldS, DL.g_name_eq, DL.g_nil_eq, DL.g_cons_eq, DL.g_tup_eq, DL.v_add, DL.v_addI, DL.v_sub, DL.v_neg, DL.v_lt, DL.v_le, DL.v_gt, DL.v_ge, DL.v_eq, DL.v_isN, DL.v_tupcat, DL.Res.bind_ok, DL.Res.bindN_ok, DL.ret_rt, DL.ret_nx, DL.ev_v0, DL.ev_vs, DL.ev_a1, DL.ev_a2, DL.ev_a3, DL.ev_a4, List.set_cons_zero, List.set_cons_succ, decide_true, decide_false, Bool.not_true, Bool.not_false, if_true, Bool.false_eq_true, if_false, DL.e_cb, DL.e_yes, DL.wp_ok, DL.wp_bind, DL.wp_bindN, DL.wp_ret, DL.retQ_rt, DL.retQ_nx, DL.wp_fin, DL.FQ_nx, DL.FQ_ct, DL.FQ_bk, DL.FQ_rt, DL.addO_some, DL.addO_none, DL.isCon_self, DL.v_mulC, DL.v_fdivC, DL.v_modC, DL.ix_t0, DL.ix_t1, DL.ix_t2, DL.ix_l0, DL.ix_l1, DL.ix_l2, DL.isi_int_int, DL.isi_int_bool, DL.min2_eq, DL.max2_eq, DL.tup_f, DL.lst_f, DL.list_tup, DL.list_lst, DL.tuple_lst, DL.len_lst, DL.len_tup, DL.wipeE, DL.lcB, DL.cls_obj, DL.flds_obj, DL.isiO_obj, DL.v_augS, DL.v_methK, DL.v_makeK, DL.ev_a5, DL.ev_a6, DL.ev_a7, DL.v_mulB, eq_self, and_self, List.length_nil, List.length_cons, List.getElem?_cons_zero, List.getElem?_cons_succ, DL.list_tup_t, List.append_assoc, List.nil_append, List.cons_append])
    refine wp_lcM (List.range k.toNat) (fun i => D.int (lof p n pat i)) (fun i => D.int (red p (lof p n pat i))) (it_eq (x := .ref S.length) rfl (by rw [items_ref snoc_at]; unfold iD fL; rw [List.map_map]; rfl)) (by rw [List.length_range]; omega) (ok_one (by rw [items_ref snoc_at]; unfold iD fL; rw [List.map_map]; rfl)) (fun i hi => by (try simp -implicitDefEqProofs (disch := first | omega | (simp only [List.length_map, List.length_cons, List.length_nil, List.length_range, List.length_append, List.length_replicate]; omega)) only [DL.e_d, DL.e_op, DL.e_un, DL.e_test, DL.e_asB, DL.e_and, DL.e_or, DL.e_not, DL.e_if, DL.e_andV, DL.e_orV, DL.e_notV, DL.e_chain, DL.e_nil, DL.e_cons, DL.e_tup, DL.e_lst, DL.e_cb, DL.e_callK, DL.e_meth, DL.e_methP, DL.e_smeth, DL.e_cval, DL.e_fld, DL.e_prop, DL.e_star, DL.e_ps0, DL.e_ps, DL.e_dispK, DL.e_dispT, DL.e_dK0, DL.e_dT0, DL.e_frz, DL.e_no, DL.e_part, DL.e_sl, DL.s_set, DL.s_asg, DL.s_nx, DL.s_seq, DL.s_expr, DL.s_ret, DL.s_retN, DL.s_brk, DL.s_cont, DL.s_stuck, DL.s_ifS, DL.s_aug, DL.s_par, DL.s_par3, DL.s_setI, DL.s_fldS, DL.g_name_eq, DL.g_nil_eq, DL.g_cons_eq, DL.g_tup_eq, DL.v_add, DL.v_addI, DL.v_sub, DL.v_neg, DL.v_lt, DL.v_le, DL.v_gt, DL.v_ge, DL.v_eq, DL.v_isN, DL.v_tupcat, DL.Res.bind_ok, DL.Res.bindN_ok, DL.ret_rt, DL.ret_nx, DL.ev_v0, DL.ev_vs, DL.ev_a1, DL.ev_a2, DL.ev_a3, DL.ev_a4, List.set_cons_zero, List.set_cons_succ, decide_true, decide_false, Bool.not_true, Bool.not_false, if_true, Bool.false_eq_true, if_false, DL.e_cb, DL.e_yes, DL.wp_ok, DL.wp_bind, DL.wp_bindN, DL.wp_ret, DL.retQ_rt, DL.retQ_nx, DL.wp_fin, DL.FQ_nx, DL.FQ_ct, DL.FQ_bk, DL.FQ_rt, DL.addO_some, DL.addO_none, DL.isCon_self, DL.v_mulC, DL.v_fdivC, DL.v_modC, DL.ix_t0, DL.ix_t1, DL.ix_t2, DL.ix_l0, DL.ix_l1, DL.ix_l2, DL.isi_int_int, DL.isi_int_bool, DL.min2_eq, DL.max2_eq, DL.tup_f, DL.lst_f, DL.list_tup, DL.list_lst, DL.tuple_lst, DL.len_lst, DL.len_tup, DL.wipeE, DL.lcB, DL.cls_obj, DL.flds_obj, DL.isiO_obj, DL.v_augS, DL.v_methK, DL.v_makeK, DL.ev_a5, DL.ev_a6, DL.ev_a7, DL.v_mulB, eq_self, and_self, List.length_nil, List.length_cons, List.getElem?_cons_zero, List.getElem?_cons_succ, DL.list_tup_t, List.append_assoc, List.nil_append, List.cons_append, clsOf_plan, mp_Scheme_reduced, sreduced_eq (G := G) w])) ?_
    (try simp -implicitDefEqProofs (disch := first | omega | (simp only [List.length_map, List.length_cons, List.length_nil, List.length_range, List.length_append, List.length_replicate]; omega)) only [DL.e_d, DL.e_op, DL.e_un, DL.e_test, DL.e_asB, DL.e_and, DL.e_or, DL.e_not, DL.e_if, DL.e_andV, DL.e_orV, DL.e_notV, DL.e_chain, DL.e_nil, DL.e_cons, DL.e_tup, DL.e_lst, DL.e_cb, DL.e_callK, DL.e_meth, DL.e_methP, DL.e_smeth, DL.e_cval, DL.e_fld, DL.e_prop, DL.e_star, DL.e_ps0, DL.e_ps, DL.e_dispK, DL.e_dispT, DL.e_dK0, DL.e_dT0, DL.e_frz, DL.e_no, DL.e_part, DL.e_sl, DL.s_set, DL.s_asg, DL.s_nx, DL.s_seq, DL.s_expr, DL.s_ret, DL.s_retN, DL.s_brk, DL.s_cont, DL.s_stuck, DL.s_ifS, DL.s_aug, DL.s_par, DL.s_par3, DL.s_setI, DL.s_fldS, DL.g_name_eq, DL.g_nil_eq, DL.g_cons_eq, DL.g_tup_eq, DL.v_add, DL.v_addI, DL.v_sub, DL.v_neg, DL.v_lt, DL.v_le, DL.v_gt, DL.v_ge, DL.v_eq, DL.v_isN, DL.v_tupcat, DL.Res.bind_ok, DL.Res.bindN_ok, DL.ret_rt, DL.ret_nx, DL.ev_v0, DL.ev_vs, DL.ev_a1, DL.ev_a2, DL.ev_a3, DL.ev_a4, List.set_cons_zero, List.set_cons_succ, decide_true, decide_false, Bool.not_true, Bool.not_false, if_true, Bool.false_eq_true, if_false, DL.e_cb, DL.e_yes, DL.wp_ok, DL.wp_bind, DL.wp_bindN, DL.wp_ret, DL.retQ_rt, DL.retQ_nx, DL.wp_fin, DL.FQ_nx, DL.FQ_ct, DL.FQ_bk, DL.FQ_rt, DL.addO_some, DL.addO_none, DL.isCon_self, DL.v_mulC, DL.v_fdivC, DL.v_modC, DL.ix_t0, DL.ix_t1, DL.ix_t2, DL.ix_l0, DL.ix_l1, DL.ix_l2, DL.isi_int_int, DL.isi_int_bool, DL.min2_eq, DL.max2_eq, DL.tup_f, DL.lst_f, DL.list_tup, DL.list_lst, DL.tuple_lst, DL.len_lst, DL.len_tup, DL.wipeE, DL.lcB, DL.cls_obj, DL.flds_obj, DL.isiO_obj, DL.v_augS, DL.v_methK, DL.v_makeK, DL.ev_a5, DL.ev_a6, DL.ev_a7, DL.v_mulB, eq_self, and_self, List.length_nil, List.length_cons, List.getElem?_cons_zero, List.getElem?_cons_succ, DL.list_tup_t, List.append_assoc, List.nil_append, List.cons_append])
    refine wp_fin_app ?_ ⟨by unfold tI fL; rw [List.map_map]; rfl, rfl⟩
    rw [refsLt]
    exact ltL_all fun d hd => by
      obtain ⟨i, _, rfl⟩ := List.mem_map.mp hd
      rfl
end
end K07

set_option Elab.async false
set_option linter.all false
set_option maxRecDepth 100000
set_option maxHeartbeats 4000000
namespace K07
open PySem PySem.Spec PyProof.Rows L2 DL
/-! ### the numbers of the script: a dict of a pile, what is mixed, and the draws -/
def sk (its : List Int) (seed cnt : Int) (T : Sto) : Sto := some (.lst (iD its)) :: some (.dK [(.inr "pile", .ref 0), (.inr "mixed", .int seed), (.inr "draws", .int cnt)]) :: T
def SkE (j : Nat) (S : Sto) : Prop := ∃ T its seed cnt, S = sk its seed cnt T ∧ its.length ≤ 63 ∧ 0 ≤ seed ∧ seed < 2 ^ 32 ∧ 0 ≤ cnt ∧ cnt ≤ j
theorem SkE.mono {j m : Nat} {S : Sto} (h : SkE j S) (hm : j ≤ m) : SkE m S := by
  obtain ⟨T, its, seed, cnt, e, h1, h2, h3, h4, h5⟩ := h
  exact ⟨T, its, seed, cnt, e, h1, h2, h3, h4, by omega⟩
theorem SkE.app {j : Nat} {S U : Sto} (h : SkE j S) : SkE j (S ++ U) := by
  obtain ⟨T, its, seed, cnt, rfl, h⟩ := h
  exact ⟨T ++ U, its, seed, cnt, rfl, h⟩
theorem SkE.len {j : Nat} {S : Sto} (h : SkE j S) : 2 ≤ S.length := by
  obtain ⟨T, its, seed, cnt, rfl, h⟩ := h
  show 2 ≤ T.length + 1 + 1
  omega
theorem SkE.set {j i : Nat} {S : Sto} {c : Option Cell} (h : SkE j S) (hi : 2 ≤ i) : SkE j (S.set i c) := by
  obtain ⟨T, its, seed, cnt, rfl, h⟩ := h
  obtain ⟨m, rfl⟩ : ∃ m, i = m + 2 := ⟨i - 2, by omega⟩
  exact ⟨T.set m c, its, seed, cnt, rfl, h⟩
theorem sk_sm {its its' : List Int} {seed seed' cnt cnt' : Int} {T : Sto} : Sm (sk its seed cnt T) (sk its' seed' cnt' T) := ⟨rfl, fun i h => by
  obtain ⟨m, rfl⟩ : ∃ m, i = m + 2 := ⟨i - 2, by omega⟩
  rfl⟩
section
variable {its : List Int} {seed cnt b : Int} {T : Sto}
theorem sk_pile : p_ix (.ref 1) (.str "pile") (sk its seed cnt T) = .ok (.ref 0) (sk its seed cnt T) := ixK_ref (kds := [(.inr "pile", .ref 0), (.inr "mixed", .int seed), (.inr "draws", .int cnt)]) rfl (by rfl)
theorem sk_mixed : p_ix (.ref 1) (.str "mixed") (sk its seed cnt T) = .ok (.int seed) (sk its seed cnt T) := ixK_ref (kds := [(.inr "pile", .ref 0), (.inr "mixed", .int seed), (.inr "draws", .int cnt)]) rfl (by rfl)
theorem sk_draws : p_ix (.ref 1) (.str "draws") (sk its seed cnt T) = .ok (.int cnt) (sk its seed cnt T) := ixK_ref (kds := [(.inr "pile", .ref 0), (.inr "mixed", .int seed), (.inr "draws", .int cnt)]) rfl (by rfl)
theorem sk_put {c : Int} : p_setI (.ref 1) (.str "draws") (.int c) (sk its seed cnt T) = .ok () (sk its seed c T) := by
  rw [setK_ref (kds := [(.inr "pile", .ref 0), (.inr "mixed", .int seed), (.inr "draws", .int cnt)]) rfl (by simp)]
  rfl
theorem sk_isL : isL (.ref 0) (sk its seed cnt T) = true := isL_ref (ds := iD its) rfl
theorem sk_ne : p_eq true (.ref 0) (.lst []) (sk its seed cnt T) = .ok (.bl (!its.isEmpty)) (sk its seed cnt T) := by
  have h : pyOf (sk its seed cnt T) (.ref 0) = some (.list (its.map PyData.int)) := by
    show (flatL (its.map D.int)).map PyData.list = _
    rw [flat_ints]; rfl
  have h2 : ∀ its : List Int, SeqAt.shaped (.list (its.map PyData.int)) = true := by
    intro its
    unfold SeqAt.shaped
    rw [PyData.canLay0, lay_ints, PyData.depth, depth_ints]
    rfl
  unfold p_eq
  rw [h]
  show (if _ then _ else _) = _
  rw [if_pos ⟨h2 its, rfl⟩]
  cases its <;> rfl
theorem sk_pop {x : Int} : p_pop (.ref 0) [] (sk (its ++ [x]) seed cnt T) = .ok (.int x) (sk its seed cnt T) := by
  unfold p_pop
  show (match ((its ++ [x]).map D.int)[((its ++ [x]).map D.int).length - 1]? with
      | some y => Res.ok y ((sk (its ++ [x]) seed cnt T).set 0 (some (.lst ((its ++ [x]).map D.int).dropLast)))
      | none => .stuck) = _
  have e : ((its ++ [x]).map D.int)[((its ++ [x]).map D.int).length - 1]? = some (.int x) := by simp
  rw [e]
  show Res.ok _ _ = _
  simp [sk, iD]
theorem sk_app {x : Int} (h : its.length < 100000) : p_append (.ref 0) [.int x] (sk its seed cnt T) = .ok .non (sk (its ++ [x]) seed cnt T) := by
  unfold p_append
  show (if fits ((its.map D.int).length + 1) = true then Res.ok D.non ((sk its seed cnt T).set 0 (some (.lst (its.map D.int ++ [.int x])))) else .stuck) = _
  rw [if_pos (show fits _ = true from decide_eq_true (by simp; omega))]
  simp [sk, iD]
end
section
variable {G : Gx} {S : Sto}
theorem pow18 : p_pow (.int 10) (.int 18) S = .ok (.int 1000000000000000000) S := by
  rw [pow_eq (by decide) (by decide) (by decide)]
  rfl
theorem source_wp {ns : List Int} (hn : ns.length ≤ 63) : wp (mp__law_source G [.scr (iD ns)] []) fun d S => d = .ref 1 ∧ SkE 0 S := by
  rw [mp__law_source, ev_a1, m__law_source, fnR_eq]
  show wp (ret [] (c__law_source G [some (.scr (iD ns)), none, none, none] [])) _
  unfold c__law_source
  have hcut : p_sl false (.scr (iD ns)) none (some 63) ([] : Sto) = .ok (.lst (iD ns)) [] := by
    show p_lst false (DL.cutD (iD ns) none (some 63)) [] = _
    have : DL.cutD (iD ns) none (some 63) = iD ns := cutD_whole (decide_eq_true ⟨HT.sIx_none _ _, by
      rw [show (63 : Int) = ((63 : Nat) : Int) from rfl, HT.sIx_nat, Nat.min_eq_right (by rw [List.length_map]; omega)]⟩)
    rw [this, lst_f (by rw [List.length_map]; omega)]
  have hrev : ∀ ρ : DL.Env, c_rev true (c_cb (p_list false) (c_cons (c_sl false (c_var 0) c_no (c_part (c_d (.int 63)))) c_nil)) (some (.scr (iD ns)) :: ρ) [] = .ok (.ref 0) [some (.lst (iD ns.reverse))] := fun ρ => by
    have e1 : c_cb (p_list false) (c_cons (c_sl false (c_var 0) c_no (c_part (c_d (.int 63)))) c_nil) (some (.scr (iD ns)) :: ρ) [] = .ok (.lst (iD ns)) [] := by
      (try simp -implicitDefEqProofs (disch := first | omega | (simp only [List.length_map, List.length_cons, List.length_nil, List.length_range, List.length_append, List.length_replicate]; omega)) only [DL.e_d, DL.e_op, DL.e_un, DL.e_test, DL.e_asB, DL.e_and, DL.e_or, DL.e_not, DL.e_if, DL.e_andV, DL.e_orV, DL.e_notV, DL.e_chain, DL.e_nil, DL.e_cons, DL.e_tup, DL.e_lst, DL.e_cb, DL.e_callK, DL.e_meth, DL.e_methP, DL.e_smeth, DL.e_cval, DL.e_fld, DL.e_prop, DL.e_star, DL.e_ps0, DL.e_ps, DL.e_dispK, DL.e_dispT, DL.e_dK0, DL.e_dT0, DL.e_frz, DL.e_no, DL.e_part, DL.e_sl, DL.s_set, DL.s_asg, DL.s_nx, DL.s_seq, DL.s_expr, DL.s_ret, DL.s_retN, DL.s_brk, DL.s_cont, DL.s_stuck, DL.s_ifS, DL.s_aug, DL.s_par, DL.s_par3, DL.s_setI, DL.s_fldS, DL.g_name_eq, DL.g_nil_eq, DL.g_cons_eq, DL.g_tup_eq, DL.v_add, DL.v_addI, DL.v_sub, DL.v_neg, DL.v_lt, DL.v_le, DL.v_gt, DL.v_ge, DL.v_eq, DL.v_isN, DL.v_tupcat, DL.Res.bind_ok, DL.Res.bindN_ok, DL.ret_rt, DL.ret_nx, DL.ev_v0, DL.ev_vs, DL.ev_a1, DL.ev_a2, DL.ev_a3, DL.ev_a4, List.set_cons_zero, List.set_cons_succ, decide_true, decide_false, Bool.not_true, Bool.not_false, if_true, Bool.false_eq_true, if_false, DL.e_cb, DL.e_yes, DL.wp_ok, DL.wp_bind, DL.wp_bindN, DL.wp_ret, DL.retQ_rt, DL.retQ_nx, DL.wp_fin, DL.FQ_nx, DL.FQ_ct, DL.FQ_bk, DL.FQ_rt, DL.addO_some, DL.addO_none, DL.isCon_self, DL.v_mulC, DL.v_fdivC, DL.v_modC, DL.ix_t0, DL.ix_t1, DL.ix_t2, DL.ix_l0, DL.ix_l1, DL.ix_l2, DL.isi_int_int, DL.isi_int_bool, DL.min2_eq, DL.max2_eq, DL.tup_f, DL.lst_f, DL.list_tup, DL.list_lst, DL.tuple_lst, DL.len_lst, DL.len_tup, DL.wipeE, DL.lcB, DL.cls_obj, DL.flds_obj, DL.isiO_obj, DL.v_augS, DL.v_methK, DL.v_makeK, DL.ev_a5, DL.ev_a6, DL.ev_a7, DL.v_mulB, eq_self, and_self, List.length_nil, List.length_cons, List.getElem?_cons_zero, List.getElem?_cons_succ, DL.list_tup_t, List.append_assoc, List.nil_append, List.cons_append, hcut, list_lst])
    unfold c_rev
    rw [e1]
    show p_lst true (iD ns).reverse [] = _
    rw [lst_t (by rw [List.length_reverse, List.length_map]; omega), iD, iD, List.map_reverse]
    rfl
  (try simp -implicitDefEqProofs (disch := first | omega | (simp only [List.length_map, List.length_cons, List.length_nil, List.length_range, List.length_append, List.length_replicate]; omega)) only [DL.e_d, DL.e_op, DL.e_un, DL.e_test, DL.e_asB, DL.e_and, DL.e_or, DL.e_not, DL.e_if, DL.e_andV, DL.e_orV, DL.e_notV, DL.e_chain, DL.e_nil, DL.e_cons, DL.e_tup, DL.e_lst, DL.e_cb, DL.e_callK, DL.e_meth, DL.e_methP, DL.e_smeth, DL.e_cval, DL.e_fld, DL.e_prop, DL.e_star, DL.e_ps0, DL.e_ps, DL.e_dispK, DL.e_dispT, DL.e_dK0, DL.e_dT0, DL.e_frz, DL.e_no, DL.e_part, DL.e_sl, DL.s_set, DL.s_asg, DL.s_nx, DL.s_seq, DL.s_expr, DL.s_ret, DL.s_retN, DL.s_brk, DL.s_cont, DL.s_stuck, DL.s_ifS, DL.s_aug, DL.s_par, DL.s_par3, DL.s_setI, DL.s_fldS, DL.g_name_eq, DL.g_nil_eq, DL.g_cons_eq, DL.g_tup_eq, DL.v_add, DL.v_addI, DL.v_sub, DL.v_neg, DL.v_lt, DL.v_le, DL.v_gt, DL.v_ge, DL.v_eq, DL.v_isN, DL.v_tupcat, DL.Res.bind_ok, DL.Res.bindN_ok, DL.ret_rt, DL.ret_nx, DL.ev_v0, DL.ev_vs, DL.ev_a1, DL.ev_a2, DL.ev_a3, DL.ev_a4, List.set_cons_zero, List.set_cons_succ, decide_true, decide_false, Bool.not_true, Bool.not_false, if_true, Bool.false_eq_true, if_false, DL.e_cb, DL.e_yes, DL.wp_ok, DL.wp_bind, DL.wp_bindN, DL.wp_ret, DL.retQ_rt, DL.retQ_nx, DL.wp_fin, DL.FQ_nx, DL.FQ_ct, DL.FQ_bk, DL.FQ_rt, DL.addO_some, DL.addO_none, DL.isCon_self, DL.v_mulC, DL.v_fdivC, DL.v_modC, DL.ix_t0, DL.ix_t1, DL.ix_t2, DL.ix_l0, DL.ix_l1, DL.ix_l2, DL.isi_int_int, DL.isi_int_bool, DL.min2_eq, DL.max2_eq, DL.tup_f, DL.lst_f, DL.list_tup, DL.list_lst, DL.tuple_lst, DL.len_lst, DL.len_tup, DL.wipeE, DL.lcB, DL.cls_obj, DL.flds_obj, DL.isiO_obj, DL.v_augS, DL.v_methK, DL.v_makeK, DL.ev_a5, DL.ev_a6, DL.ev_a7, DL.v_mulB, eq_self, and_self, List.length_nil, List.length_cons, List.getElem?_cons_zero, List.getElem?_cons_succ, DL.list_tup_t, List.append_assoc, List.nil_append, List.cons_append, hrev])
  refine wp_for ns.reverse D.int (fun pre ρ S => ∃ (sd : Int) (o : Option D), ρ = [some (.scr (iD ns)), some (.ref 0), some (.int sd), o] ∧ S = [some (.lst (iD ns.reverse))] ∧ 0 ≤ sd ∧ sd < 2 ^ 32) (it_eq (x := .ref 0) (by (try simp -implicitDefEqProofs (disch := first | omega | (simp only [List.length_map, List.length_cons, List.length_nil, List.length_range, List.length_append, List.length_replicate]; omega)) only [DL.e_d, DL.e_op, DL.e_un, DL.e_test, DL.e_asB, DL.e_and, DL.e_or, DL.e_not, DL.e_if, DL.e_andV, DL.e_orV, DL.e_notV, DL.e_chain, DL.e_nil, DL.e_cons, DL.e_tup, DL.e_lst, DL.e_cb, DL.e_callK, DL.e_meth, DL.e_methP, DL.e_smeth, DL.e_cval, DL.e_fld, DL.e_prop, DL.e_star, DL.e_ps0, DL.e_ps, DL.e_dispK, DL.e_dispT, DL.e_dK0, DL.e_dT0, DL.e_frz, DL.e_no, DL.e_part, DL.e_sl, DL.s_set, DL.s_asg, DL.s_nx, DL.s_seq, DL.s_expr, DL.s_ret, DL.s_retN, DL.s_brk, DL.s_cont, DL.s_stuck, DL.s_ifS, DL.s_aug, DL.s_par, DL.s_par3, DL.s_setI, DL.s_fldS, DL.g_name_eq, DL.g_nil_eq, DL.g_cons_eq, DL.g_tup_eq, DL.v_add, DL.v_addI, DL.v_sub, DL.v_neg, DL.v_lt, DL.v_le, DL.v_gt, DL.v_ge, DL.v_eq, DL.v_isN, DL.v_tupcat, DL.Res.bind_ok, DL.Res.bindN_ok, DL.ret_rt, DL.ret_nx, DL.ev_v0, DL.ev_vs, DL.ev_a1, DL.ev_a2, DL.ev_a3, DL.ev_a4, List.set_cons_zero, List.set_cons_succ, decide_true, decide_false, Bool.not_true, Bool.not_false, if_true, Bool.false_eq_true, if_false, DL.e_cb, DL.e_yes, DL.wp_ok, DL.wp_bind, DL.wp_bindN, DL.wp_ret, DL.retQ_rt, DL.retQ_nx, DL.wp_fin, DL.FQ_nx, DL.FQ_ct, DL.FQ_bk, DL.FQ_rt, DL.addO_some, DL.addO_none, DL.isCon_self, DL.v_mulC, DL.v_fdivC, DL.v_modC, DL.ix_t0, DL.ix_t1, DL.ix_t2, DL.ix_l0, DL.ix_l1, DL.ix_l2, DL.isi_int_int, DL.isi_int_bool, DL.min2_eq, DL.max2_eq, DL.tup_f, DL.lst_f, DL.list_tup, DL.list_lst, DL.tuple_lst, DL.len_lst, DL.len_tup, DL.wipeE, DL.lcB, DL.cls_obj, DL.flds_obj, DL.isiO_obj, DL.v_augS, DL.v_methK, DL.v_makeK, DL.ev_a5, DL.ev_a6, DL.ev_a7, DL.v_mulB, eq_self, and_self, List.length_nil, List.length_cons, List.getElem?_cons_zero, List.getElem?_cons_succ, DL.list_tup_t, List.append_assoc, List.nil_append, List.cons_append])) (items_ref rfl)) (fun _ ρ S ⟨sd, o, e1, e2, _⟩ => ok_one (by rw [e2]; exact items_ref rfl)) ⟨_, none, rfl, rfl, by decide, by decide⟩ ?_ ?_
  · rintro pre x post ρ S hl ⟨sd, o, rfl, rfl, h0, h1⟩
    (try simp -implicitDefEqProofs (disch := first | omega | (simp only [List.length_map, List.length_cons, List.length_nil, List.length_range, List.length_append, List.length_replicate]; omega)) only [DL.e_d, DL.e_op, DL.e_un, DL.e_test, DL.e_asB, DL.e_and, DL.e_or, DL.e_not, DL.e_if, DL.e_andV, DL.e_orV, DL.e_notV, DL.e_chain, DL.e_nil, DL.e_cons, DL.e_tup, DL.e_lst, DL.e_cb, DL.e_callK, DL.e_meth, DL.e_methP, DL.e_smeth, DL.e_cval, DL.e_fld, DL.e_prop, DL.e_star, DL.e_ps0, DL.e_ps, DL.e_dispK, DL.e_dispT, DL.e_dK0, DL.e_dT0, DL.e_frz, DL.e_no, DL.e_part, DL.e_sl, DL.s_set, DL.s_asg, DL.s_nx, DL.s_seq, DL.s_expr, DL.s_ret, DL.s_retN, DL.s_brk, DL.s_cont, DL.s_stuck, DL.s_ifS, DL.s_aug, DL.s_par, DL.s_par3, DL.s_setI, DL.s_fldS, DL.g_name_eq, DL.g_nil_eq, DL.g_cons_eq, DL.g_tup_eq, DL.v_add, DL.v_addI, DL.v_sub, DL.v_neg, DL.v_lt, DL.v_le, DL.v_gt, DL.v_ge, DL.v_eq, DL.v_isN, DL.v_tupcat, DL.Res.bind_ok, DL.Res.bindN_ok, DL.ret_rt, DL.ret_nx, DL.ev_v0, DL.ev_vs, DL.ev_a1, DL.ev_a2, DL.ev_a3, DL.ev_a4, List.set_cons_zero, List.set_cons_succ, decide_true, decide_false, Bool.not_true, Bool.not_false, if_true, Bool.false_eq_true, if_false, DL.e_cb, DL.e_yes, DL.wp_ok, DL.wp_bind, DL.wp_bindN, DL.wp_ret, DL.retQ_rt, DL.retQ_nx, DL.wp_fin, DL.FQ_nx, DL.FQ_ct, DL.FQ_bk, DL.FQ_rt, DL.addO_some, DL.addO_none, DL.isCon_self, DL.v_mulC, DL.v_fdivC, DL.v_modC, DL.ix_t0, DL.ix_t1, DL.ix_t2, DL.ix_l0, DL.ix_l1, DL.ix_l2, DL.isi_int_int, DL.isi_int_bool, DL.min2_eq, DL.max2_eq, DL.tup_f, DL.lst_f, DL.list_tup, DL.list_lst, DL.tuple_lst, DL.len_lst, DL.len_tup, DL.wipeE, DL.lcB, DL.cls_obj, DL.flds_obj, DL.isiO_obj, DL.v_augS, DL.v_methK, DL.v_makeK, DL.ev_a5, DL.ev_a6, DL.ev_a7, DL.v_mulB, eq_self, and_self, List.length_nil, List.length_cons, List.getElem?_cons_zero, List.getElem?_cons_succ, DL.list_tup_t, List.append_assoc, List.nil_append, List.cons_append])
    exact ⟨_, _, rfl, trivial, Int.emod_nonneg _ (by decide), Int.lt_of_lt_of_le (Int.emod_lt_of_pos _ (by decide)) (by decide)⟩
  · rintro ρ S ⟨sd, o, rfl, rfl, h0, h1⟩
    have hd : ∀ S : Sto, p_dispK true [(.str "pile", .ref 0), (.str "mixed", .int sd), (.str "draws", .int 0)] S = .ok (.ref S.length) (S ++ [some (.dK [(.inr "pile", .ref 0), (.inr "mixed", .int sd), (.inr "draws", .int 0)])]) := fun S => rfl
    (try simp -implicitDefEqProofs (disch := first | omega | (simp only [List.length_map, List.length_cons, List.length_nil, List.length_range, List.length_append, List.length_replicate]; omega)) only [DL.e_d, DL.e_op, DL.e_un, DL.e_test, DL.e_asB, DL.e_and, DL.e_or, DL.e_not, DL.e_if, DL.e_andV, DL.e_orV, DL.e_notV, DL.e_chain, DL.e_nil, DL.e_cons, DL.e_tup, DL.e_lst, DL.e_cb, DL.e_callK, DL.e_meth, DL.e_methP, DL.e_smeth, DL.e_cval, DL.e_fld, DL.e_prop, DL.e_star, DL.e_ps0, DL.e_ps, DL.e_dispK, DL.e_dispT, DL.e_dK0, DL.e_dT0, DL.e_frz, DL.e_no, DL.e_part, DL.e_sl, DL.s_set, DL.s_asg, DL.s_nx, DL.s_seq, DL.s_expr, DL.s_ret, DL.s_retN, DL.s_brk, DL.s_cont, DL.s_stuck, DL.s_ifS, DL.s_aug, DL.s_par, DL.s_par3, DL.s_setI, DL.s_fldS, DL.g_name_eq, DL.g_nil_eq, DL.g_cons_eq, DL.g_tup_eq, DL.v_add, DL.v_addI, DL.v_sub, DL.v_neg, DL.v_lt, DL.v_le, DL.v_gt, DL.v_ge, DL.v_eq, DL.v_isN, DL.v_tupcat, DL.Res.bind_ok, DL.Res.bindN_ok, DL.ret_rt, DL.ret_nx, DL.ev_v0, DL.ev_vs, DL.ev_a1, DL.ev_a2, DL.ev_a3, DL.ev_a4, List.set_cons_zero, List.set_cons_succ, decide_true, decide_false, Bool.not_true, Bool.not_false, if_true, Bool.false_eq_true, if_false, DL.e_cb, DL.e_yes, DL.wp_ok, DL.wp_bind, DL.wp_bindN, DL.wp_ret, DL.retQ_rt, DL.retQ_nx, DL.wp_fin, DL.FQ_nx, DL.FQ_ct, DL.FQ_bk, DL.FQ_rt, DL.addO_some, DL.addO_none, DL.isCon_self, DL.v_mulC, DL.v_fdivC, DL.v_modC, DL.ix_t0, DL.ix_t1, DL.ix_t2, DL.ix_l0, DL.ix_l1, DL.ix_l2, DL.isi_int_int, DL.isi_int_bool, DL.min2_eq, DL.max2_eq, DL.tup_f, DL.lst_f, DL.list_tup, DL.list_lst, DL.tuple_lst, DL.len_lst, DL.len_tup, DL.wipeE, DL.lcB, DL.cls_obj, DL.flds_obj, DL.isiO_obj, DL.v_augS, DL.v_methK, DL.v_makeK, DL.ev_a5, DL.ev_a6, DL.ev_a7, DL.v_mulB, eq_self, and_self, List.length_nil, List.length_cons, List.getElem?_cons_zero, List.getElem?_cons_succ, DL.list_tup_t, List.append_assoc, List.nil_append, List.cons_append, hd])
    unfold fin
    rw [if_neg (by simp), if_neg (fun h => by simp [refsLt] at h)]
    exact ⟨rfl, [], ns.reverse, sd, 0, rfl, by simp; omega, h0, h1, by omega, by omega⟩
theorem draw_wp {j : Nat} {b : Int} (h : SkE j S) (hn : j < 2 ^ 20) (hb : 0 < b) (hb2 : b < 2 ^ 40) : wp (mp__law_draw G [.ref 1, .int b] S) fun d S' => ∃ v : Int, d = .int v ∧ 0 ≤ v ∧ v < b ∧ SkE (j + 1) S' ∧ Sm S S' := by
  obtain ⟨T, its, seed, cnt, rfl, hi, s0, s1, c0, c1⟩ := h
  rw [mp__law_draw, ev_a2, m__law_draw, fnR_eq]
  show wp (ret (sk its seed cnt T) (c__law_draw G [some (.ref 1), some (.int b), none, none, none] (sk its seed cnt T))) _
  unfold c__law_draw
  generalize hc : cnt + 1 = c
  have hcc : 0 ≤ 75161 * c ∧ 75161 * c < 2 ^ 40 := by omega
  have hcc2 : 0 ≤ 75161 * c * c ∧ 75161 * c * c ≤ 2 ^ 40 * 2 ^ 22 := ⟨Int.mul_nonneg (by omega) (by omega), Int.mul_le_mul (by omega) (by omega) (by omega) (by omega)⟩
  rcases List.eq_nil_or_concat its with rfl | ⟨l, x, e⟩
  · (try simp -implicitDefEqProofs (disch := first | omega | (simp only [List.length_map, List.length_cons, List.length_nil, List.length_range, List.length_append, List.length_replicate]; omega)) only [DL.e_d, DL.e_op, DL.e_un, DL.e_test, DL.e_asB, DL.e_and, DL.e_or, DL.e_not, DL.e_if, DL.e_andV, DL.e_orV, DL.e_notV, DL.e_chain, DL.e_nil, DL.e_cons, DL.e_tup, DL.e_lst, DL.e_cb, DL.e_callK, DL.e_meth, DL.e_methP, DL.e_smeth, DL.e_cval, DL.e_fld, DL.e_prop, DL.e_star, DL.e_ps0, DL.e_ps, DL.e_dispK, DL.e_dispT, DL.e_dK0, DL.e_dT0, DL.e_frz, DL.e_no, DL.e_part, DL.e_sl, DL.s_set, DL.s_asg, DL.s_nx, DL.s_seq, DL.s_expr, DL.s_ret, DL.s_retN, DL.s_brk, DL.s_cont, DL.s_stuck, DL.s_ifS, DL.s_aug, DL.s_par, DL.s_par3, DL.s_setI, DL.s_fldS, DL.g_name_eq, DL.g_nil_eq, DL.g_cons_eq, DL.g_tup_eq, DL.v_add, DL.v_addI, DL.v_sub, DL.v_neg, DL.v_lt, DL.v_le, DL.v_gt, DL.v_ge, DL.v_eq, DL.v_isN, DL.v_tupcat, DL.Res.bind_ok, DL.Res.bindN_ok, DL.ret_rt, DL.ret_nx, DL.ev_v0, DL.ev_vs, DL.ev_a1, DL.ev_a2, DL.ev_a3, DL.ev_a4, List.set_cons_zero, List.set_cons_succ, decide_true, decide_false, Bool.not_true, Bool.not_false, if_true, Bool.false_eq_true, if_false, DL.e_cb, DL.e_yes, DL.wp_ok, DL.wp_bind, DL.wp_bindN, DL.wp_ret, DL.retQ_rt, DL.retQ_nx, DL.wp_fin, DL.FQ_nx, DL.FQ_ct, DL.FQ_bk, DL.FQ_rt, DL.addO_some, DL.addO_none, DL.isCon_self, DL.v_mulC, DL.v_fdivC, DL.v_modC, DL.ix_t0, DL.ix_t1, DL.ix_t2, DL.ix_l0, DL.ix_l1, DL.ix_l2, DL.isi_int_int, DL.isi_int_bool, DL.min2_eq, DL.max2_eq, DL.tup_f, DL.lst_f, DL.list_tup, DL.list_lst, DL.tuple_lst, DL.len_lst, DL.len_tup, DL.wipeE, DL.lcB, DL.cls_obj, DL.flds_obj, DL.isiO_obj, DL.v_augS, DL.v_methK, DL.v_makeK, DL.ev_a5, DL.ev_a6, DL.ev_a7, DL.v_mulB, eq_self, and_self, List.length_nil, List.length_cons, List.getElem?_cons_zero, List.getElem?_cons_succ, DL.list_tup_t, List.append_assoc, List.nil_append, List.cons_append, sk_draws, hc, sk_put, sk_pile, p_lst_f, sk_ne, List.isEmpty_nil, sk_mixed])
    refine wp_fin_len rfl ⟨_, rfl, Int.emod_nonneg _ (by omega), Int.emod_lt_of_pos _ hb, ⟨T, [], seed, c, rfl, hi, s0, s1, by omega, by omega⟩, sk_sm⟩
  · rw [List.concat_eq_append] at e
    subst e
    have hl : l.length ≤ 62 := by simp at hi; omega
    have hne : (l ++ [x]).isEmpty = false := by simp
    by_cases hx : 1000000000000000000 ≤ x
    · (try simp -implicitDefEqProofs (disch := first | omega | (simp only [List.length_map, List.length_cons, List.length_nil, List.length_range, List.length_append, List.length_replicate]; omega)) only [DL.e_d, DL.e_op, DL.e_un, DL.e_test, DL.e_asB, DL.e_and, DL.e_or, DL.e_not, DL.e_if, DL.e_andV, DL.e_orV, DL.e_notV, DL.e_chain, DL.e_nil, DL.e_cons, DL.e_tup, DL.e_lst, DL.e_cb, DL.e_callK, DL.e_meth, DL.e_methP, DL.e_smeth, DL.e_cval, DL.e_fld, DL.e_prop, DL.e_star, DL.e_ps0, DL.e_ps, DL.e_dispK, DL.e_dispT, DL.e_dK0, DL.e_dT0, DL.e_frz, DL.e_no, DL.e_part, DL.e_sl, DL.s_set, DL.s_asg, DL.s_nx, DL.s_seq, DL.s_expr, DL.s_ret, DL.s_retN, DL.s_brk, DL.s_cont, DL.s_stuck, DL.s_ifS, DL.s_aug, DL.s_par, DL.s_par3, DL.s_setI, DL.s_fldS, DL.g_name_eq, DL.g_nil_eq, DL.g_cons_eq, DL.g_tup_eq, DL.v_add, DL.v_addI, DL.v_sub, DL.v_neg, DL.v_lt, DL.v_le, DL.v_gt, DL.v_ge, DL.v_eq, DL.v_isN, DL.v_tupcat, DL.Res.bind_ok, DL.Res.bindN_ok, DL.ret_rt, DL.ret_nx, DL.ev_v0, DL.ev_vs, DL.ev_a1, DL.ev_a2, DL.ev_a3, DL.ev_a4, List.set_cons_zero, List.set_cons_succ, decide_true, decide_false, Bool.not_true, Bool.not_false, if_true, Bool.false_eq_true, if_false, DL.e_cb, DL.e_yes, DL.wp_ok, DL.wp_bind, DL.wp_bindN, DL.wp_ret, DL.retQ_rt, DL.retQ_nx, DL.wp_fin, DL.FQ_nx, DL.FQ_ct, DL.FQ_bk, DL.FQ_rt, DL.addO_some, DL.addO_none, DL.isCon_self, DL.v_mulC, DL.v_fdivC, DL.v_modC, DL.ix_t0, DL.ix_t1, DL.ix_t2, DL.ix_l0, DL.ix_l1, DL.ix_l2, DL.isi_int_int, DL.isi_int_bool, DL.min2_eq, DL.max2_eq, DL.tup_f, DL.lst_f, DL.list_tup, DL.list_lst, DL.tuple_lst, DL.len_lst, DL.len_tup, DL.wipeE, DL.lcB, DL.cls_obj, DL.flds_obj, DL.isiO_obj, DL.v_augS, DL.v_methK, DL.v_makeK, DL.ev_a5, DL.ev_a6, DL.ev_a7, DL.v_mulB, eq_self, and_self, List.length_nil, List.length_cons, List.getElem?_cons_zero, List.getElem?_cons_succ, DL.list_tup_t, List.append_assoc, List.nil_append, List.cons_append, sk_draws, hc, sk_put, sk_pile, p_lst_f, sk_ne, hne, sk_isL, sk_pop, pow18, hx, sk_app (its := l) (T := T) (seed := seed) (cnt := c) (x := x / b) (by omega)])
      refine wp_fin_len rfl ⟨_, rfl, Int.emod_nonneg _ (by omega), Int.emod_lt_of_pos _ hb, ⟨T, l ++ [x / b], seed, c, rfl, by simp; omega, s0, s1, by omega, by omega⟩, sk_sm⟩
    · (try simp -implicitDefEqProofs (disch := first | omega | (simp only [List.length_map, List.length_cons, List.length_nil, List.length_range, List.length_append, List.length_replicate]; omega)) only [DL.e_d, DL.e_op, DL.e_un, DL.e_test, DL.e_asB, DL.e_and, DL.e_or, DL.e_not, DL.e_if, DL.e_andV, DL.e_orV, DL.e_notV, DL.e_chain, DL.e_nil, DL.e_cons, DL.e_tup, DL.e_lst, DL.e_cb, DL.e_callK, DL.e_meth, DL.e_methP, DL.e_smeth, DL.e_cval, DL.e_fld, DL.e_prop, DL.e_star, DL.e_ps0, DL.e_ps, DL.e_dispK, DL.e_dispT, DL.e_dK0, DL.e_dT0, DL.e_frz, DL.e_no, DL.e_part, DL.e_sl, DL.s_set, DL.s_asg, DL.s_nx, DL.s_seq, DL.s_expr, DL.s_ret, DL.s_retN, DL.s_brk, DL.s_cont, DL.s_stuck, DL.s_ifS, DL.s_aug, DL.s_par, DL.s_par3, DL.s_setI, DL.s_fldS, DL.g_name_eq, DL.g_nil_eq, DL.g_cons_eq, DL.g_tup_eq, DL.v_add, DL.v_addI, DL.v_sub, DL.v_neg, DL.v_lt, DL.v_le, DL.v_gt, DL.v_ge, DL.v_eq, DL.v_isN, DL.v_tupcat, DL.Res.bind_ok, DL.Res.bindN_ok, DL.ret_rt, DL.ret_nx, DL.ev_v0, DL.ev_vs, DL.ev_a1, DL.ev_a2, DL.ev_a3, DL.ev_a4, List.set_cons_zero, List.set_cons_succ, decide_true, decide_false, Bool.not_true, Bool.not_false, if_true, Bool.false_eq_true, if_false, DL.e_cb, DL.e_yes, DL.wp_ok, DL.wp_bind, DL.wp_bindN, DL.wp_ret, DL.retQ_rt, DL.retQ_nx, DL.wp_fin, DL.FQ_nx, DL.FQ_ct, DL.FQ_bk, DL.FQ_rt, DL.addO_some, DL.addO_none, DL.isCon_self, DL.v_mulC, DL.v_fdivC, DL.v_modC, DL.ix_t0, DL.ix_t1, DL.ix_t2, DL.ix_l0, DL.ix_l1, DL.ix_l2, DL.isi_int_int, DL.isi_int_bool, DL.min2_eq, DL.max2_eq, DL.tup_f, DL.lst_f, DL.list_tup, DL.list_lst, DL.tuple_lst, DL.len_lst, DL.len_tup, DL.wipeE, DL.lcB, DL.cls_obj, DL.flds_obj, DL.isiO_obj, DL.v_augS, DL.v_methK, DL.v_makeK, DL.ev_a5, DL.ev_a6, DL.ev_a7, DL.v_mulB, eq_self, and_self, List.length_nil, List.length_cons, List.getElem?_cons_zero, List.getElem?_cons_succ, DL.list_tup_t, List.append_assoc, List.nil_append, List.cons_append, sk_draws, hc, sk_put, sk_pile, p_lst_f, sk_ne, hne, sk_isL, sk_pop, pow18, hx, sk_mixed])
      refine wp_fin_len rfl ⟨_, rfl, Int.emod_nonneg _ (by omega), Int.emod_lt_of_pos _ hb, ⟨T, l, seed, c, rfl, by omega, s0, s1, by omega, by omega⟩, sk_sm⟩
theorem choose_wp {α : Type} {j : Nat} {l : List α} {f : α → D} (h : SkE j S) (hn : j < 2 ^ 20) (h0 : l ≠ []) (h1 : l.length ≤ 1000000) : wp (mp__law_choose G [.ref 1, .lst (l.map f)] S) fun d S' => ∃ x, d = f x ∧ x ∈ l ∧ SkE (j + 1) S' ∧ Sm S S' := by
  rw [mp__law_choose, ev_a2, m__law_choose, fnR_eq]
  show wp (ret S (c__law_choose G [some (.ref 1), some (.lst (l.map f))] S)) _
  unfold c__law_choose
  have hp := List.length_pos_iff.mpr h0
  (try simp -implicitDefEqProofs (disch := first | omega | (simp only [List.length_map, List.length_cons, List.length_nil, List.length_range, List.length_append, List.length_replicate]; omega)) only [DL.e_d, DL.e_op, DL.e_un, DL.e_test, DL.e_asB, DL.e_and, DL.e_or, DL.e_not, DL.e_if, DL.e_andV, DL.e_orV, DL.e_notV, DL.e_chain, DL.e_nil, DL.e_cons, DL.e_tup, DL.e_lst, DL.e_cb, DL.e_callK, DL.e_meth, DL.e_methP, DL.e_smeth, DL.e_cval, DL.e_fld, DL.e_prop, DL.e_star, DL.e_ps0, DL.e_ps, DL.e_dispK, DL.e_dispT, DL.e_dK0, DL.e_dT0, DL.e_frz, DL.e_no, DL.e_part, DL.e_sl, DL.s_set, DL.s_asg, DL.s_nx, DL.s_seq, DL.s_expr, DL.s_ret, DL.s_retN, DL.s_brk, DL.s_cont, DL.s_stuck, DL.s_ifS, DL.s_aug, DL.s_par, DL.s_par3, DL.s_setI, DL.s_fldS, DL.g_name_eq, DL.g_nil_eq, DL.g_cons_eq, DL.g_tup_eq, DL.v_add, DL.v_addI, DL.v_sub, DL.v_neg, DL.v_lt, DL.v_le, DL.v_gt, DL.v_ge, DL.v_eq, DL.v_isN, DL.v_tupcat, DL.Res.bind_ok, DL.Res.bindN_ok, DL.ret_rt, DL.ret_nx, DL.ev_v0, DL.ev_vs, DL.ev_a1, DL.ev_a2, DL.ev_a3, DL.ev_a4, List.set_cons_zero, List.set_cons_succ, decide_true, decide_false, Bool.not_true, Bool.not_false, if_true, Bool.false_eq_true, if_false, DL.e_cb, DL.e_yes, DL.wp_ok, DL.wp_bind, DL.wp_bindN, DL.wp_ret, DL.retQ_rt, DL.retQ_nx, DL.wp_fin, DL.FQ_nx, DL.FQ_ct, DL.FQ_bk, DL.FQ_rt, DL.addO_some, DL.addO_none, DL.isCon_self, DL.v_mulC, DL.v_fdivC, DL.v_modC, DL.ix_t0, DL.ix_t1, DL.ix_t2, DL.ix_l0, DL.ix_l1, DL.ix_l2, DL.isi_int_int, DL.isi_int_bool, DL.min2_eq, DL.max2_eq, DL.tup_f, DL.lst_f, DL.list_tup, DL.list_lst, DL.tuple_lst, DL.len_lst, DL.len_tup, DL.wipeE, DL.lcB, DL.cls_obj, DL.flds_obj, DL.isiO_obj, DL.v_augS, DL.v_methK, DL.v_makeK, DL.ev_a5, DL.ev_a6, DL.ev_a7, DL.v_mulB, eq_self, and_self, List.length_nil, List.length_cons, List.getElem?_cons_zero, List.getElem?_cons_succ, DL.list_tup_t, List.append_assoc, List.nil_append, List.cons_append])
  refine wp_of (draw_wp h hn (by rw [List.length_map]; omega) (by rw [List.length_map]; omega)) ?_
  rintro _ S' ⟨v, rfl, v0, v1, h', hs⟩
  rw [List.length_map] at v1
  have hv : v.toNat < l.length := by omega
  (try simp -implicitDefEqProofs (disch := first | omega | (simp only [List.length_map, List.length_cons, List.length_nil, List.length_range, List.length_append, List.length_replicate]; omega)) only [DL.e_d, DL.e_op, DL.e_un, DL.e_test, DL.e_asB, DL.e_and, DL.e_or, DL.e_not, DL.e_if, DL.e_andV, DL.e_orV, DL.e_notV, DL.e_chain, DL.e_nil, DL.e_cons, DL.e_tup, DL.e_lst, DL.e_cb, DL.e_callK, DL.e_meth, DL.e_methP, DL.e_smeth, DL.e_cval, DL.e_fld, DL.e_prop, DL.e_star, DL.e_ps0, DL.e_ps, DL.e_dispK, DL.e_dispT, DL.e_dK0, DL.e_dT0, DL.e_frz, DL.e_no, DL.e_part, DL.e_sl, DL.s_set, DL.s_asg, DL.s_nx, DL.s_seq, DL.s_expr, DL.s_ret, DL.s_retN, DL.s_brk, DL.s_cont, DL.s_stuck, DL.s_ifS, DL.s_aug, DL.s_par, DL.s_par3, DL.s_setI, DL.s_fldS, DL.g_name_eq, DL.g_nil_eq, DL.g_cons_eq, DL.g_tup_eq, DL.v_add, DL.v_addI, DL.v_sub, DL.v_neg, DL.v_lt, DL.v_le, DL.v_gt, DL.v_ge, DL.v_eq, DL.v_isN, DL.v_tupcat, DL.Res.bind_ok, DL.Res.bindN_ok, DL.ret_rt, DL.ret_nx, DL.ev_v0, DL.ev_vs, DL.ev_a1, DL.ev_a2, DL.ev_a3, DL.ev_a4, List.set_cons_zero, List.set_cons_succ, decide_true, decide_false, Bool.not_true, Bool.not_false, if_true, Bool.false_eq_true, if_false, DL.e_cb, DL.e_yes, DL.wp_ok, DL.wp_bind, DL.wp_bindN, DL.wp_ret, DL.retQ_rt, DL.retQ_nx, DL.wp_fin, DL.FQ_nx, DL.FQ_ct, DL.FQ_bk, DL.FQ_rt, DL.addO_some, DL.addO_none, DL.isCon_self, DL.v_mulC, DL.v_fdivC, DL.v_modC, DL.ix_t0, DL.ix_t1, DL.ix_t2, DL.ix_l0, DL.ix_l1, DL.ix_l2, DL.isi_int_int, DL.isi_int_bool, DL.min2_eq, DL.max2_eq, DL.tup_f, DL.lst_f, DL.list_tup, DL.list_lst, DL.tuple_lst, DL.len_lst, DL.len_tup, DL.wipeE, DL.lcB, DL.cls_obj, DL.flds_obj, DL.isiO_obj, DL.v_augS, DL.v_methK, DL.v_makeK, DL.ev_a5, DL.ev_a6, DL.ev_a7, DL.v_mulB, eq_self, and_self, List.length_nil, List.length_cons, List.getElem?_cons_zero, List.getElem?_cons_succ, DL.list_tup_t, List.append_assoc, List.nil_append, List.cons_append, ix_lst (S := S') (ds := l.map f) v0 (by rw [List.getElem?_map, List.getElem?_eq_getElem hv]; rfl)])
  exact wp_fin_len hs.1 ⟨l[v.toNat], rfl, List.getElem_mem _, h', hs⟩
end
end K07

set_option Elab.async false
set_option linter.all false
set_option maxRecDepth 100000
set_option maxHeartbeats 4000000
namespace K07
open PySem PySem.Spec PyProof.Rows L2 DL
/-! ### what the laws of patterns share -/
def leastL : List Int := [5, 11, 17, 29, 37, 53, 67, 83, 101, 127, 149, 173, 197, 227, 257, 293, 331, 367, 401, 443, 487, 541, 577]
def prs07 : List Int := leastL ++ [1009, 65537, 999999937]
theorem prs07_facts : ∀ p ∈ prs07, 3 < p ∧ p < 2 ^ 30 ∧ p % 2 = 1 ∧ p ≤ 1000000000 := by decide +kernel
theorem prs07_ev : prs07.all isPrE = true := by decide +kernel
theorem prs07_ok {p : Int} (h : p ∈ prs07) : isPr p = true := by
  rw [← isPrE_eq]
  exact List.all_eq_true.mp prs07_ev p h
theorem sc_of {p n k : Int} (hp : p ∈ prs07) (hn : n * n < p) (n0 : 2 ≤ n) (n1 : n ≤ 24) (k0 : 1 ≤ k) (k1 : k ≤ 24) : Sc p n k := by
  obtain ⟨h1, h2, h3, h4⟩ := prs07_facts p hp
  exact ⟨h1, h2, h3, n0, n1, k0, k1, hn⟩
theorem least_all : ∀ c : Fin 23, ((c.val : Int) + 2) * ((c.val : Int) + 2) < leastL.getD c.val 0 ∧ leastL.getD c.val 0 ∈ prs07 ∧ leastL.getD c.val 0 ≤ 577 ∧ leastL[c.val]? = some (leastL.getD c.val 0) := by decide +kernel
section
variable {G : Gx} {S : Sto} {p n k : Int}
theorem plan_make (w : Sc p n k) (hp : p ∈ prs07) : p_make false 0 (mp_Scheme__init_ G) [.int p, .int n, .int k] S = .ok (plan p n k) S := by
  obtain ⟨h1, h2, h3, h4⟩ := prs07_facts p hp
  exact scheme_eq (by omega) h4 (prs07_ok hp) w.n0 w.n1 w.pn w.k0 w.k1
theorem law_scheme_wp {j : Nat} (h : SkE j S) (hn : j < 2 ^ 19) : wp (mp__law_scheme G [.ref 1, .int 24, .int 24] S) fun d S' => ∃ p n k : Int, d = plan p n k ∧ p ∈ prs07 ∧ Sc p n k ∧ SkE (j + 3) S' ∧ Sm S S' := by
  rw [mp__law_scheme, ev_a3, m__law_scheme, fnR_eq]
  show wp (ret S (c__law_scheme G [some (.ref 1), some (.int 24), some (.int 24), none, none, none] S)) _
  unfold c__law_scheme
  (try simp -implicitDefEqProofs (disch := first | omega | (simp only [List.length_map, List.length_cons, List.length_nil, List.length_range, List.length_append, List.length_replicate]; omega)) only [DL.e_d, DL.e_op, DL.e_un, DL.e_test, DL.e_asB, DL.e_and, DL.e_or, DL.e_not, DL.e_if, DL.e_andV, DL.e_orV, DL.e_notV, DL.e_chain, DL.e_nil, DL.e_cons, DL.e_tup, DL.e_lst, DL.e_cb, DL.e_callK, DL.e_meth, DL.e_methP, DL.e_smeth, DL.e_cval, DL.e_fld, DL.e_prop, DL.e_star, DL.e_ps0, DL.e_ps, DL.e_dispK, DL.e_dispT, DL.e_dK0, DL.e_dT0, DL.e_frz, DL.e_no, DL.e_part, DL.e_sl, DL.s_set, DL.s_asg, DL.s_nx, DL.s_seq, DL.s_expr, DL.s_ret, DL.s_retN, DL.s_brk, DL.s_cont, DL.s_stuck, DL.s_ifS, DL.s_aug, DL.s_par, DL.s_par3, DL.s_setI, DL.s_fldS, DL.g_name_eq, DL.g_nil_eq, DL.g_cons_eq, DL.g_tup_eq, DL.v_add, DL.v_addI, DL.v_sub, DL.v_neg, DL.v_lt, DL.v_le, DL.v_gt, DL.v_ge, DL.v_eq, DL.v_isN, DL.v_tupcat, DL.Res.bind_ok, DL.Res.bindN_ok, DL.ret_rt, DL.ret_nx, DL.ev_v0, DL.ev_vs, DL.ev_a1, DL.ev_a2, DL.ev_a3, DL.ev_a4, List.set_cons_zero, List.set_cons_succ, decide_true, decide_false, Bool.not_true, Bool.not_false, if_true, Bool.false_eq_true, if_false, DL.e_cb, DL.e_yes, DL.wp_ok, DL.wp_bind, DL.wp_bindN, DL.wp_ret, DL.retQ_rt, DL.retQ_nx, DL.wp_fin, DL.FQ_nx, DL.FQ_ct, DL.FQ_bk, DL.FQ_rt, DL.addO_some, DL.addO_none, DL.isCon_self, DL.v_mulC, DL.v_fdivC, DL.v_modC, DL.ix_t0, DL.ix_t1, DL.ix_t2, DL.ix_l0, DL.ix_l1, DL.ix_l2, DL.isi_int_int, DL.isi_int_bool, DL.min2_eq, DL.max2_eq, DL.tup_f, DL.lst_f, DL.list_tup, DL.list_lst, DL.tuple_lst, DL.len_lst, DL.len_tup, DL.wipeE, DL.lcB, DL.cls_obj, DL.flds_obj, DL.isiO_obj, DL.v_augS, DL.v_methK, DL.v_makeK, DL.ev_a5, DL.ev_a6, DL.ev_a7, DL.v_mulB, eq_self, and_self, List.length_nil, List.length_cons, List.getElem?_cons_zero, List.getElem?_cons_succ, DL.list_tup_t, List.append_assoc, List.nil_append, List.cons_append])
  refine wp_of (draw_wp (b := 24 - 1) h (by omega) (by omega) (by omega)) ?_
  rintro _ S1 ⟨v, rfl, v0, v1, h1, s1⟩
  obtain ⟨c, rfl⟩ := Int.eq_ofNat_of_zero_le v0
  obtain ⟨a1, a2, a3, a4⟩ := least_all ⟨c, by omega⟩
  generalize hm : leastL.getD c 0 = m at a1 a2 a3 a4
  have hix : ∀ S, p_ix (.lst (iD leastL)) (.int (2 + (c : Int) - 2)) S = .ok (.int m) S := fun S => ix_lst (by omega) (by
    rw [show (2 + (c : Int) - 2).toNat = c by omega, iD, List.getElem?_map, a4]
    rfl)
  have hix2 := hix
  unfold leastL iD at hix2
  simp only [List.map_cons, List.map_nil] at hix2
  (try simp -implicitDefEqProofs (disch := first | omega | (simp only [List.length_map, List.length_cons, List.length_nil, List.length_range, List.length_append, List.length_replicate]; omega)) only [DL.e_d, DL.e_op, DL.e_un, DL.e_test, DL.e_asB, DL.e_and, DL.e_or, DL.e_not, DL.e_if, DL.e_andV, DL.e_orV, DL.e_notV, DL.e_chain, DL.e_nil, DL.e_cons, DL.e_tup, DL.e_lst, DL.e_cb, DL.e_callK, DL.e_meth, DL.e_methP, DL.e_smeth, DL.e_cval, DL.e_fld, DL.e_prop, DL.e_star, DL.e_ps0, DL.e_ps, DL.e_dispK, DL.e_dispT, DL.e_dK0, DL.e_dT0, DL.e_frz, DL.e_no, DL.e_part, DL.e_sl, DL.s_set, DL.s_asg, DL.s_nx, DL.s_seq, DL.s_expr, DL.s_ret, DL.s_retN, DL.s_brk, DL.s_cont, DL.s_stuck, DL.s_ifS, DL.s_aug, DL.s_par, DL.s_par3, DL.s_setI, DL.s_fldS, DL.g_name_eq, DL.g_nil_eq, DL.g_cons_eq, DL.g_tup_eq, DL.v_add, DL.v_addI, DL.v_sub, DL.v_neg, DL.v_lt, DL.v_le, DL.v_gt, DL.v_ge, DL.v_eq, DL.v_isN, DL.v_tupcat, DL.Res.bind_ok, DL.Res.bindN_ok, DL.ret_rt, DL.ret_nx, DL.ev_v0, DL.ev_vs, DL.ev_a1, DL.ev_a2, DL.ev_a3, DL.ev_a4, List.set_cons_zero, List.set_cons_succ, decide_true, decide_false, Bool.not_true, Bool.not_false, if_true, Bool.false_eq_true, if_false, DL.e_cb, DL.e_yes, DL.wp_ok, DL.wp_bind, DL.wp_bindN, DL.wp_ret, DL.retQ_rt, DL.retQ_nx, DL.wp_fin, DL.FQ_nx, DL.FQ_ct, DL.FQ_bk, DL.FQ_rt, DL.addO_some, DL.addO_none, DL.isCon_self, DL.v_mulC, DL.v_fdivC, DL.v_modC, DL.ix_t0, DL.ix_t1, DL.ix_t2, DL.ix_l0, DL.ix_l1, DL.ix_l2, DL.isi_int_int, DL.isi_int_bool, DL.min2_eq, DL.max2_eq, DL.tup_f, DL.lst_f, DL.list_tup, DL.list_lst, DL.tuple_lst, DL.len_lst, DL.len_tup, DL.wipeE, DL.lcB, DL.cls_obj, DL.flds_obj, DL.isiO_obj, DL.v_augS, DL.v_methK, DL.v_makeK, DL.ev_a5, DL.ev_a6, DL.ev_a7, DL.v_mulB, eq_self, and_self, List.length_nil, List.length_cons, List.getElem?_cons_zero, List.getElem?_cons_succ, DL.list_tup_t, List.append_assoc, List.nil_append, List.cons_append, hix2])
  refine wp_of (choose_wp (l := [m, m, 1009, 65537, 999999937]) (f := D.int) h1 (by omega) (by simp) (by simp)) ?_
  rintro _ S2 ⟨q, rfl, hq, h2, s2⟩
  (try simp -implicitDefEqProofs (disch := first | omega | (simp only [List.length_map, List.length_cons, List.length_nil, List.length_range, List.length_append, List.length_replicate]; omega)) only [DL.e_d, DL.e_op, DL.e_un, DL.e_test, DL.e_asB, DL.e_and, DL.e_or, DL.e_not, DL.e_if, DL.e_andV, DL.e_orV, DL.e_notV, DL.e_chain, DL.e_nil, DL.e_cons, DL.e_tup, DL.e_lst, DL.e_cb, DL.e_callK, DL.e_meth, DL.e_methP, DL.e_smeth, DL.e_cval, DL.e_fld, DL.e_prop, DL.e_star, DL.e_ps0, DL.e_ps, DL.e_dispK, DL.e_dispT, DL.e_dK0, DL.e_dT0, DL.e_frz, DL.e_no, DL.e_part, DL.e_sl, DL.s_set, DL.s_asg, DL.s_nx, DL.s_seq, DL.s_expr, DL.s_ret, DL.s_retN, DL.s_brk, DL.s_cont, DL.s_stuck, DL.s_ifS, DL.s_aug, DL.s_par, DL.s_par3, DL.s_setI, DL.s_fldS, DL.g_name_eq, DL.g_nil_eq, DL.g_cons_eq, DL.g_tup_eq, DL.v_add, DL.v_addI, DL.v_sub, DL.v_neg, DL.v_lt, DL.v_le, DL.v_gt, DL.v_ge, DL.v_eq, DL.v_isN, DL.v_tupcat, DL.Res.bind_ok, DL.Res.bindN_ok, DL.ret_rt, DL.ret_nx, DL.ev_v0, DL.ev_vs, DL.ev_a1, DL.ev_a2, DL.ev_a3, DL.ev_a4, List.set_cons_zero, List.set_cons_succ, decide_true, decide_false, Bool.not_true, Bool.not_false, if_true, Bool.false_eq_true, if_false, DL.e_cb, DL.e_yes, DL.wp_ok, DL.wp_bind, DL.wp_bindN, DL.wp_ret, DL.retQ_rt, DL.retQ_nx, DL.wp_fin, DL.FQ_nx, DL.FQ_ct, DL.FQ_bk, DL.FQ_rt, DL.addO_some, DL.addO_none, DL.isCon_self, DL.v_mulC, DL.v_fdivC, DL.v_modC, DL.ix_t0, DL.ix_t1, DL.ix_t2, DL.ix_l0, DL.ix_l1, DL.ix_l2, DL.isi_int_int, DL.isi_int_bool, DL.min2_eq, DL.max2_eq, DL.tup_f, DL.lst_f, DL.list_tup, DL.list_lst, DL.tuple_lst, DL.len_lst, DL.len_tup, DL.wipeE, DL.lcB, DL.cls_obj, DL.flds_obj, DL.isiO_obj, DL.v_augS, DL.v_methK, DL.v_makeK, DL.ev_a5, DL.ev_a6, DL.ev_a7, DL.v_mulB, eq_self, and_self, List.length_nil, List.length_cons, List.getElem?_cons_zero, List.getElem?_cons_succ, DL.list_tup_t, List.append_assoc, List.nil_append, List.cons_append])
  refine wp_of (draw_wp (b := 24) h2 (by omega) (by omega) (by omega)) ?_
  rintro _ S3 ⟨u, rfl, u0, u1, h3, s3⟩
  have hq2 : q ∈ prs07 ∧ (2 + (c : Int)) * (2 + (c : Int)) < q := by
    have e : (2 + (c : Int)) * (2 + (c : Int)) = ((c : Int) + 2) * ((c : Int) + 2) := by rw [Int.add_comm]
    rw [e]
    simp only [List.mem_cons, List.not_mem_nil, or_false] at hq
    have a1' : ((c : Int) + 2) * ((c : Int) + 2) < m := a1
    rcases hq with rfl | rfl | rfl | rfl | rfl
    · exact ⟨a2, a1⟩
    · exact ⟨a2, a1⟩
    · exact ⟨by decide, by omega⟩
    · exact ⟨by decide, by omega⟩
    · exact ⟨by decide, by omega⟩
  have w := sc_of (k := 1 + u) hq2.1 hq2.2 (by omega) (by omega) (by omega) (by omega)
  (try simp -implicitDefEqProofs (disch := first | omega | (simp only [List.length_map, List.length_cons, List.length_nil, List.length_range, List.length_append, List.length_replicate]; omega)) only [DL.e_d, DL.e_op, DL.e_un, DL.e_test, DL.e_asB, DL.e_and, DL.e_or, DL.e_not, DL.e_if, DL.e_andV, DL.e_orV, DL.e_notV, DL.e_chain, DL.e_nil, DL.e_cons, DL.e_tup, DL.e_lst, DL.e_cb, DL.e_callK, DL.e_meth, DL.e_methP, DL.e_smeth, DL.e_cval, DL.e_fld, DL.e_prop, DL.e_star, DL.e_ps0, DL.e_ps, DL.e_dispK, DL.e_dispT, DL.e_dK0, DL.e_dT0, DL.e_frz, DL.e_no, DL.e_part, DL.e_sl, DL.s_set, DL.s_asg, DL.s_nx, DL.s_seq, DL.s_expr, DL.s_ret, DL.s_retN, DL.s_brk, DL.s_cont, DL.s_stuck, DL.s_ifS, DL.s_aug, DL.s_par, DL.s_par3, DL.s_setI, DL.s_fldS, DL.g_name_eq, DL.g_nil_eq, DL.g_cons_eq, DL.g_tup_eq, DL.v_add, DL.v_addI, DL.v_sub, DL.v_neg, DL.v_lt, DL.v_le, DL.v_gt, DL.v_ge, DL.v_eq, DL.v_isN, DL.v_tupcat, DL.Res.bind_ok, DL.Res.bindN_ok, DL.ret_rt, DL.ret_nx, DL.ev_v0, DL.ev_vs, DL.ev_a1, DL.ev_a2, DL.ev_a3, DL.ev_a4, List.set_cons_zero, List.set_cons_succ, decide_true, decide_false, Bool.not_true, Bool.not_false, if_true, Bool.false_eq_true, if_false, DL.e_cb, DL.e_yes, DL.wp_ok, DL.wp_bind, DL.wp_bindN, DL.wp_ret, DL.retQ_rt, DL.retQ_nx, DL.wp_fin, DL.FQ_nx, DL.FQ_ct, DL.FQ_bk, DL.FQ_rt, DL.addO_some, DL.addO_none, DL.isCon_self, DL.v_mulC, DL.v_fdivC, DL.v_modC, DL.ix_t0, DL.ix_t1, DL.ix_t2, DL.ix_l0, DL.ix_l1, DL.ix_l2, DL.isi_int_int, DL.isi_int_bool, DL.min2_eq, DL.max2_eq, DL.tup_f, DL.lst_f, DL.list_tup, DL.list_lst, DL.tuple_lst, DL.len_lst, DL.len_tup, DL.wipeE, DL.lcB, DL.cls_obj, DL.flds_obj, DL.isiO_obj, DL.v_augS, DL.v_methK, DL.v_makeK, DL.ev_a5, DL.ev_a6, DL.ev_a7, DL.v_mulB, eq_self, and_self, List.length_nil, List.length_cons, List.getElem?_cons_zero, List.getElem?_cons_succ, DL.list_tup_t, List.append_assoc, List.nil_append, List.cons_append, plan_make (G := G) (S := S3) w hq2.1])
  have ss := (s1.trans s2).trans s3
  exact wp_fin_len ss.1 ⟨q, 2 + c, 1 + u, rfl, hq2.1, w, h3, ss⟩
theorem prime_eq : m_Scheme_prime G [plan p n k] S = .ok (.int p) S := by
  refine eq_wp ?_
  rw [m_Scheme_prime, fnR_eq]
  show wp (ret S (c_Scheme_prime G [some (.obj 0 [.int p, .int n, .int k])] S)) _
  unfold c_Scheme_prime
  (try simp -implicitDefEqProofs (disch := first | omega | (simp only [List.length_map, List.length_cons, List.length_nil, List.length_range, List.length_append, List.length_replicate]; omega)) only [DL.e_d, DL.e_op, DL.e_un, DL.e_test, DL.e_asB, DL.e_and, DL.e_or, DL.e_not, DL.e_if, DL.e_andV, DL.e_orV, DL.e_notV, DL.e_chain, DL.e_nil, DL.e_cons, DL.e_tup, DL.e_lst, DL.e_cb, DL.e_callK, DL.e_meth, DL.e_methP, DL.e_smeth, DL.e_cval, DL.e_fld, DL.e_prop, DL.e_star, DL.e_ps0, DL.e_ps, DL.e_dispK, DL.e_dispT, DL.e_dK0, DL.e_dT0, DL.e_frz, DL.e_no, DL.e_part, DL.e_sl, DL.s_set, DL.s_asg, DL.s_nx, DL.s_seq, DL.s_expr, DL.s_ret, DL.s_retN, DL.s_brk, DL.s_cont, DL.s_stuck, DL.s_ifS, DL.s_aug, DL.s_par, DL.s_par3, DL.s_setI, DL.s_fldS, DL.g_name_eq, DL.g_nil_eq, DL.g_cons_eq, DL.g_tup_eq, DL.v_add, DL.v_addI, DL.v_sub, DL.v_neg, DL.v_lt, DL.v_le, DL.v_gt, DL.v_ge, DL.v_eq, DL.v_isN, DL.v_tupcat, DL.Res.bind_ok, DL.Res.bindN_ok, DL.ret_rt, DL.ret_nx, DL.ev_v0, DL.ev_vs, DL.ev_a1, DL.ev_a2, DL.ev_a3, DL.ev_a4, List.set_cons_zero, List.set_cons_succ, decide_true, decide_false, Bool.not_true, Bool.not_false, if_true, Bool.false_eq_true, if_false, DL.e_cb, DL.e_yes, DL.wp_ok, DL.wp_bind, DL.wp_bindN, DL.wp_ret, DL.retQ_rt, DL.retQ_nx, DL.wp_fin, DL.FQ_nx, DL.FQ_ct, DL.FQ_bk, DL.FQ_rt, DL.addO_some, DL.addO_none, DL.isCon_self, DL.v_mulC, DL.v_fdivC, DL.v_modC, DL.ix_t0, DL.ix_t1, DL.ix_t2, DL.ix_l0, DL.ix_l1, DL.ix_l2, DL.isi_int_int, DL.isi_int_bool, DL.min2_eq, DL.max2_eq, DL.tup_f, DL.lst_f, DL.list_tup, DL.list_lst, DL.tuple_lst, DL.len_lst, DL.len_tup, DL.wipeE, DL.lcB, DL.cls_obj, DL.flds_obj, DL.isiO_obj, DL.v_augS, DL.v_methK, DL.v_makeK, DL.ev_a5, DL.ev_a6, DL.ev_a7, DL.v_mulB, eq_self, and_self, List.length_nil, List.length_cons, List.getElem?_cons_zero, List.getElem?_cons_succ, DL.list_tup_t, List.append_assoc, List.nil_append, List.cons_append])
  all_goals first | exact ⟨rfl, trivial⟩ | exact ⟨trivial, trivial⟩ | exact trivial | exact ⟨rfl, rfl⟩
theorem law_reduced_eq (w : Sc p n k) {x : Int} : m__law_reduced G [.int x, plan p n k] S = .ok (.int (red p x)) S := by
  refine eq_wp ?_
  have w0 := w.p0
  have w1 := w.p1
  have w2 := w.po
  have h1 := Int.emod_nonneg x (show p ≠ 0 by omega)
  have h3 := Int.emod_lt_of_pos x (show 0 < p by omega)
  rw [m__law_reduced, fnR_eq]
  show wp (ret S (c__law_reduced G [some (.int x), some (plan p n k), none] S)) _
  unfold c__law_reduced red
  by_cases hc : p < 2 * (x % p)
  · have hc2 : p / 2 < x % p := by omega
    (try simp -implicitDefEqProofs (disch := first | omega | (simp only [List.length_map, List.length_cons, List.length_nil, List.length_range, List.length_append, List.length_replicate]; omega)) only [DL.e_d, DL.e_op, DL.e_un, DL.e_test, DL.e_asB, DL.e_and, DL.e_or, DL.e_not, DL.e_if, DL.e_andV, DL.e_orV, DL.e_notV, DL.e_chain, DL.e_nil, DL.e_cons, DL.e_tup, DL.e_lst, DL.e_cb, DL.e_callK, DL.e_meth, DL.e_methP, DL.e_smeth, DL.e_cval, DL.e_fld, DL.e_prop, DL.e_star, DL.e_ps0, DL.e_ps, DL.e_dispK, DL.e_dispT, DL.e_dK0, DL.e_dT0, DL.e_frz, DL.e_no, DL.e_part, DL.e_sl, DL.s_set, DL.s_asg, DL.s_nx, DL.s_seq, DL.s_expr, DL.s_ret, DL.s_retN, DL.s_brk, DL.s_cont, DL.s_stuck, DL.s_ifS, DL.s_aug, DL.s_par, DL.s_par3, DL.s_setI, DL.s_fldS, DL.g_name_eq, DL.g_nil_eq, DL.g_cons_eq, DL.g_tup_eq, DL.v_add, DL.v_addI, DL.v_sub, DL.v_neg, DL.v_lt, DL.v_le, DL.v_gt, DL.v_ge, DL.v_eq, DL.v_isN, DL.v_tupcat, DL.Res.bind_ok, DL.Res.bindN_ok, DL.ret_rt, DL.ret_nx, DL.ev_v0, DL.ev_vs, DL.ev_a1, DL.ev_a2, DL.ev_a3, DL.ev_a4, List.set_cons_zero, List.set_cons_succ, decide_true, decide_false, Bool.not_true, Bool.not_false, if_true, Bool.false_eq_true, if_false, DL.e_cb, DL.e_yes, DL.wp_ok, DL.wp_bind, DL.wp_bindN, DL.wp_ret, DL.retQ_rt, DL.retQ_nx, DL.wp_fin, DL.FQ_nx, DL.FQ_ct, DL.FQ_bk, DL.FQ_rt, DL.addO_some, DL.addO_none, DL.isCon_self, DL.v_mulC, DL.v_fdivC, DL.v_modC, DL.ix_t0, DL.ix_t1, DL.ix_t2, DL.ix_l0, DL.ix_l1, DL.ix_l2, DL.isi_int_int, DL.isi_int_bool, DL.min2_eq, DL.max2_eq, DL.tup_f, DL.lst_f, DL.list_tup, DL.list_lst, DL.tuple_lst, DL.len_lst, DL.len_tup, DL.wipeE, DL.lcB, DL.cls_obj, DL.flds_obj, DL.isiO_obj, DL.v_augS, DL.v_methK, DL.v_makeK, DL.ev_a5, DL.ev_a6, DL.ev_a7, DL.v_mulB, eq_self, and_self, List.length_nil, List.length_cons, List.getElem?_cons_zero, List.getElem?_cons_succ, DL.list_tup_t, List.append_assoc, List.nil_append, List.cons_append, clsOf_plan, prime_eq, hc, hc2])
    all_goals first | exact ⟨rfl, trivial⟩ | exact ⟨trivial, trivial⟩ | exact trivial | exact ⟨rfl, rfl⟩
  · have hc2 : ¬ p / 2 < x % p := by omega
    (try simp -implicitDefEqProofs (disch := first | omega | (simp only [List.length_map, List.length_cons, List.length_nil, List.length_range, List.length_append, List.length_replicate]; omega)) only [DL.e_d, DL.e_op, DL.e_un, DL.e_test, DL.e_asB, DL.e_and, DL.e_or, DL.e_not, DL.e_if, DL.e_andV, DL.e_orV, DL.e_notV, DL.e_chain, DL.e_nil, DL.e_cons, DL.e_tup, DL.e_lst, DL.e_cb, DL.e_callK, DL.e_meth, DL.e_methP, DL.e_smeth, DL.e_cval, DL.e_fld, DL.e_prop, DL.e_star, DL.e_ps0, DL.e_ps, DL.e_dispK, DL.e_dispT, DL.e_dK0, DL.e_dT0, DL.e_frz, DL.e_no, DL.e_part, DL.e_sl, DL.s_set, DL.s_asg, DL.s_nx, DL.s_seq, DL.s_expr, DL.s_ret, DL.s_retN, DL.s_brk, DL.s_cont, DL.s_stuck, DL.s_ifS, DL.s_aug, DL.s_par, DL.s_par3, DL.s_setI, DL.s_fldS, DL.g_name_eq, DL.g_nil_eq, DL.g_cons_eq, DL.g_tup_eq, DL.v_add, DL.v_addI, DL.v_sub, DL.v_neg, DL.v_lt, DL.v_le, DL.v_gt, DL.v_ge, DL.v_eq, DL.v_isN, DL.v_tupcat, DL.Res.bind_ok, DL.Res.bindN_ok, DL.ret_rt, DL.ret_nx, DL.ev_v0, DL.ev_vs, DL.ev_a1, DL.ev_a2, DL.ev_a3, DL.ev_a4, List.set_cons_zero, List.set_cons_succ, decide_true, decide_false, Bool.not_true, Bool.not_false, if_true, Bool.false_eq_true, if_false, DL.e_cb, DL.e_yes, DL.wp_ok, DL.wp_bind, DL.wp_bindN, DL.wp_ret, DL.retQ_rt, DL.retQ_nx, DL.wp_fin, DL.FQ_nx, DL.FQ_ct, DL.FQ_bk, DL.FQ_rt, DL.addO_some, DL.addO_none, DL.isCon_self, DL.v_mulC, DL.v_fdivC, DL.v_modC, DL.ix_t0, DL.ix_t1, DL.ix_t2, DL.ix_l0, DL.ix_l1, DL.ix_l2, DL.isi_int_int, DL.isi_int_bool, DL.min2_eq, DL.max2_eq, DL.tup_f, DL.lst_f, DL.list_tup, DL.list_lst, DL.tuple_lst, DL.len_lst, DL.len_tup, DL.wipeE, DL.lcB, DL.cls_obj, DL.flds_obj, DL.isiO_obj, DL.v_augS, DL.v_methK, DL.v_makeK, DL.ev_a5, DL.ev_a6, DL.ev_a7, DL.v_mulB, eq_self, and_self, List.length_nil, List.length_cons, List.getElem?_cons_zero, List.getElem?_cons_succ, DL.list_tup_t, List.append_assoc, List.nil_append, List.cons_append, clsOf_plan, prime_eq, hc, hc2])
    all_goals first | exact ⟨rfl, trivial⟩ | exact ⟨trivial, trivial⟩ | exact trivial | exact ⟨rfl, rfl⟩
/-- an amount: not zero, not larger than half the prime -/
def Amt (p a : Int) : Prop := a ≠ 0 ∧ -(p / 2) ≤ a ∧ a ≤ p / 2
theorem law_amount_wp {j : Nat} (w : Sc p n k) (h : SkE j S) (hn : j < 2 ^ 19) : wp (mp__law_amount G [.ref 1, plan p n k] S) fun d S' => ∃ a : Int, d = .int a ∧ Amt p a ∧ SkE (j + 3) S' ∧ Sm S S' := by
  have w0 := w.p0
  have w1 := w.p1
  rw [mp__law_amount, ev_a2, m__law_amount, fnR_eq]
  show wp (ret S (c__law_amount G [some (.ref 1), some (plan p n k), none, none] S)) _
  unfold c__law_amount
  (try simp -implicitDefEqProofs (disch := first | omega | (simp only [List.length_map, List.length_cons, List.length_nil, List.length_range, List.length_append, List.length_replicate]; omega)) only [DL.e_d, DL.e_op, DL.e_un, DL.e_test, DL.e_asB, DL.e_and, DL.e_or, DL.e_not, DL.e_if, DL.e_andV, DL.e_orV, DL.e_notV, DL.e_chain, DL.e_nil, DL.e_cons, DL.e_tup, DL.e_lst, DL.e_cb, DL.e_callK, DL.e_meth, DL.e_methP, DL.e_smeth, DL.e_cval, DL.e_fld, DL.e_prop, DL.e_star, DL.e_ps0, DL.e_ps, DL.e_dispK, DL.e_dispT, DL.e_dK0, DL.e_dT0, DL.e_frz, DL.e_no, DL.e_part, DL.e_sl, DL.s_set, DL.s_asg, DL.s_nx, DL.s_seq, DL.s_expr, DL.s_ret, DL.s_retN, DL.s_brk, DL.s_cont, DL.s_stuck, DL.s_ifS, DL.s_aug, DL.s_par, DL.s_par3, DL.s_setI, DL.s_fldS, DL.g_name_eq, DL.g_nil_eq, DL.g_cons_eq, DL.g_tup_eq, DL.v_add, DL.v_addI, DL.v_sub, DL.v_neg, DL.v_lt, DL.v_le, DL.v_gt, DL.v_ge, DL.v_eq, DL.v_isN, DL.v_tupcat, DL.Res.bind_ok, DL.Res.bindN_ok, DL.ret_rt, DL.ret_nx, DL.ev_v0, DL.ev_vs, DL.ev_a1, DL.ev_a2, DL.ev_a3, DL.ev_a4, List.set_cons_zero, List.set_cons_succ, decide_true, decide_false, Bool.not_true, Bool.not_false, if_true, Bool.false_eq_true, if_false, DL.e_cb, DL.e_yes, DL.wp_ok, DL.wp_bind, DL.wp_bindN, DL.wp_ret, DL.retQ_rt, DL.retQ_nx, DL.wp_fin, DL.FQ_nx, DL.FQ_ct, DL.FQ_bk, DL.FQ_rt, DL.addO_some, DL.addO_none, DL.isCon_self, DL.v_mulC, DL.v_fdivC, DL.v_modC, DL.ix_t0, DL.ix_t1, DL.ix_t2, DL.ix_l0, DL.ix_l1, DL.ix_l2, DL.isi_int_int, DL.isi_int_bool, DL.min2_eq, DL.max2_eq, DL.tup_f, DL.lst_f, DL.list_tup, DL.list_lst, DL.tuple_lst, DL.len_lst, DL.len_tup, DL.wipeE, DL.lcB, DL.cls_obj, DL.flds_obj, DL.isiO_obj, DL.v_augS, DL.v_methK, DL.v_makeK, DL.ev_a5, DL.ev_a6, DL.ev_a7, DL.v_mulB, eq_self, and_self, List.length_nil, List.length_cons, List.getElem?_cons_zero, List.getElem?_cons_succ, DL.list_tup_t, List.append_assoc, List.nil_append, List.cons_append, clsOf_plan, prime_eq])
  refine wp_of (draw_wp (b := p / 2) h (by omega) (by omega) (by omega)) ?_
  rintro _ S1 ⟨v, rfl, v0, v1, h1, s1⟩
  (try simp -implicitDefEqProofs (disch := first | omega | (simp only [List.length_map, List.length_cons, List.length_nil, List.length_range, List.length_append, List.length_replicate]; omega)) only [DL.e_d, DL.e_op, DL.e_un, DL.e_test, DL.e_asB, DL.e_and, DL.e_or, DL.e_not, DL.e_if, DL.e_andV, DL.e_orV, DL.e_notV, DL.e_chain, DL.e_nil, DL.e_cons, DL.e_tup, DL.e_lst, DL.e_cb, DL.e_callK, DL.e_meth, DL.e_methP, DL.e_smeth, DL.e_cval, DL.e_fld, DL.e_prop, DL.e_star, DL.e_ps0, DL.e_ps, DL.e_dispK, DL.e_dispT, DL.e_dK0, DL.e_dT0, DL.e_frz, DL.e_no, DL.e_part, DL.e_sl, DL.s_set, DL.s_asg, DL.s_nx, DL.s_seq, DL.s_expr, DL.s_ret, DL.s_retN, DL.s_brk, DL.s_cont, DL.s_stuck, DL.s_ifS, DL.s_aug, DL.s_par, DL.s_par3, DL.s_setI, DL.s_fldS, DL.g_name_eq, DL.g_nil_eq, DL.g_cons_eq, DL.g_tup_eq, DL.v_add, DL.v_addI, DL.v_sub, DL.v_neg, DL.v_lt, DL.v_le, DL.v_gt, DL.v_ge, DL.v_eq, DL.v_isN, DL.v_tupcat, DL.Res.bind_ok, DL.Res.bindN_ok, DL.ret_rt, DL.ret_nx, DL.ev_v0, DL.ev_vs, DL.ev_a1, DL.ev_a2, DL.ev_a3, DL.ev_a4, List.set_cons_zero, List.set_cons_succ, decide_true, decide_false, Bool.not_true, Bool.not_false, if_true, Bool.false_eq_true, if_false, DL.e_cb, DL.e_yes, DL.wp_ok, DL.wp_bind, DL.wp_bindN, DL.wp_ret, DL.retQ_rt, DL.retQ_nx, DL.wp_fin, DL.FQ_nx, DL.FQ_ct, DL.FQ_bk, DL.FQ_rt, DL.addO_some, DL.addO_none, DL.isCon_self, DL.v_mulC, DL.v_fdivC, DL.v_modC, DL.ix_t0, DL.ix_t1, DL.ix_t2, DL.ix_l0, DL.ix_l1, DL.ix_l2, DL.isi_int_int, DL.isi_int_bool, DL.min2_eq, DL.max2_eq, DL.tup_f, DL.lst_f, DL.list_tup, DL.list_lst, DL.tuple_lst, DL.len_lst, DL.len_tup, DL.wipeE, DL.lcB, DL.cls_obj, DL.flds_obj, DL.isiO_obj, DL.v_augS, DL.v_methK, DL.v_makeK, DL.ev_a5, DL.ev_a6, DL.ev_a7, DL.v_mulB, eq_self, and_self, List.length_nil, List.length_cons, List.getElem?_cons_zero, List.getElem?_cons_succ, DL.list_tup_t, List.append_assoc, List.nil_append, List.cons_append])
  refine wp_of (choose_wp (l := [1, p / 2, 1 + v]) (f := D.int) h1 (by omega) (by simp) (by simp)) ?_
  rintro _ S2 ⟨z, rfl, hz, h2, s2⟩
  (try simp -implicitDefEqProofs (disch := first | omega | (simp only [List.length_map, List.length_cons, List.length_nil, List.length_range, List.length_append, List.length_replicate]; omega)) only [DL.e_d, DL.e_op, DL.e_un, DL.e_test, DL.e_asB, DL.e_and, DL.e_or, DL.e_not, DL.e_if, DL.e_andV, DL.e_orV, DL.e_notV, DL.e_chain, DL.e_nil, DL.e_cons, DL.e_tup, DL.e_lst, DL.e_cb, DL.e_callK, DL.e_meth, DL.e_methP, DL.e_smeth, DL.e_cval, DL.e_fld, DL.e_prop, DL.e_star, DL.e_ps0, DL.e_ps, DL.e_dispK, DL.e_dispT, DL.e_dK0, DL.e_dT0, DL.e_frz, DL.e_no, DL.e_part, DL.e_sl, DL.s_set, DL.s_asg, DL.s_nx, DL.s_seq, DL.s_expr, DL.s_ret, DL.s_retN, DL.s_brk, DL.s_cont, DL.s_stuck, DL.s_ifS, DL.s_aug, DL.s_par, DL.s_par3, DL.s_setI, DL.s_fldS, DL.g_name_eq, DL.g_nil_eq, DL.g_cons_eq, DL.g_tup_eq, DL.v_add, DL.v_addI, DL.v_sub, DL.v_neg, DL.v_lt, DL.v_le, DL.v_gt, DL.v_ge, DL.v_eq, DL.v_isN, DL.v_tupcat, DL.Res.bind_ok, DL.Res.bindN_ok, DL.ret_rt, DL.ret_nx, DL.ev_v0, DL.ev_vs, DL.ev_a1, DL.ev_a2, DL.ev_a3, DL.ev_a4, List.set_cons_zero, List.set_cons_succ, decide_true, decide_false, Bool.not_true, Bool.not_false, if_true, Bool.false_eq_true, if_false, DL.e_cb, DL.e_yes, DL.wp_ok, DL.wp_bind, DL.wp_bindN, DL.wp_ret, DL.retQ_rt, DL.retQ_nx, DL.wp_fin, DL.FQ_nx, DL.FQ_ct, DL.FQ_bk, DL.FQ_rt, DL.addO_some, DL.addO_none, DL.isCon_self, DL.v_mulC, DL.v_fdivC, DL.v_modC, DL.ix_t0, DL.ix_t1, DL.ix_t2, DL.ix_l0, DL.ix_l1, DL.ix_l2, DL.isi_int_int, DL.isi_int_bool, DL.min2_eq, DL.max2_eq, DL.tup_f, DL.lst_f, DL.list_tup, DL.list_lst, DL.tuple_lst, DL.len_lst, DL.len_tup, DL.wipeE, DL.lcB, DL.cls_obj, DL.flds_obj, DL.isiO_obj, DL.v_augS, DL.v_methK, DL.v_makeK, DL.ev_a5, DL.ev_a6, DL.ev_a7, DL.v_mulB, eq_self, and_self, List.length_nil, List.length_cons, List.getElem?_cons_zero, List.getElem?_cons_succ, DL.list_tup_t, List.append_assoc, List.nil_append, List.cons_append])
  refine wp_of (choose_wp (l := [z, 0 - z]) (f := D.int) h2 (by omega) (by simp) (by simp)) ?_
  rintro _ S3 ⟨a, rfl, ha, h3, s3⟩
  (try simp -implicitDefEqProofs (disch := first | omega | (simp only [List.length_map, List.length_cons, List.length_nil, List.length_range, List.length_append, List.length_replicate]; omega)) only [DL.e_d, DL.e_op, DL.e_un, DL.e_test, DL.e_asB, DL.e_and, DL.e_or, DL.e_not, DL.e_if, DL.e_andV, DL.e_orV, DL.e_notV, DL.e_chain, DL.e_nil, DL.e_cons, DL.e_tup, DL.e_lst, DL.e_cb, DL.e_callK, DL.e_meth, DL.e_methP, DL.e_smeth, DL.e_cval, DL.e_fld, DL.e_prop, DL.e_star, DL.e_ps0, DL.e_ps, DL.e_dispK, DL.e_dispT, DL.e_dK0, DL.e_dT0, DL.e_frz, DL.e_no, DL.e_part, DL.e_sl, DL.s_set, DL.s_asg, DL.s_nx, DL.s_seq, DL.s_expr, DL.s_ret, DL.s_retN, DL.s_brk, DL.s_cont, DL.s_stuck, DL.s_ifS, DL.s_aug, DL.s_par, DL.s_par3, DL.s_setI, DL.s_fldS, DL.g_name_eq, DL.g_nil_eq, DL.g_cons_eq, DL.g_tup_eq, DL.v_add, DL.v_addI, DL.v_sub, DL.v_neg, DL.v_lt, DL.v_le, DL.v_gt, DL.v_ge, DL.v_eq, DL.v_isN, DL.v_tupcat, DL.Res.bind_ok, DL.Res.bindN_ok, DL.ret_rt, DL.ret_nx, DL.ev_v0, DL.ev_vs, DL.ev_a1, DL.ev_a2, DL.ev_a3, DL.ev_a4, List.set_cons_zero, List.set_cons_succ, decide_true, decide_false, Bool.not_true, Bool.not_false, if_true, Bool.false_eq_true, if_false, DL.e_cb, DL.e_yes, DL.wp_ok, DL.wp_bind, DL.wp_bindN, DL.wp_ret, DL.retQ_rt, DL.retQ_nx, DL.wp_fin, DL.FQ_nx, DL.FQ_ct, DL.FQ_bk, DL.FQ_rt, DL.addO_some, DL.addO_none, DL.isCon_self, DL.v_mulC, DL.v_fdivC, DL.v_modC, DL.ix_t0, DL.ix_t1, DL.ix_t2, DL.ix_l0, DL.ix_l1, DL.ix_l2, DL.isi_int_int, DL.isi_int_bool, DL.min2_eq, DL.max2_eq, DL.tup_f, DL.lst_f, DL.list_tup, DL.list_lst, DL.tuple_lst, DL.len_lst, DL.len_tup, DL.wipeE, DL.lcB, DL.cls_obj, DL.flds_obj, DL.isiO_obj, DL.v_augS, DL.v_methK, DL.v_makeK, DL.ev_a5, DL.ev_a6, DL.ev_a7, DL.v_mulB, eq_self, and_self, List.length_nil, List.length_cons, List.getElem?_cons_zero, List.getElem?_cons_succ, DL.list_tup_t, List.append_assoc, List.nil_append, List.cons_append])
  simp only [List.mem_cons, List.not_mem_nil, or_false] at hz ha
  have ss := (s1.trans s2).trans s3
  exact wp_fin_len ss.1 ⟨a, rfl, ⟨by omega, by omega, by omega⟩, h3, ss⟩
end
end K07

set_option Elab.async false
set_option linter.all false
set_option maxRecDepth 100000
set_option maxHeartbeats 4000000
namespace K07
open PySem PySem.Spec PyProof.Rows L2 DL
/-! ### the tail behind the source -/
def Sk (j : Nat) (T S : Sto) : Prop := ∃ its seed cnt, S = sk its seed cnt T ∧ its.length ≤ 63 ∧ 0 ≤ seed ∧ seed < 2 ^ 32 ∧ 0 ≤ cnt ∧ cnt ≤ j
section
variable {T U S S' : Sto} {A : Option Cell} {j m : Nat}
theorem SkE.tail (h : SkE j S) : ∃ T, Sk j T S := h
theorem Sk.e (h : Sk j T S) : SkE j S := ⟨T, h⟩
theorem Sk.app (h : Sk m T S) : Sk m (T ++ U) (S ++ U) := by
  obtain ⟨its, seed, cnt, rfl, h⟩ := h
  exact ⟨its, seed, cnt, rfl, h⟩
theorem Sk.len (h : Sk m T S) : S.length = T.length + 2 := by
  obtain ⟨its, seed, cnt, rfl, h⟩ := h
  rfl
theorem Sk.mono (h : Sk j T S) (hm : j ≤ m) : Sk m T S := by
  obtain ⟨its, seed, cnt, e, h1, h2, h3, h4, h5⟩ := h
  exact ⟨its, seed, cnt, e, h1, h2, h3, h4, by omega⟩
theorem Sk.at1 (h : Sk m (T ++ [A]) S) : S[T.length + 2]? = some A := by
  obtain ⟨its, seed, cnt, rfl, h⟩ := h
  show (T ++ [A])[T.length]? = _
  exact snoc_at
theorem Sk.set1 (h : Sk m (T ++ [A]) S) (C : Option Cell) : Sk m (T ++ [C]) (S.set (T.length + 2) C) := by
  obtain ⟨its, seed, cnt, rfl, h⟩ := h
  refine ⟨its, seed, cnt, ?_, h⟩
  unfold sk
  simp only [List.set_cons_succ]
  rw [snoc_set]
theorem Sk.to (h : Sk j T S) (h' : SkE m S') (s : Sm S S') : Sk m T S' := by
  obtain ⟨its, seed, cnt, rfl, h⟩ := h
  obtain ⟨T', its', seed', cnt', rfl, h'⟩ := h'
  have e : T' = T := List.ext_getElem? fun i => s.2 (i + 2) (by omega)
  rw [e]
  exact ⟨its', seed', cnt', rfl, h'⟩
theorem Sk.sm (h : Sk j T S) (h' : Sk m T S') : Sm S S' := by
  obtain ⟨its, seed, cnt, rfl, h⟩ := h
  obtain ⟨its', seed', cnt', rfl, h'⟩ := h'
  exact sk_sm
theorem ltL_ints {N : Nat} {l : List Int} : refsLtL N (iD l) = true := ltL_all fun d hd => by
  obtain ⟨i, _, rfl⟩ := List.mem_map.mp hd
  rfl
theorem wp_sk_fin {d : D} {Q : D → Sto → Prop} (h : Sk j T S) (h' : Sk m (T ++ U) S') (hd : refsLt (T.length + 2) d = true) (k : ∀ S2, Sk m T S2 → Q d S2) : wp (fin S d S') Q := by
  obtain ⟨its, seed, cnt, rfl, h⟩ := h
  obtain ⟨its', seed', cnt', rfl, h'⟩ := h'
  show wp (fin (sk its seed cnt T) d (sk its' seed' cnt' T ++ U)) Q
  refine wp_fin_cut rfl (fun i c hi => ?_) hd (k _ ⟨its', seed', cnt', rfl, h'⟩)
  match i, hi with
  | 0, hi =>
    cases hi
    refine .inr ?_
    show refsLtL _ (iD its') = true
    exact ltL_ints
  | 1, hi =>
    cases hi
    refine .inr ?_
    simp [cellLt, refsLt, sk, refsLtL, refsLtK]
  | i + 2, hi => exact .inl hi
end
/-! ### all pairs, tables -/
def prD (e : Nat × Nat) : D := .tup [.int e.1, .int e.2]
def prP (e : Nat × Nat) : PyData := .tuple [.int e.1, .int e.2]
theorem py_prs {S : Sto} : ∀ l : List (Nat × Nat), pyOfL S (l.map prD) = some (l.map prP)
  | [] => rfl
  | e :: l => by
    rw [List.map_cons, pyOfL, py_prs l]
    rfl
theorem sorted_prs {S : Sto} {x : D} {l : List (Nat × Nat)} (hx : collD x S = some (l.map prD)) (hl : l.length ≤ 1000000) : ∃ l' : List (Nat × Nat), p_sorted false [x] S = .ok (.lst (l'.map prD)) S ∧ l'.Perm l := by
  have hok : SrtOk (l.map prP) := by
    refine ⟨fun d hd d' hd' => ?_, .inl fun d hd => ?_, fun d hd => ?_⟩
    · obtain ⟨u, _, rfl⟩ := List.mem_map.mp hd
      obtain ⟨v, _, rfl⟩ := List.mem_map.mp hd'
      rfl
    · obtain ⟨u, _, rfl⟩ := List.mem_map.mp hd
      exact ⟨_, _, rfl⟩
    · obtain ⟨u, _, rfl⟩ := List.mem_map.mp hd
      simp [prP, PyData.depth, PyData.depthAll]
  refine ⟨l.mergeSort fun a b => PySem.W.dataLe false (·.2) (prD a, prP a) (prD b, prP b), ?_, List.mergeSort_perm _ _⟩
  have e : srt (l.map prD) (l.map prP) = (l.mergeSort fun a b => PySem.W.dataLe false (·.2) (prD a, prP a) (prD b, prP b)).map prD := by
    unfold srt
    have e1 : (l.map prD).zip (l.map prP) = l.map fun a => (prD a, prP a) := by
      rw [List.zip_map, List.zip_eq_zipWith, List.zipWith_self, List.map_map]
      rfl
    rw [e1, ← List.map_mergeSort (r := fun a b => PySem.W.dataLe false (·.2) (prD a, prP a) (prD b, prP b)) (fun _ _ _ _ => rfl), List.map_map]
    rfl
  unfold p_sorted
  simp only [hx, py_prs]
  rw [if_pos hok, e, lst_f (by rw [List.length_map, List.length_mergeSort]; exact hl)]
section
variable {G : Gx} {S : Sto} {p n k : Int}
theorem extend_ref {N : Nat} {ds es : List D} (h : S[N]? = some (some (.lst ds))) (hf : ds.length + es.length ≤ 1000000) : p_extend (.ref N) [.lst es] S = .ok .non (S.set N (some (.lst (ds ++ es)))) := by
  unfold p_extend
  have e1 : cellOf S N = some (.lst ds) := cell_at h
  have e2 : lstOf (.lst es) S = some es := rfl
  simp only [e1, e2]
  rw [if_pos (fits_le' hf)]
theorem all_pairs_wp (w : Sc p n k) : wp (mp__law_all_pairs G [plan p n k] S) fun d S' => S' = S ∧ ∃ l : List (Nat × Nat), d = .lst (l.map prD) ∧ l.Nodup ∧ l.length ≤ 276 ∧ ∀ e ∈ l, e.1 < e.2 ∧ e.2 < n.toNat := by
  have w0 := w.n0
  have w1 := w.n1
  rw [mp__law_all_pairs, ev_a1, m__law_all_pairs, fnR_eq]
  show wp (ret S (c__law_all_pairs G [some (plan p n k), none, none, none] S)) _
  unfold c__law_all_pairs
  (try simp -implicitDefEqProofs (disch := first | omega | (simp only [List.length_map, List.length_cons, List.length_nil, List.length_range, List.length_append, List.length_replicate]; omega)) only [DL.e_d, DL.e_op, DL.e_un, DL.e_test, DL.e_asB, DL.e_and, DL.e_or, DL.e_not, DL.e_if, DL.e_andV, DL.e_orV, DL.e_notV, DL.e_chain, DL.e_nil, DL.e_cons, DL.e_tup, DL.e_lst, DL.e_cb, DL.e_callK, DL.e_meth, DL.e_methP, DL.e_smeth, DL.e_cval, DL.e_fld, DL.e_prop, DL.e_star, DL.e_ps0, DL.e_ps, DL.e_dispK, DL.e_dispT, DL.e_dK0, DL.e_dT0, DL.e_frz, DL.e_no, DL.e_part, DL.e_sl, DL.s_set, DL.s_asg, DL.s_nx, DL.s_seq, DL.s_expr, DL.s_ret, DL.s_retN, DL.s_brk, DL.s_cont, DL.s_stuck, DL.s_ifS, DL.s_aug, DL.s_par, DL.s_par3, DL.s_setI, DL.s_fldS, DL.g_name_eq, DL.g_nil_eq, DL.g_cons_eq, DL.g_tup_eq, DL.v_add, DL.v_addI, DL.v_sub, DL.v_neg, DL.v_lt, DL.v_le, DL.v_gt, DL.v_ge, DL.v_eq, DL.v_isN, DL.v_tupcat, DL.Res.bind_ok, DL.Res.bindN_ok, DL.ret_rt, DL.ret_nx, DL.ev_v0, DL.ev_vs, DL.ev_a1, DL.ev_a2, DL.ev_a3, DL.ev_a4, List.set_cons_zero, List.set_cons_succ, decide_true, decide_false, Bool.not_true, Bool.not_false, if_true, Bool.false_eq_true, if_false, DL.e_cb, DL.e_yes, DL.wp_ok, DL.wp_bind, DL.wp_bindN, DL.wp_ret, DL.retQ_rt, DL.retQ_nx, DL.wp_fin, DL.FQ_nx, DL.FQ_ct, DL.FQ_bk, DL.FQ_rt, DL.addO_some, DL.addO_none, DL.isCon_self, DL.v_mulC, DL.v_fdivC, DL.v_modC, DL.ix_t0, DL.ix_t1, DL.ix_t2, DL.ix_l0, DL.ix_l1, DL.ix_l2, DL.isi_int_int, DL.isi_int_bool, DL.min2_eq, DL.max2_eq, DL.tup_f, DL.lst_f, DL.list_tup, DL.list_lst, DL.tuple_lst, DL.len_lst, DL.len_tup, DL.wipeE, DL.lcB, DL.cls_obj, DL.flds_obj, DL.isiO_obj, DL.v_augS, DL.v_methK, DL.v_makeK, DL.ev_a5, DL.ev_a6, DL.ev_a7, DL.v_mulB, eq_self, and_self, List.length_nil, List.length_cons, List.getElem?_cons_zero, List.getElem?_cons_succ, DL.list_tup_t, List.append_assoc, List.nil_append, List.cons_append, lst_t (S := S) (show ([] : List D).length ≤ 1000000 by simp)])
  refine wp_for (List.range n.toNat) (fun (i : Nat) => D.int (0 + (i : Int))) (fun pre ρ S' => ∃ o2 l, ρ = [some (plan p n k), some (.ref S.length), o2, none] ∧ S' = S ++ [some (.lst (l.map prD))] ∧ l.Nodup ∧ 2 * l.length + pre.length = pre.length * pre.length ∧ ∀ e ∈ l, e.1 < e.2 ∧ e.2 < pre.length) (rng1 (by (try simp -implicitDefEqProofs (disch := first | omega | (simp only [List.length_map, List.length_cons, List.length_nil, List.length_range, List.length_append, List.length_replicate]; omega)) only [DL.e_d, DL.e_op, DL.e_un, DL.e_test, DL.e_asB, DL.e_and, DL.e_or, DL.e_not, DL.e_if, DL.e_andV, DL.e_orV, DL.e_notV, DL.e_chain, DL.e_nil, DL.e_cons, DL.e_tup, DL.e_lst, DL.e_cb, DL.e_callK, DL.e_meth, DL.e_methP, DL.e_smeth, DL.e_cval, DL.e_fld, DL.e_prop, DL.e_star, DL.e_ps0, DL.e_ps, DL.e_dispK, DL.e_dispT, DL.e_dK0, DL.e_dT0, DL.e_frz, DL.e_no, DL.e_part, DL.e_sl, DL.s_set, DL.s_asg, DL.s_nx, DL.s_seq, DL.s_expr, DL.s_ret, DL.s_retN, DL.s_brk, DL.s_cont, DL.s_stuck, DL.s_ifS, DL.s_aug, DL.s_par, DL.s_par3, DL.s_setI, DL.s_fldS, DL.g_name_eq, DL.g_nil_eq, DL.g_cons_eq, DL.g_tup_eq, DL.v_add, DL.v_addI, DL.v_sub, DL.v_neg, DL.v_lt, DL.v_le, DL.v_gt, DL.v_ge, DL.v_eq, DL.v_isN, DL.v_tupcat, DL.Res.bind_ok, DL.Res.bindN_ok, DL.ret_rt, DL.ret_nx, DL.ev_v0, DL.ev_vs, DL.ev_a1, DL.ev_a2, DL.ev_a3, DL.ev_a4, List.set_cons_zero, List.set_cons_succ, decide_true, decide_false, Bool.not_true, Bool.not_false, if_true, Bool.false_eq_true, if_false, DL.e_cb, DL.e_yes, DL.wp_ok, DL.wp_bind, DL.wp_bindN, DL.wp_ret, DL.retQ_rt, DL.retQ_nx, DL.wp_fin, DL.FQ_nx, DL.FQ_ct, DL.FQ_bk, DL.FQ_rt, DL.addO_some, DL.addO_none, DL.isCon_self, DL.v_mulC, DL.v_fdivC, DL.v_modC, DL.ix_t0, DL.ix_t1, DL.ix_t2, DL.ix_l0, DL.ix_l1, DL.ix_l2, DL.isi_int_int, DL.isi_int_bool, DL.min2_eq, DL.max2_eq, DL.tup_f, DL.lst_f, DL.list_tup, DL.list_lst, DL.tuple_lst, DL.len_lst, DL.len_tup, DL.wipeE, DL.lcB, DL.cls_obj, DL.flds_obj, DL.isiO_obj, DL.v_augS, DL.v_methK, DL.v_makeK, DL.ev_a5, DL.ev_a6, DL.ev_a7, DL.v_mulB, eq_self, and_self, List.length_nil, List.length_cons, List.getElem?_cons_zero, List.getElem?_cons_succ, DL.list_tup_t, List.append_assoc, List.nil_append, List.cons_append, clsOf_plan, accounts_eq])) ⟨by omega, by omega⟩) (fun _ _ _ _ => ok_nil) ⟨none, [], rfl, rfl, List.nodup_nil, rfl, by simp⟩ ?_ ?_
  · rintro pre u post ρ S' hr ⟨o2, l, rfl, rfl, hn, hc, hl⟩
    obtain ⟨i0, i1, i2⟩ := range_pre hr
    have hlen : pre.length * pre.length ≤ 24 * 24 := Nat.mul_le_mul (by omega) (by omega)
    have hlc : ∀ ρ1 S1, c_lc (c_rng1 (c_cons (c_var 2) c_nil)) (g_name 3) c_yes (c_tup (c_cons (c_var 3) (c_cons (c_var 2) c_nil))) [3] (some (plan p n k) :: ρ1 :: some (.int (0 + (u : Int))) :: [none]) S1 = .ok (.lst (((List.range u).map fun v => (v, u)).map prD)) S1 := fun ρ1 S1 => by
      rw [List.map_map]
      refine lc_eqM (List.range u) (fun (i : Nat) => D.int (0 + (i : Int))) _ (rng1 (j := 0 + (u : Int)) (by (try simp -implicitDefEqProofs (disch := first | omega | (simp only [List.length_map, List.length_cons, List.length_nil, List.length_range, List.length_append, List.length_replicate]; omega)) only [DL.e_d, DL.e_op, DL.e_un, DL.e_test, DL.e_asB, DL.e_and, DL.e_or, DL.e_not, DL.e_if, DL.e_andV, DL.e_orV, DL.e_notV, DL.e_chain, DL.e_nil, DL.e_cons, DL.e_tup, DL.e_lst, DL.e_cb, DL.e_callK, DL.e_meth, DL.e_methP, DL.e_smeth, DL.e_cval, DL.e_fld, DL.e_prop, DL.e_star, DL.e_ps0, DL.e_ps, DL.e_dispK, DL.e_dispT, DL.e_dK0, DL.e_dT0, DL.e_frz, DL.e_no, DL.e_part, DL.e_sl, DL.s_set, DL.s_asg, DL.s_nx, DL.s_seq, DL.s_expr, DL.s_ret, DL.s_retN, DL.s_brk, DL.s_cont, DL.s_stuck, DL.s_ifS, DL.s_aug, DL.s_par, DL.s_par3, DL.s_setI, DL.s_fldS, DL.g_name_eq, DL.g_nil_eq, DL.g_cons_eq, DL.g_tup_eq, DL.v_add, DL.v_addI, DL.v_sub, DL.v_neg, DL.v_lt, DL.v_le, DL.v_gt, DL.v_ge, DL.v_eq, DL.v_isN, DL.v_tupcat, DL.Res.bind_ok, DL.Res.bindN_ok, DL.ret_rt, DL.ret_nx, DL.ev_v0, DL.ev_vs, DL.ev_a1, DL.ev_a2, DL.ev_a3, DL.ev_a4, List.set_cons_zero, List.set_cons_succ, decide_true, decide_false, Bool.not_true, Bool.not_false, if_true, Bool.false_eq_true, if_false, DL.e_cb, DL.e_yes, DL.wp_ok, DL.wp_bind, DL.wp_bindN, DL.wp_ret, DL.retQ_rt, DL.retQ_nx, DL.wp_fin, DL.FQ_nx, DL.FQ_ct, DL.FQ_bk, DL.FQ_rt, DL.addO_some, DL.addO_none, DL.isCon_self, DL.v_mulC, DL.v_fdivC, DL.v_modC, DL.ix_t0, DL.ix_t1, DL.ix_t2, DL.ix_l0, DL.ix_l1, DL.ix_l2, DL.isi_int_int, DL.isi_int_bool, DL.min2_eq, DL.max2_eq, DL.tup_f, DL.lst_f, DL.list_tup, DL.list_lst, DL.tuple_lst, DL.len_lst, DL.len_tup, DL.wipeE, DL.lcB, DL.cls_obj, DL.flds_obj, DL.isiO_obj, DL.v_augS, DL.v_methK, DL.v_makeK, DL.ev_a5, DL.ev_a6, DL.ev_a7, DL.v_mulB, eq_self, and_self, List.length_nil, List.length_cons, List.getElem?_cons_zero, List.getElem?_cons_succ, DL.list_tup_t, List.append_assoc, List.nil_append, List.cons_append])) ⟨by omega, by omega⟩ |>.trans (by rw [show (0 + (u : Int)).toNat = u by omega])) (by rw [List.length_range]; omega) ok_nil fun v hv => ?_
      (try simp -implicitDefEqProofs (disch := first | omega | (simp only [List.length_map, List.length_cons, List.length_nil, List.length_range, List.length_append, List.length_replicate]; omega)) only [DL.e_d, DL.e_op, DL.e_un, DL.e_test, DL.e_asB, DL.e_and, DL.e_or, DL.e_not, DL.e_if, DL.e_andV, DL.e_orV, DL.e_notV, DL.e_chain, DL.e_nil, DL.e_cons, DL.e_tup, DL.e_lst, DL.e_cb, DL.e_callK, DL.e_meth, DL.e_methP, DL.e_smeth, DL.e_cval, DL.e_fld, DL.e_prop, DL.e_star, DL.e_ps0, DL.e_ps, DL.e_dispK, DL.e_dispT, DL.e_dK0, DL.e_dT0, DL.e_frz, DL.e_no, DL.e_part, DL.e_sl, DL.s_set, DL.s_asg, DL.s_nx, DL.s_seq, DL.s_expr, DL.s_ret, DL.s_retN, DL.s_brk, DL.s_cont, DL.s_stuck, DL.s_ifS, DL.s_aug, DL.s_par, DL.s_par3, DL.s_setI, DL.s_fldS, DL.g_name_eq, DL.g_nil_eq, DL.g_cons_eq, DL.g_tup_eq, DL.v_add, DL.v_addI, DL.v_sub, DL.v_neg, DL.v_lt, DL.v_le, DL.v_gt, DL.v_ge, DL.v_eq, DL.v_isN, DL.v_tupcat, DL.Res.bind_ok, DL.Res.bindN_ok, DL.ret_rt, DL.ret_nx, DL.ev_v0, DL.ev_vs, DL.ev_a1, DL.ev_a2, DL.ev_a3, DL.ev_a4, List.set_cons_zero, List.set_cons_succ, decide_true, decide_false, Bool.not_true, Bool.not_false, if_true, Bool.false_eq_true, if_false, DL.e_cb, DL.e_yes, DL.wp_ok, DL.wp_bind, DL.wp_bindN, DL.wp_ret, DL.retQ_rt, DL.retQ_nx, DL.wp_fin, DL.FQ_nx, DL.FQ_ct, DL.FQ_bk, DL.FQ_rt, DL.addO_some, DL.addO_none, DL.isCon_self, DL.v_mulC, DL.v_fdivC, DL.v_modC, DL.ix_t0, DL.ix_t1, DL.ix_t2, DL.ix_l0, DL.ix_l1, DL.ix_l2, DL.isi_int_int, DL.isi_int_bool, DL.min2_eq, DL.max2_eq, DL.tup_f, DL.lst_f, DL.list_tup, DL.list_lst, DL.tuple_lst, DL.len_lst, DL.len_tup, DL.wipeE, DL.lcB, DL.cls_obj, DL.flds_obj, DL.isiO_obj, DL.v_augS, DL.v_methK, DL.v_makeK, DL.ev_a5, DL.ev_a6, DL.ev_a7, DL.v_mulB, eq_self, and_self, List.length_nil, List.length_cons, List.getElem?_cons_zero, List.getElem?_cons_succ, DL.list_tup_t, List.append_assoc, List.nil_append, List.cons_append])
      simp [prD]
    (try simp -implicitDefEqProofs (disch := first | omega | (simp only [List.length_map, List.length_cons, List.length_nil, List.length_range, List.length_append, List.length_replicate]; omega)) only [DL.e_d, DL.e_op, DL.e_un, DL.e_test, DL.e_asB, DL.e_and, DL.e_or, DL.e_not, DL.e_if, DL.e_andV, DL.e_orV, DL.e_notV, DL.e_chain, DL.e_nil, DL.e_cons, DL.e_tup, DL.e_lst, DL.e_cb, DL.e_callK, DL.e_meth, DL.e_methP, DL.e_smeth, DL.e_cval, DL.e_fld, DL.e_prop, DL.e_star, DL.e_ps0, DL.e_ps, DL.e_dispK, DL.e_dispT, DL.e_dK0, DL.e_dT0, DL.e_frz, DL.e_no, DL.e_part, DL.e_sl, DL.s_set, DL.s_asg, DL.s_nx, DL.s_seq, DL.s_expr, DL.s_ret, DL.s_retN, DL.s_brk, DL.s_cont, DL.s_stuck, DL.s_ifS, DL.s_aug, DL.s_par, DL.s_par3, DL.s_setI, DL.s_fldS, DL.g_name_eq, DL.g_nil_eq, DL.g_cons_eq, DL.g_tup_eq, DL.v_add, DL.v_addI, DL.v_sub, DL.v_neg, DL.v_lt, DL.v_le, DL.v_gt, DL.v_ge, DL.v_eq, DL.v_isN, DL.v_tupcat, DL.Res.bind_ok, DL.Res.bindN_ok, DL.ret_rt, DL.ret_nx, DL.ev_v0, DL.ev_vs, DL.ev_a1, DL.ev_a2, DL.ev_a3, DL.ev_a4, List.set_cons_zero, List.set_cons_succ, decide_true, decide_false, Bool.not_true, Bool.not_false, if_true, Bool.false_eq_true, if_false, DL.e_cb, DL.e_yes, DL.wp_ok, DL.wp_bind, DL.wp_bindN, DL.wp_ret, DL.retQ_rt, DL.retQ_nx, DL.wp_fin, DL.FQ_nx, DL.FQ_ct, DL.FQ_bk, DL.FQ_rt, DL.addO_some, DL.addO_none, DL.isCon_self, DL.v_mulC, DL.v_fdivC, DL.v_modC, DL.ix_t0, DL.ix_t1, DL.ix_t2, DL.ix_l0, DL.ix_l1, DL.ix_l2, DL.isi_int_int, DL.isi_int_bool, DL.min2_eq, DL.max2_eq, DL.tup_f, DL.lst_f, DL.list_tup, DL.list_lst, DL.tuple_lst, DL.len_lst, DL.len_tup, DL.wipeE, DL.lcB, DL.cls_obj, DL.flds_obj, DL.isiO_obj, DL.v_augS, DL.v_methK, DL.v_makeK, DL.ev_a5, DL.ev_a6, DL.ev_a7, DL.v_mulB, eq_self, and_self, List.length_nil, List.length_cons, List.getElem?_cons_zero, List.getElem?_cons_succ, DL.list_tup_t, List.append_assoc, List.nil_append, List.cons_append, hlc, isL_ref (S := S ++ [some (.lst (l.map prD))]) snoc_at, extend_ref (S := S ++ [some (.lst (l.map prD))]) snoc_at (show (l.map prD).length + (((List.range u).map fun v => (v, u)).map prD).length ≤ 1000000 by simp; omega), snoc_set])
    refine ⟨some (.int (0 + (u : Int))), l ++ (List.range u).map fun v => (v, u), rfl, by rw [List.map_append], ?_, ?_, ?_⟩
    · rw [List.nodup_append]
      refine ⟨hn, ?_, fun a ha b hb e => ?_⟩
      · exact List.pairwise_map.mpr (List.nodup_range.imp fun h e => h (by simpa using e))
      · obtain ⟨v, _, rfl⟩ := List.mem_map.mp hb
        have := (hl a ha).2
        rw [e] at this
        simp at this
        omega
    · have e : (pre.length + 1) * (pre.length + 1) = pre.length * pre.length + 2 * pre.length + 1 := by rw [Nat.mul_add, Nat.add_mul]; omega
      rw [List.length_append, List.length_append, List.length_map, List.length_range, List.length_singleton, e]
      omega
    · intro e he
      rw [List.length_append, List.length_singleton]
      rcases List.mem_append.mp he with he | he
      · have := hl e he
        omega
      · obtain ⟨v, hv, rfl⟩ := List.mem_map.mp he
        have := List.mem_range.mp hv
        simp
        omega
  · rintro ρ S' ⟨o2, l, rfl, rfl, hn, hc, hl⟩
    rw [List.length_range] at hc hl
    have hlen : n.toNat * n.toNat = n.toNat * (n.toNat - 1) + n.toNat := by
      obtain ⟨m, hm⟩ : ∃ m, n.toNat = m + 1 := ⟨n.toNat - 1, by omega⟩
      rw [hm, Nat.mul_succ]
      rfl
    have hlen2 : n.toNat * (n.toNat - 1) ≤ 24 * 23 := Nat.mul_le_mul (by omega) (by omega)
    obtain ⟨l', e, hp⟩ := sorted_prs (S := S ++ [some (.lst (l.map prD))]) (x := .ref S.length) (l := l) (by show collD _ _ = _; unfold collD; rw [items_ref snoc_at]) (by omega)
    (try simp -implicitDefEqProofs (disch := first | omega | (simp only [List.length_map, List.length_cons, List.length_nil, List.length_range, List.length_append, List.length_replicate]; omega)) only [DL.e_d, DL.e_op, DL.e_un, DL.e_test, DL.e_asB, DL.e_and, DL.e_or, DL.e_not, DL.e_if, DL.e_andV, DL.e_orV, DL.e_notV, DL.e_chain, DL.e_nil, DL.e_cons, DL.e_tup, DL.e_lst, DL.e_cb, DL.e_callK, DL.e_meth, DL.e_methP, DL.e_smeth, DL.e_cval, DL.e_fld, DL.e_prop, DL.e_star, DL.e_ps0, DL.e_ps, DL.e_dispK, DL.e_dispT, DL.e_dK0, DL.e_dT0, DL.e_frz, DL.e_no, DL.e_part, DL.e_sl, DL.s_set, DL.s_asg, DL.s_nx, DL.s_seq, DL.s_expr, DL.s_ret, DL.s_retN, DL.s_brk, DL.s_cont, DL.s_stuck, DL.s_ifS, DL.s_aug, DL.s_par, DL.s_par3, DL.s_setI, DL.s_fldS, DL.g_name_eq, DL.g_nil_eq, DL.g_cons_eq, DL.g_tup_eq, DL.v_add, DL.v_addI, DL.v_sub, DL.v_neg, DL.v_lt, DL.v_le, DL.v_gt, DL.v_ge, DL.v_eq, DL.v_isN, DL.v_tupcat, DL.Res.bind_ok, DL.Res.bindN_ok, DL.ret_rt, DL.ret_nx, DL.ev_v0, DL.ev_vs, DL.ev_a1, DL.ev_a2, DL.ev_a3, DL.ev_a4, List.set_cons_zero, List.set_cons_succ, decide_true, decide_false, Bool.not_true, Bool.not_false, if_true, Bool.false_eq_true, if_false, DL.e_cb, DL.e_yes, DL.wp_ok, DL.wp_bind, DL.wp_bindN, DL.wp_ret, DL.retQ_rt, DL.retQ_nx, DL.wp_fin, DL.FQ_nx, DL.FQ_ct, DL.FQ_bk, DL.FQ_rt, DL.addO_some, DL.addO_none, DL.isCon_self, DL.v_mulC, DL.v_fdivC, DL.v_modC, DL.ix_t0, DL.ix_t1, DL.ix_t2, DL.ix_l0, DL.ix_l1, DL.ix_l2, DL.isi_int_int, DL.isi_int_bool, DL.min2_eq, DL.max2_eq, DL.tup_f, DL.lst_f, DL.list_tup, DL.list_lst, DL.tuple_lst, DL.len_lst, DL.len_tup, DL.wipeE, DL.lcB, DL.cls_obj, DL.flds_obj, DL.isiO_obj, DL.v_augS, DL.v_methK, DL.v_makeK, DL.ev_a5, DL.ev_a6, DL.ev_a7, DL.v_mulB, eq_self, and_self, List.length_nil, List.length_cons, List.getElem?_cons_zero, List.getElem?_cons_succ, DL.list_tup_t, List.append_assoc, List.nil_append, List.cons_append, e])
    refine wp_fin_app ?_ ⟨rfl, l', rfl, hp.nodup_iff.mpr hn, by rw [hp.length_eq]; omega, fun e he => hl e (hp.mem_iff.mp he)⟩
    rw [refsLt]
    exact ltL_all fun d hd => by
      obtain ⟨i, _, rfl⟩ := List.mem_map.mp hd
      rfl
end
/-! ### tables -/
structure Pat (p n : Int) (pat : List (Int × Int × Int)) : Prop where
  len : pat.length ≤ 276
  ok : ∀ e ∈ pat, 0 ≤ e.1 ∧ e.1 < e.2.1 ∧ e.2.1 < n ∧ Amt p e.2.2
  nd : pat.Pairwise fun e f => (e.1, e.2.1) ≠ (f.1, f.2.1)
theorem Pat.sub {p n : Int} {pat pat' : List (Int × Int × Int)} (h : Pat p n pat) (s : pat'.Sublist pat) : Pat p n pat' :=
  ⟨Nat.le_trans s.length_le h.len, fun e he => h.ok e (s.subset he), h.nd.sublist s⟩
section
variable {G : Gx} {S : Sto} {p n k : Int}
theorem law_table_wp {j : Nat} (w : Sc p n k) (h : SkE j S) (hn : j < 2 ^ 18) : wp (mp__law_table G [.ref 1, plan p n k] S) fun d S' => ∃ pat : List (Int × Int × Int), d = .tup (pat.map entD) ∧ Pat p n pat ∧ SkE (j + 1200) S' ∧ Sm S S' := by
  have w0 := w.n0
  have w1 := w.n1
  obtain ⟨T, hT⟩ := h.tail
  rw [mp__law_table, ev_a2, m__law_table, fnR_eq]
  show wp (ret S (c__law_table G [some (.ref 1), some (plan p n k), none, none, none] S)) _
  unfold c__law_table
  (try simp -implicitDefEqProofs (disch := first | omega | (simp only [List.length_map, List.length_cons, List.length_nil, List.length_range, List.length_append, List.length_replicate]; omega)) only [DL.e_d, DL.e_op, DL.e_un, DL.e_test, DL.e_asB, DL.e_and, DL.e_or, DL.e_not, DL.e_if, DL.e_andV, DL.e_orV, DL.e_notV, DL.e_chain, DL.e_nil, DL.e_cons, DL.e_tup, DL.e_lst, DL.e_cb, DL.e_callK, DL.e_meth, DL.e_methP, DL.e_smeth, DL.e_cval, DL.e_fld, DL.e_prop, DL.e_star, DL.e_ps0, DL.e_ps, DL.e_dispK, DL.e_dispT, DL.e_dK0, DL.e_dT0, DL.e_frz, DL.e_no, DL.e_part, DL.e_sl, DL.s_set, DL.s_asg, DL.s_nx, DL.s_seq, DL.s_expr, DL.s_ret, DL.s_retN, DL.s_brk, DL.s_cont, DL.s_stuck, DL.s_ifS, DL.s_aug, DL.s_par, DL.s_par3, DL.s_setI, DL.s_fldS, DL.g_name_eq, DL.g_nil_eq, DL.g_cons_eq, DL.g_tup_eq, DL.v_add, DL.v_addI, DL.v_sub, DL.v_neg, DL.v_lt, DL.v_le, DL.v_gt, DL.v_ge, DL.v_eq, DL.v_isN, DL.v_tupcat, DL.Res.bind_ok, DL.Res.bindN_ok, DL.ret_rt, DL.ret_nx, DL.ev_v0, DL.ev_vs, DL.ev_a1, DL.ev_a2, DL.ev_a3, DL.ev_a4, List.set_cons_zero, List.set_cons_succ, decide_true, decide_false, Bool.not_true, Bool.not_false, if_true, Bool.false_eq_true, if_false, DL.e_cb, DL.e_yes, DL.wp_ok, DL.wp_bind, DL.wp_bindN, DL.wp_ret, DL.retQ_rt, DL.retQ_nx, DL.wp_fin, DL.FQ_nx, DL.FQ_ct, DL.FQ_bk, DL.FQ_rt, DL.addO_some, DL.addO_none, DL.isCon_self, DL.v_mulC, DL.v_fdivC, DL.v_modC, DL.ix_t0, DL.ix_t1, DL.ix_t2, DL.ix_l0, DL.ix_l1, DL.ix_l2, DL.isi_int_int, DL.isi_int_bool, DL.min2_eq, DL.max2_eq, DL.tup_f, DL.lst_f, DL.list_tup, DL.list_lst, DL.tuple_lst, DL.len_lst, DL.len_tup, DL.wipeE, DL.lcB, DL.cls_obj, DL.flds_obj, DL.isiO_obj, DL.v_augS, DL.v_methK, DL.v_makeK, DL.ev_a5, DL.ev_a6, DL.ev_a7, DL.v_mulB, eq_self, and_self, List.length_nil, List.length_cons, List.getElem?_cons_zero, List.getElem?_cons_succ, DL.list_tup_t, List.append_assoc, List.nil_append, List.cons_append])
  refine wp_of (draw_wp (b := 5) h (by omega) (by omega) (by omega)) ?_
  rintro _ S1 ⟨v, rfl, v0, v1, h1, s1⟩
  have hT1 := hT.to h1 s1
  (try simp -implicitDefEqProofs (disch := first | omega | (simp only [List.length_map, List.length_cons, List.length_nil, List.length_range, List.length_append, List.length_replicate]; omega)) only [DL.e_d, DL.e_op, DL.e_un, DL.e_test, DL.e_asB, DL.e_and, DL.e_or, DL.e_not, DL.e_if, DL.e_andV, DL.e_orV, DL.e_notV, DL.e_chain, DL.e_nil, DL.e_cons, DL.e_tup, DL.e_lst, DL.e_cb, DL.e_callK, DL.e_meth, DL.e_methP, DL.e_smeth, DL.e_cval, DL.e_fld, DL.e_prop, DL.e_star, DL.e_ps0, DL.e_ps, DL.e_dispK, DL.e_dispT, DL.e_dK0, DL.e_dT0, DL.e_frz, DL.e_no, DL.e_part, DL.e_sl, DL.s_set, DL.s_asg, DL.s_nx, DL.s_seq, DL.s_expr, DL.s_ret, DL.s_retN, DL.s_brk, DL.s_cont, DL.s_stuck, DL.s_ifS, DL.s_aug, DL.s_par, DL.s_par3, DL.s_setI, DL.s_fldS, DL.g_name_eq, DL.g_nil_eq, DL.g_cons_eq, DL.g_tup_eq, DL.v_add, DL.v_addI, DL.v_sub, DL.v_neg, DL.v_lt, DL.v_le, DL.v_gt, DL.v_ge, DL.v_eq, DL.v_isN, DL.v_tupcat, DL.Res.bind_ok, DL.Res.bindN_ok, DL.ret_rt, DL.ret_nx, DL.ev_v0, DL.ev_vs, DL.ev_a1, DL.ev_a2, DL.ev_a3, DL.ev_a4, List.set_cons_zero, List.set_cons_succ, decide_true, decide_false, Bool.not_true, Bool.not_false, if_true, Bool.false_eq_true, if_false, DL.e_cb, DL.e_yes, DL.wp_ok, DL.wp_bind, DL.wp_bindN, DL.wp_ret, DL.retQ_rt, DL.retQ_nx, DL.wp_fin, DL.FQ_nx, DL.FQ_ct, DL.FQ_bk, DL.FQ_rt, DL.addO_some, DL.addO_none, DL.isCon_self, DL.v_mulC, DL.v_fdivC, DL.v_modC, DL.ix_t0, DL.ix_t1, DL.ix_t2, DL.ix_l0, DL.ix_l1, DL.ix_l2, DL.isi_int_int, DL.isi_int_bool, DL.min2_eq, DL.max2_eq, DL.tup_f, DL.lst_f, DL.list_tup, DL.list_lst, DL.tuple_lst, DL.len_lst, DL.len_tup, DL.wipeE, DL.lcB, DL.cls_obj, DL.flds_obj, DL.isiO_obj, DL.v_augS, DL.v_methK, DL.v_makeK, DL.ev_a5, DL.ev_a6, DL.ev_a7, DL.v_mulB, eq_self, and_self, List.length_nil, List.length_cons, List.getElem?_cons_zero, List.getElem?_cons_succ, DL.list_tup_t, List.append_assoc, List.nil_append, List.cons_append, lst_t (S := S1) (show ([] : List D).length ≤ 1000000 by simp)])
  rw [hT1.len]
  have hlen0 := hT1.len
  obtain ⟨l, hc, hnd, hlen, hl⟩ : ∃ l : List (Nat × Nat), c_it (c_cb (mp__law_all_pairs G) (c_cons (c_var 1) c_nil)) [some (.ref 1), some (plan p n k), some (.int (1 + v)), some (.ref (T.length + 2)), none] (S1 ++ [some (.lst [])]) = .ok ⟨l.map prD, [(.lst (l.map prD), l.map prD)]⟩ (S1 ++ [some (.lst [])]) ∧ l.Nodup ∧ l.length ≤ 276 ∧ ∀ e ∈ l, e.1 < e.2 ∧ e.2 < n.toNat := by
    obtain ⟨d, S', e, rfl, l, rfl, h1, h2, h3⟩ := wp_ex (all_pairs_wp (G := G) (S := S1 ++ [some (.lst [])]) w)
    exact ⟨l, it_eq (by (try simp -implicitDefEqProofs (disch := first | omega | (simp only [List.length_map, List.length_cons, List.length_nil, List.length_range, List.length_append, List.length_replicate]; omega)) only [DL.e_d, DL.e_op, DL.e_un, DL.e_test, DL.e_asB, DL.e_and, DL.e_or, DL.e_not, DL.e_if, DL.e_andV, DL.e_orV, DL.e_notV, DL.e_chain, DL.e_nil, DL.e_cons, DL.e_tup, DL.e_lst, DL.e_cb, DL.e_callK, DL.e_meth, DL.e_methP, DL.e_smeth, DL.e_cval, DL.e_fld, DL.e_prop, DL.e_star, DL.e_ps0, DL.e_ps, DL.e_dispK, DL.e_dispT, DL.e_dK0, DL.e_dT0, DL.e_frz, DL.e_no, DL.e_part, DL.e_sl, DL.s_set, DL.s_asg, DL.s_nx, DL.s_seq, DL.s_expr, DL.s_ret, DL.s_retN, DL.s_brk, DL.s_cont, DL.s_stuck, DL.s_ifS, DL.s_aug, DL.s_par, DL.s_par3, DL.s_setI, DL.s_fldS, DL.g_name_eq, DL.g_nil_eq, DL.g_cons_eq, DL.g_tup_eq, DL.v_add, DL.v_addI, DL.v_sub, DL.v_neg, DL.v_lt, DL.v_le, DL.v_gt, DL.v_ge, DL.v_eq, DL.v_isN, DL.v_tupcat, DL.Res.bind_ok, DL.Res.bindN_ok, DL.ret_rt, DL.ret_nx, DL.ev_v0, DL.ev_vs, DL.ev_a1, DL.ev_a2, DL.ev_a3, DL.ev_a4, List.set_cons_zero, List.set_cons_succ, decide_true, decide_false, Bool.not_true, Bool.not_false, if_true, Bool.false_eq_true, if_false, DL.e_cb, DL.e_yes, DL.wp_ok, DL.wp_bind, DL.wp_bindN, DL.wp_ret, DL.retQ_rt, DL.retQ_nx, DL.wp_fin, DL.FQ_nx, DL.FQ_ct, DL.FQ_bk, DL.FQ_rt, DL.addO_some, DL.addO_none, DL.isCon_self, DL.v_mulC, DL.v_fdivC, DL.v_modC, DL.ix_t0, DL.ix_t1, DL.ix_t2, DL.ix_l0, DL.ix_l1, DL.ix_l2, DL.isi_int_int, DL.isi_int_bool, DL.min2_eq, DL.max2_eq, DL.tup_f, DL.lst_f, DL.list_tup, DL.list_lst, DL.tuple_lst, DL.len_lst, DL.len_tup, DL.wipeE, DL.lcB, DL.cls_obj, DL.flds_obj, DL.isiO_obj, DL.v_augS, DL.v_methK, DL.v_makeK, DL.ev_a5, DL.ev_a6, DL.ev_a7, DL.v_mulB, eq_self, and_self, List.length_nil, List.length_cons, List.getElem?_cons_zero, List.getElem?_cons_succ, DL.list_tup_t, List.append_assoc, List.nil_append, List.cons_append, e])) rfl, h1, h2, h3⟩
  refine wp_for l prD (fun pre ρ S' => ∃ o4 pat, ρ = [some (.ref 1), some (plan p n k), some (.int (1 + v)), some (.ref (T.length + 2)), o4] ∧ Sk (j + 1 + 4 * pre.length) (T ++ [some (.lst (pat.map entD))]) S' ∧ pat.length ≤ pre.length ∧ (∀ e ∈ pat, 0 ≤ e.1 ∧ e.1 < e.2.1 ∧ e.2.1 < n ∧ Amt p e.2.2) ∧ (pat.Pairwise fun e f => (e.1, e.2.1) ≠ (f.1, f.2.1)) ∧ ∀ e ∈ pat, ∃ q ∈ pre, e.1 = (q.1 : Int) ∧ e.2.1 = (q.2 : Int)) hc (fun _ _ _ _ => ok_one rfl) ⟨none, [], rfl, hT1.app, by simp, by simp, List.Pairwise.nil, by simp⟩ ?_ ?_
  · rintro pre ⟨a, b⟩ post ρ S' hr ⟨o4, pat, rfl, hk, hpl, hok, hpw, hq⟩
    have hpre : pre.length < 276 := by
      have := congrArg List.length hr
      simp at this
      omega
    obtain ⟨ab, bn⟩ := hl (a, b) (by rw [hr]; simp)
    (try simp -implicitDefEqProofs (disch := first | omega | (simp only [List.length_map, List.length_cons, List.length_nil, List.length_range, List.length_append, List.length_replicate]; omega)) only [DL.e_d, DL.e_op, DL.e_un, DL.e_test, DL.e_asB, DL.e_and, DL.e_or, DL.e_not, DL.e_if, DL.e_andV, DL.e_orV, DL.e_notV, DL.e_chain, DL.e_nil, DL.e_cons, DL.e_tup, DL.e_lst, DL.e_cb, DL.e_callK, DL.e_meth, DL.e_methP, DL.e_smeth, DL.e_cval, DL.e_fld, DL.e_prop, DL.e_star, DL.e_ps0, DL.e_ps, DL.e_dispK, DL.e_dispT, DL.e_dK0, DL.e_dT0, DL.e_frz, DL.e_no, DL.e_part, DL.e_sl, DL.s_set, DL.s_asg, DL.s_nx, DL.s_seq, DL.s_expr, DL.s_ret, DL.s_retN, DL.s_brk, DL.s_cont, DL.s_stuck, DL.s_ifS, DL.s_aug, DL.s_par, DL.s_par3, DL.s_setI, DL.s_fldS, DL.g_name_eq, DL.g_nil_eq, DL.g_cons_eq, DL.g_tup_eq, DL.v_add, DL.v_addI, DL.v_sub, DL.v_neg, DL.v_lt, DL.v_le, DL.v_gt, DL.v_ge, DL.v_eq, DL.v_isN, DL.v_tupcat, DL.Res.bind_ok, DL.Res.bindN_ok, DL.ret_rt, DL.ret_nx, DL.ev_v0, DL.ev_vs, DL.ev_a1, DL.ev_a2, DL.ev_a3, DL.ev_a4, List.set_cons_zero, List.set_cons_succ, decide_true, decide_false, Bool.not_true, Bool.not_false, if_true, Bool.false_eq_true, if_false, DL.e_cb, DL.e_yes, DL.wp_ok, DL.wp_bind, DL.wp_bindN, DL.wp_ret, DL.retQ_rt, DL.retQ_nx, DL.wp_fin, DL.FQ_nx, DL.FQ_ct, DL.FQ_bk, DL.FQ_rt, DL.addO_some, DL.addO_none, DL.isCon_self, DL.v_mulC, DL.v_fdivC, DL.v_modC, DL.ix_t0, DL.ix_t1, DL.ix_t2, DL.ix_l0, DL.ix_l1, DL.ix_l2, DL.isi_int_int, DL.isi_int_bool, DL.min2_eq, DL.max2_eq, DL.tup_f, DL.lst_f, DL.list_tup, DL.list_lst, DL.tuple_lst, DL.len_lst, DL.len_tup, DL.wipeE, DL.lcB, DL.cls_obj, DL.flds_obj, DL.isiO_obj, DL.v_augS, DL.v_methK, DL.v_makeK, DL.ev_a5, DL.ev_a6, DL.ev_a7, DL.v_mulB, eq_self, and_self, List.length_nil, List.length_cons, List.getElem?_cons_zero, List.getElem?_cons_succ, DL.list_tup_t, List.append_assoc, List.nil_append, List.cons_append])
    refine wp_of (draw_wp (b := 1 + v) hk.e (by omega) (by omega) (by omega)) ?_
    rintro _ S2 ⟨u, rfl, u0, u1, h2, s2⟩
    have hk2 := hk.to h2 s2
    by_cases hu : u = 0
    · subst hu
      (try simp -implicitDefEqProofs (disch := first | omega | (simp only [List.length_map, List.length_cons, List.length_nil, List.length_range, List.length_append, List.length_replicate]; omega)) only [DL.e_d, DL.e_op, DL.e_un, DL.e_test, DL.e_asB, DL.e_and, DL.e_or, DL.e_not, DL.e_if, DL.e_andV, DL.e_orV, DL.e_notV, DL.e_chain, DL.e_nil, DL.e_cons, DL.e_tup, DL.e_lst, DL.e_cb, DL.e_callK, DL.e_meth, DL.e_methP, DL.e_smeth, DL.e_cval, DL.e_fld, DL.e_prop, DL.e_star, DL.e_ps0, DL.e_ps, DL.e_dispK, DL.e_dispT, DL.e_dK0, DL.e_dT0, DL.e_frz, DL.e_no, DL.e_part, DL.e_sl, DL.s_set, DL.s_asg, DL.s_nx, DL.s_seq, DL.s_expr, DL.s_ret, DL.s_retN, DL.s_brk, DL.s_cont, DL.s_stuck, DL.s_ifS, DL.s_aug, DL.s_par, DL.s_par3, DL.s_setI, DL.s_fldS, DL.g_name_eq, DL.g_nil_eq, DL.g_cons_eq, DL.g_tup_eq, DL.v_add, DL.v_addI, DL.v_sub, DL.v_neg, DL.v_lt, DL.v_le, DL.v_gt, DL.v_ge, DL.v_eq, DL.v_isN, DL.v_tupcat, DL.Res.bind_ok, DL.Res.bindN_ok, DL.ret_rt, DL.ret_nx, DL.ev_v0, DL.ev_vs, DL.ev_a1, DL.ev_a2, DL.ev_a3, DL.ev_a4, List.set_cons_zero, List.set_cons_succ, decide_true, decide_false, Bool.not_true, Bool.not_false, if_true, Bool.false_eq_true, if_false, DL.e_cb, DL.e_yes, DL.wp_ok, DL.wp_bind, DL.wp_bindN, DL.wp_ret, DL.retQ_rt, DL.retQ_nx, DL.wp_fin, DL.FQ_nx, DL.FQ_ct, DL.FQ_bk, DL.FQ_rt, DL.addO_some, DL.addO_none, DL.isCon_self, DL.v_mulC, DL.v_fdivC, DL.v_modC, DL.ix_t0, DL.ix_t1, DL.ix_t2, DL.ix_l0, DL.ix_l1, DL.ix_l2, DL.isi_int_int, DL.isi_int_bool, DL.min2_eq, DL.max2_eq, DL.tup_f, DL.lst_f, DL.list_tup, DL.list_lst, DL.tuple_lst, DL.len_lst, DL.len_tup, DL.wipeE, DL.lcB, DL.cls_obj, DL.flds_obj, DL.isiO_obj, DL.v_augS, DL.v_methK, DL.v_makeK, DL.ev_a5, DL.ev_a6, DL.ev_a7, DL.v_mulB, eq_self, and_self, List.length_nil, List.length_cons, List.getElem?_cons_zero, List.getElem?_cons_succ, DL.list_tup_t, List.append_assoc, List.nil_append, List.cons_append, isL_ref hk2.at1])
      refine wp_of (law_amount_wp w hk2.e (by omega)) ?_
      rintro _ S3 ⟨z, rfl, hz, h3, s3⟩
      have hk3 := hk2.to h3 s3
      have ha := hk3.at1
      have e : entD ((a : Int), (b : Int), z) = .tup [prD (a, b), .int z] := rfl
      (try simp -implicitDefEqProofs (disch := first | omega | (simp only [List.length_map, List.length_cons, List.length_nil, List.length_range, List.length_append, List.length_replicate]; omega)) only [DL.e_d, DL.e_op, DL.e_un, DL.e_test, DL.e_asB, DL.e_and, DL.e_or, DL.e_not, DL.e_if, DL.e_andV, DL.e_orV, DL.e_notV, DL.e_chain, DL.e_nil, DL.e_cons, DL.e_tup, DL.e_lst, DL.e_cb, DL.e_callK, DL.e_meth, DL.e_methP, DL.e_smeth, DL.e_cval, DL.e_fld, DL.e_prop, DL.e_star, DL.e_ps0, DL.e_ps, DL.e_dispK, DL.e_dispT, DL.e_dK0, DL.e_dT0, DL.e_frz, DL.e_no, DL.e_part, DL.e_sl, DL.s_set, DL.s_asg, DL.s_nx, DL.s_seq, DL.s_expr, DL.s_ret, DL.s_retN, DL.s_brk, DL.s_cont, DL.s_stuck, DL.s_ifS, DL.s_aug, DL.s_par, DL.s_par3, DL.s_setI, DL.s_fldS, DL.g_name_eq, DL.g_nil_eq, DL.g_cons_eq, DL.g_tup_eq, DL.v_add, DL.v_addI, DL.v_sub, DL.v_neg, DL.v_lt, DL.v_le, DL.v_gt, DL.v_ge, DL.v_eq, DL.v_isN, DL.v_tupcat, DL.Res.bind_ok, DL.Res.bindN_ok, DL.ret_rt, DL.ret_nx, DL.ev_v0, DL.ev_vs, DL.ev_a1, DL.ev_a2, DL.ev_a3, DL.ev_a4, List.set_cons_zero, List.set_cons_succ, decide_true, decide_false, Bool.not_true, Bool.not_false, if_true, Bool.false_eq_true, if_false, DL.e_cb, DL.e_yes, DL.wp_ok, DL.wp_bind, DL.wp_bindN, DL.wp_ret, DL.retQ_rt, DL.retQ_nx, DL.wp_fin, DL.FQ_nx, DL.FQ_ct, DL.FQ_bk, DL.FQ_rt, DL.addO_some, DL.addO_none, DL.isCon_self, DL.v_mulC, DL.v_fdivC, DL.v_modC, DL.ix_t0, DL.ix_t1, DL.ix_t2, DL.ix_l0, DL.ix_l1, DL.ix_l2, DL.isi_int_int, DL.isi_int_bool, DL.min2_eq, DL.max2_eq, DL.tup_f, DL.lst_f, DL.list_tup, DL.list_lst, DL.tuple_lst, DL.len_lst, DL.len_tup, DL.wipeE, DL.lcB, DL.cls_obj, DL.flds_obj, DL.isiO_obj, DL.v_augS, DL.v_methK, DL.v_makeK, DL.ev_a5, DL.ev_a6, DL.ev_a7, DL.v_mulB, eq_self, and_self, List.length_nil, List.length_cons, List.getElem?_cons_zero, List.getElem?_cons_succ, DL.list_tup_t, List.append_assoc, List.nil_append, List.cons_append, append_ref ha (y := .tup [prD (a, b), .int z]) (by rw [List.length_map]; omega)])
      refine ⟨some (prD (a, b)), pat ++ [((a : Int), (b : Int), z)], rfl, ?_, ?_, ?_, ?_, ?_⟩
      · rw [List.map_append, List.map_cons, List.map_nil, e]
        refine (hk3.set1 _).mono ?_
        rw [List.length_append, List.length_singleton]
        omega
      · rw [List.length_append, List.length_append, List.length_singleton, List.length_singleton]
        omega
      · intro x hx
        rcases List.mem_append.mp hx with hx | hx
        · exact hok x hx
        · obtain rfl : x = ((a : Int), (b : Int), z) := by simpa using hx
          exact ⟨Int.natCast_nonneg _, by show (a : Int) < b; omega, by show (b : Int) < n; omega, hz⟩
      · refine List.pairwise_append.mpr ⟨hpw, List.pairwise_singleton _ _, fun x hx y hy => ?_⟩
        obtain rfl : y = ((a : Int), (b : Int), z) := by simpa using hy
        obtain ⟨q, hq1, hq2, hq3⟩ := hq x hx
        intro hxy
        have e1 : x.1 = (a : Int) := congrArg Prod.fst hxy
        have e2 : x.2.1 = (b : Int) := congrArg Prod.snd hxy
        have : q = (a, b) := Prod.ext (by show q.1 = a; omega) (by show q.2 = b; omega)
        rw [hr] at hnd
        have := (List.nodup_append.mp hnd).2.2 q hq1 (a, b) (List.mem_cons_self ..)
        contradiction
      · intro x hx
        rcases List.mem_append.mp hx with hx | hx
        · obtain ⟨q, hq1, hq2⟩ := hq x hx
          exact ⟨q, List.mem_append_left _ hq1, hq2⟩
        · obtain rfl : x = ((a : Int), (b : Int), z) := by simpa using hx
          exact ⟨(a, b), by simp, rfl, rfl⟩
    · (try simp -implicitDefEqProofs (disch := first | omega | (simp only [List.length_map, List.length_cons, List.length_nil, List.length_range, List.length_append, List.length_replicate]; omega)) only [DL.e_d, DL.e_op, DL.e_un, DL.e_test, DL.e_asB, DL.e_and, DL.e_or, DL.e_not, DL.e_if, DL.e_andV, DL.e_orV, DL.e_notV, DL.e_chain, DL.e_nil, DL.e_cons, DL.e_tup, DL.e_lst, DL.e_cb, DL.e_callK, DL.e_meth, DL.e_methP, DL.e_smeth, DL.e_cval, DL.e_fld, DL.e_prop, DL.e_star, DL.e_ps0, DL.e_ps, DL.e_dispK, DL.e_dispT, DL.e_dK0, DL.e_dT0, DL.e_frz, DL.e_no, DL.e_part, DL.e_sl, DL.s_set, DL.s_asg, DL.s_nx, DL.s_seq, DL.s_expr, DL.s_ret, DL.s_retN, DL.s_brk, DL.s_cont, DL.s_stuck, DL.s_ifS, DL.s_aug, DL.s_par, DL.s_par3, DL.s_setI, DL.s_fldS, DL.g_name_eq, DL.g_nil_eq, DL.g_cons_eq, DL.g_tup_eq, DL.v_add, DL.v_addI, DL.v_sub, DL.v_neg, DL.v_lt, DL.v_le, DL.v_gt, DL.v_ge, DL.v_eq, DL.v_isN, DL.v_tupcat, DL.Res.bind_ok, DL.Res.bindN_ok, DL.ret_rt, DL.ret_nx, DL.ev_v0, DL.ev_vs, DL.ev_a1, DL.ev_a2, DL.ev_a3, DL.ev_a4, List.set_cons_zero, List.set_cons_succ, decide_true, decide_false, Bool.not_true, Bool.not_false, if_true, Bool.false_eq_true, if_false, DL.e_cb, DL.e_yes, DL.wp_ok, DL.wp_bind, DL.wp_bindN, DL.wp_ret, DL.retQ_rt, DL.retQ_nx, DL.wp_fin, DL.FQ_nx, DL.FQ_ct, DL.FQ_bk, DL.FQ_rt, DL.addO_some, DL.addO_none, DL.isCon_self, DL.v_mulC, DL.v_fdivC, DL.v_modC, DL.ix_t0, DL.ix_t1, DL.ix_t2, DL.ix_l0, DL.ix_l1, DL.ix_l2, DL.isi_int_int, DL.isi_int_bool, DL.min2_eq, DL.max2_eq, DL.tup_f, DL.lst_f, DL.list_tup, DL.list_lst, DL.tuple_lst, DL.len_lst, DL.len_tup, DL.wipeE, DL.lcB, DL.cls_obj, DL.flds_obj, DL.isiO_obj, DL.v_augS, DL.v_methK, DL.v_makeK, DL.ev_a5, DL.ev_a6, DL.ev_a7, DL.v_mulB, eq_self, and_self, List.length_nil, List.length_cons, List.getElem?_cons_zero, List.getElem?_cons_succ, DL.list_tup_t, List.append_assoc, List.nil_append, List.cons_append, hu])
      refine ⟨some (prD (a, b)), pat, rfl, hk2.mono (by rw [List.length_append, List.length_singleton]; omega), by rw [List.length_append]; omega, hok, hpw, fun x hx => ?_⟩
      obtain ⟨q, hq1, hq2⟩ := hq x hx
      exact ⟨q, List.mem_append_left _ hq1, hq2⟩
  · rintro ρ S' ⟨o4, pat, rfl, hk, hpl, hok, hpw, hq⟩
    have ht : p_tuple [.ref (T.length + 2)] S' = .ok (.tup (pat.map entD)) S' := by
      show (match itemsOf (.ref (T.length + 2)) S' with
        | some es => p_tup es S'
        | none => .stuck) = _
      rw [items_ref hk.at1]
      exact tup_f (by rw [List.length_map]; omega)
    (try simp -implicitDefEqProofs (disch := first | omega | (simp only [List.length_map, List.length_cons, List.length_nil, List.length_range, List.length_append, List.length_replicate]; omega)) only [DL.e_d, DL.e_op, DL.e_un, DL.e_test, DL.e_asB, DL.e_and, DL.e_or, DL.e_not, DL.e_if, DL.e_andV, DL.e_orV, DL.e_notV, DL.e_chain, DL.e_nil, DL.e_cons, DL.e_tup, DL.e_lst, DL.e_cb, DL.e_callK, DL.e_meth, DL.e_methP, DL.e_smeth, DL.e_cval, DL.e_fld, DL.e_prop, DL.e_star, DL.e_ps0, DL.e_ps, DL.e_dispK, DL.e_dispT, DL.e_dK0, DL.e_dT0, DL.e_frz, DL.e_no, DL.e_part, DL.e_sl, DL.s_set, DL.s_asg, DL.s_nx, DL.s_seq, DL.s_expr, DL.s_ret, DL.s_retN, DL.s_brk, DL.s_cont, DL.s_stuck, DL.s_ifS, DL.s_aug, DL.s_par, DL.s_par3, DL.s_setI, DL.s_fldS, DL.g_name_eq, DL.g_nil_eq, DL.g_cons_eq, DL.g_tup_eq, DL.v_add, DL.v_addI, DL.v_sub, DL.v_neg, DL.v_lt, DL.v_le, DL.v_gt, DL.v_ge, DL.v_eq, DL.v_isN, DL.v_tupcat, DL.Res.bind_ok, DL.Res.bindN_ok, DL.ret_rt, DL.ret_nx, DL.ev_v0, DL.ev_vs, DL.ev_a1, DL.ev_a2, DL.ev_a3, DL.ev_a4, List.set_cons_zero, List.set_cons_succ, decide_true, decide_false, Bool.not_true, Bool.not_false, if_true, Bool.false_eq_true, if_false, DL.e_cb, DL.e_yes, DL.wp_ok, DL.wp_bind, DL.wp_bindN, DL.wp_ret, DL.retQ_rt, DL.retQ_nx, DL.wp_fin, DL.FQ_nx, DL.FQ_ct, DL.FQ_bk, DL.FQ_rt, DL.addO_some, DL.addO_none, DL.isCon_self, DL.v_mulC, DL.v_fdivC, DL.v_modC, DL.ix_t0, DL.ix_t1, DL.ix_t2, DL.ix_l0, DL.ix_l1, DL.ix_l2, DL.isi_int_int, DL.isi_int_bool, DL.min2_eq, DL.max2_eq, DL.tup_f, DL.lst_f, DL.list_tup, DL.list_lst, DL.tuple_lst, DL.len_lst, DL.len_tup, DL.wipeE, DL.lcB, DL.cls_obj, DL.flds_obj, DL.isiO_obj, DL.v_augS, DL.v_methK, DL.v_makeK, DL.ev_a5, DL.ev_a6, DL.ev_a7, DL.v_mulB, eq_self, and_self, List.length_nil, List.length_cons, List.getElem?_cons_zero, List.getElem?_cons_succ, DL.list_tup_t, List.append_assoc, List.nil_append, List.cons_append, ht])
    refine wp_sk_fin hT hk ?_ fun S2 h2 => ⟨pat, rfl, ⟨by omega, hok, hpw⟩, (h2.mono (by omega)).e, hT.sm h2⟩
    rw [refsLt]
    exact ltL_all fun d hd => by
      obtain ⟨i, _, rfl⟩ := List.mem_map.mp hd
      rfl
end
end K07

set_option Elab.async false
set_option linter.all false
set_option maxRecDepth 100000
set_option maxHeartbeats 4000000
namespace K07
open PySem PySem.Spec PyProof.Rows L2 DL
/-! ### the law's own ledger -/
theorem cmulC {i j : Int} (h1 : -(2 ^ 400) < i) (h2 : i < 2 ^ 400) (h3 : -(2 ^ 20) < j) (h4 : j < 2 ^ 20) : CMulW i j :=
  wide_mul (a := 400) (b := 20) (by omega) (by omega) (by decide) (by decide) (by decide)
theorem v_mulX {b : Bool} {i j : Int} {S : Sto} (h1 : -(2 ^ 400) < i) (h2 : i < 2 ^ 400) (h3 : -(2 ^ 20) < j) (h4 : j < 2 ^ 20) : p_mul b (.int i) (.int j) S = .ok (.int (i * j)) S := by
  rw [DL.v_mul, if_pos (cmulC h1 h2 h3 h4)]
/-- the plain sum -/
def pof (n : Int) (pat : List (Int × Int × Int)) (i : Nat) : Int := (pat.map fun e => e.2.2 * (1 + e.1 * n + e.2.1) ^ i).sum
theorem pw_bound {a nm C : Int} (ha : -C < a) (ha2 : a < C) (h0 : 0 ≤ nm) (h1 : nm ≤ 1024) : ∀ i : Nat, -(C * 1024 ^ i) < a * nm ^ i ∧ a * nm ^ i < C * 1024 ^ i
  | 0 => by
    rw [Int.pow_zero, Int.pow_zero, Int.mul_one, Int.mul_one]
    exact ⟨ha, ha2⟩
  | i + 1 => by
    obtain ⟨b1, b2⟩ := pw_bound ha ha2 h0 h1 i
    rw [Int.pow_succ, Int.pow_succ, ← Int.mul_assoc, ← Int.mul_assoc]
    generalize a * nm ^ i = x at *
    generalize C * 1024 ^ i = y at *
    have hy : 0 < y := by omega
    have h3 : y * nm ≤ y * 1024 := Int.mul_le_mul_of_nonneg_left h1 (by omega)
    by_cases hn : nm = 0
    · subst hn
      omega
    · have h4 : (-y + 1) * nm ≤ x * nm := Int.mul_le_mul_of_nonneg_right (by omega) h0
      have h5 : x * nm ≤ (y - 1) * nm := Int.mul_le_mul_of_nonneg_right (by omega) h0
      rw [Int.add_mul, Int.neg_mul] at h4
      rw [Int.sub_mul] at h5
      omega
theorem pw24 {i : Nat} (h : i ≤ 24) : (2 : Int) ^ 31 * 1024 ^ i ≤ 2 ^ 400 := by
  have : ∀ i : Fin 25, (2 : Int) ^ 31 * 1024 ^ i.val ≤ 2 ^ 400 := by decide +kernel
  exact this ⟨i, by omega⟩
section
variable {G : Gx} {S : Sto} {p n k : Int}
theorem law_ledger_eq (w : Sc p n k) {pat : List (Int × Int × Int)} (hp : Pat p n pat) : m__law_ledger G [.tup (pat.map entD), plan p n k] S = .ok (tI (fL k.toNat fun i => red p (pof n pat i))) S := by
  refine eq_wp ?_
  have w0 := w.n1
  have w2 := w.k1
  have w3 := w.k0
  have w4 := w.p0
  have w5 := w.p1
  rw [m__law_ledger, fnR_eq]
  show wp (ret S (c__law_ledger G [some (.tup (pat.map entD)), some (plan p n k), none, none, none, none, none, none, none] S)) _
  unfold c__law_ledger
  have hz : ∀ S, p_mul true (.lst [.int 0]) (.int k) S = .ok (.ref S.length) (S ++ [some (.lst (iD (fL k.toNat fun _ => 0)))]) := fun S => by
    rw [mul_lst w3 (by omega), lst_t (by rw [List.length_replicate]; omega)]
    have e : List.replicate k.toNat (D.int 0) = iD (fL k.toNat fun _ => 0) := by
      unfold iD fL
      rw [List.map_map]
      refine List.ext_getElem (by simp) fun i h1 h2 => ?_
      simp
    rw [e]
  (try simp -implicitDefEqProofs (disch := first | omega | (simp only [List.length_map, List.length_cons, List.length_nil, List.length_range, List.length_append, List.length_replicate]; omega)) only [DL.e_d, DL.e_op, DL.e_un, DL.e_test, DL.e_asB, DL.e_and, DL.e_or, DL.e_not, DL.e_if, DL.e_andV, DL.e_orV, DL.e_notV, DL.e_chain, DL.e_nil, DL.e_cons, DL.e_tup, DL.e_lst, DL.e_cb, DL.e_callK, DL.e_meth, DL.e_methP, DL.e_smeth, DL.e_cval, DL.e_fld, DL.e_prop, DL.e_star, DL.e_ps0, DL.e_ps, DL.e_dispK, DL.e_dispT, DL.e_dK0, DL.e_dT0, DL.e_frz, DL.e_no, DL.e_part, DL.e_sl, DL.s_set, DL.s_asg, DL.s_nx, DL.s_seq, DL.s_expr, DL.s_ret, DL.s_retN, DL.s_brk, DL.s_cont, DL.s_stuck, DL.s_ifS, DL.s_aug, DL.s_par, DL.s_par3, DL.s_setI, DL.s_fldS, DL.g_name_eq, DL.g_nil_eq, DL.g_cons_eq, DL.g_tup_eq, DL.v_add, DL.v_addI, DL.v_sub, DL.v_neg, DL.v_lt, DL.v_le, DL.v_gt, DL.v_ge, DL.v_eq, DL.v_isN, DL.v_tupcat, DL.Res.bind_ok, DL.Res.bindN_ok, DL.ret_rt, DL.ret_nx, DL.ev_v0, DL.ev_vs, DL.ev_a1, DL.ev_a2, DL.ev_a3, DL.ev_a4, List.set_cons_zero, List.set_cons_succ, decide_true, decide_false, Bool.not_true, Bool.not_false, if_true, Bool.false_eq_true, if_false, DL.e_cb, DL.e_yes, DL.wp_ok, DL.wp_bind, DL.wp_bindN, DL.wp_ret, DL.retQ_rt, DL.retQ_nx, DL.wp_fin, DL.FQ_nx, DL.FQ_ct, DL.FQ_bk, DL.FQ_rt, DL.addO_some, DL.addO_none, DL.isCon_self, DL.v_mulC, DL.v_fdivC, DL.v_modC, DL.ix_t0, DL.ix_t1, DL.ix_t2, DL.ix_l0, DL.ix_l1, DL.ix_l2, DL.isi_int_int, DL.isi_int_bool, DL.min2_eq, DL.max2_eq, DL.tup_f, DL.lst_f, DL.list_tup, DL.list_lst, DL.tuple_lst, DL.len_lst, DL.len_tup, DL.wipeE, DL.lcB, DL.cls_obj, DL.flds_obj, DL.isiO_obj, DL.v_augS, DL.v_methK, DL.v_makeK, DL.ev_a5, DL.ev_a6, DL.ev_a7, DL.v_mulB, eq_self, and_self, List.length_nil, List.length_cons, List.getElem?_cons_zero, List.getElem?_cons_succ, DL.list_tup_t, List.append_assoc, List.nil_append, List.cons_append, clsOf_plan, length_eq, hz])
  refine wp_for pat entD (fun pre ρ S' => ∃ o3 o4 o5 o6 o7, ρ = [some (.tup (pat.map entD)), some (plan p n k), some (.ref S.length), o3, o4, o5, o6, o7, none] ∧ S' = S ++ [some (.lst (iD (fL k.toNat fun i => pof n pre i)))]) (it_eq (x := .tup (pat.map entD)) rfl rfl) (fun _ _ _ _ => ok_one rfl) ⟨none, none, none, none, none, rfl, rfl⟩ ?_ ?_
  · rintro pre ⟨u, v, a⟩ post ρ S' hr ⟨o3, o4, o5, o6, o7, rfl, rfl⟩
    obtain ⟨u0, u1, v1, a0, a1, a2⟩ : 0 ≤ u ∧ u < v ∧ v < n ∧ Amt p a := hp.ok (u, v, a) (by rw [hr]; simp)
    have hun : 0 ≤ u * n ∧ u * n ≤ 24 * 24 := ⟨Int.mul_nonneg u0 (by omega), Int.mul_le_mul (by omega) (by omega) (by omega) (by omega)⟩
    unfold entD
    (try simp -implicitDefEqProofs (disch := first | omega | (simp only [List.length_map, List.length_cons, List.length_nil, List.length_range, List.length_append, List.length_replicate]; omega)) only [DL.e_d, DL.e_op, DL.e_un, DL.e_test, DL.e_asB, DL.e_and, DL.e_or, DL.e_not, DL.e_if, DL.e_andV, DL.e_orV, DL.e_notV, DL.e_chain, DL.e_nil, DL.e_cons, DL.e_tup, DL.e_lst, DL.e_cb, DL.e_callK, DL.e_meth, DL.e_methP, DL.e_smeth, DL.e_cval, DL.e_fld, DL.e_prop, DL.e_star, DL.e_ps0, DL.e_ps, DL.e_dispK, DL.e_dispT, DL.e_dK0, DL.e_dT0, DL.e_frz, DL.e_no, DL.e_part, DL.e_sl, DL.s_set, DL.s_asg, DL.s_nx, DL.s_seq, DL.s_expr, DL.s_ret, DL.s_retN, DL.s_brk, DL.s_cont, DL.s_stuck, DL.s_ifS, DL.s_aug, DL.s_par, DL.s_par3, DL.s_setI, DL.s_fldS, DL.g_name_eq, DL.g_nil_eq, DL.g_cons_eq, DL.g_tup_eq, DL.v_add, DL.v_addI, DL.v_sub, DL.v_neg, DL.v_lt, DL.v_le, DL.v_gt, DL.v_ge, DL.v_eq, DL.v_isN, DL.v_tupcat, DL.Res.bind_ok, DL.Res.bindN_ok, DL.ret_rt, DL.ret_nx, DL.ev_v0, DL.ev_vs, DL.ev_a1, DL.ev_a2, DL.ev_a3, DL.ev_a4, List.set_cons_zero, List.set_cons_succ, decide_true, decide_false, Bool.not_true, Bool.not_false, if_true, Bool.false_eq_true, if_false, DL.e_cb, DL.e_yes, DL.wp_ok, DL.wp_bind, DL.wp_bindN, DL.wp_ret, DL.retQ_rt, DL.retQ_nx, DL.wp_fin, DL.FQ_nx, DL.FQ_ct, DL.FQ_bk, DL.FQ_rt, DL.addO_some, DL.addO_none, DL.isCon_self, DL.v_mulC, DL.v_fdivC, DL.v_modC, DL.ix_t0, DL.ix_t1, DL.ix_t2, DL.ix_l0, DL.ix_l1, DL.ix_l2, DL.isi_int_int, DL.isi_int_bool, DL.min2_eq, DL.max2_eq, DL.tup_f, DL.lst_f, DL.list_tup, DL.list_lst, DL.tuple_lst, DL.len_lst, DL.len_tup, DL.wipeE, DL.lcB, DL.cls_obj, DL.flds_obj, DL.isiO_obj, DL.v_augS, DL.v_methK, DL.v_makeK, DL.ev_a5, DL.ev_a6, DL.ev_a7, DL.v_mulB, eq_self, and_self, List.length_nil, List.length_cons, List.getElem?_cons_zero, List.getElem?_cons_succ, DL.list_tup_t, List.append_assoc, List.nil_append, List.cons_append])
    generalize hnm : 1 + u * n + v = nm
    have hnm2 : 0 ≤ nm ∧ nm ≤ 1024 := by omega
    refine wp_for (List.range k.toNat) (fun (i : Nat) => D.int (0 + (i : Int))) (fun pre2 ρ S' => ∃ o7, ρ = [some (.tup (pat.map entD)), some (plan p n k), some (.ref S.length), some (.int u), some (.int v), some (.int a), some (.int (a * nm ^ pre2.length)), o7, none] ∧ S' = S ++ [some (.lst (iD (fL k.toNat fun i => if i < pre2.length then pof n pre i + a * nm ^ i else pof n pre i)))]) (rng1 (by (try simp -implicitDefEqProofs (disch := first | omega | (simp only [List.length_map, List.length_cons, List.length_nil, List.length_range, List.length_append, List.length_replicate]; omega)) only [DL.e_d, DL.e_op, DL.e_un, DL.e_test, DL.e_asB, DL.e_and, DL.e_or, DL.e_not, DL.e_if, DL.e_andV, DL.e_orV, DL.e_notV, DL.e_chain, DL.e_nil, DL.e_cons, DL.e_tup, DL.e_lst, DL.e_cb, DL.e_callK, DL.e_meth, DL.e_methP, DL.e_smeth, DL.e_cval, DL.e_fld, DL.e_prop, DL.e_star, DL.e_ps0, DL.e_ps, DL.e_dispK, DL.e_dispT, DL.e_dK0, DL.e_dT0, DL.e_frz, DL.e_no, DL.e_part, DL.e_sl, DL.s_set, DL.s_asg, DL.s_nx, DL.s_seq, DL.s_expr, DL.s_ret, DL.s_retN, DL.s_brk, DL.s_cont, DL.s_stuck, DL.s_ifS, DL.s_aug, DL.s_par, DL.s_par3, DL.s_setI, DL.s_fldS, DL.g_name_eq, DL.g_nil_eq, DL.g_cons_eq, DL.g_tup_eq, DL.v_add, DL.v_addI, DL.v_sub, DL.v_neg, DL.v_lt, DL.v_le, DL.v_gt, DL.v_ge, DL.v_eq, DL.v_isN, DL.v_tupcat, DL.Res.bind_ok, DL.Res.bindN_ok, DL.ret_rt, DL.ret_nx, DL.ev_v0, DL.ev_vs, DL.ev_a1, DL.ev_a2, DL.ev_a3, DL.ev_a4, List.set_cons_zero, List.set_cons_succ, decide_true, decide_false, Bool.not_true, Bool.not_false, if_true, Bool.false_eq_true, if_false, DL.e_cb, DL.e_yes, DL.wp_ok, DL.wp_bind, DL.wp_bindN, DL.wp_ret, DL.retQ_rt, DL.retQ_nx, DL.wp_fin, DL.FQ_nx, DL.FQ_ct, DL.FQ_bk, DL.FQ_rt, DL.addO_some, DL.addO_none, DL.isCon_self, DL.v_mulC, DL.v_fdivC, DL.v_modC, DL.ix_t0, DL.ix_t1, DL.ix_t2, DL.ix_l0, DL.ix_l1, DL.ix_l2, DL.isi_int_int, DL.isi_int_bool, DL.min2_eq, DL.max2_eq, DL.tup_f, DL.lst_f, DL.list_tup, DL.list_lst, DL.tuple_lst, DL.len_lst, DL.len_tup, DL.wipeE, DL.lcB, DL.cls_obj, DL.flds_obj, DL.isiO_obj, DL.v_augS, DL.v_methK, DL.v_makeK, DL.ev_a5, DL.ev_a6, DL.ev_a7, DL.v_mulB, eq_self, and_self, List.length_nil, List.length_cons, List.getElem?_cons_zero, List.getElem?_cons_succ, DL.list_tup_t, List.append_assoc, List.nil_append, List.cons_append, clsOf_plan, length_eq])) ⟨by omega, by omega⟩) (fun _ _ _ _ => ok_nil) ⟨o7, by simp [entD], by simp⟩ ?_ ?_
    · rintro pre2 i post2 ρ S' hr2 ⟨o7, rfl, rfl⟩
      obtain ⟨i0, i1, i2⟩ := range_pre hr2
      have hb := pw_bound (a := a) (nm := nm) (C := 2 ^ 31) (by omega) (by omega) hnm2.1 hnm2.2 pre2.length
      have hb2 := pw24 (i := pre2.length) (by omega)
      have hset : ∀ y, p_setI (.ref S.length) (.int (i : Int)) (.int y) (S ++ [some (.lst (iD (fL k.toNat fun i => if i < pre2.length then pof n pre i + a * nm ^ i else pof n pre i)))]) = .ok () (S ++ [some (.lst (iD (fL k.toNat fun j => if j = i then y else if j < pre2.length then pof n pre j + a * nm ^ j else pof n pre j)))]) := fun y => by
        rw [setI_ref snoc_at (by rw [List.length_map, fL_len]; exact i0), snoc_set]
        congr 4
        rw [← fL_set, iD, iD, List.map_set]
      have hmul : ∀ S, p_mul false (.int (a * nm ^ pre2.length)) (.int nm) S = .ok (.int (a * nm ^ pre2.length * nm)) S := fun S => v_mulX (by omega) (by omega) (by omega) (by omega)
      have hun2 : -(2 ^ 20) < u * n := by omega
      (try simp -implicitDefEqProofs (disch := first | omega | (simp only [List.length_map, List.length_cons, List.length_nil, List.length_range, List.length_append, List.length_replicate]; omega)) only [DL.e_d, DL.e_op, DL.e_un, DL.e_test, DL.e_asB, DL.e_and, DL.e_or, DL.e_not, DL.e_if, DL.e_andV, DL.e_orV, DL.e_notV, DL.e_chain, DL.e_nil, DL.e_cons, DL.e_tup, DL.e_lst, DL.e_cb, DL.e_callK, DL.e_meth, DL.e_methP, DL.e_smeth, DL.e_cval, DL.e_fld, DL.e_prop, DL.e_star, DL.e_ps0, DL.e_ps, DL.e_dispK, DL.e_dispT, DL.e_dK0, DL.e_dT0, DL.e_frz, DL.e_no, DL.e_part, DL.e_sl, DL.s_set, DL.s_asg, DL.s_nx, DL.s_seq, DL.s_expr, DL.s_ret, DL.s_retN, DL.s_brk, DL.s_cont, DL.s_stuck, DL.s_ifS, DL.s_aug, DL.s_par, DL.s_par3, DL.s_setI, DL.s_fldS, DL.g_name_eq, DL.g_nil_eq, DL.g_cons_eq, DL.g_tup_eq, DL.v_add, DL.v_addI, DL.v_sub, DL.v_neg, DL.v_lt, DL.v_le, DL.v_gt, DL.v_ge, DL.v_eq, DL.v_isN, DL.v_tupcat, DL.Res.bind_ok, DL.Res.bindN_ok, DL.ret_rt, DL.ret_nx, DL.ev_v0, DL.ev_vs, DL.ev_a1, DL.ev_a2, DL.ev_a3, DL.ev_a4, List.set_cons_zero, List.set_cons_succ, decide_true, decide_false, Bool.not_true, Bool.not_false, if_true, Bool.false_eq_true, if_false, DL.e_cb, DL.e_yes, DL.wp_ok, DL.wp_bind, DL.wp_bindN, DL.wp_ret, DL.retQ_rt, DL.retQ_nx, DL.wp_fin, DL.FQ_nx, DL.FQ_ct, DL.FQ_bk, DL.FQ_rt, DL.addO_some, DL.addO_none, DL.isCon_self, DL.v_mulC, DL.v_fdivC, DL.v_modC, DL.ix_t0, DL.ix_t1, DL.ix_t2, DL.ix_l0, DL.ix_l1, DL.ix_l2, DL.isi_int_int, DL.isi_int_bool, DL.min2_eq, DL.max2_eq, DL.tup_f, DL.lst_f, DL.list_tup, DL.list_lst, DL.tuple_lst, DL.len_lst, DL.len_tup, DL.wipeE, DL.lcB, DL.cls_obj, DL.flds_obj, DL.isiO_obj, DL.v_augS, DL.v_methK, DL.v_makeK, DL.ev_a5, DL.ev_a6, DL.ev_a7, DL.v_mulB, eq_self, and_self, List.length_nil, List.length_cons, List.getElem?_cons_zero, List.getElem?_cons_succ, DL.list_tup_t, List.append_assoc, List.nil_append, List.cons_append, Int.zero_add, ix_ref (S := S ++ [some (.lst (iD (fL k.toNat fun i => if i < pre2.length then pof n pre i + a * nm ^ i else pof n pre i)))]) snoc_at (fL_at i0), hset, clsOf_plan, accounts_eq, hnm, hmul])
      refine ⟨some (.int i), ?_, ?_⟩
      · rw [List.length_append, List.length_singleton, Int.pow_succ, Int.mul_assoc]
      · refine congrArg (fun l => S ++ [some (Cell.lst (iD l))]) (fL_ext fun j hj => ?_)
        rw [List.length_append, List.length_singleton]
        by_cases h1 : j = i
        · rw [if_pos h1, if_neg (by omega), if_pos (by omega), h1, ← i1]
        · rw [if_neg h1]
          by_cases h2 : j < pre2.length
          · rw [if_pos h2, if_pos (by omega)]
          · rw [if_neg h2, if_neg (by omega)]
    · rintro ρ S' ⟨o7, rfl, rfl⟩
      (try simp -implicitDefEqProofs (disch := first | omega | (simp only [List.length_map, List.length_cons, List.length_nil, List.length_range, List.length_append, List.length_replicate]; omega)) only [DL.e_d, DL.e_op, DL.e_un, DL.e_test, DL.e_asB, DL.e_and, DL.e_or, DL.e_not, DL.e_if, DL.e_andV, DL.e_orV, DL.e_notV, DL.e_chain, DL.e_nil, DL.e_cons, DL.e_tup, DL.e_lst, DL.e_cb, DL.e_callK, DL.e_meth, DL.e_methP, DL.e_smeth, DL.e_cval, DL.e_fld, DL.e_prop, DL.e_star, DL.e_ps0, DL.e_ps, DL.e_dispK, DL.e_dispT, DL.e_dK0, DL.e_dT0, DL.e_frz, DL.e_no, DL.e_part, DL.e_sl, DL.s_set, DL.s_asg, DL.s_nx, DL.s_seq, DL.s_expr, DL.s_ret, DL.s_retN, DL.s_brk, DL.s_cont, DL.s_stuck, DL.s_ifS, DL.s_aug, DL.s_par, DL.s_par3, DL.s_setI, DL.s_fldS, DL.g_name_eq, DL.g_nil_eq, DL.g_cons_eq, DL.g_tup_eq, DL.v_add, DL.v_addI, DL.v_sub, DL.v_neg, DL.v_lt, DL.v_le, DL.v_gt, DL.v_ge, DL.v_eq, DL.v_isN, DL.v_tupcat, DL.Res.bind_ok, DL.Res.bindN_ok, DL.ret_rt, DL.ret_nx, DL.ev_v0, DL.ev_vs, DL.ev_a1, DL.ev_a2, DL.ev_a3, DL.ev_a4, List.set_cons_zero, List.set_cons_succ, decide_true, decide_false, Bool.not_true, Bool.not_false, if_true, Bool.false_eq_true, if_false, DL.e_cb, DL.e_yes, DL.wp_ok, DL.wp_bind, DL.wp_bindN, DL.wp_ret, DL.retQ_rt, DL.retQ_nx, DL.wp_fin, DL.FQ_nx, DL.FQ_ct, DL.FQ_bk, DL.FQ_rt, DL.addO_some, DL.addO_none, DL.isCon_self, DL.v_mulC, DL.v_fdivC, DL.v_modC, DL.ix_t0, DL.ix_t1, DL.ix_t2, DL.ix_l0, DL.ix_l1, DL.ix_l2, DL.isi_int_int, DL.isi_int_bool, DL.min2_eq, DL.max2_eq, DL.tup_f, DL.lst_f, DL.list_tup, DL.list_lst, DL.tuple_lst, DL.len_lst, DL.len_tup, DL.wipeE, DL.lcB, DL.cls_obj, DL.flds_obj, DL.isiO_obj, DL.v_augS, DL.v_methK, DL.v_makeK, DL.ev_a5, DL.ev_a6, DL.ev_a7, DL.v_mulB, eq_self, and_self, List.length_nil, List.length_cons, List.getElem?_cons_zero, List.getElem?_cons_succ, DL.list_tup_t, List.append_assoc, List.nil_append, List.cons_append])
      refine ⟨_, _, _, _, _, rfl, ?_⟩
      refine congrArg (fun l => S ++ [some (Cell.lst (iD l))]) (fL_ext fun j hj => ?_)
      rw [List.length_range, if_pos hj]
      unfold pof
      rw [List.map_append, List.sum_append, ← hnm]
      simp
  · rintro ρ S' ⟨o3, o4, o5, o6, o7, rfl, rfl⟩
    (try simp -implicitDefEqProofs (disch := first | omega | (simp only [List.length_map, List.length_cons, List.length_nil, List.length_range, List.length_append, List.length_replicate]; omega)) only [DL.e_d, DL.e_op, DL.e_un, DL.e_test, DL.e_asB, DL.e_and, DL.e_or, DL.e_not, DL.e_if, DL.e_andV, DL.e_orV, DL.e_notV, DL.e_chain, DL.e_nil, DL.e_cons, DL.e_tup, DL.e_lst, DL.e_cb, DL.e_callK, DL.e_meth, DL.e_methP, DL.e_smeth, DL.e_cval, DL.e_fld, DL.e_prop, DL.e_star, DL.e_ps0, DL.e_ps, DL.e_dispK, DL.e_dispT, DL.e_dK0, DL.e_dT0, DL.e_frz, DL.e_no, DL.e_part, DL.e_sl, DL.s_set, DL.s_asg, DL.s_nx, DL.s_seq, DL.s_expr, DL.s_ret, DL.s_retN, DL.s_brk, DL.s_cont, DL.s_stuck, DL.s_ifS, DL.s_aug, DL.s_par, DL.s_par3, DL.s_setI, DL.s_fldS, DL.g_name_eq, DL.g_nil_eq, DL.g_cons_eq, DL.g_tup_eq, DL.v_add, DL.v_addI, DL.v_sub, DL.v_neg, DL.v_lt, DL.v_le, DL.v_gt, DL.v_ge, DL.v_eq, DL.v_isN, DL.v_tupcat, DL.Res.bind_ok, DL.Res.bindN_ok, DL.ret_rt, DL.ret_nx, DL.ev_v0, DL.ev_vs, DL.ev_a1, DL.ev_a2, DL.ev_a3, DL.ev_a4, List.set_cons_zero, List.set_cons_succ, decide_true, decide_false, Bool.not_true, Bool.not_false, if_true, Bool.false_eq_true, if_false, DL.e_cb, DL.e_yes, DL.wp_ok, DL.wp_bind, DL.wp_bindN, DL.wp_ret, DL.retQ_rt, DL.retQ_nx, DL.wp_fin, DL.FQ_nx, DL.FQ_ct, DL.FQ_bk, DL.FQ_rt, DL.addO_some, DL.addO_none, DL.isCon_self, DL.v_mulC, DL.v_fdivC, DL.v_modC, DL.ix_t0, DL.ix_t1, DL.ix_t2, DL.ix_l0, DL.ix_l1, DL.ix_l2, DL.isi_int_int, DL.isi_int_bool, DL.min2_eq, DL.max2_eq, DL.tup_f, DL.lst_f, DL.list_tup, DL.list_lst, DL.tuple_lst, DL.len_lst, DL.len_tup, DL.wipeE, DL.lcB, DL.cls_obj, DL.flds_obj, DL.isiO_obj, DL.v_augS, DL.v_methK, DL.v_makeK, DL.ev_a5, DL.ev_a6, DL.ev_a7, DL.v_mulB, eq_self, and_self, List.length_nil, List.length_cons, List.getElem?_cons_zero, List.getElem?_cons_succ, DL.list_tup_t, List.append_assoc, List.nil_append, List.cons_append])
    refine wp_lcM (List.range k.toNat) (fun i => D.int (pof n pat i)) (fun i => D.int (red p (pof n pat i))) (it_eq (x := .ref S.length) rfl (by rw [items_ref snoc_at]; unfold iD fL; rw [List.map_map]; rfl)) (by rw [List.length_range]; omega) (ok_one (by rw [items_ref snoc_at]; unfold iD fL; rw [List.map_map]; rfl)) (fun i hi => by (try simp -implicitDefEqProofs (disch := first | omega | (simp only [List.length_map, List.length_cons, List.length_nil, List.length_range, List.length_append, List.length_replicate]; omega)) only [DL.e_d, DL.e_op, DL.e_un, DL.e_test, DL.e_asB, DL.e_and, DL.e_or, DL.e_not, DL.e_if, DL.e_andV, DL.e_orV, DL.e_notV, DL.e_chain, DL.e_nil, DL.e_cons, DL.e_tup, DL.e_lst, DL.e_cb, DL.e_callK, DL.e_meth, DL.e_methP, DL.e_smeth, DL.e_cval, DL.e_fld, DL.e_prop, DL.e_star, DL.e_ps0, DL.e_ps, DL.e_dispK, DL.e_dispT, DL.e_dK0, DL.e_dT0, DL.e_frz, DL.e_no, DL.e_part, DL.e_sl, DL.s_set, DL.s_asg, DL.s_nx, DL.s_seq, DL.s_expr, DL.s_ret, DL.s_retN, DL.s_brk, DL.s_cont, DL.s_stuck, DL.s_ifS, DL.s_aug, DL.s_par, DL.s_par3, DL.s_setI, DL.s_fldS, DL.g_name_eq, DL.g_nil_eq, DL.g_cons_eq, DL.g_tup_eq, DL.v_add, DL.v_addI, DL.v_sub, DL.v_neg, DL.v_lt, DL.v_le, DL.v_gt, DL.v_ge, DL.v_eq, DL.v_isN, DL.v_tupcat, DL.Res.bind_ok, DL.Res.bindN_ok, DL.ret_rt, DL.ret_nx, DL.ev_v0, DL.ev_vs, DL.ev_a1, DL.ev_a2, DL.ev_a3, DL.ev_a4, List.set_cons_zero, List.set_cons_succ, decide_true, decide_false, Bool.not_true, Bool.not_false, if_true, Bool.false_eq_true, if_false, DL.e_cb, DL.e_yes, DL.wp_ok, DL.wp_bind, DL.wp_bindN, DL.wp_ret, DL.retQ_rt, DL.retQ_nx, DL.wp_fin, DL.FQ_nx, DL.FQ_ct, DL.FQ_bk, DL.FQ_rt, DL.addO_some, DL.addO_none, DL.isCon_self, DL.v_mulC, DL.v_fdivC, DL.v_modC, DL.ix_t0, DL.ix_t1, DL.ix_t2, DL.ix_l0, DL.ix_l1, DL.ix_l2, DL.isi_int_int, DL.isi_int_bool, DL.min2_eq, DL.max2_eq, DL.tup_f, DL.lst_f, DL.list_tup, DL.list_lst, DL.tuple_lst, DL.len_lst, DL.len_tup, DL.wipeE, DL.lcB, DL.cls_obj, DL.flds_obj, DL.isiO_obj, DL.v_augS, DL.v_methK, DL.v_makeK, DL.ev_a5, DL.ev_a6, DL.ev_a7, DL.v_mulB, eq_self, and_self, List.length_nil, List.length_cons, List.getElem?_cons_zero, List.getElem?_cons_succ, DL.list_tup_t, List.append_assoc, List.nil_append, List.cons_append, mp__law_reduced, law_reduced_eq (G := G) w])) ?_
    (try simp -implicitDefEqProofs (disch := first | omega | (simp only [List.length_map, List.length_cons, List.length_nil, List.length_range, List.length_append, List.length_replicate]; omega)) only [DL.e_d, DL.e_op, DL.e_un, DL.e_test, DL.e_asB, DL.e_and, DL.e_or, DL.e_not, DL.e_if, DL.e_andV, DL.e_orV, DL.e_notV, DL.e_chain, DL.e_nil, DL.e_cons, DL.e_tup, DL.e_lst, DL.e_cb, DL.e_callK, DL.e_meth, DL.e_methP, DL.e_smeth, DL.e_cval, DL.e_fld, DL.e_prop, DL.e_star, DL.e_ps0, DL.e_ps, DL.e_dispK, DL.e_dispT, DL.e_dK0, DL.e_dT0, DL.e_frz, DL.e_no, DL.e_part, DL.e_sl, DL.s_set, DL.s_asg, DL.s_nx, DL.s_seq, DL.s_expr, DL.s_ret, DL.s_retN, DL.s_brk, DL.s_cont, DL.s_stuck, DL.s_ifS, DL.s_aug, DL.s_par, DL.s_par3, DL.s_setI, DL.s_fldS, DL.g_name_eq, DL.g_nil_eq, DL.g_cons_eq, DL.g_tup_eq, DL.v_add, DL.v_addI, DL.v_sub, DL.v_neg, DL.v_lt, DL.v_le, DL.v_gt, DL.v_ge, DL.v_eq, DL.v_isN, DL.v_tupcat, DL.Res.bind_ok, DL.Res.bindN_ok, DL.ret_rt, DL.ret_nx, DL.ev_v0, DL.ev_vs, DL.ev_a1, DL.ev_a2, DL.ev_a3, DL.ev_a4, List.set_cons_zero, List.set_cons_succ, decide_true, decide_false, Bool.not_true, Bool.not_false, if_true, Bool.false_eq_true, if_false, DL.e_cb, DL.e_yes, DL.wp_ok, DL.wp_bind, DL.wp_bindN, DL.wp_ret, DL.retQ_rt, DL.retQ_nx, DL.wp_fin, DL.FQ_nx, DL.FQ_ct, DL.FQ_bk, DL.FQ_rt, DL.addO_some, DL.addO_none, DL.isCon_self, DL.v_mulC, DL.v_fdivC, DL.v_modC, DL.ix_t0, DL.ix_t1, DL.ix_t2, DL.ix_l0, DL.ix_l1, DL.ix_l2, DL.isi_int_int, DL.isi_int_bool, DL.min2_eq, DL.max2_eq, DL.tup_f, DL.lst_f, DL.list_tup, DL.list_lst, DL.tuple_lst, DL.len_lst, DL.len_tup, DL.wipeE, DL.lcB, DL.cls_obj, DL.flds_obj, DL.isiO_obj, DL.v_augS, DL.v_methK, DL.v_makeK, DL.ev_a5, DL.ev_a6, DL.ev_a7, DL.v_mulB, eq_self, and_self, List.length_nil, List.length_cons, List.getElem?_cons_zero, List.getElem?_cons_succ, DL.list_tup_t, List.append_assoc, List.nil_append, List.cons_append])
    refine wp_fin_app ?_ ⟨by unfold tI fL; rw [List.map_map]; rfl, rfl⟩
    rw [refsLt]
    exact ltL_all fun d hd => by
      obtain ⟨i, _, rfl⟩ := List.mem_map.mp hd
      rfl
end
end K07

set_option Elab.async false
set_option linter.all false
set_option maxRecDepth 100000
set_option maxHeartbeats 4000000
namespace K07
open PySem PySem.Spec PyProof.Rows L2 DL
/-! ### primes, and sums of powers -/
def IsP (p : Int) : Prop := 1 < p ∧ ∀ a b : Int, p ∣ a * b → p ∣ a ∨ p ∣ b
def tdJ (p d : Nat) : Nat → Bool
  | 0 => true
  | j + 1 => (Nat.ble (d + j) 1 || (Nat.ble p (d + j) || Nat.blt 0 (p % (d + j)))) && tdJ p d j
def tdI (p m : Nat) : Nat → Bool
  | 0 => true
  | i + 1 => tdJ p (i * m) m && tdI p m i
def tdiv (p m : Nat) : Bool := tdI p m m
theorem tdJ_at {p d : Nat} : ∀ {m : Nat}, tdJ p d m = true → ∀ j, j < m → 2 ≤ d + j → d + j < p → p % (d + j) ≠ 0
  | 0, _, j, hj, _, _ => absurd hj (Nat.not_lt_zero _)
  | m + 1, h, j, hj, h2, h3 => by
    rw [tdJ, Bool.and_eq_true] at h
    by_cases e : j = m
    · subst e
      have h1 := h.1
      simp only [Bool.or_eq_true, Nat.ble_eq, Nat.blt_eq] at h1
      omega
    · exact tdJ_at h.2 j (by omega) h2 h3
theorem tdI_at {p m : Nat} : ∀ {n : Nat}, tdI p m n = true → ∀ i, i < n → tdJ p (i * m) m = true
  | 0, _, i, hi => absurd hi (Nat.not_lt_zero _)
  | n + 1, h, i, hi => by
    rw [tdI, Bool.and_eq_true] at h
    by_cases e : i = n
    · subst e
      exact h.1
    · exact tdI_at h.2 i (by omega)
theorem tdiv_at {p m : Nat} (h : tdiv p m = true) {d : Nat} (h2 : 2 ≤ d) (h3 : d < m * m) (h4 : d < p) : p % d ≠ 0 := by
  have hm : 0 < m := by
    rcases Nat.eq_zero_or_pos m with e | e
    · subst e; omega
    · exact e
  have e : d / m * m + d % m = d := by rw [Nat.mul_comm]; exact Nat.div_add_mod d m
  have h5 := tdJ_at (tdI_at h (d / m) (Nat.div_lt_of_lt_mul h3)) (d % m) (Nat.mod_lt _ hm)
  rw [e] at h5
  exact h5 h2 h4
theorem isP_of {p m : Nat} (h : tdiv p m = true) (h1 : 1 < p) (h2 : p < m * m * (m * m)) : IsP (p : Int) := by
  have hd : ∀ d, d ∣ p → d = 1 ∨ d = p := by
    rintro d ⟨e, he⟩
    by_cases d1 : d = 1
    · exact .inl d1
    by_cases e1 : e = 1
    · subst e1
      exact .inr (by omega)
    exfalso
    have d0 : d ≠ 0 := fun z => by subst z; simp at he; omega
    have e0 : e ≠ 0 := fun z => by subst z; simp at he; omega
    have dp : d < p := by
      have : d * 2 ≤ d * e := Nat.mul_le_mul_left d (by omega)
      omega
    have ep : e < p := by
      have : 2 * e ≤ d * e := Nat.mul_le_mul_right e (by omega)
      omega
    by_cases hde : d < m * m
    · exact tdiv_at h (by omega) hde dp (by rw [he]; exact Nat.mul_mod_right d e)
    · have he2 : e < m * m := by
        apply Classical.byContradiction
        intro hc
        have := Nat.mul_le_mul (show m * m ≤ d by omega) (show m * m ≤ e by omega)
        omega
      exact tdiv_at h (by omega) he2 ep (by rw [he]; exact Nat.mul_mod_left d e)
  refine ⟨by omega, fun a b hab => ?_⟩
  have hab2 : p ∣ a.natAbs * b.natAbs := by
    rw [← Int.natAbs_mul]
    have := Int.natAbs_dvd_natAbs.mpr hab
    rwa [Int.natAbs_natCast] at this
  rcases hd _ (Nat.gcd_dvd_left p a.natAbs) with hg | hg
  · exact .inr (Int.natAbs_dvd_natAbs.mp (by rw [Int.natAbs_natCast]; exact Nat.Coprime.dvd_of_dvd_mul_left hg hab2))
  · refine .inl (Int.natAbs_dvd_natAbs.mp ?_)
    rw [Int.natAbs_natCast]
    have := Nat.gcd_dvd_right p a.natAbs
    rwa [hg] at this
theorem td_small : (leastL.all fun p => tdiv p.toNat 5) = true := by decide +kernel
theorem td_1009 : tdiv 1009 6 = true := by decide +kernel
theorem td_65537 : tdiv 65537 17 = true := by decide +kernel
theorem td_big : tdiv 999999937 178 = true := by decide +kernel
theorem prs07_isP {p : Int} (h : p ∈ prs07) : IsP p := by
  obtain ⟨h2, h3, _⟩ := prs07_facts p h
  have e : ((p.toNat : Nat) : Int) = p := Int.toNat_of_nonneg (by omega)
  rw [← e]
  rcases List.mem_append.mp h with h | h
  · have h4 : ∀ p ∈ leastL, p ≤ 577 := by decide +kernel
    have := h4 p h
    exact isP_of (List.all_eq_true.mp td_small p h) (by omega) (by omega)
  · simp only [List.mem_cons, List.not_mem_nil, or_false] at h
    rcases h with rfl | rfl | rfl
    · exact isP_of td_1009 (by decide) (by decide)
    · exact isP_of td_65537 (by decide) (by decide)
    · exact isP_of td_big (by decide) (by decide)
def sp (l : List (Int × Int)) (i : Nat) : Int := (l.map fun e => e.2 * e.1 ^ i).sum
theorem sp_step (c : Int) (i : Nat) : ∀ l : List (Int × Int), sp (l.map fun g => (g.1, g.2 * (g.1 - c))) i = sp l (i + 1) - c * sp l i
  | [] => by simp [sp]
  | e :: l => by
    have ih := sp_step c i l
    unfold sp at *
    simp only [List.map_cons, List.sum_cons] at *
    rw [ih, Int.pow_succ]
    grind
theorem van {p : Int} (hp : IsP p) : ∀ (n : Nat) (l : List (Int × Int)) (N : Nat), l.length = n → l ≠ [] → l.length ≤ N → (∀ e ∈ l, ¬ p ∣ e.2) → l.Pairwise (fun e f => ¬ p ∣ (f.1 - e.1)) → ¬ ∀ i, i < N → p ∣ sp l i
  | 0, l, N, hn, h0, _, _, _ => absurd (List.length_eq_zero_iff.mp hn) h0
  | n + 1, [], N, hn, h0, _, _, _ => absurd rfl h0
  | n + 1, e :: r, N, hn, h0, hN, ha, hpw => by
    intro hs
    by_cases hr : r = []
    · subst hr
      have := hs 0 (by simp at hN; omega)
      refine ha e (List.mem_cons_self ..) ?_
      simpa [sp] using this
    · have hc := List.pairwise_cons.mp hpw
      refine van hp n (r.map fun g => (g.1, g.2 * (g.1 - e.1))) (N - 1) (by simp at hn ⊢; omega) (by simpa using hr) (by simp at hN ⊢; omega) ?_ ?_ ?_
      · intro g hg
        obtain ⟨f, hf, rfl⟩ := List.mem_map.mp hg
        intro hd
        rcases hp.2 _ _ hd with h | h
        · exact ha f (List.mem_cons_of_mem _ hf) h
        · exact hc.1 f hf h
      · exact List.pairwise_map.mpr hc.2
      · intro i hi
        rw [sp_step]
        have e1 := hs (i + 1) (by omega)
        have e2 := hs i (by omega)
        have e3 : ∀ j, sp (e :: r) j = e.2 * e.1 ^ j + sp r j := fun j => by simp [sp]
        have e4 : sp r (i + 1) - e.1 * sp r i = sp (e :: r) (i + 1) - e.1 * sp (e :: r) i := by
          rw [e3, e3, Int.pow_succ]
          grind
        rw [e4]
        exact Int.dvd_sub e1 (Int.dvd_mul_of_dvd_right e2)
end K07

set_option Elab.async false
set_option linter.all false
set_option maxRecDepth 100000
set_option maxHeartbeats 4000000
namespace K07
open PySem PySem.Spec PyProof.Rows L2 DL
/-! ### the plain law -/
section
variable {p n k : Int}
theorem tm_mod {nm a : Int} : ∀ i, tm p nm a i % p = (a * nm ^ i) % p
  | 0 => by simp [tm]
  | i + 1 => by
    unfold tm
    rw [red_mod, Int.mul_emod, tm_mod i, ← Int.mul_emod, Int.pow_succ, Int.mul_assoc]
theorem lof_mod (pat : List (Int × Int × Int)) (i : Nat) : lof p n pat i % p = pof n pat i % p := by
  induction pat with
  | nil => rfl
  | cons e l ih =>
    unfold lof pof at *
    simp only [List.map_cons, List.sum_cons]
    rw [Int.add_emod, ih, tm_mod, ← Int.add_emod]
theorem lof_pof (pat : List (Int × Int × Int)) (i : Nat) : red p (lof p n pat i) = red p (pof n pat i) := red_congr (lof_mod pat i)
theorem names_ne {u v u' v' : Int} (hu : 0 ≤ u) (hu1 : u < n) (hv : 0 ≤ v) (hv1 : v < n) (hu' : 0 ≤ u') (hu1' : u' < n) (hv' : 0 ≤ v') (hv1' : v' < n) (hne : (u, v) ≠ (u', v')) (hp : n * n < p) : ¬ p ∣ ((1 + u' * n + v') - (1 + u * n + v)) := by
  intro hd
  have b1 : u * n ≤ (n - 1) * n := Int.mul_le_mul_of_nonneg_right (by omega) (by omega)
  have b2 : u' * n ≤ (n - 1) * n := Int.mul_le_mul_of_nonneg_right (by omega) (by omega)
  have b3 : 0 ≤ u * n := Int.mul_nonneg hu (by omega)
  have b4 : 0 ≤ u' * n := Int.mul_nonneg hu' (by omega)
  rw [Int.sub_mul] at b1 b2
  have hz : (1 + u' * n + v') - (1 + u * n + v) = 0 := Int.eq_zero_of_dvd_of_natAbs_lt_natAbs hd (by omega)
  apply hne
  have e1 : (u' * n + v') / n = u' := by
    rw [Int.add_comm, Int.add_mul_ediv_right _ _ (by omega), Int.ediv_eq_zero_of_lt hv' hv1']
    omega
  have e2 : (u * n + v) / n = u := by
    rw [Int.add_comm, Int.add_mul_ediv_right _ _ (by omega), Int.ediv_eq_zero_of_lt hv hv1]
    omega
  have e3 : u' * n + v' = u * n + v := by omega
  have hu2 : u = u' := by rw [← e1, ← e2, e3]
  subst hu2
  rw [show v = v' by omega]
theorem pat_van (hP : IsP p) (h3 : 3 < p) (hpn : n * n < p) {pat : List (Int × Int × Int)} (hp : Pat p n pat) (h0 : pat ≠ []) (hk : pat.length ≤ k.toNat) : ¬ ∀ i, i < k.toNat → red p (pof n pat i) = 0 := by
  intro hz
  have hsp : ∀ i, sp (pat.map fun e => (1 + e.1 * n + e.2.1, e.2.2)) i = pof n pat i := fun i => by
    unfold sp pof
    rw [List.map_map]
    rfl
  refine van hP _ (pat.map fun e => (1 + e.1 * n + e.2.1, e.2.2)) k.toNat rfl (by simpa using h0) (by simpa using hk) ?_ ?_ ?_
  · intro g hg
    obtain ⟨e, he, rfl⟩ := List.mem_map.mp hg
    obtain ⟨_, _, _, a0, a1, a2⟩ := hp.ok e he
    intro hd
    exact a0 (Int.eq_zero_of_dvd_of_natAbs_lt_natAbs hd (by show e.2.2.natAbs < _; omega))
  · refine List.pairwise_map.mpr (hp.nd.imp_of_mem fun {a b} ha hb h => ?_)
    obtain ⟨x1, x2, x3, _⟩ := hp.ok a ha
    obtain ⟨y1, y2, y3, _⟩ := hp.ok b hb
    exact names_ne x1 (by omega) (by omega) x3 y1 (by omega) (by omega) y3 h hpn
  · intro i hi
    rw [hsp]
    have := red_mod (p := p) (pof n pat i)
    rw [hz i hi, Int.zero_emod] at this
    exact Int.dvd_of_emod_eq_zero this.symm
end
end K07

set_option Elab.async false
set_option linter.all false
set_option maxRecDepth 100000
set_option maxHeartbeats 4000000
namespace K07
open PySem PySem.Spec PyProof.Rows L2 DL
/-! ### one table -/
theorem Fi.small {i : Int} (h : i.natAbs < 2 ^ 10) : Fi 0 11 (.int i) := by
  have f := Fi.int (i := i) (by omega)
  refine ⟨f.lay, f.sh, f.nd, f.dep, f.lv, ?_, f.ok⟩
  have hl : i.natAbs.log2 < 10 := by
    rcases Nat.eq_zero_or_pos i.natAbs with e | e
    · rw [e]; decide
    · exact (Nat.log2_lt (by omega)).mpr h
  rw [PyData.weight]
  split <;> omega
def entP (e : Int × Int × Int) : PyData := .tuple [.tuple [.int e.1, .int e.2.1], .int e.2.2]
theorem py_ents {S : Sto} : ∀ l : List (Int × Int × Int), pyOfL S (l.map entD) = some (l.map entP)
  | [] => rfl
  | e :: l => by
    rw [List.map_cons, pyOfL, py_ents l]
    rfl
theorem py_pat {S : Sto} {l : List (Int × Int × Int)} : pyOf S (.tup (l.map entD)) = some (.tuple (l.map entP)) := by
  rw [pyOf, py_ents]
  rfl
theorem fi_pat {p n : Int} {pat : List (Int × Int × Int)} (hp : Pat p n pat) (hn : n ≤ 24) (h1 : p < 2 ^ 30) : Fi 3 (276 * 59) (.tuple (pat.map entP)) :=
  (Fi.tuple (d := 2) (w := 58) fun q hq => by
    obtain ⟨e, he, rfl⟩ := List.mem_map.mp hq
    obtain ⟨x0, x1, x2, a0, a1, a2⟩ := hp.ok e he
    exact (Fi.tup2 (Fi.tup2 (Fi.small (by omega)) (Fi.small (by omega))) ((Fi.int31 (by omega)).mono (Nat.zero_le _) (Nat.le_refl _))).mono (by omega) (by omega)).mono (by omega) (by
      rw [List.length_map]
      have := hp.len
      omega)
theorem eqvA_ints : ∀ a b : List Int, PyData.eqvAll (a.map PyData.int) (b.map PyData.int) = decide (a = b)
  | [], [] => rfl
  | x :: a, y :: b => by
    rw [List.map_cons, List.map_cons, PyData.eqvAll, PyData.eqv, eqvA_ints a b]
    by_cases h : x = y
    · by_cases h2 : a = b
      · simp [h, h2]
      · simp [h, h2]
    · simp [h]
  | [], _ :: _ => rfl
  | _ :: _, [] => rfl
theorem shaped_ints (l : List Int) : SeqAt.shaped (.tuple (l.map PyData.int)) = true := by
  unfold SeqAt.shaped
  rw [PyData.canLay0, lay_ints, PyData.depth, depth_ints]
  rfl
theorem eq_tI {S : Sto} {n : Bool} {a b : List Int} : p_eq n (tI a) (tI b) S = .ok (.bl (if n = true then !decide (a = b) else decide (a = b))) S := by
  unfold p_eq
  rw [py_tI, py_tI]
  show (if _ then _ else _) = _
  rw [if_pos ⟨shaped_ints a, shaped_ints b⟩, PyData.eqv, eqvA_ints]
section
variable {G : Gx} {S : Sto} {p n k : Int}
theorem is_integer_eq {x : Int} : m_is_integer G [.int x] S = .ok (.bl true) S := by
  refine eq_wp ?_
  rw [m_is_integer, fnR_eq]
  show wp (ret S (c_is_integer G [some (.int x)] S)) _
  unfold c_is_integer
  (try simp -implicitDefEqProofs (disch := first | omega | (simp only [List.length_map, List.length_cons, List.length_nil, List.length_range, List.length_append, List.length_replicate]; omega)) only [DL.e_d, DL.e_op, DL.e_un, DL.e_test, DL.e_asB, DL.e_and, DL.e_or, DL.e_not, DL.e_if, DL.e_andV, DL.e_orV, DL.e_notV, DL.e_chain, DL.e_nil, DL.e_cons, DL.e_tup, DL.e_lst, DL.e_cb, DL.e_callK, DL.e_meth, DL.e_methP, DL.e_smeth, DL.e_cval, DL.e_fld, DL.e_prop, DL.e_star, DL.e_ps0, DL.e_ps, DL.e_dispK, DL.e_dispT, DL.e_dK0, DL.e_dT0, DL.e_frz, DL.e_no, DL.e_part, DL.e_sl, DL.s_set, DL.s_asg, DL.s_nx, DL.s_seq, DL.s_expr, DL.s_ret, DL.s_retN, DL.s_brk, DL.s_cont, DL.s_stuck, DL.s_ifS, DL.s_aug, DL.s_par, DL.s_par3, DL.s_setI, DL.s_fldS, DL.g_name_eq, DL.g_nil_eq, DL.g_cons_eq, DL.g_tup_eq, DL.v_add, DL.v_addI, DL.v_sub, DL.v_neg, DL.v_lt, DL.v_le, DL.v_gt, DL.v_ge, DL.v_eq, DL.v_isN, DL.v_tupcat, DL.Res.bind_ok, DL.Res.bindN_ok, DL.ret_rt, DL.ret_nx, DL.ev_v0, DL.ev_vs, DL.ev_a1, DL.ev_a2, DL.ev_a3, DL.ev_a4, List.set_cons_zero, List.set_cons_succ, decide_true, decide_false, Bool.not_true, Bool.not_false, if_true, Bool.false_eq_true, if_false, DL.e_cb, DL.e_yes, DL.wp_ok, DL.wp_bind, DL.wp_bindN, DL.wp_ret, DL.retQ_rt, DL.retQ_nx, DL.wp_fin, DL.FQ_nx, DL.FQ_ct, DL.FQ_bk, DL.FQ_rt, DL.addO_some, DL.addO_none, DL.isCon_self, DL.v_mulC, DL.v_fdivC, DL.v_modC, DL.ix_t0, DL.ix_t1, DL.ix_t2, DL.ix_l0, DL.ix_l1, DL.ix_l2, DL.isi_int_int, DL.isi_int_bool, DL.min2_eq, DL.max2_eq, DL.tup_f, DL.lst_f, DL.list_tup, DL.list_lst, DL.tuple_lst, DL.len_lst, DL.len_tup, DL.wipeE, DL.lcB, DL.cls_obj, DL.flds_obj, DL.isiO_obj, DL.v_augS, DL.v_methK, DL.v_makeK, DL.ev_a5, DL.ev_a6, DL.ev_a7, DL.v_mulB, eq_self, and_self, List.length_nil, List.length_cons, List.getElem?_cons_zero, List.getElem?_cons_succ, DL.list_tup_t, List.append_assoc, List.nil_append, List.cons_append])
  all_goals first | exact ⟨rfl, trivial⟩ | exact ⟨trivial, trivial⟩ | exact trivial | exact ⟨rfl, rfl⟩
theorem largest_eq (w : Sc p n k) : m_Scheme_largest_amount G [plan p n k] S = .ok (.int ((p - 1) / 2)) S := by
  refine eq_wp ?_
  rw [m_Scheme_largest_amount, fnR_eq]
  show wp (ret S (c_Scheme_largest_amount G [some (.obj 0 [.int p, .int n, .int k])] S)) _
  unfold c_Scheme_largest_amount
  (try simp -implicitDefEqProofs (disch := first | omega | (simp only [List.length_map, List.length_cons, List.length_nil, List.length_range, List.length_append, List.length_replicate]; omega)) only [DL.e_d, DL.e_op, DL.e_un, DL.e_test, DL.e_asB, DL.e_and, DL.e_or, DL.e_not, DL.e_if, DL.e_andV, DL.e_orV, DL.e_notV, DL.e_chain, DL.e_nil, DL.e_cons, DL.e_tup, DL.e_lst, DL.e_cb, DL.e_callK, DL.e_meth, DL.e_methP, DL.e_smeth, DL.e_cval, DL.e_fld, DL.e_prop, DL.e_star, DL.e_ps0, DL.e_ps, DL.e_dispK, DL.e_dispT, DL.e_dK0, DL.e_dT0, DL.e_frz, DL.e_no, DL.e_part, DL.e_sl, DL.s_set, DL.s_asg, DL.s_nx, DL.s_seq, DL.s_expr, DL.s_ret, DL.s_retN, DL.s_brk, DL.s_cont, DL.s_stuck, DL.s_ifS, DL.s_aug, DL.s_par, DL.s_par3, DL.s_setI, DL.s_fldS, DL.g_name_eq, DL.g_nil_eq, DL.g_cons_eq, DL.g_tup_eq, DL.v_add, DL.v_addI, DL.v_sub, DL.v_neg, DL.v_lt, DL.v_le, DL.v_gt, DL.v_ge, DL.v_eq, DL.v_isN, DL.v_tupcat, DL.Res.bind_ok, DL.Res.bindN_ok, DL.ret_rt, DL.ret_nx, DL.ev_v0, DL.ev_vs, DL.ev_a1, DL.ev_a2, DL.ev_a3, DL.ev_a4, List.set_cons_zero, List.set_cons_succ, decide_true, decide_false, Bool.not_true, Bool.not_false, if_true, Bool.false_eq_true, if_false, DL.e_cb, DL.e_yes, DL.wp_ok, DL.wp_bind, DL.wp_bindN, DL.wp_ret, DL.retQ_rt, DL.retQ_nx, DL.wp_fin, DL.FQ_nx, DL.FQ_ct, DL.FQ_bk, DL.FQ_rt, DL.addO_some, DL.addO_none, DL.isCon_self, DL.v_mulC, DL.v_fdivC, DL.v_modC, DL.ix_t0, DL.ix_t1, DL.ix_t2, DL.ix_l0, DL.ix_l1, DL.ix_l2, DL.isi_int_int, DL.isi_int_bool, DL.min2_eq, DL.max2_eq, DL.tup_f, DL.lst_f, DL.list_tup, DL.list_lst, DL.tuple_lst, DL.len_lst, DL.len_tup, DL.wipeE, DL.lcB, DL.cls_obj, DL.flds_obj, DL.isiO_obj, DL.v_augS, DL.v_methK, DL.v_makeK, DL.ev_a5, DL.ev_a6, DL.ev_a7, DL.v_mulB, eq_self, and_self, List.length_nil, List.length_cons, List.getElem?_cons_zero, List.getElem?_cons_succ, DL.list_tup_t, List.append_assoc, List.nil_append, List.cons_append])
  all_goals first | exact ⟨rfl, trivial⟩ | exact ⟨trivial, trivial⟩ | exact trivial | exact ⟨rfl, rfl⟩
theorem is_reduced_eq (w : Sc p n k) {x : Int} (h1 : -(p / 2) ≤ x) (h2 : x ≤ p / 2) : m_is_reduced G [plan p n k, .int x] S = .ok (.bl true) S := by
  refine eq_wp ?_
  have w0 := w.po
  have w1 := w.p0
  have habs : p_abs [.int x] S = .ok (.int (if x < 0 then -x else x)) S := rfl
  have hle : (if x < 0 then -x else x) ≤ (p - 1) / 2 := by split <;> omega
  rw [m_is_reduced, fnR_eq]
  show wp (ret S (c_is_reduced G [some (plan p n k), some (.int x)] S)) _
  unfold c_is_reduced
  (try simp -implicitDefEqProofs (disch := first | omega | (simp only [List.length_map, List.length_cons, List.length_nil, List.length_range, List.length_append, List.length_replicate]; omega)) only [DL.e_d, DL.e_op, DL.e_un, DL.e_test, DL.e_asB, DL.e_and, DL.e_or, DL.e_not, DL.e_if, DL.e_andV, DL.e_orV, DL.e_notV, DL.e_chain, DL.e_nil, DL.e_cons, DL.e_tup, DL.e_lst, DL.e_cb, DL.e_callK, DL.e_meth, DL.e_methP, DL.e_smeth, DL.e_cval, DL.e_fld, DL.e_prop, DL.e_star, DL.e_ps0, DL.e_ps, DL.e_dispK, DL.e_dispT, DL.e_dK0, DL.e_dT0, DL.e_frz, DL.e_no, DL.e_part, DL.e_sl, DL.s_set, DL.s_asg, DL.s_nx, DL.s_seq, DL.s_expr, DL.s_ret, DL.s_retN, DL.s_brk, DL.s_cont, DL.s_stuck, DL.s_ifS, DL.s_aug, DL.s_par, DL.s_par3, DL.s_setI, DL.s_fldS, DL.g_name_eq, DL.g_nil_eq, DL.g_cons_eq, DL.g_tup_eq, DL.v_add, DL.v_addI, DL.v_sub, DL.v_neg, DL.v_lt, DL.v_le, DL.v_gt, DL.v_ge, DL.v_eq, DL.v_isN, DL.v_tupcat, DL.Res.bind_ok, DL.Res.bindN_ok, DL.ret_rt, DL.ret_nx, DL.ev_v0, DL.ev_vs, DL.ev_a1, DL.ev_a2, DL.ev_a3, DL.ev_a4, List.set_cons_zero, List.set_cons_succ, decide_true, decide_false, Bool.not_true, Bool.not_false, if_true, Bool.false_eq_true, if_false, DL.e_cb, DL.e_yes, DL.wp_ok, DL.wp_bind, DL.wp_bindN, DL.wp_ret, DL.retQ_rt, DL.retQ_nx, DL.wp_fin, DL.FQ_nx, DL.FQ_ct, DL.FQ_bk, DL.FQ_rt, DL.addO_some, DL.addO_none, DL.isCon_self, DL.v_mulC, DL.v_fdivC, DL.v_modC, DL.ix_t0, DL.ix_t1, DL.ix_t2, DL.ix_l0, DL.ix_l1, DL.ix_l2, DL.isi_int_int, DL.isi_int_bool, DL.min2_eq, DL.max2_eq, DL.tup_f, DL.lst_f, DL.list_tup, DL.list_lst, DL.tuple_lst, DL.len_lst, DL.len_tup, DL.wipeE, DL.lcB, DL.cls_obj, DL.flds_obj, DL.isiO_obj, DL.v_augS, DL.v_methK, DL.v_makeK, DL.ev_a5, DL.ev_a6, DL.ev_a7, DL.v_mulB, eq_self, and_self, List.length_nil, List.length_cons, List.getElem?_cons_zero, List.getElem?_cons_succ, DL.list_tup_t, List.append_assoc, List.nil_append, List.cons_append, mp_is_integer, is_integer_eq (G := G) (S := S) (x := x), habs, clsOf_plan, largest_eq (G := G) (S := S) w])
  rw [decide_eq_true hle]
  all_goals first | exact ⟨rfl, trivial⟩ | exact ⟨trivial, trivial⟩ | exact trivial | exact ⟨rfl, rfl⟩
theorem is_ledger_eq (w : Sc p n k) {f : Nat → Int} : m_is_ledger G [plan p n k, tI (fL k.toNat fun i => red p (f i))] S = .ok (.bl true) S := by
  refine eq_wp ?_
  have w0 := w.po
  have w1 := w.p0
  have w2 := w.k0
  have w3 := w.k1
  have hL : ((List.map D.int (fL k.toNat fun i => red p (f i))).length : Int) = k := by
    rw [List.length_map, fL_len, Int.toNat_of_nonneg (by omega)]
  have hisi : p_isi [tI (fL k.toNat fun i => red p (f i)), .ty "tuple"] S = .ok (.bl true) S := rfl
  rw [m_is_ledger, fnR_eq]
  show wp (ret S (c_is_ledger G [some (plan p n k), some (tI (fL k.toNat fun i => red p (f i))), none] S)) _
  unfold c_is_ledger
  have hall : p_all [.lst ((List.range k.toNat).map fun _ => D.bl true)] S = .ok (.bl true) S := by
    rw [all_bls (g := fun _ => true)]
    simp
  have hlc : c_lc (c_it (c_var 1)) (g_name 2) c_yes (c_cb (mp_is_reduced G) (c_cons (c_var 0) (c_cons (c_var 2) c_nil))) [2] [some (plan p n k), some (tI (fL k.toNat fun i => red p (f i))), none] S = .ok (.lst ((List.range k.toNat).map fun _ => D.bl true)) S := by
    refine lc_eqM (List.range k.toNat) (fun i => D.int (red p (f i))) (fun _ => D.bl true) (it_eq (S1 := S) (x := tI (fL k.toNat fun i => red p (f i))) (by (try simp -implicitDefEqProofs (disch := first | omega | (simp only [List.length_map, List.length_cons, List.length_nil, List.length_range, List.length_append, List.length_replicate]; omega)) only [DL.e_d, DL.e_op, DL.e_un, DL.e_test, DL.e_asB, DL.e_and, DL.e_or, DL.e_not, DL.e_if, DL.e_andV, DL.e_orV, DL.e_notV, DL.e_chain, DL.e_nil, DL.e_cons, DL.e_tup, DL.e_lst, DL.e_cb, DL.e_callK, DL.e_meth, DL.e_methP, DL.e_smeth, DL.e_cval, DL.e_fld, DL.e_prop, DL.e_star, DL.e_ps0, DL.e_ps, DL.e_dispK, DL.e_dispT, DL.e_dK0, DL.e_dT0, DL.e_frz, DL.e_no, DL.e_part, DL.e_sl, DL.s_set, DL.s_asg, DL.s_nx, DL.s_seq, DL.s_expr, DL.s_ret, DL.s_retN, DL.s_brk, DL.s_cont, DL.s_stuck, DL.s_ifS, DL.s_aug, DL.s_par, DL.s_par3, DL.s_setI, DL.s_fldS, DL.g_name_eq, DL.g_nil_eq, DL.g_cons_eq, DL.g_tup_eq, DL.v_add, DL.v_addI, DL.v_sub, DL.v_neg, DL.v_lt, DL.v_le, DL.v_gt, DL.v_ge, DL.v_eq, DL.v_isN, DL.v_tupcat, DL.Res.bind_ok, DL.Res.bindN_ok, DL.ret_rt, DL.ret_nx, DL.ev_v0, DL.ev_vs, DL.ev_a1, DL.ev_a2, DL.ev_a3, DL.ev_a4, List.set_cons_zero, List.set_cons_succ, decide_true, decide_false, Bool.not_true, Bool.not_false, if_true, Bool.false_eq_true, if_false, DL.e_cb, DL.e_yes, DL.wp_ok, DL.wp_bind, DL.wp_bindN, DL.wp_ret, DL.retQ_rt, DL.retQ_nx, DL.wp_fin, DL.FQ_nx, DL.FQ_ct, DL.FQ_bk, DL.FQ_rt, DL.addO_some, DL.addO_none, DL.isCon_self, DL.v_mulC, DL.v_fdivC, DL.v_modC, DL.ix_t0, DL.ix_t1, DL.ix_t2, DL.ix_l0, DL.ix_l1, DL.ix_l2, DL.isi_int_int, DL.isi_int_bool, DL.min2_eq, DL.max2_eq, DL.tup_f, DL.lst_f, DL.list_tup, DL.list_lst, DL.tuple_lst, DL.len_lst, DL.len_tup, DL.wipeE, DL.lcB, DL.cls_obj, DL.flds_obj, DL.isiO_obj, DL.v_augS, DL.v_methK, DL.v_makeK, DL.ev_a5, DL.ev_a6, DL.ev_a7, DL.v_mulB, eq_self, and_self, List.length_nil, List.length_cons, List.getElem?_cons_zero, List.getElem?_cons_succ, DL.list_tup_t, List.append_assoc, List.nil_append, List.cons_append])) (by unfold tI fL; rw [List.map_map]; rfl)) (by rw [List.length_range]; omega) (ok_one (by unfold tI fL; rw [List.map_map]; rfl)) fun i hi => ?_
    have hr := red_half (p := p) (x := f i) (by omega) w0
    (try simp -implicitDefEqProofs (disch := first | omega | (simp only [List.length_map, List.length_cons, List.length_nil, List.length_range, List.length_append, List.length_replicate]; omega)) only [DL.e_d, DL.e_op, DL.e_un, DL.e_test, DL.e_asB, DL.e_and, DL.e_or, DL.e_not, DL.e_if, DL.e_andV, DL.e_orV, DL.e_notV, DL.e_chain, DL.e_nil, DL.e_cons, DL.e_tup, DL.e_lst, DL.e_cb, DL.e_callK, DL.e_meth, DL.e_methP, DL.e_smeth, DL.e_cval, DL.e_fld, DL.e_prop, DL.e_star, DL.e_ps0, DL.e_ps, DL.e_dispK, DL.e_dispT, DL.e_dK0, DL.e_dT0, DL.e_frz, DL.e_no, DL.e_part, DL.e_sl, DL.s_set, DL.s_asg, DL.s_nx, DL.s_seq, DL.s_expr, DL.s_ret, DL.s_retN, DL.s_brk, DL.s_cont, DL.s_stuck, DL.s_ifS, DL.s_aug, DL.s_par, DL.s_par3, DL.s_setI, DL.s_fldS, DL.g_name_eq, DL.g_nil_eq, DL.g_cons_eq, DL.g_tup_eq, DL.v_add, DL.v_addI, DL.v_sub, DL.v_neg, DL.v_lt, DL.v_le, DL.v_gt, DL.v_ge, DL.v_eq, DL.v_isN, DL.v_tupcat, DL.Res.bind_ok, DL.Res.bindN_ok, DL.ret_rt, DL.ret_nx, DL.ev_v0, DL.ev_vs, DL.ev_a1, DL.ev_a2, DL.ev_a3, DL.ev_a4, List.set_cons_zero, List.set_cons_succ, decide_true, decide_false, Bool.not_true, Bool.not_false, if_true, Bool.false_eq_true, if_false, DL.e_cb, DL.e_yes, DL.wp_ok, DL.wp_bind, DL.wp_bindN, DL.wp_ret, DL.retQ_rt, DL.retQ_nx, DL.wp_fin, DL.FQ_nx, DL.FQ_ct, DL.FQ_bk, DL.FQ_rt, DL.addO_some, DL.addO_none, DL.isCon_self, DL.v_mulC, DL.v_fdivC, DL.v_modC, DL.ix_t0, DL.ix_t1, DL.ix_t2, DL.ix_l0, DL.ix_l1, DL.ix_l2, DL.isi_int_int, DL.isi_int_bool, DL.min2_eq, DL.max2_eq, DL.tup_f, DL.lst_f, DL.list_tup, DL.list_lst, DL.tuple_lst, DL.len_lst, DL.len_tup, DL.wipeE, DL.lcB, DL.cls_obj, DL.flds_obj, DL.isiO_obj, DL.v_augS, DL.v_methK, DL.v_makeK, DL.ev_a5, DL.ev_a6, DL.ev_a7, DL.v_mulB, eq_self, and_self, List.length_nil, List.length_cons, List.getElem?_cons_zero, List.getElem?_cons_succ, DL.list_tup_t, List.append_assoc, List.nil_append, List.cons_append, mp_is_reduced, is_reduced_eq (G := G) (S := S) w hr.1 hr.2])
  (try simp -implicitDefEqProofs (disch := first | omega | (simp only [List.length_map, List.length_cons, List.length_nil, List.length_range, List.length_append, List.length_replicate]; omega)) only [DL.e_d, DL.e_op, DL.e_un, DL.e_test, DL.e_asB, DL.e_and, DL.e_or, DL.e_not, DL.e_if, DL.e_andV, DL.e_orV, DL.e_notV, DL.e_chain, DL.e_nil, DL.e_cons, DL.e_tup, DL.e_lst, DL.e_cb, DL.e_callK, DL.e_meth, DL.e_methP, DL.e_smeth, DL.e_cval, DL.e_fld, DL.e_prop, DL.e_star, DL.e_ps0, DL.e_ps, DL.e_dispK, DL.e_dispT, DL.e_dK0, DL.e_dT0, DL.e_frz, DL.e_no, DL.e_part, DL.e_sl, DL.s_set, DL.s_asg, DL.s_nx, DL.s_seq, DL.s_expr, DL.s_ret, DL.s_retN, DL.s_brk, DL.s_cont, DL.s_stuck, DL.s_ifS, DL.s_aug, DL.s_par, DL.s_par3, DL.s_setI, DL.s_fldS, DL.g_name_eq, DL.g_nil_eq, DL.g_cons_eq, DL.g_tup_eq, DL.v_add, DL.v_addI, DL.v_sub, DL.v_neg, DL.v_lt, DL.v_le, DL.v_gt, DL.v_ge, DL.v_eq, DL.v_isN, DL.v_tupcat, DL.Res.bind_ok, DL.Res.bindN_ok, DL.ret_rt, DL.ret_nx, DL.ev_v0, DL.ev_vs, DL.ev_a1, DL.ev_a2, DL.ev_a3, DL.ev_a4, List.set_cons_zero, List.set_cons_succ, decide_true, decide_false, Bool.not_true, Bool.not_false, if_true, Bool.false_eq_true, if_false, DL.e_cb, DL.e_yes, DL.wp_ok, DL.wp_bind, DL.wp_bindN, DL.wp_ret, DL.retQ_rt, DL.retQ_nx, DL.wp_fin, DL.FQ_nx, DL.FQ_ct, DL.FQ_bk, DL.FQ_rt, DL.addO_some, DL.addO_none, DL.isCon_self, DL.v_mulC, DL.v_fdivC, DL.v_modC, DL.ix_t0, DL.ix_t1, DL.ix_t2, DL.ix_l0, DL.ix_l1, DL.ix_l2, DL.isi_int_int, DL.isi_int_bool, DL.min2_eq, DL.max2_eq, DL.tup_f, DL.lst_f, DL.list_tup, DL.list_lst, DL.tuple_lst, DL.len_lst, DL.len_tup, DL.wipeE, DL.lcB, DL.cls_obj, DL.flds_obj, DL.isiO_obj, DL.v_augS, DL.v_methK, DL.v_makeK, DL.ev_a5, DL.ev_a6, DL.ev_a7, DL.v_mulB, eq_self, and_self, List.length_nil, List.length_cons, List.getElem?_cons_zero, List.getElem?_cons_succ, DL.list_tup_t, List.append_assoc, List.nil_append, List.cons_append, hL, hisi, clsOf_plan, length_eq, hlc, hall])
  all_goals first | exact ⟨rfl, trivial⟩ | exact ⟨trivial, trivial⟩ | exact trivial | exact ⟨rfl, rfl⟩
end
end K07

set_option Elab.async false
set_option linter.all false
set_option maxRecDepth 100000
set_option maxHeartbeats 4000000
namespace K07
open PySem PySem.Spec PyProof.Rows L2 DL
/-! ### one table is right -/
section
variable {G : Gx} {S : Sto} {p n k : Int}
theorem one_right_eq (w : Sc p n k) (hP : IsP p) {pat : List (Int × Int × Int)} (hp : Pat p n pat) : m__law_one_right G [plan p n k, .tup (pat.map entD)] S = .ok (.bl true) S := by
  refine eq_wp ?_
  have w0 := w.po
  have w1 := w.p0
  have w2 := w.k0
  have w3 := w.k1
  have w4 := w.n1
  have w5 := w.p1
  obtain ⟨X, hX, _⟩ := repr_ex (S := S) (x := .tup (pat.map entD)) py_pat (fi_pat hp w.n1 w.p1) rfl (by decide) (by decide)
  have hlo : m_ledger_of G [plan p n k, .tup (pat.map entD)] S = .ok (tI (fL k.toNat fun i => red p (pof n pat i))) S := by
    rw [ledger_of_eq w (by have := hp.len; omega) (fun e he => by
      obtain ⟨x0, x1, x2, a0, a1, a2⟩ := hp.ok e he
      omega)]
    rw [fL_ext fun i _ => lof_pof pat i]
  generalize hF : (fL k.toNat fun i => red p (pof n pat i)) = F at hlo
  have hFl : F.length ≤ 24 := by rw [← hF, fL_len]; omega
  have hFb : ∀ x ∈ F, x.natAbs < 2 ^ 31 := fun x hx => by
    rw [← hF] at hx
    obtain ⟨i, _, rfl⟩ := List.mem_map.mp hx
    have := red_range (p := p) (x := pof n pat i) (by omega)
    omega
  have hfi := fi_row (m := 24) hFl hFb
  have h2 : pyOf S (.lst [tI F, tI F]) = some (.list [.tuple (F.map PyData.int), .tuple (F.map PyData.int)]) := by
    rw [pyOf, pyOfL, py_tI, pyOfL, py_tI, pyOfL]
    rfl
  obtain ⟨Y, hY, hYo⟩ := repr_ex (S := S) h2 (Fi.lst2 hfi hfi) rfl (by decide) (by decide)
  have hll : m__law_ledger G [.tup (pat.map entD), plan p n k] S = .ok (tI F) S := by rw [law_ledger_eq w hp, hF]
  have hil : m_is_ledger G [plan p n k, tI F] S = .ok (.bl true) S := by rw [← hF]; exact is_ledger_eq w
  have hz : ∀ S, p_mul false (.tup [.int 0]) (.int k) S = .ok (tI (fL k.toNat fun _ => 0)) S := fun S => by
    rw [mul_tup w2 (by omega), rep_z]
  have hgp : gP D.non [1, 0] [] [D.tup (pat.map entD), plan p n k] = [plan p n k, .tup (pat.map entD)] := rfl
  rw [m__law_one_right, fnR_eq]
  show wp (ret S (c__law_one_right G [some (plan p n k), some (.tup (pat.map entD)), none, none, none] S)) _
  unfold c__law_one_right
  (try simp -implicitDefEqProofs (disch := first | omega | (simp only [List.length_map, List.length_cons, List.length_nil, List.length_range, List.length_append, List.length_replicate]; omega)) only [DL.e_d, DL.e_op, DL.e_un, DL.e_test, DL.e_asB, DL.e_and, DL.e_or, DL.e_not, DL.e_if, DL.e_andV, DL.e_orV, DL.e_notV, DL.e_chain, DL.e_nil, DL.e_cons, DL.e_tup, DL.e_lst, DL.e_cb, DL.e_callK, DL.e_meth, DL.e_methP, DL.e_smeth, DL.e_cval, DL.e_fld, DL.e_prop, DL.e_star, DL.e_ps0, DL.e_ps, DL.e_dispK, DL.e_dispT, DL.e_dK0, DL.e_dT0, DL.e_frz, DL.e_no, DL.e_part, DL.e_sl, DL.s_set, DL.s_asg, DL.s_nx, DL.s_seq, DL.s_expr, DL.s_ret, DL.s_retN, DL.s_brk, DL.s_cont, DL.s_stuck, DL.s_ifS, DL.s_aug, DL.s_par, DL.s_par3, DL.s_setI, DL.s_fldS, DL.g_name_eq, DL.g_nil_eq, DL.g_cons_eq, DL.g_tup_eq, DL.v_add, DL.v_addI, DL.v_sub, DL.v_neg, DL.v_lt, DL.v_le, DL.v_gt, DL.v_ge, DL.v_eq, DL.v_isN, DL.v_tupcat, DL.Res.bind_ok, DL.Res.bindN_ok, DL.ret_rt, DL.ret_nx, DL.ev_v0, DL.ev_vs, DL.ev_a1, DL.ev_a2, DL.ev_a3, DL.ev_a4, List.set_cons_zero, List.set_cons_succ, decide_true, decide_false, Bool.not_true, Bool.not_false, if_true, Bool.false_eq_true, if_false, DL.e_cb, DL.e_yes, DL.wp_ok, DL.wp_bind, DL.wp_bindN, DL.wp_ret, DL.retQ_rt, DL.retQ_nx, DL.wp_fin, DL.FQ_nx, DL.FQ_ct, DL.FQ_bk, DL.FQ_rt, DL.addO_some, DL.addO_none, DL.isCon_self, DL.v_mulC, DL.v_fdivC, DL.v_modC, DL.ix_t0, DL.ix_t1, DL.ix_t2, DL.ix_l0, DL.ix_l1, DL.ix_l2, DL.isi_int_int, DL.isi_int_bool, DL.min2_eq, DL.max2_eq, DL.tup_f, DL.lst_f, DL.list_tup, DL.list_lst, DL.tuple_lst, DL.len_lst, DL.len_tup, DL.wipeE, DL.lcB, DL.cls_obj, DL.flds_obj, DL.isiO_obj, DL.v_augS, DL.v_methK, DL.v_makeK, DL.ev_a5, DL.ev_a6, DL.ev_a7, DL.v_mulB, eq_self, and_self, List.length_nil, List.length_cons, List.getElem?_cons_zero, List.getElem?_cons_succ, DL.list_tup_t, List.append_assoc, List.nil_append, List.cons_append, mp__law_ledger, hll, hX, mp_ledger_of, hlo, hgp, hY, DL.ne_str hYo, DL.ne_str, mp_is_ledger, hil, v_isB, clsOf_plan, length_eq, hz, eq_tI])
  rw [List.length_map]
  by_cases hb : 0 < (pat.length : Int)
  · rw [decide_eq_true hb, if_pos rfl]
    by_cases hb2 : (pat.length : Int) ≤ k
    · have hF0 : F ≠ fL k.toNat fun _ => 0 := fun e => by
        rw [← hF] at e
        refine pat_van (k := k) hP w1 w.pn hp (by rintro rfl; simp at hb) (by omega) fun i hi => ?_
        have := congrArg (fun l => l.getD i 0) e
        simp only [fL_getD hi] at this
        exact this
      rw [decide_eq_true hb2, decide_eq_false hF0]
      (try simp -implicitDefEqProofs (disch := first | omega | (simp only [List.length_map, List.length_cons, List.length_nil, List.length_range, List.length_append, List.length_replicate]; omega)) only [DL.e_d, DL.e_op, DL.e_un, DL.e_test, DL.e_asB, DL.e_and, DL.e_or, DL.e_not, DL.e_if, DL.e_andV, DL.e_orV, DL.e_notV, DL.e_chain, DL.e_nil, DL.e_cons, DL.e_tup, DL.e_lst, DL.e_cb, DL.e_callK, DL.e_meth, DL.e_methP, DL.e_smeth, DL.e_cval, DL.e_fld, DL.e_prop, DL.e_star, DL.e_ps0, DL.e_ps, DL.e_dispK, DL.e_dispT, DL.e_dK0, DL.e_dT0, DL.e_frz, DL.e_no, DL.e_part, DL.e_sl, DL.s_set, DL.s_asg, DL.s_nx, DL.s_seq, DL.s_expr, DL.s_ret, DL.s_retN, DL.s_brk, DL.s_cont, DL.s_stuck, DL.s_ifS, DL.s_aug, DL.s_par, DL.s_par3, DL.s_setI, DL.s_fldS, DL.g_name_eq, DL.g_nil_eq, DL.g_cons_eq, DL.g_tup_eq, DL.v_add, DL.v_addI, DL.v_sub, DL.v_neg, DL.v_lt, DL.v_le, DL.v_gt, DL.v_ge, DL.v_eq, DL.v_isN, DL.v_tupcat, DL.Res.bind_ok, DL.Res.bindN_ok, DL.ret_rt, DL.ret_nx, DL.ev_v0, DL.ev_vs, DL.ev_a1, DL.ev_a2, DL.ev_a3, DL.ev_a4, List.set_cons_zero, List.set_cons_succ, decide_true, decide_false, Bool.not_true, Bool.not_false, if_true, Bool.false_eq_true, if_false, DL.e_cb, DL.e_yes, DL.wp_ok, DL.wp_bind, DL.wp_bindN, DL.wp_ret, DL.retQ_rt, DL.retQ_nx, DL.wp_fin, DL.FQ_nx, DL.FQ_ct, DL.FQ_bk, DL.FQ_rt, DL.addO_some, DL.addO_none, DL.isCon_self, DL.v_mulC, DL.v_fdivC, DL.v_modC, DL.ix_t0, DL.ix_t1, DL.ix_t2, DL.ix_l0, DL.ix_l1, DL.ix_l2, DL.isi_int_int, DL.isi_int_bool, DL.min2_eq, DL.max2_eq, DL.tup_f, DL.lst_f, DL.list_tup, DL.list_lst, DL.tuple_lst, DL.len_lst, DL.len_tup, DL.wipeE, DL.lcB, DL.cls_obj, DL.flds_obj, DL.isiO_obj, DL.v_augS, DL.v_methK, DL.v_makeK, DL.ev_a5, DL.ev_a6, DL.ev_a7, DL.v_mulB, eq_self, and_self, List.length_nil, List.length_cons, List.getElem?_cons_zero, List.getElem?_cons_succ, DL.list_tup_t, List.append_assoc, List.nil_append, List.cons_append])
      all_goals first | exact ⟨rfl, trivial⟩ | exact ⟨trivial, trivial⟩ | exact trivial | exact ⟨rfl, rfl⟩
    · rw [decide_eq_false hb2]
      (try simp -implicitDefEqProofs (disch := first | omega | (simp only [List.length_map, List.length_cons, List.length_nil, List.length_range, List.length_append, List.length_replicate]; omega)) only [DL.e_d, DL.e_op, DL.e_un, DL.e_test, DL.e_asB, DL.e_and, DL.e_or, DL.e_not, DL.e_if, DL.e_andV, DL.e_orV, DL.e_notV, DL.e_chain, DL.e_nil, DL.e_cons, DL.e_tup, DL.e_lst, DL.e_cb, DL.e_callK, DL.e_meth, DL.e_methP, DL.e_smeth, DL.e_cval, DL.e_fld, DL.e_prop, DL.e_star, DL.e_ps0, DL.e_ps, DL.e_dispK, DL.e_dispT, DL.e_dK0, DL.e_dT0, DL.e_frz, DL.e_no, DL.e_part, DL.e_sl, DL.s_set, DL.s_asg, DL.s_nx, DL.s_seq, DL.s_expr, DL.s_ret, DL.s_retN, DL.s_brk, DL.s_cont, DL.s_stuck, DL.s_ifS, DL.s_aug, DL.s_par, DL.s_par3, DL.s_setI, DL.s_fldS, DL.g_name_eq, DL.g_nil_eq, DL.g_cons_eq, DL.g_tup_eq, DL.v_add, DL.v_addI, DL.v_sub, DL.v_neg, DL.v_lt, DL.v_le, DL.v_gt, DL.v_ge, DL.v_eq, DL.v_isN, DL.v_tupcat, DL.Res.bind_ok, DL.Res.bindN_ok, DL.ret_rt, DL.ret_nx, DL.ev_v0, DL.ev_vs, DL.ev_a1, DL.ev_a2, DL.ev_a3, DL.ev_a4, List.set_cons_zero, List.set_cons_succ, decide_true, decide_false, Bool.not_true, Bool.not_false, if_true, Bool.false_eq_true, if_false, DL.e_cb, DL.e_yes, DL.wp_ok, DL.wp_bind, DL.wp_bindN, DL.wp_ret, DL.retQ_rt, DL.retQ_nx, DL.wp_fin, DL.FQ_nx, DL.FQ_ct, DL.FQ_bk, DL.FQ_rt, DL.addO_some, DL.addO_none, DL.isCon_self, DL.v_mulC, DL.v_fdivC, DL.v_modC, DL.ix_t0, DL.ix_t1, DL.ix_t2, DL.ix_l0, DL.ix_l1, DL.ix_l2, DL.isi_int_int, DL.isi_int_bool, DL.min2_eq, DL.max2_eq, DL.tup_f, DL.lst_f, DL.list_tup, DL.list_lst, DL.tuple_lst, DL.len_lst, DL.len_tup, DL.wipeE, DL.lcB, DL.cls_obj, DL.flds_obj, DL.isiO_obj, DL.v_augS, DL.v_methK, DL.v_makeK, DL.ev_a5, DL.ev_a6, DL.ev_a7, DL.v_mulB, eq_self, and_self, List.length_nil, List.length_cons, List.getElem?_cons_zero, List.getElem?_cons_succ, DL.list_tup_t, List.append_assoc, List.nil_append, List.cons_append])
      all_goals first | exact ⟨rfl, trivial⟩ | exact ⟨trivial, trivial⟩ | exact trivial | exact ⟨rfl, rfl⟩
  · rw [decide_eq_false hb, if_neg Bool.false_ne_true]
    (try simp -implicitDefEqProofs (disch := first | omega | (simp only [List.length_map, List.length_cons, List.length_nil, List.length_range, List.length_append, List.length_replicate]; omega)) only [DL.e_d, DL.e_op, DL.e_un, DL.e_test, DL.e_asB, DL.e_and, DL.e_or, DL.e_not, DL.e_if, DL.e_andV, DL.e_orV, DL.e_notV, DL.e_chain, DL.e_nil, DL.e_cons, DL.e_tup, DL.e_lst, DL.e_cb, DL.e_callK, DL.e_meth, DL.e_methP, DL.e_smeth, DL.e_cval, DL.e_fld, DL.e_prop, DL.e_star, DL.e_ps0, DL.e_ps, DL.e_dispK, DL.e_dispT, DL.e_dK0, DL.e_dT0, DL.e_frz, DL.e_no, DL.e_part, DL.e_sl, DL.s_set, DL.s_asg, DL.s_nx, DL.s_seq, DL.s_expr, DL.s_ret, DL.s_retN, DL.s_brk, DL.s_cont, DL.s_stuck, DL.s_ifS, DL.s_aug, DL.s_par, DL.s_par3, DL.s_setI, DL.s_fldS, DL.g_name_eq, DL.g_nil_eq, DL.g_cons_eq, DL.g_tup_eq, DL.v_add, DL.v_addI, DL.v_sub, DL.v_neg, DL.v_lt, DL.v_le, DL.v_gt, DL.v_ge, DL.v_eq, DL.v_isN, DL.v_tupcat, DL.Res.bind_ok, DL.Res.bindN_ok, DL.ret_rt, DL.ret_nx, DL.ev_v0, DL.ev_vs, DL.ev_a1, DL.ev_a2, DL.ev_a3, DL.ev_a4, List.set_cons_zero, List.set_cons_succ, decide_true, decide_false, Bool.not_true, Bool.not_false, if_true, Bool.false_eq_true, if_false, DL.e_cb, DL.e_yes, DL.wp_ok, DL.wp_bind, DL.wp_bindN, DL.wp_ret, DL.retQ_rt, DL.retQ_nx, DL.wp_fin, DL.FQ_nx, DL.FQ_ct, DL.FQ_bk, DL.FQ_rt, DL.addO_some, DL.addO_none, DL.isCon_self, DL.v_mulC, DL.v_fdivC, DL.v_modC, DL.ix_t0, DL.ix_t1, DL.ix_t2, DL.ix_l0, DL.ix_l1, DL.ix_l2, DL.isi_int_int, DL.isi_int_bool, DL.min2_eq, DL.max2_eq, DL.tup_f, DL.lst_f, DL.list_tup, DL.list_lst, DL.tuple_lst, DL.len_lst, DL.len_tup, DL.wipeE, DL.lcB, DL.cls_obj, DL.flds_obj, DL.isiO_obj, DL.v_augS, DL.v_methK, DL.v_makeK, DL.ev_a5, DL.ev_a6, DL.ev_a7, DL.v_mulB, eq_self, and_self, List.length_nil, List.length_cons, List.getElem?_cons_zero, List.getElem?_cons_succ, DL.list_tup_t, List.append_assoc, List.nil_append, List.cons_append])
    all_goals first | exact ⟨rfl, trivial⟩ | exact ⟨trivial, trivial⟩ | exact trivial | exact ⟨rfl, rfl⟩
end
end K07

set_option Elab.async false
set_option linter.all false
set_option maxRecDepth 100000
set_option maxHeartbeats 4000000
namespace K07
open PySem PySem.Spec PyProof.Rows L2 DL
/-! ### slices -/
section
variable {S : Sto} {b : Bool} {ds : List D} {m : Int}
theorem cut_take (h : 0 ≤ m) : DL.cutD ds none (some m) = ds.take m.toNat := by
  obtain ⟨j, rfl⟩ := Int.eq_ofNat_of_zero_le h
  unfold DL.cutD
  rw [HT.sIx_none, HT.sIx_nat, List.drop_zero, Nat.sub_zero, Int.toNat_natCast]
  rcases Nat.le_total j ds.length with q | q
  · rw [Nat.min_eq_left q]
  · rw [Nat.min_eq_right q, List.take_of_length_le (Nat.le_refl _), List.take_of_length_le q]
theorem cut_drop (h : 0 ≤ m) : DL.cutD ds (some m) none = ds.drop m.toNat := by
  obtain ⟨j, rfl⟩ := Int.eq_ofNat_of_zero_le h
  unfold DL.cutD
  rw [HT.sIx_none, HT.sIx_nat, Int.toNat_natCast]
  rcases Nat.le_total j ds.length with q | q
  · rw [Nat.min_eq_left q, List.take_of_length_le (by rw [List.length_drop]; omega)]
  · rw [Nat.min_eq_right q, List.drop_of_length_le q, List.drop_of_length_le (Nat.le_refl _)]
    simp
theorem sl_take (h : 0 ≤ m) : p_sl b (.tup ds) none (some m) S = .ok (.tup (ds.take m.toNat)) S := by
  show Res.ok (D.tup (DL.cutD ds none (some m))) S = _
  rw [cut_take h]
theorem sl_drop (h : 0 ≤ m) : p_sl b (.tup ds) (some m) none S = .ok (.tup (ds.drop m.toNat)) S := by
  show Res.ok (D.tup (DL.cutD ds (some m) none)) S = _
  rw [cut_drop h]
theorem add_lsts {xs ys : List D} : p_add b (.lst xs) (.lst ys) S = p_lst b (xs ++ ys) S := rfl
theorem sl_takeL (h : 0 ≤ m) (hl : ds.length ≤ 1000000) : p_sl false (.lst ds) none (some m) S = .ok (.lst (ds.take m.toNat)) S := by
  show p_lst false (DL.cutD ds none (some m)) S = _
  rw [cut_take h, lst_f (by rw [List.length_take]; omega)]
def p_rev (b : Bool) (x : D) (S1 : Sto) : Res D := match x with
  | .tup ds => p_tup ds.reverse S1
  | .wtp ds => p_tup ds.reverse S1
  | x => match itemsOf x S1 with
    | some ds => p_lst b ds.reverse S1
    | none => .stuck
theorem e_rev {a : ECode} {ρ : DL.Env} : c_rev b a ρ S = (a ρ S).bind (p_rev b) := rfl
theorem rev_tup (h : ds.length ≤ 1000000) : p_rev b (.tup ds) S = .ok (.tup ds.reverse) S := tup_f (by rw [List.length_reverse]; exact h)
end
/-! ### the law -/
def patD (q : List (Int × Int × Int)) : D := .tup (q.map entD)
section
variable {G : Gx} {S : Sto} {p n k : Int}
theorem cut_ledger_eq {ds : List D} {m : Int} (h : 0 ≤ m) : m_cut_ledger G [.tup ds, .int m] S = .ok (.tup (ds.take m.toNat)) S := by
  refine eq_wp ?_
  rw [m_cut_ledger, fnR_eq]
  show wp (ret S (c_cut_ledger G [some (.tup ds), some (.int m)] S)) _
  unfold c_cut_ledger
  (try simp -implicitDefEqProofs (disch := first | omega | (simp only [List.length_map, List.length_cons, List.length_nil, List.length_range, List.length_append, List.length_replicate]; omega)) only [DL.e_d, DL.e_op, DL.e_un, DL.e_test, DL.e_asB, DL.e_and, DL.e_or, DL.e_not, DL.e_if, DL.e_andV, DL.e_orV, DL.e_notV, DL.e_chain, DL.e_nil, DL.e_cons, DL.e_tup, DL.e_lst, DL.e_cb, DL.e_callK, DL.e_meth, DL.e_methP, DL.e_smeth, DL.e_cval, DL.e_fld, DL.e_prop, DL.e_star, DL.e_ps0, DL.e_ps, DL.e_dispK, DL.e_dispT, DL.e_dK0, DL.e_dT0, DL.e_frz, DL.e_no, DL.e_part, DL.e_sl, DL.s_set, DL.s_asg, DL.s_nx, DL.s_seq, DL.s_expr, DL.s_ret, DL.s_retN, DL.s_brk, DL.s_cont, DL.s_stuck, DL.s_ifS, DL.s_aug, DL.s_par, DL.s_par3, DL.s_setI, DL.s_fldS, DL.g_name_eq, DL.g_nil_eq, DL.g_cons_eq, DL.g_tup_eq, DL.v_add, DL.v_addI, DL.v_sub, DL.v_neg, DL.v_lt, DL.v_le, DL.v_gt, DL.v_ge, DL.v_eq, DL.v_isN, DL.v_tupcat, DL.Res.bind_ok, DL.Res.bindN_ok, DL.ret_rt, DL.ret_nx, DL.ev_v0, DL.ev_vs, DL.ev_a1, DL.ev_a2, DL.ev_a3, DL.ev_a4, List.set_cons_zero, List.set_cons_succ, decide_true, decide_false, Bool.not_true, Bool.not_false, if_true, Bool.false_eq_true, if_false, DL.e_cb, DL.e_yes, DL.wp_ok, DL.wp_bind, DL.wp_bindN, DL.wp_ret, DL.retQ_rt, DL.retQ_nx, DL.wp_fin, DL.FQ_nx, DL.FQ_ct, DL.FQ_bk, DL.FQ_rt, DL.addO_some, DL.addO_none, DL.isCon_self, DL.v_mulC, DL.v_fdivC, DL.v_modC, DL.ix_t0, DL.ix_t1, DL.ix_t2, DL.ix_l0, DL.ix_l1, DL.ix_l2, DL.isi_int_int, DL.isi_int_bool, DL.min2_eq, DL.max2_eq, DL.tup_f, DL.lst_f, DL.list_tup, DL.list_lst, DL.tuple_lst, DL.len_lst, DL.len_tup, DL.wipeE, DL.lcB, DL.cls_obj, DL.flds_obj, DL.isiO_obj, DL.v_augS, DL.v_methK, DL.v_makeK, DL.ev_a5, DL.ev_a6, DL.ev_a7, DL.v_mulB, eq_self, and_self, List.length_nil, List.length_cons, List.getElem?_cons_zero, List.getElem?_cons_succ, DL.list_tup_t, List.append_assoc, List.nil_append, List.cons_append, sl_take h])
  all_goals first | exact ⟨rfl, trivial⟩ | exact ⟨trivial, trivial⟩ | exact trivial | exact ⟨rfl, rfl⟩
theorem shortened_eq {m : Int} (w : Sc p n m) (hp : p ∈ prs07) : m_Scheme_shortened G [plan p n k, .int m] S = .ok (plan p n m) S := by
  refine eq_wp ?_
  rw [m_Scheme_shortened, fnR_eq]
  show wp (ret S (c_Scheme_shortened G [some (.obj 0 [.int p, .int n, .int k]), some (.int m)] S)) _
  unfold c_Scheme_shortened
  (try simp -implicitDefEqProofs (disch := first | omega | (simp only [List.length_map, List.length_cons, List.length_nil, List.length_range, List.length_append, List.length_replicate]; omega)) only [DL.e_d, DL.e_op, DL.e_un, DL.e_test, DL.e_asB, DL.e_and, DL.e_or, DL.e_not, DL.e_if, DL.e_andV, DL.e_orV, DL.e_notV, DL.e_chain, DL.e_nil, DL.e_cons, DL.e_tup, DL.e_lst, DL.e_cb, DL.e_callK, DL.e_meth, DL.e_methP, DL.e_smeth, DL.e_cval, DL.e_fld, DL.e_prop, DL.e_star, DL.e_ps0, DL.e_ps, DL.e_dispK, DL.e_dispT, DL.e_dK0, DL.e_dT0, DL.e_frz, DL.e_no, DL.e_part, DL.e_sl, DL.s_set, DL.s_asg, DL.s_nx, DL.s_seq, DL.s_expr, DL.s_ret, DL.s_retN, DL.s_brk, DL.s_cont, DL.s_stuck, DL.s_ifS, DL.s_aug, DL.s_par, DL.s_par3, DL.s_setI, DL.s_fldS, DL.g_name_eq, DL.g_nil_eq, DL.g_cons_eq, DL.g_tup_eq, DL.v_add, DL.v_addI, DL.v_sub, DL.v_neg, DL.v_lt, DL.v_le, DL.v_gt, DL.v_ge, DL.v_eq, DL.v_isN, DL.v_tupcat, DL.Res.bind_ok, DL.Res.bindN_ok, DL.ret_rt, DL.ret_nx, DL.ev_v0, DL.ev_vs, DL.ev_a1, DL.ev_a2, DL.ev_a3, DL.ev_a4, List.set_cons_zero, List.set_cons_succ, decide_true, decide_false, Bool.not_true, Bool.not_false, if_true, Bool.false_eq_true, if_false, DL.e_cb, DL.e_yes, DL.wp_ok, DL.wp_bind, DL.wp_bindN, DL.wp_ret, DL.retQ_rt, DL.retQ_nx, DL.wp_fin, DL.FQ_nx, DL.FQ_ct, DL.FQ_bk, DL.FQ_rt, DL.addO_some, DL.addO_none, DL.isCon_self, DL.v_mulC, DL.v_fdivC, DL.v_modC, DL.ix_t0, DL.ix_t1, DL.ix_t2, DL.ix_l0, DL.ix_l1, DL.ix_l2, DL.isi_int_int, DL.isi_int_bool, DL.min2_eq, DL.max2_eq, DL.tup_f, DL.lst_f, DL.list_tup, DL.list_lst, DL.tuple_lst, DL.len_lst, DL.len_tup, DL.wipeE, DL.lcB, DL.cls_obj, DL.flds_obj, DL.isiO_obj, DL.v_augS, DL.v_methK, DL.v_makeK, DL.ev_a5, DL.ev_a6, DL.ev_a7, DL.v_mulB, eq_self, and_self, List.length_nil, List.length_cons, List.getElem?_cons_zero, List.getElem?_cons_succ, DL.list_tup_t, List.append_assoc, List.nil_append, List.cons_append, plan_make (G := G) w hp])
  all_goals first | exact ⟨rfl, trivial⟩ | exact ⟨trivial, trivial⟩ | exact trivial | exact ⟨rfl, rfl⟩
theorem fL_take {K m : Nat} {f : Nat → Int} (h : m ≤ K) : (iD (fL K f)).take m = iD (fL m f) := by
  unfold iD fL
  rw [← List.map_take, ← List.map_take, List.take_range, Nat.min_eq_left h]
theorem sub_ledger_eq (w : Sc p n k) {pat : List (Int × Int × Int)} (hp : Pat p n pat) : m_ledger_of G [plan p n k, .tup (pat.map entD)] S = .ok (tI (fL k.toNat fun i => red p (pof n pat i))) S := by
  rw [ledger_of_eq w (by have := hp.len; omega) (fun e he => by
    obtain ⟨x0, x1, x2, a0, a1, a2⟩ := hp.ok e he
    have := w.p1
    omega)]
  rw [fL_ext fun i _ => lof_pof pat i]
theorem law_tells : Tells 63 (m_law G) := fun ns hn _ => by
  suffices h : wp (m_law G [.scr (ns.map D.int)] []) fun d _ => d = .bl true by
    obtain ⟨a, S, e, rfl⟩ := wp_ex h
    exact ⟨S, e⟩
  rw [m_law, fnR_eq]
  show wp (ret [] (c_law G [some (.scr (iD ns)), none, none, none, none, none, none, none, none, none, none] [])) _
  unfold c_law
  (try simp -implicitDefEqProofs (disch := first | omega | (simp only [List.length_map, List.length_cons, List.length_nil, List.length_range, List.length_append, List.length_replicate]; omega)) only [DL.e_d, DL.e_op, DL.e_un, DL.e_test, DL.e_asB, DL.e_and, DL.e_or, DL.e_not, DL.e_if, DL.e_andV, DL.e_orV, DL.e_notV, DL.e_chain, DL.e_nil, DL.e_cons, DL.e_tup, DL.e_lst, DL.e_cb, DL.e_callK, DL.e_meth, DL.e_methP, DL.e_smeth, DL.e_cval, DL.e_fld, DL.e_prop, DL.e_star, DL.e_ps0, DL.e_ps, DL.e_dispK, DL.e_dispT, DL.e_dK0, DL.e_dT0, DL.e_frz, DL.e_no, DL.e_part, DL.e_sl, DL.s_set, DL.s_asg, DL.s_nx, DL.s_seq, DL.s_expr, DL.s_ret, DL.s_retN, DL.s_brk, DL.s_cont, DL.s_stuck, DL.s_ifS, DL.s_aug, DL.s_par, DL.s_par3, DL.s_setI, DL.s_fldS, DL.g_name_eq, DL.g_nil_eq, DL.g_cons_eq, DL.g_tup_eq, DL.v_add, DL.v_addI, DL.v_sub, DL.v_neg, DL.v_lt, DL.v_le, DL.v_gt, DL.v_ge, DL.v_eq, DL.v_isN, DL.v_tupcat, DL.Res.bind_ok, DL.Res.bindN_ok, DL.ret_rt, DL.ret_nx, DL.ev_v0, DL.ev_vs, DL.ev_a1, DL.ev_a2, DL.ev_a3, DL.ev_a4, List.set_cons_zero, List.set_cons_succ, decide_true, decide_false, Bool.not_true, Bool.not_false, if_true, Bool.false_eq_true, if_false, DL.e_cb, DL.e_yes, DL.wp_ok, DL.wp_bind, DL.wp_bindN, DL.wp_ret, DL.retQ_rt, DL.retQ_nx, DL.wp_fin, DL.FQ_nx, DL.FQ_ct, DL.FQ_bk, DL.FQ_rt, DL.addO_some, DL.addO_none, DL.isCon_self, DL.v_mulC, DL.v_fdivC, DL.v_modC, DL.ix_t0, DL.ix_t1, DL.ix_t2, DL.ix_l0, DL.ix_l1, DL.ix_l2, DL.isi_int_int, DL.isi_int_bool, DL.min2_eq, DL.max2_eq, DL.tup_f, DL.lst_f, DL.list_tup, DL.list_lst, DL.tuple_lst, DL.len_lst, DL.len_tup, DL.wipeE, DL.lcB, DL.cls_obj, DL.flds_obj, DL.isiO_obj, DL.v_augS, DL.v_methK, DL.v_makeK, DL.ev_a5, DL.ev_a6, DL.ev_a7, DL.v_mulB, eq_self, and_self, List.length_nil, List.length_cons, List.getElem?_cons_zero, List.getElem?_cons_succ, DL.list_tup_t, List.append_assoc, List.nil_append, List.cons_append])
  refine wp_of (source_wp (G := G) hn) ?_
  rintro _ S0 ⟨rfl, h0⟩
  (try simp -implicitDefEqProofs (disch := first | omega | (simp only [List.length_map, List.length_cons, List.length_nil, List.length_range, List.length_append, List.length_replicate]; omega)) only [DL.e_d, DL.e_op, DL.e_un, DL.e_test, DL.e_asB, DL.e_and, DL.e_or, DL.e_not, DL.e_if, DL.e_andV, DL.e_orV, DL.e_notV, DL.e_chain, DL.e_nil, DL.e_cons, DL.e_tup, DL.e_lst, DL.e_cb, DL.e_callK, DL.e_meth, DL.e_methP, DL.e_smeth, DL.e_cval, DL.e_fld, DL.e_prop, DL.e_star, DL.e_ps0, DL.e_ps, DL.e_dispK, DL.e_dispT, DL.e_dK0, DL.e_dT0, DL.e_frz, DL.e_no, DL.e_part, DL.e_sl, DL.s_set, DL.s_asg, DL.s_nx, DL.s_seq, DL.s_expr, DL.s_ret, DL.s_retN, DL.s_brk, DL.s_cont, DL.s_stuck, DL.s_ifS, DL.s_aug, DL.s_par, DL.s_par3, DL.s_setI, DL.s_fldS, DL.g_name_eq, DL.g_nil_eq, DL.g_cons_eq, DL.g_tup_eq, DL.v_add, DL.v_addI, DL.v_sub, DL.v_neg, DL.v_lt, DL.v_le, DL.v_gt, DL.v_ge, DL.v_eq, DL.v_isN, DL.v_tupcat, DL.Res.bind_ok, DL.Res.bindN_ok, DL.ret_rt, DL.ret_nx, DL.ev_v0, DL.ev_vs, DL.ev_a1, DL.ev_a2, DL.ev_a3, DL.ev_a4, List.set_cons_zero, List.set_cons_succ, decide_true, decide_false, Bool.not_true, Bool.not_false, if_true, Bool.false_eq_true, if_false, DL.e_cb, DL.e_yes, DL.wp_ok, DL.wp_bind, DL.wp_bindN, DL.wp_ret, DL.retQ_rt, DL.retQ_nx, DL.wp_fin, DL.FQ_nx, DL.FQ_ct, DL.FQ_bk, DL.FQ_rt, DL.addO_some, DL.addO_none, DL.isCon_self, DL.v_mulC, DL.v_fdivC, DL.v_modC, DL.ix_t0, DL.ix_t1, DL.ix_t2, DL.ix_l0, DL.ix_l1, DL.ix_l2, DL.isi_int_int, DL.isi_int_bool, DL.min2_eq, DL.max2_eq, DL.tup_f, DL.lst_f, DL.list_tup, DL.list_lst, DL.tuple_lst, DL.len_lst, DL.len_tup, DL.wipeE, DL.lcB, DL.cls_obj, DL.flds_obj, DL.isiO_obj, DL.v_augS, DL.v_methK, DL.v_makeK, DL.ev_a5, DL.ev_a6, DL.ev_a7, DL.v_mulB, eq_self, and_self, List.length_nil, List.length_cons, List.getElem?_cons_zero, List.getElem?_cons_succ, DL.list_tup_t, List.append_assoc, List.nil_append, List.cons_append])
  refine wp_for (List.range (3 : Int).toNat) (fun (k : Nat) => D.int (0 + (k : Int))) (fun pre ρ S' => ∃ o2 o3 o4 o5 o6 o7 o8 o9 o10, ρ = [some (.scr (iD ns)), some (.ref 1), o2, o3, o4, o5, o6, o7, o8, o9, o10] ∧ SkE (4000 * pre.length) S') (rng1 (by (try simp -implicitDefEqProofs (disch := first | omega | (simp only [List.length_map, List.length_cons, List.length_nil, List.length_range, List.length_append, List.length_replicate]; omega)) only [DL.e_d, DL.e_op, DL.e_un, DL.e_test, DL.e_asB, DL.e_and, DL.e_or, DL.e_not, DL.e_if, DL.e_andV, DL.e_orV, DL.e_notV, DL.e_chain, DL.e_nil, DL.e_cons, DL.e_tup, DL.e_lst, DL.e_cb, DL.e_callK, DL.e_meth, DL.e_methP, DL.e_smeth, DL.e_cval, DL.e_fld, DL.e_prop, DL.e_star, DL.e_ps0, DL.e_ps, DL.e_dispK, DL.e_dispT, DL.e_dK0, DL.e_dT0, DL.e_frz, DL.e_no, DL.e_part, DL.e_sl, DL.s_set, DL.s_asg, DL.s_nx, DL.s_seq, DL.s_expr, DL.s_ret, DL.s_retN, DL.s_brk, DL.s_cont, DL.s_stuck, DL.s_ifS, DL.s_aug, DL.s_par, DL.s_par3, DL.s_setI, DL.s_fldS, DL.g_name_eq, DL.g_nil_eq, DL.g_cons_eq, DL.g_tup_eq, DL.v_add, DL.v_addI, DL.v_sub, DL.v_neg, DL.v_lt, DL.v_le, DL.v_gt, DL.v_ge, DL.v_eq, DL.v_isN, DL.v_tupcat, DL.Res.bind_ok, DL.Res.bindN_ok, DL.ret_rt, DL.ret_nx, DL.ev_v0, DL.ev_vs, DL.ev_a1, DL.ev_a2, DL.ev_a3, DL.ev_a4, List.set_cons_zero, List.set_cons_succ, decide_true, decide_false, Bool.not_true, Bool.not_false, if_true, Bool.false_eq_true, if_false, DL.e_cb, DL.e_yes, DL.wp_ok, DL.wp_bind, DL.wp_bindN, DL.wp_ret, DL.retQ_rt, DL.retQ_nx, DL.wp_fin, DL.FQ_nx, DL.FQ_ct, DL.FQ_bk, DL.FQ_rt, DL.addO_some, DL.addO_none, DL.isCon_self, DL.v_mulC, DL.v_fdivC, DL.v_modC, DL.ix_t0, DL.ix_t1, DL.ix_t2, DL.ix_l0, DL.ix_l1, DL.ix_l2, DL.isi_int_int, DL.isi_int_bool, DL.min2_eq, DL.max2_eq, DL.tup_f, DL.lst_f, DL.list_tup, DL.list_lst, DL.tuple_lst, DL.len_lst, DL.len_tup, DL.wipeE, DL.lcB, DL.cls_obj, DL.flds_obj, DL.isiO_obj, DL.v_augS, DL.v_methK, DL.v_makeK, DL.ev_a5, DL.ev_a6, DL.ev_a7, DL.v_mulB, eq_self, and_self, List.length_nil, List.length_cons, List.getElem?_cons_zero, List.getElem?_cons_succ, DL.list_tup_t, List.append_assoc, List.nil_append, List.cons_append])) ⟨by omega, by omega⟩) (fun _ _ _ _ => ok_nil) ⟨none, none, none, none, none, none, none, none, none, rfl, h0⟩ ?_ ?_
  · rintro pre u post ρ S' hr ⟨o2, o3, o4, o5, o6, o7, o8, o9, o10, rfl, h'⟩
    obtain ⟨u0, u1, u2⟩ := range_pre hr
    have u3 : pre.length < 3 := u2
    rw [List.length_append, List.length_singleton]
    generalize hJ : 4000 * pre.length = J at h'
    have hJ2 : J ≤ 12000 := by omega
    (try simp -implicitDefEqProofs (disch := first | omega | (simp only [List.length_map, List.length_cons, List.length_nil, List.length_range, List.length_append, List.length_replicate]; omega)) only [DL.e_d, DL.e_op, DL.e_un, DL.e_test, DL.e_asB, DL.e_and, DL.e_or, DL.e_not, DL.e_if, DL.e_andV, DL.e_orV, DL.e_notV, DL.e_chain, DL.e_nil, DL.e_cons, DL.e_tup, DL.e_lst, DL.e_cb, DL.e_callK, DL.e_meth, DL.e_methP, DL.e_smeth, DL.e_cval, DL.e_fld, DL.e_prop, DL.e_star, DL.e_ps0, DL.e_ps, DL.e_dispK, DL.e_dispT, DL.e_dK0, DL.e_dT0, DL.e_frz, DL.e_no, DL.e_part, DL.e_sl, DL.s_set, DL.s_asg, DL.s_nx, DL.s_seq, DL.s_expr, DL.s_ret, DL.s_retN, DL.s_brk, DL.s_cont, DL.s_stuck, DL.s_ifS, DL.s_aug, DL.s_par, DL.s_par3, DL.s_setI, DL.s_fldS, DL.g_name_eq, DL.g_nil_eq, DL.g_cons_eq, DL.g_tup_eq, DL.v_add, DL.v_addI, DL.v_sub, DL.v_neg, DL.v_lt, DL.v_le, DL.v_gt, DL.v_ge, DL.v_eq, DL.v_isN, DL.v_tupcat, DL.Res.bind_ok, DL.Res.bindN_ok, DL.ret_rt, DL.ret_nx, DL.ev_v0, DL.ev_vs, DL.ev_a1, DL.ev_a2, DL.ev_a3, DL.ev_a4, List.set_cons_zero, List.set_cons_succ, decide_true, decide_false, Bool.not_true, Bool.not_false, if_true, Bool.false_eq_true, if_false, DL.e_cb, DL.e_yes, DL.wp_ok, DL.wp_bind, DL.wp_bindN, DL.wp_ret, DL.retQ_rt, DL.retQ_nx, DL.wp_fin, DL.FQ_nx, DL.FQ_ct, DL.FQ_bk, DL.FQ_rt, DL.addO_some, DL.addO_none, DL.isCon_self, DL.v_mulC, DL.v_fdivC, DL.v_modC, DL.ix_t0, DL.ix_t1, DL.ix_t2, DL.ix_l0, DL.ix_l1, DL.ix_l2, DL.isi_int_int, DL.isi_int_bool, DL.min2_eq, DL.max2_eq, DL.tup_f, DL.lst_f, DL.list_tup, DL.list_lst, DL.tuple_lst, DL.len_lst, DL.len_tup, DL.wipeE, DL.lcB, DL.cls_obj, DL.flds_obj, DL.isiO_obj, DL.v_augS, DL.v_methK, DL.v_makeK, DL.ev_a5, DL.ev_a6, DL.ev_a7, DL.v_mulB, eq_self, and_self, List.length_nil, List.length_cons, List.getElem?_cons_zero, List.getElem?_cons_succ, DL.list_tup_t, List.append_assoc, List.nil_append, List.cons_append])
    refine wp_of (law_scheme_wp h' (by omega)) ?_
    rintro _ S1 ⟨p, n, k, rfl, hp, w, h1, s1⟩
    have hP := prs07_isP hp
    have w0 := w.n0
    have w1 := w.n1
    have w2 := w.k0
    have w3 := w.k1
    (try simp -implicitDefEqProofs (disch := first | omega | (simp only [List.length_map, List.length_cons, List.length_nil, List.length_range, List.length_append, List.length_replicate]; omega)) only [DL.e_d, DL.e_op, DL.e_un, DL.e_test, DL.e_asB, DL.e_and, DL.e_or, DL.e_not, DL.e_if, DL.e_andV, DL.e_orV, DL.e_notV, DL.e_chain, DL.e_nil, DL.e_cons, DL.e_tup, DL.e_lst, DL.e_cb, DL.e_callK, DL.e_meth, DL.e_methP, DL.e_smeth, DL.e_cval, DL.e_fld, DL.e_prop, DL.e_star, DL.e_ps0, DL.e_ps, DL.e_dispK, DL.e_dispT, DL.e_dK0, DL.e_dT0, DL.e_frz, DL.e_no, DL.e_part, DL.e_sl, DL.s_set, DL.s_asg, DL.s_nx, DL.s_seq, DL.s_expr, DL.s_ret, DL.s_retN, DL.s_brk, DL.s_cont, DL.s_stuck, DL.s_ifS, DL.s_aug, DL.s_par, DL.s_par3, DL.s_setI, DL.s_fldS, DL.g_name_eq, DL.g_nil_eq, DL.g_cons_eq, DL.g_tup_eq, DL.v_add, DL.v_addI, DL.v_sub, DL.v_neg, DL.v_lt, DL.v_le, DL.v_gt, DL.v_ge, DL.v_eq, DL.v_isN, DL.v_tupcat, DL.Res.bind_ok, DL.Res.bindN_ok, DL.ret_rt, DL.ret_nx, DL.ev_v0, DL.ev_vs, DL.ev_a1, DL.ev_a2, DL.ev_a3, DL.ev_a4, List.set_cons_zero, List.set_cons_succ, decide_true, decide_false, Bool.not_true, Bool.not_false, if_true, Bool.false_eq_true, if_false, DL.e_cb, DL.e_yes, DL.wp_ok, DL.wp_bind, DL.wp_bindN, DL.wp_ret, DL.retQ_rt, DL.retQ_nx, DL.wp_fin, DL.FQ_nx, DL.FQ_ct, DL.FQ_bk, DL.FQ_rt, DL.addO_some, DL.addO_none, DL.isCon_self, DL.v_mulC, DL.v_fdivC, DL.v_modC, DL.ix_t0, DL.ix_t1, DL.ix_t2, DL.ix_l0, DL.ix_l1, DL.ix_l2, DL.isi_int_int, DL.isi_int_bool, DL.min2_eq, DL.max2_eq, DL.tup_f, DL.lst_f, DL.list_tup, DL.list_lst, DL.tuple_lst, DL.len_lst, DL.len_tup, DL.wipeE, DL.lcB, DL.cls_obj, DL.flds_obj, DL.isiO_obj, DL.v_augS, DL.v_methK, DL.v_makeK, DL.ev_a5, DL.ev_a6, DL.ev_a7, DL.v_mulB, eq_self, and_self, List.length_nil, List.length_cons, List.getElem?_cons_zero, List.getElem?_cons_succ, DL.list_tup_t, List.append_assoc, List.nil_append, List.cons_append])
    refine wp_of (law_table_wp w h1 (by omega)) ?_
    rintro _ S2 ⟨pat, rfl, hpat, h2, s2⟩
    have hpl := hpat.len
    obtain ⟨T, hT⟩ := h2.tail
    have hr1 : p_rev false (.tup (pat.map entD)) S2 = .ok (.tup (pat.map entD).reverse) S2 := rev_tup (by rw [List.length_map]; omega)
    have hr2 : p_rev false (.tup ((pat.map entD).reverse.take k.toNat)) S2 = .ok (.tup ((pat.map entD).reverse.take k.toNat).reverse) S2 := rev_tup (by rw [List.length_take, List.length_reverse, List.length_map]; omega)
    (try simp -implicitDefEqProofs (disch := first | omega | (simp only [List.length_map, List.length_cons, List.length_nil, List.length_range, List.length_append, List.length_replicate]; omega)) only [DL.e_d, DL.e_op, DL.e_un, DL.e_test, DL.e_asB, DL.e_and, DL.e_or, DL.e_not, DL.e_if, DL.e_andV, DL.e_orV, DL.e_notV, DL.e_chain, DL.e_nil, DL.e_cons, DL.e_tup, DL.e_lst, DL.e_cb, DL.e_callK, DL.e_meth, DL.e_methP, DL.e_smeth, DL.e_cval, DL.e_fld, DL.e_prop, DL.e_star, DL.e_ps0, DL.e_ps, DL.e_dispK, DL.e_dispT, DL.e_dK0, DL.e_dT0, DL.e_frz, DL.e_no, DL.e_part, DL.e_sl, DL.s_set, DL.s_asg, DL.s_nx, DL.s_seq, DL.s_expr, DL.s_ret, DL.s_retN, DL.s_brk, DL.s_cont, DL.s_stuck, DL.s_ifS, DL.s_aug, DL.s_par, DL.s_par3, DL.s_setI, DL.s_fldS, DL.g_name_eq, DL.g_nil_eq, DL.g_cons_eq, DL.g_tup_eq, DL.v_add, DL.v_addI, DL.v_sub, DL.v_neg, DL.v_lt, DL.v_le, DL.v_gt, DL.v_ge, DL.v_eq, DL.v_isN, DL.v_tupcat, DL.Res.bind_ok, DL.Res.bindN_ok, DL.ret_rt, DL.ret_nx, DL.ev_v0, DL.ev_vs, DL.ev_a1, DL.ev_a2, DL.ev_a3, DL.ev_a4, List.set_cons_zero, List.set_cons_succ, decide_true, decide_false, Bool.not_true, Bool.not_false, if_true, Bool.false_eq_true, if_false, DL.e_cb, DL.e_yes, DL.wp_ok, DL.wp_bind, DL.wp_bindN, DL.wp_ret, DL.retQ_rt, DL.retQ_nx, DL.wp_fin, DL.FQ_nx, DL.FQ_ct, DL.FQ_bk, DL.FQ_rt, DL.addO_some, DL.addO_none, DL.isCon_self, DL.v_mulC, DL.v_fdivC, DL.v_modC, DL.ix_t0, DL.ix_t1, DL.ix_t2, DL.ix_l0, DL.ix_l1, DL.ix_l2, DL.isi_int_int, DL.isi_int_bool, DL.min2_eq, DL.max2_eq, DL.tup_f, DL.lst_f, DL.list_tup, DL.list_lst, DL.tuple_lst, DL.len_lst, DL.len_tup, DL.wipeE, DL.lcB, DL.cls_obj, DL.flds_obj, DL.isiO_obj, DL.v_augS, DL.v_methK, DL.v_makeK, DL.ev_a5, DL.ev_a6, DL.ev_a7, DL.v_mulB, eq_self, and_self, List.length_nil, List.length_cons, List.getElem?_cons_zero, List.getElem?_cons_succ, DL.list_tup_t, List.append_assoc, List.nil_append, List.cons_append, clsOf_plan, accounts_eq, length_eq, sl_take, sl_drop, e_rev, hr1, hr2])
    refine wp_of (law_amount_wp w h2 (by omega)) ?_
    rintro _ S3 ⟨a, rfl, ha, h3, s3⟩
    have hT3 := hT.to h3 s3
    (try simp -implicitDefEqProofs (disch := first | omega | (simp only [List.length_map, List.length_cons, List.length_nil, List.length_range, List.length_append, List.length_replicate]; omega)) only [DL.e_d, DL.e_op, DL.e_un, DL.e_test, DL.e_asB, DL.e_and, DL.e_or, DL.e_not, DL.e_if, DL.e_andV, DL.e_orV, DL.e_notV, DL.e_chain, DL.e_nil, DL.e_cons, DL.e_tup, DL.e_lst, DL.e_cb, DL.e_callK, DL.e_meth, DL.e_methP, DL.e_smeth, DL.e_cval, DL.e_fld, DL.e_prop, DL.e_star, DL.e_ps0, DL.e_ps, DL.e_dispK, DL.e_dispT, DL.e_dK0, DL.e_dT0, DL.e_frz, DL.e_no, DL.e_part, DL.e_sl, DL.s_set, DL.s_asg, DL.s_nx, DL.s_seq, DL.s_expr, DL.s_ret, DL.s_retN, DL.s_brk, DL.s_cont, DL.s_stuck, DL.s_ifS, DL.s_aug, DL.s_par, DL.s_par3, DL.s_setI, DL.s_fldS, DL.g_name_eq, DL.g_nil_eq, DL.g_cons_eq, DL.g_tup_eq, DL.v_add, DL.v_addI, DL.v_sub, DL.v_neg, DL.v_lt, DL.v_le, DL.v_gt, DL.v_ge, DL.v_eq, DL.v_isN, DL.v_tupcat, DL.Res.bind_ok, DL.Res.bindN_ok, DL.ret_rt, DL.ret_nx, DL.ev_v0, DL.ev_vs, DL.ev_a1, DL.ev_a2, DL.ev_a3, DL.ev_a4, List.set_cons_zero, List.set_cons_succ, decide_true, decide_false, Bool.not_true, Bool.not_false, if_true, Bool.false_eq_true, if_false, DL.e_cb, DL.e_yes, DL.wp_ok, DL.wp_bind, DL.wp_bindN, DL.wp_ret, DL.retQ_rt, DL.retQ_nx, DL.wp_fin, DL.FQ_nx, DL.FQ_ct, DL.FQ_bk, DL.FQ_rt, DL.addO_some, DL.addO_none, DL.isCon_self, DL.v_mulC, DL.v_fdivC, DL.v_modC, DL.ix_t0, DL.ix_t1, DL.ix_t2, DL.ix_l0, DL.ix_l1, DL.ix_l2, DL.isi_int_int, DL.isi_int_bool, DL.min2_eq, DL.max2_eq, DL.tup_f, DL.lst_f, DL.list_tup, DL.list_lst, DL.tuple_lst, DL.len_lst, DL.len_tup, DL.wipeE, DL.lcB, DL.cls_obj, DL.flds_obj, DL.isiO_obj, DL.v_augS, DL.v_methK, DL.v_makeK, DL.ev_a5, DL.ev_a6, DL.ev_a7, DL.v_mulB, eq_self, and_self, List.length_nil, List.length_cons, List.getElem?_cons_zero, List.getElem?_cons_succ, DL.list_tup_t, List.append_assoc, List.nil_append, List.cons_append])
    refine wp_of (law_amount_wp w h3 (by omega)) ?_
    rintro _ S4 ⟨b, rfl, hb, h4, s4⟩
    have hT4 := hT3.to h4 s4
    have hN := hT4.len
    obtain ⟨ps, hps, hpl8, hL⟩ : ∃ ps : List (List (Int × Int × Int)), (∀ q ∈ ps, Pat p n q) ∧ ps.length = 8 ∧ [D.tup (List.map entD pat), D.tup [], D.tup (List.take (Int.toNat 1) (List.map entD pat)),
          D.tup (List.take k.toNat (List.map entD pat)), D.tup (List.drop k.toNat (List.map entD pat)),
          D.tup (List.take k.toNat (List.map entD pat).reverse).reverse] ++ [D.tup [D.tup [D.tup [D.int 0, D.int 1], D.int a]],
          D.tup [D.tup [D.tup [D.int (n - 1 - 1), D.int (n - 1)], D.int b]]] = ps.map patD := by
      refine ⟨[pat, [], pat.take 1, pat.take k.toNat, pat.drop k.toNat, (pat.reverse.take k.toNat).reverse, [(0, 1, a)], [(n - 1 - 1, n - 1, b)]], ?_, rfl, ?_⟩
      · have one : ∀ u v c, 0 ≤ u → u < v → v < n → Amt p c → Pat p n [(u, v, c)] := fun u v c h1 h2 h3 h4 => ⟨by simp, fun e he => by
          obtain rfl : e = (u, v, c) := by simpa using he
          exact ⟨h1, h2, h3, h4⟩, List.pairwise_singleton _ _⟩
        have hrs : (pat.reverse.take k.toNat).reverse.Sublist pat := by
          have := (List.take_sublist k.toNat pat.reverse).reverse
          rwa [List.reverse_reverse] at this
        intro q hq
        simp only [List.mem_cons, List.not_mem_nil, or_false] at hq
        rcases hq with rfl | rfl | rfl | rfl | rfl | rfl | rfl | rfl
        · exact hpat
        · exact hpat.sub (List.nil_sublist _)
        · exact hpat.sub (List.take_sublist _ _)
        · exact hpat.sub (List.take_sublist _ _)
        · exact hpat.sub (List.drop_sublist _ _)
        · exact hpat.sub hrs
        · exact one 0 1 a (by omega) (by omega) (by omega) ha
        · exact one _ _ b (by omega) (by omega) (by omega) hb
      · simp [patD, entD, List.map_take, List.map_drop, List.map_reverse]
    have hadd : p_add true (.lst [D.tup (List.map entD pat), D.tup [], D.tup (List.take (Int.toNat 1) (List.map entD pat)),
          D.tup (List.take k.toNat (List.map entD pat)), D.tup (List.drop k.toNat (List.map entD pat)),
          D.tup (List.take k.toNat (List.map entD pat).reverse).reverse]) (.lst [D.tup [D.tup [D.tup [D.int 0, D.int 1], D.int a]],
          D.tup [D.tup [D.tup [D.int (n - 1 - 1), D.int (n - 1)], D.int b]]]) S4 = .ok (.ref (T.length + 2)) (S4 ++ [some (.lst (ps.map patD))]) := by
      rw [add_lsts, hL, lst_t (by rw [List.length_map]; omega), hN]
    rw [hadd]
    have h5 := hT4.app (U := [some (.lst (ps.map patD))])
    (try simp -implicitDefEqProofs (disch := first | omega | (simp only [List.length_map, List.length_cons, List.length_nil, List.length_range, List.length_append, List.length_replicate]; omega)) only [DL.e_d, DL.e_op, DL.e_un, DL.e_test, DL.e_asB, DL.e_and, DL.e_or, DL.e_not, DL.e_if, DL.e_andV, DL.e_orV, DL.e_notV, DL.e_chain, DL.e_nil, DL.e_cons, DL.e_tup, DL.e_lst, DL.e_cb, DL.e_callK, DL.e_meth, DL.e_methP, DL.e_smeth, DL.e_cval, DL.e_fld, DL.e_prop, DL.e_star, DL.e_ps0, DL.e_ps, DL.e_dispK, DL.e_dispT, DL.e_dK0, DL.e_dT0, DL.e_frz, DL.e_no, DL.e_part, DL.e_sl, DL.s_set, DL.s_asg, DL.s_nx, DL.s_seq, DL.s_expr, DL.s_ret, DL.s_retN, DL.s_brk, DL.s_cont, DL.s_stuck, DL.s_ifS, DL.s_aug, DL.s_par, DL.s_par3, DL.s_setI, DL.s_fldS, DL.g_name_eq, DL.g_nil_eq, DL.g_cons_eq, DL.g_tup_eq, DL.v_add, DL.v_addI, DL.v_sub, DL.v_neg, DL.v_lt, DL.v_le, DL.v_gt, DL.v_ge, DL.v_eq, DL.v_isN, DL.v_tupcat, DL.Res.bind_ok, DL.Res.bindN_ok, DL.ret_rt, DL.ret_nx, DL.ev_v0, DL.ev_vs, DL.ev_a1, DL.ev_a2, DL.ev_a3, DL.ev_a4, List.set_cons_zero, List.set_cons_succ, decide_true, decide_false, Bool.not_true, Bool.not_false, if_true, Bool.false_eq_true, if_false, DL.e_cb, DL.e_yes, DL.wp_ok, DL.wp_bind, DL.wp_bindN, DL.wp_ret, DL.retQ_rt, DL.retQ_nx, DL.wp_fin, DL.FQ_nx, DL.FQ_ct, DL.FQ_bk, DL.FQ_rt, DL.addO_some, DL.addO_none, DL.isCon_self, DL.v_mulC, DL.v_fdivC, DL.v_modC, DL.ix_t0, DL.ix_t1, DL.ix_t2, DL.ix_l0, DL.ix_l1, DL.ix_l2, DL.isi_int_int, DL.isi_int_bool, DL.min2_eq, DL.max2_eq, DL.tup_f, DL.lst_f, DL.list_tup, DL.list_lst, DL.tuple_lst, DL.len_lst, DL.len_tup, DL.wipeE, DL.lcB, DL.cls_obj, DL.flds_obj, DL.isiO_obj, DL.v_augS, DL.v_methK, DL.v_makeK, DL.ev_a5, DL.ev_a6, DL.ev_a7, DL.v_mulB, eq_self, and_self, List.length_nil, List.length_cons, List.getElem?_cons_zero, List.getElem?_cons_succ, DL.list_tup_t, List.append_assoc, List.nil_append, List.cons_append, isL_ref h5.at1])
    refine wp_of (draw_wp (b := ((pat.map entD).length : Int) + 1) h5.e (by omega) (by omega) (by rw [List.length_map]; omega)) ?_
    rintro _ S5 ⟨v, rfl, v0, v1, h6, s6⟩
    have h7 := h5.to h6 s6
    have hap : p_append (.ref (T.length + 2)) [.tup ((pat.map entD).take v.toNat)] S5 = .ok .non (S5.set (T.length + 2) (some (.lst ((ps ++ [pat.take v.toNat]).map patD)))) := by
      rw [append_ref h7.at1 (by rw [List.length_map]; omega), List.map_append, List.map_cons, List.map_nil, patD, List.map_take]
    have hps9 : ∀ q ∈ ps ++ [pat.take v.toNat], Pat p n q := fun q hq => by
      rcases List.mem_append.mp hq with hq | hq
      · exact hps q hq
      · obtain rfl : q = pat.take v.toNat := by simpa using hq
        exact hpat.sub (List.take_sublist _ _)
    have h8 := h7.set1 (some (.lst ((ps ++ [pat.take v.toNat]).map patD)))
    (try simp -implicitDefEqProofs (disch := first | omega | (simp only [List.length_map, List.length_cons, List.length_nil, List.length_range, List.length_append, List.length_replicate]; omega)) only [DL.e_d, DL.e_op, DL.e_un, DL.e_test, DL.e_asB, DL.e_and, DL.e_or, DL.e_not, DL.e_if, DL.e_andV, DL.e_orV, DL.e_notV, DL.e_chain, DL.e_nil, DL.e_cons, DL.e_tup, DL.e_lst, DL.e_cb, DL.e_callK, DL.e_meth, DL.e_methP, DL.e_smeth, DL.e_cval, DL.e_fld, DL.e_prop, DL.e_star, DL.e_ps0, DL.e_ps, DL.e_dispK, DL.e_dispT, DL.e_dK0, DL.e_dT0, DL.e_frz, DL.e_no, DL.e_part, DL.e_sl, DL.s_set, DL.s_asg, DL.s_nx, DL.s_seq, DL.s_expr, DL.s_ret, DL.s_retN, DL.s_brk, DL.s_cont, DL.s_stuck, DL.s_ifS, DL.s_aug, DL.s_par, DL.s_par3, DL.s_setI, DL.s_fldS, DL.g_name_eq, DL.g_nil_eq, DL.g_cons_eq, DL.g_tup_eq, DL.v_add, DL.v_addI, DL.v_sub, DL.v_neg, DL.v_lt, DL.v_le, DL.v_gt, DL.v_ge, DL.v_eq, DL.v_isN, DL.v_tupcat, DL.Res.bind_ok, DL.Res.bindN_ok, DL.ret_rt, DL.ret_nx, DL.ev_v0, DL.ev_vs, DL.ev_a1, DL.ev_a2, DL.ev_a3, DL.ev_a4, List.set_cons_zero, List.set_cons_succ, decide_true, decide_false, Bool.not_true, Bool.not_false, if_true, Bool.false_eq_true, if_false, DL.e_cb, DL.e_yes, DL.wp_ok, DL.wp_bind, DL.wp_bindN, DL.wp_ret, DL.retQ_rt, DL.retQ_nx, DL.wp_fin, DL.FQ_nx, DL.FQ_ct, DL.FQ_bk, DL.FQ_rt, DL.addO_some, DL.addO_none, DL.isCon_self, DL.v_mulC, DL.v_fdivC, DL.v_modC, DL.ix_t0, DL.ix_t1, DL.ix_t2, DL.ix_l0, DL.ix_l1, DL.ix_l2, DL.isi_int_int, DL.isi_int_bool, DL.min2_eq, DL.max2_eq, DL.tup_f, DL.lst_f, DL.list_tup, DL.list_lst, DL.tuple_lst, DL.len_lst, DL.len_tup, DL.wipeE, DL.lcB, DL.cls_obj, DL.flds_obj, DL.isiO_obj, DL.v_augS, DL.v_methK, DL.v_makeK, DL.ev_a5, DL.ev_a6, DL.ev_a7, DL.v_mulB, eq_self, and_self, List.length_nil, List.length_cons, List.getElem?_cons_zero, List.getElem?_cons_succ, DL.list_tup_t, List.append_assoc, List.nil_append, List.cons_append, sl_take, hap])
    generalize S5.set (T.length + 2) (some (.lst ((ps ++ [pat.take v.toNat]).map patD))) = S6 at h8 ⊢
    have hpl9 : (ps ++ [pat.take v.toNat]).length = 9 := by simp [hpl8]
    generalize ps ++ [pat.take v.toNat] = ps9 at h8 hps9 hpl9
    refine wp_lcF ps9 patD (fun _ => none) (it_eq (S1 := S6) (x := .ref (T.length + 2)) (by (try simp -implicitDefEqProofs (disch := first | omega | (simp only [List.length_map, List.length_cons, List.length_nil, List.length_range, List.length_append, List.length_replicate]; omega)) only [DL.e_d, DL.e_op, DL.e_un, DL.e_test, DL.e_asB, DL.e_and, DL.e_or, DL.e_not, DL.e_if, DL.e_andV, DL.e_orV, DL.e_notV, DL.e_chain, DL.e_nil, DL.e_cons, DL.e_tup, DL.e_lst, DL.e_cb, DL.e_callK, DL.e_meth, DL.e_methP, DL.e_smeth, DL.e_cval, DL.e_fld, DL.e_prop, DL.e_star, DL.e_ps0, DL.e_ps, DL.e_dispK, DL.e_dispT, DL.e_dK0, DL.e_dT0, DL.e_frz, DL.e_no, DL.e_part, DL.e_sl, DL.s_set, DL.s_asg, DL.s_nx, DL.s_seq, DL.s_expr, DL.s_ret, DL.s_retN, DL.s_brk, DL.s_cont, DL.s_stuck, DL.s_ifS, DL.s_aug, DL.s_par, DL.s_par3, DL.s_setI, DL.s_fldS, DL.g_name_eq, DL.g_nil_eq, DL.g_cons_eq, DL.g_tup_eq, DL.v_add, DL.v_addI, DL.v_sub, DL.v_neg, DL.v_lt, DL.v_le, DL.v_gt, DL.v_ge, DL.v_eq, DL.v_isN, DL.v_tupcat, DL.Res.bind_ok, DL.Res.bindN_ok, DL.ret_rt, DL.ret_nx, DL.ev_v0, DL.ev_vs, DL.ev_a1, DL.ev_a2, DL.ev_a3, DL.ev_a4, List.set_cons_zero, List.set_cons_succ, decide_true, decide_false, Bool.not_true, Bool.not_false, if_true, Bool.false_eq_true, if_false, DL.e_cb, DL.e_yes, DL.wp_ok, DL.wp_bind, DL.wp_bindN, DL.wp_ret, DL.retQ_rt, DL.retQ_nx, DL.wp_fin, DL.FQ_nx, DL.FQ_ct, DL.FQ_bk, DL.FQ_rt, DL.addO_some, DL.addO_none, DL.isCon_self, DL.v_mulC, DL.v_fdivC, DL.v_modC, DL.ix_t0, DL.ix_t1, DL.ix_t2, DL.ix_l0, DL.ix_l1, DL.ix_l2, DL.isi_int_int, DL.isi_int_bool, DL.min2_eq, DL.max2_eq, DL.tup_f, DL.lst_f, DL.list_tup, DL.list_lst, DL.tuple_lst, DL.len_lst, DL.len_tup, DL.wipeE, DL.lcB, DL.cls_obj, DL.flds_obj, DL.isiO_obj, DL.v_augS, DL.v_methK, DL.v_makeK, DL.ev_a5, DL.ev_a6, DL.ev_a7, DL.v_mulB, eq_self, and_self, List.length_nil, List.length_cons, List.getElem?_cons_zero, List.getElem?_cons_succ, DL.list_tup_t, List.append_assoc, List.nil_append, List.cons_append])) (items_ref h8.at1)) (by omega) (ok_one (items_ref h8.at1)) (fun q hq => by
      have e := one_right_eq (G := G) (S := S6) w hP (hps9 q hq)
      unfold patD
      (try simp -implicitDefEqProofs (disch := first | omega | (simp only [List.length_map, List.length_cons, List.length_nil, List.length_range, List.length_append, List.length_replicate]; omega)) only [DL.e_d, DL.e_op, DL.e_un, DL.e_test, DL.e_asB, DL.e_and, DL.e_or, DL.e_not, DL.e_if, DL.e_andV, DL.e_orV, DL.e_notV, DL.e_chain, DL.e_nil, DL.e_cons, DL.e_tup, DL.e_lst, DL.e_cb, DL.e_callK, DL.e_meth, DL.e_methP, DL.e_smeth, DL.e_cval, DL.e_fld, DL.e_prop, DL.e_star, DL.e_ps0, DL.e_ps, DL.e_dispK, DL.e_dispT, DL.e_dK0, DL.e_dT0, DL.e_frz, DL.e_no, DL.e_part, DL.e_sl, DL.s_set, DL.s_asg, DL.s_nx, DL.s_seq, DL.s_expr, DL.s_ret, DL.s_retN, DL.s_brk, DL.s_cont, DL.s_stuck, DL.s_ifS, DL.s_aug, DL.s_par, DL.s_par3, DL.s_setI, DL.s_fldS, DL.g_name_eq, DL.g_nil_eq, DL.g_cons_eq, DL.g_tup_eq, DL.v_add, DL.v_addI, DL.v_sub, DL.v_neg, DL.v_lt, DL.v_le, DL.v_gt, DL.v_ge, DL.v_eq, DL.v_isN, DL.v_tupcat, DL.Res.bind_ok, DL.Res.bindN_ok, DL.ret_rt, DL.ret_nx, DL.ev_v0, DL.ev_vs, DL.ev_a1, DL.ev_a2, DL.ev_a3, DL.ev_a4, List.set_cons_zero, List.set_cons_succ, decide_true, decide_false, Bool.not_true, Bool.not_false, if_true, Bool.false_eq_true, if_false, DL.e_cb, DL.e_yes, DL.wp_ok, DL.wp_bind, DL.wp_bindN, DL.wp_ret, DL.retQ_rt, DL.retQ_nx, DL.wp_fin, DL.FQ_nx, DL.FQ_ct, DL.FQ_bk, DL.FQ_rt, DL.addO_some, DL.addO_none, DL.isCon_self, DL.v_mulC, DL.v_fdivC, DL.v_modC, DL.ix_t0, DL.ix_t1, DL.ix_t2, DL.ix_l0, DL.ix_l1, DL.ix_l2, DL.isi_int_int, DL.isi_int_bool, DL.min2_eq, DL.max2_eq, DL.tup_f, DL.lst_f, DL.list_tup, DL.list_lst, DL.tuple_lst, DL.len_lst, DL.len_tup, DL.wipeE, DL.lcB, DL.cls_obj, DL.flds_obj, DL.isiO_obj, DL.v_augS, DL.v_methK, DL.v_makeK, DL.ev_a5, DL.ev_a6, DL.ev_a7, DL.v_mulB, eq_self, and_self, List.length_nil, List.length_cons, List.getElem?_cons_zero, List.getElem?_cons_succ, DL.list_tup_t, List.append_assoc, List.nil_append, List.cons_append, mp__law_one_right, e])) ?_
    have hnil : ps9.filterMap (fun _ => (none : Option D)) = [] := by simp
    have hee : p_eq true (.lst []) (.lst []) S6 = .ok (.bl false) S6 := rfl
    (try simp -implicitDefEqProofs (disch := first | omega | (simp only [List.length_map, List.length_cons, List.length_nil, List.length_range, List.length_append, List.length_replicate]; omega)) only [DL.e_d, DL.e_op, DL.e_un, DL.e_test, DL.e_asB, DL.e_and, DL.e_or, DL.e_not, DL.e_if, DL.e_andV, DL.e_orV, DL.e_notV, DL.e_chain, DL.e_nil, DL.e_cons, DL.e_tup, DL.e_lst, DL.e_cb, DL.e_callK, DL.e_meth, DL.e_methP, DL.e_smeth, DL.e_cval, DL.e_fld, DL.e_prop, DL.e_star, DL.e_ps0, DL.e_ps, DL.e_dispK, DL.e_dispT, DL.e_dK0, DL.e_dT0, DL.e_frz, DL.e_no, DL.e_part, DL.e_sl, DL.s_set, DL.s_asg, DL.s_nx, DL.s_seq, DL.s_expr, DL.s_ret, DL.s_retN, DL.s_brk, DL.s_cont, DL.s_stuck, DL.s_ifS, DL.s_aug, DL.s_par, DL.s_par3, DL.s_setI, DL.s_fldS, DL.g_name_eq, DL.g_nil_eq, DL.g_cons_eq, DL.g_tup_eq, DL.v_add, DL.v_addI, DL.v_sub, DL.v_neg, DL.v_lt, DL.v_le, DL.v_gt, DL.v_ge, DL.v_eq, DL.v_isN, DL.v_tupcat, DL.Res.bind_ok, DL.Res.bindN_ok, DL.ret_rt, DL.ret_nx, DL.ev_v0, DL.ev_vs, DL.ev_a1, DL.ev_a2, DL.ev_a3, DL.ev_a4, List.set_cons_zero, List.set_cons_succ, decide_true, decide_false, Bool.not_true, Bool.not_false, if_true, Bool.false_eq_true, if_false, DL.e_cb, DL.e_yes, DL.wp_ok, DL.wp_bind, DL.wp_bindN, DL.wp_ret, DL.retQ_rt, DL.retQ_nx, DL.wp_fin, DL.FQ_nx, DL.FQ_ct, DL.FQ_bk, DL.FQ_rt, DL.addO_some, DL.addO_none, DL.isCon_self, DL.v_mulC, DL.v_fdivC, DL.v_modC, DL.ix_t0, DL.ix_t1, DL.ix_t2, DL.ix_l0, DL.ix_l1, DL.ix_l2, DL.isi_int_int, DL.isi_int_bool, DL.min2_eq, DL.max2_eq, DL.tup_f, DL.lst_f, DL.list_tup, DL.list_lst, DL.tuple_lst, DL.len_lst, DL.len_tup, DL.wipeE, DL.lcB, DL.cls_obj, DL.flds_obj, DL.isiO_obj, DL.v_augS, DL.v_methK, DL.v_makeK, DL.ev_a5, DL.ev_a6, DL.ev_a7, DL.v_mulB, eq_self, and_self, List.length_nil, List.length_cons, List.getElem?_cons_zero, List.getElem?_cons_succ, DL.list_tup_t, List.append_assoc, List.nil_append, List.cons_append, hnil, hee])
    have hT6 := h8
    refine wp_for (List.range (k + 1 - 1).toNat) (fun (i : Nat) => D.int (1 + (i : Int))) (fun pre2 ρ S' => ∃ o7 o8 o9 o10, ρ = [some (.scr (iD ns)), some (.ref 1), some (.int (0 + (u : Int))), some (plan p n k), some (.tup (pat.map entD)), some (.int (n - 1)), some (.ref (T.length + 2)), o7, o8, o9, o10] ∧ S' = S6) (rng2 (by (try simp -implicitDefEqProofs (disch := first | omega | (simp only [List.length_map, List.length_cons, List.length_nil, List.length_range, List.length_append, List.length_replicate]; omega)) only [DL.e_d, DL.e_op, DL.e_un, DL.e_test, DL.e_asB, DL.e_and, DL.e_or, DL.e_not, DL.e_if, DL.e_andV, DL.e_orV, DL.e_notV, DL.e_chain, DL.e_nil, DL.e_cons, DL.e_tup, DL.e_lst, DL.e_cb, DL.e_callK, DL.e_meth, DL.e_methP, DL.e_smeth, DL.e_cval, DL.e_fld, DL.e_prop, DL.e_star, DL.e_ps0, DL.e_ps, DL.e_dispK, DL.e_dispT, DL.e_dK0, DL.e_dT0, DL.e_frz, DL.e_no, DL.e_part, DL.e_sl, DL.s_set, DL.s_asg, DL.s_nx, DL.s_seq, DL.s_expr, DL.s_ret, DL.s_retN, DL.s_brk, DL.s_cont, DL.s_stuck, DL.s_ifS, DL.s_aug, DL.s_par, DL.s_par3, DL.s_setI, DL.s_fldS, DL.g_name_eq, DL.g_nil_eq, DL.g_cons_eq, DL.g_tup_eq, DL.v_add, DL.v_addI, DL.v_sub, DL.v_neg, DL.v_lt, DL.v_le, DL.v_gt, DL.v_ge, DL.v_eq, DL.v_isN, DL.v_tupcat, DL.Res.bind_ok, DL.Res.bindN_ok, DL.ret_rt, DL.ret_nx, DL.ev_v0, DL.ev_vs, DL.ev_a1, DL.ev_a2, DL.ev_a3, DL.ev_a4, List.set_cons_zero, List.set_cons_succ, decide_true, decide_false, Bool.not_true, Bool.not_false, if_true, Bool.false_eq_true, if_false, DL.e_cb, DL.e_yes, DL.wp_ok, DL.wp_bind, DL.wp_bindN, DL.wp_ret, DL.retQ_rt, DL.retQ_nx, DL.wp_fin, DL.FQ_nx, DL.FQ_ct, DL.FQ_bk, DL.FQ_rt, DL.addO_some, DL.addO_none, DL.isCon_self, DL.v_mulC, DL.v_fdivC, DL.v_modC, DL.ix_t0, DL.ix_t1, DL.ix_t2, DL.ix_l0, DL.ix_l1, DL.ix_l2, DL.isi_int_int, DL.isi_int_bool, DL.min2_eq, DL.max2_eq, DL.tup_f, DL.lst_f, DL.list_tup, DL.list_lst, DL.tuple_lst, DL.len_lst, DL.len_tup, DL.wipeE, DL.lcB, DL.cls_obj, DL.flds_obj, DL.isiO_obj, DL.v_augS, DL.v_methK, DL.v_makeK, DL.ev_a5, DL.ev_a6, DL.ev_a7, DL.v_mulB, eq_self, and_self, List.length_nil, List.length_cons, List.getElem?_cons_zero, List.getElem?_cons_succ, DL.list_tup_t, List.append_assoc, List.nil_append, List.cons_append, clsOf_plan, length_eq])) ⟨by omega, by omega⟩ ⟨by omega, by omega⟩) (fun _ _ _ _ => ok_nil) ⟨_, _, _, _, rfl, rfl⟩ ?_ ?_
    · rintro pre2 i post2 ρ S' hr2 ⟨o7, o8, o9, o10, rfl, rfl⟩
      obtain ⟨i0, i1, i2⟩ := range_pre hr2
      have w' : Sc p n (1 + (i : Int)) := ⟨w.p0, w.p1, w.po, w.n0, w.n1, by omega, by omega, w.pn⟩
      have e1 := law_ledger_eq (G := G) (S := S') w hpat
      have e2 := sub_ledger_eq (G := G) (S := S') w hpat
      have e3 := sub_ledger_eq (G := G) (S := S') w' hpat
      have e4 : ∀ f, (iD (fL k.toNat f)).take (1 + (i : Int)).toNat = iD (fL (1 + (i : Int)).toNat f) := fun f => fL_take (by omega)
      generalize hF : (fL (1 + (i : Int)).toNat fun i => red p (pof n pat i)) = F at e3
      have hFl : F.length ≤ 24 := by rw [← hF, fL_len]; omega
      have hFb : ∀ x ∈ F, x.natAbs < 2 ^ 31 := fun x hx => by
        rw [← hF] at hx
        obtain ⟨i, _, rfl⟩ := List.mem_map.mp hx
        have := red_range (p := p) (x := pof n pat i) (by have := w.p0; omega)
        have := w.p1
        omega
      have hfi := fi_row (m := 24) hFl hFb
      have h2 : pyOf S' (.lst [tI F, tI F]) = some (.list [.tuple (F.map PyData.int), .tuple (F.map PyData.int)]) := by
        rw [pyOf, pyOfL, py_tI, pyOfL, py_tI, pyOfL]
        rfl
      obtain ⟨Y, hY, hYo⟩ := repr_ex (S := S') h2 (Fi.lst2 hfi hfi) rfl (by decide) (by decide)
      have hgp : ∀ d : D, gP D.non [1, 0] [] [.int (1 + (i : Int)), d] = [d, .int (1 + (i : Int))] := fun d => rfl
      have e5 : ∀ f, m_cut_ledger G [tI (fL k.toNat f), .int (1 + (i : Int))] S' = .ok (tI (fL (1 + (i : Int)).toNat f)) S' := fun f => by
        rw [cut_ledger_eq (by omega), e4]
      have e6 : ∀ f, p_sl false (tI (fL k.toNat f)) none (some (1 + (i : Int))) S' = .ok (tI (fL (1 + (i : Int)).toNat f)) S' := fun f => by
        rw [sl_take (by omega), e4]
      (try simp -implicitDefEqProofs (disch := first | omega | (simp only [List.length_map, List.length_cons, List.length_nil, List.length_range, List.length_append, List.length_replicate]; omega)) only [DL.e_d, DL.e_op, DL.e_un, DL.e_test, DL.e_asB, DL.e_and, DL.e_or, DL.e_not, DL.e_if, DL.e_andV, DL.e_orV, DL.e_notV, DL.e_chain, DL.e_nil, DL.e_cons, DL.e_tup, DL.e_lst, DL.e_cb, DL.e_callK, DL.e_meth, DL.e_methP, DL.e_smeth, DL.e_cval, DL.e_fld, DL.e_prop, DL.e_star, DL.e_ps0, DL.e_ps, DL.e_dispK, DL.e_dispT, DL.e_dK0, DL.e_dT0, DL.e_frz, DL.e_no, DL.e_part, DL.e_sl, DL.s_set, DL.s_asg, DL.s_nx, DL.s_seq, DL.s_expr, DL.s_ret, DL.s_retN, DL.s_brk, DL.s_cont, DL.s_stuck, DL.s_ifS, DL.s_aug, DL.s_par, DL.s_par3, DL.s_setI, DL.s_fldS, DL.g_name_eq, DL.g_nil_eq, DL.g_cons_eq, DL.g_tup_eq, DL.v_add, DL.v_addI, DL.v_sub, DL.v_neg, DL.v_lt, DL.v_le, DL.v_gt, DL.v_ge, DL.v_eq, DL.v_isN, DL.v_tupcat, DL.Res.bind_ok, DL.Res.bindN_ok, DL.ret_rt, DL.ret_nx, DL.ev_v0, DL.ev_vs, DL.ev_a1, DL.ev_a2, DL.ev_a3, DL.ev_a4, List.set_cons_zero, List.set_cons_succ, decide_true, decide_false, Bool.not_true, Bool.not_false, if_true, Bool.false_eq_true, if_false, DL.e_cb, DL.e_yes, DL.wp_ok, DL.wp_bind, DL.wp_bindN, DL.wp_ret, DL.retQ_rt, DL.retQ_nx, DL.wp_fin, DL.FQ_nx, DL.FQ_ct, DL.FQ_bk, DL.FQ_rt, DL.addO_some, DL.addO_none, DL.isCon_self, DL.v_mulC, DL.v_fdivC, DL.v_modC, DL.ix_t0, DL.ix_t1, DL.ix_t2, DL.ix_l0, DL.ix_l1, DL.ix_l2, DL.isi_int_int, DL.isi_int_bool, DL.min2_eq, DL.max2_eq, DL.tup_f, DL.lst_f, DL.list_tup, DL.list_lst, DL.tuple_lst, DL.len_lst, DL.len_tup, DL.wipeE, DL.lcB, DL.cls_obj, DL.flds_obj, DL.isiO_obj, DL.v_augS, DL.v_methK, DL.v_makeK, DL.ev_a5, DL.ev_a6, DL.ev_a7, DL.v_mulB, eq_self, and_self, List.length_nil, List.length_cons, List.getElem?_cons_zero, List.getElem?_cons_succ, DL.list_tup_t, List.append_assoc, List.nil_append, List.cons_append, mp__law_ledger, e1, e6, hF, mp_ledger_of, e2, hgp, e5, clsOf_plan, mp_Scheme_shortened, shortened_eq (G := G) (S := S') (k := k) w' hp, e3, hY, DL.ne_str hYo])
      exact ⟨_, _, _, _, rfl, trivial⟩
    · rintro ρ S' ⟨o7, o8, o9, o10, rfl, rfl⟩
      (try simp -implicitDefEqProofs (disch := first | omega | (simp only [List.length_map, List.length_cons, List.length_nil, List.length_range, List.length_append, List.length_replicate]; omega)) only [DL.e_d, DL.e_op, DL.e_un, DL.e_test, DL.e_asB, DL.e_and, DL.e_or, DL.e_not, DL.e_if, DL.e_andV, DL.e_orV, DL.e_notV, DL.e_chain, DL.e_nil, DL.e_cons, DL.e_tup, DL.e_lst, DL.e_cb, DL.e_callK, DL.e_meth, DL.e_methP, DL.e_smeth, DL.e_cval, DL.e_fld, DL.e_prop, DL.e_star, DL.e_ps0, DL.e_ps, DL.e_dispK, DL.e_dispT, DL.e_dK0, DL.e_dT0, DL.e_frz, DL.e_no, DL.e_part, DL.e_sl, DL.s_set, DL.s_asg, DL.s_nx, DL.s_seq, DL.s_expr, DL.s_ret, DL.s_retN, DL.s_brk, DL.s_cont, DL.s_stuck, DL.s_ifS, DL.s_aug, DL.s_par, DL.s_par3, DL.s_setI, DL.s_fldS, DL.g_name_eq, DL.g_nil_eq, DL.g_cons_eq, DL.g_tup_eq, DL.v_add, DL.v_addI, DL.v_sub, DL.v_neg, DL.v_lt, DL.v_le, DL.v_gt, DL.v_ge, DL.v_eq, DL.v_isN, DL.v_tupcat, DL.Res.bind_ok, DL.Res.bindN_ok, DL.ret_rt, DL.ret_nx, DL.ev_v0, DL.ev_vs, DL.ev_a1, DL.ev_a2, DL.ev_a3, DL.ev_a4, List.set_cons_zero, List.set_cons_succ, decide_true, decide_false, Bool.not_true, Bool.not_false, if_true, Bool.false_eq_true, if_false, DL.e_cb, DL.e_yes, DL.wp_ok, DL.wp_bind, DL.wp_bindN, DL.wp_ret, DL.retQ_rt, DL.retQ_nx, DL.wp_fin, DL.FQ_nx, DL.FQ_ct, DL.FQ_bk, DL.FQ_rt, DL.addO_some, DL.addO_none, DL.isCon_self, DL.v_mulC, DL.v_fdivC, DL.v_modC, DL.ix_t0, DL.ix_t1, DL.ix_t2, DL.ix_l0, DL.ix_l1, DL.ix_l2, DL.isi_int_int, DL.isi_int_bool, DL.min2_eq, DL.max2_eq, DL.tup_f, DL.lst_f, DL.list_tup, DL.list_lst, DL.tuple_lst, DL.len_lst, DL.len_tup, DL.wipeE, DL.lcB, DL.cls_obj, DL.flds_obj, DL.isiO_obj, DL.v_augS, DL.v_methK, DL.v_makeK, DL.ev_a5, DL.ev_a6, DL.ev_a7, DL.v_mulB, eq_self, and_self, List.length_nil, List.length_cons, List.getElem?_cons_zero, List.getElem?_cons_succ, DL.list_tup_t, List.append_assoc, List.nil_append, List.cons_append])
      exact ⟨_, _, _, _, _, _, _, _, _, rfl, hT6.e.mono (by omega)⟩
  · rintro ρ S' ⟨o2, o3, o4, o5, o6, o7, o8, o9, o10, rfl, h'⟩
    (try simp -implicitDefEqProofs (disch := first | omega | (simp only [List.length_map, List.length_cons, List.length_nil, List.length_range, List.length_append, List.length_replicate]; omega)) only [DL.e_d, DL.e_op, DL.e_un, DL.e_test, DL.e_asB, DL.e_and, DL.e_or, DL.e_not, DL.e_if, DL.e_andV, DL.e_orV, DL.e_notV, DL.e_chain, DL.e_nil, DL.e_cons, DL.e_tup, DL.e_lst, DL.e_cb, DL.e_callK, DL.e_meth, DL.e_methP, DL.e_smeth, DL.e_cval, DL.e_fld, DL.e_prop, DL.e_star, DL.e_ps0, DL.e_ps, DL.e_dispK, DL.e_dispT, DL.e_dK0, DL.e_dT0, DL.e_frz, DL.e_no, DL.e_part, DL.e_sl, DL.s_set, DL.s_asg, DL.s_nx, DL.s_seq, DL.s_expr, DL.s_ret, DL.s_retN, DL.s_brk, DL.s_cont, DL.s_stuck, DL.s_ifS, DL.s_aug, DL.s_par, DL.s_par3, DL.s_setI, DL.s_fldS, DL.g_name_eq, DL.g_nil_eq, DL.g_cons_eq, DL.g_tup_eq, DL.v_add, DL.v_addI, DL.v_sub, DL.v_neg, DL.v_lt, DL.v_le, DL.v_gt, DL.v_ge, DL.v_eq, DL.v_isN, DL.v_tupcat, DL.Res.bind_ok, DL.Res.bindN_ok, DL.ret_rt, DL.ret_nx, DL.ev_v0, DL.ev_vs, DL.ev_a1, DL.ev_a2, DL.ev_a3, DL.ev_a4, List.set_cons_zero, List.set_cons_succ, decide_true, decide_false, Bool.not_true, Bool.not_false, if_true, Bool.false_eq_true, if_false, DL.e_cb, DL.e_yes, DL.wp_ok, DL.wp_bind, DL.wp_bindN, DL.wp_ret, DL.retQ_rt, DL.retQ_nx, DL.wp_fin, DL.FQ_nx, DL.FQ_ct, DL.FQ_bk, DL.FQ_rt, DL.addO_some, DL.addO_none, DL.isCon_self, DL.v_mulC, DL.v_fdivC, DL.v_modC, DL.ix_t0, DL.ix_t1, DL.ix_t2, DL.ix_l0, DL.ix_l1, DL.ix_l2, DL.isi_int_int, DL.isi_int_bool, DL.min2_eq, DL.max2_eq, DL.tup_f, DL.lst_f, DL.list_tup, DL.list_lst, DL.tuple_lst, DL.len_lst, DL.len_tup, DL.wipeE, DL.lcB, DL.cls_obj, DL.flds_obj, DL.isiO_obj, DL.v_augS, DL.v_methK, DL.v_makeK, DL.ev_a5, DL.ev_a6, DL.ev_a7, DL.v_mulB, eq_self, and_self, List.length_nil, List.length_cons, List.getElem?_cons_zero, List.getElem?_cons_succ, DL.list_tup_t, List.append_assoc, List.nil_append, List.cons_append])
    refine wp_of (P := fun d _ => d = .bl true) ?_ fun a S h => h
    unfold fin
    split
    · exact ⟨rfl⟩
    · split <;> exact ⟨rfl⟩
end
end K07

/-! ### the end: printed by gen.py -/
namespace K07
open PySem PySem.Spec PyProof.Rows L2 DL
set_option maxHeartbeats 8000000 in
theorem all_mk {l : PySem.W.OpenLaw} {w : World} {K : PySem.W.Frag} {h : Heap} {mg : Str → Option Value} {fa : Addr} (X : K.In h) (N : h.Ns mainGlobals mg) (hfa : mg "law" = some (.ref fa))
    {C_Scheme : Addr}
    {f__law_source : Addr}
    {oc__law_source kV__law_source dc__law_source pm__law_source cd__law_source ct__law_source : Value}
    {od__law_source an__law_source : Option Addr}
    {sl__law_source : Array (Option Value)}
    {f__law_draw : Addr}
    {oc__law_draw kV__law_draw dc__law_draw pm__law_draw cd__law_draw ct__law_draw : Value}
    {od__law_draw an__law_draw : Option Addr}
    {sl__law_draw : Array (Option Value)}
    {f__law_choose : Addr}
    {oc__law_choose kV__law_choose dc__law_choose pm__law_choose cd__law_choose ct__law_choose : Value}
    {od__law_choose an__law_choose : Option Addr}
    {sl__law_choose : Array (Option Value)}
    {f_is_between : Addr}
    {oc_is_between kV_is_between dc_is_between pm_is_between cd_is_between ct_is_between : Value}
    {od_is_between an_is_between : Option Addr}
    {sl_is_between : Array (Option Value)}
    {f_reduced_modulo : Addr}
    {oc_reduced_modulo kV_reduced_modulo dc_reduced_modulo pm_reduced_modulo cd_reduced_modulo ct_reduced_modulo : Value}
    {od_reduced_modulo an_reduced_modulo : Option Addr}
    {sl_reduced_modulo : Array (Option Value)}
    {f_power_of : Addr}
    {oc_power_of kV_power_of dc_power_of pm_power_of cd_power_of ct_power_of : Value}
    {od_power_of an_power_of : Option Addr}
    {sl_power_of : Array (Option Value)}
    {f_is_probable : Addr}
    {oc_is_probable kV_is_probable dc_is_probable pm_is_probable cd_is_probable ct_is_probable : Value}
    {od_is_probable an_is_probable : Option Addr}
    {sl_is_probable : Array (Option Value)}
    {f_is_odd_prime : Addr}
    {oc_is_odd_prime kV_is_odd_prime dc_is_odd_prime pm_is_odd_prime cd_is_odd_prime ct_is_odd_prime : Value}
    {od_is_odd_prime an_is_odd_prime : Option Addr}
    {sl_is_odd_prime : Array (Option Value)}
    {f_Scheme_is_prime : Addr}
    {oc_Scheme_is_prime kV_Scheme_is_prime dc_Scheme_is_prime pm_Scheme_is_prime cd_Scheme_is_prime ct_Scheme_is_prime : Value}
    {od_Scheme_is_prime an_Scheme_is_prime : Option Addr}
    {sl_Scheme_is_prime : Array (Option Value)}
    {pr_Scheme_is_prime : Addr}
    {rs_Scheme_is_prime : List Value}
    {f_Scheme__init_ : Addr}
    {oc_Scheme__init_ kV_Scheme__init_ dc_Scheme__init_ pm_Scheme__init_ cd_Scheme__init_ ct_Scheme__init_ : Value}
    {od_Scheme__init_ an_Scheme__init_ : Option Addr}
    {sl_Scheme__init_ : Array (Option Value)}
    {f__law_scheme : Addr}
    {oc__law_scheme kV__law_scheme dc__law_scheme pm__law_scheme cd__law_scheme ct__law_scheme : Value}
    {od__law_scheme an__law_scheme : Option Addr}
    {sl__law_scheme : Array (Option Value)}
    {f_Scheme_accounts : Addr}
    {oc_Scheme_accounts kV_Scheme_accounts dc_Scheme_accounts pm_Scheme_accounts cd_Scheme_accounts ct_Scheme_accounts : Value}
    {od_Scheme_accounts an_Scheme_accounts : Option Addr}
    {sl_Scheme_accounts : Array (Option Value)}
    {pr_Scheme_accounts : Addr}
    {rs_Scheme_accounts : List Value}
    {f__law_all_pairs : Addr}
    {oc__law_all_pairs kV__law_all_pairs dc__law_all_pairs pm__law_all_pairs cd__law_all_pairs ct__law_all_pairs : Value}
    {od__law_all_pairs an__law_all_pairs : Option Addr}
    {sl__law_all_pairs : Array (Option Value)}
    {f_Scheme_prime : Addr}
    {oc_Scheme_prime kV_Scheme_prime dc_Scheme_prime pm_Scheme_prime cd_Scheme_prime ct_Scheme_prime : Value}
    {od_Scheme_prime an_Scheme_prime : Option Addr}
    {sl_Scheme_prime : Array (Option Value)}
    {pr_Scheme_prime : Addr}
    {rs_Scheme_prime : List Value}
    {f__law_amount : Addr}
    {oc__law_amount kV__law_amount dc__law_amount pm__law_amount cd__law_amount ct__law_amount : Value}
    {od__law_amount an__law_amount : Option Addr}
    {sl__law_amount : Array (Option Value)}
    {f__law_table : Addr}
    {oc__law_table kV__law_table dc__law_table pm__law_table cd__law_table ct__law_table : Value}
    {od__law_table an__law_table : Option Addr}
    {sl__law_table : Array (Option Value)}
    {f_Scheme_length : Addr}
    {oc_Scheme_length kV_Scheme_length dc_Scheme_length pm_Scheme_length cd_Scheme_length ct_Scheme_length : Value}
    {od_Scheme_length an_Scheme_length : Option Addr}
    {sl_Scheme_length : Array (Option Value)}
    {pr_Scheme_length : Addr}
    {rs_Scheme_length : List Value}
    {f__law_reduced : Addr}
    {oc__law_reduced kV__law_reduced dc__law_reduced pm__law_reduced cd__law_reduced ct__law_reduced : Value}
    {od__law_reduced an__law_reduced : Option Addr}
    {sl__law_reduced : Array (Option Value)}
    {f__law_ledger : Addr}
    {oc__law_ledger kV__law_ledger dc__law_ledger pm__law_ledger cd__law_ledger ct__law_ledger : Value}
    {od__law_ledger an__law_ledger : Option Addr}
    {sl__law_ledger : Array (Option Value)}
    {f_cut_ledger : Addr}
    {oc_cut_ledger kV_cut_ledger dc_cut_ledger pm_cut_ledger cd_cut_ledger ct_cut_ledger : Value}
    {od_cut_ledger an_cut_ledger : Option Addr}
    {sl_cut_ledger : Array (Option Value)}
    {f_zero_ledger : Addr}
    {oc_zero_ledger kV_zero_ledger dc_zero_ledger pm_zero_ledger cd_zero_ledger ct_zero_ledger : Value}
    {od_zero_ledger an_zero_ledger : Option Addr}
    {sl_zero_ledger : Array (Option Value)}
    {f_Scheme_name_of : Addr}
    {oc_Scheme_name_of kV_Scheme_name_of dc_Scheme_name_of pm_Scheme_name_of cd_Scheme_name_of ct_Scheme_name_of : Value}
    {od_Scheme_name_of an_Scheme_name_of : Option Addr}
    {sl_Scheme_name_of : Array (Option Value)}
    {f_Scheme_reduced : Addr}
    {oc_Scheme_reduced kV_Scheme_reduced dc_Scheme_reduced pm_Scheme_reduced cd_Scheme_reduced ct_Scheme_reduced : Value}
    {od_Scheme_reduced an_Scheme_reduced : Option Addr}
    {sl_Scheme_reduced : Array (Option Value)}
    {f_ledger_of : Addr}
    {oc_ledger_of kV_ledger_of dc_ledger_of pm_ledger_of cd_ledger_of ct_ledger_of : Value}
    {od_ledger_of an_ledger_of : Option Addr}
    {sl_ledger_of : Array (Option Value)}
    {f_Scheme_shortened : Addr}
    {oc_Scheme_shortened kV_Scheme_shortened dc_Scheme_shortened pm_Scheme_shortened cd_Scheme_shortened ct_Scheme_shortened : Value}
    {od_Scheme_shortened an_Scheme_shortened : Option Addr}
    {sl_Scheme_shortened : Array (Option Value)}
    {f_is_integer : Addr}
    {oc_is_integer kV_is_integer dc_is_integer pm_is_integer cd_is_integer ct_is_integer : Value}
    {od_is_integer an_is_integer : Option Addr}
    {sl_is_integer : Array (Option Value)}
    {f_Scheme_largest_amount : Addr}
    {oc_Scheme_largest_amount kV_Scheme_largest_amount dc_Scheme_largest_amount pm_Scheme_largest_amount cd_Scheme_largest_amount ct_Scheme_largest_amount : Value}
    {od_Scheme_largest_amount an_Scheme_largest_amount : Option Addr}
    {sl_Scheme_largest_amount : Array (Option Value)}
    {pr_Scheme_largest_amount : Addr}
    {rs_Scheme_largest_amount : List Value}
    {f_is_reduced : Addr}
    {oc_is_reduced kV_is_reduced dc_is_reduced pm_is_reduced cd_is_reduced ct_is_reduced : Value}
    {od_is_reduced an_is_reduced : Option Addr}
    {sl_is_reduced : Array (Option Value)}
    {f_is_ledger : Addr}
    {oc_is_ledger kV_is_ledger dc_is_ledger pm_is_ledger cd_is_ledger ct_is_ledger : Value}
    {od_is_ledger an_is_ledger : Option Addr}
    {sl_is_ledger : Array (Option Value)}
    {f__law_one_right : Addr}
    {oc__law_one_right kV__law_one_right dc__law_one_right pm__law_one_right cd__law_one_right ct__law_one_right : Value}
    {od__law_one_right an__law_one_right : Option Addr}
    {sl__law_one_right : Array (Option Value)}
    {f_law : Addr}
    {oc_law kV_law dc_law pm_law cd_law ct_law : Value}
    {od_law an_law : Option Addr}
    {sl_law : Array (Option Value)}
    {ka_BASES : Addr}
    {kod_BASES : Option Addr}
    {ksl_BASES : Array (Option Value)}
    {kn_BASES : Nat}
    {kt_BASES_0 kt_BASES_1 kt_BASES_2 kt_BASES_3 : Tok}
    {kt_LEAST_ACCOUNTS : Tok}
    {t_Scheme_LARGEST_PRIME : Tok}
    {t_Scheme_MOST_ACCOUNTS : Tok}
    {t_Scheme_MOST_NUMBERS : Tok}
    (aC_Scheme : PySem.W.nsIn K mainGlobals "Scheme" = some (some (.ref C_Scheme)))
    (a__law_source : PySem.W.nsIn K mainGlobals "_law_source" = some (some (.ref f__law_source)))
    (l__law_source : K.lookup f__law_source = some ⟨oc__law_source, od__law_source, .func (PySem.W.fnOf "_law_source" "_law_source" (defArgs s__law_source) (defBody s__law_source) (defScope s__law_source) .none kV__law_source dc__law_source pm__law_source an__law_source cd__law_source ct__law_source), sl__law_source⟩)
    (c__law_source : PySem.W.codeIn K cd__law_source "_law_source" = true)
    (k__law_source : PySem.W.keepIn K (.ref f__law_source) = true)
    (a__law_draw : PySem.W.nsIn K mainGlobals "_law_draw" = some (some (.ref f__law_draw)))
    (l__law_draw : K.lookup f__law_draw = some ⟨oc__law_draw, od__law_draw, .func (PySem.W.fnOf "_law_draw" "_law_draw" (defArgs s__law_draw) (defBody s__law_draw) (defScope s__law_draw) .none kV__law_draw dc__law_draw pm__law_draw an__law_draw cd__law_draw ct__law_draw), sl__law_draw⟩)
    (c__law_draw : PySem.W.codeIn K cd__law_draw "_law_draw" = true)
    (k__law_draw : PySem.W.keepIn K (.ref f__law_draw) = true)
    (a__law_choose : PySem.W.nsIn K mainGlobals "_law_choose" = some (some (.ref f__law_choose)))
    (l__law_choose : K.lookup f__law_choose = some ⟨oc__law_choose, od__law_choose, .func (PySem.W.fnOf "_law_choose" "_law_choose" (defArgs s__law_choose) (defBody s__law_choose) (defScope s__law_choose) .none kV__law_choose dc__law_choose pm__law_choose an__law_choose cd__law_choose ct__law_choose), sl__law_choose⟩)
    (c__law_choose : PySem.W.codeIn K cd__law_choose "_law_choose" = true)
    (k__law_choose : PySem.W.keepIn K (.ref f__law_choose) = true)
    (a_is_between : PySem.W.nsIn K mainGlobals "is_between" = some (some (.ref f_is_between)))
    (l_is_between : K.lookup f_is_between = some ⟨oc_is_between, od_is_between, .func (PySem.W.fnOf "is_between" "is_between" (defArgs s_is_between) (defBody s_is_between) (defScope s_is_between) .none kV_is_between dc_is_between pm_is_between an_is_between cd_is_between ct_is_between), sl_is_between⟩)
    (c_is_between : PySem.W.codeIn K cd_is_between "is_between" = true)
    (k_is_between : PySem.W.keepIn K (.ref f_is_between) = true)
    (a_reduced_modulo : PySem.W.nsIn K mainGlobals "reduced_modulo" = some (some (.ref f_reduced_modulo)))
    (l_reduced_modulo : K.lookup f_reduced_modulo = some ⟨oc_reduced_modulo, od_reduced_modulo, .func (PySem.W.fnOf "reduced_modulo" "reduced_modulo" (defArgs s_reduced_modulo) (defBody s_reduced_modulo) (defScope s_reduced_modulo) .none kV_reduced_modulo dc_reduced_modulo pm_reduced_modulo an_reduced_modulo cd_reduced_modulo ct_reduced_modulo), sl_reduced_modulo⟩)
    (c_reduced_modulo : PySem.W.codeIn K cd_reduced_modulo "reduced_modulo" = true)
    (k_reduced_modulo : PySem.W.keepIn K (.ref f_reduced_modulo) = true)
    (a_power_of : PySem.W.nsIn K mainGlobals "power_of" = some (some (.ref f_power_of)))
    (l_power_of : K.lookup f_power_of = some ⟨oc_power_of, od_power_of, .func (PySem.W.fnOf "power_of" "power_of" (defArgs s_power_of) (defBody s_power_of) (defScope s_power_of) .none kV_power_of dc_power_of pm_power_of an_power_of cd_power_of ct_power_of), sl_power_of⟩)
    (c_power_of : PySem.W.codeIn K cd_power_of "power_of" = true)
    (k_power_of : PySem.W.keepIn K (.ref f_power_of) = true)
    (a_is_probable : PySem.W.nsIn K mainGlobals "is_probable" = some (some (.ref f_is_probable)))
    (l_is_probable : K.lookup f_is_probable = some ⟨oc_is_probable, od_is_probable, .func (PySem.W.fnOf "is_probable" "is_probable" (defArgs s_is_probable) (defBody s_is_probable) (defScope s_is_probable) .none kV_is_probable dc_is_probable pm_is_probable an_is_probable cd_is_probable ct_is_probable), sl_is_probable⟩)
    (c_is_probable : PySem.W.codeIn K cd_is_probable "is_probable" = true)
    (k_is_probable : PySem.W.keepIn K (.ref f_is_probable) = true)
    (a_is_odd_prime : PySem.W.nsIn K mainGlobals "is_odd_prime" = some (some (.ref f_is_odd_prime)))
    (l_is_odd_prime : K.lookup f_is_odd_prime = some ⟨oc_is_odd_prime, od_is_odd_prime, .func (PySem.W.fnOf "is_odd_prime" "is_odd_prime" (defArgs s_is_odd_prime) (defBody s_is_odd_prime) (defScope s_is_odd_prime) .none kV_is_odd_prime dc_is_odd_prime pm_is_odd_prime an_is_odd_prime cd_is_odd_prime ct_is_odd_prime), sl_is_odd_prime⟩)
    (c_is_odd_prime : PySem.W.codeIn K cd_is_odd_prime "is_odd_prime" = true)
    (k_is_odd_prime : PySem.W.keepIn K (.ref f_is_odd_prime) = true)
    (m_Scheme_is_prime : PySem.W.findCls K (.ref C_Scheme) (.type "type") "is_prime" = some (.get (.builtin "staticmethod.__get__") (.ref pr_Scheme_is_prime) .none (.ref C_Scheme)))
    (px_Scheme_is_prime : PySem.W.recIn K pr_Scheme_is_prime "staticmethod" = some (.ref f_Scheme_is_prime :: rs_Scheme_is_prime))
    (l_Scheme_is_prime : K.lookup f_Scheme_is_prime = some ⟨oc_Scheme_is_prime, od_Scheme_is_prime, .func (PySem.W.fnOf "is_prime" "Scheme.is_prime" (defArgs s_Scheme_is_prime) (defBody s_Scheme_is_prime) (defScope s_Scheme_is_prime) .none kV_Scheme_is_prime dc_Scheme_is_prime pm_Scheme_is_prime an_Scheme_is_prime cd_Scheme_is_prime ct_Scheme_is_prime), sl_Scheme_is_prime⟩)
    (c_Scheme_is_prime : PySem.W.codeIn K cd_Scheme_is_prime "Scheme.is_prime" = true)
    (k_Scheme_is_prime : PySem.W.keepIn K (.ref f_Scheme_is_prime) = true)
    (m_Scheme__init_ : PySem.W.findIn K (.ref C_Scheme) "__init__" = some (some (.ref f_Scheme__init_)))
    (i_Scheme__init_ : PySem.W.isFn K (.ref f_Scheme__init_) = true)
    (l_Scheme__init_ : K.lookup f_Scheme__init_ = some ⟨oc_Scheme__init_, od_Scheme__init_, .func (PySem.W.fnOf "__init__" "Scheme.__init__" (defArgs s_Scheme__init_) (defBody s_Scheme__init_) (defScope s_Scheme__init_) .none kV_Scheme__init_ dc_Scheme__init_ pm_Scheme__init_ an_Scheme__init_ cd_Scheme__init_ ct_Scheme__init_), sl_Scheme__init_⟩)
    (c_Scheme__init_ : PySem.W.codeIn K cd_Scheme__init_ "Scheme.__init__" = true)
    (k_Scheme__init_ : PySem.W.keepIn K (.ref f_Scheme__init_) = true)
    (a__law_scheme : PySem.W.nsIn K mainGlobals "_law_scheme" = some (some (.ref f__law_scheme)))
    (l__law_scheme : K.lookup f__law_scheme = some ⟨oc__law_scheme, od__law_scheme, .func (PySem.W.fnOf "_law_scheme" "_law_scheme" (defArgs s__law_scheme) (defBody s__law_scheme) (defScope s__law_scheme) .none kV__law_scheme dc__law_scheme pm__law_scheme an__law_scheme cd__law_scheme ct__law_scheme), sl__law_scheme⟩)
    (c__law_scheme : PySem.W.codeIn K cd__law_scheme "_law_scheme" = true)
    (k__law_scheme : PySem.W.keepIn K (.ref f__law_scheme) = true)
    (m_Scheme_accounts : PySem.W.findIn K (.ref C_Scheme) "accounts" = some (some (.ref pr_Scheme_accounts)))
    (pg_Scheme_accounts : PySem.W.specialIn K (.ref pr_Scheme_accounts) "__get__" = some (some (.builtin "property.__get__")))
    (pt_Scheme_accounts : PySem.W.takesIn K (.ref pr_Scheme_accounts) = some true)
    (px_Scheme_accounts : PySem.W.recIn K pr_Scheme_accounts "property" = some (.ref f_Scheme_accounts :: rs_Scheme_accounts))
    (l_Scheme_accounts : K.lookup f_Scheme_accounts = some ⟨oc_Scheme_accounts, od_Scheme_accounts, .func (PySem.W.fnOf "accounts" "Scheme.accounts" (defArgs s_Scheme_accounts) (defBody s_Scheme_accounts) (defScope s_Scheme_accounts) .none kV_Scheme_accounts dc_Scheme_accounts pm_Scheme_accounts an_Scheme_accounts cd_Scheme_accounts ct_Scheme_accounts), sl_Scheme_accounts⟩)
    (c_Scheme_accounts : PySem.W.codeIn K cd_Scheme_accounts "Scheme.accounts" = true)
    (k_Scheme_accounts : PySem.W.keepIn K (.ref f_Scheme_accounts) = true)
    (a__law_all_pairs : PySem.W.nsIn K mainGlobals "_law_all_pairs" = some (some (.ref f__law_all_pairs)))
    (l__law_all_pairs : K.lookup f__law_all_pairs = some ⟨oc__law_all_pairs, od__law_all_pairs, .func (PySem.W.fnOf "_law_all_pairs" "_law_all_pairs" (defArgs s__law_all_pairs) (defBody s__law_all_pairs) (defScope s__law_all_pairs) .none kV__law_all_pairs dc__law_all_pairs pm__law_all_pairs an__law_all_pairs cd__law_all_pairs ct__law_all_pairs), sl__law_all_pairs⟩)
    (c__law_all_pairs : PySem.W.codeIn K cd__law_all_pairs "_law_all_pairs" = true)
    (k__law_all_pairs : PySem.W.keepIn K (.ref f__law_all_pairs) = true)
    (m_Scheme_prime : PySem.W.findIn K (.ref C_Scheme) "prime" = some (some (.ref pr_Scheme_prime)))
    (pg_Scheme_prime : PySem.W.specialIn K (.ref pr_Scheme_prime) "__get__" = some (some (.builtin "property.__get__")))
    (pt_Scheme_prime : PySem.W.takesIn K (.ref pr_Scheme_prime) = some true)
    (px_Scheme_prime : PySem.W.recIn K pr_Scheme_prime "property" = some (.ref f_Scheme_prime :: rs_Scheme_prime))
    (l_Scheme_prime : K.lookup f_Scheme_prime = some ⟨oc_Scheme_prime, od_Scheme_prime, .func (PySem.W.fnOf "prime" "Scheme.prime" (defArgs s_Scheme_prime) (defBody s_Scheme_prime) (defScope s_Scheme_prime) .none kV_Scheme_prime dc_Scheme_prime pm_Scheme_prime an_Scheme_prime cd_Scheme_prime ct_Scheme_prime), sl_Scheme_prime⟩)
    (c_Scheme_prime : PySem.W.codeIn K cd_Scheme_prime "Scheme.prime" = true)
    (k_Scheme_prime : PySem.W.keepIn K (.ref f_Scheme_prime) = true)
    (a__law_amount : PySem.W.nsIn K mainGlobals "_law_amount" = some (some (.ref f__law_amount)))
    (l__law_amount : K.lookup f__law_amount = some ⟨oc__law_amount, od__law_amount, .func (PySem.W.fnOf "_law_amount" "_law_amount" (defArgs s__law_amount) (defBody s__law_amount) (defScope s__law_amount) .none kV__law_amount dc__law_amount pm__law_amount an__law_amount cd__law_amount ct__law_amount), sl__law_amount⟩)
    (c__law_amount : PySem.W.codeIn K cd__law_amount "_law_amount" = true)
    (k__law_amount : PySem.W.keepIn K (.ref f__law_amount) = true)
    (a__law_table : PySem.W.nsIn K mainGlobals "_law_table" = some (some (.ref f__law_table)))
    (l__law_table : K.lookup f__law_table = some ⟨oc__law_table, od__law_table, .func (PySem.W.fnOf "_law_table" "_law_table" (defArgs s__law_table) (defBody s__law_table) (defScope s__law_table) .none kV__law_table dc__law_table pm__law_table an__law_table cd__law_table ct__law_table), sl__law_table⟩)
    (c__law_table : PySem.W.codeIn K cd__law_table "_law_table" = true)
    (k__law_table : PySem.W.keepIn K (.ref f__law_table) = true)
    (m_Scheme_length : PySem.W.findIn K (.ref C_Scheme) "length" = some (some (.ref pr_Scheme_length)))
    (pg_Scheme_length : PySem.W.specialIn K (.ref pr_Scheme_length) "__get__" = some (some (.builtin "property.__get__")))
    (pt_Scheme_length : PySem.W.takesIn K (.ref pr_Scheme_length) = some true)
    (px_Scheme_length : PySem.W.recIn K pr_Scheme_length "property" = some (.ref f_Scheme_length :: rs_Scheme_length))
    (l_Scheme_length : K.lookup f_Scheme_length = some ⟨oc_Scheme_length, od_Scheme_length, .func (PySem.W.fnOf "length" "Scheme.length" (defArgs s_Scheme_length) (defBody s_Scheme_length) (defScope s_Scheme_length) .none kV_Scheme_length dc_Scheme_length pm_Scheme_length an_Scheme_length cd_Scheme_length ct_Scheme_length), sl_Scheme_length⟩)
    (c_Scheme_length : PySem.W.codeIn K cd_Scheme_length "Scheme.length" = true)
    (k_Scheme_length : PySem.W.keepIn K (.ref f_Scheme_length) = true)
    (a__law_reduced : PySem.W.nsIn K mainGlobals "_law_reduced" = some (some (.ref f__law_reduced)))
    (l__law_reduced : K.lookup f__law_reduced = some ⟨oc__law_reduced, od__law_reduced, .func (PySem.W.fnOf "_law_reduced" "_law_reduced" (defArgs s__law_reduced) (defBody s__law_reduced) (defScope s__law_reduced) .none kV__law_reduced dc__law_reduced pm__law_reduced an__law_reduced cd__law_reduced ct__law_reduced), sl__law_reduced⟩)
    (c__law_reduced : PySem.W.codeIn K cd__law_reduced "_law_reduced" = true)
    (k__law_reduced : PySem.W.keepIn K (.ref f__law_reduced) = true)
    (a__law_ledger : PySem.W.nsIn K mainGlobals "_law_ledger" = some (some (.ref f__law_ledger)))
    (l__law_ledger : K.lookup f__law_ledger = some ⟨oc__law_ledger, od__law_ledger, .func (PySem.W.fnOf "_law_ledger" "_law_ledger" (defArgs s__law_ledger) (defBody s__law_ledger) (defScope s__law_ledger) .none kV__law_ledger dc__law_ledger pm__law_ledger an__law_ledger cd__law_ledger ct__law_ledger), sl__law_ledger⟩)
    (c__law_ledger : PySem.W.codeIn K cd__law_ledger "_law_ledger" = true)
    (k__law_ledger : PySem.W.keepIn K (.ref f__law_ledger) = true)
    (a_cut_ledger : PySem.W.nsIn K mainGlobals "cut_ledger" = some (some (.ref f_cut_ledger)))
    (l_cut_ledger : K.lookup f_cut_ledger = some ⟨oc_cut_ledger, od_cut_ledger, .func (PySem.W.fnOf "cut_ledger" "cut_ledger" (defArgs s_cut_ledger) (defBody s_cut_ledger) (defScope s_cut_ledger) .none kV_cut_ledger dc_cut_ledger pm_cut_ledger an_cut_ledger cd_cut_ledger ct_cut_ledger), sl_cut_ledger⟩)
    (c_cut_ledger : PySem.W.codeIn K cd_cut_ledger "cut_ledger" = true)
    (k_cut_ledger : PySem.W.keepIn K (.ref f_cut_ledger) = true)
    (a_zero_ledger : PySem.W.nsIn K mainGlobals "zero_ledger" = some (some (.ref f_zero_ledger)))
    (l_zero_ledger : K.lookup f_zero_ledger = some ⟨oc_zero_ledger, od_zero_ledger, .func (PySem.W.fnOf "zero_ledger" "zero_ledger" (defArgs s_zero_ledger) (defBody s_zero_ledger) (defScope s_zero_ledger) .none kV_zero_ledger dc_zero_ledger pm_zero_ledger an_zero_ledger cd_zero_ledger ct_zero_ledger), sl_zero_ledger⟩)
    (c_zero_ledger : PySem.W.codeIn K cd_zero_ledger "zero_ledger" = true)
    (k_zero_ledger : PySem.W.keepIn K (.ref f_zero_ledger) = true)
    (m_Scheme_name_of : PySem.W.findIn K (.ref C_Scheme) "name_of" = some (some (.ref f_Scheme_name_of)))
    (i_Scheme_name_of : PySem.W.isFn K (.ref f_Scheme_name_of) = true)
    (l_Scheme_name_of : K.lookup f_Scheme_name_of = some ⟨oc_Scheme_name_of, od_Scheme_name_of, .func (PySem.W.fnOf "name_of" "Scheme.name_of" (defArgs s_Scheme_name_of) (defBody s_Scheme_name_of) (defScope s_Scheme_name_of) .none kV_Scheme_name_of dc_Scheme_name_of pm_Scheme_name_of an_Scheme_name_of cd_Scheme_name_of ct_Scheme_name_of), sl_Scheme_name_of⟩)
    (c_Scheme_name_of : PySem.W.codeIn K cd_Scheme_name_of "Scheme.name_of" = true)
    (k_Scheme_name_of : PySem.W.keepIn K (.ref f_Scheme_name_of) = true)
    (m_Scheme_reduced : PySem.W.findIn K (.ref C_Scheme) "reduced" = some (some (.ref f_Scheme_reduced)))
    (i_Scheme_reduced : PySem.W.isFn K (.ref f_Scheme_reduced) = true)
    (l_Scheme_reduced : K.lookup f_Scheme_reduced = some ⟨oc_Scheme_reduced, od_Scheme_reduced, .func (PySem.W.fnOf "reduced" "Scheme.reduced" (defArgs s_Scheme_reduced) (defBody s_Scheme_reduced) (defScope s_Scheme_reduced) .none kV_Scheme_reduced dc_Scheme_reduced pm_Scheme_reduced an_Scheme_reduced cd_Scheme_reduced ct_Scheme_reduced), sl_Scheme_reduced⟩)
    (c_Scheme_reduced : PySem.W.codeIn K cd_Scheme_reduced "Scheme.reduced" = true)
    (k_Scheme_reduced : PySem.W.keepIn K (.ref f_Scheme_reduced) = true)
    (a_ledger_of : PySem.W.nsIn K mainGlobals "ledger_of" = some (some (.ref f_ledger_of)))
    (l_ledger_of : K.lookup f_ledger_of = some ⟨oc_ledger_of, od_ledger_of, .func (PySem.W.fnOf "ledger_of" "ledger_of" (defArgs s_ledger_of) (defBody s_ledger_of) (defScope s_ledger_of) .none kV_ledger_of dc_ledger_of pm_ledger_of an_ledger_of cd_ledger_of ct_ledger_of), sl_ledger_of⟩)
    (c_ledger_of : PySem.W.codeIn K cd_ledger_of "ledger_of" = true)
    (k_ledger_of : PySem.W.keepIn K (.ref f_ledger_of) = true)
    (m_Scheme_shortened : PySem.W.findIn K (.ref C_Scheme) "shortened" = some (some (.ref f_Scheme_shortened)))
    (i_Scheme_shortened : PySem.W.isFn K (.ref f_Scheme_shortened) = true)
    (l_Scheme_shortened : K.lookup f_Scheme_shortened = some ⟨oc_Scheme_shortened, od_Scheme_shortened, .func (PySem.W.fnOf "shortened" "Scheme.shortened" (defArgs s_Scheme_shortened) (defBody s_Scheme_shortened) (defScope s_Scheme_shortened) .none kV_Scheme_shortened dc_Scheme_shortened pm_Scheme_shortened an_Scheme_shortened cd_Scheme_shortened ct_Scheme_shortened), sl_Scheme_shortened⟩)
    (c_Scheme_shortened : PySem.W.codeIn K cd_Scheme_shortened "Scheme.shortened" = true)
    (k_Scheme_shortened : PySem.W.keepIn K (.ref f_Scheme_shortened) = true)
    (a_is_integer : PySem.W.nsIn K mainGlobals "is_integer" = some (some (.ref f_is_integer)))
    (l_is_integer : K.lookup f_is_integer = some ⟨oc_is_integer, od_is_integer, .func (PySem.W.fnOf "is_integer" "is_integer" (defArgs s_is_integer) (defBody s_is_integer) (defScope s_is_integer) .none kV_is_integer dc_is_integer pm_is_integer an_is_integer cd_is_integer ct_is_integer), sl_is_integer⟩)
    (c_is_integer : PySem.W.codeIn K cd_is_integer "is_integer" = true)
    (k_is_integer : PySem.W.keepIn K (.ref f_is_integer) = true)
    (m_Scheme_largest_amount : PySem.W.findIn K (.ref C_Scheme) "largest_amount" = some (some (.ref pr_Scheme_largest_amount)))
    (pg_Scheme_largest_amount : PySem.W.specialIn K (.ref pr_Scheme_largest_amount) "__get__" = some (some (.builtin "property.__get__")))
    (pt_Scheme_largest_amount : PySem.W.takesIn K (.ref pr_Scheme_largest_amount) = some true)
    (px_Scheme_largest_amount : PySem.W.recIn K pr_Scheme_largest_amount "property" = some (.ref f_Scheme_largest_amount :: rs_Scheme_largest_amount))
    (l_Scheme_largest_amount : K.lookup f_Scheme_largest_amount = some ⟨oc_Scheme_largest_amount, od_Scheme_largest_amount, .func (PySem.W.fnOf "largest_amount" "Scheme.largest_amount" (defArgs s_Scheme_largest_amount) (defBody s_Scheme_largest_amount) (defScope s_Scheme_largest_amount) .none kV_Scheme_largest_amount dc_Scheme_largest_amount pm_Scheme_largest_amount an_Scheme_largest_amount cd_Scheme_largest_amount ct_Scheme_largest_amount), sl_Scheme_largest_amount⟩)
    (c_Scheme_largest_amount : PySem.W.codeIn K cd_Scheme_largest_amount "Scheme.largest_amount" = true)
    (k_Scheme_largest_amount : PySem.W.keepIn K (.ref f_Scheme_largest_amount) = true)
    (a_is_reduced : PySem.W.nsIn K mainGlobals "is_reduced" = some (some (.ref f_is_reduced)))
    (l_is_reduced : K.lookup f_is_reduced = some ⟨oc_is_reduced, od_is_reduced, .func (PySem.W.fnOf "is_reduced" "is_reduced" (defArgs s_is_reduced) (defBody s_is_reduced) (defScope s_is_reduced) .none kV_is_reduced dc_is_reduced pm_is_reduced an_is_reduced cd_is_reduced ct_is_reduced), sl_is_reduced⟩)
    (c_is_reduced : PySem.W.codeIn K cd_is_reduced "is_reduced" = true)
    (k_is_reduced : PySem.W.keepIn K (.ref f_is_reduced) = true)
    (a_is_ledger : PySem.W.nsIn K mainGlobals "is_ledger" = some (some (.ref f_is_ledger)))
    (l_is_ledger : K.lookup f_is_ledger = some ⟨oc_is_ledger, od_is_ledger, .func (PySem.W.fnOf "is_ledger" "is_ledger" (defArgs s_is_ledger) (defBody s_is_ledger) (defScope s_is_ledger) .none kV_is_ledger dc_is_ledger pm_is_ledger an_is_ledger cd_is_ledger ct_is_ledger), sl_is_ledger⟩)
    (c_is_ledger : PySem.W.codeIn K cd_is_ledger "is_ledger" = true)
    (k_is_ledger : PySem.W.keepIn K (.ref f_is_ledger) = true)
    (a__law_one_right : PySem.W.nsIn K mainGlobals "_law_one_right" = some (some (.ref f__law_one_right)))
    (l__law_one_right : K.lookup f__law_one_right = some ⟨oc__law_one_right, od__law_one_right, .func (PySem.W.fnOf "_law_one_right" "_law_one_right" (defArgs s__law_one_right) (defBody s__law_one_right) (defScope s__law_one_right) .none kV__law_one_right dc__law_one_right pm__law_one_right an__law_one_right cd__law_one_right ct__law_one_right), sl__law_one_right⟩)
    (c__law_one_right : PySem.W.codeIn K cd__law_one_right "_law_one_right" = true)
    (k__law_one_right : PySem.W.keepIn K (.ref f__law_one_right) = true)
    (a_law : PySem.W.nsIn K mainGlobals "law" = some (some (.ref f_law)))
    (l_law : K.lookup f_law = some ⟨oc_law, od_law, .func (PySem.W.fnOf "law" "law" (defArgs s_law) (defBody s_law) (defScope s_law) .none kV_law dc_law pm_law an_law cd_law ct_law), sl_law⟩)
    (c_law : PySem.W.codeIn K cd_law "law" = true)
    (k_law : PySem.W.keepIn K (.ref f_law) = true)
    (pg_Scheme : PySem.W.plainGet K C_Scheme Str.empty = true)
    (hd_Scheme : PySem.W.hasDictIn K C_Scheme = true)
    (po_Scheme : PySem.W.plainOver K C_Scheme = true)
    (sa_Scheme : PySem.W.findIn K (.ref C_Scheme) "__setattr__" = some (some (.builtin "object.__setattr__")))
    (mk_Scheme : PySem.W.makesIn K C_Scheme = true)
    (kc_Scheme : PySem.W.keepIn K (.ref C_Scheme) = true)
    (rd_Scheme : PySem.W.readsIn K C_Scheme (.type "type") = true)
    (ga_Scheme : PySem.W.specialIn K (.ref C_Scheme) "__getattribute__" = some (some (.builtin "type.__getattribute__")))
    (z_abs : PySem.W.nsIn K mainGlobals "abs" = some none)
    (z_all : PySem.W.nsIn K mainGlobals "all" = some none)
    (z_bool : PySem.W.nsIn K mainGlobals "bool" = some none)
    (z_int : PySem.W.nsIn K mainGlobals "int" = some none)
    (z_isinstance : PySem.W.nsIn K mainGlobals "isinstance" = some none)
    (z_len : PySem.W.nsIn K mainGlobals "len" = some none)
    (z_list : PySem.W.nsIn K mainGlobals "list" = some none)
    (z_range : PySem.W.nsIn K mainGlobals "range" = some none)
    (z_repr : PySem.W.nsIn K mainGlobals "repr" = some none)
    (z_sorted : PySem.W.nsIn K mainGlobals "sorted" = some none)
    (z_tuple : PySem.W.nsIn K mainGlobals "tuple" = some none)
    (ka_BASES' : PySem.W.nsIn K mainGlobals "BASES" = some (some (.ref ka_BASES)))
    (kl_BASES : K.lookup ka_BASES = some ⟨.type "tuple", kod_BASES, .seq #[.int 2 kt_BASES_0, .int 3 kt_BASES_1, .int 5 kt_BASES_2, .int 7 kt_BASES_3] kn_BASES, ksl_BASES⟩)
    (ka_LEAST_ACCOUNTS' : PySem.W.nsIn K mainGlobals "LEAST_ACCOUNTS" = some (some (.int 2 kt_LEAST_ACCOUNTS)))
    (v_Scheme_LARGEST_PRIME : PySem.W.findCls K (.ref C_Scheme) (.type "type") "LARGEST_PRIME" = some (.val (.int 1000000000 t_Scheme_LARGEST_PRIME)))
    (v_Scheme_MOST_ACCOUNTS : PySem.W.findCls K (.ref C_Scheme) (.type "type") "MOST_ACCOUNTS" = some (.val (.int 24 t_Scheme_MOST_ACCOUNTS)))
    (v_Scheme_MOST_NUMBERS : PySem.W.findCls K (.ref C_Scheme) (.type "type") "MOST_NUMBERS" = some (.val (.int 24 t_Scheme_MOST_NUMBERS)))
    (n_Scheme_accounts_used : PySem.W.findIn K (.ref C_Scheme) "accounts_used" = some none)
    (n_Scheme_length_used : PySem.W.findIn K (.ref C_Scheme) "length_used" = some none)
    (n_Scheme_prime_used : PySem.W.findIn K (.ref C_Scheme) "prime_used" = some none)
    : ∃ (fd : FuncData) (G0 : Heap → Gx), (∀ base, (G0 base).P = l.prog ∧ (G0 base).w = w ∧ (G0 base).K = K ∧ (G0 base).mg = mg ∧ (G0 base).base = base) ∧ (∀ (s : Shared) (u : Value), BindsTo s fd ⟨[u], []⟩ [("_law_script", u)]) ∧
      ∀ base : Heap, K.In base → base.Ns mainGlobals mg → FnB (G0 base) 9 fa fd ["_law_script"] (m_law (G0 base)) := by
  have e := hfa.symm.trans (PySem.W.mg_of X N a_law)
  cases e
  refine ⟨PySem.W.fnOf "law" "law" (defArgs s_law) (defBody s_law) (defScope s_law) .none kV_law dc_law pm_law an_law cd_law ct_law, fun base => (⟨l.prog, w, K, mg, base, fun n => ([C_Scheme] : List Addr).getD n 0, fun n => ([["prime_used", "accounts_used", "length_used"]] : List (List Str)).getD n [], fun _ => 0, fun _ => "", none⟩ : Gx), fun base => ⟨rfl, rfl, rfl, rfl, rfl⟩, fun s v => .of_eq rfl, fun base _ _ => Txt.B_law (G := (⟨l.prog, w, K, mg, base, fun n => ([C_Scheme] : List Addr).getD n 0, fun n => ([["prime_used", "accounts_used", "length_used"]] : List (List Str)).getD n [], fun _ => 0, fun _ => "", none⟩ : Gx)) {
    f__law_source := f__law_source
    d__law_source := PySem.W.fnOf "_law_source" "_law_source" (defArgs s__law_source) (defBody s__law_source) (defScope s__law_source) .none kV__law_source dc__law_source pm__law_source an__law_source cd__law_source ct__law_source
    F__law_source := fun_mk (st := s__law_source) l__law_source c__law_source k__law_source
    g__law_source := PySem.W.mg_of X N a__law_source
    f__law_draw := f__law_draw
    d__law_draw := PySem.W.fnOf "_law_draw" "_law_draw" (defArgs s__law_draw) (defBody s__law_draw) (defScope s__law_draw) .none kV__law_draw dc__law_draw pm__law_draw an__law_draw cd__law_draw ct__law_draw
    F__law_draw := fun_mk (st := s__law_draw) l__law_draw c__law_draw k__law_draw
    g__law_draw := PySem.W.mg_of X N a__law_draw
    f__law_choose := f__law_choose
    d__law_choose := PySem.W.fnOf "_law_choose" "_law_choose" (defArgs s__law_choose) (defBody s__law_choose) (defScope s__law_choose) .none kV__law_choose dc__law_choose pm__law_choose an__law_choose cd__law_choose ct__law_choose
    F__law_choose := fun_mk (st := s__law_choose) l__law_choose c__law_choose k__law_choose
    g__law_choose := PySem.W.mg_of X N a__law_choose
    f_is_between := f_is_between
    d_is_between := PySem.W.fnOf "is_between" "is_between" (defArgs s_is_between) (defBody s_is_between) (defScope s_is_between) .none kV_is_between dc_is_between pm_is_between an_is_between cd_is_between ct_is_between
    F_is_between := fun_mk (st := s_is_between) l_is_between c_is_between k_is_between
    g_is_between := PySem.W.mg_of X N a_is_between
    f_reduced_modulo := f_reduced_modulo
    d_reduced_modulo := PySem.W.fnOf "reduced_modulo" "reduced_modulo" (defArgs s_reduced_modulo) (defBody s_reduced_modulo) (defScope s_reduced_modulo) .none kV_reduced_modulo dc_reduced_modulo pm_reduced_modulo an_reduced_modulo cd_reduced_modulo ct_reduced_modulo
    F_reduced_modulo := fun_mk (st := s_reduced_modulo) l_reduced_modulo c_reduced_modulo k_reduced_modulo
    g_reduced_modulo := PySem.W.mg_of X N a_reduced_modulo
    f_power_of := f_power_of
    d_power_of := PySem.W.fnOf "power_of" "power_of" (defArgs s_power_of) (defBody s_power_of) (defScope s_power_of) .none kV_power_of dc_power_of pm_power_of an_power_of cd_power_of ct_power_of
    F_power_of := fun_mk (st := s_power_of) l_power_of c_power_of k_power_of
    g_power_of := PySem.W.mg_of X N a_power_of
    f_is_probable := f_is_probable
    d_is_probable := PySem.W.fnOf "is_probable" "is_probable" (defArgs s_is_probable) (defBody s_is_probable) (defScope s_is_probable) .none kV_is_probable dc_is_probable pm_is_probable an_is_probable cd_is_probable ct_is_probable
    F_is_probable := fun_mk (st := s_is_probable) l_is_probable c_is_probable k_is_probable
    g_is_probable := PySem.W.mg_of X N a_is_probable
    f_is_odd_prime := f_is_odd_prime
    d_is_odd_prime := PySem.W.fnOf "is_odd_prime" "is_odd_prime" (defArgs s_is_odd_prime) (defBody s_is_odd_prime) (defScope s_is_odd_prime) .none kV_is_odd_prime dc_is_odd_prime pm_is_odd_prime an_is_odd_prime cd_is_odd_prime ct_is_odd_prime
    F_is_odd_prime := fun_mk (st := s_is_odd_prime) l_is_odd_prime c_is_odd_prime k_is_odd_prime
    g_is_odd_prime := PySem.W.mg_of X N a_is_odd_prime
    f_Scheme_is_prime := f_Scheme_is_prime
    d_Scheme_is_prime := PySem.W.fnOf "is_prime" "Scheme.is_prime" (defArgs s_Scheme_is_prime) (defBody s_Scheme_is_prime) (defScope s_Scheme_is_prime) .none kV_Scheme_is_prime dc_Scheme_is_prime pm_Scheme_is_prime an_Scheme_is_prime cd_Scheme_is_prime ct_Scheme_is_prime
    F_Scheme_is_prime := fun_mk (st := s_Scheme_is_prime) l_Scheme_is_prime c_Scheme_is_prime k_Scheme_is_prime
    f_Scheme__init_ := f_Scheme__init_
    d_Scheme__init_ := PySem.W.fnOf "__init__" "Scheme.__init__" (defArgs s_Scheme__init_) (defBody s_Scheme__init_) (defScope s_Scheme__init_) .none kV_Scheme__init_ dc_Scheme__init_ pm_Scheme__init_ an_Scheme__init_ cd_Scheme__init_ ct_Scheme__init_
    F_Scheme__init_ := fun_mk (st := s_Scheme__init_) l_Scheme__init_ c_Scheme__init_ k_Scheme__init_
    f__law_scheme := f__law_scheme
    d__law_scheme := PySem.W.fnOf "_law_scheme" "_law_scheme" (defArgs s__law_scheme) (defBody s__law_scheme) (defScope s__law_scheme) .none kV__law_scheme dc__law_scheme pm__law_scheme an__law_scheme cd__law_scheme ct__law_scheme
    F__law_scheme := fun_mk (st := s__law_scheme) l__law_scheme c__law_scheme k__law_scheme
    g__law_scheme := PySem.W.mg_of X N a__law_scheme
    f_Scheme_accounts := f_Scheme_accounts
    d_Scheme_accounts := PySem.W.fnOf "accounts" "Scheme.accounts" (defArgs s_Scheme_accounts) (defBody s_Scheme_accounts) (defScope s_Scheme_accounts) .none kV_Scheme_accounts dc_Scheme_accounts pm_Scheme_accounts an_Scheme_accounts cd_Scheme_accounts ct_Scheme_accounts
    F_Scheme_accounts := fun_mk (st := s_Scheme_accounts) l_Scheme_accounts c_Scheme_accounts k_Scheme_accounts
    f__law_all_pairs := f__law_all_pairs
    d__law_all_pairs := PySem.W.fnOf "_law_all_pairs" "_law_all_pairs" (defArgs s__law_all_pairs) (defBody s__law_all_pairs) (defScope s__law_all_pairs) .none kV__law_all_pairs dc__law_all_pairs pm__law_all_pairs an__law_all_pairs cd__law_all_pairs ct__law_all_pairs
    F__law_all_pairs := fun_mk (st := s__law_all_pairs) l__law_all_pairs c__law_all_pairs k__law_all_pairs
    g__law_all_pairs := PySem.W.mg_of X N a__law_all_pairs
    f_Scheme_prime := f_Scheme_prime
    d_Scheme_prime := PySem.W.fnOf "prime" "Scheme.prime" (defArgs s_Scheme_prime) (defBody s_Scheme_prime) (defScope s_Scheme_prime) .none kV_Scheme_prime dc_Scheme_prime pm_Scheme_prime an_Scheme_prime cd_Scheme_prime ct_Scheme_prime
    F_Scheme_prime := fun_mk (st := s_Scheme_prime) l_Scheme_prime c_Scheme_prime k_Scheme_prime
    f__law_amount := f__law_amount
    d__law_amount := PySem.W.fnOf "_law_amount" "_law_amount" (defArgs s__law_amount) (defBody s__law_amount) (defScope s__law_amount) .none kV__law_amount dc__law_amount pm__law_amount an__law_amount cd__law_amount ct__law_amount
    F__law_amount := fun_mk (st := s__law_amount) l__law_amount c__law_amount k__law_amount
    g__law_amount := PySem.W.mg_of X N a__law_amount
    f__law_table := f__law_table
    d__law_table := PySem.W.fnOf "_law_table" "_law_table" (defArgs s__law_table) (defBody s__law_table) (defScope s__law_table) .none kV__law_table dc__law_table pm__law_table an__law_table cd__law_table ct__law_table
    F__law_table := fun_mk (st := s__law_table) l__law_table c__law_table k__law_table
    g__law_table := PySem.W.mg_of X N a__law_table
    f_Scheme_length := f_Scheme_length
    d_Scheme_length := PySem.W.fnOf "length" "Scheme.length" (defArgs s_Scheme_length) (defBody s_Scheme_length) (defScope s_Scheme_length) .none kV_Scheme_length dc_Scheme_length pm_Scheme_length an_Scheme_length cd_Scheme_length ct_Scheme_length
    F_Scheme_length := fun_mk (st := s_Scheme_length) l_Scheme_length c_Scheme_length k_Scheme_length
    f__law_reduced := f__law_reduced
    d__law_reduced := PySem.W.fnOf "_law_reduced" "_law_reduced" (defArgs s__law_reduced) (defBody s__law_reduced) (defScope s__law_reduced) .none kV__law_reduced dc__law_reduced pm__law_reduced an__law_reduced cd__law_reduced ct__law_reduced
    F__law_reduced := fun_mk (st := s__law_reduced) l__law_reduced c__law_reduced k__law_reduced
    g__law_reduced := PySem.W.mg_of X N a__law_reduced
    f__law_ledger := f__law_ledger
    d__law_ledger := PySem.W.fnOf "_law_ledger" "_law_ledger" (defArgs s__law_ledger) (defBody s__law_ledger) (defScope s__law_ledger) .none kV__law_ledger dc__law_ledger pm__law_ledger an__law_ledger cd__law_ledger ct__law_ledger
    F__law_ledger := fun_mk (st := s__law_ledger) l__law_ledger c__law_ledger k__law_ledger
    g__law_ledger := PySem.W.mg_of X N a__law_ledger
    f_cut_ledger := f_cut_ledger
    d_cut_ledger := PySem.W.fnOf "cut_ledger" "cut_ledger" (defArgs s_cut_ledger) (defBody s_cut_ledger) (defScope s_cut_ledger) .none kV_cut_ledger dc_cut_ledger pm_cut_ledger an_cut_ledger cd_cut_ledger ct_cut_ledger
    F_cut_ledger := fun_mk (st := s_cut_ledger) l_cut_ledger c_cut_ledger k_cut_ledger
    g_cut_ledger := PySem.W.mg_of X N a_cut_ledger
    f_zero_ledger := f_zero_ledger
    d_zero_ledger := PySem.W.fnOf "zero_ledger" "zero_ledger" (defArgs s_zero_ledger) (defBody s_zero_ledger) (defScope s_zero_ledger) .none kV_zero_ledger dc_zero_ledger pm_zero_ledger an_zero_ledger cd_zero_ledger ct_zero_ledger
    F_zero_ledger := fun_mk (st := s_zero_ledger) l_zero_ledger c_zero_ledger k_zero_ledger
    g_zero_ledger := PySem.W.mg_of X N a_zero_ledger
    f_Scheme_name_of := f_Scheme_name_of
    d_Scheme_name_of := PySem.W.fnOf "name_of" "Scheme.name_of" (defArgs s_Scheme_name_of) (defBody s_Scheme_name_of) (defScope s_Scheme_name_of) .none kV_Scheme_name_of dc_Scheme_name_of pm_Scheme_name_of an_Scheme_name_of cd_Scheme_name_of ct_Scheme_name_of
    F_Scheme_name_of := fun_mk (st := s_Scheme_name_of) l_Scheme_name_of c_Scheme_name_of k_Scheme_name_of
    f_Scheme_reduced := f_Scheme_reduced
    d_Scheme_reduced := PySem.W.fnOf "reduced" "Scheme.reduced" (defArgs s_Scheme_reduced) (defBody s_Scheme_reduced) (defScope s_Scheme_reduced) .none kV_Scheme_reduced dc_Scheme_reduced pm_Scheme_reduced an_Scheme_reduced cd_Scheme_reduced ct_Scheme_reduced
    F_Scheme_reduced := fun_mk (st := s_Scheme_reduced) l_Scheme_reduced c_Scheme_reduced k_Scheme_reduced
    f_ledger_of := f_ledger_of
    d_ledger_of := PySem.W.fnOf "ledger_of" "ledger_of" (defArgs s_ledger_of) (defBody s_ledger_of) (defScope s_ledger_of) .none kV_ledger_of dc_ledger_of pm_ledger_of an_ledger_of cd_ledger_of ct_ledger_of
    F_ledger_of := fun_mk (st := s_ledger_of) l_ledger_of c_ledger_of k_ledger_of
    g_ledger_of := PySem.W.mg_of X N a_ledger_of
    f_Scheme_shortened := f_Scheme_shortened
    d_Scheme_shortened := PySem.W.fnOf "shortened" "Scheme.shortened" (defArgs s_Scheme_shortened) (defBody s_Scheme_shortened) (defScope s_Scheme_shortened) .none kV_Scheme_shortened dc_Scheme_shortened pm_Scheme_shortened an_Scheme_shortened cd_Scheme_shortened ct_Scheme_shortened
    F_Scheme_shortened := fun_mk (st := s_Scheme_shortened) l_Scheme_shortened c_Scheme_shortened k_Scheme_shortened
    f_is_integer := f_is_integer
    d_is_integer := PySem.W.fnOf "is_integer" "is_integer" (defArgs s_is_integer) (defBody s_is_integer) (defScope s_is_integer) .none kV_is_integer dc_is_integer pm_is_integer an_is_integer cd_is_integer ct_is_integer
    F_is_integer := fun_mk (st := s_is_integer) l_is_integer c_is_integer k_is_integer
    g_is_integer := PySem.W.mg_of X N a_is_integer
    f_Scheme_largest_amount := f_Scheme_largest_amount
    d_Scheme_largest_amount := PySem.W.fnOf "largest_amount" "Scheme.largest_amount" (defArgs s_Scheme_largest_amount) (defBody s_Scheme_largest_amount) (defScope s_Scheme_largest_amount) .none kV_Scheme_largest_amount dc_Scheme_largest_amount pm_Scheme_largest_amount an_Scheme_largest_amount cd_Scheme_largest_amount ct_Scheme_largest_amount
    F_Scheme_largest_amount := fun_mk (st := s_Scheme_largest_amount) l_Scheme_largest_amount c_Scheme_largest_amount k_Scheme_largest_amount
    f_is_reduced := f_is_reduced
    d_is_reduced := PySem.W.fnOf "is_reduced" "is_reduced" (defArgs s_is_reduced) (defBody s_is_reduced) (defScope s_is_reduced) .none kV_is_reduced dc_is_reduced pm_is_reduced an_is_reduced cd_is_reduced ct_is_reduced
    F_is_reduced := fun_mk (st := s_is_reduced) l_is_reduced c_is_reduced k_is_reduced
    g_is_reduced := PySem.W.mg_of X N a_is_reduced
    f_is_ledger := f_is_ledger
    d_is_ledger := PySem.W.fnOf "is_ledger" "is_ledger" (defArgs s_is_ledger) (defBody s_is_ledger) (defScope s_is_ledger) .none kV_is_ledger dc_is_ledger pm_is_ledger an_is_ledger cd_is_ledger ct_is_ledger
    F_is_ledger := fun_mk (st := s_is_ledger) l_is_ledger c_is_ledger k_is_ledger
    g_is_ledger := PySem.W.mg_of X N a_is_ledger
    f__law_one_right := f__law_one_right
    d__law_one_right := PySem.W.fnOf "_law_one_right" "_law_one_right" (defArgs s__law_one_right) (defBody s__law_one_right) (defScope s__law_one_right) .none kV__law_one_right dc__law_one_right pm__law_one_right an__law_one_right cd__law_one_right ct__law_one_right
    F__law_one_right := fun_mk (st := s__law_one_right) l__law_one_right c__law_one_right k__law_one_right
    g__law_one_right := PySem.W.mg_of X N a__law_one_right
    f_law := fa
    d_law := PySem.W.fnOf "law" "law" (defArgs s_law) (defBody s_law) (defScope s_law) .none kV_law dc_law pm_law an_law cd_law ct_law
    F_law := fun_mk (st := s_law) l_law c_law k_law
    g_law := PySem.W.mg_of X N a_law
    cl_Scheme := ⟨pg_Scheme, hd_Scheme, po_Scheme, sa_Scheme⟩
    g_Scheme := PySem.W.mg_of X N aC_Scheme
    fn_Scheme := rfl
    mk_Scheme := ⟨mk_Scheme, m_Scheme__init_, i_Scheme__init_, kc_Scheme⟩
    rd_Scheme := ⟨rd_Scheme, ga_Scheme⟩
    z_abs := PySem.W.mg_none_of X N z_abs
    z_all := PySem.W.mg_none_of X N z_all
    z_bool := PySem.W.mg_none_of X N z_bool
    z_int := PySem.W.mg_none_of X N z_int
    z_isinstance := PySem.W.mg_none_of X N z_isinstance
    z_len := PySem.W.mg_none_of X N z_len
    z_list := PySem.W.mg_none_of X N z_list
    z_range := PySem.W.mg_none_of X N z_range
    z_repr := PySem.W.mg_none_of X N z_repr
    z_sorted := PySem.W.mg_none_of X N z_sorted
    z_tuple := PySem.W.mg_none_of X N z_tuple
    ka_BASES := ka_BASES
    kv_BASES := [.int 2, .int 3, .int 5, .int 7]
    kg_BASES := PySem.W.mg_of X N ka_BASES'
    kw_BASES := ⟨_, _, _, kl_BASES, rfl, rfl, show (4 : Nat) ≤ sizeLine by decide, .cons ⟨_, rfl⟩ (.cons ⟨_, rfl⟩ (.cons ⟨_, rfl⟩ (.cons ⟨_, rfl⟩ (.nil))))⟩
    kr_BASES := fun _ _ _ => .cons (.int _) (.cons (.int _) (.cons (.int _) (.cons (.int _) (.nil))))
    kt_LEAST_ACCOUNTS := kt_LEAST_ACCOUNTS
    kg_LEAST_ACCOUNTS := PySem.W.mg_of X N ka_LEAST_ACCOUNTS'
    t_Scheme_LARGEST_PRIME := t_Scheme_LARGEST_PRIME
    v_Scheme_LARGEST_PRIME := ⟨v_Scheme_LARGEST_PRIME, ⟨_, rfl⟩⟩
    t_Scheme_MOST_ACCOUNTS := t_Scheme_MOST_ACCOUNTS
    v_Scheme_MOST_ACCOUNTS := ⟨v_Scheme_MOST_ACCOUNTS, ⟨_, rfl⟩⟩
    t_Scheme_MOST_NUMBERS := t_Scheme_MOST_NUMBERS
    v_Scheme_MOST_NUMBERS := ⟨v_Scheme_MOST_NUMBERS, ⟨_, rfl⟩⟩
    n_Scheme_accounts_used := n_Scheme_accounts_used
    n_Scheme_length_used := n_Scheme_length_used
    n_Scheme_prime_used := n_Scheme_prime_used
    mt_Scheme_name_of := ⟨m_Scheme_name_of, i_Scheme_name_of, k_Scheme_name_of⟩
    mt_Scheme_reduced := ⟨m_Scheme_reduced, i_Scheme_reduced, k_Scheme_reduced⟩
    mt_Scheme_shortened := ⟨m_Scheme_shortened, i_Scheme_shortened, k_Scheme_shortened⟩
    pr_Scheme_accounts := pr_Scheme_accounts
    p_Scheme_accounts := ⟨m_Scheme_accounts, pg_Scheme_accounts, pt_Scheme_accounts, _, px_Scheme_accounts⟩
    pr_Scheme_largest_amount := pr_Scheme_largest_amount
    p_Scheme_largest_amount := ⟨m_Scheme_largest_amount, pg_Scheme_largest_amount, pt_Scheme_largest_amount, _, px_Scheme_largest_amount⟩
    pr_Scheme_length := pr_Scheme_length
    p_Scheme_length := ⟨m_Scheme_length, pg_Scheme_length, pt_Scheme_length, _, px_Scheme_length⟩
    pr_Scheme_prime := pr_Scheme_prime
    p_Scheme_prime := ⟨m_Scheme_prime, pg_Scheme_prime, pt_Scheme_prime, _, px_Scheme_prime⟩
    sp_Scheme_is_prime := pr_Scheme_is_prime
    st_Scheme_is_prime := ⟨m_Scheme_is_prime, ⟨_, px_Scheme_is_prime⟩, k_Scheme_is_prime⟩
  }⟩
end K07
open PySem PySem.W PyProof.Rows
set_option maxRecDepth 100000 in
set_option maxHeartbeats 0 in
theorem PySem.Challenge.cw_crossnought_k07_ledgers_of_patterns_holds : PySem.Challenge.rw_crossnought_k07_ledgers_of_patterns.Holds := by
  w_on; o_law; k_head; (case hw => w_witness2)
  k_fill
  refine DL.walk_dl (l := PySem.Challenge.rw_crossnought_k07_ledgers_of_patterns) (n := 63) (k := 9) (x := "_law_script") (m := fun G => K07.m_law G) rfl (by decide) rfl ⟨rfl, by decide, by decide⟩ (fun w h Y => PySem.W.kIn_of Y) (fun G => K07.law_tells) ?F
  case F =>
    intro w mg fa h KX G hmg
    refine' K07.all_mk KX G hmg ?h0 ?h1 ?h2 ?h3 ?h4 ?h5 ?h6 ?h7 ?h8 ?h9 ?h10 ?h11 ?h12 ?h13 ?h14 ?h15 ?h16 ?h17 ?h18 ?h19 ?h20 ?h21 ?h22 ?h23 ?h24 ?h25 ?h26 ?h27 ?h28 ?h29 ?h30 ?h31 ?h32 ?h33 ?h34 ?h35 ?h36 ?h37 ?h38 ?h39 ?h40 ?h41 ?h42 ?h43 ?h44 ?h45 ?h46 ?h47 ?h48 ?h49 ?h50 ?h51 ?h52 ?h53 ?h54 ?h55 ?h56 ?h57 ?h58 ?h59 ?h60 ?h61 ?h62 ?h63 ?h64 ?h65 ?h66 ?h67 ?h68 ?h69 ?h70 ?h71 ?h72 ?h73 ?h74 ?h75 ?h76 ?h77 ?h78 ?h79 ?h80 ?h81 ?h82 ?h83 ?h84 ?h85 ?h86 ?h87 ?h88 ?h89 ?h90 ?h91 ?h92 ?h93 ?h94 ?h95 ?h96 ?h97 ?h98 ?h99 ?h100 ?h101 ?h102 ?h103 ?h104 ?h105 ?h106 ?h107 ?h108 ?h109 ?h110 ?h111 ?h112 ?h113 ?h114 ?h115 ?h116 ?h117 ?h118 ?h119 ?h120 ?h121 ?h122 ?h123 ?h124 ?h125 ?h126 ?h127 ?h128 ?h129 ?h130 ?h131 ?h132 ?h133 ?h134 ?h135 ?h136 ?h137 ?h138 ?h139 ?h140 ?h141 ?h142 ?h143 ?h144 ?h145 ?h146 ?h147 ?h148 ?h149 ?h150 ?h151 ?h152 ?h153 ?h154 ?h155 ?h156 ?h157 ?h158 ?h159 ?h160 ?h161 ?h162 ?h163 ?h164 ?h165 ?h166 ?h167 ?h168 ?h169
    (case h0 => k_is)
    (case h1 => k_is)
    (case h2 => k_is)
    (case h3 => k_is)
    (case h4 => k_is)
    (case h5 => k_is)
    (case h6 => k_is)
    (case h7 => k_is)
    (case h8 => k_is)
    (case h9 => k_is)
    (case h10 => k_is)
    (case h11 => k_is)
    (case h12 => k_is)
    (case h13 => k_is)
    (case h14 => k_is)
    (case h15 => k_is)
    (case h16 => k_is)
    (case h17 => k_is)
    (case h18 => k_is)
    (case h19 => k_is)
    (case h20 => k_is)
    (case h21 => k_is)
    (case h22 => k_is)
    (case h23 => k_is)
    (case h24 => k_is)
    (case h25 => k_is)
    (case h26 => k_is)
    (case h27 => k_is)
    (case h28 => k_is)
    (case h29 => k_is)
    (case h30 => k_is)
    (case h31 => k_is)
    (case h32 => k_is)
    (case h33 => k_is)
    (case h34 => k_is)
    (case h35 => k_is)
    (case h36 => k_is)
    (case h37 => k_is)
    (case h38 => k_is)
    (case h39 => k_is)
    (case h40 => k_is)
    (case h41 => k_is)
    (case h42 => k_is)
    (case h43 => k_is)
    (case h44 => k_is)
    (case h45 => k_is)
    (case h46 => k_is)
    (case h47 => k_is)
    (case h48 => k_is)
    (case h49 => k_is)
    (case h50 => k_is)
    (case h51 => k_is)
    (case h52 => k_is)
    (case h53 => k_is)
    (case h54 => k_is)
    (case h55 => k_is)
    (case h56 => k_is)
    (case h57 => k_is)
    (case h58 => k_is)
    (case h59 => k_is)
    (case h60 => k_is)
    (case h61 => k_is)
    (case h62 => k_is)
    (case h63 => k_is)
    (case h64 => k_is)
    (case h65 => k_is)
    (case h66 => k_is)
    (case h67 => k_is)
    (case h68 => k_is)
    (case h69 => k_is)
    (case h70 => k_is)
    (case h71 => k_is)
    (case h72 => k_is)
    (case h73 => k_is)
    (case h74 => k_is)
    (case h75 => k_is)
    (case h76 => k_is)
    (case h77 => k_is)
    (case h78 => k_is)
    (case h79 => k_is)
    (case h80 => k_is)
    (case h81 => k_is)
    (case h82 => k_is)
    (case h83 => k_is)
    (case h84 => k_is)
    (case h85 => k_is)
    (case h86 => k_is)
    (case h87 => k_is)
    (case h88 => k_is)
    (case h89 => k_is)
    (case h90 => k_is)
    (case h91 => k_is)
    (case h92 => k_is)
    (case h93 => k_is)
    (case h94 => k_is)
    (case h95 => k_is)
    (case h96 => k_is)
    (case h97 => k_is)
    (case h98 => k_is)
    (case h99 => k_is)
    (case h100 => k_is)
    (case h101 => k_is)
    (case h102 => k_is)
    (case h103 => k_is)
    (case h104 => k_is)
    (case h105 => k_is)
    (case h106 => k_is)
    (case h107 => k_is)
    (case h108 => k_is)
    (case h109 => k_is)
    (case h110 => k_is)
    (case h111 => k_is)
    (case h112 => k_is)
    (case h113 => k_is)
    (case h114 => k_is)
    (case h115 => k_is)
    (case h116 => k_is)
    (case h117 => k_is)
    (case h118 => k_is)
    (case h119 => k_is)
    (case h120 => k_is)
    (case h121 => k_is)
    (case h122 => k_is)
    (case h123 => k_is)
    (case h124 => k_is)
    (case h125 => k_is)
    (case h126 => k_is)
    (case h127 => k_is)
    (case h128 => k_is)
    (case h129 => k_is)
    (case h130 => k_is)
    (case h131 => k_is)
    (case h132 => k_is)
    (case h133 => k_is)
    (case h134 => k_is)
    (case h135 => k_is)
    (case h136 => k_is)
    (case h137 => k_is)
    (case h138 => k_is)
    (case h139 => k_is)
    (case h140 => k_is)
    (case h141 => k_is)
    (case h142 => k_is)
    (case h143 => k_is)
    (case h144 => k_is)
    (case h145 => k_is)
    (case h146 => k_is)
    (case h147 => k_is)
    (case h148 => k_is)
    (case h149 => k_is)
    (case h150 => k_is)
    (case h151 => k_is)
    (case h152 => k_is)
    (case h153 => k_is)
    (case h154 => k_is)
    (case h155 => k_is)
    (case h156 => k_is)
    (case h157 => k_is)
    (case h158 => k_is)
    (case h159 => k_is)
    (case h160 => k_is)
    (case h161 => k_is)
    (case h162 => k_is)
    (case h163 => k_is)
    (case h164 => k_is)
    (case h165 => k_is)
    (case h166 => k_is)
    (case h167 => k_is)
    (case h168 => k_is)
    (case h169 => k_is)
